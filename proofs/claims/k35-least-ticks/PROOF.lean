import PyProof.Rows.All
import Wide.All
import OpenK.AllK
import Wide.FinOn
import HandS.ForMost
import HandS.Defaults
import HandS.Wide
import HandS.Gcd
import HandS.Zip
import HandS.TupAny
import HandS.Style
import HandS.Flow
import HandS.IsInst
import HandS.RaiseMore
import KE.KStateDown
import HandS.WordsExc
import PySem.Challenge.RW_lampsaloft_k35_whole_least_ticks
import KE.GoesEnum
import HandS.Lambda
import HandS.More
import KE.KDictZip
import HandS.Conv
import HandS.MapObj
import KE.GoesMore
import KE.GoesZip
import HandS.EndTab
import HandS.HeadHook4
import HandS.Head0
import HandS.Head1
import HandS.Head2
import HandS.Head3
import HandS.HeadWalk
section
namespace LL
structure Leg where
  x : Int
  y : Int
  u : Int
  v : Int
def plx (l : Leg) (s : Rat) : Rat := (l.x : Rat) + s * ((l.u - l.x : Int) : Rat)
def ply (l : Leg) (s : Rat) : Rat := (l.y : Rat) + s * ((l.v - l.y : Int) : Rat)
def gx (a b : Leg) (s t : Rat) : Rat := plx b t - plx a s
def gy (a b : Leg) (s t : Rat) : Rat := ply b t - ply a s
def ff (a b : Leg) (s t : Rat) : Rat := gx a b s t * gx a b s t + gy a b s t * gy a b s t
structure Dm (r s t : Rat) : Prop where
  s0 : 0 ≤ s
  s1 : s ≤ 1
  t0 : 0 ≤ t
  t1 : t ≤ 1
  st : s - t ≤ r
  ts : t - s ≤ r
structure IsMin (a b : Leg) (r q : Rat) : Prop where
  at_ : ∃ s t, Dm r s t ∧ ff a b s t = q
  le : ∀ s t, Dm r s t → q ≤ ff a b s t
theorem IsMin.uniq {a b : Leg} {r p q : Rat} (h : IsMin a b r p) (k : IsMin a b r q) : p = q := by
  obtain ⟨s, t, d, e⟩ := h.at_
  obtain ⟨s', t', d', e'⟩ := k.at_
  have h1 := h.le _ _ d'
  have h2 := k.le _ _ d
  grind
theorem IsMin.anti {a b : Leg} {r r' p q : Rat} (h : IsMin a b r p) (k : IsMin a b r' q) (hr : r ≤ r') : q ≤ p := by
  obtain ⟨s, t, d, e⟩ := h.at_
  have := k.le s t ⟨d.s0, d.s1, d.t0, d.t1, by have := d.st; grind, by have := d.ts; grind⟩
  grind
theorem sq_nonneg (x : Rat) : 0 ≤ x * x := by
  rcases Rat.le_total (a := 0) (b := x) with h | h
  · exact Rat.mul_nonneg h h
  · have h2 : 0 ≤ -x := by grind
    have := Rat.mul_nonneg h2 h2
    grind
theorem ff_nonneg (a b : Leg) (s t : Rat) : 0 ≤ ff a b s t := by
  have h1 := sq_nonneg (gx a b s t)
  have h2 := sq_nonneg (gy a b s t)
  unfold ff
  grind
/-- the least of a square on a stretch -/
def clip (A B : Rat) : Rat := if A = 0 then 0 else if -B / A ≤ 0 then 0 else if 1 ≤ -B / A then 1 else -B / A
theorem clip_in (A B : Rat) : 0 ≤ clip A B ∧ clip A B ≤ 1 := by
  unfold clip
  split
  · grind
  · split
    · grind
    · split <;> grind
theorem sq_zero {x : Rat} (h : x * x = 0) : x = 0 := by
  rcases Rat.mul_eq_zero.mp h with h | h <;> exact h
theorem sum_zero {x y : Rat} (h : x * x + y * y = 0) : x = 0 ∧ y = 0 := by
  have h1 := sq_nonneg x
  have h2 := sq_nonneg y
  exact ⟨sq_zero (by grind), sq_zero (by grind)⟩
theorem quad_eq (bx by_ ax ay m : Rat) : (bx + m * ax) * (bx + m * ax) + (by_ + m * ay) * (by_ + m * ay) = (bx * bx + by_ * by_) + 2 * m * (bx * ax + by_ * ay) + m * m * (ax * ax + ay * ay) := by
  grind
theorem clip_quad (C A B l : Rat) (hA0 : 0 ≤ A) (hz0 : A = 0 → B = 0) (h0 : 0 ≤ l) (h1 : l ≤ 1) : C + 2 * clip A B * B + clip A B * clip A B * A ≤ C + 2 * l * B + l * l * A := by
  unfold clip
  split
  · rename_i hz
    have := hz0 hz
    subst hz
    subst this
    grind
  · rename_i hz
    have hm : -B / A * A = -B := Rat.div_mul_cancel hz
    generalize -B / A = c at *
    have e : B = -(c * A) := by grind
    subst e
    clear hm hz0
    split
    · rename_i hc
      have h2 : 0 ≤ l * (-c * A) := Rat.mul_nonneg h0 (Rat.mul_nonneg (by grind) hA0)
      have h3 : 0 ≤ l * l * A := Rat.mul_nonneg (sq_nonneg l) hA0
      grind
    · split
      · rename_i hc
        have h2 : 0 ≤ (c - 1) * A := Rat.mul_nonneg (by grind) hA0
        have h3 : 0 ≤ (1 - l) * A := Rat.mul_nonneg (by grind) hA0
        have h4 : 0 ≤ (1 - l) * (2 * ((c - 1) * A) + (1 - l) * A) := Rat.mul_nonneg (by grind) (by grind)
        grind
      · have h2 : 0 ≤ (l - c) * (l - c) * A := Rat.mul_nonneg (sq_nonneg _) hA0
        grind
theorem clip_min (bx by_ ax ay l : Rat) (h0 : 0 ≤ l) (h1 : l ≤ 1) :
    (bx + clip (ax * ax + ay * ay) (bx * ax + by_ * ay) * ax) * (bx + clip (ax * ax + ay * ay) (bx * ax + by_ * ay) * ax) +
      (by_ + clip (ax * ax + ay * ay) (bx * ax + by_ * ay) * ay) * (by_ + clip (ax * ax + ay * ay) (bx * ax + by_ * ay) * ay) ≤
    (bx + l * ax) * (bx + l * ax) + (by_ + l * ay) * (by_ + l * ay) := by
  rw [quad_eq, quad_eq]
  refine clip_quad _ _ _ l ?_ (fun h => ?_) h0 h1
  · have h1 := sq_nonneg ax
    have h2 := sq_nonneg ay
    grind
  · obtain ⟨e1, e2⟩ := sum_zero h
    rw [e1, e2]
    grind
theorem gx_aff (a b : Leg) (p1 p2 q1 q2 l : Rat) : gx a b (p1 + l * (q1 - p1)) (p2 + l * (q2 - p2)) = gx a b p1 p2 + l * (gx a b q1 q2 - gx a b p1 p2) := by
  unfold gx plx
  grind
theorem gy_aff (a b : Leg) (p1 p2 q1 q2 l : Rat) : gy a b (p1 + l * (q1 - p1)) (p2 + l * (q2 - p2)) = gy a b p1 p2 + l * (gy a b q1 q2 - gy a b p1 p2) := by
  unfold gy ply
  grind
/-- the part of an edge at which two legs are nearest -/
def shareOf (a b : Leg) (p q : Rat × Rat) : Rat :=
  clip ((gx a b q.1 q.2 - gx a b p.1 p.2) * (gx a b q.1 q.2 - gx a b p.1 p.2) + (gy a b q.1 q.2 - gy a b p.1 p.2) * (gy a b q.1 q.2 - gy a b p.1 p.2))
    (gx a b p.1 p.2 * (gx a b q.1 q.2 - gx a b p.1 p.2) + gy a b p.1 p.2 * (gy a b q.1 q.2 - gy a b p.1 p.2))
def onE (p q : Rat × Rat) (l : Rat) : Rat × Rat := (p.1 + l * (q.1 - p.1), p.2 + l * (q.2 - p.2))
def edgeV (a b : Leg) (p q : Rat × Rat) : Rat := ff a b (onE p q (shareOf a b p q)).1 (onE p q (shareOf a b p q)).2
theorem edge_le (a b : Leg) (p q : Rat × Rat) (l : Rat) (h0 : 0 ≤ l) (h1 : l ≤ 1) : edgeV a b p q ≤ ff a b (onE p q l).1 (onE p q l).2 := by
  unfold edgeV ff onE
  simp only
  rw [gx_aff, gy_aff, gx_aff, gy_aff]
  exact clip_min _ _ _ _ l h0 h1
/-- the same at any part that is as good -/
theorem edge_rev (a b : Leg) (p q : Rat × Rat) : edgeV a b q p ≤ edgeV a b p q := by
  have h := clip_in ((gx a b q.1 q.2 - gx a b p.1 p.2) * (gx a b q.1 q.2 - gx a b p.1 p.2) + (gy a b q.1 q.2 - gy a b p.1 p.2) * (gy a b q.1 q.2 - gy a b p.1 p.2))
    (gx a b p.1 p.2 * (gx a b q.1 q.2 - gx a b p.1 p.2) + gy a b p.1 p.2 * (gy a b q.1 q.2 - gy a b p.1 p.2))
  have k := edge_le a b q p (1 - shareOf a b p q) (by unfold shareOf; grind) (by unfold shareOf; grind)
  have e1 : (onE q p (1 - shareOf a b p q)) = onE p q (shareOf a b p q) := by
    unfold onE
    ext <;> simp only <;> grind
  rw [e1] at k
  exact k
theorem exit (hs : List (Rat × Rat)) (m1 : Rat) (hm : 0 ≤ m1) (h0 : ∀ p ∈ hs, 0 ≤ p.1) (h1 : ∃ p ∈ hs, p.1 + p.2 * m1 < 0) :
    ∃ m, 0 ≤ m ∧ m ≤ m1 ∧ (∀ p ∈ hs, 0 ≤ p.1 + p.2 * m) ∧ ∃ p ∈ hs, p.1 + p.2 * m = 0 := by
  induction hs with
  | nil =>
    obtain ⟨p, hp, _⟩ := h1
    cases hp
  | cons p r ih =>
    have hp0 : 0 ≤ p.1 := h0 p List.mem_cons_self
    have hr0 : ∀ q ∈ r, 0 ≤ q.1 := fun q hq => h0 q (List.mem_cons_of_mem _ hq)
    -- p's own end
    have own : ∀ m, 0 ≤ m → m ≤ m1 → p.1 + p.2 * m < 0 → (∀ q ∈ r, 0 ≤ q.1 + q.2 * m) → ∃ m', 0 ≤ m' ∧ m' ≤ m1 ∧ (∀ q ∈ p :: r, 0 ≤ q.1 + q.2 * m') ∧ ∃ q ∈ p :: r, q.1 + q.2 * m' = 0 := by
      intro m hm0 hm1 hneg hall
      have hmp : 0 < m := by
        rcases Rat.le_iff_lt_or_eq.mp hm0 with h | h
        · exact h
        · subst h
          grind
      have hd : p.1 + p.2 * m - p.1 < 0 := by grind
      -- the fraction c = p.1 / (p.1 - (p.1 + p.2 m)) in [0,1)
      have hden : 0 < -(p.2 * m) := by grind
      have hne : -(p.2 * m) ≠ 0 := by grind
      have hc : p.1 / (-(p.2 * m)) * (-(p.2 * m)) = p.1 := Rat.div_mul_cancel hne
      generalize p.1 / (-(p.2 * m)) = c at hc
      have c0 : 0 ≤ c := by
        rcases Rat.le_total (a := 0) (b := c) with h | h
        · exact h
        · have : 0 ≤ (-c) * (-(p.2 * m)) := Rat.mul_nonneg (by grind) (by grind)
          have h2 : c * (-(p.2 * m)) = 0 := by grind
          rcases Rat.mul_eq_zero.mp h2 with h3 | h3 <;> grind
      have c1 : c ≤ 1 := by
        rcases Rat.le_total (a := c) (b := 1) with h | h
        · exact h
        · have : 0 ≤ (c - 1) * (-(p.2 * m)) := Rat.mul_nonneg (by grind) (by grind)
          grind
      have cm : 0 ≤ (1 - c) * m := Rat.mul_nonneg (by grind) hm0
      refine ⟨c * m, Rat.mul_nonneg c0 hm0, by grind, fun q hq => ?_, p, List.mem_cons_self, by grind⟩
      rcases List.mem_cons.mp hq with e | e
      · subst e
        grind
      · have k1 := hall q e
        have k0 := hr0 q e
        have : 0 ≤ c * (q.1 + q.2 * m) := Rat.mul_nonneg c0 k1
        have : 0 ≤ (1 - c) * q.1 := Rat.mul_nonneg (by grind) k0
        grind
    by_cases hv : ∃ q ∈ r, q.1 + q.2 * m1 < 0
    · obtain ⟨m, a0, a1, a2, q, hq, a3⟩ := ih hr0 hv
      by_cases hp : p.1 + p.2 * m < 0
      · exact own m a0 a1 hp a2
      · refine ⟨m, a0, a1, fun q' hq' => ?_, q, List.mem_cons_of_mem _ hq, a3⟩
        rcases List.mem_cons.mp hq' with e | e
        · subst e
          grind
        · exact a2 q' e
    · have hall : ∀ q ∈ r, 0 ≤ q.1 + q.2 * m1 := fun q hq => by
        by_cases h : q.1 + q.2 * m1 < 0
        · exact absurd ⟨q, hq, h⟩ hv
        · grind
      obtain ⟨q, hq, hn⟩ := h1
      rcases List.mem_cons.mp hq with e | e
      · subst e
        exact own m1 hm (by grind) hn hall
      · exact absurd ⟨q, e, hn⟩ hv
structure OnB (r s t : Rat) : Prop where
  d : Dm r s t
  b : s = 0 ∨ s = 1 ∨ t = 0 ∨ t = 1 ∨ s - t = r ∨ t - s = r
theorem reach {r s t ds dt : Rat} (h : Dm r s t) (h1 : ¬ Dm r (s + ds) (t + dt)) : ∃ m, 0 ≤ m ∧ m ≤ 1 ∧ OnB r (s + m * ds) (t + m * dt) := by
  have hh := exit [(s, ds), (1 - s, -ds), (t, dt), (1 - t, -dt), (r - s + t, dt - ds), (r - t + s, ds - dt)] 1 (by grind) (by
    intro p hp
    have := h.s0; have := h.s1; have := h.t0; have := h.t1; have := h.st; have := h.ts
    simp only [List.mem_cons, List.not_mem_nil, or_false] at hp
    rcases hp with e | e | e | e | e | e <;> subst e <;> simp only <;> grind) (by
    apply Classical.byContradiction
    intro hn
    apply h1
    have k : ∀ p ∈ [(s, ds), (1 - s, -ds), (t, dt), (1 - t, -dt), (r - s + t, dt - ds), (r - t + s, ds - dt)], 0 ≤ p.1 + p.2 * 1 := fun p hp => by
      by_cases h : p.1 + p.2 * 1 < 0
      · exact absurd ⟨p, hp, h⟩ hn
      · grind
    simp only [List.forall_mem_cons] at k
    obtain ⟨k1, k2, k3, k4, k5, k6, _⟩ := k
    constructor <;> grind)
  obtain ⟨m, m0, m1, hall, hz⟩ := hh
  simp only [List.forall_mem_cons] at hall
  obtain ⟨k1, k2, k3, k4, k5, k6, _⟩ := hall
  refine ⟨m, m0, m1, ⟨by grind, by grind, by grind, by grind, by grind, by grind⟩, ?_⟩
  obtain ⟨p, hp, e0⟩ := hz
  simp only [List.mem_cons, List.not_mem_nil, or_false] at hp
  rcases hp with e | e | e | e | e | e <;> subst e <;> simp only at e0
  · exact .inl (by grind)
  · exact .inr (.inl (by grind))
  · exact .inr (.inr (.inl (by grind)))
  · exact .inr (.inr (.inr (.inl (by grind))))
  · exact .inr (.inr (.inr (.inr (.inl (by grind)))))
  · exact .inr (.inr (.inr (.inr (.inr (by grind)))))
def edges (r : Rat) : List ((Rat × Rat) × (Rat × Rat)) :=
  [((0, 0), (0, r)), ((0, r), (1 - r, 1)), ((1 - r, 1), (1, 1)), ((1, 1), (1, 1 - r)), ((1, 1 - r), (r, 0)), ((r, 0), (0, 0))]
/-- where a number stands between two -/
theorem between {p q s : Rat} (h : (p ≤ s ∧ s ≤ q) ∨ (q ≤ s ∧ s ≤ p)) : ∃ l, 0 ≤ l ∧ l ≤ 1 ∧ s = p + l * (q - p) := by
  by_cases e : q = p
  · exact ⟨0, by grind, by grind, by grind⟩
  · have hne : q - p ≠ 0 := by grind
    have hc : (s - p) / (q - p) * (q - p) = s - p := Rat.div_mul_cancel hne
    generalize (s - p) / (q - p) = c at hc
    have sg : ∀ {x y : Rat}, 0 < y → 0 ≤ x * y → 0 ≤ x := fun {x y} hy h => by
      rcases Rat.le_total (a := 0) (b := x) with h' | h'
      · exact h'
      · have : 0 ≤ (-x) * y := Rat.mul_nonneg (by grind) (by grind)
        have h2 : x * y = 0 := by grind
        rcases Rat.mul_eq_zero.mp h2 with h3 | h3 <;> grind
    rcases h with ⟨h1, h2⟩ | ⟨h1, h2⟩
    · have hy : 0 < q - p := by grind
      exact ⟨c, sg hy (by grind), by have := sg (x := 1 - c) hy (by grind); grind, by grind⟩
    · have hy : 0 < p - q := by grind
      exact ⟨c, sg hy (by grind), by have := sg (x := 1 - c) hy (by grind); grind, by grind⟩
theorem onB_edge {r s t : Rat} (h0 : 0 ≤ r) (h1 : r ≤ 1) (h : OnB r s t) : ∃ e ∈ edges r, ∃ l, 0 ≤ l ∧ l ≤ 1 ∧ onE e.1 e.2 l = (s, t) := by
  obtain ⟨⟨a, b, c, d, e, f⟩, k⟩ := h
  unfold edges
  rcases k with k | k | k | k | k | k
  · obtain ⟨l, l0, l1, el⟩ := between (p := 0) (q := r) (s := t) (.inl (by grind))
    refine ⟨((0, 0), (0, r)), by simp, l, l0, l1, ?_⟩
    unfold onE; ext <;> simp only <;> grind
  · obtain ⟨l, l0, l1, el⟩ := between (p := 1) (q := 1 - r) (s := t) (.inr (by grind))
    refine ⟨((1, 1), (1, 1 - r)), by simp, l, l0, l1, ?_⟩
    unfold onE; ext <;> simp only <;> grind
  · obtain ⟨l, l0, l1, el⟩ := between (p := r) (q := 0) (s := s) (.inr (by grind))
    refine ⟨((r, 0), (0, 0)), by simp, l, l0, l1, ?_⟩
    unfold onE; ext <;> simp only <;> grind
  · obtain ⟨l, l0, l1, el⟩ := between (p := 1 - r) (q := 1) (s := s) (.inl (by grind))
    refine ⟨((1 - r, 1), (1, 1)), by simp, l, l0, l1, ?_⟩
    unfold onE; ext <;> simp only <;> grind
  · obtain ⟨l, l0, l1, el⟩ := between (p := 1) (q := r) (s := s) (.inr (by grind))
    refine ⟨((1, 1 - r), (r, 0)), by simp, l, l0, l1, ?_⟩
    unfold onE; ext <;> simp only <;> grind
  · obtain ⟨l, l0, l1, el⟩ := between (p := 0) (q := 1 - r) (s := s) (.inl (by grind))
    refine ⟨((0, r), (1 - r, 1)), by simp, l, l0, l1, ?_⟩
    unfold onE; ext <;> simp only <;> grind
end LL
end
section
namespace LL
def Sz (q : Rat) : Prop := q.num.natAbs < 2 ^ 4000 ∧ q.den < 2 ^ 4000
theorem gcd_pos {n d : Int} (h : d ≠ 0) : 0 < Nat.gcd n.natAbs d.natAbs := Nat.gcd_pos_of_pos_right _ (by omega)
/-- the divisor of a fraction's parts -/
def comm (n d : Int) : Int := if 0 < d then ((Nat.gcd n.natAbs d.natAbs : Nat) : Int) else -((Nat.gcd n.natAbs d.natAbs : Nat) : Int)
theorem comm_ne {n d : Int} (h : d ≠ 0) : comm n d ≠ 0 := by
  have := gcd_pos (n := n) h
  unfold comm
  split <;> omega
theorem comm_le {n d : Int} (h : d ≠ 0) : (comm n d).natAbs ≤ d.natAbs := by
  have h1 : Nat.gcd n.natAbs d.natAbs ≤ d.natAbs := Nat.le_of_dvd (by omega) (Nat.gcd_dvd_right _ _)
  unfold comm
  split <;> omega
theorem fdiv_exact {a b c : Int} (hc : c ≠ 0) (h : a = b * c) : a.fdiv c = b := by
  subst h
  exact Int.mul_fdiv_cancel b hc
theorem comm_num {n d : Int} (h : d ≠ 0) : n.fdiv (comm n d) = (Rat.divInt n d).num := by
  have hg := gcd_pos (n := n) h
  obtain ⟨k, hk⟩ : ((Nat.gcd n.natAbs d.natAbs : Nat) : Int) ∣ n := Int.ofNat_dvd_left.mpr (Nat.gcd_dvd_left _ _)
  have e : (Rat.divInt n d).num = d.sign * k := by
    rw [Rat.num_divInt]
    have e1 : ((d.gcd n : Nat) : Int) = ((Nat.gcd n.natAbs d.natAbs : Nat) : Int) := by
      show ((Nat.gcd d.natAbs n.natAbs : Nat) : Int) = _
      rw [Nat.gcd_comm]
    rw [e1]
    generalize hG : Nat.gcd n.natAbs d.natAbs = g at *
    rw [hk, show d.sign * ((g : Int) * k) = d.sign * k * (g : Int) by rw [Int.mul_comm (g : Int) k, Int.mul_assoc]]
    exact Int.mul_ediv_cancel _ (by omega)
  rw [e]
  refine fdiv_exact (comm_ne h) ?_
  unfold comm
  generalize ((Nat.gcd n.natAbs d.natAbs : Nat) : Int) = g at *
  split
  · rename_i hp
    rw [Int.sign_eq_one_of_pos hp, hk]
    rw [Int.one_mul, Int.mul_comm]
  · rename_i hp
    have hn : d < 0 := by omega
    rw [Int.sign_eq_neg_one_of_neg hn]
    rw [hk, Int.neg_one_mul, Int.neg_mul_neg, Int.mul_comm]
theorem comm_den {n d : Int} (h : d ≠ 0) : d.fdiv (comm n d) = ((Rat.divInt n d).den : Int) := by
  have hg := gcd_pos (n := n) h
  obtain ⟨k, hk⟩ : Nat.gcd n.natAbs d.natAbs ∣ d.natAbs := Nat.gcd_dvd_right _ _
  have e : (Rat.divInt n d).den = k := by
    rw [Rat.den_divInt, if_neg h]
    have e1 : d.gcd n = Nat.gcd n.natAbs d.natAbs := Nat.gcd_comm _ _
    rw [e1]
    generalize Nat.gcd n.natAbs d.natAbs = g at *
    rw [hk]
    exact Nat.mul_div_cancel_left _ hg
  rw [e]
  refine fdiv_exact (comm_ne h) ?_
  unfold comm
  generalize Nat.gcd n.natAbs d.natAbs = g at *
  have hk' : (d.natAbs : Int) = (k : Int) * (g : Int) := by rw [hk, Int.natCast_mul, Int.mul_comm]
  split
  · rename_i hp
    omega
  · rename_i hp
    rw [Int.mul_neg, ← hk']
    omega
theorem den_pos (q : Rat) : (0 : Int) < q.den := by
  have := q.den_pos
  omega
theorem den_ne (q : Rat) : (q.den : Int) ≠ 0 := by
  have := q.den_pos
  omega
theorem add_eq (x y : Rat) : Rat.divInt (x.num * y.den + y.num * x.den) (x.den * y.den) = x + y := by
  rw [Rat.add_def', ← Int.natCast_mul, Rat.divInt_ofNat]
theorem sub_eq (x y : Rat) : Rat.divInt (x.num * y.den - y.num * x.den) (x.den * y.den) = x - y := by
  rw [Rat.sub_def', ← Int.natCast_mul, Rat.divInt_ofNat]
theorem mul_eq (x y : Rat) : Rat.divInt (x.num * y.num) (x.den * y.den) = x * y := by
  rw [Rat.mul_def', ← Int.natCast_mul, Rat.divInt_ofNat]
theorem div_eq (x y : Rat) : Rat.divInt (x.num * y.den) (x.den * y.num) = x / y := by
  have e1 := Rat.num_divInt_den x
  have e2 : Rat.divInt (y.den : Int) y.num = y⁻¹ := (Rat.inv_def y).symm
  rw [← Rat.divInt_mul_divInt, e1, e2]
  rfl
theorem natAbs_le_two {a b : Int} {n : Nat} (ha : a.natAbs < 2 ^ n) (hb : b.natAbs < 2 ^ n) : (a + b).natAbs < 2 ^ (n + 1) ∧ (a - b).natAbs < 2 ^ (n + 1) := by
  rw [Nat.pow_succ]
  omega
/-- less than, the same, greater -/
def cmp (x y : Rat) : Int := (if y < x then 1 else 0) - (if x < y then 1 else 0)
theorem cmp_lt {x y : Rat} : cmp x y < 0 ↔ x < y := by
  unfold cmp
  split <;> split <;> grind
theorem cmp_gt {x y : Rat} : 0 < cmp x y ↔ y < x := by
  unfold cmp
  split <;> split <;> grind
theorem cmp_le {x y : Rat} : cmp x y ≤ 0 ↔ x ≤ y := by
  unfold cmp
  split <;> split <;> grind
theorem cmp_ge {x y : Rat} : 0 ≤ cmp x y ↔ y ≤ x := by
  unfold cmp
  split <;> split <;> grind
theorem cmp_eq {x y : Rat} : cmp x y = 0 ↔ x = y := by
  unfold cmp
  split <;> split <;> grind
theorem cmp_ne {x y : Rat} : cmp x y ≠ 0 ↔ x ≠ y := not_congr cmp_eq
theorem lt_num {x y : Rat} : x.num * (y.den : Int) < y.num * (x.den : Int) ↔ x < y := (Rat.lt_iff x y).symm
end LL
end
section
set_option linter.all false
set_option exponentiation.threshold 20000
namespace LL
theorem den_dvd_divInt (n : Int) {d : Nat} (h : d ≠ 0) : (Rat.divInt n d).den ∣ d := by
  rw [Rat.den_divInt, if_neg (by omega)]
  show d / _ ∣ d
  exact Nat.div_dvd_of_dvd (by
    show Nat.gcd d n.natAbs ∣ d
    exact Nat.gcd_dvd_left _ _)
/-- over a common divisor D, of at most V -/
structure InD (D V : Nat) (q : Rat) : Prop where
  dv : q.den ∣ D
  lo : -(V : Rat) ≤ q
  hi : q ≤ (V : Rat)
theorem as_over {x : Rat} {D : Nat} (h : x.den ∣ D) (hD : D ≠ 0) : ∃ a : Int, x = Rat.divInt a D := by
  obtain ⟨k, rfl⟩ := h
  refine ⟨x.num * k, ?_⟩
  have hk : (k : Int) ≠ 0 := fun z => hD (by simp [Int.natCast_eq_zero.mp z])
  rw [Int.natCast_mul, Rat.divInt_mul_right hk]
  exact (Rat.num_divInt_den x).symm
theorem dvd_add {x y : Rat} {D : Nat} (hx : x.den ∣ D) (hy : y.den ∣ D) (hD : D ≠ 0) : (x + y).den ∣ D := by
  obtain ⟨a, rfl⟩ := as_over hx hD
  obtain ⟨b, rfl⟩ := as_over hy hD
  have hD' : (D : Int) ≠ 0 := by omega
  have e : Rat.divInt a D + Rat.divInt b D = Rat.divInt (a + b) D := by
    rw [Rat.divInt_add_divInt _ _ hD' hD', ← Int.add_mul, Rat.divInt_mul_right hD']
  rw [e]
  exact den_dvd_divInt _ hD
theorem dvd_neg {x : Rat} {D : Nat} (hx : x.den ∣ D) : (-x).den ∣ D := by
  rw [Rat.neg_den]
  exact hx
theorem dvd_sub {x y : Rat} {D : Nat} (hx : x.den ∣ D) (hy : y.den ∣ D) (hD : D ≠ 0) : (x - y).den ∣ D := by
  rw [Rat.sub_eq_add_neg]
  exact dvd_add hx (dvd_neg hy) hD
theorem dvd_mul {x y : Rat} {D E : Nat} (hx : x.den ∣ D) (hy : y.den ∣ E) : (x * y).den ∣ D * E := by
  rw [← mul_eq]
  have h : (Rat.divInt (x.num * y.num) ((x.den : Int) * (y.den : Int))).den ∣ x.den * y.den := by
    rw [← Int.natCast_mul]
    exact den_dvd_divInt _ (Nat.mul_ne_zero x.den_nz y.den_nz)
  exact Nat.dvd_trans h (Nat.mul_dvd_mul hx hy)
theorem inD_int {D V : Nat} (i : Int) (h : i.natAbs ≤ V) : InD D V (i : Rat) := by
  refine ⟨Nat.one_dvd _, ?_, ?_⟩
  · have : -(V : Int) ≤ i := by omega
    have h := Rat.intCast_le_intCast.mpr this
    rw [Rat.intCast_neg] at h
    exact h
  · have : i ≤ (V : Int) := by omega
    exact Rat.intCast_le_intCast.mpr this
theorem InD.add {D V V' : Nat} {x y : Rat} (hx : InD D V x) (hy : InD D V' y) (hD : D ≠ 0) : InD D (V + V') (x + y) := by
  refine ⟨dvd_add hx.dv hy.dv hD, ?_, ?_⟩ <;> (have := hx.lo; have := hx.hi; have := hy.lo; have := hy.hi; rw [Rat.natCast_add]; grind)
theorem InD.sub {D V V' : Nat} {x y : Rat} (hx : InD D V x) (hy : InD D V' y) (hD : D ≠ 0) : InD D (V + V') (x - y) := by
  refine ⟨dvd_sub hx.dv hy.dv hD, ?_, ?_⟩ <;> (have := hx.lo; have := hx.hi; have := hy.lo; have := hy.hi; rw [Rat.natCast_add]; grind)
theorem mul_bnd {x y a b : Rat} (h1 : -a ≤ x) (h2 : x ≤ a) (h3 : -b ≤ y) (h4 : y ≤ b) : -(a * b) ≤ x * y ∧ x * y ≤ a * b := by
  have p1 := Rat.mul_nonneg (show 0 ≤ a - x by grind) (show 0 ≤ b - y by grind)
  have p2 := Rat.mul_nonneg (show 0 ≤ a + x by grind) (show 0 ≤ b + y by grind)
  have p3 := Rat.mul_nonneg (show 0 ≤ a - x by grind) (show 0 ≤ b + y by grind)
  have p4 := Rat.mul_nonneg (show 0 ≤ a + x by grind) (show 0 ≤ b - y by grind)
  constructor <;> grind
theorem InD.mul {D E V V' : Nat} {x y : Rat} (hx : InD D V x) (hy : InD E V' y) : InD (D * E) (V * V') (x * y) := by
  obtain ⟨h1, h2⟩ := mul_bnd hx.lo hx.hi hy.lo hy.hi
  exact ⟨dvd_mul hx.dv hy.dv, by rw [Rat.natCast_mul]; exact h1, by rw [Rat.natCast_mul]; exact h2⟩
theorem InD.mono {D V V' : Nat} {x : Rat} (h : InD D V x) (hv : V ≤ V') : InD D V' x := by
  have : (V : Rat) ≤ (V' : Rat) := Rat.natCast_le_natCast.mpr hv
  exact ⟨h.dv, by have := h.lo; grind, by have := h.hi; grind⟩
theorem InD.den_le {D V : Nat} {x : Rat} (h : InD D V x) (hD : D ≠ 0) : x.den ≤ D := Nat.le_of_dvd (by omega) h.dv
theorem InD.num_le {D V : Nat} {x : Rat} (h : InD D V x) : x.num.natAbs ≤ V * x.den := by
  have h1 := (Rat.le_iff _ _).mp h.lo
  have h2 := (Rat.le_iff _ _).mp h.hi
  have e1 : (-(V : Rat)).num = -(V : Int) := rfl
  have e2 : (-(V : Rat)).den = 1 := rfl
  have e3 : (V : Rat).num = (V : Int) := rfl
  have e4 : (V : Rat).den = 1 := rfl
  rw [e1, e2] at h1
  rw [e3, e4] at h2
  have e5 : ((V * x.den : Nat) : Int) = (V : Int) * (x.den : Int) := Int.natCast_mul _ _
  rw [Int.neg_mul] at h1
  generalize (V : Int) * (x.den : Int) = m at *
  omega
theorem InD.sz {D V : Nat} {x : Rat} {a b c : Nat} (h : InD D V x) (hD : D ≠ 0) (ha : D < 2 ^ a) (hb : V ≤ 2 ^ b) (hc : a + b ≤ c) : x.num.natAbs < 2 ^ c ∧ x.den < 2 ^ c := by
  have h1 := h.num_le
  have h2 := h.den_le hD
  have h3 : V * x.den < 2 ^ b * 2 ^ a := Nat.lt_of_le_of_lt (Nat.mul_le_mul hb h2) (Nat.mul_lt_mul_of_pos_left ha (Nat.two_pow_pos b))
  rw [← Nat.pow_add] at h3
  have h4 : 2 ^ (b + a) ≤ 2 ^ c := Nat.pow_le_pow_right (by decide) (by omega)
  have h5 : 2 ^ a ≤ 2 ^ c := Nat.pow_le_pow_right (by decide) (by omega)
  exact ⟨by omega, by omega⟩
theorem InD.Sz {D V : Nat} {x : Rat} {a b : Nat} (h : InD D V x) (hD : D ≠ 0) (ha : D < 2 ^ a) (hb : V ≤ 2 ^ b) (hc : a + b ≤ 4000) : Sz x := h.sz hD ha hb hc
/-- a part: from 0 to 1, over D -/
structure Part (D : Nat) (s : Rat) : Prop where
  dv : s.den ∣ D
  lo : 0 ≤ s
  hi : s ≤ 1
theorem Part.inD {D : Nat} {s : Rat} (h : Part D s) : InD D 1 s := ⟨h.dv, by have := h.lo; grind, by have := h.hi; grind⟩
/-- the ends of a leg are small -/
structure LB (l : Leg) : Prop where
  x : l.x.natAbs ≤ 8192
  y : l.y.natAbs ≤ 8192
  u : l.u.natAbs ≤ 8192
  v : l.v.natAbs ≤ 8192
theorem mul1 {D V : Nat} {s : Rat} (hs : Part D s) (i : Int) (h : i.natAbs ≤ V) : InD D V (s * (i : Rat)) := by
  have q := hs.inD.mul (inD_int (D := 1) i h)
  rw [Nat.mul_one, Nat.one_mul] at q
  exact q
theorem plx_in {l : Leg} {D : Nat} {s : Rat} (b : LB l) (hs : Part D s) (hD : D ≠ 0) : InD D 24576 (plx l s) := by
  have := b.x; have := b.u
  exact (inD_int l.x (V := 8192) b.x).add (mul1 hs (l.u - l.x) (V := 16384) (by omega)) hD
theorem ply_in {l : Leg} {D : Nat} {s : Rat} (b : LB l) (hs : Part D s) (hD : D ≠ 0) : InD D 24576 (ply l s) := by
  have := b.y; have := b.v
  exact (inD_int l.y (V := 8192) b.y).add (mul1 hs (l.v - l.y) (V := 16384) (by omega)) hD
theorem gx_in {a b : Leg} {D : Nat} {s t : Rat} (la : LB a) (lb : LB b) (hs : Part D s) (ht : Part D t) (hD : D ≠ 0) : InD D 49152 (gx a b s t) := (plx_in lb ht hD).sub (plx_in la hs hD) hD
theorem gy_in {a b : Leg} {D : Nat} {s t : Rat} (la : LB a) (lb : LB b) (hs : Part D s) (ht : Part D t) (hD : D ≠ 0) : InD D 49152 (gy a b s t) := (ply_in lb ht hD).sub (ply_in la hs hD) hD
theorem sq_in {D V : Nat} {x y z u : Rat} (hx : InD D V x) (hy : InD D V y) (hz : InD D V z) (hu : InD D V u) (hD : D ≠ 0) : InD (D * D) (V * V + V * V) (x * z + y * u) := (hx.mul hz).add (hy.mul hu) (Nat.mul_ne_zero hD hD)
theorem ff_in {a b : Leg} {D : Nat} {s t : Rat} (la : LB a) (lb : LB b) (hs : Part D s) (ht : Part D t) (hD : D ≠ 0) : InD (D * D) (49152 * 49152 + 49152 * 49152) (ff a b s t) :=
  sq_in (gx_in la lb hs ht hD) (gy_in la lb hs ht hD) (gx_in la lb hs ht hD) (gy_in la lb hs ht hD) hD
theorem Part.sub {D E : Nat} {s : Rat} (h : Part D s) (k : D ∣ E) : Part E s := ⟨Nat.dvd_trans h.dv k, h.lo, h.hi⟩
theorem part0 (D : Nat) : Part D 0 := ⟨Nat.one_dvd _, by decide, by decide⟩
theorem part1 (D : Nat) : Part D 1 := ⟨Nat.one_dvd _, by decide, by decide⟩
theorem part_rest {D : Nat} {r : Rat} (h : Part D r) (hD : D ≠ 0) : Part D (1 - r) := ⟨dvd_sub (Nat.one_dvd _) h.dv hD, by have := h.hi; grind, by have := h.lo; grind⟩
/-- a point of parts -/
structure Pt (D : Nat) (p : Rat × Rat) : Prop where
  s : Part D p.1
  t : Part D p.2
theorem div_den {D V : Nat} {x y : Rat} (hx : InD D V x) (hy : InD D V y) (hy0 : y ≠ 0) (hD : D ≠ 0) : ∃ A : Nat, A ≠ 0 ∧ A ≤ V * D ∧ (x / y).den ∣ A := by
  obtain ⟨a, ha⟩ := as_over hx.dv hD
  obtain ⟨k, hk⟩ := hy.dv
  have hk0 : k ≠ 0 := fun z => hD (by rw [hk, z, Nat.mul_zero])
  have hn : y.num ≠ 0 := fun z => hy0 (Rat.num_eq_zero.mp z)
  refine ⟨y.num.natAbs * k, Nat.mul_ne_zero (by omega) hk0, ?_, ?_⟩
  · have := hy.num_le
    rw [hk, ← Nat.mul_assoc]
    exact Nat.mul_le_mul_right k this
  · have ey : y = Rat.divInt (y.num * k) D := by
      rw [hk, Int.natCast_mul, Rat.divInt_mul_right (by omega)]
      exact (Rat.num_divInt_den y).symm
    have e : x / y = Rat.divInt a (y.num * k) := by
      have hD' : (D : Int) ≠ 0 := by omega
      have hnk : y.num * (k : Int) ≠ 0 := Int.mul_ne_zero hn (by omega)
      rw [ha]
      conv => lhs; rw [ey]
      rw [Rat.div_def, Rat.inv_divInt, Rat.divInt_mul_divInt, Int.mul_comm a (D : Int), Rat.divInt_mul_left hD']
    rw [e, Rat.den_divInt, if_neg (Int.mul_ne_zero hn (by omega))]
    have e2 : (y.num * (k : Int)).natAbs = y.num.natAbs * k := by rw [Int.natAbs_mul]; rfl
    rw [e2]
    refine Nat.div_dvd_of_dvd ?_
    show Nat.gcd (y.num * (k : Int)).natAbs a.natAbs ∣ _
    rw [e2]
    exact Nat.gcd_dvd_left _ _
/-- the point on an edge -/
theorem onE_pt {D E : Nat} {p q : Rat × Rat} {l : Rat} (hp : Pt D p) (hq : Pt D q) (hl : Part E l) (hD : D ≠ 0) (hE : E ≠ 0) : Pt (D * E) (onE p q l) := by
  have hDE : D * E ≠ 0 := Nat.mul_ne_zero hD hE
  have one : ∀ {a b : Rat}, Part D a → Part D b → Part (D * E) (a + l * (b - a)) := by
    intro a b ha hb
    refine ⟨dvd_add (Nat.dvd_trans ha.dv (Nat.dvd_mul_right _ _)) ?_ hDE, ?_, ?_⟩
    · rw [Nat.mul_comm D E]
      exact dvd_mul hl.dv (dvd_sub hb.dv ha.dv hD)
    · have := hl.lo; have := hl.hi; have := ha.lo; have := hb.lo
      have h1 := Rat.mul_nonneg (show 0 ≤ 1 - l by grind) ha.lo
      have h2 := Rat.mul_nonneg hl.lo hb.lo
      grind
    · have := hl.lo; have := hl.hi
      have h1 := Rat.mul_nonneg (show 0 ≤ 1 - l by grind) (show 0 ≤ 1 - a by have := ha.hi; grind)
      have h2 := Rat.mul_nonneg hl.lo (show 0 ≤ 1 - b by have := hb.hi; grind)
      grind
  exact ⟨one hp.s hq.s, one hp.t hq.t⟩
end LL
end
section
set_option linter.all false
set_option exponentiation.threshold 20000
namespace LL
def ring (r : Rat) : List (Rat × Rat) := [(0, 0), (0, r), (1 - r, 1), (1, 1), (1, 1 - r), (r, 0)]
def ring2 (r : Rat) : List (Rat × Rat) := [(0, r), (1 - r, 1), (1, 1), (1, 1 - r), (r, 0), (0, 0)]
def side (a b : Leg) (p q : Rat × Rat) : Rat × Rat := onE p q (shareOf a b p q)
def sides (a b : Leg) (r : Rat) : List (Rat × Rat) := (List.range 6).map fun i => side a b ((ring r).getD i (0, 0)) ((ring2 r).getD i (0, 0))
/-- where the legs' lines meet -/
def wh (a b : Leg) : Int := (a.u - a.x) * (b.v - b.y) - (a.v - a.y) * (b.u - b.x)
def crS (a b : Leg) : Int := (b.x - a.x) * (b.v - b.y) - (b.y - a.y) * (b.u - b.x)
def crT (a b : Leg) : Int := (b.x - a.x) * (a.v - a.y) - (b.y - a.y) * (a.u - a.x)
def cr (a b : Leg) : Rat × Rat := ((crS a b : Rat) / (wh a b : Rat), (crT a b : Rat) / (wh a b : Rat))
theorem cr_zero {a b : Leg} (h : wh a b ≠ 0) : gx a b (cr a b).1 (cr a b).2 = 0 ∧ gy a b (cr a b).1 (cr a b).2 = 0 := by
  have hw : (wh a b : Rat) ≠ 0 := fun z => h (by exact_mod_cast z)
  have h1 : (cr a b).1 * (wh a b : Rat) = (crS a b : Rat) := Rat.div_mul_cancel hw
  have h2 : (cr a b).2 * (wh a b : Rat) = (crT a b : Rat) := Rat.div_mul_cancel hw
  generalize (cr a b).1 = s at *
  generalize (cr a b).2 = t at *
  have fin : ∀ g : Rat, g * (wh a b : Rat) = 0 → g = 0 := fun g z => by
    rcases Rat.mul_eq_zero.mp z with k | k
    · exact k
    · exact absurd k hw
  unfold gx gy plx ply
  unfold wh crS at h1
  unfold wh crT at h2
  constructor
  · apply fin
    unfold wh
    simp only [Rat.intCast_sub, Rat.intCast_mul] at *
    grind
  · apply fin
    unfold wh
    simp only [Rat.intCast_sub, Rat.intCast_mul] at *
    grind
/-- a direction in which nothing changes -/
theorem flat_dir {a b : Leg} (h : wh a b = 0) : ∃ ds dt : Rat, (ds ≠ 0 ∨ dt ≠ 0) ∧ ∀ s t m : Rat, gx a b (s + m * ds) (t + m * dt) = gx a b s t ∧ gy a b (s + m * ds) (t + m * dt) = gy a b s t := by
  have hq : ((a.u - a.x : Int) : Rat) * ((b.v - b.y : Int) : Rat) - ((a.v - a.y : Int) : Rat) * ((b.u - b.x : Int) : Rat) = 0 := by
    have := congrArg (fun z : Int => (z : Rat)) h
    unfold wh at this
    simp only [Rat.intCast_sub, Rat.intCast_mul] at this ⊢
    exact this
  generalize hm1 : ((a.u - a.x : Int) : Rat) = m1 at *
  generalize hm2 : ((a.v - a.y : Int) : Rat) = m2 at *
  generalize hw1 : ((b.u - b.x : Int) : Rat) = w1 at *
  generalize hw2 : ((b.v - b.y : Int) : Rat) = w2 at *
  by_cases hz : m1 = 0 ∧ m2 = 0
  · refine ⟨1, 0, .inl (by decide), fun s t m => ?_⟩
    unfold gx gy plx ply
    rw [hm1, hm2, hw1, hw2, hz.1, hz.2]
    constructor <;> grind
  · refine ⟨w1 * m1 + w2 * m2, m1 * m1 + m2 * m2, .inr fun z => hz (sum_zero z), fun s t m => ?_⟩
    unfold gx gy plx ply
    rw [hm1, hm2, hw1, hw2]
    constructor <;> grind
theorem out_dm {r s t ds dt : Rat} (h : ds ≠ 0 ∨ dt ≠ 0) (hd : Dm r s t) : ∃ m : Rat, ¬ Dm r (s + m * ds) (t + m * dt) := by
  rcases h with h | h
  · refine ⟨2 / ds, fun z => ?_⟩
    have e : 2 / ds * ds = 2 := Rat.div_mul_cancel h
    have := z.s1; have := hd.s0
    grind
  · refine ⟨2 / dt, fun z => ?_⟩
    have e : 2 / dt * dt = 2 := Rat.div_mul_cancel h
    have := z.t1; have := hd.t0
    grind
theorem ff_scale {a b : Leg} {s t s0 t0 m : Rat} (h0 : gx a b s0 t0 = 0 ∧ gy a b s0 t0 = 0) (m0 : 0 ≤ m) (m1 : m ≤ 1) : ff a b (s + m * (s0 - s)) (t + m * (t0 - t)) ≤ ff a b s t := by
  unfold ff
  rw [gx_aff, gy_aff, h0.1, h0.2]
  have h1 := sq_nonneg (gx a b s t)
  have h2 := sq_nonneg (gy a b s t)
  have h3 := Rat.mul_nonneg (show 0 ≤ m * (2 - m) from Rat.mul_nonneg m0 (by grind)) h1
  have h4 := Rat.mul_nonneg (show 0 ≤ m * (2 - m) from Rat.mul_nonneg m0 (by grind)) h2
  grind
/-- the least lies on an edge, or where the lines meet -/
theorem cover {a b : Leg} {r s t : Rat} (h0 : 0 ≤ r) (h1 : r ≤ 1) (hd : Dm r s t) : (∃ e ∈ edges r, edgeV a b e.1 e.2 ≤ ff a b s t) ∨ (wh a b ≠ 0 ∧ Dm r (cr a b).1 (cr a b).2) := by
  have onb : ∀ s' t', OnB r s' t' → ff a b s' t' ≤ ff a b s t → ∃ e ∈ edges r, edgeV a b e.1 e.2 ≤ ff a b s t := fun s' t' k hle => by
    obtain ⟨e, he, l, l0, l1, el⟩ := onB_edge h0 h1 k
    have q := edge_le a b e.1 e.2 l l0 l1
    rw [el] at q
    exact ⟨e, he, by grind⟩
  by_cases hw : wh a b = 0
  · obtain ⟨ds, dt, hne, hf⟩ := flat_dir hw
    obtain ⟨m, hm⟩ := out_dm hne hd
    obtain ⟨k, k0, k1, hb⟩ := reach hd hm
    refine .inl (onb _ _ hb ?_)
    have e1 : s + k * (m * ds) = s + (k * m) * ds := by grind
    have e2 : t + k * (m * dt) = t + (k * m) * dt := by grind
    rw [e1, e2]
    unfold ff
    rw [(hf s t (k * m)).1, (hf s t (k * m)).2]
    grind
  · by_cases hc : Dm r (cr a b).1 (cr a b).2
    · exact .inr ⟨hw, hc⟩
    · have hz := cr_zero hw
      have hn : ¬ Dm r (s + ((cr a b).1 - s)) (t + ((cr a b).2 - t)) := by
        have e1 : s + ((cr a b).1 - s) = (cr a b).1 := by grind
        have e2 : t + ((cr a b).2 - t) = (cr a b).2 := by grind
        rw [e1, e2]
        exact hc
      obtain ⟨k, k0, k1, hb⟩ := reach hd hn
      exact .inl (onb _ _ hb (ff_scale hz k0 k1))
theorem edges_eq (r : Rat) : edges r = (ring r).zip (ring2 r) := rfl
theorem side_mem {a b : Leg} {r : Rat} {e : (Rat × Rat) × (Rat × Rat)} (h : e ∈ edges r) : side a b e.1 e.2 ∈ sides a b r := by
  unfold edges at h
  unfold sides ring ring2
  simp only [List.mem_cons, List.not_mem_nil, or_false] at h
  rcases h with h | h | h | h | h | h <;> subst h <;> simp [List.range, List.range.loop]
/-- all that is looked at -/
structure Looked (a b : Leg) (r : Rat) (pts : List (Rat × Rat)) : Prop where
  inn : ∀ p ∈ pts, Dm r p.1 p.2
  cov : ∀ s t, Dm r s t → ∃ p ∈ pts, ff a b p.1 p.2 ≤ ff a b s t
theorem Looked.min {a b : Leg} {r : Rat} {pts : List (Rat × Rat)} (h : Looked a b r pts) {p : Rat × Rat} (hp : p ∈ pts) (hm : ∀ q ∈ pts, ff a b p.1 p.2 ≤ ff a b q.1 q.2) : IsMin a b r (ff a b p.1 p.2) :=
  ⟨⟨_, _, h.inn p hp, rfl⟩, fun s t d => by
    obtain ⟨q, hq, k⟩ := h.cov s t d
    have := hm q hq
    grind⟩
theorem Dm.conv {r s t s' t' l : Rat} (h : Dm r s t) (k : Dm r s' t') (l0 : 0 ≤ l) (l1 : l ≤ 1) : Dm r (s + l * (s' - s)) (t + l * (t' - t)) := by
  have c : ∀ {x y : Rat}, 0 ≤ x → 0 ≤ y → 0 ≤ x + l * (y - x) := fun {x y} hx hy => by
    have h1 := Rat.mul_nonneg (show 0 ≤ 1 - l by grind) hx
    have h2 := Rat.mul_nonneg l0 hy
    grind
  have a1 := c h.s0 k.s0
  have a2 := c (show 0 ≤ 1 - s by have := h.s1; grind) (show 0 ≤ 1 - s' by have := k.s1; grind)
  have a3 := c h.t0 k.t0
  have a4 := c (show 0 ≤ 1 - t by have := h.t1; grind) (show 0 ≤ 1 - t' by have := k.t1; grind)
  have a5 := c (show 0 ≤ r - (s - t) by have := h.st; grind) (show 0 ≤ r - (s' - t') by have := k.st; grind)
  have a6 := c (show 0 ≤ r - (t - s) by have := h.ts; grind) (show 0 ≤ r - (t' - s') by have := k.ts; grind)
  constructor <;> grind
theorem ring_dm {r : Rat} (h0 : 0 ≤ r) (h1 : r ≤ 1) : ∀ p ∈ ring r, Dm r p.1 p.2 := by
  intro p hp
  unfold ring at hp
  simp only [List.mem_cons, List.not_mem_nil, or_false] at hp
  rcases hp with h | h | h | h | h | h <;> subst h <;> constructor <;> simp only <;> grind
theorem ring2_mem {r : Rat} : ∀ p ∈ ring2 r, p ∈ ring r := by
  intro p hp
  unfold ring2 at hp
  unfold ring
  simp only [List.mem_cons, List.not_mem_nil, or_false] at hp ⊢
  rcases hp with h | h | h | h | h | h <;> simp [h]
theorem getD_mem {α : Type} {l : List α} {i : Nat} {d : α} (h : i < l.length) : l.getD i d ∈ l := by
  rw [List.getD_eq_getElem?_getD, List.getElem?_eq_getElem h]
  exact List.getElem_mem h
theorem share_in (a b : Leg) (p q : Rat × Rat) : 0 ≤ shareOf a b p q ∧ shareOf a b p q ≤ 1 := clip_in _ _
theorem sides_dm {a b : Leg} {r : Rat} (h0 : 0 ≤ r) (h1 : r ≤ 1) : ∀ p ∈ sides a b r, Dm r p.1 p.2 := by
  intro p hp
  unfold sides at hp
  obtain ⟨i, hi, e⟩ := List.mem_map.mp hp
  have hi := List.mem_range.mp hi
  subst e
  have d1 := ring_dm h0 h1 _ (getD_mem (d := (0, 0)) (show i < (ring r).length from hi))
  have d2 := ring_dm h0 h1 _ (ring2_mem _ (getD_mem (d := (0, 0)) (show i < (ring2 r).length from hi)))
  exact d1.conv d2 (share_in a b _ _).1 (share_in a b _ _).2
/-- the program's -/
theorem looked {a b : Leg} {r : Rat} (h0 : 0 ≤ r) (h1 : r ≤ 1) {c : Bool} (hc : c = true ↔ (wh a b ≠ 0 ∧ Dm r (cr a b).1 (cr a b).2)) : Looked a b r (if c = true then (ring r ++ sides a b r) ++ [cr a b] else ring r ++ sides a b r) := by
  have base : ∀ p ∈ ring r ++ sides a b r, Dm r p.1 p.2 := fun p hp => (List.mem_append.mp hp).elim (ring_dm h0 h1 p) (sides_dm h0 h1 p)
  have cv : ∀ s t, Dm r s t → (∃ p ∈ ring r ++ sides a b r, ff a b p.1 p.2 ≤ ff a b s t) ∨ (wh a b ≠ 0 ∧ Dm r (cr a b).1 (cr a b).2) := fun s t d => by
    rcases cover (a := a) (b := b) h0 h1 d with ⟨e, he, hl⟩ | k
    · exact .inl ⟨_, List.mem_append_right _ (side_mem he), hl⟩
    · exact .inr k
  cases c with
  | true =>
    have hh := hc.mp rfl
    rw [if_pos rfl]
    refine ⟨fun p hp => ?_, fun s t d => ?_⟩
    · rcases List.mem_append.mp hp with k | k
      · exact base p k
      · rw [List.mem_singleton.mp k]
        exact hh.2
    · refine ⟨cr a b, List.mem_append_right _ (List.mem_singleton.mpr rfl), ?_⟩
      obtain ⟨z1, z2⟩ := cr_zero hh.1
      have := ff_nonneg a b s t
      unfold ff at this ⊢
      rw [z1, z2]
      grind
  | false =>
    have hh : ¬ (wh a b ≠ 0 ∧ Dm r (cr a b).1 (cr a b).2) := fun z => Bool.noConfusion (hc.mpr z)
    rw [if_neg (by decide)]
    exact ⟨base, fun s t d => (cv s t d).elim id fun z => absurd z hh⟩
/-! ### sizes of these -/
theorem ring_pt {r : Rat} (h0 : 0 ≤ r) (h1 : r ≤ 1) : ∀ p ∈ ring r, Pt r.den p := by
  intro p hp
  have hr : Part r.den r := ⟨Nat.dvd_refl _, h0, h1⟩
  have h2 := part_rest hr r.den_nz
  unfold ring at hp
  simp only [List.mem_cons, List.not_mem_nil, or_false] at hp
  rcases hp with h | h | h | h | h | h <;> subst h
  · exact ⟨part0 _, part0 _⟩
  · exact ⟨part0 _, hr⟩
  · exact ⟨h2, part1 _⟩
  · exact ⟨part1 _, part1 _⟩
  · exact ⟨part1 _, h2⟩
  · exact ⟨hr, part0 _⟩
theorem share_part {a b : Leg} {T : Nat} {p q : Rat × Rat} (la : LB a) (lb : LB b) (hp : Pt T p) (hq : Pt T q) (hT : T ≠ 0) : ∃ A : Nat, A ≠ 0 ∧ A ≤ 2 ^ 35 * (T * T) ∧ Part A (shareOf a b p q) := by
  have b1 := gx_in la lb hp.s hp.t hT
  have b2 := gy_in la lb hp.s hp.t hT
  have c1 := gx_in la lb hq.s hq.t hT
  have c2 := gy_in la lb hq.s hq.t hT
  have g1 := c1.sub b1 hT
  have g2 := c2.sub b2 hT
  have hA : InD (T * T) (2 ^ 35) ((gx a b q.1 q.2 - gx a b p.1 p.2) * (gx a b q.1 q.2 - gx a b p.1 p.2) + (gy a b q.1 q.2 - gy a b p.1 p.2) * (gy a b q.1 q.2 - gy a b p.1 p.2)) := (sq_in g1 g2 g1 g2 hT).mono (by decide)
  have hB : InD (T * T) (2 ^ 35) (gx a b p.1 p.2 * (gx a b q.1 q.2 - gx a b p.1 p.2) + gy a b p.1 p.2 * (gy a b q.1 q.2 - gy a b p.1 p.2)) :=
    (sq_in (b1.mono (show 49152 ≤ 98304 by decide)) (b2.mono (show 49152 ≤ 98304 by decide)) g1 g2 hT).mono (by decide)
  have hi := share_in a b p q
  have hTT : T * T ≠ 0 := Nat.mul_ne_zero hT hT
  unfold shareOf at hi ⊢
  generalize (gx a b q.1 q.2 - gx a b p.1 p.2) * (gx a b q.1 q.2 - gx a b p.1 p.2) + (gy a b q.1 q.2 - gy a b p.1 p.2) * (gy a b q.1 q.2 - gy a b p.1 p.2) = A at *
  generalize gx a b p.1 p.2 * (gx a b q.1 q.2 - gx a b p.1 p.2) + gy a b p.1 p.2 * (gy a b q.1 q.2 - gy a b p.1 p.2) = B at *
  have one : ∃ A : Nat, A ≠ 0 ∧ A ≤ 2 ^ 35 * (T * T) ∧ A = 1 := ⟨1, by decide, Nat.mul_pos (by decide) (Nat.pos_of_ne_zero hTT), rfl⟩
  unfold clip at hi ⊢
  split
  · obtain ⟨k, k0, k1, rfl⟩ := one
    exact ⟨1, k0, k1, part0 1⟩
  · rename_i hz
    split
    · obtain ⟨k, k0, k1, rfl⟩ := one
      exact ⟨1, k0, k1, part0 1⟩
    · split
      · obtain ⟨k, k0, k1, rfl⟩ := one
        exact ⟨1, k0, k1, part1 1⟩
      · have hnB : InD (T * T) (2 ^ 35) (-B) := ⟨dvd_neg hB.dv, by have := hB.hi; grind, by have := hB.lo; grind⟩
        obtain ⟨k, k0, k1, k2⟩ := div_den hnB hA hz hTT
        exact ⟨k, k0, k1, k2, by grind, by grind⟩
/-- a point's bound -/
def Pb (T : Nat) (p : Rat × Rat) : Prop := ∃ D : Nat, D ≠ 0 ∧ D ≤ 2 ^ 35 * (T * T * T) ∧ Pt D p
theorem side_pb {a b : Leg} {T : Nat} {p q : Rat × Rat} (la : LB a) (lb : LB b) (hp : Pt T p) (hq : Pt T q) (hT : T ≠ 0) : Pb T (side a b p q) := by
  obtain ⟨A, a0, a1, a2⟩ := share_part la lb hp hq hT
  refine ⟨T * A, Nat.mul_ne_zero hT a0, ?_, onE_pt hp hq a2 hT a0⟩
  calc T * A ≤ T * (2 ^ 35 * (T * T)) := Nat.mul_le_mul_left _ a1
    _ = 2 ^ 35 * (T * T * T) := by rw [Nat.mul_left_comm, ← Nat.mul_assoc T T T]
theorem cube_pos {T : Nat} (hT : T ≠ 0) : T ≤ T * T * T ∧ 1 ≤ T * T * T := by
  have h : 1 ≤ T := Nat.pos_of_ne_zero hT
  have h2 : T * 1 ≤ T * (T * T) := Nat.mul_le_mul_left _ (Nat.mul_le_mul h h)
  rw [← Nat.mul_assoc] at h2
  omega
theorem ring_pb {r : Rat} (h0 : 0 ≤ r) (h1 : r ≤ 1) : ∀ p ∈ ring r, Pb r.den p := fun p hp =>
  ⟨r.den, r.den_nz, Nat.le_trans (cube_pos r.den_nz).1 (Nat.le_mul_of_pos_left _ (by decide)), ring_pt h0 h1 p hp⟩
theorem mul_28 {i j : Int} (h : i.natAbs ≤ 16384) (k : j.natAbs ≤ 16384) : (i * j).natAbs ≤ 268435456 := by
  rw [Int.natAbs_mul]
  exact Nat.mul_le_mul h k
theorem sub_30 {i j : Int} (h : i.natAbs ≤ 268435456) (k : j.natAbs ≤ 268435456) : (i - j).natAbs ≤ 536870912 := by omega
theorem wh_le {a b : Leg} (la : LB a) (lb : LB b) : (wh a b).natAbs ≤ 536870912 ∧ (crS a b).natAbs ≤ 536870912 ∧ (crT a b).natAbs ≤ 536870912 := by
  have := la.x; have := la.y; have := la.u; have := la.v
  have := lb.x; have := lb.y; have := lb.u; have := lb.v
  exact ⟨sub_30 (mul_28 (by omega) (by omega)) (mul_28 (by omega) (by omega)), sub_30 (mul_28 (by omega) (by omega)) (mul_28 (by omega) (by omega)), sub_30 (mul_28 (by omega) (by omega)) (mul_28 (by omega) (by omega))⟩
theorem quo_den {i w : Int} (h : w ≠ 0) : ((i : Rat) / (w : Rat)).den ∣ w.natAbs := by
  rw [← Rat.divInt_eq_div, Rat.den_divInt, if_neg h]
  refine Nat.div_dvd_of_dvd ?_
  show Nat.gcd w.natAbs i.natAbs ∣ _
  exact Nat.gcd_dvd_left _ _
theorem cr_pb {a b : Leg} {r : Rat} (la : LB a) (lb : LB b) (hw : wh a b ≠ 0) (hd : Dm r (cr a b).1 (cr a b).2) {T : Nat} (hT : T ≠ 0) : Pb T (cr a b) := by
  refine ⟨(wh a b).natAbs, by omega, ?_, ⟨quo_den hw, hd.s0, hd.s1⟩, ⟨quo_den hw, hd.t0, hd.t1⟩⟩
  have h1 := (wh_le la lb).1
  have h2 := (cube_pos hT).2
  calc (wh a b).natAbs ≤ 536870912 := h1
    _ ≤ 2 ^ 35 * 1 := by decide
    _ ≤ 2 ^ 35 * (T * T * T) := Nat.mul_le_mul_left _ h2
theorem looked_pb {a b : Leg} {r : Rat} (la : LB a) (lb : LB b) (h0 : 0 ≤ r) (h1 : r ≤ 1) {c : Bool} (hc : c = true ↔ (wh a b ≠ 0 ∧ Dm r (cr a b).1 (cr a b).2)) : ∀ p ∈ (if c = true then (ring r ++ sides a b r) ++ [cr a b] else ring r ++ sides a b r), Pb r.den p := by
  have base : ∀ p ∈ ring r ++ sides a b r, Pb r.den p := fun p hp => (List.mem_append.mp hp).elim (ring_pb h0 h1 p) fun hp => by
    unfold sides at hp
    obtain ⟨i, hi, e⟩ := List.mem_map.mp hp
    have hi := List.mem_range.mp hi
    subst e
    exact side_pb la lb (ring_pt h0 h1 _ (getD_mem (d := (0, 0)) (show i < (ring r).length from hi))) (ring_pt h0 h1 _ (ring2_mem _ (getD_mem (d := (0, 0)) (show i < (ring2 r).length from hi)))) r.den_nz
  intro p hp
  cases c with
  | true =>
    rw [if_pos rfl] at hp
    rcases List.mem_append.mp hp with k | k
    · exact base p k
    · rw [List.mem_singleton.mp k]
      exact cr_pb la lb (hc.mp rfl).1 (hc.mp rfl).2 r.den_nz
  | false =>
    rw [if_neg (by decide)] at hp
    exact base p hp
theorem cube_lt {T : Nat} {k : Nat} (h : T < 2 ^ k) : 2 ^ 35 * (T * T * T) < 2 ^ (35 + (k + k + k)) := by
  have h1 : T * T * T ≤ (2 ^ k * 2 ^ k) * T := Nat.mul_le_mul_right _ (Nat.mul_le_mul (Nat.le_of_lt h) (Nat.le_of_lt h))
  have h2 : (2 ^ k * 2 ^ k) * T < (2 ^ k * 2 ^ k) * 2 ^ k := Nat.mul_lt_mul_of_pos_left h (Nat.mul_pos (Nat.two_pow_pos k) (Nat.two_pow_pos k))
  rw [Nat.pow_add, Nat.pow_add, Nat.pow_add]
  exact Nat.mul_lt_mul_of_pos_left (Nat.lt_of_le_of_lt h1 h2) (Nat.two_pow_pos 35)
/-- what is told of the nearest -/
structure NearOk (a b : Leg) (r q : Rat) : Prop where
  min : IsMin a b r q
  sz : Sz q
  den : q.den ≤ (2 ^ 35 * (r.den * r.den * r.den)) * (2 ^ 35 * (r.den * r.den * r.den))
theorem near_ok {a b : Leg} {r : Rat} {p : Rat × Rat} (la : LB a) (lb : LB b) (hp : Pb r.den p) (hr : r.den < 2 ^ 250) (hm : IsMin a b r (ff a b p.1 p.2)) : NearOk a b r (ff a b p.1 p.2) := by
  obtain ⟨D, d0, d1, k⟩ := hp
  have h1 := ff_in la lb k.s k.t d0
  have hD : D < 2 ^ 785 := Nat.lt_of_le_of_lt d1 (cube_lt hr)
  have hDD : D * D < 2 ^ (785 + 785) := by rw [Nat.pow_add]; exact Nat.mul_lt_mul'' hD hD
  exact ⟨hm, h1.Sz (Nat.mul_ne_zero d0 d0) hDD (show _ ≤ 2 ^ 34 by decide) (by decide), Nat.le_trans (h1.den_le (Nat.mul_ne_zero d0 d0)) (Nat.mul_le_mul d1 d1)⟩
end LL
end
section
set_option linter.all false
set_option exponentiation.threshold 20000
namespace LL
/-! ### whole least ticks: in plain numbers -/
structure Bd where
  p0 : Int
  p1 : Int
  p2 : Int
  p3 : Int
  p4 : Int
  p5 : Int
  p6 : Int
  p7 : Int
  p8 : Int
def Bd.R (b : Bd) : Int := b.p1 + 2 * b.p2
def Bd.lag (b : Bd) : Int := b.p4 + 2 * b.p3
def Bd.rho (b : Bd) (T : Int) : Rat := Rat.divInt b.lag T
structure BdOk (b : Bd) : Prop where
  a1 : 0 ≤ b.p1 ∧ b.p1 ≤ 200
  a2 : 0 ≤ b.p2 ∧ b.p2 ≤ 200
  a3 : 0 ≤ b.p3 ∧ b.p3 ≤ 200
  a4 : 0 ≤ b.p4 ∧ b.p4 ≤ 200
theorem BdOk.R {b : Bd} (h : BdOk b) : 0 ≤ b.R ∧ b.R ≤ 600 := by
  have := h.a1; have := h.a2
  unfold Bd.R
  omega
theorem BdOk.lag {b : Bd} (h : BdOk b) : 0 ≤ b.lag ∧ b.lag ≤ 600 := by
  have := h.a3; have := h.a4
  unfold Bd.lag
  omega
/-- times that may be asked -/
structure TkOk (b : Bd) (T : Int) : Prop where
  one : 1 ≤ T
  lag : b.lag ≤ T
  hi : T < 2 ^ 240
theorem le_of_mulR {x y b : Rat} (hb : 0 < b) (h : x * b ≤ y * b) : x ≤ y := by
  rcases Rat.le_total (a := x) (b := y) with k | k
  · exact k
  · have h1 := Rat.mul_nonneg (show 0 ≤ x - y by grind) (show 0 ≤ b by grind)
    have h2 : (x - y) * b = 0 := by grind
    rcases Rat.mul_eq_zero.mp h2 with z | z <;> grind
theorem div_nn {a b : Rat} (ha : 0 ≤ a) (hb : 0 < b) : 0 ≤ a / b := le_of_mulR hb (by rw [Rat.div_mul_cancel (by grind)]; grind)
theorem div_le1 {a b : Rat} (ha : a ≤ b) (hb : 0 < b) : a / b ≤ 1 := le_of_mulR hb (by rw [Rat.div_mul_cancel (by grind)]; grind)
theorem rho_eq (b : Bd) (T : Int) : b.rho T = (b.lag : Rat) / (T : Rat) := Rat.divInt_eq_div _ _
theorem rho_in {b : Bd} {T : Int} (h : BdOk b) (k : TkOk b T) : (0 ≤ b.rho T ∧ b.rho T ≤ 1) ∧ (b.rho T).den < 2 ^ 250 := by
  have hT : (0 : Rat) < (T : Rat) := by
    have := k.one
    exact_mod_cast (show (0 : Int) < T by omega)
  have hl : (0 : Rat) ≤ (b.lag : Rat) := by exact_mod_cast h.lag.1
  have hk : (b.lag : Rat) ≤ (T : Rat) := by exact_mod_cast k.lag
  refine ⟨⟨?_, ?_⟩, ?_⟩
  · rw [rho_eq]
    exact div_nn hl hT
  · rw [rho_eq]
    exact div_le1 hk hT
  · have h1 : (b.rho T).den ≤ T.natAbs := by
      unfold Bd.rho
      rw [Rat.den_divInt]
      split
      · have := k.one; omega
      · exact Nat.div_le_self _ _
    have h2 := k.hi
    have h3 := k.one
    have h4 : (2 : Nat) ^ 240 ≤ 2 ^ 250 := Nat.pow_le_pow_right (by decide) (by decide)
    have h5 : T.natAbs < 2 ^ 240 := by
      have e : ((2 ^ 240 : Nat) : Int) = 2 ^ 240 := by norm_cast
      omega
    omega
theorem rho_anti {b : Bd} {T T' : Int} (h : BdOk b) (k : 1 ≤ T) (hT : T ≤ T') : b.rho T' ≤ b.rho T := by
  have h0 : (0 : Rat) < (T : Rat) := by exact_mod_cast (show (0 : Int) < T by omega)
  have h1 : (0 : Rat) < (T' : Rat) := by exact_mod_cast (show (0 : Int) < T' by omega)
  have hl : (0 : Rat) ≤ (b.lag : Rat) := by exact_mod_cast h.lag.1
  have hk : (T : Rat) ≤ (T' : Rat) := by exact_mod_cast hT
  rw [rho_eq, rho_eq]
  have e : (b.lag : Rat) / (T : Rat) * (T : Rat) = b.lag := Rat.div_mul_cancel (by grind)
  have h2 : 0 ≤ (b.lag : Rat) / (T : Rat) := div_nn hl h0
  refine le_of_mulR h1 ?_
  rw [Rat.div_mul_cancel (show (T' : Rat) ≠ 0 by grind)]
  have h3 := Rat.mul_nonneg h2 (show 0 ≤ (T' : Rat) - T by grind)
  grind
def d0 : Leg := ⟨0, 0, 0, 0⟩
abbrev Lg (ls : List Leg) (i : Nat) : Leg := ls.getD i d0
structure LsOk (ls : List Leg) : Prop where
  lb : ∀ l ∈ ls, LB l
  len : ls.length ≤ 300
theorem LsOk.at {ls : List Leg} (h : LsOk ls) {i : Nat} (hi : i < ls.length) : LB (Lg ls i) := h.lb _ (getD_mem hi)
/-- each two legs keep R apart at r -/
def Apart (ls : List Leg) (r : Rat) (R : Int) : Prop := ∀ i j, i < j → j < ls.length → ∀ q, IsMin (Lg ls i) (Lg ls j) r q → ((R * R : Int) : Rat) ≤ q
def Ap (b : Bd) (ls : List Leg) (T : Int) : Prop := Apart ls (b.rho T) b.R
/-- at some time -/
def Ev (a b : Leg) (R lag : Int) : Prop := ∀ m0, IsMin a b 0 m0 → ((R * R : Int) : Rat) ≤ m0 ∧ (m0 = ((R * R : Int) : Rat) → lag ≠ 0 → ∀ m1, IsMin a b 1 m1 → m1 = ((R * R : Int) : Rat))
def EvAll (b : Bd) (ls : List Leg) : Prop := ∀ i j, i < j → j < ls.length → Ev (Lg ls i) (Lg ls j) b.R b.lag
theorem exists_argmin {α : Type} (f : α → Rat) : ∀ (l : List α), l ≠ [] → ∃ p ∈ l, ∀ q ∈ l, f p ≤ f q
  | [], h => absurd rfl h
  | [x], _ => ⟨x, by simp, fun q hq => by rw [List.mem_singleton.mp hq]; exact Rat.le_refl⟩
  | x :: y :: l, _ => by
    obtain ⟨p, hp, hm⟩ := exists_argmin f (y :: l) (by simp)
    by_cases h : f x ≤ f p
    · refine ⟨x, by simp, fun q hq => ?_⟩
      rcases List.mem_cons.mp hq with z | z
      · rw [z]; exact Rat.le_refl
      · have := hm q z; grind
    · refine ⟨p, List.mem_cons_of_mem _ hp, fun q hq => ?_⟩
      rcases List.mem_cons.mp hq with z | z
      · rw [z]; grind
      · exact hm q z
open Classical in
theorem near_ex {a b : Leg} {r : Rat} (la : LB a) (lb : LB b) (h0 : 0 ≤ r) (h1 : r ≤ 1) (hr : r.den < 2 ^ 250) : ∃ q, NearOk a b r q := by
  have hc : decide (wh a b ≠ 0 ∧ Dm r (cr a b).1 (cr a b).2) = true ↔ (wh a b ≠ 0 ∧ Dm r (cr a b).1 (cr a b).2) := decide_eq_true_iff
  have lk := looked h0 h1 hc
  have pb := looked_pb la lb h0 h1 hc
  generalize (if decide (wh a b ≠ 0 ∧ Dm r (cr a b).1 (cr a b).2) = true then (ring r ++ sides a b r) ++ [cr a b] else ring r ++ sides a b r) = pts at lk pb
  have hne : pts ≠ [] := fun z => by
    obtain ⟨q, hq, _⟩ := lk.cov 0 0 ⟨by decide, by decide, by decide, by decide, by grind, by grind⟩
    rw [z] at hq
    cases hq
  obtain ⟨p, hp, hm⟩ := exists_argmin (fun p : Rat × Rat => ff a b p.1 p.2) pts hne
  exact ⟨_, near_ok la lb (pb p hp) hr (lk.min hp hm)⟩
theorem Apart.mono {ls : List Leg} {r r' : Rat} {R : Int} (o : LsOk ls) (h : Apart ls r R) (hr : r' ≤ r) (h0 : 0 ≤ r) (h1 : r ≤ 1) (hd : r.den < 2 ^ 250) : Apart ls r' R := fun i j hij hj q hq => by
  obtain ⟨m, hm⟩ := near_ex (o.at (Nat.lt_trans hij hj)) (o.at hj) h0 h1 hd
  have k1 := h i j hij hj m hm.min
  have k2 := IsMin.anti hq hm.min hr
  grind
theorem Ap.mono {b : Bd} {ls : List Leg} {T T' : Int} (h : BdOk b) (o : LsOk ls) (k : TkOk b T) (hT : T ≤ T') (ha : Ap b ls T) : Ap b ls T' := by
  have q := rho_in h k
  exact Apart.mono o ha (rho_anti h k.one hT) q.1.1 q.1.2 q.2
/-! ### at some time they are apart -/
theorem abs_mul {x y a b : Rat} (h1 : -a ≤ x) (h2 : x ≤ a) (h3 : -b ≤ y) (h4 : y ≤ b) : -(a * b) ≤ x * y := (mul_bnd h1 h2 h3 h4).1
theorem plx_bd {l : Leg} (h : LB l) {s : Rat} (s0 : 0 ≤ s) (s1 : s ≤ 1) : (-24576 : Rat) ≤ plx l s ∧ plx l s ≤ 24576 := by
  have q := plx_in (D := s.den) h ⟨Nat.dvd_refl _, s0, s1⟩ s.den_nz
  exact ⟨q.lo, q.hi⟩
theorem ply_bd {l : Leg} (h : LB l) {s : Rat} (s0 : 0 ≤ s) (s1 : s ≤ 1) : (-24576 : Rat) ≤ ply l s ∧ ply l s ≤ 24576 := by
  have q := ply_in (D := s.den) h ⟨Nat.dvd_refl _, s0, s1⟩ s.den_nz
  exact ⟨q.lo, q.hi⟩
/-- near s = t, the gap changes little -/
theorem lip {a b : Leg} (la : LB a) (lb : LB b) {r s t : Rat} (h0 : 0 ≤ r) (h : Dm r s t) : ff a b s s - 4294967296 * r ≤ ff a b s t := by
  have hx : ∀ {p q g e : Rat}, (-49152 : Rat) ≤ g → g ≤ 49152 → -(16384 : Rat) ≤ e → e ≤ 16384 → q - p ≤ r → p - q ≤ r → g * g - 2147483648 * r ≤ (g + (q - p) * e) * (g + (q - p) * e) := fun {p q g e} g1 g2 e1 e2 d1 d2 => by
    have m1 : -(r * 16384) ≤ (q - p) * e := abs_mul (by grind) (by grind) e1 e2
    have m2 : (q - p) * e ≤ r * 16384 := (mul_bnd (show -r ≤ q - p by grind) (by grind) e1 e2).2
    have m3 : -((r * 16384) * 49152) ≤ ((q - p) * e) * g := abs_mul m1 m2 g1 g2
    have m4 := sq_nonneg ((q - p) * e)
    have e5 : (g + (q - p) * e) * (g + (q - p) * e) = g * g + 2 * (((q - p) * e) * g) + ((q - p) * e) * ((q - p) * e) := by grind
    rw [e5]
    grind
  have b1 : -(16384 : Rat) ≤ ((b.u - b.x : Int) : Rat) ∧ ((b.u - b.x : Int) : Rat) ≤ 16384 := by
    have := lb.x; have := lb.u
    have q := inD_int (D := 1) (V := 16384) (b.u - b.x) (by omega)
    exact ⟨q.lo, q.hi⟩
  have b2 : -(16384 : Rat) ≤ ((b.v - b.y : Int) : Rat) ∧ ((b.v - b.y : Int) : Rat) ≤ 16384 := by
    have := lb.y; have := lb.v
    have q := inD_int (D := 1) (V := 16384) (b.v - b.y) (by omega)
    exact ⟨q.lo, q.hi⟩
  have x1 := plx_bd la h.s0 h.s1
  have x2 := plx_bd lb h.s0 h.s1
  have y1 := ply_bd la h.s0 h.s1
  have y2 := ply_bd lb h.s0 h.s1
  have e1 : gx a b s t = gx a b s s + (t - s) * ((b.u - b.x : Int) : Rat) := by
    unfold gx plx
    grind
  have e2 : gy a b s t = gy a b s s + (t - s) * ((b.v - b.y : Int) : Rat) := by
    unfold gy ply
    grind
  have g1 : (-49152 : Rat) ≤ gx a b s s ∧ gx a b s s ≤ 49152 := by
    unfold gx
    constructor <;> grind
  have g2 : (-49152 : Rat) ≤ gy a b s s ∧ gy a b s s ≤ 49152 := by
    unfold gy
    constructor <;> grind
  have k1 := hx (p := s) (q := t) g1.1 g1.2 b1.1 b1.2 (by have := h.ts; grind) (by have := h.st; grind)
  have k2 := hx (p := s) (q := t) g2.1 g2.2 b2.1 b2.2 (by have := h.ts; grind) (by have := h.st; grind)
  have h3 : ff a b s t = (gx a b s s + (t - s) * ((b.u - b.x : Int) : Rat)) * (gx a b s s + (t - s) * ((b.u - b.x : Int) : Rat)) + (gy a b s s + (t - s) * ((b.v - b.y : Int) : Rat)) * (gy a b s s + (t - s) * ((b.v - b.y : Int) : Rat)) := by
    unfold ff
    rw [e1, e2]
  rw [h3]
  unfold ff
  grind
theorem den_gap {q : Rat} {n : Int} (h : (n : Rat) < q) : 1 ≤ (q - (n : Rat)) * (q.den : Rat) := by
  have e : q * (q.den : Rat) = (q.num : Rat) := by
    have h1 := Rat.num_divInt_den q
    have h2 := Rat.divInt_eq_div q.num (q.den : Int)
    rw [h1] at h2
    have h3 : ((q.den : Int) : Rat) ≠ 0 := by
      have := den_ne q
      exact_mod_cast this
    have h4 : (q.num : Rat) / ((q.den : Int) : Rat) * ((q.den : Int) : Rat) = (q.num : Rat) := Rat.div_mul_cancel h3
    rw [← h2] at h4
    exact h4
  have h1 : n * (q.den : Int) < q.num := by
    have := (Rat.lt_iff _ _).mp h
    have e1 : ((n : Int) : Rat).num = n := rfl
    have e2 : ((n : Int) : Rat).den = 1 := rfl
    rw [e1, e2] at this
    have e3 : q.num * ((1 : Nat) : Int) = q.num := Int.mul_one _
    rw [e3] at this
    exact this
  have h2 : ((n * (q.den : Int) + 1 : Int) : Rat) ≤ (q.num : Rat) := by
    exact_mod_cast h1
  rw [Rat.intCast_add, Rat.intCast_mul] at h2
  have e4 : ((q.den : Int) : Rat) = (q.den : Rat) := rfl
  have e5 : ((1 : Int) : Rat) = 1 := rfl
  rw [e4, e5] at h2
  grind
theorem ev_apart {a b : Leg} (la : LB a) (lb : LB b) {R lag : Int} (hl : 0 ≤ lag ∧ lag ≤ 600) (h : Ev a b R lag) {r q : Rat} (h0 : 0 ≤ r) (h1 : r ≤ 1) (hz : lag = 0 → r = 0) (hr : r * (4294967296 * 1180591620717411303424) ≤ 1) (hq : IsMin a b r q) : ((R * R : Int) : Rat) ≤ q := by
  obtain ⟨m, hm⟩ := near_ex la lb (r := 0) (by decide) (by decide) (by decide)
  obtain ⟨e1, e2⟩ := h m hm.min
  by_cases hz0 : lag = 0
  · have := hz hz0
    subst this
    rw [hq.uniq hm.min]
    exact e1
  · by_cases he : m = ((R * R : Int) : Rat)
    · obtain ⟨m1, hm1⟩ := near_ex la lb (r := 1) (by decide) (by decide) (by decide)
      have k := e2 he hz0 m1 hm1.min
      have := IsMin.anti hq hm1.min h1
      grind
    · have hlt : ((R * R : Int) : Rat) < m := by grind
      have g := den_gap hlt
      have hd : (m.den : Rat) ≤ 1180591620717411303424 := by
        have := hm.den
        have e : ((0 : Rat).den) = 1 := rfl
        rw [e] at this
        have k : m.den ≤ 1180591620717411303424 := by simpa using this
        exact_mod_cast k
      obtain ⟨⟨s, t, d, e⟩, _⟩ := hq
      have l := lip la lb h0 d
      have k0 := hm.min.2 s s ⟨d.s0, d.s1, d.s0, d.s1, by grind, by grind⟩
      have hp : 0 ≤ (m - ((R * R : Int) : Rat)) * (1180591620717411303424 - (m.den : Rat)) := Rat.mul_nonneg (by grind) (by grind)
      grind
def TBIG : Int := 2 ^ 120
theorem ev_big {b : Bd} {ls : List Leg} (h : BdOk b) (o : LsOk ls) (e : EvAll b ls) : Ap b ls TBIG := fun i j hij hj q hq => by
  have hl := h.lag
  have k : TkOk b TBIG := ⟨by decide, by unfold TBIG; omega, by decide⟩
  have r := rho_in h k
  refine ev_apart (o.at (Nat.lt_trans hij hj)) (o.at hj) hl (e i j hij hj) r.1.1 r.1.2 (fun z => ?_) ?_ hq
  · rw [rho_eq, z, Rat.div_def]
    exact Rat.zero_mul _
  · rw [rho_eq]
    have e1 : (TBIG : Rat) = 1329227995784915872903807060280344576 := rfl
    rw [e1]
    have h2 : (b.lag : Rat) ≤ 600 := (inD_int (D := 1) (V := 600) b.lag (by omega)).hi
    have h3 : (b.lag : Rat) / 1329227995784915872903807060280344576 * 1329227995784915872903807060280344576 = b.lag := Rat.div_mul_cancel (by decide)
    have h4 : 0 ≤ (b.lag : Rat) / 1329227995784915872903807060280344576 := by
      rw [← e1, ← rho_eq]
      exact r.1.1
    grind
end LL
end
section
set_option linter.all false
set_option exponentiation.threshold 20000
namespace LL
/-- the law's part of an edge: before and behind its cut -/
def prt (A B : Rat) (l : Bool) : Rat := if A ≠ 0 then ((-1 : Int) : Rat) * B / A else if l = true then 1 else 0
def cutP (x : Rat) : Rat := if x < 0 then 0 else if 1 < x then 1 else x
theorem cutP_in (x : Rat) : 0 ≤ cutP x ∧ cutP x ≤ 1 := by
  unfold cutP
  split
  · grind
  · split <;> grind
theorem cutP_prt {A B : Rat} (l : Bool) (h : A ≠ 0) : cutP (prt A B l) = clip A B := by
  unfold prt clip
  rw [if_pos h, if_neg h]
  have e : ((-1 : Int) : Rat) * B / A = -B / A := by
    have : ((-1 : Int) : Rat) = -1 := rfl
    rw [this]
    congr 1
    grind
  rw [e]
  unfold cutP
  split <;> split <;> grind
theorem cutP_flat {A B : Rat} (l : Bool) (h : A = 0) : cutP (prt A B l) = 0 ∨ cutP (prt A B l) = 1 := by
  unfold prt
  rw [if_neg (fun z => z h)]
  cases l
  · left
    rw [if_neg (by decide)]
    unfold cutP
    split <;> grind
  · right
    rw [if_pos rfl]
    unfold cutP
    split
    · grind
    · split <;> grind
/-- what an edge gives -/
structure EdgeOk (a b : Leg) (p q : Rat × Rat) (T : Nat) (s t : Rat) : Prop where
  on : ∃ l, 0 ≤ l ∧ l ≤ 1 ∧ (s, t) = onE p q l
  val : ff a b s t = edgeV a b p q
  pb : Pb T (s, t)
def aQ (a b : Leg) (p q : Rat × Rat) : Rat := (gx a b q.1 q.2 - gx a b p.1 p.2) * (gx a b q.1 q.2 - gx a b p.1 p.2) + (gy a b q.1 q.2 - gy a b p.1 p.2) * (gy a b q.1 q.2 - gy a b p.1 p.2)
def bQ (a b : Leg) (p q : Rat × Rat) : Rat := gx a b p.1 p.2 * (gx a b q.1 q.2 - gx a b p.1 p.2) + gy a b p.1 p.2 * (gy a b q.1 q.2 - gy a b p.1 p.2)
theorem share_q (a b : Leg) (p q : Rat × Rat) : shareOf a b p q = clip (aQ a b p q) (bQ a b p q) := rfl
theorem pt_pb {T : Nat} {p : Rat × Rat} (h : Pt T p) (hT : T ≠ 0) : Pb T p := ⟨T, hT, Nat.le_trans (cube_pos hT).1 (Nat.le_mul_of_pos_left _ (by decide)), h⟩
theorem onE_0 (p q : Rat × Rat) : onE p q 0 = p := by
  unfold onE
  obtain ⟨p1, p2⟩ := p
  congr 1 <;> simp only <;> grind
theorem onE_1 (p q : Rat × Rat) : onE p q 1 = q := by
  unfold onE
  obtain ⟨p1, p2⟩ := p
  obtain ⟨q1, q2⟩ := q
  congr 1 <;> simp only <;> grind
/-- the law's part is a part of small parts -/
theorem cut_part {a b : Leg} {T : Nat} {p q : Rat × Rat} (l : Bool) (la : LB a) (lb : LB b) (hp : Pt T p) (hq : Pt T q) (hT : T ≠ 0) : ∃ A : Nat, A ≠ 0 ∧ A ≤ 2 ^ 35 * (T * T) ∧ Part A (cutP (prt (aQ a b p q) (bQ a b p q) l)) := by
  by_cases h : aQ a b p q = 0
  · have one : (1 : Nat) ≤ 2 ^ 35 * (T * T) := Nat.mul_pos (by decide) (Nat.mul_pos (Nat.pos_of_ne_zero hT) (Nat.pos_of_ne_zero hT))
    rcases cutP_flat (B := bQ a b p q) l h with e | e <;> rw [e]
    · exact ⟨1, by decide, one, part0 1⟩
    · exact ⟨1, by decide, one, part1 1⟩
  · rw [cutP_prt l h, ← share_q]
    exact share_part la lb hp hq hT
theorem edge_ok {a b : Leg} {T : Nat} {p q : Rat × Rat} (l : Bool) (la : LB a) (lb : LB b) (hp : Pt T p) (hq : Pt T q) (hT : T ≠ 0) {s t : Rat} (e : (s, t) = onE p q (cutP (prt (aQ a b p q) (bQ a b p q) l))) : EdgeOk a b p q T s t := by
  have hc := cutP_in (prt (aQ a b p q) (bQ a b p q) l)
  have es : s = (onE p q (cutP (prt (aQ a b p q) (bQ a b p q) l))).1 := congrArg Prod.fst e
  have et : t = (onE p q (cutP (prt (aQ a b p q) (bQ a b p q) l))).2 := congrArg Prod.snd e
  refine ⟨⟨_, hc.1, hc.2, e⟩, ?_, ?_⟩
  · by_cases h : aQ a b p q = 0
    · obtain ⟨z1, z2⟩ := sum_zero (show (gx a b q.1 q.2 - gx a b p.1 p.2) * (gx a b q.1 q.2 - gx a b p.1 p.2) + (gy a b q.1 q.2 - gy a b p.1 p.2) * (gy a b q.1 q.2 - gy a b p.1 p.2) = 0 from h)
      have flat : ∀ m : Rat, ff a b (onE p q m).1 (onE p q m).2 = ff a b p.1 p.2 := fun m => by
        unfold ff onE
        rw [gx_aff, gy_aff, z1, z2]
        grind
      unfold edgeV
      rw [es, et, flat, flat]
    · rw [es, et, cutP_prt l h, ← share_q]
      rfl
  · rw [e]
    by_cases h : aQ a b p q = 0
    · rcases cutP_flat (B := bQ a b p q) l h with z | z <;> rw [z]
      · rw [onE_0]
        exact pt_pb hp hT
      · rw [onE_1]
        exact pt_pb hq hT
    · rw [cutP_prt l h, ← share_q]
      exact side_pb la lb hp hq hT
end LL
end
section
set_option Elab.async false
set_option linter.all false
set_option maxRecDepth 100000
namespace LT
open PySem PySem.Spec PyProof.Rows L2
/-! ### types of values: what a value is in a heap, kept while the heap grows -/
structure Ty where
  r : V → Hp → Prop
  mono : ∀ v H H', Same H H' → r v H → r v H'
def AllR : List Ty → List V → Hp → Prop
  | [], [], _ => True
  | R :: Rs, x :: xs, H => R.r x H ∧ AllR Rs xs H
  | _, _, _ => False
theorem AllR.mono : ∀ {Rs : List Ty} {xs : List V} {H H' : Hp}, Same H H' → AllR Rs xs H → AllR Rs xs H'
  | [], [], _, _, _, _ => trivial
  | R :: _, _ :: _, _, _, s, h => ⟨R.mono _ _ _ s h.1, AllR.mono s h.2⟩
  | [], _ :: _, _, _, _, h => h.elim
  | _ :: _, [], _, _, _, h => h.elim
theorem AllR.len : ∀ {Rs : List Ty} {xs : List V} {H : Hp}, AllR Rs xs H → xs.length = Rs.length
  | [], [], _, _ => rfl
  | _ :: _, _ :: _, _, h => congrArg (· + 1) (AllR.len h.2)
  | [], _ :: _, _, h => h.elim
  | _ :: _, [], _, h => h.elim
theorem AllR.get : ∀ {Rs : List Ty} {xs : List V} {H : Hp} {i : Nat} {R : Ty}, AllR Rs xs H → Rs[i]? = some R → ∃ x, xs[i]? = some x ∧ R.r x H
  | [], _, _, _, _, _, e => by simp at e
  | _ :: _, [], _, _, _, h, _ => h.elim
  | R' :: Rs, x :: xs, H, 0, R, h, e => ⟨x, rfl, by
    have e' : R' = R := Option.some.inj e
    rw [← e']; exact h.1⟩
  | R' :: Rs, x :: xs, H, i + 1, R, h, e => AllR.get (Rs := Rs) (xs := xs) (i := i) h.2 e
theorem AllR.getv : ∀ {Rs : List Ty} {xs : List V} {H : Hp} {i : Nat} {x : V}, AllR Rs xs H → xs[i]? = some x → ∃ R, Rs[i]? = some R ∧ R.r x H
  | _, [], _, _, _, _, e => by simp at e
  | [], _ :: _, _, _, _, h, _ => h.elim
  | R :: Rs, x' :: xs, H, 0, x, h, e => ⟨R, rfl, by
    have e' : x' = x := Option.some.inj e
    rw [← e']; exact h.1⟩
  | R :: Rs, x' :: xs, H, i + 1, x, h, e => AllR.getv (Rs := Rs) (xs := xs) (i := i) h.2 e
theorem AllR.app : ∀ {Rs : List Ty} {xs : List V} {Ss : List Ty} {ys : List V} {H : Hp}, AllR Rs xs H → AllR Ss ys H → AllR (Rs ++ Ss) (xs ++ ys) H
  | [], [], _, _, _, _, k => k
  | _ :: _, _ :: _, _, _, _, h, k => ⟨h.1, AllR.app h.2 k⟩
  | [], _ :: _, _, _, _, h, _ => h.elim
  | _ :: _, [], _, _, _, h, _ => h.elim
theorem AllR.drop : ∀ (n : Nat) {Rs : List Ty} {xs : List V} {H : Hp}, AllR Rs xs H → AllR (Rs.drop n) (xs.drop n) H
  | 0, _, _, _, h => h
  | _ + 1, [], [], _, _ => trivial
  | n + 1, _ :: _, _ :: _, _, h => AllR.drop n h.2
  | _ + 1, [], _ :: _, _, h => h.elim
  | _ + 1, _ :: _, [], _, h => h.elim
theorem AllR.take : ∀ (n : Nat) {Rs : List Ty} {xs : List V} {H : Hp}, AllR Rs xs H → AllR (Rs.take n) (xs.take n) H
  | 0, _, _, _, _ => by
    simp only [List.take_zero]
    trivial
  | _ + 1, [], [], _, _ => trivial
  | n + 1, _ :: _, _ :: _, _, h => ⟨h.1, AllR.take n h.2⟩
  | _ + 1, [], _ :: _, _, h => h.elim
  | _ + 1, _ :: _, [], _, h => h.elim
def yV (x : V) : Ty := ⟨fun v _ => v = x, fun _ _ _ _ h => h⟩
abbrev yI (i : Int) : Ty := yV (.int i)
abbrev yB (b : Bool) : Ty := yV (.bl b)
abbrev yN : Ty := yV .non
abbrev yAt (a : Addr) : Ty := yV (.ref a)
def yS : Ty := ⟨fun v _ => ∃ z, v = .str z, fun _ _ _ _ h => h⟩
theorem same_t {K : PySem.W.Frag} {H H' : Hp} {a : Addr} {xs : List V} (e : Same H H') (h : SqT K H a xs) : SqT K H' a xs := by
  rcases h with (h | ⟨o, h⟩) | h
  · exact .inl (.inl (e _ _ h))
  · exact .inl (.inr ⟨o, e _ _ h⟩)
  · exact .inr h
def yT (K : PySem.W.Frag) (Rs : List Ty) : Ty := ⟨fun v H => ∃ p xs, v = .ref p ∧ SqT K H p xs ∧ AllR Rs xs H,
  fun _ _ _ s ⟨p, xs, e, h, a⟩ => ⟨p, xs, e, same_t s h, a.mono s⟩⟩
def yL (Rs : List Ty) : Ty := ⟨fun v H => ∃ p xs, v = .ref p ∧ H p = some (.lst xs) ∧ AllR Rs xs H,
  fun _ _ _ s ⟨p, xs, e, h, a⟩ => ⟨p, xs, e, s _ _ h, a.mono s⟩⟩
def yE {α : Type} (R : α → Ty) : Ty := ⟨fun v H => ∃ a, (R a).r v H, fun v H H' s ⟨a, h⟩ => ⟨a, (R a).mono v H H' s h⟩⟩
def yW (p : Prop) (R : Ty) : Ty := ⟨fun v H => p ∧ R.r v H, fun v H H' s ⟨a, h⟩ => ⟨a, R.mono v H H' s h⟩⟩
def Ty.le (R S : Ty) : Prop := ∀ v H, R.r v H → S.r v H
/-! ### the slots -/
abbrev Tys := List (Option Ty)
def OkS : Tys → L2.St → Hp → Prop
  | [], [], _ => True
  | none :: Γ, _ :: σ, H => OkS Γ σ H
  | some R :: Γ, o :: σ, H => (∃ v, o = some v ∧ R.r v H) ∧ OkS Γ σ H
  | _, _, _ => False
theorem OkS.mono : ∀ {Γ : Tys} {σ : L2.St} {H H' : Hp}, Same H H' → OkS Γ σ H → OkS Γ σ H'
  | [], [], _, _, _, _ => trivial
  | none :: Γ, _ :: σ, _, _, s, h => OkS.mono (Γ := Γ) (σ := σ) s h
  | some R :: Γ, o :: σ, _, _, s, ⟨⟨v, e, r⟩, h⟩ => ⟨⟨v, e, R.mono _ _ _ s r⟩, OkS.mono (Γ := Γ) (σ := σ) s h⟩
  | [], _ :: _, _, _, _, h => h.elim
  | none :: _, [], _, _, _, h => h.elim
  | some _ :: _, [], _, _, _, h => h.elim
theorem OkS.len : ∀ {Γ : Tys} {σ : L2.St} {H : Hp}, OkS Γ σ H → σ.length = Γ.length
  | [], [], _, _ => rfl
  | none :: Γ, _ :: σ, _, h => congrArg (· + 1) (OkS.len (Γ := Γ) (σ := σ) h)
  | some R :: Γ, o :: σ, _, h => congrArg (· + 1) (OkS.len (Γ := Γ) (σ := σ) h.2)
  | [], _ :: _, _, h => h.elim
  | none :: _, [], _, h => h.elim
  | some _ :: _, [], _, h => h.elim
theorem OkS.get : ∀ {Γ : Tys} {σ : L2.St} {H : Hp} {i : Nat} {R : Ty}, OkS Γ σ H → Γ[i]? = some (some R) → ∃ v, σ[i]? = some (some v) ∧ R.r v H
  | [], _, _, _, _, _, e => by simp at e
  | none :: Γ, _ :: σ, _, 0, _, _, e => by simp at e
  | none :: Γ, _ :: σ, _, i + 1, R, h, e => OkS.get (Γ := Γ) (σ := σ) (i := i) h e
  | some R' :: Γ, o :: σ, _, 0, R, ⟨⟨v, e1, r⟩, _⟩, e => ⟨v, by rw [e1]; rfl, by
    have e' : R' = R := Option.some.inj (Option.some.inj e)
    rw [← e']; exact r⟩
  | some R' :: Γ, o :: σ, _, i + 1, R, h, e => OkS.get (Γ := Γ) (σ := σ) (i := i) h.2 e
  | none :: _, [], _, _, _, h, _ => h.elim
  | some _ :: _, [], _, _, _, h, _ => h.elim
theorem OkS.set : ∀ {Γ : Tys} {σ : L2.St} {H : Hp} (i : Nat) {R : Ty} {v : V}, OkS Γ σ H → R.r v H → OkS (Γ.set i (some R)) (σ.set i (some v)) H
  | [], [], _, _, _, _, _, _ => trivial
  | none :: Γ, _ :: σ, _, 0, R, v, h, r => ⟨⟨v, rfl, r⟩, h⟩
  | none :: Γ, _ :: σ, _, i + 1, R, v, h, r => OkS.set (Γ := Γ) (σ := σ) i h r
  | some _ :: Γ, _ :: σ, _, 0, R, v, h, r => ⟨⟨v, rfl, r⟩, h.2⟩
  | some _ :: Γ, _ :: σ, _, i + 1, R, v, h, r => ⟨h.1, OkS.set (Γ := Γ) (σ := σ) i h.2 r⟩
  | [], _ :: _, _, _, _, _, h, _ => h.elim
  | none :: _, [], _, _, _, _, h, _ => h.elim
  | some _ :: _, [], _, _, _, _, h, _ => h.elim
theorem OkS.rep : ∀ {Γ : Tys} {σ : L2.St} {H : Hp} (i : Nat) {R : Ty}, OkS Γ σ H → (∃ v, σ[i]? = some (some v) ∧ R.r v H) → OkS (Γ.set i (some R)) σ H
  | [], [], _, _, _, _, _ => trivial
  | none :: Γ, o :: σ, _, 0, R, h, ⟨v, e, r⟩ => ⟨⟨v, Option.some.inj e, r⟩, h⟩
  | none :: Γ, _ :: σ, _, i + 1, R, h, r => OkS.rep (Γ := Γ) (σ := σ) i h r
  | some _ :: Γ, _ :: σ, _, 0, R, h, ⟨v, e, r⟩ => ⟨⟨v, Option.some.inj e, r⟩, h.2⟩
  | some _ :: Γ, _ :: σ, _, i + 1, R, h, r => ⟨h.1, OkS.rep (Γ := Γ) (σ := σ) i h.2 r⟩
  | [], _ :: _, _, _, _, h, _ => h.elim
  | none :: _, [], _, _, _, h, _ => h.elim
  | some _ :: _, [], _, _, _, h, _ => h.elim
theorem OkS.forget : ∀ {Γ : Tys} {σ : L2.St} {H : Hp} (i : Nat), OkS Γ σ H → OkS (Γ.set i none) σ H
  | [], [], _, _, _ => trivial
  | none :: Γ, o :: σ, _, 0, h => h
  | none :: Γ, _ :: σ, _, i + 1, h => OkS.forget (Γ := Γ) (σ := σ) i h
  | some _ :: Γ, _ :: σ, _, 0, h => h.2
  | some _ :: Γ, _ :: σ, _, i + 1, h => ⟨h.1, OkS.forget (Γ := Γ) (σ := σ) i h.2⟩
  | [], _ :: _, _, _, h => h.elim
  | none :: _, [], _, _, h => h.elim
  | some _ :: _, [], _, _, h => h.elim
theorem OkS.forgetS : ∀ {Γ : Tys} {σ : L2.St} {H : Hp} (i : Nat), OkS Γ σ H → ∀ o, OkS (Γ.set i none) (σ.set i o) H
  | [], [], _, _, _, _ => trivial
  | none :: Γ, _ :: σ, _, 0, h, _ => h
  | none :: Γ, _ :: σ, _, i + 1, h, o => OkS.forgetS (Γ := Γ) (σ := σ) i h o
  | some _ :: Γ, _ :: σ, _, 0, h, _ => h.2
  | some _ :: Γ, _ :: σ, _, i + 1, h, o => ⟨h.1, OkS.forgetS (Γ := Γ) (σ := σ) i h.2 o⟩
  | [], _ :: _, _, _, h, _ => h.elim
  | none :: _, [], _, _, h, _ => h.elim
  | some _ :: _, [], _, _, h, _ => h.elim
def wipeT (Γ : Tys) : List Nat → Tys
  | [] => Γ
  | v :: vs => (wipeT Γ vs).set v none
theorem OkS.wipe {Γ : Tys} {σ : L2.St} {H : Hp} (h : OkS Γ σ H) : ∀ vs : List Nat, OkS (wipeT Γ vs) (L2.wipe σ vs) H
  | [] => h
  | v :: vs => OkS.forgetS v (OkS.wipe h vs) none
theorem okS_start : ∀ {Rs : List Ty} {vs : List V} {H : Hp} (n : Nat), AllR Rs vs H → OkS (Rs.map some ++ List.replicate n none) (vs.map some ++ List.replicate n none) H
  | [], [], H, n, _ => by
    show OkS (List.replicate n none) (List.replicate n none) H
    induction n with
    | zero => trivial
    | succ n ih => exact ih
  | R :: Rs, v :: vs, H, n, h => ⟨⟨v, rfl, h.1⟩, okS_start n h.2⟩
  | [], _ :: _, _, _, h => h.elim
  | _ :: _, [], _, _, h => h.elim
/-! ### two heaps: G, what stays as it is, within H, all that is tracked -/
structure GS (G H G2 H2 : Hp) : Prop where
  g : Same G G2
  h : Same H H2
  sub : Same G2 H2
  fr : ∀ a, H a ≠ none → G a = none → G2 a = none
theorem Same.some {H H' : Hp} (s : Same H H') {a : Addr} (h : H a ≠ none) : H' a ≠ none := by
  cases e : H a with
  | none => exact absurd e h
  | some o =>
    rw [s a o e]
    exact fun z => nomatch z
theorem GS.refl {G H : Hp} (s : Same G H) : GS G H G H := ⟨Same.refl _, Same.refl _, s, fun _ _ h => h⟩
theorem GS.trans {G H G1 H1 G2 H2 : Hp} (a : GS G H G1 H1) (b : GS G1 H1 G2 H2) : GS G H G2 H2 :=
  ⟨a.g.trans b.g, a.h.trans b.h, b.sub, fun x h1 h2 => b.fr x (Same.some a.h h1) (a.fr x h1 h2)⟩
theorem same_new {H : Hp} {p : Addr} {o : HO} (h : H p = none) : Same H (upd H p o) := fun b x e => by
  rw [upd_ne (ne_of_none e h)]
  exact e
/-- a new object, known from now on -/
theorem GS.new {G H : Hp} {p : Addr} {o : HO} (s : Same G H) (h : H p = none) : GS G H (upd G p o) (upd H p o) :=
  ⟨same_new (s.free h), same_new h, fun b x e => by
    by_cases hb : b = p
    · subst hb
      rw [upd_same] at e ⊢
      exact e
    · rw [upd_ne hb] at e ⊢
      exact s b x e, fun a h1 h2 => by
    have : a ≠ p := fun z => h1 (by rw [z]; exact h)
    rw [upd_ne this]
    exact h2⟩
/-- a new object that may change -/
theorem GS.hid {G H : Hp} {p : Addr} {o : HO} (s : Same G H) (h : H p = none) : GS G H G (upd H p o) :=
  ⟨Same.refl _, same_new h, s.trans (same_new h), fun _ _ e => e⟩
/-- what the walk keeps besides -/
structure Wd where
  r : Hp → Hp → Prop
  ign : Addr → Prop
  pure : ∀ G H G2 H2, Same G H → r G H → GS G H G2 H2 → r G2 H2
  fresh : ∀ G H p, r G H → H p = none → ign p
  chg : ∀ G H p o, r G H → ign p → G p = none → r G (upd H p o)
  grow : ∀ G H p o, r G H → ign p → H p = some o → G p = none → r (upd G p o) H
def wP (G0 H0 : Hp) : Wd where
  r := fun G H => GS G0 H0 G H
  ign := fun p => H0 p = none
  pure := fun _ _ _ _ _ a b => a.trans b
  fresh := fun _ _ _ a h => a.h.free h
  chg := fun G H p o a hp hg => ⟨a.g, fun b x e => by
    rw [upd_ne (ne_of_none e hp)]
    exact a.h b x e, fun b x e => by
    rw [upd_ne (ne_of_none e hg)]
    exact a.sub b x e, a.fr⟩
  grow := fun G H p o a hp hh hg => ⟨a.g.trans (same_new hg), a.h, fun b x e => by
    by_cases hb : b = p
    · subst hb
      rw [upd_same] at e
      rw [hh]
      exact e
    · rw [upd_ne hb] at e
      exact a.sub b x e, fun b h1 h2 => by
    have : b ≠ p := fun z => h1 (by rw [z]; exact hp)
    rw [upd_ne this]
    exact a.fr b h1 h2⟩
/-- a list of one's own at l, of such items -/
def wM (W : Wd) (l : Addr) (Rs : List Ty) : Wd where
  r := fun G H => W.r G H ∧ W.ign l ∧ G l = none ∧ ∃ xs, H l = some (.lst xs) ∧ AllR Rs xs G
  ign := fun p => W.ign p ∧ p ≠ l
  pure := fun G H G2 H2 s ⟨a, i, g, xs, h, al⟩ b => ⟨W.pure _ _ _ _ s a b, i, b.fr l (by rw [h]; exact fun z => nomatch z) g, xs, b.h _ _ h, al.mono b.g⟩
  fresh := fun G H p ⟨a, i, g, xs, h, al⟩ hp => ⟨W.fresh _ _ _ a hp, fun z => by
    rw [z, h] at hp
    cases hp⟩
  chg := fun G H p o ⟨a, i, g, xs, h, al⟩ hp hg => ⟨W.chg _ _ _ _ a hp.1 hg, i, g, xs, by
    rw [upd_ne hp.2.symm]
    exact h, al⟩
  grow := fun G H p o ⟨a, i, g, xs, h, al⟩ hp hh hg => ⟨W.grow _ _ _ _ a hp.1 hh hg, i, by
    rw [upd_ne hp.2.symm]
    exact g, xs, h, al.mono (same_new hg)⟩
/-! ### what a reading gives, by types -/
def EE (te : TE) (Γ : Tys) (W : Wd) (R : Ty) : Prop := ∀ σ G H, OkS Γ σ G → Same G H → W.r G H → ∀ Q : VK, (∀ v G2 H2, Same G G2 → Same G2 H2 → W.r G2 H2 → R.r v G2 → Q v H2) → te σ H Q
def EA (ta : TA) (Γ : Tys) (W : Wd) (Rs : List Ty) : Prop := ∀ σ G H, OkS Γ σ G → Same G H → W.r G H → ∀ Q : List V → Hp → Prop, (∀ vs G2 H2, Same G G2 → Same G2 H2 → W.r G2 H2 → AllR Rs vs G2 → Q vs H2) → ta σ H Q
def ET (tt : TT) (Γ : Tys) (W : Wd) (b : Bool) : Prop := ∀ σ G H, OkS Γ σ G → Same G H → W.r G H → ∀ Q : Bool → Hp → Prop, (∀ G2 H2, Same G G2 → Same G2 H2 → W.r G2 H2 → Q b H2) → tt σ H Q
/-- by values: an operation of two, of one, a call -/
def OT (r : R2) (Ra Rb R : Ty) : Prop := ∀ x y G H, Same G H → Ra.r x G → Rb.r y G → ∀ Q : VK, (∀ v G2 H2, GS G H G2 H2 → R.r v G2 → Q v H2) → r x y H Q
def UT (r : V → Hp → VK → Prop) (Ra R : Ty) : Prop := ∀ x G H, Same G H → Ra.r x G → ∀ Q : VK, (∀ v G2 H2, GS G H G2 H2 → R.r v G2 → Q v H2) → r x H Q
def CT (r : List V → Hp → VK → Prop) (Rs : List Ty) (R : Ty) : Prop := ∀ xs G H, Same G H → AllR Rs xs G → ∀ Q : VK, (∀ v G2 H2, GS G H G2 H2 → R.r v G2 → Q v H2) → r xs H Q
section
variable {Γ : Tys} {W : Wd} {R S Ra Rb : Ty} {Rs : List Ty} {te ta tb tc : TE} {t : TA}
theorem EE.sub (h : EE te Γ W R) (k : R.le S) : EE te Γ W S := fun σ G H o s w Q q => h σ G H o s w Q fun v G2 H2 a b c d => q v G2 H2 a b c (k _ _ d)
theorem ee_var {i : Nat} (h : Γ[i]? = some (some R)) : EE (tVar i) Γ W R := fun σ G H o s w Q q => by
  obtain ⟨v, e, r⟩ := o.get h
  exact ⟨v, e, q v G H (Same.refl _) s w r⟩
theorem ee_c {v : V} (h : ∀ G, R.r v G) : EE (tC v) Γ W R := fun σ G H o s w Q q => q v G H (Same.refl _) s w (h G)
theorem ee_i {i : Int} : EE (tC (.int i)) Γ W (yI i) := ee_c fun _ => rfl
theorem ee_b {b : Bool} : EE (tC (.bl b)) Γ W (yB b) := ee_c fun _ => rfl
theorem ee_n : EE (tC .non) Γ W yN := ee_c fun _ => rfl
theorem ee_op {r : R2} (ha : EE ta Γ W Ra) (hb : EE tb Γ W Rb) (ho : OT r Ra Rb R) : EE (tOp r ta tb) Γ W R := fun σ G H o s w Q q =>
  ha σ G H o s w _ fun x G1 H1 g1 s1 w1 r1 => hb σ G1 H1 (o.mono g1) s1 w1 _ fun y G2 H2 g2 s2 w2 r2 =>
    ho x y G2 H2 s2 (Ra.mono _ _ _ g2 r1) r2 Q fun v G3 H3 gs r3 => q v G3 H3 ((g1.trans g2).trans gs.g) gs.sub (W.pure _ _ _ _ s2 w2 gs) r3
theorem ee_un {r : V → Hp → VK → Prop} (ha : EE ta Γ W Ra) (ho : UT r Ra R) : EE (tUn r ta) Γ W R := fun σ G H o s w Q q =>
  ha σ G H o s w _ fun x G1 H1 g1 s1 w1 r1 => ho x G1 H1 s1 r1 Q fun v G3 H3 gs r3 => q v G3 H3 (g1.trans gs.g) gs.sub (W.pure _ _ _ _ s1 w1 gs) r3
theorem ea_nil : EA tNil Γ W [] := fun σ G H o s w Q q => q [] G H (Same.refl _) s w trivial
theorem ea_cons {tr : TA} (ha : EE ta Γ W R) (hr : EA tr Γ W Rs) : EA (tCons ta tr) Γ W (R :: Rs) := fun σ G H o s w Q q =>
  ha σ G H o s w _ fun x G1 H1 g1 s1 w1 r1 => hr σ G1 H1 (o.mono g1) s1 w1 _ fun ys G2 H2 g2 s2 w2 r2 => q (x :: ys) G2 H2 (g1.trans g2) s2 w2 ⟨R.mono _ _ _ g2 r1, r2⟩
theorem ee_cb {r : List V → Hp → VK → Prop} (ha : EA t Γ W Rs) (ho : CT r Rs R) : EE (tCB r t) Γ W R := fun σ G H o s w Q q =>
  ha σ G H o s w _ fun xs G1 H1 g1 s1 w1 r1 => ho xs G1 H1 s1 r1 Q fun v G3 H3 gs r3 => q v G3 H3 (g1.trans gs.g) gs.sub (W.pure _ _ _ _ s1 w1 gs) r3
theorem szl {n : Nat} (h : n ≤ 100000) : n ≤ sizeLine := Nat.le_trans h (by decide)
theorem ee_tup {K : PySem.W.Frag} (ha : EA t Γ W Rs) (hl : Rs.length ≤ 100000) : EE (tTup t) Γ W (yT K Rs) := fun σ G H o s w Q q =>
  ha σ G H o s w _ fun xs G1 H1 g1 s1 w1 r1 => ⟨by rw [r1.len]; exact szl hl, fun p hp =>
    have gs := GS.new (o := .tup xs) s1 hp
    q (.ref p) _ _ (g1.trans gs.g) gs.sub (W.pure _ _ _ _ s1 w1 gs) ⟨p, xs, rfl, .inl (.inl upd_same), r1.mono gs.g⟩⟩
theorem ee_lst (ha : EA t Γ W Rs) (hl : Rs.length ≤ 100000) : EE (tLst t) Γ W (yL Rs) := fun σ G H o s w Q q =>
  ha σ G H o s w _ fun xs G1 H1 g1 s1 w1 r1 => ⟨by rw [r1.len]; exact szl hl, fun p hp =>
    have gs := GS.new (o := .lst xs) s1 hp
    q (.ref p) _ _ (g1.trans gs.g) gs.sub (W.pure _ _ _ _ s1 w1 gs) ⟨p, xs, rfl, upd_same, r1.mono gs.g⟩⟩
theorem ee_if {c : TT} {b : Bool} (hc : ET c Γ W b) (h1 : b = true → EE ta Γ W R) (h2 : b = false → EE tb Γ W R) : EE (tIf c ta tb) Γ W R := fun σ G H o s w Q q =>
  hc σ G H o s w _ fun G1 H1 g1 s1 w1 => by
    cases b with
    | true => exact h1 rfl σ G1 H1 (o.mono g1) s1 w1 Q fun v G2 H2 a b c d => q v G2 H2 (g1.trans a) b c d
    | false => exact h2 rfl σ G1 H1 (o.mono g1) s1 w1 Q fun v G2 H2 a b c d => q v G2 H2 (g1.trans a) b c d
theorem ee_and {a b : Bool} (h1 : EE ta Γ W (yB a)) (h2 : a = true → EE tb Γ W (yB b)) : EE (tAndV ta tb) Γ W (yB (a && b)) := fun σ G H o s w Q q =>
  h1 σ G H o s w _ fun v G1 H1 g1 s1 w1 r1 => ⟨a, r1, by
    cases a with
    | true => exact h2 rfl σ G1 H1 (o.mono g1) s1 w1 Q fun v G2 H2 a b c d => q v G2 H2 (g1.trans a) b c d
    | false => exact q _ G1 H1 g1 s1 w1 rfl⟩
theorem ee_or {a b : Bool} (h1 : EE ta Γ W (yB a)) (h2 : a = false → EE tb Γ W (yB b)) : EE (tOrV ta tb) Γ W (yB (a || b)) := fun σ G H o s w Q q =>
  h1 σ G H o s w _ fun v G1 H1 g1 s1 w1 r1 => ⟨a, r1, by
    cases a with
    | false => exact h2 rfl σ G1 H1 (o.mono g1) s1 w1 Q fun v G2 H2 a b c d => q v G2 H2 (g1.trans a) b c d
    | true => exact q _ G1 H1 g1 s1 w1 rfl⟩
theorem ee_not {a : Bool} (h1 : EE ta Γ W (yB a)) : EE (tNotV ta) Γ W (yB (!a)) := fun σ G H o s w Q q =>
  h1 σ G H o s w _ fun v G1 H1 g1 s1 w1 r1 => ⟨a, r1, q _ G1 H1 g1 s1 w1 rfl⟩
theorem et_test {b : Bool} (h : EE te Γ W (yB b)) : ET (tTest te) Γ W b := fun σ G H o s w Q q => h σ G H o s w _ fun v G1 H1 g1 s1 w1 r1 => ⟨b, r1, q G1 H1 g1 s1 w1⟩
theorem et_B {b : Bool} (h : EE te Γ W (yB b)) : ET (L2.tB te) Γ W b := fun σ G H o s w Q q => h σ G H o s w _ fun v G1 H1 g1 s1 w1 r1 => ⟨b, r1, q G1 H1 g1 s1 w1⟩
variable {tt uu : TT}
theorem et_and {a b : Bool} (h1 : ET tt Γ W a) (h2 : a = true → ET uu Γ W b) : ET (tAnd tt uu) Γ W (a && b) := fun σ G H o s w Q q => h1 σ G H o s w _ fun G1 H1 g1 s1 w1 => by
  cases a with
  | true => exact h2 rfl σ G1 H1 (o.mono g1) s1 w1 Q fun G2 H2 a b c => q G2 H2 (g1.trans a) b c
  | false => exact q G1 H1 g1 s1 w1
theorem et_or {a b : Bool} (h1 : ET tt Γ W a) (h2 : a = false → ET uu Γ W b) : ET (tOr tt uu) Γ W (a || b) := fun σ G H o s w Q q => h1 σ G H o s w _ fun G1 H1 g1 s1 w1 => by
  cases a with
  | false => exact h2 rfl σ G1 H1 (o.mono g1) s1 w1 Q fun G2 H2 a b c => q G2 H2 (g1.trans a) b c
  | true => exact q G1 H1 g1 s1 w1
theorem et_not {a : Bool} (h1 : ET tt Γ W a) : ET (tNot tt) Γ W (!a) := fun σ G H o s w Q q => h1 σ G H o s w _ fun G1 H1 g1 s1 w1 => q G1 H1 g1 s1 w1
theorem et_is {a b : Bool} (h1 : ET tt Γ W a) (e : a = b) : ET tt Γ W b := e ▸ h1
theorem et_yes : ET tYes Γ W true := fun σ G H o s w Q q => q G H (Same.refl _) s w
theorem ee_chain {r r' : R2} {a b : Bool} {Rc : Ty} (ha : EE ta Γ W Ra) (hb : EE tb Γ W Rb) (ho : OT r Ra Rb (yB a)) (hc : EE tc Γ W Rc) (ho' : OT r' Rb Rc (yB b)) : EE (tChain r r' ta tb tc) Γ W (yB (a && b)) := fun σ G H o s w Q q =>
  ha σ G H o s w _ fun x G1 H1 g1 s1 w1 r1 => hb σ G1 H1 (o.mono g1) s1 w1 _ fun y G2 H2 g2 s2 w2 r2 =>
    ho x y G2 H2 s2 (Ra.mono _ _ _ g2 r1) r2 _ fun v G3 H3 gs r3 => ⟨a, r3, by
      have w3 := W.pure _ _ _ _ s2 w2 gs
      cases a with
      | true =>
        show tc σ H3 _
        exact hc σ G3 H3 (o.mono ((g1.trans g2).trans gs.g)) gs.sub w3 _ fun z G4 H4 g4 s4 w4 r4 =>
          ho' y z G4 H4 s4 (Rb.mono _ _ _ (gs.g.trans g4) r2) r4 Q fun v G5 H5 gs5 r5 => q v G5 H5 ((((g1.trans g2).trans gs.g).trans g4).trans gs5.g) gs5.sub (W.pure _ _ _ _ s4 w4 gs5) (by simpa using r5)
      | false => exact q _ G3 H3 ((g1.trans g2).trans gs.g) gs.sub w3 rfl⟩
end
end LT
end
section
set_option Elab.async false
set_option linter.all false
set_option maxRecDepth 100000
namespace LT
open PySem PySem.Spec PyProof.Rows L2
theorem AllR.one {A : Ty} : ∀ {vs : List V} {H : Hp}, AllR [A] vs H → ∃ v, vs = [v] ∧ A.r v H
  | [], _, h => h.elim
  | [v], _, h => ⟨v, rfl, h.1⟩
  | _ :: _ :: _, _, h => h.2.elim
theorem AllR.two {A B : Ty} : ∀ {vs : List V} {H : Hp}, AllR [A, B] vs H → ∃ v w, vs = [v, w] ∧ A.r v H ∧ B.r w H
  | [], _, h => h.elim
  | v :: vs, H, h => by
    obtain ⟨w, e, r⟩ := AllR.one (vs := vs) h.2
    exact ⟨v, w, by rw [e], h.1, r⟩
abbrev Nx := L2.St → Hp → Hp → Prop
/-- a statement: from the slots Γ and the world W to N, or handed back R in W0 -/
def SS (t : TS) (Γ : Tys) (W : Wd) (N : Nx) (W0 : Wd) (R : Ty) : Prop := ∀ σ G H, OkS Γ σ G → Same G H → W.r G H → ∀ D : Ends,
  (∀ σ' G2 H2, Same G G2 → Same G2 H2 → N σ' G2 H2 → D.nx σ' H2) → (∀ v G2 H2, Same G G2 → Same G2 H2 → W0.r G2 H2 → R.r v G2 → D.rt v H2) → t D σ H
/-- the slots Γ, the world W -/
def nX (Γ : Tys) (W : Wd) : Nx := fun σ G H => OkS Γ σ G ∧ W.r G H
def Wd.le (W V : Wd) : Prop := ∀ G H, W.r G H → V.r G H
theorem Wd.le.refl (W : Wd) : W.le W := fun _ _ h => h
theorem wM_le (W : Wd) (l : Addr) (Rs : List Ty) : (wM W l Rs).le W := fun _ _ h => h.1
theorem Wd.le.trans {W V U : Wd} (a : W.le V) (b : V.le U) : W.le U := fun G H h => b G H (a G H h)
/-! ### targets -/
def GT (g : TG) (R : Ty) (Γ Γ' : Tys) (js : List Nat) : Prop := ∀ v σ G H, R.r v G → Same G H → OkS Γ σ G → ∀ Q : L2.St → Hp → Prop,
  (∀ σ', OkS Γ' σ' G → σ'.length = σ.length → (∀ i, i ∉ js → σ'[i]? = σ[i]?) → Q σ' H) → g v σ H Q
def GTs (g : TGs) (Rs : List Ty) (Γ Γ' : Tys) (js : List Nat) : Prop := ∀ vs σ G H, AllR Rs vs G → Same G H → OkS Γ σ G → ∀ Q : L2.St → Hp → Prop,
  (∀ σ', OkS Γ' σ' G → σ'.length = σ.length → (∀ i, i ∉ js → σ'[i]? = σ[i]?) → Q σ' H) → g vs σ H Q
section
variable {Γ Γ1 Γ2 : Tys} {W W0 : Wd} {R S Ra Rb Rc : Ty} {Rs : List Ty} {te ta tb tc : TE} {t : TA} {N : Nx} {u tu tw tz : TS} {g : TG} {gs : TGs} {js ks : List Nat} {K : PySem.W.Frag}
theorem gt_name {i : Nat} : GT (gName i) R Γ (Γ.set i (some R)) [i] := fun v σ G H r s o Q q => q _ (o.set i r) (List.length_set ..) fun j hj => List.getElem?_set_ne (fun z => hj (by simp [z]))
theorem gts_nil : GTs gNil [] Γ Γ [] := fun vs σ G H a s o Q q => by
  cases vs with
  | nil => exact ⟨rfl, q σ o rfl fun _ _ => rfl⟩
  | cons _ _ => exact a.elim
theorem gts_cons (h1 : GT g R Γ Γ1 js) (h2 : GTs gs Rs Γ1 Γ2 ks) : GTs (gCons g gs) (R :: Rs) Γ Γ2 (js ++ ks) := fun vs σ G H a s o Q q => by
  cases vs with
  | nil => exact a.elim
  | cons v vs => exact ⟨v, vs, rfl, h1 v σ G H a.1 s o _ fun σ1 o1 l1 f1 => h2 vs σ1 G H a.2 s o1 Q fun σ2 o2 l2 f2 => q σ2 o2 (l2.trans l1) fun i hi =>
      (f2 i fun z => hi (List.mem_append_right _ z)).trans (f1 i fun z => hi (List.mem_append_left _ z))⟩
theorem gt_tup {n : Nat} (h : GTs gs Rs Γ Γ1 js) (hn : Rs.length = n) : GT (gTup K n gs) (yT K Rs) Γ Γ1 js := fun v σ G H r s o Q q => by
  obtain ⟨p, xs, rfl, ht, a⟩ := r
  exact ⟨p, xs, rfl, same_t s ht, a.len.trans hn, h xs σ G H a s o Q q⟩
/-! ### statements, one after another -/
theorem ss_set {Γ1 : Tys} (h : EE te Γ W R) (hg : GT g R Γ Γ1 js) (k : SS u Γ1 W N W0 S) : SS (tSeq (tAsg te g) u) Γ W N W0 S := fun σ G H o s w D n r =>
  h σ G H o s w _ fun v G1 H1 g1 s1 w1 r1 => hg v σ G1 H1 r1 s1 (o.mono g1) _ fun σ1 o1 _ _ => k σ1 G1 H1 o1 s1 w1 D (fun σ' G2 H2 a => n σ' G2 H2 (g1.trans a)) fun v G2 H2 a => r v G2 H2 (g1.trans a)
theorem ss_asg {i : Nat} (h : EE te Γ W R) (k : SS u (Γ.set i (some R)) W N W0 S) : SS (tSeq (tAsg te (gName i)) u) Γ W N W0 S := ss_set h gt_name k
theorem ss_drop (h : EE te Γ W R) (k : SS u Γ W N W0 S) : SS (tSeq (tDrop te) u) Γ W N W0 S := fun σ G H o s w D n r =>
  h σ G H o s w _ fun v G1 H1 g1 s1 w1 r1 => k σ G1 H1 (o.mono g1) s1 w1 D (fun σ' G2 H2 a => n σ' G2 H2 (g1.trans a)) fun v G2 H2 a => r v G2 H2 (g1.trans a)
theorem ss_par {i j : Nat} (h : EA t Γ W [Ra, Rb]) (k : SS u ((Γ.set i (some Ra)).set j (some Rb)) W N W0 S) : SS (tSeq (tPar i j t) u) Γ W N W0 S := fun σ G H o s w D n r =>
  h σ G H o s w _ fun vs G1 H1 g1 s1 w1 r1 => by
    obtain ⟨v, w', rfl, rv, rw'⟩ := r1.two
    exact ⟨v, w', rfl, k _ G1 H1 (((o.mono g1).set i rv).set j rw') s1 w1 D (fun σ' G2 H2 a => n σ' G2 H2 (g1.trans a)) fun v G2 H2 a => r v G2 H2 (g1.trans a)⟩
theorem ss_if {c : TT} {b : Bool} (hc : ET c Γ W b) (h1 : b = true → SS (tSeq tu u) Γ W N W0 S) (h2 : b = false → SS (tSeq tw u) Γ W N W0 S) : SS (tSeq (tIfS c tu tw) u) Γ W N W0 S := fun σ G H o s w D n r =>
  hc σ G H o s w _ fun G1 H1 g1 s1 w1 => by
    cases b with
    | true => exact h1 rfl σ G1 H1 (o.mono g1) s1 w1 D (fun σ' G2 H2 a => n σ' G2 H2 (g1.trans a)) fun v G2 H2 a => r v G2 H2 (g1.trans a)
    | false => exact h2 rfl σ G1 H1 (o.mono g1) s1 w1 D (fun σ' G2 H2 a => n σ' G2 H2 (g1.trans a)) fun v G2 H2 a => r v G2 H2 (g1.trans a)
theorem ss_skip (h : SS u Γ W N W0 S) : SS (tSeq tNext u) Γ W N W0 S := h
theorem ss_seq (h : SS (tSeq tu (tSeq tw u)) Γ W N W0 S) : SS (tSeq (tSeq tu tw) u) Γ W N W0 S := h
theorem ss_last (h : SS (tSeq tu tNext) Γ W N W0 S) : SS tu Γ W N W0 S := h
theorem ss_next (h : ∀ σ G H, OkS Γ σ G → Same G H → W.r G H → N σ G H) : SS tNext Γ W N W0 S := fun σ G H o s w D n r => n σ G H (Same.refl _) s (h σ G H o s w)
theorem ss_ret (h : EE te Γ W S) (hw : W.le W0) : SS (tRet te) Γ W N W0 S := fun σ G H o s w D n r => h σ G H o s w _ fun v G1 H1 g1 s1 w1 r1 => r v G1 H1 g1 s1 (hw _ _ w1) r1
theorem ss_ret1 (h : EE te Γ W S) (hw : W.le W0) : SS (tSeq (tRet te) u) Γ W N W0 S := ss_ret h hw
theorem SS.sub (h : SS u Γ W N W0 R) (k : R.le S) : SS u Γ W N W0 S := fun σ G H o s w D n r => h σ G H o s w D n fun v G2 H2 a b c d => r v G2 H2 a b c (k _ _ d)
/-- what a slot's type tells -/
theorem ss_openE {α : Type} {i : Nat} {F : α → Ty} (hi : Γ[i]? = some (some (yE F))) (k : ∀ a, SS u (Γ.set i (some (F a))) W N W0 S) : SS u Γ W N W0 S := fun σ G H o s w => by
  obtain ⟨v, e, a, r⟩ := o.get hi
  exact k a σ G H (o.rep i ⟨v, e, r⟩) s w
theorem ss_openW {p : Prop} {i : Nat} {F : Ty} (hi : Γ[i]? = some (some (yW p F))) (k : p → SS u (Γ.set i (some F)) W N W0 S) : SS u Γ W N W0 S := fun σ G H o s w => by
  obtain ⟨v, e, a, r⟩ := o.get hi
  exact k a σ G H (o.rep i ⟨v, e, r⟩) s w
theorem ss_as {i : Nat} (hi : Γ[i]? = some (some R)) (hl : R.le Ra) (k : SS u (Γ.set i (some Ra)) W N W0 S) : SS u Γ W N W0 S := fun σ G H o s w => by
  obtain ⟨v, e, r⟩ := o.get hi
  exact k σ G H (o.rep i ⟨v, e, hl _ _ r⟩) s w
theorem ss_forget (i : Nat) (k : SS u (Γ.set i none) W N W0 S) : SS u Γ W N W0 S := fun σ G H o s w => k σ G H (o.forget i) s w
/-! ### a list of one's own -/
theorem ss_newL {i : Nat} (h : EA t Γ W Rs) (hl : Rs.length ≤ 100000) (k : ∀ l, W.ign l → SS u (Γ.set i (some (yAt l))) (wM W l Rs) N W0 S) : SS (tSeq (tAsg (tLst t) (gName i)) u) Γ W N W0 S := fun σ G H o s w D n r =>
  h σ G H o s w _ fun xs G1 H1 g1 s1 w1 r1 => ⟨by rw [r1.len]; exact szl hl, fun p hp => by
    have gs := GS.hid (o := .lst xs) s1 hp
    have w2 : W.r G1 (upd H1 p (.lst xs)) := W.pure _ _ _ _ s1 w1 gs
    exact k p (W.fresh _ _ _ w1 hp) _ G1 _ ((o.mono g1).set i rfl) gs.sub ⟨w2, W.fresh _ _ _ w1 hp, s1.free hp, xs, upd_same, r1⟩ D (fun σ' G2 H2 a => n σ' G2 H2 (g1.trans a)) fun v G2 H2 a => r v G2 H2 (g1.trans a)⟩
/-- it stays from now on as it is -/
theorem ss_freeze {l : Addr} {i : Nat} (hi : Γ[i]? = some (some (yAt l))) (k : SS u (Γ.set i (some (yL Rs))) W N W0 S) : SS u Γ (wM W l Rs) N W0 S := fun σ G H o s w D n r => by
  obtain ⟨w, ig, gl, xs, hl, al⟩ := w
  have sg : Same G (upd G l (.lst xs)) := same_new gl
  have sh : Same (upd G l (.lst xs)) H := fun b x e => by
    by_cases hb : b = l
    · subst hb
      rw [upd_same] at e
      rw [hl]
      exact e
    · rw [upd_ne hb] at e
      exact s b x e
  obtain ⟨v, e, rv⟩ := o.get hi
  exact k σ _ H ((o.mono sg).rep i ⟨v, e, l, xs, rv, upd_same, al.mono sg⟩) sh (W.grow _ _ _ _ w ig hl gl) D (fun σ' G2 H2 a => n σ' G2 H2 (sg.trans a)) fun v G2 H2 a => r v G2 H2 (sg.trans a)
theorem upd_sub {G H : Hp} {l : Addr} {o : HO} (s : Same G H) (gl : G l = none) : Same G (upd H l o) := fun b x e => by
  rw [upd_ne (ne_of_none e gl)]
  exact s b x e
theorem wM_put {l : Addr} {G H : Hp} {Rs' : List Ty} {ys : List V} (w : (wM W l Rs).r G H) (a : AllR Rs' ys G) : (wM W l Rs').r G (upd H l (.lst ys)) := by
  obtain ⟨w, ig, gl, xs, hl, al⟩ := w
  exact ⟨W.chg _ _ _ _ w ig gl, ig, gl, ys, upd_same, a⟩
theorem ss_append {l : Addr} {i : Nat} (hi : Γ[i]? = some (some (yAt l))) (he : EE te Γ (wM W l Rs) R) (hz : Rs.length < 100000) (k : SS u Γ (wM W l (Rs ++ [R])) N W0 S) :
    SS (tSeq (tDrop (tBM K "list" rAppend (tVar i) (tCons te tNil))) u) Γ (wM W l Rs) N W0 S := fun σ G H o s w D n r => by
  obtain ⟨v, e, rv⟩ := o.get hi
  have rv' : v = .ref l := rv
  subst rv'
  obtain ⟨xs, hl, al⟩ := w.2.2.2
  refine ⟨_, e, .inl ⟨rfl, _, .inl (.inl hl)⟩, he σ G H o s w _ fun y G1 H1 g1 s1 w1 r1 => ?_⟩
  obtain ⟨xs1, hl1, al1⟩ := w1.2.2.2
  refine ⟨l, xs1, y, rfl, rfl, hl1, by rw [al1.len]; exact Nat.lt_of_lt_of_le hz (by decide), ?_⟩
  exact k σ G1 _ (o.mono g1) (upd_sub s1 w1.2.2.1) (wM_put w1 (al1.app (Ss := [R]) (ys := [y]) ⟨r1, trivial⟩)) D (fun σ' G2 H2 a => n σ' G2 H2 (g1.trans a)) fun v G2 H2 a => r v G2 H2 (g1.trans a)
/-- x = a + b, lists -/
theorem ss_cat {i : Nat} {Rs' : List Ty} (ha : EE ta Γ W (yL Rs)) (hb : EE tb Γ W (yL Rs')) (hz : Rs.length + Rs'.length ≤ 100000) (k : ∀ l, W.ign l → SS u (Γ.set i (some (yAt l))) (wM W l (Rs ++ Rs')) N W0 S) :
    SS (tSeq (tAsg (tOp rCat ta tb) (gName i)) u) Γ W N W0 S := fun σ G H o s w D n r =>
  ha σ G H o s w _ fun x G1 H1 g1 s1 w1 r1 => hb σ G1 H1 (o.mono g1) s1 w1 _ fun y G2 H2 g2 s2 w2 r2 => by
    obtain ⟨p, xs, rfl, hp, ap⟩ := r1
    obtain ⟨q, ys, rfl, hq, aq⟩ := r2
    refine ⟨p, q, xs, ys, rfl, rfl, s2 _ _ (g2 _ _ hp), s2 _ _ hq, by rw [ap.len, aq.len]; exact szl hz, fun l hl => ?_⟩
    have gs := GS.hid (o := .lst (xs ++ ys)) s2 hl
    exact k l (W.fresh _ _ _ w2 hl) _ G2 _ ((o.mono (g1.trans g2)).set i rfl) gs.sub ⟨W.pure _ _ _ _ s2 w2 gs, W.fresh _ _ _ w2 hl, s2.free hl, _, upd_same, (ap.mono g2).app aq⟩ D
      (fun σ' G2 H2 a => n σ' G2 H2 ((g1.trans g2).trans a)) fun v G2 H2 a => r v G2 H2 ((g1.trans g2).trans a)
theorem ee_cat {Rs' : List Ty} (ha : EE ta Γ W (yL Rs)) (hb : EE tb Γ W (yL Rs')) (hz : Rs.length + Rs'.length ≤ 100000) : EE (tOp rCat ta tb) Γ W (yL (Rs ++ Rs')) :=
  ee_op ha hb fun x y G H s r1 r2 Q q => by
    obtain ⟨p, xs, rfl, hp, ap⟩ := r1
    obtain ⟨p2, ys, rfl, hq, aq⟩ := r2
    refine ⟨p, p2, xs, ys, rfl, rfl, s _ _ hp, s _ _ hq, by rw [ap.len, aq.len]; exact szl hz, fun l hl => ?_⟩
    have gs := GS.new (o := .lst (xs ++ ys)) s hl
    exact q _ _ _ gs ⟨l, _, rfl, upd_same, (ap.mono gs.g).app (aq.mono gs.g)⟩
/-! ### walks -/
structure WalkT (J : It) (n : Nat) (Y : Nat → Ty) (G0 : Hp) : Prop where
  go : ∀ i G H, i < n → Same G0 G → Same G H → J.go i H
  yld : ∀ i G H x H', i < n → Same G0 G → Same G H → J.yld i H x H' → ∃ G', GS G H G' H' ∧ (Y i).r x G'
  stop : ∀ G H, Same G0 G → Same G H → J.stop n H
def EI (wi : TI) (Γ : Tys) (W : Wd) (n : Nat) (Y : Nat → Ty) : Prop := ∀ σ G H, OkS Γ σ G → Same G H → W.r G H → ∀ R : It → Hp → Prop,
  (∀ J G2 H2, Same G G2 → Same G2 H2 → W.r G2 H2 → WalkT J n Y G2 → R J H2) → wi σ H R
theorem ei_list (h : EE te Γ W (yL Rs)) : EI (iList K te) Γ W Rs.length (fun i => Rs.getD i yN) := fun σ G H o s w Rr q =>
  h σ G H o s w _ fun v G1 H1 g1 s1 w1 r1 => by
    obtain ⟨p, xs, rfl, hp, ap⟩ := r1
    have hs : ∀ {G H}, Same G1 G → Same G H → SqL K H p xs := fun a b => .inl (.inl (b _ _ (a _ _ hp)))
    refine ⟨p, rfl, ⟨xs, hs (Same.refl _) s1⟩, q _ G1 H1 g1 s1 w1 ⟨fun i G H hi a b => ?_, fun i G H x H' hi a b y => ?_, fun G H a b => ⟨xs, hs a b, Nat.le_of_eq ap.len⟩⟩⟩
    · have hx : i < xs.length := by rw [ap.len]; exact hi
      exact ⟨xs, xs[i], hs a b, List.getElem?_eq_getElem hx⟩
    · obtain ⟨rfl, y⟩ := y
      obtain ⟨R, e, r⟩ := ap.getv (y xs (hs a b))
      exact ⟨G, GS.refl b, by
        show (Rs.getD i yN).r x G
        rw [List.getD_eq_getElem?_getD, e]
        exact R.mono _ _ _ a r⟩
theorem ei_tup (h : EE te Γ W (yT K Rs)) : EI (iTup K te) Γ W Rs.length (fun i => Rs.getD i yN) := fun σ G H o s w Rr q =>
  h σ G H o s w _ fun v G1 H1 g1 s1 w1 r1 => by
    obtain ⟨p, xs, rfl, hp, ap⟩ := r1
    have hs : ∀ {G H}, Same G1 G → Same G H → SqT K H p xs := fun a b => same_t b (same_t a hp)
    refine ⟨p, rfl, ⟨xs, hs (Same.refl _) s1⟩, q _ G1 H1 g1 s1 w1 ⟨fun i G H hi a b => ?_, fun i G H x H' hi a b y => ?_, fun G H a b => ⟨xs, hs a b, Nat.le_of_eq ap.len⟩⟩⟩
    · have hx : i < xs.length := by rw [ap.len]; exact hi
      exact ⟨xs, xs[i], hs a b, List.getElem?_eq_getElem hx⟩
    · obtain ⟨rfl, y⟩ := y
      obtain ⟨R, e, r⟩ := ap.getv (y xs (hs a b))
      exact ⟨G, GS.refl b, by
        show (Rs.getD i yN).r x G
        rw [List.getD_eq_getElem?_getD, e]
        exact R.mono _ _ _ a r⟩
theorem getD_some {Rs : List Ty} {i : Nat} {R d : Ty} (e : Rs[i]? = some R) : Rs.getD i d = R := by
  rw [List.getD_eq_getElem?_getD, e]
  rfl
theorem ei_zipL {Rs' : List Ty} (h : EA t Γ W [yL Rs, yL Rs']) : EI (iZip K t) Γ W (min Rs.length Rs'.length) (fun i => yT K [Rs.getD i yN, Rs'.getD i yN]) := fun σ G H o s w Rr q =>
  h σ G H o s w _ fun vs G1 H1 g1 s1 w1 r1 => by
      obtain ⟨v, v', rfl, ⟨p, xs, rfl, hp, ap⟩, ⟨p', ys, rfl, hp', ap'⟩⟩ := r1.two
      have hs : ∀ {G H}, Same G1 G → Same G H → SqL K H p xs := fun a b => .inl (.inl (b _ _ (a _ _ hp)))
      have hs' : ∀ {G H}, Same G1 G → Same G H → SqL K H p' ys := fun a b => .inl (.inl (b _ _ (a _ _ hp')))
      have l1 := ap.len
      have l2 := ap'.len
      refine ⟨p, p', xs, ys, rfl, hs (Same.refl _) s1, hs' (Same.refl _) s1, q _ G1 H1 g1 s1 w1 ⟨fun i G H hi a b => ?_, fun i G H x H' hi a b y => ?_, fun G H a b => ⟨xs, ys, hs a b, hs' a b, by omega⟩⟩⟩
      · have hx : i < xs.length := by omega
        have hy : i < ys.length := by omega
        exact ⟨xs, ys, xs[i], ys[i], hs a b, hs' a b, List.getElem?_eq_getElem hx, List.getElem?_eq_getElem hy⟩
      · obtain ⟨T, x1, x2, rfl, nT, rfl, f1, f2⟩ := y
        obtain ⟨R1, e1, k1⟩ := ap.getv (f1 xs (hs a b))
        obtain ⟨R2, e2, k2⟩ := ap'.getv (f2 ys (hs' a b))
        have gs := GS.new (o := .tup [x1, x2]) b nT
        refine ⟨_, gs, T, [x1, x2], rfl, .inl (.inl upd_same), ?_, ?_, trivial⟩
        · rw [getD_some e1]
          exact R1.mono _ _ _ (a.trans gs.g) k1
        · rw [getD_some e2]
          exact R2.mono _ _ _ (a.trans gs.g) k2
theorem ei_zipT {Rs' : List Ty} (h : EA t Γ W [yT K Rs, yT K Rs']) : EI (RZ.iZipA K t) Γ W (min Rs.length Rs'.length) (fun i => yT K [Rs.getD i yN, Rs'.getD i yN]) := fun σ G H o s w Rr q =>
  h σ G H o s w _ fun vs G1 H1 g1 s1 w1 r1 => by
      obtain ⟨v, v', rfl, ⟨p, xs, rfl, hp, ap⟩, ⟨p', ys, rfl, hp', ap'⟩⟩ := r1.two
      have hs : ∀ {G H}, Same G1 G → Same G H → SqT K H p xs := fun a b => same_t b (same_t a hp)
      have hs' : ∀ {G H}, Same G1 G → Same G H → SqT K H p' ys := fun a b => same_t b (same_t a hp')
      have l1 := ap.len
      have l2 := ap'.len
      refine ⟨p, p', xs, ys, rfl, .inr ⟨hs (Same.refl _) s1, hs' (Same.refl _) s1, q _ G1 H1 g1 s1 w1 ⟨fun i G H hi a b => ?_, fun i G H x H' hi a b y => ?_, fun G H a b => ⟨xs, ys, hs a b, hs' a b, by omega⟩⟩⟩⟩
      · have hx : i < xs.length := by omega
        have hy : i < ys.length := by omega
        exact ⟨xs, ys, xs[i], ys[i], hs a b, hs' a b, List.getElem?_eq_getElem hx, List.getElem?_eq_getElem hy⟩
      · obtain ⟨T, x1, x2, rfl, nT, rfl, f1, f2⟩ := y
        obtain ⟨R1, e1, k1⟩ := ap.getv (f1 xs (hs a b))
        obtain ⟨R2, e2, k2⟩ := ap'.getv (f2 ys (hs' a b))
        have gs := GS.new (o := .tup [x1, x2]) b nT
        refine ⟨_, gs, T, [x1, x2], rfl, .inl (.inl upd_same), ?_, ?_, trivial⟩
        · rw [getD_some e1]
          exact R1.mono _ _ _ (a.trans gs.g) k1
        · rw [getD_some e2]
          exact R2.mono _ _ _ (a.trans gs.g) k2
theorem ei_rng1 {n : Int} (h : EA t Γ W [yI n]) (hn : n < 2 ^ 62) (hn0 : -(2 ^ 62) ≤ n) : EI (iRng1 t) Γ W n.toNat (fun i => yI (i : Int)) := fun σ G H o s w Rr q =>
  h σ G H o s w _ fun vs G1 H1 g1 s1 w1 r1 => by
      obtain ⟨_, rfl, rfl⟩ := r1.one
      refine ⟨n, rfl, hn0, hn, q _ G1 H1 g1 s1 w1 ⟨fun i G H hi a b => hi, fun i G H x H' hi a b y => ?_, fun G H a b => Nat.le_refl _⟩⟩
      obtain ⟨rfl, rfl⟩ := y
      exact ⟨G, GS.refl b, by
        show V.int (0 + (i : Int)) = V.int i
        rw [Int.zero_add]⟩
theorem ei_rng2 {m n : Int} (h : EA t Γ W [yI m, yI n]) (hm : -(2 ^ 62) ≤ m ∧ m < 2 ^ 62) (hn : -(2 ^ 62) ≤ n ∧ n < 2 ^ 62) : EI (iRng2 t) Γ W (n - m).toNat (fun i => yI (m + (i : Int))) := fun σ G H o s w Rr q =>
  h σ G H o s w _ fun vs G1 H1 g1 s1 w1 r1 => by
      obtain ⟨_, _, rfl, rfl, rfl⟩ := r1.two
      refine ⟨m, n, rfl, ⟨hm.1, hm.2, hn.1, hn.2⟩, q _ G1 H1 g1 s1 w1 ⟨fun i G H hi a b => hi, fun i G H x H' hi a b y => ?_, fun G H a b => Nat.le_refl _⟩⟩
      obtain ⟨rfl, rfl⟩ := y
      exact ⟨G, GS.refl b, rfl⟩
/-- a for -/
theorem ss_for {α : Type} {n : Nat} {Y : Nat → Ty} {wi : TI} (hI : EI wi Γ W n Y) (P : Nat → α → Prop) (Γi : α → Tys) (Wi : α → Wd) (Γb : Nat → α → Tys) (a0 : α) (h0 : P 0 a0) (hs0 : ∀ σ G H, OkS Γ σ G → W.r G H → OkS (Γi a0) σ G ∧ (Wi a0).r G H)
    (hg : ∀ i a, i < n → P i a → GT g (Y i) (Γi a) (Γb i a) js) (hb : ∀ i a, i < n → P i a → SS tu (Γb i a) (Wi a) (fun σ G H => ∃ a', P (i + 1) a' ∧ OkS (Γi a') σ G ∧ (Wi a').r G H) W0 S)
    (hd : ∀ a, P n a → SS u (Γi a) (Wi a) N W0 S) : SS (tSeq (tFor wi g tu) u) Γ W N W0 S := fun σ G H o s w D nn rr =>
  hI σ G H o s w _ fun J G1 H1 g1 s1 w1 wk => by
    refine ⟨fun i m σ H => m = n - i ∧ i ≤ n ∧ ∃ a G, P i a ∧ Same G1 G ∧ Same G H ∧ OkS (Γi a) σ G ∧ (Wi a).r G H, ⟨n, rfl, Nat.zero_le _, a0, G1, h0, Same.refl _, s1, hs0 _ _ _ (o.mono g1) w1⟩, ?_⟩
    rintro i m σ2 H2 ⟨rfl, hi, a, G2, hp, e1, e2, o2, w2⟩
    by_cases hlt : i < n
    · refine .inr ⟨wk.go i G2 H2 hlt e1 e2, fun σ H => ∃ a G, P (i + 1) a ∧ Same G1 G ∧ Same G H ∧ OkS (Γi a) σ G ∧ (Wi a).r G H, fun σ' H' ⟨a', G', hp', e1', e2', o', w'⟩ => ⟨n - (i + 1), by omega, rfl, hlt, a', G', hp', e1', e2', o', w'⟩, fun x H' y => ?_⟩
      obtain ⟨G3, gs, rx⟩ := wk.yld i G2 H2 x H' hlt e1 e2 y
      exact hg i a hlt hp x σ2 G3 H' rx gs.sub (o2.mono gs.g) _ fun σ3 o3 _ _ => hb i a hlt hp σ3 G3 H' o3 gs.sub ((Wi a).pure _ _ _ _ e2 w2 gs) _ (fun σ' G4 H4 b1 b2 ⟨a', hp', o', w'⟩ => ⟨a', G4, hp', (e1.trans gs.g).trans b1, b2, o', w'⟩)
        fun v G4 H4 b1 => rr v G4 H4 (((g1.trans e1).trans gs.g).trans b1)
    · have e : i = n := by omega
      subst e
      exact .inl ⟨wk.stop G2 H2 e1 e2, hd a hp σ2 G2 H2 o2 e2 w2 D (fun σ' G4 H4 b1 => nn σ' G4 H4 ((g1.trans e1).trans b1)) fun v G4 H4 b1 => rr v G4 H4 ((g1.trans e1).trans b1)⟩
/-- a while -/
theorem ss_while {α : Type} {c : TT} (P : Nat → α → Prop) (Γi : α → Tys) (Wi : α → Wd) (m0 : Nat) (a0 : α) (h0 : P m0 a0) (hs0 : ∀ σ G H, OkS Γ σ G → W.r G H → OkS (Γi a0) σ G ∧ (Wi a0).r G H)
    (hb : ∀ m a, P m a → ∃ b, ET c (Γi a) (Wi a) b ∧ (b = true → SS tu (Γi a) (Wi a) (fun σ G H => ∃ m' a', m' < m ∧ P m' a' ∧ OkS (Γi a') σ G ∧ (Wi a').r G H) W0 S) ∧ (b = false → SS u (Γi a) (Wi a) N W0 S)) :
    SS (tSeq (tWhile c tu) u) Γ W N W0 S := fun σ G H o s w D nn rr => by
  refine ⟨fun m σ H => ∃ a G2, P m a ∧ Same G G2 ∧ Same G2 H ∧ OkS (Γi a) σ G2 ∧ (Wi a).r G2 H, ⟨m0, a0, G, h0, Same.refl _, s, hs0 _ _ _ o w⟩, ?_⟩
  rintro m σ2 H2 ⟨a, G2, hp, e1, e2, o2, w2⟩
  obtain ⟨b, hc, ht, hf⟩ := hb m a hp
  refine hc σ2 G2 H2 o2 e2 w2 _ fun G3 H3 g3 s3 w3 => ?_
  cases b with
  | true =>
    exact ⟨fun σ H => ∃ m', m' < m ∧ ∃ a G2, P m' a ∧ Same G G2 ∧ Same G2 H ∧ OkS (Γi a) σ G2 ∧ (Wi a).r G2 H, fun _ _ h => h, ht rfl σ2 G3 H3 (o2.mono g3) s3 w3 _ (fun σ' G4 H4 b1 b2 ⟨m', a', hm, hp', o', w'⟩ => ⟨m', hm, a', G4, hp', (e1.trans g3).trans b1, b2, o', w'⟩)
      fun v G4 H4 b1 => rr v G4 H4 ((e1.trans g3).trans b1)⟩
  | false =>
    exact hf rfl σ2 G3 H3 (o2.mono g3) s3 w3 D (fun σ' G4 H4 b1 => nn σ' G4 H4 ((e1.trans g3).trans b1)) fun v G4 H4 b1 => rr v G4 H4 ((e1.trans g3).trans b1)
/-! ### comprehensions -/
theorem wipe_at {σ : L2.St} : ∀ (vs : List Nat) (i : Nat), (L2.wipe σ vs)[i]? = if i ∈ vs ∧ i < σ.length then some none else σ[i]?
  | [], i => by
    rw [if_neg (by simp)]
    rfl
  | v :: vs, i => by
    show ((L2.wipe σ vs).set v none)[i]? = _
    by_cases h : v = i
    · subst h
      by_cases hl : v < σ.length
      · rw [List.getElem?_set_self (by rw [wipe_length]; exact hl), if_pos ⟨by simp, hl⟩]
      · rw [if_neg (fun z => hl z.2), List.getElem?_eq_none (by rw [List.length_set, wipe_length]; omega), List.getElem?_eq_none (by omega)]
    · rw [List.getElem?_set_ne h, wipe_at vs i]
      by_cases hm : i ∈ vs ∧ i < σ.length
      · rw [if_pos hm, if_pos ⟨List.mem_cons_of_mem _ hm.1, hm.2⟩]
      · rw [if_neg hm, if_neg]
        rintro ⟨h1, h2⟩
        rcases List.mem_cons.mp h1 with z | z
        · exact h z.symm
        · exact hm ⟨z, h2⟩
theorem wipe_eq {σ σ' : L2.St} {vs js : List Nat} (hl : σ'.length = (L2.wipe σ vs).length) (hj : ∀ j ∈ js, j ∈ vs) (h : ∀ i, i ∉ js → σ'[i]? = (L2.wipe σ vs)[i]?) : L2.wipe σ' vs = L2.wipe σ vs := by
  rw [wipe_length] at hl
  refine List.ext_getElem? fun i => ?_
  rw [wipe_at, hl]
  by_cases hv : i ∈ vs
  · by_cases hi : i < σ.length
    · rw [if_pos ⟨hv, hi⟩, wipe_at, if_pos ⟨hv, hi⟩]
    · rw [if_neg fun z => hi z.2, List.getElem?_eq_none (by omega), List.getElem?_eq_none (by rw [wipe_length]; omega)]
  · rw [if_neg fun z => hv z.1]
    exact h i fun z => hv (hj i z)
theorem wipe_wipe {σ : L2.St} (vs : List Nat) : L2.wipe (L2.wipe σ vs) vs = L2.wipe σ vs := wipe_eq (js := []) rfl (by simp) fun _ _ => rfl
/-- the list that a comprehension makes: what each turn gives, where the tests hold -/
def made (n : Nat) (b : Nat → Bool) (F : Nat → Ty) : List Ty := (List.range n).filterMap fun i => if b i = true then some (F i) else none
theorem made_len (n : Nat) (b : Nat → Bool) (F : Nat → Ty) : (made n b F).length ≤ n := by
  unfold made
  have h := List.length_filterMap_le (fun i => if b i = true then some (F i) else none) (List.range n)
  rw [List.length_range] at h
  exact h
theorem made_succ (n : Nat) (b : Nat → Bool) (F : Nat → Ty) : made (n + 1) b F = made n b F ++ (if b n = true then [F n] else []) := by
  unfold made
  rw [List.range_succ, List.filterMap_append]
  congr 1
  by_cases h : b n = true
  · rw [if_pos h, List.filterMap_cons, if_pos h]
    rfl
  · rw [if_neg h, List.filterMap_cons, if_neg h]
    rfl
theorem ee_lc {n : Nat} {Y F : Nat → Ty} {wi : TI} {tt : TT} {vs : List Nat} (b : Nat → Bool) (Γb : Nat → Tys) (hI : EI wi Γ W n Y) (hn : n ≤ 100000) (hg : ∀ i, i < n → GT g (Y i) (wipeT Γ vs) (Γb i) js) (hj : ∀ j ∈ js, j ∈ vs)
    (ht : ∀ i W', i < n → ET tt (Γb i) W' (b i)) (he : ∀ i W', i < n → b i = true → EE te (Γb i) W' (F i)) : EE (tLc wi g tt te vs) Γ W (yL (made n b F)) := fun σ G H o s w Q q =>
  hI σ G H o s w _ fun J G1 H1 g1 s1 w1 wk D hD => by
    have gs0 := GS.hid (o := .lst []) s1 hD
    refine ⟨fun i m H => m = n - i ∧ i ≤ n ∧ ∃ G, Same G1 G ∧ Same G H ∧ (wM W D (made i b F)).r G H, ⟨n, rfl, Nat.zero_le _, G1, Same.refl _, gs0.sub, W.pure _ _ _ _ s1 w1 gs0, W.fresh _ _ _ w1 hD, s1.free hD, [], upd_same, trivial⟩, ?_⟩
    rintro i m H2 ⟨rfl, hi, G2, e1, e2, w2⟩
    by_cases hlt : i < n
    · refine .inr ⟨wk.go i G2 H2 hlt e1 e2, fun H => ∃ G, Same G1 G ∧ Same G H ∧ (wM W D (made (i + 1) b F)).r G H, fun H' ⟨G', e1', e2', w'⟩ => ⟨n - (i + 1), by omega, rfl, hlt, G', e1', e2', w'⟩, fun x H' y => ?_⟩
      obtain ⟨G3, gs, rx⟩ := wk.yld i G2 H2 x H' hlt e1 e2 y
      have w3 := (wM W D (made i b F)).pure _ _ _ _ e2 w2 gs
      refine hg i hlt x (L2.wipe σ vs) G3 H' rx gs.sub ((o.wipe vs).mono ((g1.trans e1).trans gs.g)) _ fun σ3 o3 l3 f3 => ⟨wipe_eq l3 hj f3, ?_⟩
      refine ht i _ hlt σ3 G3 H' o3 gs.sub w3 _ fun G4 H4 g4 s4 w4 => ?_
      cases hb : b i with
      | true =>
        refine he i _ hlt hb σ3 G4 H4 (o3.mono g4) s4 w4 _ fun y G5 H5 g5 s5 w5 r5 => ?_
        obtain ⟨acc, hl, al⟩ := w5.2.2.2
        refine ⟨acc, hl, ?_, G5, (((e1.trans gs.g).trans g4).trans g5), upd_sub s5 w5.2.2.1, ?_⟩
        · rw [al.len]
          exact Nat.lt_of_le_of_lt (made_len i b F) (Nat.lt_of_lt_of_le hlt (szl hn))
        · rw [made_succ, hb, if_pos rfl]
          exact wM_put w5 (al.app (Ss := [F i]) (ys := [y]) ⟨r5, trivial⟩)
      | false =>
        refine ⟨G4, (e1.trans gs.g).trans g4, s4, ?_⟩
        rw [made_succ, hb, if_neg (by decide), List.append_nil]
        exact w4
    · have e : i = n := by omega
      subst e
      refine .inl ⟨wk.stop G2 H2 e1 e2, ?_⟩
      obtain ⟨w2, ig, gl, xs, hl, al⟩ := w2
      have sg : Same G2 (upd G2 D (.lst xs)) := same_new gl
      exact q (.ref D) _ H2 ((g1.trans e1).trans sg) (fun b' x e => by
        by_cases hb : b' = D
        · subst hb
          rw [upd_same] at e
          rw [hl]
          exact e
        · rw [upd_ne hb] at e
          exact e2 b' x e) (W.grow _ _ _ _ w2 ig hl gl) ⟨D, xs, rfl, upd_same, al.mono sg⟩
end
end LT
end
section
set_option Elab.async false
set_option linter.all false
set_option maxRecDepth 100000
set_option maxHeartbeats 0
namespace LH
open PySem PySem.Spec PyProof.Rows L2
abbrev prog : Program := PySem.Challenge.pw_lampsaloft_k35_whole_least_ticks
def top (i : Nat) : Stmt := PySem.Challenge.pw_lampsaloft_k35_whole_least_ticks.main.body.getD i (.Pass ⟨0, 0, 0, 0⟩)
abbrev s_reduced : Stmt := top 2
abbrev s_added : Stmt := top 3
abbrev s_lessened : Stmt := top 4
abbrev s_times : Stmt := top 5
abbrev s_over : Stmt := top 6
abbrev s_compared : Stmt := top 7
abbrev s_place_on : Stmt := top 11
abbrev s_parting : Stmt := top 12
abbrev s_dot : Stmt := top 13
abbrev s_squared_at : Stmt := top 14
abbrev s_ring_of : Stmt := top 15
abbrev s_by_parts : Stmt := top 16
abbrev s_on_side : Stmt := top 17
abbrev s_crossing : Stmt := top 18
abbrev s_is_within : Stmt := top 19
abbrev s_nearest : Stmt := top 20
abbrev s_r_of : Stmt := top 22
abbrev s_lag_of : Stmt := top 23
abbrev s_rho_of : Stmt := top 24
abbrev s_nearest_of : Stmt := top 28
abbrev s_are_apart : Stmt := top 29
abbrev s_is_flight_apart : Stmt := top 30
abbrev s_are_ever_apart : Stmt := top 31
abbrev s_has_ticks : Stmt := top 32
abbrev s_first_that : Stmt := top 33
abbrev s_least_ticks : Stmt := top 34
abbrev s__law_bag : Stmt := top 36
abbrev s__law_take : Stmt := top 37
abbrev s__law_some : Stmt := top 38
abbrev s__law_mixed : Stmt := top 39
abbrev s__law_alike : Stmt := top 40
abbrev s__law_over : Stmt := top 41
abbrev s__law_added : Stmt := top 42
abbrev s__law_lessened : Stmt := top 43
abbrev s__law_multiplied : Stmt := top 44
abbrev s__law_divided : Stmt := top 45
abbrev s__law_is_below : Stmt := top 46
abbrev s__law_reach : Stmt := top 47
abbrev s__law_lag : Stmt := top 48
abbrev s__law_rho : Stmt := top 49
abbrev s__law_bounds : Stmt := top 50
abbrev s__law_squared : Stmt := top 51
abbrev s__law_least_diagonal : Stmt := top 52
abbrev s__law_offsets : Stmt := top 53
abbrev s__law_spaced : Stmt := top 54
abbrev s__law_do_cross : Stmt := top 55
abbrev s__law_first_crossing : Stmt := top 56
abbrev s__law_uncrossed : Stmt := top 57
abbrev s__law_legs : Stmt := top 58
abbrev s__law_couple : Stmt := top 59
abbrev s__law_corners : Stmt := top 60
abbrev s__law_gap : Stmt := top 61
abbrev s__law_dot : Stmt := top 62
abbrev s__law_gap_squared : Stmt := top 63
abbrev s__law_on_edge : Stmt := top 64
abbrev s__law_are_less : Stmt := top 65
abbrev s__law_inner_point : Stmt := top 66
abbrev s__law_nearest : Stmt := top 67
abbrev s__law_worst_couple : Stmt := top 68
abbrev s__law_is_int : Stmt := top 69
abbrev s__law_flight_legs : Stmt := top 70
abbrev s__law_nearest_of : Stmt := top 71
abbrev s__law_are_apart : Stmt := top 72
abbrev s__law_are_ever_apart : Stmt := top 73
abbrev s__law_bound_legs : Stmt := top 74
abbrev s_law : Stmt := top 75
end LH
end
section
set_option Elab.async false
set_option linter.all false
set_option maxRecDepth 100000
namespace LT
open PySem PySem.Spec PyProof.Rows L2
/-! ### what a def promises: of its arguments by types, the heap grown -/
def spF {γ : Type} (args : γ → List Ty) (pre : γ → Prop) (out : γ → Ty) : Sp := fun vs H Q _ => ∃ g G, pre g ∧ Same G H ∧ AllR (args g) vs G ∧ ∀ v G2 H2, GS G H G2 H2 → (out g).r v G2 → Q v H2
section
variable {Γ : Tys} {W : Wd} {R S Ra Rb : Ty} {Rs : List Ty} {te ta tb tc : TE} {t : TA} {K : PySem.W.Frag} {E : XK}
theorem ee_call {γ : Type} {args : γ → List Ty} {pre : γ → Prop} {out : γ → Ty} (g : γ) (ha : EA t Γ W (args g)) (hp : pre g) : EE (tCall (spF args pre out) [] E t) Γ W (out g) := fun σ G H o s w Q q =>
  ha σ G H o s w _ fun vs G1 H1 g1 s1 w1 r1 => ⟨g, G1, hp, s1, by rw [List.append_nil]; exact r1, fun v G2 H2 gs r => q v G2 H2 (g1.trans gs.g) gs.sub (W.pure _ _ _ _ s1 w1 gs) r⟩
/-- the arguments' types tell the promise's letter -/
theorem ee_callE {γ : Type} {args : γ → List Ty} {pre : γ → Prop} {out : γ → Ty} (ha : EA t Γ W Rs) (hg : ∀ vs G, AllR Rs vs G → ∃ g, pre g ∧ AllR (args g) vs G ∧ (out g).le R) : EE (tCall (spF args pre out) [] E t) Γ W R := fun σ G H o s w Q q =>
  ha σ G H o s w _ fun vs G1 H1 g1 s1 w1 r1 => by
    obtain ⟨g, hp, a, l⟩ := hg vs G1 r1
    exact ⟨g, G1, hp, s1, by rw [List.append_nil]; exact a, fun v G2 H2 gs r => q v G2 H2 (g1.trans gs.g) gs.sub (W.pure _ _ _ _ s1 w1 gs) (l _ _ r)⟩
end
/-! ### the bag -/
def BagOk (b : Addr) (G H : Hp) : Prop := ∃ (v0 v1 v2 : Int) (p : Addr) (xs : List Int), H b = some (.lst [.int v0, .int v1, .int v2, .ref p]) ∧ 0 ≤ v0 ∧ (0 ≤ v1 ∧ v1 < 2147483647) ∧ 0 ≤ v2 ∧ G p = some (.lst (xs.map V.int)) ∧ (∀ x ∈ xs, 0 ≤ x) ∧ xs.length ≤ 63
structure BS (b : Addr) (G H G2 H2 : Hp) : Prop where
  g : Same G G2
  h : ∀ a o, a ≠ b → H a = some o → H2 a = some o
  sub : Same G2 H2
  fr : ∀ a, H a ≠ none → G a = none → G2 a = none
  ok : BagOk b G2 H2
theorem BagOk.some {b : Addr} {G H : Hp} (h : BagOk b G H) : H b ≠ none := by
  obtain ⟨_, _, _, _, _, e, _⟩ := h
  rw [e]
  exact fun z => nomatch z
theorem BagOk.keep {b : Addr} {G H G2 H2 : Hp} (h : BagOk b G H) (g : Same G G2) (e : H2 b = H b) : BagOk b G2 H2 := by
  obtain ⟨v0, v1, v2, p, xs, h1, h2, h3, h4, h5, h6⟩ := h
  exact ⟨v0, v1, v2, p, xs, e.trans h1, h2, h3, h4, g _ _ h5, h6⟩
theorem BagOk.same {b : Addr} {G H G2 H2 : Hp} (h : BagOk b G H) (g : Same G G2) (e : Same H H2) : BagOk b G2 H2 := by
  obtain ⟨v0, v1, v2, p, xs, h1, h2, h3, h4, h5, h6⟩ := h
  exact ⟨v0, v1, v2, p, xs, e _ _ h1, h2, h3, h4, g _ _ h5, h6⟩
theorem BS.trans {b : Addr} {G H G1 H1 G2 H2 : Hp} (x : BS b G H G1 H1) (y : BS b G1 H1 G2 H2) (hb : H b ≠ none) : BS b G H G2 H2 :=
  ⟨x.g.trans y.g, fun a o n e => y.h a o n (x.h a o n e), y.sub, fun a h1 h2 => by
    refine y.fr a ?_ (x.fr a h1 h2)
    by_cases n : a = b
    · rw [n]; exact x.ok.some
    · cases e : H a with
      | none => exact absurd e h1
      | some o =>
        rw [x.h a o n e]
        exact (fun z => nomatch z), y.ok⟩
theorem GS.bs {b : Addr} {G H G2 H2 : Hp} (x : GS G H G2 H2) (k : BagOk b G H) : BS b G H G2 H2 := ⟨x.g, fun a o _ e => x.h a o e, x.sub, x.fr, k.same x.g x.h⟩
def wB (b : Addr) (G0 H0 : Hp) (k0 : BagOk b G0 H0) : Wd where
  r := fun G H => BS b G0 H0 G H
  ign := fun p => H0 p = none
  pure := fun _ _ _ _ _ a x => a.trans (x.bs a.ok) k0.some
  fresh := fun G H p a h => by
    cases e : H0 p with
    | none => rfl
    | some o =>
      by_cases n : p = b
      · exact absurd (by rw [← n]; exact h) a.ok.some
      · rw [a.h p o n e] at h
        cases h
  chg := fun G H p o a hp hg => ⟨a.g, fun b x n e => by
    rw [upd_ne (ne_of_none e hp)]
    exact a.h b x n e, fun b x e => by
    rw [upd_ne (ne_of_none e hg)]
    exact a.sub b x e, a.fr, a.ok.keep (Same.refl _) (upd_ne fun z => k0.some (by rw [z]; exact hp))⟩
  grow := fun G H p o a hp hh hg => ⟨a.g.trans (same_new hg), a.h, fun b x e => by
    by_cases hb : b = p
    · subst hb
      rw [upd_same] at e
      rw [hh]
      exact e
    · rw [upd_ne hb] at e
      exact a.sub b x e, fun b h1 h2 => by
    have : b ≠ p := fun z => h1 (by rw [z]; exact hp)
    rw [upd_ne this]
    exact a.fr b h1 h2, a.ok.same (same_new hg) (Same.refl _)⟩
/-- a world in which the bag at b stands and may be drawn from -/
structure IsBag (b : Addr) (W : Wd) : Prop where
  ok : ∀ G H, W.r G H → G b = none ∧ BagOk b G H
  bs : ∀ G H G2 H2, W.r G H → BS b G H G2 H2 → W.r G2 H2
  ig : ¬ W.ign b
theorem isBag_wB {b : Addr} {G0 H0 : Hp} (k0 : BagOk b G0 H0) (g0 : G0 b = none) : IsBag b (wB b G0 H0 k0) :=
  ⟨fun G H a => ⟨a.fr b k0.some g0, a.ok⟩, fun _ _ _ _ a x => a.trans x k0.some, k0.some⟩
theorem isBag_wM {b l : Addr} {W : Wd} {Rs : List Ty} (h : IsBag b W) : IsBag b (wM W l Rs) :=
  ⟨fun G H a => h.ok G H a.1, fun G H G2 H2 ⟨a, i, g, xs, hl, al⟩ x => ⟨h.bs _ _ _ _ a x, i, x.fr l (by rw [hl]; exact fun z => nomatch z) g, xs, x.h l _ (fun z => h.ig (by rw [← z]; exact i)) hl, al.mono x.g⟩, fun z => h.ig z.1⟩
def spB {γ : Type} (args : γ → List Ty) (pre : γ → Prop) (out : γ → Ty) : Sp := fun vs H Q _ => ∃ g G b, pre g ∧ Same G H ∧ G b = none ∧ BagOk b G H ∧ AllR (yAt b :: args g) vs G ∧ ∀ v G2 H2, BS b G H G2 H2 → (out g).r v G2 → Q v H2
section
variable {Γ : Tys} {W : Wd} {R S Ra Rb : Ty} {Rs : List Ty} {te ta tb tc : TE} {t : TA} {K : PySem.W.Frag} {E : XK} {b : Addr}
theorem ee_callB {γ : Type} {args : γ → List Ty} {pre : γ → Prop} {out : γ → Ty} (B : IsBag b W) (g : γ) (ha : EA t Γ W (yAt b :: args g)) (hp : pre g) : EE (tCall (spB args pre out) [] E t) Γ W (out g) := fun σ G H o s w Q q =>
  ha σ G H o s w _ fun vs G1 H1 g1 s1 w1 r1 => ⟨g, G1, b, hp, s1, (B.ok _ _ w1).1, (B.ok _ _ w1).2, by rw [List.append_nil]; exact r1, fun v G2 H2 gs r => q v G2 H2 (g1.trans gs.g) gs.sub (B.bs _ _ _ _ w1 gs) r⟩
theorem ee_callBE {γ : Type} {args : γ → List Ty} {pre : γ → Prop} {out : γ → Ty} (B : IsBag b W) (ha : EA t Γ W (yAt b :: Rs)) (hg : ∀ vs G, AllR Rs vs G → ∃ g, pre g ∧ AllR (args g) vs G ∧ (out g).le R) : EE (tCall (spB args pre out) [] E t) Γ W R := fun σ G H o s w Q q =>
  ha σ G H o s w _ fun vs G1 H1 g1 s1 w1 r1 => by
    cases vs with
    | nil => exact r1.elim
    | cons v vs =>
      obtain ⟨g, hp, a, l⟩ := hg vs G1 r1.2
      exact ⟨g, G1, b, hp, s1, (B.ok _ _ w1).1, (B.ok _ _ w1).2, by rw [List.append_nil]; exact ⟨r1.1, a⟩, fun v G2 H2 gs r => q v G2 H2 (g1.trans gs.g) gs.sub (B.bs _ _ _ _ w1 gs) (l _ _ r)⟩
end
/-! ### a def of the top, and its call -/
def Raw (K : PySem.W.Frag) (mg : Str → Option Value) (x : Str) (st : Stmt) : Prop := ∃ f fd, FunD K x x (defArgs st) (defBody st) (defScope st) [] [] f fd ∧ mg x = some (.ref f)
def Def (P : Program) (w : World) (K : PySem.W.Frag) (mg : Str → Option Value) (base : Heap) (k : Nat) (x : Str) (ps : List Str) (sp : Sp) : Prop :=
  ∃ f fd, FnOk P w K mg base CX0 k f fd ps sp ∧ mg x = some (.ref f) ∧ PySem.W.keepIn K (.ref f) = true ∧ Binds K fd ps []
theorem pe_cd {X : Cx} {k j : Nat} {x : Str} {ps : List Str} {sp : Sp} {e : Expr} {es : List Expr} {t : TA} {p pos : Pos} (D : Def X.prog X.w X.K X.mg X.base k x ps sp) (hr : Room j X.A) (hk : k ≤ j) (ha : PA X (e :: es) t) (hg : Gl X x := by rfl)
    (hdb : (x == ("__debug__" : Str)) = false := by decide) (he : starEach (e :: es) X.env = (false, eval e X.env) :: starEach es X.env := by rfl) (hpl : (backTo pos (starEach es X.env)).any (·.1) = false := by rfl) :
    PE X (.Call (.Name x p) (e :: es) [] pos) (tCall sp [] E0 t) := by
  obtain ⟨f, fd, F, hm, kp, b⟩ := D
  exact pe_call F (hr.mono hk) hg hm kp b .nil pass0 ha hdb he hpl
/-- the slots at the start -/
def g0 (N : List Str) (Rs : List Ty) : Tys := Rs.map some ++ List.replicate (N.length - Rs.length) none
section
variable {P : Program} {w : World} {K : PySem.W.Frag} {mg : Str → Option Value} {base : Heap}
theorem def_raw {x : Str} {st : Stmt} {N ps : List Str} {k : Nat} {sp : Sp} (R : Raw K mg x st) (S : FnScope N ps (defScope st))
    (hb : ∀ (kV doc pm : Value) (an : Option Addr) (cdv ct : Value) (us : List Value), us.length = ps.length → bindArgs (PySem.W.fnOf x x (defArgs st) (defBody st) (defScope st) .none kV doc pm an cdv ct) ⟨us, []⟩ = pure (ps.zip us))
    (hl : ∀ vs H Q E, sp vs H Q E → vs.length = ps.length)
    (hbody : ∀ (f : Addr) (cdv : Value) (A : Around) (outer : List Env) (s : Shared) (H : Hp) (vs : List V) (Q : VK) (E : XK), Room k (A.deeper (envOfC x (defScope st) s.heap.objs.size f cdv)) → sp vs H Q E →
      ∃ t, PSs (cxOf CX0 P w K mg base N x (defScope st) f cdv A outer s H E).nox (defBody st) t ∧ t { nx := fun _ H' => Q .non H', rt := Q } (L2.start N vs) H) : Def P w K mg base (k + 1) x ps sp := by
  obtain ⟨f, fd, F, hm⟩ := R
  refine ⟨f, fd, F.ok S hl fun cdv A outer s H vs Q E hr h => ?_, hm, F.kp, F.bindsN hb⟩
  obtain ⟨t, h1, h2⟩ := hbody f cdv A outer s H vs Q E hr h
  exact ⟨t, h1.nox, h2⟩
theorem def_mk {γ : Type} {args : γ → List Ty} {pre : γ → Prop} {out : γ → Ty} {x : Str} {st : Stmt} {N ps : List Str} {k : Nat} (R : Raw K mg x st) (S : FnScope N ps (defScope st))
    (hb : ∀ (kV doc pm : Value) (an : Option Addr) (cdv ct : Value) (us : List Value), us.length = ps.length → bindArgs (PySem.W.fnOf x x (defArgs st) (defBody st) (defScope st) .none kV doc pm an cdv ct) ⟨us, []⟩ = pure (ps.zip us))
    (hl : ∀ g, (args g).length = ps.length)
    (hbody : ∀ (f : Addr) (cdv : Value) (A : Around) (outer : List Env) (s : Shared) (H : Hp) (E : XK), Room k (A.deeper (envOfC x (defScope st) s.heap.objs.size f cdv)) →
      ∃ t, PSs (cxOf CX0 P w K mg base N x (defScope st) f cdv A outer s H E).nox (defBody st) t ∧ ∀ g, pre g → ∀ W : Wd, SS t (g0 N (args g)) W (fun _ G H => W.r G H ∧ (out g).r .non G) W (out g)) :
    Def P w K mg base (k + 1) x ps (spF args pre out) := by
  refine def_raw R S hb (fun vs H Q E ⟨g, G, _, _, a, _⟩ => a.len.trans (hl g)) fun f cdv A outer s H vs Q E hr ⟨g, G, hp, hs, ha, q⟩ => ?_
  obtain ⟨t, h1, h2⟩ := hbody f cdv A outer s H E hr
  refine ⟨t, h1, h2 g hp (wP G H) _ G H ?_ hs (GS.refl hs) _ (fun σ' G2 H2 _ s2 n => q _ _ _ n.1 n.2) (fun v G2 H2 _ s2 w2 r2 => q v G2 H2 w2 r2)⟩
  unfold L2.start g0
  rw [ha.len]
  exact okS_start _ ha
theorem def_mkB {γ : Type} {args : γ → List Ty} {pre : γ → Prop} {out : γ → Ty} {x : Str} {st : Stmt} {N ps : List Str} {k : Nat} (R : Raw K mg x st) (S : FnScope N ps (defScope st))
    (hb : ∀ (kV doc pm : Value) (an : Option Addr) (cdv ct : Value) (us : List Value), us.length = ps.length → bindArgs (PySem.W.fnOf x x (defArgs st) (defBody st) (defScope st) .none kV doc pm an cdv ct) ⟨us, []⟩ = pure (ps.zip us))
    (hl : ∀ g, (args g).length + 1 = ps.length)
    (hbody : ∀ (f : Addr) (cdv : Value) (A : Around) (outer : List Env) (s : Shared) (H : Hp) (E : XK), Room k (A.deeper (envOfC x (defScope st) s.heap.objs.size f cdv)) →
      ∃ t, PSs (cxOf CX0 P w K mg base N x (defScope st) f cdv A outer s H E).nox (defBody st) t ∧ ∀ g, pre g → ∀ (b : Addr) (W : Wd), IsBag b W → SS t (g0 N (yAt b :: args g)) W (fun _ G H => W.r G H ∧ (out g).r .non G) W (out g)) :
    Def P w K mg base (k + 1) x ps (spB args pre out) := by
  refine def_raw R S hb (fun vs H Q E ⟨g, G, b, _, _, _, _, a, _⟩ => a.len.trans (hl g)) fun f cdv A outer s H vs Q E hr ⟨g, G, b, hp, hs, gb, hk, ha, q⟩ => ?_
  obtain ⟨t, h1, h2⟩ := hbody f cdv A outer s H E hr
  refine ⟨t, h1, h2 g hp b (wB b G H hk) (isBag_wB hk gb) _ G H ?_ hs ((GS.refl hs).bs hk) _ (fun σ' G2 H2 _ s2 n => q _ _ _ n.1 n.2) (fun v G2 H2 _ s2 w2 r2 => q v G2 H2 w2 r2)⟩
  unfold L2.start g0
  rw [ha.len]
  exact okS_start _ ha
end
/-! ### operations on numbers -/
theorem ot_i0 {g : Int → Int → V} {i j : Int} : OT (rI0 g) (yI i) (yI j) (yV (g i j)) := fun x y G H s hx hy Q q => ⟨i, j, hx, hy, q _ G H (GS.refl s) rfl⟩
theorem ot_i {C : Int → Int → Prop} {g : Int → Int → V} {i j : Int} (hc : C i j) : OT (rI C g) (yI i) (yI j) (yV (g i j)) := fun x y G H s hx hy Q q => ⟨i, j, hx, hy, hc, q _ G H (GS.refl s) rfl⟩
theorem ot_add {i j : Int} : OT (rI0 fun i j => .int (i + j)) (yI i) (yI j) (yI (i + j)) := ot_i0
theorem ot_sub {i j : Int} : OT (rI0 fun i j => .int (i - j)) (yI i) (yI j) (yI (i - j)) := ot_i0
theorem ot_mul {i j : Int} (h : CMul i j) : OT (rI CMul fun i j => .int (i * j)) (yI i) (yI j) (yI (i * j)) := ot_i h
theorem ot_mulW {i j : Int} (h : CMulW i j) : OT (rI CMulW fun i j => .int (i * j)) (yI i) (yI j) (yI (i * j)) := ot_i h
def CDivX (_ j : Int) : Prop := j ≠ 0 ∧ j.natAbs.log2 < 9000
theorem op_fdivX {X : Cx} : OpR X (binaryOp .FloorDiv) (rI CDivX fun i j => .int (i.fdiv j)) := opI fun _ _ _ _ _ _ _ hc q => floordiv_int hc.1 q (.inl (PyProof.noPylong_of_log2 hc.2))
theorem ot_fdivX {i j : Int} (h : CDivX i j) : OT (rI CDivX fun i j => .int (i.fdiv j)) (yI i) (yI j) (yI (i.fdiv j)) := ot_i h
theorem ot_modN {i j : Int} (h : j ≠ 0) : OT (rI (fun _ j => j ≠ 0) fun i j => .int (i.fmod j)) (yI i) (yI j) (yI (i.fmod j)) := ot_i (C := fun _ j => j ≠ 0) h
theorem ot_fdiv {i j : Int} (h : CDiv i j) : OT (rI CDiv fun i j => .int (i / j)) (yI i) (yI j) (yI (i / j)) := ot_i h
theorem ot_mod {i j : Int} (h : 0 < j) : OT (rI (fun _ j => 0 < j) fun i j => .int (i % j)) (yI i) (yI j) (yI (i % j)) := ot_i (C := fun _ j => 0 < j) h
theorem ot_pow {i j : Int} (h : CPow i j) : OT (rI CPow fun i j => .int (i ^ j.toNat)) (yI i) (yI j) (yI (i ^ j.toNat)) := ot_i h
theorem ot_lt {i j : Int} : OT (rI0 fun i j => .bl (decide (i < j))) (yI i) (yI j) (yB (decide (i < j))) := ot_i0
theorem ot_le {i j : Int} : OT (rI0 fun i j => .bl (decide (i ≤ j))) (yI i) (yI j) (yB (decide (i ≤ j))) := ot_i0
theorem ot_gt {i j : Int} : OT (rI0 fun i j => .bl (decide (j < i))) (yI i) (yI j) (yB (decide (j < i))) := ot_i0
theorem ot_ge {i j : Int} : OT (rI0 fun i j => .bl (decide (j ≤ i))) (yI i) (yI j) (yB (decide (j ≤ i))) := ot_i0
theorem ot_eqI {i j : Int} : OT rEq (yI i) (yI j) (yB (decide (i = j))) := fun x y G H s hx hy Q q => by
  have hx : x = .int i := hx
  have hy : y = .int j := hy
  subst hx hy
  refine ⟨rfl, q _ G H (GS.refl s) ?_⟩
  show V.bl _ = V.bl _
  congr 1
  simp only [V.int.injEq]
theorem ot_neI {i j : Int} : OT rNe (yI i) (yI j) (yB (!decide (i = j))) := fun x y G H s hx hy Q q => by
  have hx : x = .int i := hx
  have hy : y = .int j := hy
  subst hx hy
  refine ⟨rfl, q _ G H (GS.refl s) ?_⟩
  show V.bl _ = V.bl _
  congr 1
  simp only [V.int.injEq]
theorem ot_neB {i j : Bool} : OT rNe (yB i) (yB j) (yB (i != j)) := fun x y G H s hx hy Q q => by
  have hx : x = .bl i := hx
  have hy : y = .bl j := hy
  subst hx hy
  refine ⟨rfl, q _ G H (GS.refl s) ?_⟩
  cases i <;> cases j <;> rfl
theorem ot_isN {R : Ty} {b : Bool} (h : ∀ v H, R.r v H → decide (v = V.non) = b) : OT (fun x y H Q => y = .non ∧ Q (.bl (decide (x = .non))) H) R yN (yB b) := fun x y G H s hx hy Q q => ⟨hy, q _ G H (GS.refl s) (congrArg V.bl (h _ _ hx))⟩
theorem ot_notN {R : Ty} {b : Bool} (h : ∀ v H, R.r v H → (!decide (v = V.non)) = b) : OT (fun x y H Q => y = .non ∧ Q (.bl (!decide (x = .non))) H) R yN (yB b) := fun x y G H s hx hy Q q => ⟨hy, q _ G H (GS.refl s) (congrArg V.bl (h _ _ hx))⟩
theorem ot_notBl {i j : Bool} : OT rNotB (yB i) (yB j) (yB (!decide (i = j))) := fun x y G H s hx hy Q q => ⟨i, j, hx, hy, q _ G H (GS.refl s) rfl⟩
theorem ut_neg {i : Int} : UT (rU fun i => .int (-i)) (yI i) (yI (-i)) := fun x G H s hx Q q => ⟨i, hx, q _ G H (GS.refl s) rfl⟩
theorem at_ty {Rs : List Ty} {xs : List V} {G : Hp} {i : Int} {R : Ty} (a : AllR Rs xs G) (h0 : 0 ≤ i) (h : Rs[i.toNat]? = some R) : ∃ v, atI xs i = some v ∧ R.r v G := by
  obtain ⟨v, e, r⟩ := a.get h
  refine ⟨v, ?_, r⟩
  have q := atI_nat (j := i.toNat) e
  rw [Int.toNat_of_nonneg h0] at q
  exact q
theorem ot_ixT {K : PySem.W.Frag} {Rs : List Ty} {i : Int} {R : Ty} (h : Rs[i.toNat]? = some R) (h0 : 0 ≤ i := by decide) : OT (rIxT K) (yT K Rs) (yI i) R := fun x y G H s hx hy Q q => by
  obtain ⟨p, xs, rfl, hp, a⟩ := hx
  obtain ⟨v, e, r⟩ := at_ty a h0 h
  exact ⟨p, xs, i, v, rfl, hy, same_t s hp, e, q _ G H (GS.refl s) r⟩
theorem ot_ixL {K : PySem.W.Frag} {Rs : List Ty} {i : Int} {R : Ty} (h : Rs[i.toNat]? = some R) (h0 : 0 ≤ i := by decide) : OT (rIxL K) (yL Rs) (yI i) R := fun x y G H s hx hy Q q => by
  obtain ⟨p, xs, rfl, hp, a⟩ := hx
  obtain ⟨v, e, r⟩ := at_ty a h0 h
  exact ⟨p, xs, i, v, rfl, hy, .inl (.inl (s _ _ hp)), e, q _ G H (GS.refl s) r⟩
/-! ### calls of built-ins -/
theorem ct_gcd {a b : Int} : CT rGcd [yI a, yI b] (yI ((Nat.gcd a.natAbs b.natAbs : Nat) : Int)) := fun xs G H s hx Q q => by
  obtain ⟨v, u, rfl, hv, hu⟩ := hx.two
  have hv : v = .int a := hv
  have hu : u = .int b := hu
  subst hv hu
  exact ⟨a, b, rfl, q _ G H (GS.refl s) rfl⟩
theorem ct_abs {i : Int} : CT (fun xs H Q => ∃ i, xs = [.int i] ∧ Q (.int (if i < 0 then -i else i)) H) [yI i] (yI (if i < 0 then -i else i)) := fun xs G H s hx Q q => by
  obtain ⟨v, rfl, hv⟩ := hx.one
  have hv : v = .int i := hv
  subst hv
  exact ⟨i, rfl, q _ G H (GS.refl s) rfl⟩
theorem ct_max {i j : Int} : CT (fun xs H Q => ∃ i j, xs = [.int i, .int j] ∧ Q (.int (if j > i then j else i)) H) [yI i, yI j] (yI (if j > i then j else i)) := fun xs G H s hx Q q => by
  obtain ⟨v, u, rfl, hv, hu⟩ := hx.two
  have hv : v = .int i := hv
  have hu : u = .int j := hu
  subst hv hu
  exact ⟨i, j, rfl, q _ G H (GS.refl s) rfl⟩
theorem ct_min {i j : Int} : CT (fun xs H Q => ∃ i j, xs = [.int i, .int j] ∧ Q (.int (if j < i then j else i)) H) [yI i, yI j] (yI (if j < i then j else i)) := fun xs G H s hx Q q => by
  obtain ⟨v, u, rfl, hv, hu⟩ := hx.two
  have hv : v = .int i := hv
  have hu : u = .int j := hu
  subst hv hu
  exact ⟨i, j, rfl, q _ G H (GS.refl s) rfl⟩
theorem ct_int {i : Int} : CT (fun xs H Q => (∃ i, xs = [.int i] ∧ Q (.int i) H) ∨ ∃ k, xs = [.bl k] ∧ Q (.int (if k then 1 else 0)) H) [yI i] (yI i) := fun xs G H s hx Q q => by
  obtain ⟨v, rfl, hv⟩ := hx.one
  have hv : v = .int i := hv
  subst hv
  exact .inl ⟨i, rfl, q _ G H (GS.refl s) rfl⟩
theorem ct_intB {b : Bool} : CT (fun xs H Q => (∃ i, xs = [.int i] ∧ Q (.int i) H) ∨ ∃ k, xs = [.bl k] ∧ Q (.int (if k then 1 else 0)) H) [yB b] (yI (if b then 1 else 0)) := fun xs G H s hx Q q => by
  obtain ⟨v, rfl, hv⟩ := hx.one
  have hv : v = .bl b := hv
  subst hv
  exact .inr ⟨b, rfl, q _ G H (GS.refl s) rfl⟩
theorem ct_lenL {K : PySem.W.Frag} {Rs : List Ty} : CT (fun xs H Q => ∃ p ys, xs = [.ref p] ∧ (SqL K H p ys ∨ SqT K H p ys) ∧ Q (.int ys.length) H) [yL Rs] (yI (Rs.length : Nat)) := fun xs G H s hx Q q => by
  obtain ⟨v, rfl, p, ys, rfl, hp, a⟩ := hx.one
  exact ⟨p, ys, rfl, .inl (.inl (.inl (s _ _ hp))), q _ G H (GS.refl s) (by rw [a.len]; rfl)⟩
theorem ct_lenT {K : PySem.W.Frag} {Rs : List Ty} : CT (fun xs H Q => ∃ p ys, xs = [.ref p] ∧ (SqL K H p ys ∨ SqT K H p ys) ∧ Q (.int ys.length) H) [yT K Rs] (yI (Rs.length : Nat)) := fun xs G H s hx Q q => by
  obtain ⟨v, rfl, p, ys, rfl, hp, a⟩ := hx.one
  exact ⟨p, ys, rfl, .inr (same_t s hp), q _ G H (GS.refl s) (by rw [a.len]; rfl)⟩
theorem ct_tupL {K : PySem.W.Frag} {Rs : List Ty} : CT (fun xs H Q => ∃ p ys, xs = [.ref p] ∧ ((SqL K H p ys ∧ ∀ l, H l = none → Q (.ref l) (upd H l (.tup ys))) ∨ (SqT K H p ys ∧ Q (.ref p) H))) [yL Rs] (yT K Rs) := fun xs G H s hx Q q => by
  obtain ⟨v, rfl, p, ys, rfl, hp, a⟩ := hx.one
  refine ⟨p, ys, rfl, .inl ⟨.inl (.inl (s _ _ hp)), fun l hl => ?_⟩⟩
  have gs := GS.new (o := .tup ys) s hl
  exact q _ _ _ gs ⟨l, ys, rfl, .inl (.inl upd_same), a.mono gs.g⟩
theorem all_bl : ∀ {bs : List Bool} {ys : List V} {G : Hp}, AllR (bs.map yB) ys G → ys = bs.map V.bl
  | [], [], _, _ => rfl
  | [], _ :: _, _, h => h.elim
  | _ :: _, [], _, h => h.elim
  | b :: bs, y :: ys, _, h => by
    have h1 : y = .bl b := h.1
    rw [List.map_cons, all_bl (bs := bs) h.2, h1]
theorem ct_all {K : PySem.W.Frag} {bs : List Bool} : CT (rAll K) [yL (bs.map yB)] (yB (bs.all id)) := fun xs G H s hx Q q => by
  obtain ⟨v, rfl, p, ys, rfl, hp, a⟩ := hx.one
  have e := all_bl a
  subst e
  exact ⟨p, bs, rfl, .inl (.inl (s _ _ hp)), q _ G H (GS.refl s) rfl⟩
end LT
end
section
set_option Elab.async false
set_option linter.all false
set_option maxRecDepth 100000
set_option maxHeartbeats 1000000
set_option exponentiation.threshold 20000
namespace LT
open PySem PySem.Spec PyProof.Rows L2 LL

theorem lle {n m : Nat} (h : Nat.ble n m = true) : n ≤ m := Nat.le_of_ble_eq_true h
abbrev yF (K : PySem.W.Frag) (q : Rat) : Ty := yT K [yI q.num, yI (q.den : Int)]
/-- what the top gives besides the defs -/
structure Blt (K : PySem.W.Frag) (mg : Str → Option Value) (cN cO cA cW : Addr) : Prop where
  gcd : mg "gcd" = some (.builtin "math.gcd")
  abs : mg "abs" = none
  all : mg "all" = none
  enumerate : mg "enumerate" = none
  int : mg "int" = none
  isinstance : mg "isinstance" = none
  bool : mg "bool" = none
  len : mg "len" = none
  list : mg "list" = none
  max : mg "max" = none
  min : mg "min" = none
  range : mg "range" = none
  repr : mg "repr" = none
  tuple : mg "tuple" = none
  zip : mg "zip" = none
  gNOUGHT : mg "NOUGHT" = some (.ref cN)
  gONE : mg "ONE" = some (.ref cO)
  gALIKE : mg "ALIKE" = some (.ref cA)
  gWHOLE : mg "WHOLE" = some (.ref cW)
  tNOUGHT : ∀ G, (yF K 0).r (.ref cN) G
  tONE : ∀ G, (yF K 1).r (.ref cO) G
  tALIKE : ∀ G, (yF K 0).r (.ref cA) G
  tWHOLE : ∀ G, (yF K 1).r (.ref cW) G
section
variable {Γ : Tys} {W : Wd} {R S Ra Rb : Ty} {Rs : List Ty} {te ta tb tc td : TE} {t : TA} {K : PySem.W.Frag}
theorem ee_ieq {i j : Int} (h : EE te Γ W (yI i)) (e : i = j) : EE te Γ W (yI j) := e ▸ h
theorem ee_eq {R S : Ty} (h : EE te Γ W R) (e : R = S) : EE te Γ W S := e ▸ h
/-- (i, 1) -/
theorem ee_fr {i : Int} (h : EE ta Γ W (yI i)) : EE (tTup (tCons ta (tCons (tC (.int 1)) tNil))) Γ W (yF K (i : Rat)) := ee_tup (Rs := [yI i, yI 1]) (ea_cons h (ea_cons ee_i ea_nil)) (lle rfl)
def sp_reduced (K : PySem.W.Frag) : Sp := spF (fun g : Int × Int => [yI g.1, yI g.2]) (fun g => g.2 ≠ 0 ∧ g.2.natAbs < 2 ^ 8900) (fun g => yF K (Rat.divInt g.1 g.2))
def sp_added (K : PySem.W.Frag) : Sp := spF (fun g : Rat × Rat => [yF K g.1, yF K g.2]) (fun g => Sz g.1 ∧ Sz g.2) (fun g => yF K (g.1 + g.2))
def sp_lessened (K : PySem.W.Frag) : Sp := spF (fun g : Rat × Rat => [yF K g.1, yF K g.2]) (fun g => Sz g.1 ∧ Sz g.2) (fun g => yF K (g.1 - g.2))
def sp_times (K : PySem.W.Frag) : Sp := spF (fun g : Rat × Rat => [yF K g.1, yF K g.2]) (fun g => Sz g.1 ∧ Sz g.2) (fun g => yF K (g.1 * g.2))
def sp_over (K : PySem.W.Frag) : Sp := spF (fun g : Rat × Rat => [yF K g.1, yF K g.2]) (fun g => Sz g.1 ∧ Sz g.2 ∧ g.2 ≠ 0) (fun g => yF K (g.1 / g.2))
def sp_compared (K : PySem.W.Frag) : Sp := spF (fun g : Rat × Rat => [yF K g.1, yF K g.2]) (fun g => Sz g.1 ∧ Sz g.2) (fun g => yI (cmp g.1 g.2))
theorem ee_reduced {n d : Int} (ha : EE ta Γ W (yI n)) (hb : EE tb Γ W (yI d)) (hp : d ≠ 0 ∧ d.natAbs < 2 ^ 8900) : EE (tCall (sp_reduced K) [] E0 (tCons ta (tCons tb tNil))) Γ W (yF K (Rat.divInt n d)) := ee_call (n, d) (ea_cons ha (ea_cons hb ea_nil)) hp
theorem ee_added {x y : Rat} (ha : EE ta Γ W (yF K x)) (hb : EE tb Γ W (yF K y)) (hp : Sz x ∧ Sz y) : EE (tCall (sp_added K) [] E0 (tCons ta (tCons tb tNil))) Γ W (yF K (x + y)) := ee_call (x, y) (ea_cons ha (ea_cons hb ea_nil)) hp
theorem ee_lessened {x y : Rat} (ha : EE ta Γ W (yF K x)) (hb : EE tb Γ W (yF K y)) (hp : Sz x ∧ Sz y) : EE (tCall (sp_lessened K) [] E0 (tCons ta (tCons tb tNil))) Γ W (yF K (x - y)) := ee_call (x, y) (ea_cons ha (ea_cons hb ea_nil)) hp
theorem ee_times {x y : Rat} (ha : EE ta Γ W (yF K x)) (hb : EE tb Γ W (yF K y)) (hp : Sz x ∧ Sz y) : EE (tCall (sp_times K) [] E0 (tCons ta (tCons tb tNil))) Γ W (yF K (x * y)) := ee_call (x, y) (ea_cons ha (ea_cons hb ea_nil)) hp
theorem ee_over {x y : Rat} (ha : EE ta Γ W (yF K x)) (hb : EE tb Γ W (yF K y)) (hp : Sz x ∧ Sz y ∧ y ≠ 0) : EE (tCall (sp_over K) [] E0 (tCons ta (tCons tb tNil))) Γ W (yF K (x / y)) := ee_call (x, y) (ea_cons ha (ea_cons hb ea_nil)) hp
theorem ee_compared {x y : Rat} (ha : EE ta Γ W (yF K x)) (hb : EE tb Γ W (yF K y)) (hp : Sz x ∧ Sz y) : EE (tCall (sp_compared K) [] E0 (tCons ta (tCons tb tNil))) Γ W (yI (cmp x y)) := ee_call (x, y) (ea_cons ha (ea_cons hb ea_nil)) hp
theorem sz_nd {x y : Rat} (hx : Sz x) (hy : Sz y) : CMulW x.num (y.den : Int) := wide_mul (a := 4000) (b := 4000) hx.1 (by have := hy.2; omega) (by decide) (by decide) (by decide)
theorem sz_nn {x y : Rat} (hx : Sz x) (hy : Sz y) : CMulW x.num y.num := wide_mul (a := 4000) (b := 4000) hx.1 hy.1 (by decide) (by decide) (by decide)
theorem sz_dd {x y : Rat} (hx : Sz x) (hy : Sz y) : CMulW (x.den : Int) (y.den : Int) := wide_mul (a := 4000) (b := 4000) (by have := hx.2; omega) (by have := hy.2; omega) (by decide) (by decide) (by decide)
theorem sz_dn {x y : Rat} (hx : Sz x) (hy : Sz y) : CMulW (x.den : Int) y.num := wide_mul (a := 4000) (b := 4000) (by have := hx.2; omega) hy.1 (by decide) (by decide) (by decide)
theorem pow_up {n : Nat} (h : n < 2 ^ (4000 + 4000)) : n < 2 ^ 8900 := Nat.lt_of_lt_of_le h (Nat.pow_le_pow_right (by decide) (by decide))
theorem den_dd {x y : Rat} (hx : Sz x) (hy : Sz y) : (x.den : Int) * (y.den : Int) ≠ 0 ∧ ((x.den : Int) * (y.den : Int)).natAbs < 2 ^ 8900 :=
  ⟨Int.mul_ne_zero (den_ne x) (den_ne y), pow_up (wide_lt (by have := hx.2; omega) (by have := hy.2; omega))⟩
theorem den_dn {x y : Rat} (hx : Sz x) (hy : Sz y) (h : y ≠ 0) : (x.den : Int) * y.num ≠ 0 ∧ ((x.den : Int) * y.num).natAbs < 2 ^ 8900 :=
  ⟨Int.mul_ne_zero (den_ne x) (fun z => h (Rat.num_eq_zero.mp z)), pow_up (wide_lt (by have := hx.2; omega) hy.1)⟩
end
abbrev N_reduced : List Str := ["n", "d", "common"]
theorem sc_reduced : FnScope N_reduced ["n", "d"] (defScope LH.s_reduced) := ⟨rfl, rfl, rfl, by decide +kernel, rfl, by decide +kernel, by decide +kernel⟩
abbrev N_added : List Str := ["one", "other"]
theorem sc_added : FnScope N_added ["one", "other"] (defScope LH.s_added) := ⟨rfl, rfl, rfl, by decide +kernel, rfl, by decide +kernel, by decide +kernel⟩
abbrev N_lessened : List Str := ["one", "other"]
theorem sc_lessened : FnScope N_lessened ["one", "other"] (defScope LH.s_lessened) := ⟨rfl, rfl, rfl, by decide +kernel, rfl, by decide +kernel, by decide +kernel⟩
abbrev N_times : List Str := ["one", "other"]
theorem sc_times : FnScope N_times ["one", "other"] (defScope LH.s_times) := ⟨rfl, rfl, rfl, by decide +kernel, rfl, by decide +kernel, by decide +kernel⟩
abbrev N_over : List Str := ["one", "other"]
theorem sc_over : FnScope N_over ["one", "other"] (defScope LH.s_over) := ⟨rfl, rfl, rfl, by decide +kernel, rfl, by decide +kernel, by decide +kernel⟩
abbrev N_compared : List Str := ["one", "other", "mine", "its"]
theorem sc_compared : FnScope N_compared ["one", "other"] (defScope LH.s_compared) := ⟨rfl, rfl, rfl, by decide +kernel, rfl, by decide +kernel, by decide +kernel⟩
section
variable {P : Program} {w : World} {K : PySem.W.Frag} {mg : Str → Option Value} {base : Heap} {cN cO cA cW : Addr}
theorem d_reduced (B : Blt K mg cN cO cA cW) (R : Raw K mg "reduced" LH.s_reduced) : Def P w K mg base 1 "reduced" ["n", "d"] (sp_reduced K) := by
  refine def_mk R sc_reduced (fun _ _ _ _ _ _ us hl => match us, hl with | [_, _], _ => rfl) (fun _ => rfl) fun f cdv A outer s H E hr => ⟨_, (pss_cons (ps_set (i := 2) sc_reduced.nd rfl (.inl rfl) (pe_ifExp (pt_cmpR op_gt (pv 1) pe_int (nomark _)) (pe_callBfun cr_gcd rfl B.gcd (pa_cons (pv 0) (pa_cons (pv 1) pa_nil))) (pe_un un_neg (pe_callBfun cr_gcd rfl B.gcd (pa_cons (pv 0) (pa_cons (pv 1) pa_nil))))))
      (pss_one (ps_ret (pe_tup (pa_cons (pe_op op_fdivX (pv 0) (pv 2)) (pa_cons (pe_op op_fdivX (pv 1) (pv 2)) pa_nil)))))), fun ⟨n, d⟩ hp W => ?_⟩
  obtain ⟨h0, h1⟩ := hp
  have hd : CDivX n (comm n d) := ⟨comm_ne h0, PySem.Flt.log2_lt_of (by decide) (Nat.lt_of_le_of_lt (comm_le h0) (Nat.lt_of_lt_of_le h1 (Nat.pow_le_pow_right (by decide) (by decide))))⟩
  refine ss_asg (R := yI (comm n d)) (ee_if (et_test (ee_op (ee_var rfl) ee_i ot_gt)) (fun h => ee_ieq (ee_cb (ea_cons (ee_var rfl) (ea_cons (ee_var rfl) ea_nil)) ct_gcd) ?_) (fun h => ee_ieq (ee_un (ee_cb (ea_cons (ee_var rfl) (ea_cons (ee_var rfl) ea_nil)) ct_gcd) ut_neg) ?_)) ?_
  · exact (if_pos (of_decide_eq_true h)).symm
  · exact (if_neg (of_decide_eq_false h)).symm
  refine ss_ret (ee_tup (ea_cons (ee_ieq (ee_op (ee_var rfl) (ee_var rfl) (ot_fdivX hd)) (comm_num h0)) (ea_cons (ee_ieq (ee_op (ee_var rfl) (ee_var rfl) (ot_fdivX hd)) (comm_den h0)) ea_nil)) (lle rfl)) (Wd.le.refl _)
theorem d_added (R : Raw K mg "added" LH.s_added) (D_reduced : Def P w K mg base 1 "reduced" ["n", "d"] (sp_reduced K)) : Def P w K mg base 2 "added" ["one", "other"] (sp_added K) := by
  refine def_mk R sc_added (fun _ _ _ _ _ _ us hl => match us, hl with | [_, _], _ => rfl) (fun _ => rfl) fun f cdv A outer s H E hr => ⟨_, (pss_one (ps_ret (pe_cd D_reduced hr (by decide) (pa_cons (pe_op op_add (pe_op op_mulW (pe_ix ix_tup (pv 0) pe_int (fun _ _ => rfl)) (pe_ix ix_tup (pv 1) pe_int (fun _ _ => rfl))) (pe_op op_mulW (pe_ix ix_tup (pv 1) pe_int (fun _ _ => rfl)) (pe_ix ix_tup (pv 0) pe_int (fun _ _ => rfl)))) (pa_cons (pe_op op_mulW (pe_ix ix_tup (pv 0) pe_int (fun _ _ => rfl)) (pe_ix ix_tup (pv 1) pe_int (fun _ _ => rfl))) pa_nil))))), fun ⟨x, y⟩ ⟨hx, hy⟩ W => ?_⟩
  refine ss_ret (ee_eq (ee_reduced (ee_op (ee_op (ee_op (ee_var rfl) ee_i (ot_ixT rfl)) (ee_op (ee_var rfl) ee_i (ot_ixT rfl)) (ot_mulW (sz_nd hx hy))) (ee_op (ee_op (ee_var rfl) ee_i (ot_ixT rfl)) (ee_op (ee_var rfl) ee_i (ot_ixT rfl)) (ot_mulW (sz_nd hy hx))) ot_add) (ee_op (ee_op (ee_var rfl) ee_i (ot_ixT rfl)) (ee_op (ee_var rfl) ee_i (ot_ixT rfl)) (ot_mulW (sz_dd hx hy))) (den_dd hx hy)) (congrArg (yF K) (add_eq x y))) (Wd.le.refl _)
theorem d_lessened (R : Raw K mg "lessened" LH.s_lessened) (D_reduced : Def P w K mg base 1 "reduced" ["n", "d"] (sp_reduced K)) : Def P w K mg base 2 "lessened" ["one", "other"] (sp_lessened K) := by
  refine def_mk R sc_lessened (fun _ _ _ _ _ _ us hl => match us, hl with | [_, _], _ => rfl) (fun _ => rfl) fun f cdv A outer s H E hr => ⟨_, (pss_one (ps_ret (pe_cd D_reduced hr (by decide) (pa_cons (pe_op op_sub (pe_op op_mulW (pe_ix ix_tup (pv 0) pe_int (fun _ _ => rfl)) (pe_ix ix_tup (pv 1) pe_int (fun _ _ => rfl))) (pe_op op_mulW (pe_ix ix_tup (pv 1) pe_int (fun _ _ => rfl)) (pe_ix ix_tup (pv 0) pe_int (fun _ _ => rfl)))) (pa_cons (pe_op op_mulW (pe_ix ix_tup (pv 0) pe_int (fun _ _ => rfl)) (pe_ix ix_tup (pv 1) pe_int (fun _ _ => rfl))) pa_nil))))), fun ⟨x, y⟩ ⟨hx, hy⟩ W => ?_⟩
  refine ss_ret (ee_eq (ee_reduced (ee_op (ee_op (ee_op (ee_var rfl) ee_i (ot_ixT rfl)) (ee_op (ee_var rfl) ee_i (ot_ixT rfl)) (ot_mulW (sz_nd hx hy))) (ee_op (ee_op (ee_var rfl) ee_i (ot_ixT rfl)) (ee_op (ee_var rfl) ee_i (ot_ixT rfl)) (ot_mulW (sz_nd hy hx))) ot_sub) (ee_op (ee_op (ee_var rfl) ee_i (ot_ixT rfl)) (ee_op (ee_var rfl) ee_i (ot_ixT rfl)) (ot_mulW (sz_dd hx hy))) (den_dd hx hy)) (congrArg (yF K) (sub_eq x y))) (Wd.le.refl _)
theorem d_times (R : Raw K mg "times" LH.s_times) (D_reduced : Def P w K mg base 1 "reduced" ["n", "d"] (sp_reduced K)) : Def P w K mg base 2 "times" ["one", "other"] (sp_times K) := by
  refine def_mk R sc_times (fun _ _ _ _ _ _ us hl => match us, hl with | [_, _], _ => rfl) (fun _ => rfl) fun f cdv A outer s H E hr => ⟨_, (pss_one (ps_ret (pe_cd D_reduced hr (by decide) (pa_cons (pe_op op_mulW (pe_ix ix_tup (pv 0) pe_int (fun _ _ => rfl)) (pe_ix ix_tup (pv 1) pe_int (fun _ _ => rfl))) (pa_cons (pe_op op_mulW (pe_ix ix_tup (pv 0) pe_int (fun _ _ => rfl)) (pe_ix ix_tup (pv 1) pe_int (fun _ _ => rfl))) pa_nil))))), fun ⟨x, y⟩ ⟨hx, hy⟩ W => ?_⟩
  refine ss_ret (ee_eq (ee_reduced (ee_op (ee_op (ee_var rfl) ee_i (ot_ixT rfl)) (ee_op (ee_var rfl) ee_i (ot_ixT rfl)) (ot_mulW (sz_nn hx hy))) (ee_op (ee_op (ee_var rfl) ee_i (ot_ixT rfl)) (ee_op (ee_var rfl) ee_i (ot_ixT rfl)) (ot_mulW (sz_dd hx hy))) (den_dd hx hy)) (congrArg (yF K) (mul_eq x y))) (Wd.le.refl _)
theorem d_over (R : Raw K mg "over" LH.s_over) (D_reduced : Def P w K mg base 1 "reduced" ["n", "d"] (sp_reduced K)) : Def P w K mg base 2 "over" ["one", "other"] (sp_over K) := by
  refine def_mk R sc_over (fun _ _ _ _ _ _ us hl => match us, hl with | [_, _], _ => rfl) (fun _ => rfl) fun f cdv A outer s H E hr => ⟨_, (pss_one (ps_ret (pe_cd D_reduced hr (by decide) (pa_cons (pe_op op_mulW (pe_ix ix_tup (pv 0) pe_int (fun _ _ => rfl)) (pe_ix ix_tup (pv 1) pe_int (fun _ _ => rfl))) (pa_cons (pe_op op_mulW (pe_ix ix_tup (pv 0) pe_int (fun _ _ => rfl)) (pe_ix ix_tup (pv 1) pe_int (fun _ _ => rfl))) pa_nil))))), fun ⟨x, y⟩ ⟨hx, hy, h0⟩ W => ?_⟩
  refine ss_ret (ee_eq (ee_reduced (ee_op (ee_op (ee_var rfl) ee_i (ot_ixT rfl)) (ee_op (ee_var rfl) ee_i (ot_ixT rfl)) (ot_mulW (sz_nd hx hy))) (ee_op (ee_op (ee_var rfl) ee_i (ot_ixT rfl)) (ee_op (ee_var rfl) ee_i (ot_ixT rfl)) (ot_mulW (sz_dn hx hy))) (den_dn hx hy h0)) (congrArg (yF K) (div_eq x y))) (Wd.le.refl _)
theorem cmp_num (x y : Rat) : (if decide (y.num * (x.den : Int) < x.num * (y.den : Int)) = true then (1 : Int) else 0) - (if decide (x.num * (y.den : Int) < y.num * (x.den : Int)) = true then 1 else 0) = cmp x y := by
  unfold cmp
  simp only [decide_eq_true_eq, lt_num]
theorem d_compared (B : Blt K mg cN cO cA cW) (R : Raw K mg "compared" LH.s_compared) : Def P w K mg base 1 "compared" ["one", "other"] (sp_compared K) := by
  refine def_mk R sc_compared (fun _ _ _ _ _ _ us hl => match us, hl with | [_, _], _ => rfl) (fun _ => rfl) fun f cdv A outer s H E hr => ⟨_, (pss_cons (ps_par (i := 2) (j := 3) rfl sc_compared.nd rfl rfl (by decide) rfl rfl (pa_cons (pe_op op_mulW (pe_ix ix_tup (pv 0) pe_int (fun _ _ => rfl)) (pe_ix ix_tup (pv 1) pe_int (fun _ _ => rfl))) (pa_cons (pe_op op_mulW (pe_ix ix_tup (pv 1) pe_int (fun _ _ => rfl)) (pe_ix ix_tup (pv 0) pe_int (fun _ _ => rfl))) pa_nil)) (by rfl))
      (pss_one (ps_ret (pe_op op_sub (pe_callTy call_int1 rfl B.int (by decide +kernel) (pa_cons (pe_cmpR op_gt (pv 2) (pv 3) (nomark _)) pa_nil)) (pe_callTy call_int1 rfl B.int (by decide +kernel) (pa_cons (pe_cmpR op_lt (pv 2) (pv 3) (nomark _)) pa_nil)))))), fun ⟨x, y⟩ ⟨hx, hy⟩ W => ?_⟩
  refine ss_par (ea_cons (ee_op (ee_op (ee_var rfl) ee_i (ot_ixT rfl)) (ee_op (ee_var rfl) ee_i (ot_ixT rfl)) (ot_mulW (sz_nd hx hy))) (ea_cons (ee_op (ee_op (ee_var rfl) ee_i (ot_ixT rfl)) (ee_op (ee_var rfl) ee_i (ot_ixT rfl)) (ot_mulW (sz_nd hy hx))) ea_nil)) ?_
  refine ss_ret (ee_ieq (ee_op (ee_cb (ea_cons (ee_op (ee_var rfl) (ee_var rfl) ot_gt) ea_nil) ct_intB) (ee_cb (ea_cons (ee_op (ee_var rfl) (ee_var rfl) ot_lt) ea_nil) ct_intB) ot_sub) (cmp_num x y)) (Wd.le.refl _)
end
end LT
end
section
set_option Elab.async false
set_option linter.all false
set_option maxRecDepth 100000
set_option maxHeartbeats 1000000
set_option exponentiation.threshold 20000
namespace LT
open PySem PySem.Spec PyProof.Rows L2 LL
section
variable {Γ Γ' : Tys} {W W0 W' : Wd} {R S Ra Rb : Ty} {Rs : List Ty} {te ta tb tc td : TE} {t : TA} {K : PySem.W.Frag} {N : Nx} {u tu tw tz : TS}
def EO (to : TO) (Γ : Tys) (W : Wd) (o : Option Int) : Prop := ∀ σ G H, OkS Γ σ G → Same G H → W.r G H → ∀ Q : Option Int → Hp → Prop, (∀ G2 H2, Same G G2 → Same G2 H2 → W.r G2 H2 → Q o H2) → to σ H Q
theorem eo_none : EO tNoPart Γ W none := fun σ G H o s w Q q => q G H (Same.refl _) s w
theorem eo_some {i : Int} (h : EE te Γ W (yI i)) : EO (tPart te) Γ W (some i) := fun σ G H o s w Q q => h σ G H o s w _ fun v G1 H1 g1 s1 w1 r1 => ⟨i, r1, q G1 H1 g1 s1 w1⟩
theorem ee_sl {r : V → Option Int → Option Int → Hp → VK → Prop} {tl th : TO} {lo hi : Option Int} (h : EE te Γ W Ra) (h1 : EO tl Γ W lo) (h2 : EO th Γ W hi)
    (ho : ∀ x G H, Same G H → Ra.r x G → ∀ Q : VK, (∀ v G2 H2, GS G H G2 H2 → R.r v G2 → Q v H2) → r x lo hi H Q) : EE (tSl r te tl th) Γ W R := fun σ G H o s w Q q =>
  h σ G H o s w _ fun x G1 H1 g1 s1 w1 r1 => h1 σ G1 H1 (o.mono g1) s1 w1 _ fun G2 H2 g2 s2 w2 => h2 σ G2 H2 (o.mono (g1.trans g2)) s2 w2 _ fun G3 H3 g3 s3 w3 =>
    ho x G3 H3 s3 (Ra.mono _ _ _ (g2.trans g3) r1) Q fun v G4 H4 gs r4 => q v G4 H4 (((g1.trans g2).trans g3).trans gs.g) gs.sub (W.pure _ _ _ _ s3 w3 gs) r4
def cutT (Rs : List Ty) (lo hi : Option Int) : List Ty := (Rs.drop (HT.sIx Rs.length 0 lo)).take (HT.sIx Rs.length Rs.length hi - HT.sIx Rs.length 0 lo)
theorem cut_all {xs : List V} {G : Hp} {lo hi : Option Int} (a : AllR Rs xs G) : AllR (cutT Rs lo hi) (cutV xs lo hi) G := by
  unfold cutT cutV
  rw [a.len]
  exact AllR.take _ (AllR.drop _ a)
theorem ee_slL {tl th : TO} {lo hi : Option Int} (h : EE te Γ W (yL Rs)) (h1 : EO tl Γ W lo) (h2 : EO th Γ W hi) : EE (tSl (rSlL K) te tl th) Γ W (yL (cutT Rs lo hi)) :=
  ee_sl h h1 h2 fun x G H s r Q q => by
    obtain ⟨p, xs, rfl, hp, a⟩ := r
    refine ⟨p, xs, rfl, .inl (.inl (s _ _ hp)), fun l hl => ?_⟩
    have gs := GS.new (o := .lst (cutV xs lo hi)) s hl
    exact q _ _ _ gs ⟨l, _, rfl, upd_same, (cut_all a).mono gs.g⟩
theorem ee_slT {tl th : TO} {lo hi : Option Int} (h : EE te Γ W (yT K Rs)) (h1 : EO tl Γ W lo) (h2 : EO th Γ W hi) : EE (tSl (rSlA K) te tl th) Γ W (yT K (cutT Rs lo hi)) :=
  ee_sl h h1 h2 fun x G H s r Q q => by
    obtain ⟨p, xs, rfl, hp, a⟩ := r
    refine ⟨p, xs, rfl, same_t s hp, fun hw => ?_, fun hw l hl => ?_⟩
    · refine q _ G H (GS.refl s) ⟨p, xs, rfl, hp, ?_⟩
      have e : cutV xs lo hi = xs := by
        unfold cutV
        rw [hw.1, hw.2]
        simp
      have c := cut_all (lo := lo) (hi := hi) a
      rw [e] at c
      exact c
    · have gs := GS.new (o := .tup (cutV xs lo hi)) s hl
      exact q _ _ _ gs ⟨l, _, rfl, .inl (.inl upd_same), (cut_all a).mono gs.g⟩
/-- data, for == -/
def Da (K : PySem.W.Frag) (R : Ty) (d : PyData) : Prop := ∀ v G, R.r v G → Dp K G v d
mutual
theorem dp_mono {H H' : Hp} (s : Same H H') : ∀ {v : V} {d : PyData}, Dp K H v d → Dp K H' v d
  | _, _, .non => .non
  | _, _, .bl b => .bl b
  | _, _, .int i => .int i
  | _, _, .str x => .str x
  | _, _, .lst h a => .lst (s.seq h) (dpAll_mono s a)
  | _, _, .tup h a => .tup (same_t s h) (dpAll_mono s a)
theorem dpAll_mono {H H' : Hp} (s : Same H H') : ∀ {vs : List V} {ds : List PyData}, DpAll K H vs ds → DpAll K H' vs ds
  | _, _, .nil => .nil
  | _, _, .cons h a => .cons (dp_mono s h) (dpAll_mono s a)
end
def DaAll (K : PySem.W.Frag) : List Ty → List PyData → Prop
  | [], [] => True
  | R :: Rs, d :: ds => Da K R d ∧ DaAll K Rs ds
  | _, _ => False
theorem daAll_dp : ∀ {Rs : List Ty} {ds : List PyData} {xs : List V} {G : Hp}, DaAll K Rs ds → AllR Rs xs G → DpAll K G xs ds
  | [], [], [], _, _, _ => .nil
  | R :: Rs, d :: ds, x :: xs, G, h, a => .cons (h.1 _ _ a.1) (daAll_dp h.2 a.2)
  | [], _ :: _, _, _, h, _ => h.elim
  | _ :: _, [], _, _, h, _ => h.elim
  | [], [], _ :: _, _, _, a => a.elim
  | _ :: _, _ :: _, [], _, _, a => a.elim
theorem da_i {i : Int} : Da K (yI i) (.int i) := fun v G h => by
  have h : v = .int i := h
  subst h
  exact .int i
theorem da_t {ds : List PyData} (h : DaAll K Rs ds) : Da K (yT K Rs) (.tuple ds) := fun v G ⟨p, xs, e, hp, a⟩ => by
  subst e
  exact .tup hp (daAll_dp h a)
theorem da_l {ds : List PyData} (h : DaAll K Rs ds) : Da K (yL Rs) (.list ds) := fun v G ⟨p, xs, e, hp, a⟩ => by
  subst e
  exact .lst (.inl (.inl hp)) (daAll_dp h a)
theorem ot_eqD {d e : PyData} (h1 : Da K Ra d) (h2 : Da K Rb e) (s1 : SeqAt.shaped d = true) (s2 : SeqAt.shaped e = true) {b : Bool} (hb : PyData.eqv d e = b) : OT (rEqD K) Ra Rb (yB b) := fun x y G H s hx hy Q q =>
  ⟨d, e, dp_mono s (h1 _ _ hx), dp_mono s (h2 _ _ hy), s1, s2, by rw [hb]; exact q _ G H (GS.refl s) rfl⟩
theorem ot_neD {d e : PyData} (h1 : Da K Ra d) (h2 : Da K Rb e) (s1 : SeqAt.shaped d = true) (s2 : SeqAt.shaped e = true) {b : Bool} (hb : PyData.eqv d e = b) : OT (rNeD K) Ra Rb (yB (!b)) := fun x y G H s hx hy Q q =>
  ⟨d, e, dp_mono s (h1 _ _ hx), dp_mono s (h2 _ _ hy), s1, s2, by rw [hb]; exact q _ G H (GS.refl s) rfl⟩
/-- a joined if -/
theorem ss_ifJ {c : TT} {b : Bool} (Γ' : Tys) (W' : Wd) (hc : ET c Γ W b) (h1 : b = true → SS tu Γ W (nX Γ' W') W0 S) (h2 : b = false → SS tw Γ W (nX Γ' W') W0 S) (k : SS u Γ' W' N W0 S) : SS (tSeq (tIfS c tu tw) u) Γ W N W0 S := fun σ G H o s w D n r =>
  hc σ G H o s w _ fun G1 H1 g1 s1 w1 => by
    have go : ∀ σ' G2 H2, Same G1 G2 → Same G2 H2 → nX Γ' W' σ' G2 H2 → u D σ' H2 := fun σ' G2 H2 a b ⟨o', w'⟩ => k σ' G2 H2 o' b w' D (fun σ'' G3 H3 c => n σ'' G3 H3 ((g1.trans a).trans c)) fun v G3 H3 c => r v G3 H3 ((g1.trans a).trans c)
    cases b with
    | true => exact h1 rfl σ G1 H1 (o.mono g1) s1 w1 { D with nx := u D } go fun v G2 H2 a => r v G2 H2 (g1.trans a)
    | false => exact h2 rfl σ G1 H1 (o.mono g1) s1 w1 { D with nx := u D } go fun v G2 H2 a => r v G2 H2 (g1.trans a)
/-- the end of a branch -/
theorem ss_nX (h : ∀ σ G, OkS Γ σ G → OkS Γ' σ G) (hw : W.le W') : SS tNext Γ W (nX Γ' W') W0 S := ss_next fun σ G H o s w => ⟨h σ G o, hw _ _ w⟩
theorem EI.congr {wi : TI} {n : Nat} {Y Y' : Nat → Ty} (h : EI wi Γ W n Y) (e : ∀ i, i < n → Y i = Y' i) : EI wi Γ W n Y' := fun σ G H o s w R q => h σ G H o s w R fun J G2 H2 a b c wk => q J G2 H2 a b c
  ⟨wk.go, fun i G H x H' hi x1 x2 x3 => by rw [← e i hi]; exact wk.yld i G H x H' hi x1 x2 x3, wk.stop⟩
/-- a leg, a couple of fractions, a row -/
abbrev yG (K : PySem.W.Frag) (l : Leg) : Ty := yT K [yT K [yI l.x, yI l.y], yT K [yI l.u, yI l.v]]
abbrev yP (K : PySem.W.Frag) (p : Rat × Rat) : Ty := yT K [yF K p.1, yF K p.2]
abbrev yR (K : PySem.W.Frag) (q s t : Rat) : Ty := yT K [yF K q, yF K s, yF K t]
def PreG (a b : Leg) (s t : Rat) : Prop := LB a ∧ LB b ∧ ∃ D : Nat, D ≠ 0 ∧ D < 2 ^ 900 ∧ Part D s ∧ Part D t
def sp_place_on (K : PySem.W.Frag) : Sp := spF (fun g : Leg × Rat => [yG K g.1, yF K g.2]) (fun g => LB g.1 ∧ ∃ D : Nat, D ≠ 0 ∧ D < 2 ^ 900 ∧ Part D g.2) (fun g => yP K (plx g.1 g.2, ply g.1 g.2))
def sp_parting (K : PySem.W.Frag) : Sp := spF (fun g : Leg × Leg × Rat × Rat => [yG K g.1, yG K g.2.1, yF K g.2.2.1, yF K g.2.2.2]) (fun g => PreG g.1 g.2.1 g.2.2.1 g.2.2.2) (fun g => yP K (gx g.1 g.2.1 g.2.2.1 g.2.2.2, gy g.1 g.2.1 g.2.2.1 g.2.2.2))
def Sh (q : Rat) : Prop := q.num.natAbs < 2 ^ 1990 ∧ q.den < 2 ^ 1990
def sp_dot (K : PySem.W.Frag) : Sp := spF (fun g : (Rat × Rat) × (Rat × Rat) => [yP K g.1, yP K g.2]) (fun g => (Sh g.1.1 ∧ Sh g.1.2) ∧ Sh g.2.1 ∧ Sh g.2.2) (fun g => yF K (g.1.1 * g.2.1 + g.1.2 * g.2.2))
def sp_squared_at (K : PySem.W.Frag) : Sp := spF (fun g : Leg × Leg × Rat × Rat => [yG K g.1, yG K g.2.1, yF K g.2.2.1, yF K g.2.2.2]) (fun g => PreG g.1 g.2.1 g.2.2.1 g.2.2.2) (fun g => yF K (ff g.1 g.2.1 g.2.2.1 g.2.2.2))
def sp_ring_of (K : PySem.W.Frag) : Sp := spF (fun g : Rat => [yF K g]) (fun g => (0 ≤ g ∧ g ≤ 1) ∧ g.den < 2 ^ 250) (fun g => yL ((ring g).map (yP K)))
def cmp3 (q s t q' s' t' : Rat) : Int := if cmp q q' ≠ 0 then cmp q q' else if cmp s s' ≠ 0 then cmp s s' else if cmp t t' ≠ 0 then cmp t t' else 0
def sp_by_parts (K : PySem.W.Frag) : Sp := spF (fun g : (Rat × Rat × Rat) × (Rat × Rat × Rat) => [yR K g.1.1 g.1.2.1 g.1.2.2, yR K g.2.1 g.2.2.1 g.2.2.2]) (fun g => (Sz g.1.1 ∧ Sz g.1.2.1 ∧ Sz g.1.2.2) ∧ Sz g.2.1 ∧ Sz g.2.2.1 ∧ Sz g.2.2.2)
  (fun g => yI (cmp3 g.1.1 g.1.2.1 g.1.2.2 g.2.1 g.2.2.1 g.2.2.2))
def PreE (a b : Leg) (p q : Rat × Rat) : Prop := LB a ∧ LB b ∧ ∃ T : Nat, T ≠ 0 ∧ T < 2 ^ 250 ∧ Pt T p ∧ Pt T q
def sp_on_side (K : PySem.W.Frag) : Sp := spF (fun g : Leg × Leg × (Rat × Rat) × (Rat × Rat) => [yG K g.1, yG K g.2.1, yP K g.2.2.1, yP K g.2.2.2]) (fun g => PreE g.1 g.2.1 g.2.2.1 g.2.2.2) (fun g => yP K (side g.1 g.2.1 g.2.2.1 g.2.2.2))
abbrev yC (K : PySem.W.Frag) (a b : Leg) : Ty := if wh a b = 0 then yN else yP K (cr a b)
def sp_crossing (K : PySem.W.Frag) : Sp := spF (fun g : Leg × Leg => [yG K g.1, yG K g.2]) (fun g => LB g.1 ∧ LB g.2) (fun g => yC K g.1 g.2)
open Classical in
noncomputable def dmB (r s t : Rat) : Bool := decide (Dm r s t)
def sp_is_within (K : PySem.W.Frag) : Sp := spF (fun g : Rat × Rat × Rat => [yF K g.1, yF K g.2.1, yF K g.2.2]) (fun g => Sh g.1 ∧ Sh g.2.1 ∧ Sh g.2.2) (fun g => yB (dmB g.2.2 g.1 g.2.1))
def PreN (a b : Leg) (r : Rat) : Prop := LB a ∧ LB b ∧ (0 ≤ r ∧ r ≤ 1) ∧ r.den < 2 ^ 250
abbrev yNear (K : PySem.W.Frag) (a b : Leg) (r : Rat) : Ty := yE fun g : Rat × Rat × Rat => yW (NearOk a b r g.1) (yR K g.1 g.2.1 g.2.2)
def sp_nearest (K : PySem.W.Frag) : Sp := spF (fun g : Leg × Leg × Rat => [yG K g.1, yG K g.2.1, yF K g.2.2]) (fun g => PreN g.1 g.2.1 g.2.2) (fun g => yNear K g.1 g.2.1 g.2.2)
theorem ee_place_on {l : Leg} {s : Rat} (ha : EE ta Γ W (yG K l)) (hb : EE tb Γ W (yF K s)) (hp : LB l ∧ ∃ D : Nat, D ≠ 0 ∧ D < 2 ^ 900 ∧ Part D s) : EE (tCall (sp_place_on K) [] E0 (tCons ta (tCons tb tNil))) Γ W (yP K (plx l s, ply l s)) := ee_call (l, s) (ea_cons ha (ea_cons hb ea_nil)) hp
theorem ee_parting {a b : Leg} {s t : Rat} (ha : EE ta Γ W (yG K a)) (hb : EE tb Γ W (yG K b)) (hc : EE tc Γ W (yF K s)) (hd : EE td Γ W (yF K t)) (hp : PreG a b s t) : EE (tCall (sp_parting K) [] E0 (tCons ta (tCons tb (tCons tc (tCons td tNil))))) Γ W (yP K (gx a b s t, gy a b s t)) := ee_call (a, b, s, t) (ea_cons ha (ea_cons hb (ea_cons hc (ea_cons hd ea_nil)))) hp
theorem ee_dot {p q : Rat × Rat} (ha : EE ta Γ W (yP K p)) (hb : EE tb Γ W (yP K q)) (hp : (Sh p.1 ∧ Sh p.2) ∧ Sh q.1 ∧ Sh q.2) : EE (tCall (sp_dot K) [] E0 (tCons ta (tCons tb tNil))) Γ W (yF K (p.1 * q.1 + p.2 * q.2)) := ee_call (p, q) (ea_cons ha (ea_cons hb ea_nil)) hp
theorem ee_squared_at {a b : Leg} {s t : Rat} (ha : EE ta Γ W (yG K a)) (hb : EE tb Γ W (yG K b)) (hc : EE tc Γ W (yF K s)) (hd : EE td Γ W (yF K t)) (hp : PreG a b s t) : EE (tCall (sp_squared_at K) [] E0 (tCons ta (tCons tb (tCons tc (tCons td tNil))))) Γ W (yF K (ff a b s t)) := ee_call (a, b, s, t) (ea_cons ha (ea_cons hb (ea_cons hc (ea_cons hd ea_nil)))) hp
theorem ee_ring_of {r : Rat} (ha : EE ta Γ W (yF K r)) (hp : (0 ≤ r ∧ r ≤ 1) ∧ r.den < 2 ^ 250) : EE (tCall (sp_ring_of K) [] E0 (tCons ta tNil)) Γ W (yL ((ring r).map (yP K))) := ee_call r (ea_cons ha ea_nil) hp
theorem ee_by_parts {q s t q' s' t' : Rat} (ha : EE ta Γ W (yR K q s t)) (hb : EE tb Γ W (yR K q' s' t')) (hp : (Sz q ∧ Sz s ∧ Sz t) ∧ Sz q' ∧ Sz s' ∧ Sz t') : EE (tCall (sp_by_parts K) [] E0 (tCons ta (tCons tb tNil))) Γ W (yI (cmp3 q s t q' s' t')) := ee_call ((q, s, t), (q', s', t')) (ea_cons ha (ea_cons hb ea_nil)) hp
theorem ee_on_side {a b : Leg} {p q : Rat × Rat} (ha : EE ta Γ W (yG K a)) (hb : EE tb Γ W (yG K b)) (hc : EE tc Γ W (yP K p)) (hd : EE td Γ W (yP K q)) (hp : PreE a b p q) : EE (tCall (sp_on_side K) [] E0 (tCons ta (tCons tb (tCons tc (tCons td tNil))))) Γ W (yP K (side a b p q)) := ee_call (a, b, p, q) (ea_cons ha (ea_cons hb (ea_cons hc (ea_cons hd ea_nil)))) hp
theorem ee_crossing {a b : Leg} (ha : EE ta Γ W (yG K a)) (hb : EE tb Γ W (yG K b)) (hp : LB a ∧ LB b) : EE (tCall (sp_crossing K) [] E0 (tCons ta (tCons tb tNil))) Γ W (yC K a b) := ee_call (a, b) (ea_cons ha (ea_cons hb ea_nil)) hp
theorem ee_is_within {s t r : Rat} (ha : EE ta Γ W (yF K s)) (hb : EE tb Γ W (yF K t)) (hc : EE tc Γ W (yF K r)) (hp : Sh s ∧ Sh t ∧ Sh r) : EE (tCall (sp_is_within K) [] E0 (tCons ta (tCons tb (tCons tc tNil)))) Γ W (yB (dmB r s t)) := ee_call (s, t, r) (ea_cons ha (ea_cons hb (ea_cons hc ea_nil))) hp
theorem ee_nearest {a b : Leg} {r : Rat} (ha : EE ta Γ W (yG K a)) (hb : EE tb Γ W (yG K b)) (hc : EE tc Γ W (yF K r)) (hp : PreN a b r) : EE (tCall (sp_nearest K) [] E0 (tCons ta (tCons tb (tCons tc tNil)))) Γ W (yNear K a b r) := ee_call (a, b, r) (ea_cons ha (ea_cons hb (ea_cons hc ea_nil))) hp
theorem num_le_divInt (n : Int) {d : Int} (h : d ≠ 0) : (Rat.divInt n d).num.natAbs ≤ n.natAbs ∧ (Rat.divInt n d).den ≤ d.natAbs := by
  rw [← comm_num h]
  refine ⟨?_, ?_⟩
  · obtain ⟨k, hk⟩ : ((Nat.gcd n.natAbs d.natAbs : Nat) : Int) ∣ n := Int.ofNat_dvd_left.mpr (Nat.gcd_dvd_left _ _)
    have hc : comm n d ∣ n := by
      unfold comm
      split
      · exact ⟨k, hk⟩
      · exact (Int.neg_dvd).mpr ⟨k, hk⟩
    obtain ⟨m, hm⟩ := hc
    rw [fdiv_exact (b := m) (comm_ne h) (by rw [Int.mul_comm]; exact hm)]
    conv => rhs; rw [hm, Int.natAbs_mul]
    exact Nat.le_mul_of_pos_left _ (by have := comm_ne (n := n) h; omega)
  · rw [Rat.den_divInt, if_neg h]
    exact Nat.div_le_self _ _
theorem sh_mul {x y : Rat} (hx : Sh x) (hy : Sh y) : Sz (x * y) := by
  have h := num_le_divInt (x.num * y.num) (d := (x.den : Int) * (y.den : Int)) (Int.mul_ne_zero (den_ne x) (den_ne y))
  rw [mul_eq] at h
  have n1 : (x.num * y.num).natAbs < 2 ^ (1990 + 1990) := wide_lt hx.1 hy.1
  have n2 : ((x.den : Int) * (y.den : Int)).natAbs < 2 ^ (1990 + 1990) := wide_lt (by have := hx.2; omega) (by have := hy.2; omega)
  have up : (2 : Nat) ^ (1990 + 1990) ≤ 2 ^ 4000 := Nat.pow_le_pow_right (by decide) (by decide)
  exact ⟨by omega, by omega⟩
theorem Sh.sz {x : Rat} (h : Sh x) : Sz x := by
  have up : (2 : Nat) ^ 1990 ≤ 2 ^ 4000 := Nat.pow_le_pow_right (by decide) (by decide)
  exact ⟨Nat.lt_of_lt_of_le h.1 up, Nat.lt_of_lt_of_le h.2 up⟩
theorem sh_in {D V : Nat} {x : Rat} {a b : Nat} (h : InD D V x) (hD : D ≠ 0) (ha : D < 2 ^ a) (hb : V ≤ 2 ^ b) (hc : a + b ≤ 1990) : Sh x := h.sz hD ha hb hc
theorem sh_part {D : Nat} {x : Rat} (h : Part D x) (hD : D ≠ 0) (ha : D < 2 ^ 900) : Sh x := sh_in h.inD hD ha (show 1 ≤ 2 ^ 0 by decide) (by decide)
theorem sz_int {i : Int} (h : i.natAbs ≤ 2 ^ 100) : Sz (i : Rat) := (inD_int (D := 1) (V := 2 ^ 100) i h).Sz (by decide) (show 1 < 2 ^ 1 by decide) (Nat.le_refl _) (by decide)
end
abbrev N_place_on : List Str := ["leg", "s", "x", "y", "far_x", "far_y"]
theorem sc_place_on : FnScope N_place_on ["leg", "s"] (defScope LH.s_place_on) := ⟨rfl, rfl, rfl, by decide +kernel, rfl, by decide +kernel, by decide +kernel⟩
abbrev N_parting : List Str := ["leg", "other", "s", "t", "x", "y", "far_x", "far_y"]
theorem sc_parting : FnScope N_parting ["leg", "other", "s", "t"] (defScope LH.s_parting) := ⟨rfl, rfl, rfl, by decide +kernel, rfl, by decide +kernel, by decide +kernel⟩
abbrev N_dot : List Str := ["one", "other"]
theorem sc_dot : FnScope N_dot ["one", "other"] (defScope LH.s_dot) := ⟨rfl, rfl, rfl, by decide +kernel, rfl, by decide +kernel, by decide +kernel⟩
abbrev N_squared_at : List Str := ["leg", "other", "s", "t", "way"]
theorem sc_squared_at : FnScope N_squared_at ["leg", "other", "s", "t"] (defScope LH.s_squared_at) := ⟨rfl, rfl, rfl, by decide +kernel, rfl, by decide +kernel, by decide +kernel⟩
abbrev N_ring_of : List Str := ["rho", "rest"]
theorem sc_ring_of : FnScope N_ring_of ["rho"] (defScope LH.s_ring_of) := ⟨rfl, rfl, rfl, by decide +kernel, rfl, by decide +kernel, by decide +kernel⟩
abbrev N_by_parts : List Str := ["one", "other", "mine", "its"]
theorem sc_by_parts : FnScope N_by_parts ["one", "other"] (defScope LH.s_by_parts) := ⟨rfl, rfl, rfl, by decide +kernel, rfl, by decide +kernel, by decide +kernel⟩
section
variable {P : Program} {w : World} {K : PySem.W.Frag} {mg : Str → Option Value} {base : Heap} {cN cO cA cW : Addr}
theorem d_place_on (R : Raw K mg "place_on" LH.s_place_on) (D_added : Def P w K mg base 2 "added" ["one", "other"] (sp_added K)) (D_times : Def P w K mg base 2 "times" ["one", "other"] (sp_times K)) : Def P w K mg base 3 "place_on" ["leg", "s"] (sp_place_on K) := by
  refine def_mk R sc_place_on (fun _ _ _ _ _ _ us hl => match us, hl with | [_, _], _ => rfl) (fun _ => rfl) fun f cdv A outer s H E hr => ⟨_, (pss_cons (ps_asg (pv 0) (pg_tup rfl (pgs_cons (pg_tup rfl (pgs_cons (pg_name (i := 2) sc_place_on.nd rfl (.inl rfl)) (pgs_cons (pg_name (i := 3) sc_place_on.nd rfl (.inl rfl)) pgs_nil))) (pgs_cons (pg_tup rfl (pgs_cons (pg_name (i := 4) sc_place_on.nd rfl (.inl rfl)) (pgs_cons (pg_name (i := 5) sc_place_on.nd rfl (.inl rfl)) pgs_nil))) pgs_nil))))
      (pss_one (ps_ret (pe_tup (pa_cons (pe_cd D_added hr (by decide) (pa_cons (pe_tup (pa_cons (pv 2) (pa_cons pe_int pa_nil))) (pa_cons (pe_cd D_times hr (by decide) (pa_cons (pv 1) (pa_cons (pe_tup (pa_cons (pe_op op_sub (pv 4) (pv 2)) (pa_cons pe_int pa_nil))) pa_nil))) pa_nil))) (pa_cons (pe_cd D_added hr (by decide) (pa_cons (pe_tup (pa_cons (pv 3) (pa_cons pe_int pa_nil))) (pa_cons (pe_cd D_times hr (by decide) (pa_cons (pv 1) (pa_cons (pe_tup (pa_cons (pe_op op_sub (pv 5) (pv 3)) (pa_cons pe_int pa_nil))) pa_nil))) pa_nil))) pa_nil)))))), fun ⟨l, s⟩ ⟨hl, D, hD, hD2, hs⟩ W => ?_⟩
  have k1 : Sz s := (sh_part hs hD hD2).sz
  have i1 : ∀ {i : Int}, i.natAbs ≤ 16384 → Sz (i : Rat) := fun h => sz_int (Nat.le_trans h (by decide))
  have k2 : ∀ {i : Int}, i.natAbs ≤ 16384 → Sz (s * (i : Rat)) := fun {i} h => (mul1 hs i (V := 16384) h).Sz hD hD2 (show _ ≤ 2 ^ 14 by decide) (by decide)
  have b1 : l.x.natAbs ≤ 8192 := hl.x
  have b2 : l.y.natAbs ≤ 8192 := hl.y
  have b3 : l.u.natAbs ≤ 8192 := hl.u
  have b4 : l.v.natAbs ≤ 8192 := hl.v
  clear hD2
  refine ss_set (ee_var rfl) (gt_tup (gts_cons (gt_tup (gts_cons gt_name (gts_cons gt_name gts_nil)) rfl) (gts_cons (gt_tup (gts_cons gt_name (gts_cons gt_name gts_nil)) rfl) gts_nil)) rfl) ?_
  refine ss_ret (ee_tup (ea_cons (ee_added (ee_fr (ee_var rfl)) (ee_times (ee_var rfl) (ee_fr (ee_op (ee_var rfl) (ee_var rfl) ot_sub)) ⟨k1, i1 (by show (l.u - l.x).natAbs ≤ _; omega)⟩) ⟨i1 (by show l.x.natAbs ≤ _; omega), k2 (by show (l.u - l.x).natAbs ≤ _; omega)⟩)
    (ea_cons (ee_added (ee_fr (ee_var rfl)) (ee_times (ee_var rfl) (ee_fr (ee_op (ee_var rfl) (ee_var rfl) ot_sub)) ⟨k1, i1 (by show (l.v - l.y).natAbs ≤ _; omega)⟩) ⟨i1 (by show l.y.natAbs ≤ _; omega), k2 (by show (l.v - l.y).natAbs ≤ _; omega)⟩) ea_nil)) (lle rfl)) (Wd.le.refl _)
theorem d_parting (R : Raw K mg "parting" LH.s_parting) (D_place_on : Def P w K mg base 3 "place_on" ["leg", "s"] (sp_place_on K)) (D_lessened : Def P w K mg base 2 "lessened" ["one", "other"] (sp_lessened K)) : Def P w K mg base 4 "parting" ["leg", "other", "s", "t"] (sp_parting K) := by
  refine def_mk R sc_parting (fun _ _ _ _ _ _ us hl => match us, hl with | [_, _, _, _], _ => rfl) (fun _ => rfl) fun f cdv A outer s H E hr => ⟨_, (pss_cons (ps_asg (pe_tup (pa_cons (pe_cd D_place_on hr (by decide) (pa_cons (pv 0) (pa_cons (pv 2) pa_nil))) (pa_cons (pe_cd D_place_on hr (by decide) (pa_cons (pv 1) (pa_cons (pv 3) pa_nil))) pa_nil))) (pg_tup rfl (pgs_cons (pg_tup rfl (pgs_cons (pg_name (i := 4) sc_parting.nd rfl (.inl rfl)) (pgs_cons (pg_name (i := 5) sc_parting.nd rfl (.inl rfl)) pgs_nil))) (pgs_cons (pg_tup rfl (pgs_cons (pg_name (i := 6) sc_parting.nd rfl (.inl rfl)) (pgs_cons (pg_name (i := 7) sc_parting.nd rfl (.inl rfl)) pgs_nil))) pgs_nil))))
      (pss_one (ps_ret (pe_tup (pa_cons (pe_cd D_lessened hr (by decide) (pa_cons (pv 6) (pa_cons (pv 4) pa_nil))) (pa_cons (pe_cd D_lessened hr (by decide) (pa_cons (pv 7) (pa_cons (pv 5) pa_nil))) pa_nil)))))), fun ⟨a, b, s, t⟩ ⟨la, lb, D, hD, hD2, hs, ht⟩ W => ?_⟩
  have z : ∀ {x : Rat}, InD D 24576 x → Sz x := fun h => h.Sz hD hD2 (show _ ≤ 2 ^ 15 by decide) (by decide)
  refine ss_set (ee_tup (ea_cons (ee_place_on (ee_var rfl) (ee_var rfl) ⟨la, D, hD, hD2, hs⟩) (ea_cons (ee_place_on (ee_var rfl) (ee_var rfl) ⟨lb, D, hD, hD2, ht⟩) ea_nil)) (lle rfl)) (gt_tup (gts_cons (gt_tup (gts_cons gt_name (gts_cons gt_name gts_nil)) rfl) (gts_cons (gt_tup (gts_cons gt_name (gts_cons gt_name gts_nil)) rfl) gts_nil)) rfl) ?_
  refine ss_ret (ee_tup (ea_cons (ee_lessened (ee_var rfl) (ee_var rfl) ⟨z (plx_in lb ht hD), z (plx_in la hs hD)⟩) (ea_cons (ee_lessened (ee_var rfl) (ee_var rfl) ⟨z (ply_in lb ht hD), z (ply_in la hs hD)⟩) ea_nil)) (lle rfl)) (Wd.le.refl _)
theorem d_dot (R : Raw K mg "dot" LH.s_dot) (D_added : Def P w K mg base 2 "added" ["one", "other"] (sp_added K)) (D_times : Def P w K mg base 2 "times" ["one", "other"] (sp_times K)) : Def P w K mg base 3 "dot" ["one", "other"] (sp_dot K) := by
  refine def_mk R sc_dot (fun _ _ _ _ _ _ us hl => match us, hl with | [_, _], _ => rfl) (fun _ => rfl) fun f cdv A outer s H E hr => ⟨_, (pss_one (ps_ret (pe_cd D_added hr (by decide) (pa_cons (pe_cd D_times hr (by decide) (pa_cons (pe_ix ix_tup (pv 0) pe_int (fun _ _ => rfl)) (pa_cons (pe_ix ix_tup (pv 1) pe_int (fun _ _ => rfl)) pa_nil))) (pa_cons (pe_cd D_times hr (by decide) (pa_cons (pe_ix ix_tup (pv 0) pe_int (fun _ _ => rfl)) (pa_cons (pe_ix ix_tup (pv 1) pe_int (fun _ _ => rfl)) pa_nil))) pa_nil))))), fun ⟨⟨p1, p2⟩, ⟨q1, q2⟩⟩ ⟨⟨h1, h2⟩, h3, h4⟩ W => ?_⟩
  refine ss_ret (ee_added (ee_times (ee_op (ee_var rfl) ee_i (ot_ixT rfl)) (ee_op (ee_var rfl) ee_i (ot_ixT rfl)) ⟨h1.sz, h3.sz⟩) (ee_times (ee_op (ee_var rfl) ee_i (ot_ixT rfl)) (ee_op (ee_var rfl) ee_i (ot_ixT rfl)) ⟨h2.sz, h4.sz⟩) ⟨sh_mul h1 h3, sh_mul h2 h4⟩) (Wd.le.refl _)
theorem d_squared_at (R : Raw K mg "squared_at" LH.s_squared_at) (D_parting : Def P w K mg base 4 "parting" ["leg", "other", "s", "t"] (sp_parting K)) (D_dot : Def P w K mg base 3 "dot" ["one", "other"] (sp_dot K)) : Def P w K mg base 5 "squared_at" ["leg", "other", "s", "t"] (sp_squared_at K) := by
  refine def_mk R sc_squared_at (fun _ _ _ _ _ _ us hl => match us, hl with | [_, _, _, _], _ => rfl) (fun _ => rfl) fun f cdv A outer s H E hr => ⟨_, (pss_cons (ps_set (i := 4) sc_squared_at.nd rfl (.inl rfl) (pe_cd D_parting hr (by decide) (pa_cons (pv 0) (pa_cons (pv 1) (pa_cons (pv 2) (pa_cons (pv 3) pa_nil))))))
      (pss_one (ps_ret (pe_cd D_dot hr (by decide) (pa_cons (pv 4) (pa_cons (pv 4) pa_nil)))))), fun ⟨a, b, s, t⟩ hp W => ?_⟩
  obtain ⟨la, lb, D, hD, hD2, hs, ht⟩ := id hp
  have z : ∀ {x : Rat}, InD D 49152 x → Sh x := fun h => sh_in h hD hD2 (show _ ≤ 2 ^ 16 by decide) (by decide)
  have z1 := z (gx_in la lb hs ht hD)
  have z2 := z (gy_in la lb hs ht hD)
  refine ss_asg (ee_parting (ee_var rfl) (ee_var rfl) (ee_var rfl) (ee_var rfl) hp) ?_
  refine ss_ret (ee_eq (ee_dot (ee_var rfl) (ee_var rfl) ⟨⟨z1, z2⟩, z1, z2⟩) rfl) (Wd.le.refl _)
theorem d_ring_of (B : Blt K mg cN cO cA cW) (R : Raw K mg "ring_of" LH.s_ring_of) (D_lessened : Def P w K mg base 2 "lessened" ["one", "other"] (sp_lessened K)) : Def P w K mg base 3 "ring_of" ["rho"] (sp_ring_of K) := by
  refine def_mk R sc_ring_of (fun _ _ _ _ _ _ us hl => match us, hl with | [_], _ => rfl) (fun _ => rfl) fun f cdv A outer s H E hr => ⟨_, (pss_cons (ps_set (i := 1) sc_ring_of.nd rfl (.inl rfl) (pe_cd D_lessened hr (by decide) (pa_cons (pe_glob (v := .ref _) rfl B.gONE rfl) (pa_cons (pv 0) pa_nil))))
      (pss_one (ps_ret (pe_lst (pa_cons (pe_tup (pa_cons (pe_glob (v := .ref _) rfl B.gNOUGHT rfl) (pa_cons (pe_glob (v := .ref _) rfl B.gNOUGHT rfl) pa_nil))) (pa_cons (pe_tup (pa_cons (pe_glob (v := .ref _) rfl B.gNOUGHT rfl) (pa_cons (pv 0) pa_nil))) (pa_cons (pe_tup (pa_cons (pv 1) (pa_cons (pe_glob (v := .ref _) rfl B.gONE rfl) pa_nil))) (pa_cons (pe_tup (pa_cons (pe_glob (v := .ref _) rfl B.gONE rfl) (pa_cons (pe_glob (v := .ref _) rfl B.gONE rfl) pa_nil))) (pa_cons (pe_tup (pa_cons (pe_glob (v := .ref _) rfl B.gONE rfl) (pa_cons (pv 1) pa_nil))) (pa_cons (pe_tup (pa_cons (pv 0) (pa_cons (pe_glob (v := .ref _) rfl B.gNOUGHT rfl) pa_nil))) pa_nil)))))))))), fun r ⟨⟨h0, h1⟩, h2⟩ W => ?_⟩
  have hr : Part r.den r := ⟨Nat.dvd_refl _, h0, h1⟩
  have hb : r.den < 2 ^ 900 := Nat.lt_of_lt_of_le h2 (Nat.pow_le_pow_right (by decide) (by decide))
  refine ss_asg (ee_lessened (ee_c B.tONE) (ee_var rfl) ⟨(sh_part (part1 _) r.den_nz hb).sz, (sh_part hr r.den_nz hb).sz⟩) ?_
  have n := fun G => B.tNOUGHT G
  refine ss_ret (ee_lst (ea_cons (ee_tup (ea_cons (ee_c B.tNOUGHT) (ea_cons (ee_c B.tNOUGHT) ea_nil)) (lle rfl)) (ea_cons (ee_tup (ea_cons (ee_c B.tNOUGHT) (ea_cons (ee_var rfl) ea_nil)) (lle rfl)) (ea_cons (ee_tup (ea_cons (ee_var rfl) (ea_cons (ee_c B.tONE) ea_nil)) (lle rfl)) (ea_cons (ee_tup (ea_cons (ee_c B.tONE) (ea_cons (ee_c B.tONE) ea_nil)) (lle rfl))
    (ea_cons (ee_tup (ea_cons (ee_c B.tONE) (ea_cons (ee_var rfl) ea_nil)) (lle rfl)) (ea_cons (ee_tup (ea_cons (ee_var rfl) (ea_cons (ee_c B.tNOUGHT) ea_nil)) (lle rfl)) ea_nil)))))) (lle rfl)) (Wd.le.refl _)
theorem d_by_parts (B : Blt K mg cN cO cA cW) (R : Raw K mg "by_parts" LH.s_by_parts) (D_compared : Def P w K mg base 1 "compared" ["one", "other"] (sp_compared K)) : Def P w K mg base 2 "by_parts" ["one", "other"] (sp_by_parts K) := by
  refine def_mk R sc_by_parts (fun _ _ _ _ _ _ us hl => match us, hl with | [_, _], _ => rfl) (fun _ => rfl) fun f cdv A outer s H E hr => ⟨_, (pss_cons (ps_for PassesOwn.never rfl (RZ.pi_zipA (by rfl) B.zip (pa_cons (pv 0) (pa_cons (pv 1) pa_nil))) (pg_tup rfl (pgs_cons (pg_name (i := 2) sc_by_parts.nd rfl (.inl rfl)) (pgs_cons (pg_name (i := 3) sc_by_parts.nd rfl (.inl rfl)) pgs_nil)))
      (pss_one (ps_if (pt_cmpR op_ne (pe_cd D_compared hr (by decide) (pa_cons (pv 2) (pa_cons (pv 3) pa_nil))) pe_int (nomark _)) (pss_one (ps_ret (pe_cd D_compared hr (by decide) (pa_cons (pv 2) (pa_cons (pv 3) pa_nil))))) pss_nil)))
      (pss_one (ps_ret pe_int))), fun ⟨⟨q, s, t⟩, ⟨q', s', t'⟩⟩ ⟨⟨h1, h2, h3⟩, h4, h5, h6⟩ W => ?_⟩
  refine ss_for (α := Unit) (ei_zipT (Rs := [yF K q, yF K s, yF K t]) (Rs' := [yF K q', yF K s', yF K t']) (ea_cons (ee_var rfl) (ea_cons (ee_var rfl) ea_nil)))
    (fun i _ => (1 ≤ i → cmp q q' = 0) ∧ (2 ≤ i → cmp s s' = 0) ∧ (3 ≤ i → cmp t t' = 0)) (fun _ => [some (yR K q s t), some (yR K q' s' t'), none, none]) (fun _ => W)
    (fun i _ => [some (yR K q s t), some (yR K q' s' t'), some ([yF K q, yF K s, yF K t].getD i yN), some ([yF K q', yF K s', yF K t'].getD i yN)]) () ⟨fun h => absurd h (by decide), fun h => absurd h (by decide), fun h => absurd h (by decide)⟩ (fun σ G H o w => ⟨o, w⟩)
    (fun i a hi hp => gt_tup (gts_cons gt_name (gts_cons gt_name gts_nil)) rfl) (fun i a hi hp => ?_) (fun a hp => ?_)
  · obtain ⟨p1, p2, p3⟩ := hp
    obtain ⟨x, x', hx, hx', e1, e2, k1, k2⟩ : ∃ x x' : Rat, Sz x ∧ Sz x' ∧ [yF K q, yF K s, yF K t].getD i yN = yF K x ∧ [yF K q', yF K s', yF K t'].getD i yN = yF K x' ∧ (cmp x x' ≠ 0 → cmp3 q s t q' s' t' = cmp x x') ∧ (cmp x x' = 0 → ((1 ≤ i + 1 → cmp q q' = 0) ∧ (2 ≤ i + 1 → cmp s s' = 0) ∧ (3 ≤ i + 1 → cmp t t' = 0))) := by
      rcases i with _ | _ | _ | i
      · exact ⟨q, q', h1, h4, rfl, rfl, fun h => if_pos h, fun h => ⟨fun _ => h, fun z => absurd z (by decide), fun z => absurd z (by decide)⟩⟩
      · exact ⟨s, s', h2, h5, rfl, rfl, fun h => by unfold cmp3; rw [if_neg (by simp [p1 (by decide)]), if_pos h], fun h => ⟨fun _ => p1 (by decide), fun _ => h, fun z => absurd z (by decide)⟩⟩
      · exact ⟨t, t', h3, h6, rfl, rfl, fun h => by unfold cmp3; rw [if_neg (by simp [p1 (by decide)]), if_neg (by simp [p2 (by decide)]), if_pos h], fun h => ⟨fun _ => p1 (by decide), fun _ => p2 (by decide), fun _ => h⟩⟩
      · exact absurd hi (by show ¬ (i + 3 < 3); omega)
    show SS _ [some (yR K q s t), some (yR K q' s' t'), some ([yF K q, yF K s, yF K t].getD i yN), some ([yF K q', yF K s', yF K t'].getD i yN)] _ _ _ _
    rw [e1, e2]
    refine ss_last (ss_if (b := !decide (cmp x x' = 0)) (et_test (ee_op (ee_compared (ee_var rfl) (ee_var rfl) ⟨hx, hx'⟩) ee_i ot_neI)) (fun hb => ?_) (fun hb => ?_))
    · have hn : cmp x x' ≠ 0 := by simpa using hb
      exact ss_ret1 (ee_ieq (ee_compared (ee_var rfl) (ee_var rfl) ⟨hx, hx'⟩) (k1 hn).symm) (Wd.le.refl _)
    · have hz : cmp x x' = 0 := by simpa using hb
      refine ss_skip (ss_next fun σ G H o s w => ⟨(), k2 hz, ?_, w⟩)
      exact (o.forget 2).forget 3
  · obtain ⟨p1, p2, p3⟩ := hp
    refine ss_ret (ee_ieq ee_i ?_) (Wd.le.refl _)
    show 0 = cmp3 q s t q' s' t'
    unfold cmp3
    rw [if_neg (by simp [p1 (show 1 ≤ 3 by decide)]), if_neg (by simp [p2 (show 2 ≤ 3 by decide)]), if_neg (by simp [p3 (show 3 ≤ 3 by decide)])]
end
end LT
end
section
set_option Elab.async false
set_option linter.all false
set_option maxRecDepth 100000
set_option maxHeartbeats 2000000
set_option exponentiation.threshold 20000
namespace LT
open PySem PySem.Spec PyProof.Rows L2 LL
section
variable {Γ Γ' : Tys} {W W0 W' : Wd} {R S Ra Rb : Ty} {Rs : List Ty} {te ta tb tc td : TE} {t : TA} {K : PySem.W.Frag} {N : Nx} {u tu tw tz : TS}
theorem eqv_F {x y : Rat} : PyData.eqv (.tuple [.int x.num, .int x.den]) (.tuple [.int y.num, .int y.den]) = decide (x = y) := by
  show ((x.num == y.num) && (((x.den : Int) == (y.den : Int)) && true)) = decide (x = y)
  by_cases h : x = y
  · subst h
    simp
  · rw [decide_eq_false h]
    by_cases h1 : x.num = y.num
    · by_cases h2 : x.den = y.den
      · exact absurd (Rat.ext h1 h2) h
      · have : ¬ ((x.den : Int) = (y.den : Int)) := by omega
        simp [h1, this]
    · simp [h1]
theorem da_F {x : Rat} : Da K (yF K x) (.tuple [.int x.num, .int x.den]) := da_t ⟨da_i, da_i, trivial⟩
theorem ot_eqF {x y : Rat} : OT (rEqD K) (yF K x) (yF K y) (yB (decide (x = y))) := ot_eqD da_F da_F rfl rfl eqv_F
theorem eqv_P {p q : Rat × Rat} : PyData.eqv (.tuple [.tuple [.int p.1.num, .int p.1.den], .tuple [.int p.2.num, .int p.2.den]]) (.tuple [.tuple [.int q.1.num, .int q.1.den], .tuple [.int q.2.num, .int q.2.den]]) = decide (p = q) := by
  show (PyData.eqv (.tuple [.int p.1.num, .int p.1.den]) (.tuple [.int q.1.num, .int q.1.den]) && (PyData.eqv (.tuple [.int p.2.num, .int p.2.den]) (.tuple [.int q.2.num, .int q.2.den]) && true)) = decide (p = q)
  rw [eqv_F, eqv_F]
  obtain ⟨p1, p2⟩ := p
  obtain ⟨q1, q2⟩ := q
  by_cases h1 : p1 = q1 <;> by_cases h2 : p2 = q2 <;> simp [h1, h2]
theorem ot_eqP {p q : Rat × Rat} : OT (rEqD K) (yP K p) (yP K q) (yB (decide (p = q))) := ot_eqD (da_t (Rs := [_, _]) (ds := [_, _]) ⟨da_F, da_F, trivial⟩) (da_t (Rs := [_, _]) (ds := [_, _]) ⟨da_F, da_F, trivial⟩) rfl rfl eqv_P
/-- (-1, 1) -/
theorem ee_fr1 : EE (tTup (tCons (tUn (rU fun i => .int (-i)) (tC (.int 1))) (tCons (tC (.int 1)) tNil))) Γ W (yF K ((-1 : Int) : Rat)) := ee_fr (ee_un ee_i ut_neg)
theorem num_le {x : Rat} : x.num ≤ 0 ↔ x ≤ 0 := by
  rw [Rat.le_iff]
  show x.num ≤ 0 ↔ x.num * ((1 : Nat) : Int) ≤ 0 * _
  rw [Int.zero_mul]
  show _ ↔ x.num * 1 ≤ 0
  rw [Int.mul_one]
theorem num_ge {x : Rat} : (x.den : Int) ≤ x.num ↔ 1 ≤ x := by
  rw [Rat.le_iff]
  show _ ↔ (1 : Int) * (x.den : Int) ≤ x.num * ((1 : Nat) : Int)
  rw [Int.one_mul]
  show _ ↔ _ ≤ x.num * 1
  rw [Int.mul_one]
theorem num_lt {x : Rat} : x.num < 0 ↔ x < 0 := by
  have := num_le (x := -x)
  rw [Rat.lt_iff]
  show x.num < 0 ↔ x.num * ((1 : Nat) : Int) < 0 * _
  rw [Int.zero_mul]
  show _ ↔ x.num * 1 < 0
  rw [Int.mul_one]
end
abbrev N_on_side : List Str := ["leg", "other", "one", "far", "begin", "end", "along", "share", "part", "last"]
theorem sc_on_side : FnScope N_on_side ["leg", "other", "one", "far"] (defScope LH.s_on_side) := ⟨rfl, rfl, rfl, by decide +kernel, rfl, by decide +kernel, by decide +kernel⟩


section
variable {P : Program} {w : World} {K : PySem.W.Frag} {mg : Str → Option Value} {base : Heap} {cN cO cA cW : Addr}
/-- the program's part of an edge -/
def shr (a b : Leg) (p q : Rat × Rat) : Rat := ((-1 : Int) : Rat) * (gx a b p.1 p.2 * (gx a b q.1 q.2 - gx a b p.1 p.2) + gy a b p.1 p.2 * (gy a b q.1 q.2 - gy a b p.1 p.2)) /
  ((gx a b q.1 q.2 - gx a b p.1 p.2) * (gx a b q.1 q.2 - gx a b p.1 p.2) + (gy a b q.1 q.2 - gy a b p.1 p.2) * (gy a b q.1 q.2 - gy a b p.1 p.2))
theorem onE0 {p q : Rat × Rat} : onE p q 0 = p := by
  unfold onE
  obtain ⟨p1, p2⟩ := p
  congr 1 <;> simp only <;> grind
theorem onE1 {p q : Rat × Rat} : onE p q 1 = q := by
  unfold onE
  obtain ⟨p1, p2⟩ := p
  obtain ⟨q1, q2⟩ := q
  congr 1 <;> simp only <;> grind
theorem side_flat {a b : Leg} {p q : Rat × Rat} (h : (gx a b q.1 q.2 - gx a b p.1 p.2, gy a b q.1 q.2 - gy a b p.1 p.2) = ((0, 0) : Rat × Rat)) : side a b p q = p := by
  obtain ⟨h1, h2⟩ := Prod.mk.inj h
  unfold side shareOf clip
  rw [h1, h2, if_pos (by grind)]
  exact onE0
theorem al_ne {a b : Leg} {p q : Rat × Rat} (h : ¬ (gx a b q.1 q.2 - gx a b p.1 p.2, gy a b q.1 q.2 - gy a b p.1 p.2) = ((0, 0) : Rat × Rat)) : (gx a b q.1 q.2 - gx a b p.1 p.2) * (gx a b q.1 q.2 - gx a b p.1 p.2) + (gy a b q.1 q.2 - gy a b p.1 p.2) * (gy a b q.1 q.2 - gy a b p.1 p.2) ≠ 0 := fun z => by
  obtain ⟨e1, e2⟩ := sum_zero z
  exact h (by rw [e1, e2])
theorem shr_eq {A B : Rat} : ((-1 : Int) : Rat) * B / A = -B / A := by
  have : ((-1 : Int) : Rat) = -1 := rfl
  rw [this]
  congr 1
  grind
theorem side_le {a b : Leg} {p q : Rat × Rat} (h : ¬ (gx a b q.1 q.2 - gx a b p.1 p.2, gy a b q.1 q.2 - gy a b p.1 p.2) = ((0, 0) : Rat × Rat)) (k : shr a b p q ≤ 0) : side a b p q = p := by
  have := al_ne h
  unfold side shareOf clip
  unfold shr at k
  rw [shr_eq] at k
  rw [if_neg this, if_pos k]
  exact onE0
theorem side_ge {a b : Leg} {p q : Rat × Rat} (h : ¬ (gx a b q.1 q.2 - gx a b p.1 p.2, gy a b q.1 q.2 - gy a b p.1 p.2) = ((0, 0) : Rat × Rat)) (k0 : ¬ shr a b p q ≤ 0) (k : 1 ≤ shr a b p q) : side a b p q = q := by
  have := al_ne h
  unfold side shareOf clip
  unfold shr at k k0
  rw [shr_eq] at k k0
  rw [if_neg this, if_neg k0, if_pos k]
  exact onE1
theorem side_in {a b : Leg} {p q : Rat × Rat} (h : ¬ (gx a b q.1 q.2 - gx a b p.1 p.2, gy a b q.1 q.2 - gy a b p.1 p.2) = ((0, 0) : Rat × Rat)) (k0 : ¬ shr a b p q ≤ 0) (k : ¬ 1 ≤ shr a b p q) : side a b p q = onE p q (shr a b p q) ∧ shareOf a b p q = shr a b p q := by
  have := al_ne h
  have e : shareOf a b p q = shr a b p q := by
    unfold shr at k k0 ⊢
    rw [shr_eq] at k k0 ⊢
    unfold shareOf clip
    rw [if_neg this, if_neg k0, if_neg k]
  exact ⟨by unfold side; rw [e], e⟩
theorem sq_lt {T k : Nat} (h : T < 2 ^ k) : T * T < 2 ^ (k + k) := by
  rw [Nat.pow_add]
  exact Nat.mul_lt_mul'' h h
theorem d_on_side (B : Blt K mg cN cO cA cW) (R : Raw K mg "on_side" LH.s_on_side) (D_over : Def P w K mg base 2 "over" ["one", "other"] (sp_over K)) (D_parting : Def P w K mg base 4 "parting" ["leg", "other", "s", "t"] (sp_parting K)) (D_lessened : Def P w K mg base 2 "lessened" ["one", "other"] (sp_lessened K)) (D_times : Def P w K mg base 2 "times" ["one", "other"] (sp_times K)) (D_dot : Def P w K mg base 3 "dot" ["one", "other"] (sp_dot K)) (D_added : Def P w K mg base 2 "added" ["one", "other"] (sp_added K)) : Def P w K mg base 5 "on_side" ["leg", "other", "one", "far"] (sp_on_side K) := by
  refine def_mk R sc_on_side (fun _ _ _ _ _ _ us hl => match us, hl with | [_, _, _, _], _ => rfl) (fun _ => rfl) fun f cdv A outer s H E hr => ⟨_, (pss_cons (ps_par (i := 4) (j := 5) rfl sc_on_side.nd rfl rfl (by decide) rfl rfl (pa_cons (pe_cd D_parting hr (by decide) (pa_cons (pv 0) (pa_cons (pv 1) (pa_cons (pe_ix ix_tup (pv 2) pe_int (fun _ _ => rfl)) (pa_cons (pe_ix ix_tup (pv 2) pe_int (fun _ _ => rfl)) pa_nil))))) (pa_cons (pe_cd D_parting hr (by decide) (pa_cons (pv 0) (pa_cons (pv 1) (pa_cons (pe_ix ix_tup (pv 3) pe_int (fun _ _ => rfl)) (pa_cons (pe_ix ix_tup (pv 3) pe_int (fun _ _ => rfl)) pa_nil))))) pa_nil)) (by rfl))
      (pss_cons (ps_set (i := 6) sc_on_side.nd rfl (.inl rfl) (pe_tup (pa_cons (pe_cd D_lessened hr (by decide) (pa_cons (pe_ix ix_tup (pv 5) pe_int (fun _ _ => rfl)) (pa_cons (pe_ix ix_tup (pv 4) pe_int (fun _ _ => rfl)) pa_nil))) (pa_cons (pe_cd D_lessened hr (by decide) (pa_cons (pe_ix ix_tup (pv 5) pe_int (fun _ _ => rfl)) (pa_cons (pe_ix ix_tup (pv 4) pe_int (fun _ _ => rfl)) pa_nil))) pa_nil))))
      (pss_cons (ps_if (pt_cmpR (op_eqD hr.units) (pv 6) (pe_tup (pa_cons (pe_glob (v := .ref _) rfl B.gNOUGHT rfl) (pa_cons (pe_glob (v := .ref _) rfl B.gNOUGHT rfl) pa_nil))) (nomark _)) (pss_one (ps_ret (pv 2))) pss_nil)
      (pss_cons (ps_set (i := 7) sc_on_side.nd rfl (.inr rfl) (pe_cd D_over hr (by decide) (pa_cons (pe_cd D_times hr (by decide) (pa_cons (pe_tup (pa_cons (pe_un un_neg pe_int) (pa_cons pe_int pa_nil))) (pa_cons (pe_cd D_dot hr (by decide) (pa_cons (pv 4) (pa_cons (pv 6) pa_nil))) pa_nil))) (pa_cons (pe_cd D_dot hr (by decide) (pa_cons (pv 6) (pa_cons (pv 6) pa_nil))) pa_nil))))
      (pss_cons (ps_if (pt_cmpR op_le (pe_ix ix_tup (pv 7) pe_int (fun _ _ => rfl)) pe_int (nomark _)) (pss_one (ps_ret (pv 2))) pss_nil)
      (pss_cons (ps_if (pt_cmpR op_ge (pe_ix ix_tup (pv 7) pe_int (fun _ _ => rfl)) (pe_ix ix_tup (pv 7) pe_int (fun _ _ => rfl)) (nomark _)) (pss_one (ps_ret (pv 3))) pss_nil)
      (pss_one (ps_ret (pe_callTy call_tuple_of rfl B.tuple (by decide +kernel) (pa_cons (pe_lc (own := [("part", 8), ("last", 9)]) (g := gTup K 2 (gCons (gName 8) (gCons (gName 9) gNil))) (tt := tYes) (te := (tCall (sp_added K) [] E0 (tCons (tVar 8) (tCons (tCall (sp_times K) [] E0 (tCons (tVar 7) (tCons (tCall (sp_lessened K) [] E0 (tCons (tVar 9) (tCons (tVar 8) tNil))) tNil))) tNil)))) rfl sc_on_side.nd (RZ.pi_zipA (by rfl) B.zip (pa_cons (pv 2) (pa_cons (pv 3) pa_nil))) (blkOk_by (N := N_on_side) (sc := defScope LH.s_on_side) (by decide +kernel)) (fun _ _ _ _ _ => (pg_tup rfl (pgs_cons (pg_name (i := 8) sc_on_side.nd rfl (.inl rfl)) (pgs_cons (pg_name (i := 9) sc_on_side.nd rfl (.inl rfl)) pgs_nil)))) (fun _ _ _ _ _ => pts_nil) (fun _ _ _ _ _ => (pe_cd D_added hr (by decide) (pa_cons (pv 8) (pa_cons (pe_cd D_times hr (by decide) (pa_cons (pv 7) (pa_cons (pe_cd D_lessened hr (by decide) (pa_cons (pv 9) (pa_cons (pv 8) pa_nil))) pa_nil))) pa_nil))))) pa_nil)))))))))), fun ⟨a, b, p, q⟩ ⟨la, lb, T, hT, hT2, hp, hq⟩ W => ?_⟩
  have hT9 : T < 2 ^ 900 := Nat.lt_of_lt_of_le hT2 (Nat.pow_le_pow_right (by decide) (by decide))
  have g1 := gx_in la lb hp.s hp.t hT
  have g2 := gy_in la lb hp.s hp.t hT
  have g3 := gx_in la lb hq.s hq.t hT
  have g4 := gy_in la lb hq.s hq.t hT
  have z1 : ∀ {x : Rat}, InD T 49152 x → Sh x := fun h => sh_in h hT hT2 (show _ ≤ 2 ^ 16 by decide) (by decide)
  have z2 : ∀ {x : Rat}, InD T (49152 + 49152) x → Sh x := fun h => sh_in h hT hT2 (show _ ≤ 2 ^ 17 by decide) (by decide)
  have a1 := g3.sub g1 hT
  have a2 := g4.sub g2 hT
  have hTT : T * T ≠ 0 := Nat.mul_ne_zero hT hT
  have s1 : Sz (gx a b p.1 p.2 * (gx a b q.1 q.2 - gx a b p.1 p.2) + gy a b p.1 p.2 * (gy a b q.1 q.2 - gy a b p.1 p.2)) := (sq_in (g1.mono (show 49152 ≤ 98304 by decide)) (g2.mono (show 49152 ≤ 98304 by decide)) a1 a2 hT).Sz hTT (sq_lt hT2) (show _ ≤ 2 ^ 35 by decide) (by decide)
  have s2 : Sz ((gx a b q.1 q.2 - gx a b p.1 p.2) * (gx a b q.1 q.2 - gx a b p.1 p.2) + (gy a b q.1 q.2 - gy a b p.1 p.2) * (gy a b q.1 q.2 - gy a b p.1 p.2)) := (sq_in a1 a2 a1 a2 hT).Sz hTT (sq_lt hT2) (show _ ≤ 2 ^ 35 by decide) (by decide)
  have s3 : Sz (((-1 : Int) : Rat) * (gx a b p.1 p.2 * (gx a b q.1 q.2 - gx a b p.1 p.2) + gy a b p.1 p.2 * (gy a b q.1 q.2 - gy a b p.1 p.2))) := by
    have h := (inD_int (D := 1) (V := 1) (-1) (by decide)).mul (sq_in (g1.mono (show 49152 ≤ 98304 by decide)) (g2.mono (show 49152 ≤ 98304 by decide)) a1 a2 hT)
    rw [Nat.one_mul, Nat.one_mul] at h
    exact h.Sz hTT (sq_lt hT2) (show _ ≤ 2 ^ 35 by decide) (by decide)
  refine ss_par (ea_cons (ee_parting (ee_var rfl) (ee_var rfl) (ee_op (ee_var rfl) ee_i (ot_ixT rfl)) (ee_op (ee_var rfl) ee_i (ot_ixT rfl)) ⟨la, lb, T, hT, hT9, hp.s, hp.t⟩) (ea_cons (ee_parting (ee_var rfl) (ee_var rfl) (ee_op (ee_var rfl) ee_i (ot_ixT rfl)) (ee_op (ee_var rfl) ee_i (ot_ixT rfl)) ⟨la, lb, T, hT, hT9, hq.s, hq.t⟩) ea_nil)) ?_
  refine ss_asg (R := yP K (gx a b q.1 q.2 - gx a b p.1 p.2, gy a b q.1 q.2 - gy a b p.1 p.2)) (ee_tup (ea_cons (ee_lessened (ee_op (ee_var rfl) ee_i (ot_ixT rfl)) (ee_op (ee_var rfl) ee_i (ot_ixT rfl)) ⟨(z1 g3).sz, (z1 g1).sz⟩) (ea_cons (ee_lessened (ee_op (ee_var rfl) ee_i (ot_ixT rfl)) (ee_op (ee_var rfl) ee_i (ot_ixT rfl)) ⟨(z1 g4).sz, (z1 g2).sz⟩) ea_nil)) (lle rfl)) ?_
  refine ss_if (et_test (ee_op (ee_var rfl) (ee_tup (ea_cons (ee_c B.tNOUGHT) (ea_cons (ee_c B.tNOUGHT) ea_nil)) (lle rfl)) (ot_eqP (q := (0, 0))))) (fun hb => ?_) (fun hb => ?_)
  · exact ss_ret1 (ee_eq (ee_var rfl) (congrArg (yP K) (side_flat (of_decide_eq_true hb)).symm)) (Wd.le.refl _)
  have hne := of_decide_eq_false hb
  refine ss_skip (ss_asg (R := yF K (shr a b p q)) (ee_eq (ee_over (ee_times ee_fr1 (ee_dot (p := (gx a b p.1 p.2, gy a b p.1 p.2)) (q := (gx a b q.1 q.2 - gx a b p.1 p.2, gy a b q.1 q.2 - gy a b p.1 p.2)) (ee_var rfl) (ee_var rfl) ⟨⟨z1 g1, z1 g2⟩, z2 a1, z2 a2⟩) ⟨sz_int (by decide), s1⟩)
    (ee_dot (p := (gx a b q.1 q.2 - gx a b p.1 p.2, gy a b q.1 q.2 - gy a b p.1 p.2)) (q := (gx a b q.1 q.2 - gx a b p.1 p.2, gy a b q.1 q.2 - gy a b p.1 p.2)) (ee_var rfl) (ee_var rfl) ⟨⟨z2 a1, z2 a2⟩, z2 a1, z2 a2⟩) ⟨s3, s2, al_ne hne⟩) rfl) ?_)
  refine ss_if (et_test (ee_op (ee_op (ee_var rfl) ee_i (ot_ixT rfl)) ee_i ot_le)) (fun hb => ?_) (fun hb => ?_)
  · exact ss_ret1 (ee_eq (ee_var rfl) (congrArg (yP K) (side_le hne (num_le.mp (of_decide_eq_true hb))).symm)) (Wd.le.refl _)
  have h0 : ¬ shr a b p q ≤ 0 := fun z => of_decide_eq_false hb (num_le.mpr z)
  refine ss_skip (ss_if (et_test (ee_op (ee_op (ee_var rfl) ee_i (ot_ixT rfl)) (ee_op (ee_var rfl) ee_i (ot_ixT rfl)) ot_ge)) (fun hb => ?_) (fun hb => ?_))
  · exact ss_ret1 (ee_eq (ee_var rfl) (congrArg (yP K) (side_ge hne h0 (num_ge.mp (of_decide_eq_true hb))).symm)) (Wd.le.refl _)
  have h1 : ¬ 1 ≤ shr a b p q := fun z => of_decide_eq_false hb (num_ge.mpr z)
  obtain ⟨e1, e2⟩ := side_in hne h0 h1
  obtain ⟨D, d0, d1, d2⟩ := share_part la lb hp hq hT
  rw [e2] at d2
  have hD : D < 2 ^ 600 := Nat.lt_of_le_of_lt d1 (Nat.lt_of_lt_of_le (Nat.mul_lt_mul_of_pos_left (sq_lt hT2) (by decide)) (by rw [← Nat.pow_add]; exact Nat.pow_le_pow_right (by decide) (by decide)))
  have hDT : D * T < 2 ^ (600 + 250) := by rw [Nat.pow_add]; exact Nat.mul_lt_mul'' hD hT2
  have zs : Sz (shr a b p q) := d2.inD.Sz d0 hD (show 1 ≤ 2 ^ 0 by decide) (by decide)
  have zp : ∀ {x : Rat}, Part T x → Sz x := fun h => (sh_part h hT hT9).sz
  have zd : ∀ {x y : Rat}, Part T x → Part T y → Sz (x - y) := fun h k => (h.inD.sub k.inD hT).Sz hT hT2 (show _ ≤ 2 ^ 1 by decide) (by decide)
  have zm : ∀ {x y : Rat}, Part T x → Part T y → Sz (shr a b p q * (x - y)) := fun h k => (d2.inD.mul (h.inD.sub k.inD hT)).Sz (Nat.mul_ne_zero d0 hT) hDT (show _ ≤ 2 ^ 1 by decide) (by decide)
  refine ss_skip (ss_ret (ee_eq (ee_cb (ea_cons (ee_lc (js := [8, 9]) (n := 2) (F := fun i => yF K ([p.1, p.2].getD i 0 + shr a b p q * ([q.1, q.2].getD i 0 - [p.1, p.2].getD i 0))) (fun _ => true)
    (fun i => [some (yG K a), some (yG K b), some (yP K p), some (yP K q), some (yP K (gx a b p.1 p.2, gy a b p.1 p.2)), some (yP K (gx a b q.1 q.2, gy a b q.1 q.2)), some (yP K (gx a b q.1 q.2 - gx a b p.1 p.2, gy a b q.1 q.2 - gy a b p.1 p.2)), some (yF K (shr a b p q)), some (yF K ([p.1, p.2].getD i 0)), some (yF K ([q.1, q.2].getD i 0))])
    (EI.congr (Y' := fun i => yT K [yF K ([p.1, p.2].getD i 0), yF K ([q.1, q.2].getD i 0)]) (ei_zipT (Rs := [yF K p.1, yF K p.2]) (Rs' := [yF K q.1, yF K q.2]) (ea_cons (ee_var rfl) (ea_cons (ee_var rfl) ea_nil))) ?ey) (by decide) (fun i hi => gt_tup (gts_cons gt_name (gts_cons gt_name gts_nil)) rfl) (by decide) (fun i W' hi => et_yes)
    (fun i W' hi _ => ?body)) ea_nil) ct_tupL) ?fin) (Wd.le.refl _))
  case ey =>
    intro i hi
    rcases i with _ | _ | i
    · rfl
    · rfl
    · exact absurd hi (by omega)
  case body =>
    have hpi : Part T ([p.1, p.2].getD i 0) := by
      rcases i with _ | _ | i
      · exact hp.s
      · exact hp.t
      · exact absurd hi (by omega)
    have hqi : Part T ([q.1, q.2].getD i 0) := by
      rcases i with _ | _ | i
      · exact hq.s
      · exact hq.t
      · exact absurd hi (by omega)
    exact ee_added (ee_var rfl) (ee_times (ee_var rfl) (ee_lessened (ee_var rfl) (ee_var rfl) ⟨zp hqi, zp hpi⟩) ⟨zs, zd hqi hpi⟩) ⟨zp hpi, zm hqi hpi⟩
  case fin =>
    show yP K (onE p q (shr a b p q)) = yP K (side a b p q)
    rw [e1]
end
end LT
end
section
set_option Elab.async false
set_option linter.all false
set_option maxRecDepth 100000
set_option maxHeartbeats 2000000
set_option exponentiation.threshold 20000
namespace LT
open PySem PySem.Spec PyProof.Rows L2 LL
abbrev N_crossing : List Str := ["leg", "other", "x", "y", "far_x", "far_y", "its_x", "its_y", "end_x", "end_y", "wide", "high", "its_wide", "its_high", "whole", "s", "t"]
theorem sc_crossing : FnScope N_crossing ["leg", "other"] (defScope LH.s_crossing) := ⟨rfl, rfl, rfl, by decide +kernel, rfl, by decide +kernel, by decide +kernel⟩
abbrev N_is_within : List Str := ["s", "t", "rho", "between", "gap", "part"]
theorem sc_is_within : FnScope N_is_within ["s", "t", "rho"] (defScope LH.s_is_within) := ⟨rfl, rfl, rfl, by decide +kernel, rfl, by decide +kernel, by decide +kernel⟩
section
variable {P : Program} {w : World} {K : PySem.W.Frag} {mg : Str → Option Value} {base : Heap} {cN cO cA cW : Addr}
theorem cmul {i j : Int} (h : i.natAbs ≤ 16384) : CMul i j := .inl ⟨by omega, by omega⟩
theorem dif {x y : Int} (h : x.natAbs ≤ 8192) (k : y.natAbs ≤ 8192) : (x - y).natAbs ≤ 16384 := by omega
theorem d_crossing (R : Raw K mg "crossing" LH.s_crossing) (D_over : Def P w K mg base 2 "over" ["one", "other"] (sp_over K)) : Def P w K mg base 3 "crossing" ["leg", "other"] (sp_crossing K) := by
  refine def_mk R sc_crossing (fun _ _ _ _ _ _ us hl => match us, hl with | [_, _], _ => rfl) (fun _ => rfl) fun f cdv A outer s H E hr => ⟨_, (pss_cons (ps_asg (pv 0) (pg_tup rfl (pgs_cons (pg_tup rfl (pgs_cons (pg_name (i := 2) sc_crossing.nd rfl (.inl rfl)) (pgs_cons (pg_name (i := 3) sc_crossing.nd rfl (.inl rfl)) pgs_nil))) (pgs_cons (pg_tup rfl (pgs_cons (pg_name (i := 4) sc_crossing.nd rfl (.inl rfl)) (pgs_cons (pg_name (i := 5) sc_crossing.nd rfl (.inl rfl)) pgs_nil))) pgs_nil))))
      (pss_cons (ps_asg (pv 1) (pg_tup rfl (pgs_cons (pg_tup rfl (pgs_cons (pg_name (i := 6) sc_crossing.nd rfl (.inl rfl)) (pgs_cons (pg_name (i := 7) sc_crossing.nd rfl (.inl rfl)) pgs_nil))) (pgs_cons (pg_tup rfl (pgs_cons (pg_name (i := 8) sc_crossing.nd rfl (.inl rfl)) (pgs_cons (pg_name (i := 9) sc_crossing.nd rfl (.inl rfl)) pgs_nil))) pgs_nil))))
      (pss_cons (ps_asg (pe_tup (pa_cons (pe_op op_sub (pv 4) (pv 2)) (pa_cons (pe_op op_sub (pv 5) (pv 3)) (pa_cons (pe_op op_sub (pv 8) (pv 6)) (pa_cons (pe_op op_sub (pv 9) (pv 7)) pa_nil))))) (pg_tup rfl (pgs_cons (pg_name (i := 10) sc_crossing.nd rfl (.inl rfl)) (pgs_cons (pg_name (i := 11) sc_crossing.nd rfl (.inl rfl)) (pgs_cons (pg_name (i := 12) sc_crossing.nd rfl (.inl rfl)) (pgs_cons (pg_name (i := 13) sc_crossing.nd rfl (.inl rfl)) pgs_nil))))))
      (pss_cons (ps_set (i := 14) sc_crossing.nd rfl (.inl rfl) (pe_op op_sub (pe_op op_mul (pv 10) (pv 13)) (pe_op op_mul (pv 11) (pv 12))))
      (pss_cons (ps_if (pt_cmpR op_eq (pv 14) pe_int (nomark _)) (pss_one (ps_ret pe_non)) pss_nil)
      (pss_cons (ps_set (i := 15) sc_crossing.nd rfl (.inl rfl) (pe_op op_sub (pe_op op_mul (pe_op op_sub (pv 6) (pv 2)) (pv 13)) (pe_op op_mul (pe_op op_sub (pv 7) (pv 3)) (pv 12))))
      (pss_cons (ps_set (i := 16) sc_crossing.nd rfl (.inl rfl) (pe_op op_sub (pe_op op_mul (pe_op op_sub (pv 6) (pv 2)) (pv 11)) (pe_op op_mul (pe_op op_sub (pv 7) (pv 3)) (pv 10))))
      (pss_one (ps_ret (pe_tup (pa_cons (pe_cd D_over hr (by decide) (pa_cons (pe_tup (pa_cons (pv 15) (pa_cons pe_int pa_nil))) (pa_cons (pe_tup (pa_cons (pv 14) (pa_cons pe_int pa_nil))) pa_nil))) (pa_cons (pe_cd D_over hr (by decide) (pa_cons (pe_tup (pa_cons (pv 16) (pa_cons pe_int pa_nil))) (pa_cons (pe_tup (pa_cons (pv 14) (pa_cons pe_int pa_nil))) pa_nil))) pa_nil)))))))))))), fun ⟨a, b⟩ ⟨la, lb⟩ W => ?_⟩
  have b1 : a.x.natAbs ≤ 8192 := la.x
  have b2 : a.y.natAbs ≤ 8192 := la.y
  have b3 : a.u.natAbs ≤ 8192 := la.u
  have b4 : a.v.natAbs ≤ 8192 := la.v
  have b5 : b.x.natAbs ≤ 8192 := lb.x
  have b6 : b.y.natAbs ≤ 8192 := lb.y
  have b7 : b.u.natAbs ≤ 8192 := lb.u
  have b8 : b.v.natAbs ≤ 8192 := lb.v
  have hw := wh_le la lb
  show SS _ [some (yG K a), some (yG K b), none, none, none, none, none, none, none, none, none, none, none, none, none, none, none] W _ W (yC K a b)
  refine ss_set (ee_var rfl) (gt_tup (gts_cons (gt_tup (gts_cons gt_name (gts_cons gt_name gts_nil)) rfl) (gts_cons (gt_tup (gts_cons gt_name (gts_cons gt_name gts_nil)) rfl) gts_nil)) rfl) ?_
  show SS _ [some (yG K a), some (yG K b), some (yI a.x), some (yI a.y), some (yI a.u), some (yI a.v), none, none, none, none, none, none, none, none, none, none, none] W _ W (yC K a b)
  refine ss_set (ee_var rfl) (gt_tup (gts_cons (gt_tup (gts_cons gt_name (gts_cons gt_name gts_nil)) rfl) (gts_cons (gt_tup (gts_cons gt_name (gts_cons gt_name gts_nil)) rfl) gts_nil)) rfl) ?_
  show SS _ [some (yG K a), some (yG K b), some (yI a.x), some (yI a.y), some (yI a.u), some (yI a.v), some (yI b.x), some (yI b.y), some (yI b.u), some (yI b.v), none, none, none, none, none, none, none] W _ W (yC K a b)
  refine ss_set (ee_tup (ea_cons (ee_op (ee_var rfl) (ee_var rfl) ot_sub) (ea_cons (ee_op (ee_var rfl) (ee_var rfl) ot_sub) (ea_cons (ee_op (ee_var rfl) (ee_var rfl) ot_sub) (ea_cons (ee_op (ee_var rfl) (ee_var rfl) ot_sub) ea_nil)))) (lle rfl)) (gt_tup (gts_cons gt_name (gts_cons gt_name (gts_cons gt_name (gts_cons gt_name gts_nil)))) rfl) ?_
  show SS _ [some (yG K a), some (yG K b), some (yI a.x), some (yI a.y), some (yI a.u), some (yI a.v), some (yI b.x), some (yI b.y), some (yI b.u), some (yI b.v), some (yI (a.u - a.x)), some (yI (a.v - a.y)), some (yI (b.u - b.x)), some (yI (b.v - b.y)), none, none, none] W _ W (yC K a b)
  refine ss_asg (R := yI (wh a b)) (ee_op (ee_op (ee_var rfl) (ee_var rfl) (ot_mul (cmul (dif b3 b1)))) (ee_op (ee_var rfl) (ee_var rfl) (ot_mul (cmul (dif b4 b2)))) ot_sub) ?_
  show SS _ [some (yG K a), some (yG K b), some (yI a.x), some (yI a.y), some (yI a.u), some (yI a.v), some (yI b.x), some (yI b.y), some (yI b.u), some (yI b.v), some (yI (a.u - a.x)), some (yI (a.v - a.y)), some (yI (b.u - b.x)), some (yI (b.v - b.y)), some (yI (wh a b)), none, none] W _ W (yC K a b)
  refine ss_if (et_test (ee_op (ee_var rfl) ee_i ot_eqI)) (fun hb => ?_) (fun hb => ?_)
  · exact ss_ret1 (ee_eq ee_n (if_pos (of_decide_eq_true hb)).symm) (Wd.le.refl _)
  have h0 : wh a b ≠ 0 := of_decide_eq_false hb
  refine ss_skip ?_
  show SS _ [some (yG K a), some (yG K b), some (yI a.x), some (yI a.y), some (yI a.u), some (yI a.v), some (yI b.x), some (yI b.y), some (yI b.u), some (yI b.v), some (yI (a.u - a.x)), some (yI (a.v - a.y)), some (yI (b.u - b.x)), some (yI (b.v - b.y)), some (yI (wh a b)), none, none] W _ W (yC K a b)
  refine ss_asg (R := yI (crS a b)) (ee_op (ee_op (ee_op (ee_var rfl) (ee_var rfl) ot_sub) (ee_var rfl) (ot_mul (cmul (dif b5 b1)))) (ee_op (ee_op (ee_var rfl) (ee_var rfl) ot_sub) (ee_var rfl) (ot_mul (cmul (dif b6 b2)))) ot_sub) ?_
  show SS _ [some (yG K a), some (yG K b), some (yI a.x), some (yI a.y), some (yI a.u), some (yI a.v), some (yI b.x), some (yI b.y), some (yI b.u), some (yI b.v), some (yI (a.u - a.x)), some (yI (a.v - a.y)), some (yI (b.u - b.x)), some (yI (b.v - b.y)), some (yI (wh a b)), some (yI (crS a b)), none] W _ W (yC K a b)
  refine ss_asg (R := yI (crT a b)) (ee_op (ee_op (ee_op (ee_var rfl) (ee_var rfl) ot_sub) (ee_var rfl) (ot_mul (cmul (dif b5 b1)))) (ee_op (ee_op (ee_var rfl) (ee_var rfl) ot_sub) (ee_var rfl) (ot_mul (cmul (dif b6 b2)))) ot_sub) ?_
  show SS _ [some (yG K a), some (yG K b), some (yI a.x), some (yI a.y), some (yI a.u), some (yI a.v), some (yI b.x), some (yI b.y), some (yI b.u), some (yI b.v), some (yI (a.u - a.x)), some (yI (a.v - a.y)), some (yI (b.u - b.x)), some (yI (b.v - b.y)), some (yI (wh a b)), some (yI (crS a b)), some (yI (crT a b))] W _ W (yC K a b)
  have n0 : (wh a b : Rat) ≠ 0 := fun z => h0 (by exact_mod_cast z)
  have up : ∀ {i : Int}, i.natAbs ≤ 536870912 → Sz (i : Rat) := fun h => sz_int (Nat.le_trans h (by decide))
  exact ss_ret (ee_eq (ee_tup (ea_cons (ee_over (ee_fr (ee_var rfl)) (ee_fr (ee_var rfl)) ⟨up hw.2.1, up hw.1, n0⟩) (ea_cons (ee_over (ee_fr (ee_var rfl)) (ee_fr (ee_var rfl)) ⟨up hw.2.2, up hw.1, n0⟩) ea_nil)) (lle rfl)) (if_neg h0).symm) (Wd.le.refl _)
def absR (x : Rat) : Rat := if x < 0 then -x else x
theorem absR_num (x : Rat) : (absR x).num = if x.num < 0 then -x.num else x.num := by
  unfold absR
  by_cases h : x < 0
  · rw [if_pos h, if_pos (num_lt.mpr h)]
    rfl
  · rw [if_neg h, if_neg fun z => h (num_lt.mp z)]
theorem absR_den (x : Rat) : (absR x).den = x.den := by
  unfold absR
  split <;> rfl
open Classical in
theorem dm_bool {r s t : Rat} : (([(decide (cmp 0 s ≤ 0) && decide (0 ≤ cmp 1 s)), (decide (cmp 0 t ≤ 0) && decide (0 ≤ cmp 1 t))].all id) && decide (cmp (absR (s - t)) r ≤ 0)) = dmB r s t := by
  have e : ∀ {a b : Bool}, (a = true ↔ b = true) → a = b := fun {a b} h => by cases a <;> cases b <;> simp_all
  apply e
  unfold dmB
  rw [decide_eq_true_eq]
  simp only [List.all_cons, List.all_nil, Bool.and_eq_true, decide_eq_true_eq, id, cmp_le, cmp_ge, and_true]
  have ha : absR (s - t) ≤ r ↔ (s - t ≤ r ∧ t - s ≤ r) := by
    unfold absR
    split <;> constructor <;> intro h <;> (try constructor) <;> grind
  rw [ha]
  constructor
  · rintro ⟨⟨⟨h1, h2⟩, h3, h4⟩, h5, h6⟩
    exact ⟨h1, h2, h3, h4, h5, h6⟩
  · intro h
    exact ⟨⟨⟨h.s0, h.s1⟩, h.t0, h.t1⟩, h.st, h.ts⟩
theorem sh_sub {x y : Rat} (hx : Sh x) (hy : Sh y) : Sz (x - y) := by
  have h := num_le_divInt (x.num * (y.den : Int) - y.num * (x.den : Int)) (d := (x.den : Int) * (y.den : Int)) (Int.mul_ne_zero (den_ne x) (den_ne y))
  rw [sub_eq] at h
  have n1 : (x.num * (y.den : Int)).natAbs < 2 ^ (1990 + 1990) := wide_lt hx.1 (by have := hy.2; omega)
  have n2 : (y.num * (x.den : Int)).natAbs < 2 ^ (1990 + 1990) := wide_lt hy.1 (by have := hx.2; omega)
  have n3 : ((x.den : Int) * (y.den : Int)).natAbs < 2 ^ (1990 + 1990) := wide_lt (by have := hx.2; omega) (by have := hy.2; omega)
  have n4 := (natAbs_le_two n1 n2).2
  have up : (2 : Nat) ^ (1990 + 1990) ≤ 2 ^ 4000 := Nat.pow_le_pow_right (by decide) (by decide)
  have up2 : (2 : Nat) ^ (1990 + 1990 + 1) ≤ 2 ^ 4000 := Nat.pow_le_pow_right (by decide) (by decide)
  exact ⟨Nat.lt_of_le_of_lt h.1 (Nat.lt_of_lt_of_le n4 up2), Nat.lt_of_le_of_lt h.2 (Nat.lt_of_lt_of_le n3 up)⟩
theorem absR_sz {x : Rat} (h : Sz x) : Sz (absR x) := ⟨by rw [absR_num]; split <;> (have := h.1; omega), by rw [absR_den]; exact h.2⟩
theorem sz01 : Sz 0 ∧ Sz 1 := ⟨(part0 1).inD.Sz (by decide) (show 1 < 2 ^ 1 by decide) (show 1 ≤ 2 ^ 0 by decide) (by decide), (part1 1).inD.Sz (by decide) (show 1 < 2 ^ 1 by decide) (show 1 ≤ 2 ^ 0 by decide) (by decide)⟩
theorem d_is_within (B : Blt K mg cN cO cA cW) (R : Raw K mg "is_within" LH.s_is_within) (D_lessened : Def P w K mg base 2 "lessened" ["one", "other"] (sp_lessened K)) (D_compared : Def P w K mg base 1 "compared" ["one", "other"] (sp_compared K)) : Def P w K mg base 3 "is_within" ["s", "t", "rho"] (sp_is_within K) := by
  refine def_mk R sc_is_within (fun _ _ _ _ _ _ us hl => match us, hl with | [_, _, _], _ => rfl) (fun _ => rfl) fun f cdv A outer s H E hr => ⟨_, (pss_cons (ps_setLc (i := 3) (own := [("part", 5)]) (g := gName 5) (tt := tYes) (te := (tChain (rI0 fun i j => .bl (decide (i ≤ j))) (rI0 fun i j => .bl (decide (i ≤ j))) (tCall (sp_compared K) [] E0 (tCons (tC (.ref cN)) (tCons (tVar 5) tNil))) (tC (.int 0)) (tCall (sp_compared K) [] E0 (tCons (tC (.ref cO)) (tCons (tVar 5) tNil))))) rfl sc_is_within.nd rfl rfl (sw_true rfl rfl rfl (by decide +kernel)) (pi_tup (pe_tup (pa_cons (pv 0) (pa_cons (pv 1) pa_nil)))) (blkOk_by (N := N_is_within) (sc := defScope LH.s_is_within) (by decide +kernel)) (fun _ _ _ _ _ => (pg_name (i := 5) sc_is_within.nd rfl (.inl rfl))) (fun _ _ _ _ _ => pts_nil) (fun _ _ _ _ _ => (pe_chain op_le op_le (pe_cd D_compared hr (by decide) (pa_cons (pe_glob (v := .ref _) rfl B.gNOUGHT rfl) (pa_cons (pv 5) pa_nil))) pe_int (pe_cd D_compared hr (by decide) (pa_cons (pe_glob (v := .ref _) rfl B.gONE rfl) (pa_cons (pv 5) pa_nil))))))
      (pss_cons (ps_set (i := 4) sc_is_within.nd rfl (.inl rfl) (pe_cd D_lessened hr (by decide) (pa_cons (pv 0) (pa_cons (pv 1) pa_nil))))
      (pss_one (ps_ret (pe_and (pe_callB (cr_all rfl) rfl B.all (by decide +kernel) (pa_cons (pv 3) pa_nil)) (pe_one (pe_cmpR op_le (pe_cd D_compared hr (by decide) (pa_cons (pe_tup (pa_cons (pe_callB call_abs rfl B.abs (by decide +kernel) (pa_cons (pe_ix ix_tup (pv 4) pe_int (fun _ _ => rfl)) pa_nil)) (pa_cons (pe_ix ix_tup (pv 4) pe_int (fun _ _ => rfl)) pa_nil))) (pa_cons (pv 2) pa_nil))) pe_int (nomark _)))))))), fun ⟨s, t, r⟩ ⟨hs, ht, hq⟩ W => ?_⟩
  refine ss_asg (R := yL ([(decide (cmp 0 s ≤ 0) && decide (0 ≤ cmp 1 s)), (decide (cmp 0 t ≤ 0) && decide (0 ≤ cmp 1 t))].map yB))
    (ee_lc (js := [5]) (n := 2) (F := fun i => yB (decide (cmp 0 ([s, t].getD i 0) ≤ 0) && decide (0 ≤ cmp 1 ([s, t].getD i 0)))) (fun _ => true) (fun i => [some (yF K s), some (yF K t), some (yF K r), none, none, some (yF K ([s, t].getD i 0))])
      (EI.congr (Y' := fun i => yF K ([s, t].getD i 0)) (ei_tup (Rs := [yF K s, yF K t]) (ee_tup (ea_cons (ee_var rfl) (ea_cons (ee_var rfl) ea_nil)) (lle rfl))) ?ey) (by decide) (fun i hi => gt_name) (by decide) (fun i W' hi => et_yes) (fun i W' hi _ => ?body)) ?_
  case ey =>
    intro i hi
    rcases i with _ | _ | i
    · rfl
    · rfl
    · exact absurd hi (by omega)
  case body =>
    have hpi : Sz ([s, t].getD i 0) := by
      rcases i with _ | _ | i
      · exact hs.sz
      · exact ht.sz
      · exact absurd hi (by omega)
    exact ee_chain (ee_compared (ee_c B.tNOUGHT) (ee_var rfl) ⟨sz01.1, hpi⟩) ee_i ot_le (ee_compared (ee_c B.tONE) (ee_var rfl) ⟨sz01.2, hpi⟩) ot_le
  refine ss_asg (ee_lessened (ee_var rfl) (ee_var rfl) ⟨hs.sz, ht.sz⟩) ?_
  refine ss_ret (ee_eq (ee_and (ee_cb (ea_cons (ee_var rfl) ea_nil) ct_all) (fun h => ee_op (ee_compared (x := absR (s - t)) (ee_eq (R := yT K [_, _]) (ee_tup (ea_cons (ee_cb (ea_cons (ee_op (ee_var rfl) ee_i (ot_ixT rfl)) ea_nil) ct_abs) (ea_cons (ee_op (ee_var rfl) ee_i (ot_ixT rfl)) ea_nil)) (lle rfl)) ?_) (ee_var rfl) ⟨absR_sz (sh_sub hs ht), hq.sz⟩) ee_i ot_le)) (congrArg yB dm_bool)) (Wd.le.refl _)
  show yT K [yI (if (s - t).num < 0 then -(s - t).num else (s - t).num), yI ((s - t).den : Int)] = yF K (absR (s - t))
  rw [← absR_num, ← absR_den]
end
end LT
end
section
set_option Elab.async false
set_option linter.all false
set_option maxRecDepth 100000
set_option maxHeartbeats 2000000
set_option exponentiation.threshold 20000
namespace LT
open PySem PySem.Spec PyProof.Rows L2 LL
abbrev N_nearest : List Str := ["leg", "other", "rho", "ring", "parts", "met", "least", "s", "t", "found", "one", "far"]
theorem sc_nearest : FnScope N_nearest ["leg", "other", "rho"] (defScope LH.s_nearest) := ⟨rfl, rfl, rfl, by decide +kernel, rfl, by decide +kernel, by decide +kernel⟩
theorem made_true (n : Nat) (F : Nat → Ty) : made n (fun _ => true) F = (List.range n).map F := by
  unfold made
  simp only [if_true]
  induction List.range n with
  | nil => rfl
  | cons x xs ih => rw [List.filterMap_cons, ih]; rfl
theorem cmp3_lt {q s t q' s' t' : Rat} (h : cmp3 q s t q' s' t' < 0) : q ≤ q' := by
  unfold cmp3 at h
  by_cases e : cmp q q' = 0
  · have := cmp_eq.mp e
    grind
  · rw [if_pos e] at h
    have := cmp_lt.mp h
    grind
theorem cmp3_ge {q s t q' s' t' : Rat} (h : ¬ cmp3 q s t q' s' t' < 0) : q' ≤ q := by
  unfold cmp3 at h
  by_cases e : cmp q q' = 0
  · have := cmp_eq.mp e
    grind
  · rw [if_pos e] at h
    exact cmp_ge.mp (by omega)
theorem take_getD {α : Type} {l : List α} {i : Nat} {d : α} (h : i < l.length) : l.take (i + 1) = l.take i ++ [l.getD i d] := by
  rw [List.take_add_one, List.getD_eq_getElem?_getD, List.getElem?_eq_getElem h]
  rfl
theorem map_getD {α : Type} {f : α → Ty} {l : List α} {i : Nat} {d : α} {e : Ty} (h : i < l.length) : (l.map f).getD i e = f (l.getD i d) := by
  rw [List.getD_eq_getElem?_getD, List.getD_eq_getElem?_getD, List.getElem?_map, List.getElem?_eq_getElem h]
  rfl
section
variable {P : Program} {w : World} {K : PySem.W.Frag} {mg : Str → Option Value} {base : Heap} {cN cO cA cW : Addr}
theorem sh_quo {i j : Int} (hj : j ≠ 0) (h1 : i.natAbs ≤ 536870912) (h2 : j.natAbs ≤ 536870912) : Sh ((i : Rat) / (j : Rat)) := by
  rw [← Rat.divInt_eq_div]
  have h := num_le_divInt i hj
  have up : 536870912 < 2 ^ 1990 := Nat.lt_of_lt_of_le (show 536870912 < 2 ^ 30 by decide) (Nat.pow_le_pow_right (by decide) (by decide))
  exact ⟨Nat.lt_of_le_of_lt h.1 (Nat.lt_of_le_of_lt h1 up), Nat.lt_of_le_of_lt h.2 (Nat.lt_of_le_of_lt h2 up)⟩
theorem sh_r {r : Rat} (h0 : 0 ≤ r) (h1 : r ≤ 1) (h2 : r.den < 2 ^ 250) : Sh r := sh_in (Part.inD ⟨Nat.dvd_refl _, h0, h1⟩) r.den_nz h2 (show 1 ≤ 2 ^ 0 by decide) (by decide)
theorem pb_lt {r : Rat} {p : Rat × Rat} (h2 : r.den < 2 ^ 250) (h : Pb r.den p) : ∃ D : Nat, D ≠ 0 ∧ D < 2 ^ 900 ∧ Pt D p := by
  obtain ⟨D, d0, d1, k⟩ := h
  exact ⟨D, d0, Nat.lt_of_le_of_lt d1 (Nat.lt_of_lt_of_le (cube_lt h2) (Nat.pow_le_pow_right (by decide) (by decide))), k⟩
abbrev bestT (K : PySem.W.Frag) (a b : Leg) : Option (Rat × Rat) → Ty
  | none => yN
  | some p => yR K (ff a b p.1 p.2) p.1 p.2
def Best (a b : Leg) (pts : List (Rat × Rat)) (i : Nat) (o : Option (Rat × Rat)) : Prop := (i = 0 ∧ o = none) ∨ ∃ p, o = some p ∧ p ∈ pts.take i ∧ ∀ q ∈ pts.take i, ff a b p.1 p.2 ≤ ff a b q.1 q.2
theorem best_new {a b : Leg} {pts : List (Rat × Rat)} {i : Nat} {o : Option (Rat × Rat)} (hi : i < pts.length) (h : Best a b pts i o) (k : ∀ p, o = some p → ff a b (pts.getD i (0, 0)).1 (pts.getD i (0, 0)).2 ≤ ff a b p.1 p.2) : Best a b pts (i + 1) (some (pts.getD i (0, 0))) := by
  refine .inr ⟨_, rfl, ?_, fun q hq => ?_⟩
  · rw [take_getD (d := (0, 0)) hi]
    exact List.mem_append_right _ (List.mem_singleton.mpr rfl)
  · rw [take_getD (d := (0, 0)) hi] at hq
    rcases List.mem_append.mp hq with z | z
    · rcases h with ⟨e, _⟩ | ⟨p, e, hp, hm⟩
      · rw [e] at z
        simp at z
      · have h1 := k p e
        have h2 := hm q z
        grind
    · rw [List.mem_singleton.mp z]
      exact Rat.le_refl
theorem best_old {a b : Leg} {pts : List (Rat × Rat)} {i : Nat} {p : Rat × Rat} (hi : i < pts.length) (h : Best a b pts i (some p)) (k : ff a b p.1 p.2 ≤ ff a b (pts.getD i (0, 0)).1 (pts.getD i (0, 0)).2) : Best a b pts (i + 1) (some p) := by
  rcases h with ⟨_, e⟩ | ⟨p', e, hp, hm⟩
  · cases e
  · cases e
    refine .inr ⟨p, rfl, ?_, fun q hq => ?_⟩
    · rw [take_getD (d := (0, 0)) hi]
      exact List.mem_append_left _ hp
    · rw [take_getD (d := (0, 0)) hi] at hq
      rcases List.mem_append.mp hq with z | z
      · exact hm q z
      · rw [List.mem_singleton.mp z]
        exact k
theorem yN_is : ∀ (v : V) (H : Hp), yN.r v H → decide (v = V.non) = true := fun v H h => decide_eq_true h
theorem yT_not {Rs : List Ty} : ∀ (v : V) (H : Hp), (yT K Rs).r v H → decide (v = V.non) = false := fun v H ⟨p, xs, e, _⟩ => by
  subst e
  exact decide_eq_false fun z => nomatch z
theorem d_nearest (B : Blt K mg cN cO cA cW) (R : Raw K mg "nearest" LH.s_nearest) (D_ring_of : Def P w K mg base 3 "ring_of" ["rho"] (sp_ring_of K)) (D_crossing : Def P w K mg base 3 "crossing" ["leg", "other"] (sp_crossing K)) (D_is_within : Def P w K mg base 3 "is_within" ["s", "t", "rho"] (sp_is_within K)) (D_on_side : Def P w K mg base 5 "on_side" ["leg", "other", "one", "far"] (sp_on_side K)) (D_squared_at : Def P w K mg base 5 "squared_at" ["leg", "other", "s", "t"] (sp_squared_at K)) (D_by_parts : Def P w K mg base 2 "by_parts" ["one", "other"] (sp_by_parts K)) : Def P w K mg base 6 "nearest" ["leg", "other", "rho"] (sp_nearest K) := by
  refine def_mk R sc_nearest (fun _ _ _ _ _ _ us hl => match us, hl with | [_, _, _], _ => rfl) (fun _ => rfl) fun f cdv A outer s H E hr => ⟨_, (pss_cons (ps_set (i := 3) sc_nearest.nd rfl (.inl rfl) (pe_cd D_ring_of hr (by decide) (pa_cons (pv 2) pa_nil)))
      (pss_cons (ps_set (i := 4) sc_nearest.nd rfl (.inl rfl) (pe_op op_cat (pv 3) (pe_lc (own := [("one", 10), ("far", 11)]) (g := gTup K 2 (gCons (gName 10) (gCons (gName 11) gNil))) (tt := tYes) (te := (tCall (sp_on_side K) [] E0 (tCons (tVar 0) (tCons (tVar 1) (tCons (tVar 10) (tCons (tVar 11) tNil)))))) rfl sc_nearest.nd (pi_zip (by rfl) B.zip (pa_cons (pv 3) (pa_cons (pe_op op_cat (pe_slice sl_list (pv 3) (po_some pe_int) po_none) (pe_slice sl_list (pv 3) po_none (po_some pe_int))) pa_nil))) (blkOk_by (N := N_nearest) (sc := defScope LH.s_nearest) (by decide +kernel)) (fun _ _ _ _ _ => (pg_tup rfl (pgs_cons (pg_name (i := 10) sc_nearest.nd rfl (.inl rfl)) (pgs_cons (pg_name (i := 11) sc_nearest.nd rfl (.inl rfl)) pgs_nil)))) (fun _ _ _ _ _ => pts_nil) (fun _ _ _ _ _ => (pe_cd D_on_side hr (by decide) (pa_cons (pv 0) (pa_cons (pv 1) (pa_cons (pv 10) (pa_cons (pv 11) pa_nil)))))))))
      (pss_cons (ps_set (i := 5) sc_nearest.nd rfl (.inl rfl) (pe_cd D_crossing hr (by decide) (pa_cons (pv 0) (pa_cons (pv 1) pa_nil))))
      (pss_cons (ps_if (PW.pt (pw_and (pt_cmpR op_notN (pv 5) pe_non (nomark _)) (pw_and1 (pt_val (pe_cd D_is_within hr (by decide) (pa_cons (pe_ix ix_tup (pv 5) pe_int (fun _ _ => rfl)) (pa_cons (pe_ix ix_tup (pv 5) pe_int (fun _ _ => rfl)) (pa_cons (pv 2) pa_nil)))))))) (pss_one (ps_expr (pe_bm PySem.F.plainAttrs_list PySem.F.slot_list_append PySem.F.type_list_append mt_append (pv 4) (pa_cons (pv 5) pa_nil)))) pss_nil)
      (pss_cons (ps_set (i := 6) sc_nearest.nd rfl (.inl rfl) pe_non)
      (pss_cons (ps_for PassesOwn.never rfl (pi_list (pv 4)) (pg_tup rfl (pgs_cons (pg_name (i := 7) sc_nearest.nd rfl (.inl rfl)) (pgs_cons (pg_name (i := 8) sc_nearest.nd rfl (.inl rfl)) pgs_nil)))
      (pss_cons (ps_set (i := 9) sc_nearest.nd rfl (.inl rfl) (pe_tup (pa_cons (pe_cd D_squared_at hr (by decide) (pa_cons (pv 0) (pa_cons (pv 1) (pa_cons (pv 7) (pa_cons (pv 8) pa_nil))))) (pa_cons (pv 7) (pa_cons (pv 8) pa_nil)))))
      (pss_one (ps_if (PW.pt (pw_or (pt_cmpR op_isN (pv 6) pe_non (nomark _)) (pw_or1 (pt_cmpR op_lt (pe_cd D_by_parts hr (by decide) (pa_cons (pv 9) (pa_cons (pv 6) pa_nil))) pe_int (nomark _))))) (pss_one (ps_set (i := 6) sc_nearest.nd rfl (.inl rfl) (pv 9))) pss_nil))))
      (pss_one (ps_ret (pv 6))))))))), fun ⟨a, b, r⟩ ⟨la, lb, ⟨h0, h1⟩, h2⟩ W => ?_⟩
  show SS _ [some (yG K a), some (yG K b), some (yF K r), none, none, none, none, none, none, none, none, none] W _ W (yNear K a b r)
  refine ss_asg (ee_ring_of (ee_var rfl) ⟨⟨h0, h1⟩, h2⟩) ?_
  show SS _ [some (yG K a), some (yG K b), some (yF K r), some (yL ((ring r).map (yP K))), none, none, none, none, none, none, none, none] W _ W (yNear K a b r)
  refine ss_cat (Rs' := (sides a b r).map (yP K)) (ee_var rfl) (ee_eq (ee_lc (js := [10, 11]) (n := 6) (F := fun i => yP K (side a b ((ring r).getD i (0, 0)) ((ring2 r).getD i (0, 0)))) (fun _ => true)
    (fun i => [some (yG K a), some (yG K b), some (yF K r), some (yL ((ring r).map (yP K))), none, none, none, none, none, none, some (yP K ((ring r).getD i (0, 0))), some (yP K ((ring2 r).getD i (0, 0)))])
    (EI.congr (Y' := fun i => yT K [yP K ((ring r).getD i (0, 0)), yP K ((ring2 r).getD i (0, 0))]) (ei_zipL (Rs := (ring r).map (yP K)) (Rs' := (ring2 r).map (yP K)) (ea_cons (ee_var rfl) (ea_cons (ee_eq (ee_cat (ee_slL (ee_var rfl) (eo_some ee_i) eo_none) (ee_slL (ee_var rfl) eo_none (eo_some ee_i)) (lle rfl)) rfl) ea_nil))) ?ey) (by decide) (fun i hi => gt_tup (gts_cons gt_name (gts_cons gt_name gts_nil)) rfl) (by decide) (fun i W' hi => et_yes)
    (fun i W' hi _ => ?body)) ?fin) (lle rfl) (fun l hl => ?_)
  case ey =>
    intro i hi
    show yT K [((ring r).map (yP K)).getD i yN, ((ring2 r).map (yP K)).getD i yN] = _
    rw [map_getD (d := (0, 0)) (show i < (ring r).length from hi), map_getD (d := (0, 0)) (show i < (ring2 r).length from hi)]
  case body =>
    exact ee_on_side (ee_var rfl) (ee_var rfl) (ee_var rfl) (ee_var rfl) ⟨la, lb, r.den, r.den_nz, h2, ring_pt h0 h1 _ (getD_mem (show i < (ring r).length from hi)), ring_pt h0 h1 _ (ring2_mem _ (getD_mem (show i < (ring2 r).length from hi)))⟩
  case fin =>
    rw [made_true]
    show yL ((List.range 6).map _) = yL (((List.range 6).map _).map (yP K))
    rw [List.map_map]
    rfl
  rw [← List.map_append]
  show SS _ [some (yG K a), some (yG K b), some (yF K r), some (yL ((ring r).map (yP K))), some (yAt l), none, none, none, none, none, none, none] _ _ W (yNear K a b r)
  refine ss_asg (ee_crossing (ee_var rfl) (ee_var rfl) ⟨la, lb⟩) ?_
  show SS _ [some (yG K a), some (yG K b), some (yF K r), some (yL ((ring r).map (yP K))), some (yAt l), some (yC K a b), none, none, none, none, none, none] _ _ W (yNear K a b r)
  have hw := wh_le la lb
  generalize hc : (decide (wh a b ≠ 0) && dmB r (cr a b).1 (cr a b).2) = c
  have hc1 : c = true ↔ (wh a b ≠ 0 ∧ Dm r (cr a b).1 (cr a b).2) := by
    rw [← hc]
    unfold dmB
    simp
  have lk := looked (a := a) (b := b) h0 h1 hc1
  have pb := looked_pb (a := a) (b := b) la lb h0 h1 hc1
  refine ss_ifJ (b := c) [some (yG K a), some (yG K b), some (yF K r), some (yL ((ring r).map (yP K))), some (yAt l), none, none, none, none, none, none, none] (wM W l ((if c = true then (ring r ++ sides a b r) ++ [cr a b] else ring r ++ sides a b r).map (yP K))) ?test (fun hb => ?yes) (fun hb => ?no) ?rest
  case test =>
    by_cases h : wh a b = 0
    · have e : yC K a b = yN := if_pos h
      rw [e]
      refine et_is (et_and (a := false) (b := false) (et_test (ee_op (ee_var rfl) ee_n (ot_notN fun v H hv => by rw [yN_is v H hv]; rfl))) fun z => nomatch z) ?_
      rw [← hc, decide_eq_false (fun z => z h)]
      rfl
    · have e : yC K a b = yP K (cr a b) := if_neg h
      rw [e]
      refine et_is (et_and (a := true) (et_test (ee_op (ee_var rfl) ee_n (ot_notN fun v H hv => by rw [yT_not v H hv]; rfl))) fun _ => et_B (ee_is_within (ee_op (ee_var rfl) ee_i (ot_ixT rfl)) (ee_op (ee_var rfl) ee_i (ot_ixT rfl)) (ee_var rfl) ⟨sh_quo h hw.2.1 hw.1, sh_quo h hw.2.2 hw.1, sh_r h0 h1 h2⟩)) ?_
      rw [← hc, decide_eq_true h]
  case yes =>
    have h := (hc1.mp hb).1
    have e : yC K a b = yP K (cr a b) := if_neg h
    rw [e]
    refine ss_last (ss_append (i := 4) rfl (ee_var rfl) (by rw [List.length_map]; exact Nat.lt_of_le_of_lt (show _ ≤ 12 from Nat.le_of_eq rfl) (by decide)) (ss_nX (fun σ G o => o.forget 5) fun G H w => ?_))
    rw [hb, if_pos rfl, List.map_append (l₁ := ring r ++ sides a b r)]
    exact w
  case no =>
    refine ss_nX (fun σ G o => o.forget 5) fun G H w => ?_
    rw [hb, if_neg (by decide)]
    exact w
  case rest =>
    generalize (if c = true then (ring r ++ sides a b r) ++ [cr a b] else ring r ++ sides a b r) = pts at lk pb
    refine ss_freeze (i := 4) rfl ?_
    refine ss_asg ee_n ?_
    show SS _ [some (yG K a), some (yG K b), some (yF K r), some (yL ((ring r).map (yP K))), some (yL (pts.map (yP K))), none, some yN, none, none, none, none, none] _ _ W (yNear K a b r)
    have hn : (pts.map (yP K)).length = pts.length := List.length_map _
    refine ss_for (α := Option (Rat × Rat)) (EI.congr (Y' := fun i => yP K (pts.getD i (0, 0))) (ei_list (ee_var rfl)) (fun i hi => map_getD (by rw [← hn]; exact hi))) (Best a b pts) (fun o => [some (yG K a), some (yG K b), none, none, none, none, some (bestT K a b o), none, none, none, none, none]) (fun _ => W)
      (fun i o => [some (yG K a), some (yG K b), none, none, none, none, some (bestT K a b o), some (yF K (pts.getD i (0, 0)).1), some (yF K (pts.getD i (0, 0)).2), none, none, none]) none (.inl ⟨rfl, rfl⟩) (fun σ G H o w => ⟨((o.forget 2).forget 3).forget 4, w⟩) (fun i o hi hp => gt_tup (gts_cons gt_name (gts_cons gt_name gts_nil)) rfl) (fun i o hi hp => ?_) (fun o hp => ?_)
    · have hi : i < pts.length := by rw [← hn]; exact hi
      obtain ⟨D, d0, d1, k⟩ := pb_lt h2 (pb _ (getD_mem (d := (0, 0)) hi))
      have szf : ∀ p ∈ pts, Sz (ff a b p.1 p.2) ∧ Sz p.1 ∧ Sz p.2 := fun p hp => by
        obtain ⟨D, d0, d1, k⟩ := pb _ hp
        have d2 : D < 2 ^ 785 := Nat.lt_of_le_of_lt d1 (cube_lt h2)
        have dd : D * D < 2 ^ (785 + 785) := by rw [Nat.pow_add]; exact Nat.mul_lt_mul'' d2 d2
        exact ⟨(ff_in la lb k.s k.t d0).Sz (Nat.mul_ne_zero d0 d0) dd (show _ ≤ 2 ^ 34 by decide) (by decide), k.s.inD.Sz d0 d2 (show 1 ≤ 2 ^ 0 by decide) (by decide), k.t.inD.Sz d0 d2 (show 1 ≤ 2 ^ 0 by decide) (by decide)⟩
      have sp := szf _ (getD_mem (d := (0, 0)) hi)
      show SS _ [some (yG K a), some (yG K b), none, none, none, none, some (bestT K a b o), some (yF K (pts.getD i (0, 0)).1), some (yF K (pts.getD i (0, 0)).2), none, none, none] _ _ W (yNear K a b r)
      generalize hp' : pts.getD i (0, 0) = p at *
      refine ss_asg (R := yR K (ff a b p.1 p.2) p.1 p.2) (ee_tup (ea_cons (ee_squared_at (ee_var rfl) (ee_var rfl) (ee_var rfl) (ee_var rfl) ⟨la, lb, D, d0, d1, k.s, k.t⟩) (ea_cons (ee_var rfl) (ea_cons (ee_var rfl) ea_nil))) (lle rfl)) ?_
      show SS _ [some (yG K a), some (yG K b), none, none, none, none, some (bestT K a b o), some (yF K p.1), some (yF K p.2), some (yR K (ff a b p.1 p.2) p.1 p.2), none, none] _ _ W (yNear K a b r)
      cases o with
      | none =>
        refine ss_last (ss_if (b := true) (et_or (a := true) (b := true) (et_test (ee_op (ee_var rfl) ee_n (ot_isN yN_is))) (fun z => nomatch z)) (fun _ => ?_) (fun z => nomatch z))
        refine ss_asg (ee_var rfl) (ss_next fun σ G H o s w => ⟨some p, ?_, ((o.forget 7).forget 8).forget 9, w⟩)
        rw [← hp']
        exact best_new hi hp fun p e => nomatch e
      | some p0 =>
        have hp0 : p0 ∈ pts := by
          rcases hp with ⟨_, e⟩ | ⟨p', e, hm, _⟩
          · cases e
          · cases e
            exact List.mem_of_mem_take hm
        have s0 := szf _ hp0
        refine ss_last (ss_if (et_or (a := false) (et_test (ee_op (ee_var rfl) ee_n (ot_isN yT_not))) (fun z => et_test (ee_op (ee_by_parts (ee_var rfl) (ee_var rfl) ⟨sp, s0⟩) ee_i ot_lt))) (fun hb => ?_) (fun hb => ?_))
        · have hb : decide (cmp3 (ff a b p.1 p.2) p.1 p.2 (ff a b p0.1 p0.2) p0.1 p0.2 < 0) = true := hb
          refine ss_asg (ee_var rfl) (ss_next fun σ G H o s w => ⟨some p, ?_, ((o.forget 7).forget 8).forget 9, w⟩)
          rw [← hp']
          refine best_new hi hp fun p e => ?_
          cases e
          rw [hp']
          exact cmp3_lt (of_decide_eq_true hb)
        · have hb : decide (cmp3 (ff a b p.1 p.2) p.1 p.2 (ff a b p0.1 p0.2) p0.1 p0.2 < 0) = false := hb
          refine ss_skip (ss_next fun σ G H o s w => ⟨some p0, best_old hi hp ?_, ((o.forget 7).forget 8).forget 9, w⟩)
          rw [hp']
          exact cmp3_ge (of_decide_eq_false hb)
    · rw [hn] at hp
      rcases hp with ⟨e, _⟩ | ⟨p, e, hp, hm⟩
      · exfalso
        obtain ⟨q, hq, _⟩ := lk.cov 0 0 ⟨by decide, by decide, by decide, by decide, by grind, by grind⟩
        cases pts with
        | nil => cases hq
        | cons _ _ => cases e
      · subst e
        rw [List.take_length] at hp hm
        refine ss_ret (EE.sub (ee_var rfl) fun v H hv => ⟨(ff a b p.1 p.2, p.1, p.2), near_ok la lb (pb p hp) h2 (lk.min hp hm), hv⟩) (Wd.le.refl _)
end
end LT
end
section
set_option Elab.async false
set_option linter.all false
set_option maxRecDepth 100000
set_option maxHeartbeats 2000000
namespace LE
open PySem PySem.Spec PyProof.Rows L2
open AutoSeq1 (wpAny_loadPart')
theorem new_en {v : Value} {o : Obj} {J : Heap → Prop} (B : Begins v o J) : Meets (Builtin.«enumerate.__new__» ⟨[.type "enumerate", v], []⟩) (fun _ R s => J s.heap ∧
      R (.ok (.ret (.ref (s.heap.push o).objs.size)))
       { s with heap := (s.heap.push o).push { cls := .type "enumerate", data := .fields #[.none, .bool false, .ref s.heap.objs.size, rawInt 0, .none, .none] } }) :=
  .of_wp fun prog w A R s h => by
   obtain ⟨hp, g, d, tk, os⟩ := s
   obtain ⟨h1, h⟩ := h
   have sub := sub_enumerate
   have it : ∀ {A' : Around} {E : Value → Shared → Prop} {Q : Value → Shared → Prop}, Q (.ref hp.objs.size) ⟨hp.push o, g, d, tk, os⟩ → wpAny (model prog w) A' (pyIter v) Q E ⟨hp, g, d, tk, os⟩ :=
     fun q => B.iter prog w _ _ ⟨hp, g, d, tk, os⟩ _ h1 q
   wp_walk using it
   refine wpAny_stack_any fun st => wpAny_pure ?_
   split
   · rename_i c _ _ _ _ _
     cases (c == Value.type "enumerate")
     · wp_walk using it
       exact ⟨_, rfl, h⟩
     · wp_walk using it
       exact ⟨_, rfl, h⟩
   · wp_walk using it
     exact ⟨_, rfl, h⟩
theorem begin_en {prog : Program} {w : World} {A : Around} {E : Value → Shared → Prop} {s : Shared} {v : Value} {o : Obj} {J : Heap → Prop} {Q : Value → Shared → Prop} (B : Begins v o J) (h1 : J s.heap)
     (h : ∀ h', IsEnum h' (s.heap.objs.size + 1) s.heap.objs.size 0 .none → h'.get? s.heap.objs.size = some o → (∀ b o, s.heap.get? b = some o → h'.get? b = some o) → Q (.ref (s.heap.objs.size + 1)) { s with heap := h' }) :
     wpAny (model prog w) A (call (.type "enumerate") [v]) Q E s := by
  refine callType_new F.called_enumerate (by decide) (F.typeCall_enumerate_1 _) (F.newCall_enumerate_1 _) (fun obj => F.args_object_init_2 obj _) F.entry_enumerate_new (new_en B) ⟨h1, ?_⟩
  have hz : (s.heap.push o).objs.size = s.heap.objs.size + 1 := Heap.size_push ..
  show _ ∧ _
  rw [hz]
  have he : IsEnum ((s.heap.push o).push { cls := .type "enumerate", data := .fields #[.none, .bool false, .ref s.heap.objs.size, rawInt 0, .none, .none] }) (s.heap.objs.size + 1) s.heap.objs.size 0 .none := by
   have q := Heap.get?_push_size (s.heap.push o) (o := { cls := .type "enumerate", data := .fields #[.none, .bool false, .ref s.heap.objs.size, rawInt 0, .none, .none] }) rfl
   rw [hz] at q
   exact q
  exact ⟨⟨_, he, rfl⟩, h _ he (Heap.get?_push_of_some _ (Heap.get?_push_size _ B.free)) fun b o x => Heap.get?_push_of_some _ (Heap.get?_push_of_some _ x)⟩
/-- the tuple at a, each item in a new pair -/
def Itu (K : PySem.W.Frag) (a : Addr) : It :=
  ⟨fun i H => ∃ (xs : List V) (x : V), SqT K H a xs ∧ xs[i]? = some x, fun i H v H' => ∃ T x, v = .ref T ∧ H T = none ∧ H' = upd H T (.tup [.int (i : Nat), x]) ∧ ∀ xs, SqT K H a xs → xs[i]? = some x, fun i H => ∃ xs : List V, SqT K H a xs ∧ xs.length ≤ i⟩
theorem turn_enT {P : Program} {w : World} {K : PySem.W.Frag} {elts : List Expr} {kk : Nat} {tpos : Pos} (a e it : Addr) (hne : e ≠ it) (hae : a ≠ e) (hai : a ≠ it) :
    Turn P w K (.Tuple elts kk tpos) (Itu K a) [e, it] e (fun i h => (∃ old, IsEnum h e it ((i : Nat) : Int) old) ∧ h.IsTupleIter it a i) where
  mem := by simp
  obj := fun i h st b hb => by
    obtain ⟨⟨old, he⟩, o, ho, hc, hd⟩ := st
    rcases (show b = e ∨ b = it by simpa using hb) with z | z
    · rw [z]
      exact ⟨_, he, fun v q => nomatch q⟩
    · rw [z]
      exact ⟨o, ho, fun v q => by
        rw [hd] at q
        cases q⟩
  keep := fun i h h' st k => ⟨st.1.imp fun old he => k e (by simp) _ he, st.2.at fun o q => k it (by simp) o q⟩
  item := by
    intro X hP hw hK hc i pins s σ H E I hf st hg
    subst hP hw hK
    obtain ⟨⟨old, he⟩, hit⟩ := st
    obtain ⟨xs, x, hq, hx⟩ := hg
    obtain ⟨its, rv, p, _⟩ := I.tuple hq
    obtain ⟨u, hu, ru⟩ := rv.get hx
    have hel : e < s.heap.objs.size := Heap.lt_size he
    have hil : it < s.heap.objs.size := by
      obtain ⟨_, q, _⟩ := hit
      exact Heap.lt_size q
    have hlt : i < its.toArray.size := by
      rcases Nat.lt_or_ge i its.length with z | z
      · simpa using z
      · rw [List.getElem?_eq_none z] at hu
        cases hu
    refine wpAny_pyNext_enum_itemD (Draws.tuple (prog := X.prog) (w := X.w) (A := X.A.in1) (I.ok.hd hc) it a hai its.toArray) he ⟨hit, p⟩ hlt hne (by simp [hne, Ne.symm hae]) fun y h' tk hP ho hs' hT hsz hk => ?_
    have hy : y = u := by
      have q : its.toArray[i]? = some y := hP
      rw [List.getElem?_toArray, hu] at q
      exact (Option.some.inj q).symm
    subst hy
    refine ⟨_, rfl, wpAny_letOwnedTupleGo_enum (s := { s with heap := h', toks := tk + 1 }) ho fun h'' he' sb => ?_⟩
    have hT2 : h''.get? s.heap.objs.size = some { cls := .type "tuple", data := .seq #[.int i tk, y] } := (sb.2 _ (Nat.ne_of_gt hel)).trans hT
    have new : ObjOk X.prog X.w (upd H s.heap.objs.size (.tup [.int (i : Nat), x])) h'' s.heap.objs.size (.tup [.int (i : Nat), x]) :=
      ⟨by show 2 ≤ sizeLine; decide, [.int i tk, y], .cons ⟨_, rfl⟩ (.cons ru .nil), ⟨_, hT2, rfl, _, rfl⟩⟩
    have I1 : Inv X pins σ (upd H s.heap.objs.size (.tup [.int (i : Nat), x])) { s with heap := h'', toks := tk + 1 } :=
      I.turnedNew (ch := [e, it]) (fun b ob hb q => (sb.2 b (fun z => hb (by simp [z]))).trans (hk b ob (fun z => hb (by simp [z])) (fun z => hb (by simp [z])) q)) hf (Nat.le_refl _) new
    refine ⟨.ref s.heap.objs.size, _, I1, rfl, ⟨_, x, rfl, I.hok.fresh (Nat.le_refl _), rfl, fun ys hy => by
      rw [I.tuple_inj hy hq]
      exact hx⟩, ⟨⟨y, ?_⟩, hs'.1.at fun o q => (sb.2 it (Ne.symm hne)).trans q⟩, fun b hb => ?_⟩
    · have e1 : ((i + 1 : Nat) : Int) = (i : Int) + 1 := by omega
      rw [e1]
      exact he'
    · have hb' : b < s.heap.objs.size := by
        rcases (show b = e ∨ b = it by simpa using hb) with z | z
        · rw [z]
          exact hel
        · rw [z]
          exact hil
      rw [upd_ne (Nat.ne_of_lt hb')]
      exact (hf b hb).1
  done := by
    intro X hP hw hK hc i pins s σ H E I hf st hg
    subst hP hw hK
    obtain ⟨⟨old, he⟩, hit⟩ := st
    obtain ⟨xs, hq, hx⟩ := hg
    obtain ⟨its, rv, p, _⟩ := I.tuple hq
    have hl := rv.length
    have hT : s.TypeIs (.ref e) "enumerate" := ⟨_, he, rfl⟩
    unfold pyNext
    refine wpAny_bind (wpAny_attempt (wpAny_callSpecial?_slot (name := Str.ofString "__next__") hT F.slot_enumerate_next (wpAny_call_entry F.slot_enumerate_next hT F.entry_enumerate_next ?_ (F.args_enumerate_next_1 _))))
    show wpAny _ _ (field (.ref e) 2 >>= _) _ _ _
    refine wpAny_bind (wpAny_field he rfl (x := .ref it) rfl ?_)
    refine wpAny_bind (wpAny_nextOf_tuple_end (I.ok.hd hc) hit p (by simp; omega) fun h' x hx' ⟨o, ho, hc'⟩ => ?_)
    refine wpAny_bind (wpAny_isInstance (T := "StopIteration") (b := true) ⟨o, ho, hc'⟩ isSubtype_stop ?_)
    obtain ⟨f0, f1, f2, f3, f4, f5⟩ := hf it (by simp)
    exact wpAny_pure ⟨rfl, I.turned (t' := s.toks) (fun b o hb q => hx' b o hb q) f0 f1 f3 f4 f5⟩
  self := fun A i s Q E st h => by
    obtain ⟨⟨_, he⟩, _⟩ := st
    exact wpAny_pyIter_enum he h
def iEnT (K : PySem.W.Frag) (ta : TA) : TI := fun σ H R => ta σ H fun vs H1 => ∃ a xs, vs = [.ref a] ∧ SqT K H1 a xs ∧ R (Itu K a) H1
theorem pi_enumT {X : Cx} {e : Expr} {ta : TA} {p pos tpos : Pos} {elts : List Expr} {kk : Nat} (hg : Gl X "enumerate") (hm : X.mg "enumerate" = none) (ha : PA X [e] ta) (hs : starEach [e] X.env = [(false, eval e X.env)] := by rfl) :
    PI X (.Tuple elts kk tpos) (.Call (.Name "enumerate" p) [e] [] pos) (iEnT X.K ta) := by
  refine ⟨fun pins s σ H R I h => ?_⟩
  refine Call_ (ld_blt I hg hm boot_enumerate (PyProof.Rows.callWith_type1 (thn (ha.run pos pins s σ H _ I h) fun us s1 ⟨vs, H1, I1, r1, q1⟩ => ?_) hs rfl))
  obtain ⟨a, xs, ex, hq, q⟩ := q1
  subst ex
  cases r1 with
  | cons r rr =>
    cases rr
    cases r
    obtain ⟨its, rv, p', _⟩ := I1.tuple hq
    have hal : a < s1.heap.objs.size := by
      obtain ⟨_, q', _⟩ := id p'
      exact Heap.lt_size q'
    refine begin_en (begins_tuple a its.toArray) p' fun h' he hit hk => wpAny_pyIter_enum he ?_
    have I2 : Inv X pins σ H1 { s1 with heap := h' } := I1.kept (t' := s1.toks) hk
    refine ⟨s1.heap.objs.size + 1, [s1.heap.objs.size + 1, s1.heap.objs.size], _, _, H1, rfl, I2, turn_enT a (s1.heap.objs.size + 1) s1.heap.objs.size (Nat.succ_ne_self _) (Nat.ne_of_lt (Nat.lt_succ_of_lt hal)) (Nat.ne_of_lt hal), ⟨⟨.none, he⟩, ⟨_, hit, rfl, rfl⟩⟩, fun b hb => ?_, q⟩
    have hle : s1.heap.objs.size ≤ b := by
      rcases (show b = s1.heap.objs.size + 1 ∨ b = s1.heap.objs.size by simpa using hb) with z | z
      · rw [z]
        exact Nat.le_add_right _ _
      · rw [z]
        exact Nat.le_refl _
    exact I1.fpOk hle (I1.hok.fresh hle)
end LE
namespace LT
open PySem PySem.Spec PyProof.Rows L2
theorem ei_enT {Γ : Tys} {W : Wd} {Rs : List Ty} {t : TA} {K : PySem.W.Frag} (h : EA t Γ W [yT K Rs]) : EI (LE.iEnT K t) Γ W Rs.length (fun i => yT K [yI (i : Int), Rs.getD i yN]) := fun σ G H o s w Rr q =>
  h σ G H o s w _ fun vs G1 H1 g1 s1 w1 r1 => by
    obtain ⟨v, rfl, p, xs, rfl, hp, ap⟩ := r1.one
    have hs : ∀ {G H}, Same G1 G → Same G H → SqT K H p xs := fun a b => same_t b (same_t a hp)
    have l1 := ap.len
    refine ⟨p, xs, rfl, hs (Same.refl _) s1, q _ G1 H1 g1 s1 w1 ⟨fun i G H hi a b => ?_, fun i G H x H' hi a b y => ?_, fun G H a b => ⟨xs, hs a b, by omega⟩⟩⟩
    · have hx : i < xs.length := by omega
      exact ⟨xs, xs[i], hs a b, List.getElem?_eq_getElem hx⟩
    · obtain ⟨T, x1, rfl, nT, rfl, f1⟩ := y
      obtain ⟨R1, e1, k1⟩ := ap.getv (f1 xs (hs a b))
      have gs := GS.new (o := .tup [.int (i : Nat), x1]) b nT
      refine ⟨_, gs, T, [.int (i : Nat), x1], rfl, .inl (.inl upd_same), rfl, ?_, trivial⟩
      rw [getD_some e1]
      exact R1.mono _ _ _ (a.trans gs.g) k1
end LT
end
section
set_option Elab.async false
set_option linter.all false
set_option maxRecDepth 100000
set_option maxHeartbeats 2000000
namespace LB
open PySem PySem.Spec PyProof.Rows L2 LamX LT
/-! ### a lambda with one parameter -/
/-- the table at P, all that it tells known in G -/
def TabG (P : Addr) (q : Str) (G H : Hp) : Prop := ∃ ps : Array Value, H P = some (.tbl ps) ∧ TriplesOk ps.toList ∧ ∀ (pos : Pos) (cv : Value), codeAmong pos ps.toList = some cv → ∃ c, cv = .ref c ∧ G c = some (CodeO c q)
/-- a step in which the table at P may grow -/
structure TS (P : Addr) (q : Str) (G H G2 H2 : Hp) : Prop where
  g : Same G G2
  h : ∀ a o, a ≠ P → H a = some o → H2 a = some o
  sub : Same G2 H2
  fr : ∀ a, H a ≠ none → G a = none → G2 a = none
  ok : TabG P q G2 H2
theorem TabG.some {P : Addr} {q : Str} {G H : Hp} (t : TabG P q G H) : H P ≠ none := by
  obtain ⟨ps, e, _⟩ := t
  rw [e]
  exact fun z => nomatch z
theorem TabG.keep {P : Addr} {q : Str} {G H G2 H2 : Hp} (t : TabG P q G H) (g : Same G G2) (e : H2 P = H P) : TabG P q G2 H2 := by
  obtain ⟨ps, h1, h2, h3⟩ := t
  refine ⟨ps, e.trans h1, h2, fun pos cv hc => ?_⟩
  obtain ⟨c, e1, e2⟩ := h3 pos cv hc
  exact ⟨c, e1, g _ _ e2⟩
theorem TabG.same {P : Addr} {q : Str} {G H G2 H2 : Hp} (t : TabG P q G H) (g : Same G G2) (e : Same H H2) : TabG P q G2 H2 := by
  obtain ⟨ps, h1, h2, h3⟩ := id t
  exact t.keep g ((e _ _ h1).trans h1.symm)
theorem TS.refl {P : Addr} {q : Str} {G H : Hp} (s : Same G H) (t : TabG P q G H) : TS P q G H G H := ⟨Same.refl _, fun _ _ _ h => h, s, fun _ _ h => h, t⟩
theorem TS.gs {P : Addr} {q : Str} {G H G1 H1 G2 H2 : Hp} (x : TS P q G H G1 H1) (y : GS G1 H1 G2 H2) : TS P q G H G2 H2 :=
  ⟨x.g.trans y.g, fun a o n e => y.h _ _ (x.h a o n e), y.sub, fun a h1 h2 => by
    refine y.fr a ?_ (x.fr a h1 h2)
    by_cases n : a = P
    · rw [n]; exact x.ok.some
    · cases e : H a with
      | none => exact absurd e h1
      | some o =>
        rw [x.h a o n e]
        exact (fun z => nomatch z), x.ok.same y.g y.h⟩
theorem GS.ts {P : Addr} {q : Str} {G H G2 H2 : Hp} (x : GS G H G2 H2) (t : TabG P q G H) : TS P q G H G2 H2 := ⟨x.g, fun a o _ e => x.h a o e, x.sub, x.fr, t.same x.g x.h⟩
theorem TS.trans {P : Addr} {q : Str} {G H G1 H1 G2 H2 : Hp} (x : TS P q G H G1 H1) (y : TS P q G1 H1 G2 H2) : TS P q G H G2 H2 :=
  ⟨x.g.trans y.g, fun a o n e => y.h _ _ n (x.h a o n e), y.sub, fun a h1 h2 => by
    refine y.fr a ?_ (x.fr a h1 h2)
    by_cases n : a = P
    · rw [n]; exact x.ok.some
    · cases e : H a with
      | none => exact absurd e h1
      | some o =>
        rw [x.h a o n e]
        exact (fun z => nomatch z), y.ok⟩
/-- the scope of a lambda with the parameter a -/
structure LamP (a : Str) (sc scope : Scope) : Prop where
  kind : scope.kind = .function
  co : scope.isCoroutine = false
  gen : scope.isGenerator = false
  par : scope.names.lookup a = some .local
  own : ∀ y ∈ scope.names, y.2 ≠ .cell ∧ (y.2 = .local → y.1 = a)
  free : ∀ y ∈ scope.names, y.2 = .free → sc.names.lookup y.1 = some .cell ∨ sc.names.lookup y.1 = some .free
theorem LamP.has {a : Str} {X : Cx} {scope : Scope} (L : LamP a X.env.scope scope) (ok : X.Ok) : ∀ y ∈ scope.names, y.2 = .free → ∃ c, X.env.cells.lookup y.1 = some c := fun y hy e => by
  rcases L.free y hy e with k | k
  · exact ok.has _ (.inl k)
  · exact ok.has _ (.inr k)
/-- its body's context: no exception leaves -/
def lamCxP (X : Cx) (a : Str) (A : Around) (outer : List Env) (s : Shared) (H : Hp) (scope : Scope) (f c' : Addr) : Cx where
  prog := X.prog
  w := X.w
  K := X.K
  mg := X.mg
  base := X.base
  A := A.deeper (lamEnv X scope s.heap.objs.size f c')
  N := X.N ++ [a]
  s_0 := s
  H_0 := H
  env := lamEnv X scope s.heap.objs.size f c'
  outer := outer
  stack := lamEnv X scope s.heap.objs.size f c' :: outer
  ex := []
  fn := fun _ => false
  calm := true
  pn := []
  xe := fun _ _ => False
abbrev lamO (X : Cx) (params : Arguments) (body : Expr) (scope : Scope) (pm : Value) (c' : Addr) (ctv : Value) : Obj := PySem.W.kla_obj "<lambda>" (X.env.qual ++ "<lambda>") params body scope (cloFrom X.env.cells scope.names []) pm c' ctv
section
variable {X : Cx} {pins : List (Addr × Obj)} {σ : L2.St} {H HZ : Hp} {s s1 : Shared}
theorem lam_in {a : Str} {A : Around} {outer : List Env} {scope : Scope} {f c' : Addr} {h₁ : Heap} {tk : Nat} {v : V} {u : Value} (I : Inv X pins σ H s) (L : LamP a X.env.scope scope) (nd : (X.N ++ [a]).Nodup) (e0 : Env0 X.prog X.w X.K X.mg X.base A outer s1 HZ) (hd : A.handled = none)
    (un : Un (frs X.stack) [] H HZ s.heap s1.heap) (hns : h₁.Ns s1.heap.objs.size fun y => ([(a, u)] : List (Str × Value)).reverse.lookup y) (kp : ∀ b o, s1.heap.get? b = some o → h₁.get? b = some o) (rv : RelV v u) :
    Inv (lamCxP X a A outer s1 HZ scope f c') [] (σ ++ [some v]) HZ { s1 with heap := h₁, toks := tk } := by
  have cm : ∀ {y c}, (cloFrom X.env.cells scope.names []).lookup y = some c → X.env.cells.lookup y = some c := fun {y c} e => by
    rcases cloFrom_mem (PySem.mem_of_lookup e) with hm | ⟨h1, h2⟩
    · cases hm
    · obtain ⟨c1, hc⟩ := L.has I.ok _ h1 rfl
      have hc : X.env.cells.lookup y = some c1 := hc
      have e2 : c = c1 := by
        rw [h2, hc] <;> rfl
      rw [e2]
      exact hc
  have look : ∀ {y}, scope.names.lookup y = some .free → ∃ c, (cloFrom X.env.cells scope.names []).lookup y = some c := fun {y} hl => mem_lookup (cloFrom_has (cells := X.env.cells) (acc := []) (PySem.mem_of_lookup hl))
  have cellK : ∀ {c : Addr} {v : Option Value}, H c = none → s.heap.IsCell c v → h₁.IsCell c v := fun {c v} n ⟨o, ho, hd⟩ => by
    obtain ⟨sl, q⟩ := un.any ho n (by simp)
    exact ⟨_, kp _ _ q, hd⟩
  have noA : ∀ b : Addr, b ∉ (lamCxP X a A outer s1 HZ scope f c').ex := fun b z => absurd (show b ∈ ([] : List Addr) from z) (by simp)
  refine ⟨⟨e0.mod, L.kind, rfl, rfl, Nat.le_refl _, fun y z c e1 e2 => I.ok.inj y z c (cm e1) (cm e2), fun y hy => ?_, fun y c z _ => ?_, fun _ => hd, Around.frames_deeper e0.frames, .inr ⟨rfl, rfl⟩, fun b z => absurd z (noA b), e0.bs, e0.bsz, fun b _ _ => noA b,
     fun b z => absurd z (noA b), e0.funs, e0.frf⟩, rfl, e0.bare, Un.kept kp, ⟨_, hns, fun i y v' e1 e2 e3 => ?_⟩, fun y c e => ?_, e0.hok.fresh (Nat.le_refl _), fun y c e => ?_, fun q hq => absurd (show q ∈ ([] : List (Addr × Obj)) ++ [] from hq) (by simp), e0.hok.kept kp, ?_⟩
  · rcases (show scope.names.lookup y = some .cell ∨ scope.names.lookup y = some .free from hy) with hy | hy
    · exact absurd rfl (L.own _ (PySem.mem_of_lookup hy)).1
    · exact look hy
  · have z : false = true := z
    cases z
  · have e1 : (X.N ++ [a])[i]? = some y := e1
    have hlen := I.len
    rcases Nat.lt_or_ge i X.N.length with hi | hi
    · rw [List.getElem?_append_left hi] at e1
      rw [List.getElem?_append_left (by rw [hlen]; exact hi)] at e2
      have hya : y ≠ a := fun z => by
        have hm : y ∈ X.N := List.mem_of_getElem? e1
        rw [z] at hm
        exact (List.nodup_append.mp nd).2.2 a hm a (by simp) rfl
      rcases (show Vis scope y from e3) with k | k | k
      · exact absurd ((L.own _ (PySem.mem_of_lookup k)).2 rfl) hya
      · exact absurd rfl (L.own _ (PySem.mem_of_lookup k)).1
      · obtain ⟨m, hn, hl⟩ := I.loc
        have hvis : Vis X.env.scope y := (L.free _ (PySem.mem_of_lookup k) rfl).elim (fun k => .inr (.inl k)) (fun k => .inr (.inr k))
        obtain ⟨w', r, q⟩ := hl i y v' e1 e2 hvis
        obtain ⟨c2, h2⟩ := look k
        refine ⟨w', r, .inr ⟨.inr k, c2, h2, ?_⟩⟩
        have c1 := cm h2
        rcases q with ⟨k', _⟩ | ⟨_, c3, e', z⟩
        · have k' : X.env.scope.names.lookup y = some .local := k'
          rcases L.free _ (PySem.mem_of_lookup k) rfl with k2 | k2 <;> rw [show X.env.scope.names.lookup y = _ from k2] at k' <;> cases k'
        · rw [c1] at e'
          cases e'
          exact cellK (I.freeC y _ c1) z
    · have hi2 : i < (X.N ++ [a]).length := by
        rcases Nat.lt_or_ge i (X.N ++ [a]).length with z | z
        · exact z
        · rw [List.getElem?_eq_none z] at e1
          cases e1
      have hi3 : i = X.N.length := by
        rw [List.length_append, List.length_singleton] at hi2
        omega
      subst hi3
      rw [List.getElem?_append_right (Nat.le_refl _), Nat.sub_self] at e1
      have ey : a = y := Option.some.inj e1
      rw [← hlen, List.getElem?_append_right (Nat.le_refl _), Nat.sub_self] at e2
      have ev : v = v' := Option.some.inj (Option.some.inj e2)
      subst ey ev
      refine ⟨u, rv, .inl ⟨L.par, ?_⟩⟩
      show ([(a, u)] : List (Str × Value)).reverse.lookup a = some u
      simp [List.lookup]
  · obtain ⟨w', z⟩ := I.cell y c (cm e)
    exact ⟨w', cellK (I.freeC y c (cm e)) z⟩
  · obtain ⟨v, o, ho, hd⟩ := I.cell y c (cm e)
    exact un.free c o ho (I.freeC y c (cm e)) (by simp)
  · show (σ ++ [some v]).length = (X.N ++ [a]).length
    rw [List.length_append, List.length_append, I.len]
    rfl
/-- tells(e), in the def that got the lambda -/
theorem pe_tells {Ng : List Str} {qg : Str} {sg : Scope} {g f c' : Addr} {cdg pm ctv : Value} {params : Arguments} {body e : Expr} {scope : Scope} {k i : Nat} {a x : Str} {tb te : TE} {p1 p2 : Pos}
    (I : Inv X pins σ H s) (L : LamP a X.env.scope scope) (nd : (X.N ++ [a]).Nodup) (hf : s.heap.get? f = some (lamO X params body scope pm c' ctv)) (hfn : H f = none) (hfr : f ∉ frs X.stack)
    (hbind : ∀ u, bindArgs (PySem.W.kla_fn "<lambda>" (X.env.qual ++ "<lambda>") params body scope (cloFrom X.env.cells scope.names []) pm (.ref c') ctv) ⟨[u], []⟩ = pure [(a, u)])
    (hr : Room (k + 1) (X.A.deeper (envOfC qg sg s.heap.objs.size g cdg)))
    (hbody : ∀ (A : Around) (outer : List Env) (s : Shared) (H : Hp), Room k (A.deeper (lamEnv X scope s.heap.objs.size f c')) → PE (lamCxP X a A outer s H scope f c') body tb)
    (hN : Ng[i]? = some x) (hv : Vis sg x) (he : PE (cxOf C8.CX0 X.prog X.w X.K X.mg X.base Ng qg sg g cdg X.A X.stack s H C8.E0).nox e te)
    (hst : starEach [e] (cxOf C8.CX0 X.prog X.w X.K X.mg X.base Ng qg sg g cdg X.A X.stack s H C8.E0).nox.env = [(false, eval e (cxOf C8.CX0 X.prog X.w X.K X.mg X.base Ng qg sg g cdg X.A X.stack s H C8.E0).nox.env)])
    (hd : (x == ("__debug__" : Str)) = false := by decide) (hcd : (x == ("__classdict__" : Str)) = false := by decide) :
    PE (cxOf C8.CX0 X.prog X.w X.K X.mg X.base Ng qg sg g cdg X.A X.stack s H C8.E0).nox (.Call (.Name x p1) [e] [] p2)
      (fun σZ HZ Q => σZ[i]? = some (some (.ref f)) ∧ te σZ HZ fun v H1 => H1 c' = some (CodeO c' (X.env.qual ++ "<lambda>")) ∧ tb (σ ++ [some v]) H1 Q) := by
  refine ⟨fun pinsZ sZ σZ HZ Q IZ h => ?_⟩
  obtain ⟨hs, ht⟩ := h
  refine wpAny_Call_Name_kw (thn ((pe_var (pos := p1) (i := i) hN hv hd hcd).run pinsZ sZ σZ HZ (fun v H1 => v = .ref f ∧ H1 = HZ) IZ ⟨.ref f, hs, rfl, rfl⟩) fun u s1 ⟨v, H1, I1, r1, q1⟩ => ?_)
  obtain ⟨ev, eH⟩ := q1
  subst ev
  rw [eH] at I1
  obtain rfl : u = Value.ref f := r1
  have at1 : ∀ {s' : Shared} {H' : Hp} {σ' : L2.St}, Inv (cxOf C8.CX0 X.prog X.w X.K X.mg X.base Ng qg sg g cdg X.A X.stack s H C8.E0).nox pinsZ σ' H' s' → s'.heap.get? f = some (lamO X params body scope pm c' ctv) := fun J => J.base.keep f _ hf hfn hfr (fun z => nomatch (show f ∈ ([] : List Addr) from z))
  refine PySem.W.callWith_F ⟨_, _, _, _, at1 I1⟩ ?_ hst rfl
  rw [hst]
  refine Calls.spliced_cons (thn (he.run pinsZ s1 σZ HZ _ I1 ht) fun u s2 ⟨v, H2, I2, rv, hc, hq⟩ => Calls.spliced_nil ⟨⟨_, _, _, _, at1 I2⟩, ?_⟩)
  have un : Un (frs X.stack) [] H H2 s.heap s2.heap := I2.base
  obtain ⟨⟨oc, vs, t, hoc, hdc, hvc⟩, _, _⟩ := I2.hok c' _ hc
  have rc : codeAny (model X.prog X.w) (X.A.deeper (envOfC qg sg s.heap.objs.size g cdg)) (.call (.ref f) ⟨[u], []⟩) (CR C8.CX0 (envOfC qg sg s.heap.objs.size g cdg :: X.stack) X.prog X.w H2 s2 Q C8.E0) s2 := by
    refine PySem.W.kla_callFunE hr.depth (at1 I2) rfl L.co L.gen rfl ⟨c', oc, vs, t, rfl, hoc, hdc, hvc⟩ ?_
    rw [hbind]
    refine wpAny_pure (wpAny_newFunctionEnv (fun y hy => (L.own y hy).1) (fun y hy => by
      rw [List.mem_singleton.mp hy]
      exact L.par) (fun h₁ hns hsb => ⟨I2.nolimit.fresh _ hsb, ?_⟩) L.kind)
    show codeAny _ _ (.expr body (lamEnv X scope s2.heap.objs.size f c')) _ _
    have kp : ∀ b o, s2.heap.get? b = some o → h₁.get? b = some o := fun b o e => hsb.extBut b o (Nat.ne_of_lt (Heap.lt_size e)) (Heap.get?_push_of_some _ e)
    have J : Inv (lamCxP X a (X.A.deeper (envOfC qg sg s.heap.objs.size g cdg)) (envOfC qg sg s.heap.objs.size g cdg :: X.stack) s2 H2 scope f c') [] (σ ++ [some v]) H2 { s2 with heap := h₁, toks := s2.toks + ([(a, u)] : List (Str × Value)).length } :=
      lam_in I L nd I2.env0 hr.hd un hns kp rv
    refine PySem.W.kla_codeExpr (wpAny_mono ((hbody _ _ s2 H2 (hr.deeper _)).run [] _ _ H2 Q J hq) (fun v s' hq => ?_) fun e s' hq => (show False from hq).elim)
    obtain ⟨w', H', J', rv, q⟩ := hq
    exact ⟨w', H', J'.os, J'.bare, J'.base, J'.hok, rv, q⟩
  refine wpAny_call (codeAny_mono rc fun r s' hq => ?_)
  cases r with
  | error e => exact (show False from hq).elim
  | ok fl =>
    cases fl with
    | ret u => exact I2.after hq
    | next => exact False.elim hq
    | brk => exact False.elim hq
    | cont => exact False.elim hq
end
end LB
end
section
set_option Elab.async false
set_option linter.all false
set_option maxRecDepth 100000
set_option maxHeartbeats 2000000
namespace LB
open PySem PySem.Spec PyProof.Rows L2 LamX LT
section
variable {X : Cx} {pins : List (Addr × Obj)} {σ : L2.St} {H : Hp} {s : Shared}
theorem same_code {G H : Hp} {P c' : Addr} {q : Str} {t : HO} (s : Same G H) (gP : G P = none) (nC : H c' = none) : Same (upd G c' (CodeO c' q)) (upd (upd H P t) c' (CodeO c' q)) := fun b o e => by
  by_cases hb : b = c'
  · subst hb
    rw [upd_same] at e ⊢
    exact e
  · rw [upd_ne hb] at e ⊢
    rw [upd_ne (fun z => by rw [z, gP] at e; cases e)]
    exact s b o e
/-- the lambda is made; it is pinned, its code object is known -/
theorem lam_mk {P c : Addr} {G : Hp} {params : Arguments} {body : Expr} {scope : Scope} {pos : Pos} {E : Value → Shared → Prop} {Q : Value → Shared → Prop} (I : Inv X pins σ H s) (TB : TabB X.base X.mg c P) (hcode : X.env.code = .ref c)
    (sm : Same G H) (gP : G P = none) (hT : TabG P (X.env.qual ++ "<lambda>") G H) (hdef : defaultsOf params X.env = ([], [])) (hfree : ∀ y ∈ scope.names, y.2 = .free → ∃ c, X.env.cells.lookup y.1 = some c) (hstk : X.stack = X.env :: X.outer ∧ X.env.frame = some X.env.locals)
    (h : ∀ (f c' : Addr) (pm ctv : Value) (G1 H1 : Hp) (s' : Shared), Inv X ((f, lamO X params body scope pm c' ctv) :: pins) σ H1 s' → TS P (X.env.qual ++ "<lambda>") G H G1 H1 → f ∉ frs X.stack → G1 c' = some (CodeO c' (X.env.qual ++ "<lambda>")) → Q (.ref f) s') :
    wpAny (model X.prog X.w) X.A (eval (.Lambda params body scope pos) X.env) Q E s := by
  obtain ⟨ps, hP, ht, ha⟩ := id hT
  refine PySem.W.kla_eval hdef ?_
  have bP : s.heap.BuiltinsAt X.mg P := TB.bm.keeps I.bk
  have hP' : s.heap.get? P = some { cls := .none, data := .fields ps } := I.hok P _ hP
  have nofr : ∀ f, s.heap.objs.size ≤ f → f ∉ frs X.stack := fun f hf z => by
    rcases List.mem_cons.mp (I.stkSub _ z) with e | e
    · have h1 := I.lt
      rw [← e] at h1
      exact Nat.lt_irrefl _ (Nat.lt_of_lt_of_le h1 hf)
    · exact I.nofs hf e
  have pinned : ∀ {H1 : Hp} {s' : Shared} {f c' : Addr} {pm ctv : Value}, Inv X pins σ H1 s' → s'.heap.get? f = some (lamO X params body scope pm c' ctv) → H1 f = none → s.heap.objs.size ≤ f → Inv X ((f, lamO X params body scope pm c' ctv) :: pins) σ H1 s' := fun {H1 s' f c' pm ctv} J e n hf =>
    ⟨J.ok, J.os, J.bare, J.base, J.loc, J.cell, J.free, J.freeC, fun p hp => by
      rcases List.mem_append.mp hp with z | z
      · exact J.pin p (List.mem_append_left _ z)
      · rcases List.mem_cons.mp z with z | z
        · rw [z]
          refine ⟨e, n, fun z => ?_, I.nofs hf, fun v z => nomatch z⟩
          have h1 := I.lt
          rw [← z] at h1
          exact Nat.lt_irrefl _ (Nat.lt_of_lt_of_le h1 hf)
        · exact J.pin p (List.mem_append_right _ z), J.hok, J.len⟩
  cases hc : codeAmong pos ps.toList with
  | none =>
    refine PySem.W.kla_makeFunction (mg := X.mg) (c := c) (P := P) (ps := ps) (closure_ok hfree) I.ok.glob (I.mod.glob.keeps I.bk) hcode (TB.code.keeps I.bk) hP' ht hc TB.gP bP fun c' ctv h' tk hx hge hlt hrec htb => ?_
    obtain ⟨c2, oc, vs, t, e2, hoc, hd, hv⟩ := hrec
    cases e2
    have hsz : s.heap.objs.size ≤ h'.objs.size := Nat.le_trans hge (Nat.le_of_lt hlt)
    have nC : H c' = none := I.hok.fresh hge
    have I1 := inv_table (t' := tk) (more := #[rawInt pos.line, rawInt pos.col, .ref c']) (h' := h'.push (lamO X params body scope ((X.mg "__name__").getD .none) c' ctv)) I hP
      (fun b o hb e => Heap.get?_push_of_some _ (hx b o hb e)) (Heap.get?_push_of_some _ htb) hge ⟨oc, vs, t, Heap.get?_push_of_some _ hoc, hd, hv⟩
    have eL : (ps ++ #[rawInt pos.line, rawInt pos.col, .ref c']).toList = ps.toList ++ [rawInt pos.line, rawInt pos.col, .ref c'] := by simp
    have n1 : h'.objs.size ≠ c' := Nat.ne_of_gt hlt
    have n2 : h'.objs.size ≠ P := Nat.ne_of_gt (Nat.lt_of_lt_of_le (Heap.lt_size hP') hsz)
    refine h h'.objs.size c' ((X.mg "__name__").getD .none) ctv (upd G c' (CodeO c' (X.env.qual ++ "<lambda>"))) _ _ (pinned I1 (Heap.get?_push_size _ rfl) ?_ hsz) ⟨same_new (sm.free nC), fun a o n e => ?_, same_code sm gP nC, fun a h1 h2 => ?_, ?_⟩ (nofr _ hsz) upd_same
    · rw [upd_ne n1, upd_ne n2]
      exact I.hok.fresh hsz
    · rw [upd_ne (ne_of_none e nC), upd_ne n]
      exact e
    · rw [upd_ne (fun z => h1 (by rw [z]; exact nC))]
      exact h2
    · refine ⟨_, by rw [upd_ne (ne_of_none hP nC), upd_same], by rw [eL]; exact PySem.TriplesOk_snoc _ _ _ _ ht, fun p' cv hcv => ?_⟩
      rw [eL] at hcv
      rcases among_app _ ht hcv with z | z
      · obtain ⟨c0, e1, e2⟩ := ha p' cv z
        exact ⟨c0, e1, same_new (sm.free nC) _ _ e2⟩
      · exact ⟨c', z, upd_same⟩
  | some cv =>
    obtain ⟨c', e, hco⟩ := ha pos cv hc
    subst e
    refine PySem.W.kla_makeFunctionHit (mg := X.mg) (c := c) (P := P) (ps := ps) (closure_ok hfree) I.ok.glob (I.mod.glob.keeps I.bk) hcode (TB.code.keeps I.bk) hP' ht hc bP fun ctv h' tk hx hsz => ?_
    have I1 : Inv X pins σ H { s with heap := h'.push (lamO X params body scope ((X.mg "__name__").getD .none) c' ctv), toks := tk } := I.kept fun b o e => Heap.get?_push_of_some _ (hx b o e)
    exact h h'.objs.size c' ((X.mg "__name__").getD .none) ctv G H _ (pinned I1 (Heap.get?_push_size _ rfl) (I.hok.fresh hsz) hsz) (.refl sm hT) (nofr _ hsz) hco
/-- the def that calls what it got -/
def Gives2 (X : Cx) (Ng : List Str) (x : Str) (sg : Scope) (g : Addr) (cdg : Value) (bg : List Stmt) (a : Str) (q : Str) (TT : V → Addr → (V → Hp → VK → Prop) → Hp → VK → Prop) : Prop :=
  ∀ (f c' : Addr) (s : Shared) (H : Hp) (Q : VK) (v : V) (tl : V → Hp → VK → Prop),
    (∀ (e : Expr) (te : TE) (p1 p2 : Pos), PE (cxOf C8.CX0 X.prog X.w X.K X.mg X.base Ng x sg g cdg X.A X.stack s H C8.E0).nox e te →
      starEach [e] (cxOf C8.CX0 X.prog X.w X.K X.mg X.base Ng x sg g cdg X.A X.stack s H C8.E0).nox.env = [(false, eval e (cxOf C8.CX0 X.prog X.w X.K X.mg X.base Ng x sg g cdg X.A X.stack s H C8.E0).nox.env)] →
      PE (cxOf C8.CX0 X.prog X.w X.K X.mg X.base Ng x sg g cdg X.A X.stack s H C8.E0).nox (.Call (.Name a p1) [e] [] p2) (fun σZ HZ Q => σZ[0]? = some (some (.ref f)) ∧ te σZ HZ fun v H1 => H1 c' = some (CodeO c' q) ∧ tl v H1 Q)) →
    TT v c' tl H Q → ∃ t, PSs (cxOf C8.CX0 X.prog X.w X.K X.mg X.base Ng x sg g cdg X.A X.stack s H C8.E0).nox bg t ∧ t { nx := fun _ H' => Q .non H', rt := Q } (L2.start Ng [.ref f, v]) H
def tLam2 (P : Addr) (q : Str) (te : TE) (TT : V → Addr → (V → Hp → VK → Prop) → Hp → VK → Prop) (t : TE) : TE := fun σ H Q => ∃ G, Same G H ∧ G P = none ∧ TabG P q G H ∧ ∀ c' G1 H1, TS P q G H G1 H1 → G1 c' = some (CodeO c' q) →
  te σ H1 fun v H2 => TT v c' (fun x H' Q' => t (σ ++ [some x]) H' Q') H2 Q
/-- x(lambda a: body, e) -/
theorem pe_lam2 {TT : V → Addr → (V → Hp → VK → Prop) → Hp → VK → Prop} {x a b a2 : Str} {g c P : Addr} {k : Nat} {pg : Arguments} {bg : List Stmt} {sg : Scope} {dV kV doc pm cdv ct oc : Value} {an od : Option Addr} {osl : Array (Option Value)} {Ng : List Str}
    {params : Arguments} {body e2 : Expr} {scope : Scope} {t te : TE} {p lpos pos : Pos} (hg : Gl X x) (hm : X.mg x = some (.ref g)) (hk : PySem.W.keepIn X.K (.ref g) = true)
    (lk : X.K.lookup g = some ⟨oc, od, .func (PySem.W.fnOf x x pg bg sg dV kV doc pm an cdv ct), osl⟩) (hcg : PySem.W.codeIn X.K cdv x = true) (hb : L2.Binds X.K (PySem.W.fnOf x x pg bg sg dV kV doc pm an cdv ct) [a, b] []) (Sg : FnScope Ng [a, b] sg) (hNg : Ng[0]? = some a) (hva : Vis sg a)
    (hG : Gives2 X Ng x sg g cdv bg a (X.env.qual ++ "<lambda>") TT)
    (TB : TabB X.base X.mg c P) (hcode : X.env.code = .ref c) (hr : Room (k + 2) X.A) (L : LamP a2 X.env.scope scope) (nd : (X.N ++ [a2]).Nodup) (hdef : defaultsOf params X.env = ([], [])) (hstk : X.stack = X.env :: X.outer ∧ X.env.frame = some X.env.locals)
    (hbind : ∀ (q : Str) (cl : List (Str × Addr)) (pm cv ctv u : Value), bindArgs (PySem.W.kla_fn "<lambda>" q params body scope cl pm cv ctv) ⟨[u], []⟩ = pure [(a2, u)])
    (hbody : ∀ (A : Around) (outer : List Env) (s : Shared) (H : Hp) (f c' : Addr), Room k (A.deeper (lamEnv X scope s.heap.objs.size f c')) → PE (lamCxP X a2 A outer s H scope f c') body t) (he : PE X e2 te)
    (hst : starEach [e2] X.env = [(false, eval e2 X.env)] := by rfl)
    (hdb : (x == ("__debug__" : Str)) = false := by decide) (hd : (a == ("__debug__" : Str)) = false := by decide) (hcd : (a == ("__classdict__" : Str)) = false := by decide) :
    PE X (.Call (.Name x p) [.Lambda params body scope lpos, e2] [] pos) (tLam2 P (X.env.qual ++ "<lambda>") te TT t) := by
  refine ⟨fun pins s σ H Q I h => ?_⟩
  obtain ⟨G, sm, gP, hT, h⟩ := h
  refine wpAny_Call_Name_kw (ld_glob I hg hm ?_ hdb)
  have hst2 : starEach [.Lambda params body scope lpos, e2] X.env = (false, eval (.Lambda params body scope lpos) X.env) :: starEach [e2] X.env := rfl
  refine PySem.W.callWith_K (h₀ := X.base) I.ok.mod.kin hk ?_ hst2 (by rw [hst]; rfl)
  rw [hst2, hst]
  show wpAny _ _ (spliced ((false, eval (.Lambda params body scope lpos) X.env) :: [(false, eval e2 X.env)])) _ _ s
  refine Calls.spliced_cons (lam_mk I TB hcode sm gP hT hdef (L.has I.ok) hstk fun f c' pm' ctv G1 H1 s' I1 hts hfr hco => ?_)
  refine Calls.spliced_cons (thn (he.run ((f, lamO X params body scope pm' c' ctv) :: pins) s' σ H1 _ I1 (h c' G1 H1 hts hco)) fun u s2 ⟨v, H2, I2, rv, hq⟩ => Calls.spliced_nil ⟨I2.kIn, ?_⟩)
  obtain ⟨hf, hfn, _⟩ := I2.pin (f, lamO X params body scope pm' c' ctv) (List.mem_append_right _ (List.mem_cons_self ..))
  have rc : codeAny (model X.prog X.w) X.A (.call (.ref g) ⟨[.ref f, u], []⟩) (CR C8.CX0 X.stack X.prog X.w H2 s2 Q C8.E0) s2 := by
    refine run_ofS (N := Ng) (ps := [a, b]) (us := [.ref f, u]) (vs := [.ref f, v]) lk hcg Sg hr I2.env0 (hb s2 [.ref f, u] I2.kIn rfl) (.cons rfl (.cons rv .nil)) rfl fun hr' => ?_
    obtain ⟨t', ht', hq'⟩ := hG f c' s2 H2 Q v (fun x H' Q' => t (σ ++ [some x]) H' Q') (fun e te p1 p2 he hs => pe_tells (i := 0) I2 L nd hf hfn hfr (fun u => hbind _ _ _ _ _ u) hr' (fun A outer s H hr2 => hbody A outer s H f c' hr2) hNg hva he hs hd hcd) hq
    exact ⟨t', ht'.nox, hq'⟩
  refine wpAny_call (codeAny_mono rc fun r s3 hq => ?_)
  have I3 : Inv X pins σ H2 s2 := ⟨I2.ok, I2.os, I2.bare, I2.base, I2.loc, I2.cell, I2.free, I2.freeC, fun p hp => I2.pin p (by
    rcases List.mem_append.mp hp with z | z
    · exact List.mem_append_left _ z
    · exact List.mem_append_right _ (List.mem_cons_of_mem _ z)), I2.hok, I2.len⟩
  cases r with
  | error e => exact (show False from hq).elim
  | ok fl =>
    cases fl with
    | ret u => exact I3.after hq
    | next => exact False.elim hq
    | brk => exact False.elim hq
    | cont => exact False.elim hq
end
end LB
end
section
set_option Elab.async false
set_option linter.all false
set_option maxRecDepth 100000
set_option maxHeartbeats 2000000
set_option exponentiation.threshold 20000
namespace LT
open PySem PySem.Spec PyProof.Rows L2 LL LE
section
variable {Γ Γ' : Tys} {W W0 W' : Wd} {R S Ra Rb : Ty} {Rs : List Ty} {te ta tb tc td : TE} {t : TA} {K : PySem.W.Frag} {N : Nx} {u tu tw tz : TS} {g : TG} {js : List Nat}
abbrev yBd (K : PySem.W.Frag) (b : Bd) : Ty := yT K [yI b.p0, yI b.p1, yI b.p2, yI b.p3, yI b.p4, yI b.p5, yI b.p6, yI b.p7, yI b.p8]
abbrev yLs (K : PySem.W.Frag) (ls : List Leg) : Ty := yT K (ls.map (yG K))
open Classical in
noncomputable def pB (p : Prop) : Bool := decide p
open Classical in
theorem pB_of {p : Prop} {b : Bool} (h : b = true ↔ p) : b = pB p := by
  unfold pB
  by_cases q : p
  · rw [decide_eq_true q]
    exact h.mpr q
  · rw [decide_eq_false q]
    cases b with
    | true => exact absurd (h.mp rfl) q
    | false => rfl
open Classical in
theorem pB_iff {p : Prop} : pB p = true ↔ p := by
  unfold pB
  exact decide_eq_true_iff
open Classical in
theorem pB_no {p : Prop} : pB p = false ↔ ¬ p := by
  unfold pB
  exact decide_eq_false_iff_not
def sp_r_of (K : PySem.W.Frag) : Sp := spF (fun g : Bd => [yBd K g]) (fun g => BdOk g) (fun g => yI g.R)
def sp_lag_of (K : PySem.W.Frag) : Sp := spF (fun g : Bd => [yBd K g]) (fun g => BdOk g) (fun g => yI g.lag)
def sp_rho_of (K : PySem.W.Frag) : Sp := spF (fun g : Bd × Int => [yBd K g.1, yI g.2]) (fun g => BdOk g.1 ∧ TkOk g.1 g.2) (fun g => yF K (g.1.rho g.2))
abbrev NoR : Type := Rat × Int × Int × Rat × Rat
abbrev noT (K : PySem.W.Frag) : Option NoR → Ty
  | none => yN
  | some (q, i, j, s, t) => yT K [yF K q, yI i, yI j, yF K s, yF K t]
/-- the couples that were looked at before (j, i) -/
def Seen (j i i' j' : Nat) : Prop := i' < j' ∧ (j' < j ∨ (j' = j ∧ i' < i))
def NoInv (ls : List Leg) (r : Rat) (j i : Nat) : Option NoR → Prop
  | none => ∀ i' j', ¬ Seen j i i' j'
  | some (q, _, _, _, _) => Sz q ∧ (∃ i' j', Seen j i i' j' ∧ j' < ls.length ∧ IsMin (Lg ls i') (Lg ls j') r q) ∧ ∀ i' j', Seen j i i' j' → ∀ q', IsMin (Lg ls i') (Lg ls j') r q' → q ≤ q'
abbrev yNo (K : PySem.W.Frag) (ls : List Leg) (r : Rat) : Ty := yE fun o : Option NoR => yW (NoInv ls r ls.length 0 o) (noT K o)
def PreR (r : Rat) : Prop := (0 ≤ r ∧ r ≤ 1) ∧ r.den < 2 ^ 250
def sp_nearest_of (K : PySem.W.Frag) : Sp := spF (fun g : List Leg × Rat => [yLs K g.1, yF K g.2]) (fun g => LsOk g.1 ∧ PreR g.2) (fun g => yNo K g.1 g.2)
def sp_are_apart (K : PySem.W.Frag) : Sp := spF (fun g : List Leg × Rat × Int => [yLs K g.1, yF K g.2.1, yI g.2.2]) (fun g => LsOk g.1 ∧ PreR g.2.1 ∧ 0 ≤ g.2.2 ∧ g.2.2 ≤ 600) (fun g => yB (pB (Apart g.1 g.2.1 g.2.2)))
def sp_is_flight_apart (K : PySem.W.Frag) : Sp := spF (fun g : Bd × Int × List Leg => [yBd K g.1, yI g.2.1, yLs K g.2.2]) (fun g => BdOk g.1 ∧ TkOk g.1 g.2.1 ∧ LsOk g.2.2) (fun g => yB (pB (Ap g.1 g.2.2 g.2.1)))
def sp_are_ever_apart (K : PySem.W.Frag) : Sp := spF (fun g : Leg × Leg × Int × Int => [yG K g.1, yG K g.2.1, yI g.2.2.1, yI g.2.2.2]) (fun g => LB g.1 ∧ LB g.2.1 ∧ 0 ≤ g.2.2.1 ∧ g.2.2.1 ≤ 600) (fun g => yB (pB (Ev g.1 g.2.1 g.2.2.1 g.2.2.2)))
def sp_has_ticks (K : PySem.W.Frag) : Sp := spF (fun g : Bd × List Leg => [yBd K g.1, yLs K g.2]) (fun g => BdOk g.1 ∧ LsOk g.2) (fun g => yB (pB (EvAll g.1 g.2)))
theorem ee_r_of {b : Bd} (ha : EE ta Γ W (yBd K b)) (hp : BdOk b) : EE (tCall (sp_r_of K) [] E0 (tCons ta tNil)) Γ W (yI b.R) := ee_call b (ea_cons ha ea_nil) hp
theorem ee_lag_of {b : Bd} (ha : EE ta Γ W (yBd K b)) (hp : BdOk b) : EE (tCall (sp_lag_of K) [] E0 (tCons ta tNil)) Γ W (yI b.lag) := ee_call b (ea_cons ha ea_nil) hp
theorem ee_rho_of {b : Bd} {T : Int} (ha : EE ta Γ W (yBd K b)) (hb : EE tb Γ W (yI T)) (hp : BdOk b ∧ TkOk b T) : EE (tCall (sp_rho_of K) [] E0 (tCons ta (tCons tb tNil))) Γ W (yF K (b.rho T)) := ee_call (b, T) (ea_cons ha (ea_cons hb ea_nil)) hp
theorem ee_nearest_of {ls : List Leg} {r : Rat} (ha : EE ta Γ W (yLs K ls)) (hb : EE tb Γ W (yF K r)) (hp : LsOk ls ∧ PreR r) : EE (tCall (sp_nearest_of K) [] E0 (tCons ta (tCons tb tNil))) Γ W (yNo K ls r) := ee_call (ls, r) (ea_cons ha (ea_cons hb ea_nil)) hp
theorem ee_are_apart {ls : List Leg} {r : Rat} {n : Int} (ha : EE ta Γ W (yLs K ls)) (hb : EE tb Γ W (yF K r)) (hc : EE tc Γ W (yI n)) (hp : LsOk ls ∧ PreR r ∧ 0 ≤ n ∧ n ≤ 600) : EE (tCall (sp_are_apart K) [] E0 (tCons ta (tCons tb (tCons tc tNil)))) Γ W (yB (pB (Apart ls r n))) := ee_call (ls, r, n) (ea_cons ha (ea_cons hb (ea_cons hc ea_nil))) hp
theorem ee_is_flight_apart {b : Bd} {T : Int} {ls : List Leg} (ha : EE ta Γ W (yBd K b)) (hb : EE tb Γ W (yI T)) (hc : EE tc Γ W (yLs K ls)) (hp : BdOk b ∧ TkOk b T ∧ LsOk ls) : EE (tCall (sp_is_flight_apart K) [] E0 (tCons ta (tCons tb (tCons tc tNil)))) Γ W (yB (pB (Ap b ls T))) := ee_call (b, T, ls) (ea_cons ha (ea_cons hb (ea_cons hc ea_nil))) hp
theorem ee_are_ever_apart {a b : Leg} {n m : Int} (ha : EE ta Γ W (yG K a)) (hb : EE tb Γ W (yG K b)) (hc : EE tc Γ W (yI n)) (hd : EE td Γ W (yI m)) (hp : LB a ∧ LB b ∧ 0 ≤ n ∧ n ≤ 600) : EE (tCall (sp_are_ever_apart K) [] E0 (tCons ta (tCons tb (tCons tc (tCons td tNil))))) Γ W (yB (pB (Ev a b n m))) := ee_call (a, b, n, m) (ea_cons ha (ea_cons hb (ea_cons hc (ea_cons hd ea_nil)))) hp
theorem ee_has_ticks {b : Bd} {ls : List Leg} (ha : EE ta Γ W (yBd K b)) (hb : EE tb Γ W (yLs K ls)) (hp : BdOk b ∧ LsOk ls) : EE (tCall (sp_has_ticks K) [] E0 (tCons ta (tCons tb tNil))) Γ W (yB (pB (EvAll b ls))) := ee_call (b, ls) (ea_cons ha (ea_cons hb ea_nil)) hp
/-- an unpacking of what is told to be -/
theorem ss_setE {α : Type} {F : α → Ty} {Γ1 : α → Tys} (h : EE te Γ W (yE F)) (hg : ∀ a, GT g (F a) Γ (Γ1 a) js) (k : ∀ a, SS u (Γ1 a) W N W0 S) : SS (tSeq (tAsg te g) u) Γ W N W0 S := fun σ G H o s w D n r =>
  h σ G H o s w _ fun v G1 H1 g1 s1 w1 ⟨a, r1⟩ => hg a v σ G1 H1 r1 s1 (o.mono g1) _ fun σ1 o1 _ _ => k a σ1 G1 H1 o1 s1 w1 D (fun σ' G2 H2 a => n σ' G2 H2 (g1.trans a)) fun v G2 H2 a => r v G2 H2 (g1.trans a)
theorem ss_setW {α : Type} {p : α → Prop} {F : α → Ty} {Γ1 : α → Tys} (h : EE te Γ W (yE fun a => yW (p a) (F a))) (hg : ∀ a, p a → GT g (F a) Γ (Γ1 a) js) (k : ∀ a, p a → SS u (Γ1 a) W N W0 S) : SS (tSeq (tAsg te g) u) Γ W N W0 S := fun σ G H o s w D n r =>
  h σ G H o s w _ fun v G1 H1 g1 s1 w1 ⟨a, hp, r1⟩ => hg a hp v σ G1 H1 r1 s1 (o.mono g1) _ fun σ1 o1 _ _ => k a hp σ1 G1 H1 o1 s1 w1 D (fun σ' G2 H2 a => n σ' G2 H2 (g1.trans a)) fun v G2 H2 a => r v G2 H2 (g1.trans a)
theorem cut_to {j : Nat} (h : j ≤ Rs.length) : cutT Rs none (some (j : Int)) = Rs.take j := by
  unfold cutT
  rw [HT.sIx_none, HT.sIx_nat, List.drop_zero, Nat.min_eq_left h, Nat.sub_zero]
theorem ot_ltT {a b c d : Int} : OT (rLtT K) (yT K [yI a, yI b]) (yT K [yI c, yI d]) (yB (HT.lexLt [a, b] [c, d])) := fun x y G H s hx hy Q q => by
  obtain ⟨p, xs, rfl, hp, ap⟩ := hx
  obtain ⟨p', ys, rfl, hp', ap'⟩ := hy
  obtain ⟨v1, v2, rfl, e1, e2⟩ := ap.two
  obtain ⟨v3, v4, rfl, e3, e4⟩ := ap'.two
  have e1 : v1 = .int a := e1
  have e2 : v2 = .int b := e2
  have e3 : v3 = .int c := e3
  have e4 : v4 = .int d := e4
  subst e1 e2 e3 e4
  exact ⟨p, p', [a, b], [c, d], rfl, rfl, same_t s hp, same_t s hp', q _ G H (GS.refl s) rfl⟩
/-- a comprehension of two clauses -/
def made2 (n : Nat) (m : Nat → Nat) (F : Nat → Nat → Ty) : List Ty := ((List.range n).map fun i => (List.range (m i)).map (F i)).flatten
theorem made2_succ (n : Nat) (m : Nat → Nat) (F : Nat → Nat → Ty) : made2 (n + 1) m F = made2 n m F ++ (List.range (m n)).map (F n) := by
  unfold made2
  rw [List.range_succ, List.map_append, List.flatten_append]
  simp
theorem ee_lc2 {n : Nat} {m : Nat → Nat} {Y : Nat → Ty} {Y1 F : Nat → Nat → Ty} {wi wi1 : TI} {g1 : TG} {js1 : List Nat} {vs vs1 : List Nat} (Γb : Nat → Tys) (Γb1 : Nat → Nat → Tys) (hI : EI wi Γ W n Y) (hz : ∀ i, i ≤ n → (made2 i m F).length + m i ≤ 100000) (hg : ∀ i, i < n → GT g (Y i) (wipeT Γ vs) (Γb i) js) (hj : ∀ j ∈ js, j ∈ vs)
    (hI1 : ∀ i W', i < n → EI wi1 (Γb i) W' (m i) (Y1 i)) (hg1 : ∀ i j, i < n → j < m i → GT g1 (Y1 i j) (wipeT (Γb i) vs1) (Γb1 i j) js1) (hj1 : ∀ j ∈ js1, j ∈ vs1)
    (he : ∀ i j W', i < n → j < m i → EE te (Γb1 i j) W' (F i j)) : EE (tLc2 wi g tYes wi1 g1 tYes te vs vs1) Γ W (yL (made2 n m F)) := fun σ G H o s w Q q =>
  hI σ G H o s w _ fun J G1 H1 g1' s1 w1 wk D hD => by
    have gs0 := GS.hid (o := .lst []) s1 hD
    refine ⟨fun i k H => k = n - i ∧ i ≤ n ∧ ∃ G, Same G1 G ∧ Same G H ∧ (wM W D (made2 i m F)).r G H, ⟨n, rfl, Nat.zero_le _, G1, Same.refl _, gs0.sub, W.pure _ _ _ _ s1 w1 gs0, W.fresh _ _ _ w1 hD, s1.free hD, [], upd_same, trivial⟩, ?_⟩
    rintro i k H2 ⟨rfl, hi, G2, e1, e2, w2⟩
    by_cases hlt : i < n
    · refine .inr ⟨wk.go i G2 H2 hlt e1 e2, fun H => ∃ G, Same G1 G ∧ Same G H ∧ (wM W D (made2 (i + 1) m F)).r G H, fun H' ⟨G', e1', e2', w'⟩ => ⟨n - (i + 1), by omega, rfl, hlt, G', e1', e2', w'⟩, fun x H' y => ?_⟩
      obtain ⟨G3, gs, rx⟩ := wk.yld i G2 H2 x H' hlt e1 e2 y
      have w3 := (wM W D (made2 i m F)).pure _ _ _ _ e2 w2 gs
      refine hg i hlt x (L2.wipe σ vs) G3 H' rx gs.sub ((o.wipe vs).mono ((g1'.trans e1).trans gs.g)) _ fun σ3 o3 l3 f3 => ⟨wipe_eq l3 hj f3, ?_⟩
      show wi1 σ3 H' _
      refine hI1 i _ hlt σ3 G3 H' o3 gs.sub w3 _ fun J1 G4 H4 g4 s4 w4 wk1 => ?_
      refine ⟨fun j k H => k = m i - j ∧ j ≤ m i ∧ ∃ G, Same G4 G ∧ Same G H ∧ (wM W D (made2 i m F ++ (List.range j).map (F i))).r G H, ⟨m i, rfl, Nat.zero_le _, G4, Same.refl _, s4, by
        rw [List.range_zero, List.map_nil, List.append_nil]
        exact w4⟩, ?_⟩
      rintro j k H5 ⟨rfl, hjm, G5, e5, e6, w5⟩
      by_cases hl2 : j < m i
      · refine .inr ⟨wk1.go j G5 H5 hl2 e5 e6, fun H => ∃ G, Same G4 G ∧ Same G H ∧ (wM W D (made2 i m F ++ (List.range (j + 1)).map (F i))).r G H, fun H' ⟨G', e1', e2', w'⟩ => ⟨m i - (j + 1), by omega, rfl, hl2, G', e1', e2', w'⟩, fun x H' y => ?_⟩
        obtain ⟨G6, gs6, rx6⟩ := wk1.yld j G5 H5 x H' hl2 e5 e6 y
        have w6 := (wM W D (made2 i m F ++ (List.range j).map (F i))).pure _ _ _ _ e6 w5 gs6
        refine hg1 i j hlt hl2 x (L2.wipe σ3 vs1) G6 H' rx6 gs6.sub ((o3.wipe vs1).mono ((g4.trans e5).trans gs6.g)) _ fun σ7 o7 l7 f7 => ⟨wipe_eq l7 hj1 f7, ?_⟩
        refine he i j _ hlt hl2 σ7 G6 H' o7 gs6.sub w6 _ fun y G8 H8 g8 s8 w8 r8 => ?_
        obtain ⟨acc, hl, al⟩ := w8.2.2.2
        refine ⟨acc, hl, ?_, G8, (e5.trans gs6.g).trans g8, upd_sub s8 w8.2.2.1, ?_⟩
        · rw [al.len, List.length_append, List.length_map, List.length_range]
          have := hz i hi
          exact Nat.lt_of_lt_of_le (show _ < 100000 by omega) (by decide)
        · rw [List.range_succ, List.map_append, ← List.append_assoc]
          exact wM_put w8 (al.app (Ss := [F i j]) (ys := [y]) ⟨r8, trivial⟩)
      · have e : j = m i := by omega
        subst e
        refine .inl ⟨wk1.stop G5 H5 e5 e6, G5, ((e1.trans gs.g).trans g4).trans e5, e6, ?_⟩
        rw [made2_succ]
        exact w5
    · have e : i = n := by omega
      subst e
      refine .inl ⟨wk.stop G2 H2 e1 e2, ?_⟩
      obtain ⟨w2, ig, gl, xs, hl, al⟩ := w2
      have sg : Same G2 (upd G2 D (.lst xs)) := same_new gl
      exact q (.ref D) _ H2 ((g1'.trans e1).trans sg) (fun b' x e => by
        by_cases hb : b' = D
        · subst hb
          rw [upd_same] at e
          rw [hl]
          exact e
        · rw [upd_ne hb] at e
          exact e2 b' x e) (W.grow _ _ _ _ w2 ig hl gl) ⟨D, xs, rfl, upd_same, al.mono sg⟩
end
theorem IsMin.sym {a b : Leg} {r q : Rat} (h : IsMin a b r q) : IsMin b a r q := by
  have e : ∀ s t, ff a b s t = ff b a t s := fun s t => by
    unfold ff gx gy
    grind
  obtain ⟨⟨s, t, d, k⟩, l⟩ := h
  exact ⟨⟨t, s, ⟨d.t0, d.t1, d.s0, d.s1, d.ts, d.st⟩, by rw [← e]; exact k⟩, fun s' t' d' => by
    rw [← e]
    exact l t' s' ⟨d'.t0, d'.t1, d'.s0, d'.s1, d'.ts, d'.st⟩⟩
theorem Ev.sym {a b : Leg} {R lag : Int} (h : Ev a b R lag) : Ev b a R lag := fun m0 k => ⟨(h m0 (IsMin.sym k)).1, fun e z m1 k1 => (h m0 (IsMin.sym k)).2 e z m1 (IsMin.sym k1)⟩
end LT
end
section
set_option Elab.async false
set_option linter.all false
set_option maxRecDepth 100000
set_option maxHeartbeats 1000000
set_option exponentiation.threshold 20000
namespace LT
open PySem PySem.Spec PyProof.Rows L2 LL LE
abbrev N_r_of : List Str := ["bounds"]
theorem sc_r_of : FnScope N_r_of ["bounds"] (defScope LH.s_r_of) := ⟨rfl, rfl, rfl, by decide +kernel, rfl, by decide +kernel, by decide +kernel⟩
abbrev N_lag_of : List Str := ["bounds"]
theorem sc_lag_of : FnScope N_lag_of ["bounds"] (defScope LH.s_lag_of) := ⟨rfl, rfl, rfl, by decide +kernel, rfl, by decide +kernel, by decide +kernel⟩
abbrev N_rho_of : List Str := ["bounds", "ticks"]
theorem sc_rho_of : FnScope N_rho_of ["bounds", "ticks"] (defScope LH.s_rho_of) := ⟨rfl, rfl, rfl, by decide +kernel, rfl, by decide +kernel, by decide +kernel⟩
abbrev N_nearest_of : List Str := ["legs", "rho", "found", "j", "other", "i", "leg", "squared", "s", "t", "is_less"]
theorem sc_nearest_of : FnScope N_nearest_of ["legs", "rho"] (defScope LH.s_nearest_of) := ⟨rfl, rfl, rfl, by decide +kernel, rfl, by decide +kernel, by decide +kernel⟩
abbrev N_are_apart : List Str := ["legs", "rho", "r", "found"]
theorem sc_are_apart : FnScope N_are_apart ["legs", "rho", "r"] (defScope LH.s_are_apart) := ⟨rfl, rfl, rfl, by decide +kernel, rfl, by decide +kernel, by decide +kernel⟩
abbrev N_is_flight_apart : List Str := ["bounds", "ticks", "legs"]
theorem sc_is_flight_apart : FnScope N_is_flight_apart ["bounds", "ticks", "legs"] (defScope LH.s_is_flight_apart) := ⟨rfl, rfl, rfl, by decide +kernel, rfl, by decide +kernel, by decide +kernel⟩
theorem seen_step {j i i' j' : Nat} (hi : i < j) : Seen j (i + 1) i' j' ↔ Seen j i i' j' ∨ (i' = i ∧ j' = j) := by
  unfold Seen
  omega
theorem seen_next {j i' j' : Nat} : Seen (j + 1) 0 i' j' ↔ Seen j j i' j' := by
  unfold Seen
  omega
theorem seen_all {n i' j' : Nat} : Seen n 0 i' j' ↔ i' < j' ∧ j' < n := by
  unfold Seen
  omega
theorem no_next {ls : List Leg} {r : Rat} {j : Nat} {o : Option NoR} (h : NoInv ls r j j o) : NoInv ls r (j + 1) 0 o := by
  cases o with
  | none => exact fun i' j' k => h i' j' (seen_next.mp k)
  | some x =>
    obtain ⟨q, a, b, s, t⟩ := x
    obtain ⟨h0, ⟨i', j', k1, k2⟩, h2⟩ := h
    exact ⟨h0, ⟨i', j', seen_next.mpr k1, k2⟩, fun i' j' k => h2 i' j' (seen_next.mp k)⟩
theorem no_new {ls : List Leg} {r q s t : Rat} {a b : Int} {i j : Nat} {o : Option NoR} (hi : i < j) (hj : j < ls.length) (h : NoInv ls r j i o) (hq : NearOk (Lg ls i) (Lg ls j) r q) (k : ∀ x, o = some x → q ≤ x.1) : NoInv ls r j (i + 1) (some (q, a, b, s, t)) := by
  refine ⟨hq.sz, ⟨i, j, (seen_step hi).mpr (.inr ⟨rfl, rfl⟩), hj, hq.min⟩, fun i' j' sn q' hq' => ?_⟩
  rcases (seen_step hi).mp sn with z | ⟨rfl, rfl⟩
  · cases o with
    | none => exact absurd z (h i' j')
    | some x =>
      obtain ⟨q0, a0, b0, s0, t0⟩ := x
      have h1 := h.2.2 i' j' z q' hq'
      have h2 := k _ rfl
      have h2 : q ≤ q0 := h2
      grind
  · rw [hq.min.uniq hq']
    exact Rat.le_refl
theorem no_old {ls : List Leg} {r q q0 s0 t0 : Rat} {a0 b0 : Int} {i j : Nat} (hi : i < j) (h : NoInv ls r j i (some (q0, a0, b0, s0, t0))) (hq : NearOk (Lg ls i) (Lg ls j) r q) (k : q0 ≤ q) : NoInv ls r j (i + 1) (some (q0, a0, b0, s0, t0)) := by
  obtain ⟨h0, ⟨i', j', k1, k2⟩, h2⟩ := h
  refine ⟨h0, ⟨i', j', (seen_step hi).mpr (.inl k1), k2⟩, fun i' j' sn q' hq' => ?_⟩
  rcases (seen_step hi).mp sn with z | ⟨rfl, rfl⟩
  · exact h2 i' j' z q' hq'
  · rw [← hq.min.uniq hq']
    exact k
theorem no_apart {ls : List Leg} {r : Rat} {R : Int} {q s t : Rat} {a b : Int} (h : NoInv ls r ls.length 0 (some (q, a, b, s, t))) : 0 ≤ cmp q ((R * R : Int) : Rat) ↔ Apart ls r R := by
  obtain ⟨_, ⟨i', j', k1, k2, k3⟩, h2⟩ := h
  rw [cmp_ge]
  refine ⟨fun z i j hij hj q' hq' => ?_, fun z => z i' j' (seen_all.mp k1).1 k2 q k3⟩
  have := h2 i j (seen_all.mpr ⟨hij, hj⟩) q' hq'
  grind
theorem tk_getD {α : Type} {f : α → Ty} {l : List α} {i j : Nat} {d : α} {e : Ty} (h : i < j) (hl : i < l.length) : ((l.map f).take j).getD i e = f (l.getD i d) := by
  rw [List.getD_eq_getElem?_getD, List.getElem?_take_of_lt h, List.getElem?_map, List.getD_eq_getElem?_getD, List.getElem?_eq_getElem hl]
  rfl
section
variable {P : Program} {w : World} {K : PySem.W.Frag} {mg : Str → Option Value} {base : Heap} {cN cO cA cW : Addr}
theorem ot_ixE {α : Type} {p : α → Prop} {Rs : α → List Ty} {R : α → Ty} {i : Int} (h : ∀ a, (Rs a)[i.toNat]? = some (R a)) (h0 : 0 ≤ i := by decide) : OT (rIxT K) (yE fun a => yW (p a) (yT K (Rs a))) (yI i) (yE fun a => yW (p a) (R a)) := fun x y G H s ⟨a, ha, hx⟩ hy Q q =>
  ot_ixT (h a) h0 x y G H s hx hy Q fun v G2 H2 gs r => q v G2 H2 gs ⟨a, ha, r⟩
theorem ot_E {α : Type} {p : α → Prop} {F R : α → Ty} {Rb : Ty} {r : R2} (h : ∀ a, OT r (F a) Rb (R a)) : OT r (yE fun a => yW (p a) (F a)) Rb (yE fun a => yW (p a) (R a)) := fun x y G H s ⟨a, ha, hx⟩ hy Q q =>
  h a x y G H s hx hy Q fun v G2 H2 gs r => q v G2 H2 gs ⟨a, ha, r⟩
theorem c600 {n : Int} (h : 0 ≤ n ∧ n ≤ 600) : CMul n n := .inl ⟨by omega, by omega⟩
theorem sq600 {n : Int} (h : 0 ≤ n ∧ n ≤ 600) : (n * n).natAbs ≤ 360000 := by
  rw [Int.natAbs_mul]
  exact Nat.mul_le_mul (show n.natAbs ≤ 600 by omega) (show n.natAbs ≤ 600 by omega)
theorem sz600 {n : Int} (h : 0 ≤ n ∧ n ≤ 600) : Sz ((n * n : Int) : Rat) := sz_int (Nat.le_trans (sq600 h) (by decide))
theorem cmp_near {a b : Leg} {r : Rat} {n : Int} (hn : 0 ≤ n ∧ n ≤ 600) : ∀ vs G, AllR [yE fun g : Rat × Rat × Rat => yW (NearOk a b r g.1) (yF K g.1), yF K ((n * n : Int) : Rat)] vs G →
    ∃ g : Rat × Rat, (Sz g.1 ∧ Sz g.2) ∧ AllR [yF K g.1, yF K g.2] vs G ∧ (yI (cmp g.1 g.2)).le (yE fun g : Rat => yW (NearOk a b r g) (yI (cmp g ((n * n : Int) : Rat)))) := fun vs G al => by
  obtain ⟨v, u, rfl, ⟨g, hg, hv⟩, hu⟩ := al.two
  exact ⟨(g.1, ((n * n : Int) : Rat)), ⟨hg.sz, sz600 hn⟩, ⟨hv, hu, trivial⟩, fun v H h => ⟨g.1, hg, h⟩⟩
theorem c2 {i j : Int} (h : i.natAbs ≤ 16384) : CMul i j := .inl ⟨by omega, by omega⟩
theorem d_r_of (R : Raw K mg "r_of" LH.s_r_of)  : Def P w K mg base 1 "r_of" ["bounds"] (sp_r_of K) := by
  refine def_mk R sc_r_of (fun _ _ _ _ _ _ us hl => match us, hl with | [_], _ => rfl) (fun _ => rfl) fun f cdv A outer s H E hr => ⟨_, (pss_one (ps_ret (pe_op op_add (pe_ix ix_tup (pv 0) pe_int (fun _ _ => rfl)) (pe_op op_mul pe_int (pe_ix ix_tup (pv 0) pe_int (fun _ _ => rfl)))))), fun b hb W => ?_⟩
  refine ss_ret (ee_op (ee_op (ee_var rfl) ee_i (ot_ixT rfl)) (ee_op ee_i (ee_op (ee_var rfl) ee_i (ot_ixT rfl)) (ot_mul (c2 (by decide)))) ot_add) (Wd.le.refl _)
theorem d_lag_of (R : Raw K mg "lag_of" LH.s_lag_of)  : Def P w K mg base 1 "lag_of" ["bounds"] (sp_lag_of K) := by
  refine def_mk R sc_lag_of (fun _ _ _ _ _ _ us hl => match us, hl with | [_], _ => rfl) (fun _ => rfl) fun f cdv A outer s H E hr => ⟨_, (pss_one (ps_ret (pe_op op_add (pe_ix ix_tup (pv 0) pe_int (fun _ _ => rfl)) (pe_op op_mul pe_int (pe_ix ix_tup (pv 0) pe_int (fun _ _ => rfl)))))), fun b hb W => ?_⟩
  refine ss_ret (ee_op (ee_op (ee_var rfl) ee_i (ot_ixT rfl)) (ee_op ee_i (ee_op (ee_var rfl) ee_i (ot_ixT rfl)) (ot_mul (c2 (by decide)))) ot_add) (Wd.le.refl _)
theorem d_rho_of (R : Raw K mg "rho_of" LH.s_rho_of) (D_reduced : Def P w K mg base 1 "reduced" ["n", "d"] (sp_reduced K)) (D_lag_of : Def P w K mg base 1 "lag_of" ["bounds"] (sp_lag_of K)) : Def P w K mg base 2 "rho_of" ["bounds", "ticks"] (sp_rho_of K) := by
  refine def_mk R sc_rho_of (fun _ _ _ _ _ _ us hl => match us, hl with | [_, _], _ => rfl) (fun _ => rfl) fun f cdv A outer s H E hr => ⟨_, (pss_one (ps_ret (pe_cd D_reduced hr (by decide) (pa_cons (pe_cd D_lag_of hr (by decide) (pa_cons (pv 0) pa_nil)) (pa_cons (pv 1) pa_nil))))), fun ⟨b, T⟩ ⟨hb, hT⟩ W => ?_⟩
  refine ss_ret (ee_reduced (ee_lag_of (ee_var rfl) hb) (ee_var rfl) ?_) (Wd.le.refl _)
  have h1 := hT.one
  have h2 := hT.hi
  have h3 : T.natAbs < 2 ^ 240 := by
    have e : ((2 ^ 240 : Nat) : Int) = 2 ^ 240 := by norm_cast
    omega
  exact ⟨by show T ≠ 0; omega, Nat.lt_of_lt_of_le h3 (Nat.pow_le_pow_right (by decide) (by decide))⟩
theorem d_nearest_of (B : Blt K mg cN cO cA cW) (R : Raw K mg "nearest_of" LH.s_nearest_of) (D_nearest : Def P w K mg base 6 "nearest" ["leg", "other", "rho"] (sp_nearest K)) (D_compared : Def P w K mg base 1 "compared" ["one", "other"] (sp_compared K)) : Def P w K mg base 7 "nearest_of" ["legs", "rho"] (sp_nearest_of K) := by
  refine def_mk R sc_nearest_of (fun _ _ _ _ _ _ us hl => match us, hl with | [_, _], _ => rfl) (fun _ => rfl) fun f cdv A outer s H E hr => ⟨_, (pss_cons (ps_set (i := 2) sc_nearest_of.nd rfl (.inl rfl) pe_non)
      (pss_cons (ps_for PassesOwn.never rfl (pi_enumT (by rfl) B.enumerate (pa_cons (pv 0) pa_nil)) (pg_tup rfl (pgs_cons (pg_name (i := 3) sc_nearest_of.nd rfl (.inl rfl)) (pgs_cons (pg_name (i := 4) sc_nearest_of.nd rfl (.inl rfl)) pgs_nil)))
      (pss_one (ps_for PassesOwn.never rfl (pi_enumT (by rfl) B.enumerate (pa_cons (pe_slice sl_tupA (pv 0) po_none (po_some (pv 3))) pa_nil)) (pg_tup rfl (pgs_cons (pg_name (i := 5) sc_nearest_of.nd rfl (.inl rfl)) (pgs_cons (pg_name (i := 6) sc_nearest_of.nd rfl (.inl rfl)) pgs_nil)))
      (pss_cons (ps_asg (pe_cd D_nearest hr (by decide) (pa_cons (pv 6) (pa_cons (pv 4) (pa_cons (pv 1) pa_nil)))) (pg_tup rfl (pgs_cons (pg_name (i := 7) sc_nearest_of.nd rfl (.inl rfl)) (pgs_cons (pg_name (i := 8) sc_nearest_of.nd rfl (.inl rfl)) (pgs_cons (pg_name (i := 9) sc_nearest_of.nd rfl (.inl rfl)) pgs_nil)))))
      (pss_cons (ps_set (i := 10) sc_nearest_of.nd rfl (.inl rfl) (pe_or (pe_cmpR op_isN (pv 2) pe_non (nomark _)) (pe_one (pe_cmpR op_lt (pe_cd D_compared hr (by decide) (pa_cons (pv 7) (pa_cons (pe_ix ix_tup (pv 2) pe_int (fun _ _ => rfl)) pa_nil))) pe_int (nomark _)))))
      (pss_one (ps_if (PW.pt (pw_or (pt_val (pv 10)) (pw_or1 (PW.pt (pw_and (pt_cmpR op_eq (pe_cd D_compared hr (by decide) (pa_cons (pv 7) (pa_cons (pe_ix ix_tup (pv 2) pe_int (fun _ _ => rfl)) pa_nil))) pe_int (nomark _)) (pw_and1 (pt_cmpR (op_ltT hr.units0) (pe_tup (pa_cons (pv 5) (pa_cons (pv 3) pa_nil))) (pe_slice sl_tupA (pv 2) (po_some pe_int) (po_some pe_int)) (nomark _)))))))) (pss_one (ps_set (i := 2) sc_nearest_of.nd rfl (.inl rfl) (pe_tup (pa_cons (pv 7) (pa_cons (pv 5) (pa_cons (pv 3) (pa_cons (pv 8) (pa_cons (pv 9) pa_nil)))))))) pss_nil)))))))
      (pss_one (ps_ret (pv 2))))), fun ⟨ls, r⟩ ⟨hl, hr0, hr1⟩ W => ?_⟩
  show SS _ [some (yLs K ls), some (yF K r), none, none, none, none, none, none, none, none, none] W _ W (yNo K ls r)
  refine ss_asg ee_n ?_
  show SS _ [some (yLs K ls), some (yF K r), some yN, none, none, none, none, none, none, none, none] W _ W (yNo K ls r)
  have hn : (ls.map (yG K)).length = ls.length := List.length_map _
  refine ss_for (α := Option NoR) (EI.congr (Y' := fun i => yT K [yI (i : Int), yG K (Lg ls i)]) (ei_enT (ea_cons (ee_var rfl) ea_nil)) (fun i hi => by rw [map_getD (d := d0) (by rw [← hn]; exact hi)]; rfl)) (fun j o => NoInv ls r j 0 o) (fun o => [some (yLs K ls), some (yF K r), some (noT K o), none, none, none, none, none, none, none, none]) (fun _ => W)
    (fun j o => [some (yLs K ls), some (yF K r), some (noT K o), some (yI (j : Int)), some (yG K (Lg ls j)), none, none, none, none, none, none]) none (fun i' j' k => by have := seen_all.mp k; omega) (fun σ G H o w => ⟨o, w⟩) (fun i o hi hp => gt_tup (gts_cons gt_name (gts_cons gt_name gts_nil)) rfl) (fun j o hj hp => ?_) (fun o hp => ?_)
  · rw [hn] at hj
    have hc : cutT (ls.map (yG K)) none (some (j : Int)) = (ls.map (yG K)).take j := cut_to (by rw [hn]; omega)
    have hcl : ((ls.map (yG K)).take j).length = j := by rw [List.length_take, hn]; omega
    refine ss_last (ss_for (α := Option NoR) (EI.congr (Y' := fun i => yT K [yI (i : Int), yG K (Lg ls i)]) (ei_enT (Rs := (ls.map (yG K)).take j) (ea_cons (ee_eq (ee_slT (ee_var rfl) eo_none (eo_some (ee_var rfl))) (congrArg (yT K) hc)) ea_nil)) (fun i hi => by rw [tk_getD (d := d0) (show i < j by omega) (by omega)]; rfl)) (fun i o => NoInv ls r j i o)
      (fun o => [some (yLs K ls), some (yF K r), some (noT K o), some (yI (j : Int)), some (yG K (Lg ls j)), none, none, none, none, none, none]) (fun _ => W)
      (fun i o => [some (yLs K ls), some (yF K r), some (noT K o), some (yI (j : Int)), some (yG K (Lg ls j)), some (yI (i : Int)), some (yG K (Lg ls i)), none, none, none, none]) o hp (fun σ G H o w => ⟨o, w⟩) (fun i o hi hp => gt_tup (gts_cons gt_name (gts_cons gt_name gts_nil)) rfl) (fun i o hi hp => ?_) (fun o hp => ?_))
    · have hi : i < j := by omega
      refine ss_setW (js := [7, 8, 9]) (Γ1 := fun g => [some (yLs K ls), some (yF K r), some (noT K o), some (yI (j : Int)), some (yG K (Lg ls j)), some (yI (i : Int)), some (yG K (Lg ls i)), some (yF K g.1), some (yF K g.2.1), some (yF K g.2.2), none]) (ee_nearest (ee_var rfl) (ee_var rfl) (ee_var rfl) ⟨hl.at (Nat.lt_trans hi hj), hl.at hj, hr0, hr1⟩)
        (fun g _ => gt_tup (gts_cons gt_name (gts_cons gt_name (gts_cons gt_name gts_nil))) rfl) (fun ⟨q, s, t⟩ hq => ?_)
      have hq : NearOk (Lg ls i) (Lg ls j) r q := hq
      cases o with
      | none =>
        refine ss_asg (R := yB true) (ee_or (b := true) (ee_op (ee_var rfl) ee_n (ot_isN yN_is)) (fun z => nomatch z)) ?_
        show SS _ [some (yLs K ls), some (yF K r), some yN, some (yI (j : Int)), some (yG K (Lg ls j)), some (yI (i : Int)), some (yG K (Lg ls i)), some (yF K q), some (yF K s), some (yF K t), some (yB true)] _ _ W (yNo K ls r)
        refine ss_last (ss_if (b := true) (et_or (a := true) (b := true) (et_B (ee_var rfl)) (fun z => nomatch z)) (fun _ => ?_) (fun z => nomatch z))
        refine ss_asg (ee_tup (ea_cons (ee_var rfl) (ea_cons (ee_var rfl) (ea_cons (ee_var rfl) (ea_cons (ee_var rfl) (ea_cons (ee_var rfl) ea_nil))))) (lle rfl)) (ss_next fun σ G H o s' w => ⟨some (q, (i : Int), (j : Int), s, t), no_new hi hj hp hq (fun x e => nomatch e), ((((((o.forget 5).forget 6).forget 7).forget 8).forget 9).forget 10), w⟩)
      | some x =>
        obtain ⟨q0, a0, b0, s0, t0⟩ := x
        refine ss_asg (R := yB (false || decide (cmp q q0 < 0))) (ee_or (ee_op (ee_var rfl) ee_n (ot_isN yT_not)) (fun z => ee_op (ee_compared (ee_var rfl) (ee_op (ee_var rfl) ee_i (ot_ixT rfl)) ⟨hq.sz, hp.1⟩) ee_i ot_lt)) ?_
        show SS _ [some (yLs K ls), some (yF K r), some (yT K [yF K q0, yI a0, yI b0, yF K s0, yF K t0]), some (yI (j : Int)), some (yG K (Lg ls j)), some (yI (i : Int)), some (yG K (Lg ls i)), some (yF K q), some (yF K s), some (yF K t), some (yB (decide (cmp q q0 < 0)))] _ _ W (yNo K ls r)
        refine ss_last (ss_if (b := decide (cmp q q0 < 0) || (decide (cmp q q0 = 0) && HT.lexLt [(i : Int), (j : Int)] [a0, b0])) (et_or (et_B (ee_var rfl)) (fun z => et_and (et_test (ee_op (ee_compared (ee_var rfl) (ee_op (ee_var rfl) ee_i (ot_ixT rfl)) ⟨hq.sz, hp.1⟩) ee_i ot_eqI)) (fun z2 => et_test (ee_op (ee_tup (ea_cons (ee_var rfl) (ea_cons (ee_var rfl) ea_nil)) (lle rfl)) (ee_slT (ee_var rfl) (eo_some ee_i) (eo_some ee_i)) ot_ltT)))) (fun hb => ?_) (fun hb => ?_))
        · have hle : q ≤ q0 := by
            rcases Bool.or_eq_true_iff.mp hb with z | z
            · have := cmp_lt.mp (of_decide_eq_true z)
              grind
            · rw [cmp_eq.mp (of_decide_eq_true (Bool.and_eq_true_iff.mp z).1)]
              exact Rat.le_refl
          refine ss_asg (ee_tup (ea_cons (ee_var rfl) (ea_cons (ee_var rfl) (ea_cons (ee_var rfl) (ea_cons (ee_var rfl) (ea_cons (ee_var rfl) ea_nil))))) (lle rfl)) (ss_next fun σ G H o s' w => ⟨some (q, (i : Int), (j : Int), s, t), no_new hi hj hp hq (fun x e => ?_), ((((((o.forget 5).forget 6).forget 7).forget 8).forget 9).forget 10), w⟩)
          cases e
          exact hle
        · have hge : q0 ≤ q := by
            have z := (Bool.or_eq_false_iff.mp hb).1
            exact cmp_ge.mp (by have := of_decide_eq_false z; omega)
          exact ss_skip (ss_next fun σ G H o s' w => ⟨some (q0, a0, b0, s0, t0), no_old hi hp hq hge, ((((((o.forget 5).forget 6).forget 7).forget 8).forget 9).forget 10), w⟩)
    · rw [hcl] at hp
      exact ss_next fun σ G H o' s' w => ⟨o, no_next hp, (o'.forget 3).forget 4, w⟩
  · rw [hn] at hp
    exact ss_ret (EE.sub (ee_var rfl) fun v H hv => ⟨o, hp, hv⟩) (Wd.le.refl _)
theorem d_are_apart (B : Blt K mg cN cO cA cW) (R : Raw K mg "are_apart" LH.s_are_apart) (D_nearest_of : Def P w K mg base 7 "nearest_of" ["legs", "rho"] (sp_nearest_of K)) (D_compared : Def P w K mg base 1 "compared" ["one", "other"] (sp_compared K)) : Def P w K mg base 8 "are_apart" ["legs", "rho", "r"] (sp_are_apart K) := by
  refine def_mk R sc_are_apart (fun _ _ _ _ _ _ us hl => match us, hl with | [_, _, _], _ => rfl) (fun _ => rfl) fun f cdv A outer s H E hr => ⟨_, (pss_cons (ps_set (i := 3) sc_are_apart.nd rfl (.inl rfl) (pe_cd D_nearest_of hr (by decide) (pa_cons (pv 0) (pa_cons (pv 1) pa_nil))))
      (pss_one (ps_ret (pe_or (pe_cmpR op_isN (pv 3) pe_non (nomark _)) (pe_one (pe_cmpR op_ge (pe_cd D_compared hr (by decide) (pa_cons (pe_ix ix_tup (pv 3) pe_int (fun _ _ => rfl)) (pa_cons (pe_tup (pa_cons (pe_op op_mul (pv 2) (pv 2)) (pa_cons pe_int pa_nil))) pa_nil))) pe_int (nomark _))))))), fun ⟨ls, r, R'⟩ ⟨hl, hr0, hR⟩ W => ?_⟩
  refine ss_asg (ee_nearest_of (ee_var rfl) (ee_var rfl) ⟨hl, hr0⟩) ?_
  refine ss_openE (i := 3) rfl fun o => ss_openW (i := 3) rfl fun ho => ?_
  show SS _ [some (yLs K ls), some (yF K r), some (yI R'), some (noT K o)] W _ W (yB (pB (Apart ls r R')))
  cases o with
  | none =>
    refine ss_ret (ee_eq (ee_or (a := true) (b := true) (ee_op (ee_var rfl) ee_n (ot_isN yN_is)) (fun z => nomatch z)) (congrArg yB (pB_of ⟨fun _ i j hij hj => absurd (seen_all.mpr ⟨hij, hj⟩) (ho i j), fun _ => rfl⟩))) (Wd.le.refl _)
  | some x =>
    obtain ⟨q, a, b, s', t⟩ := x
    refine ss_ret (ee_eq (ee_or (ee_op (ee_var rfl) ee_n (ot_isN yT_not)) (fun z => ee_op (ee_compared (ee_op (ee_var rfl) ee_i (ot_ixT rfl)) (ee_fr (ee_op (ee_var rfl) (ee_var rfl) (ot_mul (c600 hR)))) ⟨ho.1, sz600 hR⟩) ee_i ot_ge)) (congrArg yB (pB_of ?_))) (Wd.le.refl _)
    rw [Bool.false_or, decide_eq_true_eq]
    exact no_apart ho
theorem d_is_flight_apart (R : Raw K mg "is_flight_apart" LH.s_is_flight_apart) (D_are_apart : Def P w K mg base 8 "are_apart" ["legs", "rho", "r"] (sp_are_apart K)) (D_rho_of : Def P w K mg base 2 "rho_of" ["bounds", "ticks"] (sp_rho_of K)) (D_r_of : Def P w K mg base 1 "r_of" ["bounds"] (sp_r_of K)) : Def P w K mg base 9 "is_flight_apart" ["bounds", "ticks", "legs"] (sp_is_flight_apart K) := by
  refine def_mk R sc_is_flight_apart (fun _ _ _ _ _ _ us hl => match us, hl with | [_, _, _], _ => rfl) (fun _ => rfl) fun f cdv A outer s H E hr => ⟨_, (pss_one (ps_ret (pe_cd D_are_apart hr (by decide) (pa_cons (pv 2) (pa_cons (pe_cd D_rho_of hr (by decide) (pa_cons (pv 0) (pa_cons (pv 1) pa_nil))) (pa_cons (pe_cd D_r_of hr (by decide) (pa_cons (pv 0) pa_nil)) pa_nil)))))), fun ⟨b, T, ls⟩ ⟨hb, hT, hl⟩ W => ?_⟩
  exact ss_ret (ee_are_apart (ee_var rfl) (ee_rho_of (ee_var rfl) (ee_var rfl) ⟨hb, hT⟩) (ee_r_of (ee_var rfl) hb) ⟨hl, rho_in hb hT, hb.R⟩) (Wd.le.refl _)
end
end LT
end
section
set_option Elab.async false
set_option linter.all false
set_option maxRecDepth 100000
set_option maxHeartbeats 1000000
set_option exponentiation.threshold 20000
namespace LT
open PySem PySem.Spec PyProof.Rows L2 LL LE
abbrev N_are_ever_apart : List Str := ["leg", "other", "r", "lag", "told"]
theorem sc_are_ever_apart : FnScope N_are_ever_apart ["leg", "other", "r", "lag"] (defScope LH.s_are_ever_apart) := ⟨rfl, rfl, rfl, by decide +kernel, rfl, by decide +kernel, by decide +kernel⟩
abbrev N_has_ticks : List Str := ["bounds", "legs", "r", "lag", "at", "leg", "other"]
theorem sc_has_ticks : FnScope N_has_ticks ["bounds", "legs"] (defScope LH.s_has_ticks) := ⟨rfl, rfl, rfl, by decide +kernel, rfl, by decide +kernel, by decide +kernel⟩
section
variable {P : Program} {w : World} {K : PySem.W.Frag} {mg : Str → Option Value} {base : Heap} {cN cO cA cW : Addr}
theorem d_are_ever_apart (B : Blt K mg cN cO cA cW) (R : Raw K mg "are_ever_apart" LH.s_are_ever_apart) (D_compared : Def P w K mg base 1 "compared" ["one", "other"] (sp_compared K)) (D_nearest : Def P w K mg base 6 "nearest" ["leg", "other", "rho"] (sp_nearest K)) : Def P w K mg base 7 "are_ever_apart" ["leg", "other", "r", "lag"] (sp_are_ever_apart K) := by
  refine def_mk R sc_are_ever_apart (fun _ _ _ _ _ _ us hl => match us, hl with | [_, _, _, _], _ => rfl) (fun _ => rfl) fun f cdv A outer s H E hr => ⟨_, (pss_cons (ps_set (i := 4) sc_are_ever_apart.nd rfl (.inl rfl) (pe_cd D_compared hr (by decide) (pa_cons (pe_ix ix_tup (pe_cd D_nearest hr (by decide) (pa_cons (pv 0) (pa_cons (pv 1) (pa_cons (pe_glob (v := .ref _) rfl B.gALIKE rfl) pa_nil)))) pe_int (fun _ _ => rfl)) (pa_cons (pe_tup (pa_cons (pe_op op_mul (pv 2) (pv 2)) (pa_cons pe_int pa_nil))) pa_nil))))
      (pss_one (ps_ret (pe_or (pe_cmpR op_gt (pv 4) pe_int (nomark _)) (pe_one (pe_and (pe_cmpR op_eq (pv 4) pe_int (nomark _)) (pe_one (pe_or (pe_cmpR op_eq (pv 3) pe_int (nomark _)) (pe_one (pe_cmpR op_eq (pe_cd D_compared hr (by decide) (pa_cons (pe_ix ix_tup (pe_cd D_nearest hr (by decide) (pa_cons (pv 0) (pa_cons (pv 1) (pa_cons (pe_glob (v := .ref _) rfl B.gWHOLE rfl) pa_nil)))) pe_int (fun _ _ => rfl)) (pa_cons (pe_tup (pa_cons (pe_op op_mul (pv 2) (pv 2)) (pa_cons pe_int pa_nil))) pa_nil))) pe_int (nomark _))))))))))), fun ⟨a, b, n, m⟩ ⟨la, lb, hn⟩ W => ?_⟩
  refine ss_asg (R := yE fun g : Rat => yW (NearOk a b 0 g) (yI (cmp g ((n * n : Int) : Rat)))) (ee_callE (Rs := [yE fun g : Rat × Rat × Rat => yW (NearOk a b 0 g.1) (yF K g.1), yF K ((n * n : Int) : Rat)])
    (ea_cons (ee_op (ee_nearest (ee_var rfl) (ee_var rfl) (ee_c B.tALIKE) ⟨la, lb, ⟨by decide, by decide⟩, by decide⟩) ee_i (ot_ixE (i := 0) fun _ => rfl)) (ea_cons (ee_fr (ee_op (ee_var rfl) (ee_var rfl) (ot_mul (c600 hn)))) ea_nil)) (cmp_near hn)) ?_
  refine ss_openE (i := 4) rfl fun m0 => ss_openW (i := 4) rfl fun h0 => ?_
  show SS _ [some (yG K a), some (yG K b), some (yI n), some (yI m), some (yI (cmp m0 ((n * n : Int) : Rat)))] W _ W (yB (pB (Ev a b n m)))
  refine ss_ret (ee_eq (ee_or (ee_op (ee_var rfl) ee_i ot_gt) (fun h => ee_and (ee_op (ee_var rfl) ee_i ot_eqI) (fun h => ee_or (ee_op (ee_var rfl) ee_i ot_eqI) (fun h => EE.sub (S := yB (pB (∀ m1, IsMin a b 1 m1 → m1 = ((n * n : Int) : Rat)))) (ee_op (ee_callE (R := yE fun g : Rat => yW (NearOk a b 1 g) (yI (cmp g ((n * n : Int) : Rat)))) (Rs := [yE fun g : Rat × Rat × Rat => yW (NearOk a b 1 g.1) (yF K g.1), yF K ((n * n : Int) : Rat)])
    (ea_cons (ee_op (ee_nearest (ee_var rfl) (ee_var rfl) (ee_c B.tWHOLE) ⟨la, lb, ⟨by decide, by decide⟩, by decide⟩) ee_i (ot_ixE (i := 0) fun _ => rfl)) (ea_cons (ee_fr (ee_op (ee_var rfl) (ee_var rfl) (ot_mul (c600 hn)))) ea_nil)) (cmp_near hn)) ee_i (ot_E (F := fun g : Rat => yI (cmp g ((n * n : Int) : Rat))) fun g => ot_eqI)) ?sub)))) (congrArg yB (pB_of ?fin))) (Wd.le.refl _)
  case sub =>
    intro v H ⟨g, hg, hv⟩
    have e : decide (cmp g ((n * n : Int) : Rat) = 0) = pB (∀ m1, IsMin a b 1 m1 → m1 = ((n * n : Int) : Rat)) := pB_of (by
      rw [decide_eq_true_eq, cmp_eq]
      exact ⟨fun z m1 k => by rw [← z]; exact k.uniq hg.min, fun z => z g hg.min⟩)
    rw [← e]
    exact hv
  case fin =>
    rw [Bool.or_eq_true, Bool.and_eq_true, Bool.or_eq_true, decide_eq_true_eq, decide_eq_true_eq, decide_eq_true_eq, cmp_gt, cmp_eq, pB_iff]
    constructor
    · intro z k hk
      have e := hk.uniq h0.min
      rw [e]
      rcases z with z | ⟨z1, z2⟩
      · exact ⟨by grind, fun e2 => by grind⟩
      · refine ⟨by grind, fun _ hm m1 k1 => ?_⟩
        rcases z2 with z2 | z2
        · exact absurd z2 hm
        · exact z2 m1 k1
    · intro z
      obtain ⟨z1, z2⟩ := z m0 h0.min
      by_cases e : m0 = ((n * n : Int) : Rat)
      · refine .inr ⟨e, ?_⟩
        by_cases hm : m = 0
        · exact .inl hm
        · exact .inr (z2 e hm)
      · exact .inl (by grind)
theorem ev_iff {b : Bd} {ls : List Leg} : (∀ i, i < ls.length → ∀ j, j < i → Ev (Lg ls i) (Lg ls j) b.R b.lag) ↔ EvAll b ls :=
  ⟨fun h i j hij hj => Ev.sym (h j hj i hij), fun h i hi j hj => Ev.sym (h j i hj hi)⟩
def bs2 (n : Nat) (f : Nat → Nat → Bool) : List Bool := ((List.range n).map fun i => (List.range i).map (f i)).flatten
theorem bs2_all {n : Nat} {f : Nat → Nat → Bool} : (bs2 n f).all id = true ↔ ∀ i, i < n → ∀ j, j < i → f i j = true := by
  unfold bs2
  simp only [List.all_eq_true, List.mem_flatten, List.mem_map, List.mem_range, id]
  constructor
  · intro h i hi j hj
    exact h _ ⟨_, ⟨i, hi, rfl⟩, List.mem_map.mpr ⟨j, List.mem_range.mpr hj, rfl⟩⟩
  · rintro h x ⟨l, ⟨i, hi, rfl⟩, hx⟩
    obtain ⟨j, hj, rfl⟩ := List.mem_map.mp hx
    exact h i hi j (List.mem_range.mp hj)
theorem made2_B {n : Nat} {f : Nat → Nat → Bool} : made2 n (fun i => i) (fun i j => yB (f i j)) = (bs2 n f).map yB := by
  unfold made2 bs2
  rw [List.map_flatten, List.map_map]
  congr 1
  refine List.map_congr_left fun i _ => ?_
  show _ = ((List.range i).map (f i)).map yB
  rw [List.map_map]
  rfl
theorem made2_len {n : Nat} {F : Nat → Nat → Ty} : ∀ k, k ≤ n → (made2 k (fun i => i) F).length ≤ k * n := by
  intro k
  induction k with
  | zero => intro _; exact Nat.le_of_eq (by simp [made2])
  | succ k ih =>
    intro h
    rw [made2_succ, List.length_append, List.length_map, List.length_range, Nat.succ_mul]
    have := ih (by omega)
    omega
theorem d_has_ticks (B : Blt K mg cN cO cA cW) (R : Raw K mg "has_ticks" LH.s_has_ticks) (D_r_of : Def P w K mg base 1 "r_of" ["bounds"] (sp_r_of K)) (D_lag_of : Def P w K mg base 1 "lag_of" ["bounds"] (sp_lag_of K)) (D_are_ever_apart : Def P w K mg base 7 "are_ever_apart" ["leg", "other", "r", "lag"] (sp_are_ever_apart K)) : Def P w K mg base 8 "has_ticks" ["bounds", "legs"] (sp_has_ticks K) := by
  refine def_mk R sc_has_ticks (fun _ _ _ _ _ _ us hl => match us, hl with | [_, _], _ => rfl) (fun _ => rfl) fun f cdv A outer s H E hr => ⟨_, (pss_cons (ps_asg (pe_tup (pa_cons (pe_cd D_r_of hr (by decide) (pa_cons (pv 0) pa_nil)) (pa_cons (pe_cd D_lag_of hr (by decide) (pa_cons (pv 0) pa_nil)) pa_nil))) (pg_tup rfl (pgs_cons (pg_name (i := 2) sc_has_ticks.nd rfl (.inr rfl)) (pgs_cons (pg_name (i := 3) sc_has_ticks.nd rfl (.inr rfl)) pgs_nil))))
      (pss_one (ps_ret (pe_callB (cr_all rfl) rfl B.all (by decide +kernel) (pa_cons (pe_lc2 (own := [("at", 4), ("leg", 5), ("other", 6)]) (vs1 := [6]) (g := gTup K 2 (gCons (gName 4) (gCons (gName 5) gNil))) (g1 := gName 6) (tt := tYes) (tt1 := tYes) (wi1 := iTup K (tSl (rSlA K) (tVar 1) tNoPart (tPart (tVar 4)))) (te := tCall (sp_are_ever_apart K) [] E0 (tCons (tVar 5) (tCons (tVar 6) (tCons (tVar 2) (tCons (tVar 3) tNil)))))
        rfl sc_has_ticks.nd (pi_enumT (by rfl) B.enumerate (pa_cons (pv 1) pa_nil)) (blkOk_by (N := N_has_ticks) (sc := defScope LH.s_has_ticks) (by decide +kernel)) (by decide)
        (fun _ _ _ _ _ => (pg_tup rfl (pgs_cons (pg_name (i := 4) sc_has_ticks.nd rfl (.inl rfl)) (pgs_cons (pg_name (i := 5) sc_has_ticks.nd rfl (.inl rfl)) pgs_nil)))) (fun _ _ _ _ _ => pts_nil) (fun _ _ _ _ _ => pi_tup (pe_slice sl_tupA (pv 1) po_none (po_some (pv 4)))) (fun _ _ _ _ _ => pg_name (i := 6) sc_has_ticks.nd rfl (.inl rfl)) (fun _ _ _ _ _ => pts_nil)
        (fun _ _ _ _ _ => pe_cd D_are_ever_apart hr (by decide) (pa_cons (pv 5) (pa_cons (pv 6) (pa_cons (pv 2) (pa_cons (pv 3) pa_nil)))))) pa_nil))))), fun ⟨b, ls⟩ ⟨hb, hl⟩ W => ?_⟩
  refine ss_set (ee_tup (ea_cons (ee_r_of (ee_var rfl) hb) (ea_cons (ee_lag_of (ee_var rfl) hb) ea_nil)) (lle rfl)) (gt_tup (gts_cons gt_name (gts_cons gt_name gts_nil)) rfl) ?_
  show SS _ [some (yBd K b), some (yLs K ls), some (yI b.R), some (yI b.lag), none, none, none] W _ W (yB (pB (EvAll b ls)))
  have hn : (ls.map (yG K)).length = ls.length := List.length_map _
  have hl1 := hl.len
  refine ss_ret (ee_eq (ee_cb (ea_cons (ee_eq (ee_lc2 (js := [4, 5]) (js1 := [6]) (m := fun i => i) (F := fun i j => yB (pB (Ev (Lg ls i) (Lg ls j) b.R b.lag)))
    (fun i => [some (yBd K b), some (yLs K ls), some (yI b.R), some (yI b.lag), some (yI (i : Int)), some (yG K (Lg ls i)), none]) (fun i j => [some (yBd K b), some (yLs K ls), some (yI b.R), some (yI b.lag), some (yI (i : Int)), some (yG K (Lg ls i)), some (yG K (Lg ls j))])
    (EI.congr (Y' := fun i => yT K [yI (i : Int), yG K (Lg ls i)]) (ei_enT (ea_cons (ee_var rfl) ea_nil)) (fun i hi => by rw [map_getD (d := d0) (by rw [← hn]; exact hi)]; rfl)) (fun i hi => ?hz) (fun i hi => gt_tup (gts_cons gt_name (gts_cons gt_name gts_nil)) rfl) (by decide)
    (fun i W' hi => ?inner) (fun i j hi hj => gt_name) (by decide) (fun i j W' hi hj => ?body)) (congrArg yL made2_B)) ea_nil) ct_all) (congrArg yB (pB_of ?fin))) (Wd.le.refl _)
  case hz =>
    have hi : i ≤ ls.length := by rw [List.length_map] at hi; exact hi
    have h1 := made2_len (F := fun i j => yB (pB (Ev (Lg ls i) (Lg ls j) b.R b.lag))) (n := ls.length) i hi
    have hl2 : ls.length ≤ 300 := hl1
    have h2 : i * ls.length ≤ 300 * 300 := Nat.mul_le_mul (by omega) hl2
    show _ + i ≤ 100000
    omega
  case inner =>
    have hi : i < ls.length := by rw [List.length_map] at hi; exact hi
    have hc : cutT (ls.map (yG K)) none (some (i : Int)) = (ls.map (yG K)).take i := cut_to (by rw [hn]; omega)
    have hcl : ((ls.map (yG K)).take i).length = i := by rw [List.length_take, hn]; omega
    have q := EI.congr (Y' := fun j => yG K (Lg ls j)) (ei_tup (W := W') (Rs := (ls.map (yG K)).take i) (ee_eq (ee_slT (Rs := ls.map (yG K)) (ee_var (i := 1) (Γ := [some (yBd K b), some (yLs K ls), some (yI b.R), some (yI b.lag), some (yI (i : Int)), some (yG K (Lg ls i)), none]) rfl) eo_none (eo_some (ee_var (i := 4) (R := yI (i : Int)) rfl))) (congrArg (yT K) hc))) (fun j hj => by
      rw [hcl] at hj
      rw [tk_getD (d := d0) hj (by omega)])
    rw [hcl] at q
    exact q
  case body =>
    have hi : i < ls.length := by rw [List.length_map] at hi; exact hi
    have hj : j < i := hj
    exact ee_are_ever_apart (ee_var rfl) (ee_var rfl) (ee_var rfl) (ee_var rfl) ⟨hl.at (show i < ls.length by omega), hl.at (show j < ls.length by omega), hb.R⟩
  case fin =>
    rw [bs2_all, hn]
    rw [← ev_iff]
    exact ⟨fun z i hi j hj => pB_iff.mp (z i hi j hj), fun z i hi j hj => pB_iff.mpr (z i hi j hj)⟩
end
end LT
end
section
set_option Elab.async false
set_option linter.all false
set_option maxRecDepth 100000
set_option maxHeartbeats 1000000
namespace LT
open PySem PySem.Spec PyProof.Rows L2 LL LB
section
variable {Γ Γ' : Tys} {W W0 W' : Wd} {R S Ra Rb : Ty} {Rs : List Ty} {te ta tb tc td : TE} {t : TA} {K : PySem.W.Frag} {N : Nx} {u tu tw tz : TS} {P c' f : Addr} {q : Str}
/-- a world in which the table at P stands and may grow -/
structure IsTab (P : Addr) (q : Str) (W : Wd) : Prop where
  ok : ∀ G H, W.r G H → G P = none ∧ TabG P q G H
  ts : ∀ G H G2 H2, W.r G H → TS P q G H G2 H2 → W.r G2 H2
def wTS (P : Addr) (q : Str) (G0 H0 : Hp) (g0 : G0 P = none) (k0 : TabG P q G0 H0) : Wd where
  r := fun G H => TS P q G0 H0 G H
  ign := fun p => H0 p = none
  pure := fun _ _ _ _ _ a b => a.gs b
  fresh := fun G H p a h => by
    cases e : H0 p with
    | none => rfl
    | some o =>
      by_cases n : p = P
      · exact absurd (by rw [← n]; exact h) a.ok.some
      · rw [a.h p o n e] at h
        cases h
  chg := fun G H p o a hp hg => ⟨a.g, fun b x n e => by
    rw [upd_ne (ne_of_none e hp)]
    exact a.h b x n e, fun b x e => by
    rw [upd_ne (ne_of_none e hg)]
    exact a.sub b x e, a.fr, a.ok.keep (Same.refl _) (upd_ne fun z => k0.some (by rw [z]; exact hp))⟩
  grow := fun G H p o a hp hh hg => ⟨a.g.trans (same_new hg), a.h, fun b x e => by
    by_cases hb : b = p
    · subst hb
      rw [upd_same] at e
      rw [hh]
      exact e
    · rw [upd_ne hb] at e
      exact a.sub b x e, fun b h1 h2 => by
    have : b ≠ p := fun z => h1 (by rw [z]; exact hp)
    rw [upd_ne this]
    exact a.fr b h1 h2, a.ok.same (same_new hg) (Same.refl _)⟩
theorem isTab_wTS {G0 H0 : Hp} (g0 : G0 P = none) (k0 : TabG P q G0 H0) : IsTab P q (wTS P q G0 H0 g0 k0) := ⟨fun G H a => ⟨a.fr P k0.some g0, a.ok⟩, fun _ _ _ _ a b => a.trans b⟩
def spT {γ : Type} (P : Addr) (q : Str) (args : γ → List Ty) (pre : γ → Prop) (out : γ → Ty) : Sp := fun vs H Q _ => ∃ g G, pre g ∧ Same G H ∧ G P = none ∧ TabG P q G H ∧ AllR (args g) vs G ∧ ∀ v G2 H2, TS P q G H G2 H2 → (out g).r v G2 → Q v H2
theorem ee_callT {γ : Type} {args : γ → List Ty} {pre : γ → Prop} {out : γ → Ty} {E : XK} (T : IsTab P q W) (g : γ) (ha : EA t Γ W (args g)) (hp : pre g) : EE (tCall (spT P q args pre out) [] E t) Γ W (out g) := fun σ G H o s w Q k =>
  ha σ G H o s w _ fun vs G1 H1 g1 s1 w1 r1 => ⟨g, G1, hp, s1, (T.ok _ _ w1).1, (T.ok _ _ w1).2, by rw [List.append_nil]; exact r1, fun v G2 H2 gs r => k v G2 H2 (g1.trans gs.g) gs.sub (T.ts _ _ _ _ w1 gs) r⟩
theorem OkS.snoc : ∀ {Γ : Tys} {σ : L2.St} {H : Hp} {R : Ty} {v : V}, OkS Γ σ H → R.r v H → OkS (Γ ++ [some R]) (σ ++ [some v]) H
  | [], [], _, _, v, _, r => ⟨⟨v, rfl, r⟩, trivial⟩
  | none :: Γ, _ :: σ, _, _, _, h, r => OkS.snoc (Γ := Γ) (σ := σ) h r
  | some _ :: Γ, _ :: σ, _, _, _, h, r => ⟨h.1, OkS.snoc (Γ := Γ) (σ := σ) h.2 r⟩
  | [], _ :: _, _, _, _, h, _ => h.elim
  | none :: _, [], _, _, _, h, _ => h.elim
  | some _ :: _, [], _, _, _, h, _ => h.elim
/-- what first_that wants and gives: p holds from some time on -/
structure FirstP (p : Int → Bool) (b : Int) : Prop where
  b1 : 1 ≤ b
  b2 : b ≤ 1000
  big : p TBIG = true
  up : ∀ t t', b ≤ t → t ≤ t' → t < 2 ^ 240 → p t = true → p t' = true
structure LeastP (p : Int → Bool) (b r : Int) : Prop where
  ge : b ≤ r
  lt : r < 2 ^ 200
  at_ : p r = true
  no : ∀ t, b ≤ t → t < r → p t = false
def TTf (q : Str) : V → Addr → (V → Hp → VK → Prop) → Hp → VK → Prop := fun v c' tl H Q => ∃ (G : Hp) (p : Int → Bool) (b : Int), v = .int b ∧ Same G H ∧ G c' = some (LamX.CodeO c' q) ∧ FirstP p b ∧
  (∀ x G1 H1 Q1, GS G H G1 H1 → b ≤ x → x < 2 ^ 240 → (∀ v G2 H2, GS G1 H1 G2 H2 → v = .bl (p x) → Q1 v H2) → tl (.int x) H1 Q1) ∧ ∀ r G2 H2, GS G H G2 H2 → LeastP p b r → Q (.int r) H2
theorem ee_lam {p : Int → Bool} {b : Int} {tb t' : TE} (T : IsTab P q W) (hb : EE tb Γ W (yI b)) (hf : FirstP p b) (hl : ∀ x W', b ≤ x → x < 2 ^ 240 → EE t' (Γ ++ [some (yI x)]) W' (yB (p x))) : EE (tLam2 P q tb (TTf q) t') Γ W (yE fun r : Int => yW (LeastP p b r) (yI r)) := fun σ G H o s w Q k => by
  obtain ⟨gP, tG⟩ := T.ok _ _ w
  refine ⟨G, s, gP, tG, fun c' G1 H1 ts hc => ?_⟩
  refine hb σ G1 H1 (o.mono ts.g) ts.sub (T.ts _ _ _ _ w ts) _ fun v G2 H2 g2 s2 w2 r2 => ?_
  refine ⟨G2, p, b, r2, s2, g2 _ _ hc, hf, fun x G3 H3 Q1 gs hx hx2 q1 => ?_, fun r G3 H3 gs hr => k _ G3 H3 ((ts.g.trans g2).trans gs.g) gs.sub (W.pure _ _ _ _ s2 w2 gs) ⟨r, hr, rfl⟩⟩
  exact hl x (wP G3 H3) hx hx2 (σ ++ [some (.int x)]) G3 H3 (OkS.snoc (R := yI x) (v := .int x) (o.mono ((ts.g.trans g2).trans gs.g)) rfl) gs.sub (GS.refl gs.sub) Q1 fun v G4 H4 _ _ w4 r4 => q1 v G4 H4 w4 r4
theorem ee_tells {G H : Hp} {tl : V → Hp → VK → Prop} {p : Int → Bool} {b i : Int} (h0 : Γ[0]? = some (some (yAt f))) (hc : G c' = some (LamX.CodeO c' q)) (hp : ∀ x G1 H1 Q1, GS G H G1 H1 → b ≤ x → x < 2 ^ 240 → (∀ v G2 H2, GS G1 H1 G2 H2 → v = .bl (p x) → Q1 v H2) → tl (.int x) H1 Q1)
    (h : EE te Γ (wP G H) (yI i)) (hb : b ≤ i) (hi : i < 2 ^ 240) : EE (fun σZ HZ Q => σZ[0]? = some (some (.ref f)) ∧ te σZ HZ fun v H1 => H1 c' = some (LamX.CodeO c' q) ∧ tl v H1 Q) Γ (wP G H) (yB (p i)) := fun σ G1 H1 o s w Q k => by
  obtain ⟨v, e, r⟩ := o.get h0
  have r : v = .ref f := r
  subst r
  refine ⟨e, h σ G1 H1 o s w _ fun v G2 H2 g2 s2 w2 r2 => ?_⟩
  have r2 : v = .int i := r2
  subst r2
  have w2 : GS G H G2 H2 := w2
  exact ⟨s2 _ _ (w2.g _ _ hc), hp i G2 H2 Q w2 hb hi fun v G3 H3 gs r3 => k v G3 H3 (g2.trans gs.g) gs.sub (w2.trans gs) r3⟩
end
end LT
end
section
set_option Elab.async false
set_option linter.all false
set_option maxRecDepth 100000
set_option maxHeartbeats 1000000
set_option exponentiation.threshold 20000
namespace LT
open PySem PySem.Spec PyProof.Rows L2 LL LB
abbrev N_first_that : List Str := ["tells", "begin", "step", "low", "high", "middle"]
theorem sc_first_that : FnScope N_first_that ["tells", "begin"] (defScope LH.s_first_that) := ⟨rfl, rfl, rfl, by decide +kernel, rfl, by decide +kernel, by decide +kernel⟩
abbrev N_least_ticks : List Str := ["bounds", "legs"]
theorem sc_least_ticks : FnScope N_least_ticks ["bounds", "legs"] (defScope LH.s_least_ticks) := ⟨rfl, rfl, rfl, by decide +kernel, rfl, by decide +kernel, by decide +kernel⟩
abbrev lamQ : Str := (envOfC "least_ticks" (defScope LH.s_least_ticks) 0 0 .none).qual ++ "<lambda>"
theorem pow2 (k : Nat) : (1 : Int) ≤ 2 ^ k := by
  induction k with
  | zero => decide
  | succ k ih => rw [Int.pow_succ]; omega
theorem pow2_le {k m : Nat} (h : k ≤ m) : (2 : Int) ^ k ≤ 2 ^ m := by
  obtain ⟨d, rfl⟩ := Nat.le.dest h
  rw [Int.pow_add]
  have h1 := pow2 k
  have h2 := pow2 d
  have := Int.mul_le_mul_of_nonneg_left h2 (show (0 : Int) ≤ 2 ^ k by omega)
  omega
structure Up (p : Int → Bool) (b : Int) (k : Nat) : Prop where
  le : k ≤ 130
  no : k = 0 ∨ p (b + 2 ^ (k - 1) - 1) = false
theorem Up.next {p : Int → Bool} {b : Int} {k : Nat} (F : FirstP p b) (h : Up p b k) (n : p (b + 2 ^ k - 1) = false) : Up p b (k + 1) := by
  refine ⟨?_, .inr n⟩
  rcases Nat.lt_or_ge k 120 with z | z
  · omega
  · have h1 := pow2_le z
    have h2 := F.b1
    have := F.up TBIG (b + 2 ^ k - 1) (by have := F.b2; unfold TBIG; omega) (by unfold TBIG; omega) (by decide) F.big
    rw [n] at this
    cases this
structure Btw (p : Int → Bool) (b lo hi : Int) : Prop where
  ge : b - 1 ≤ lo
  lt : lo < hi
  big : hi < 2 ^ 200
  yes : p hi = true
  no : lo = b - 1 ∨ p lo = false
theorem Up.btw {p : Int → Bool} {b : Int} {k : Nat} (F : FirstP p b) (h : Up p b k) (y : p (b + 2 ^ k - 1) = true) : Btw p b (b - 1 + 2 ^ k / 2) (b + 2 ^ k - 1) := by
  have h1 := pow2 k
  have h2 := pow2_le h.le
  have h3 := F.b1
  have h4 := F.b2
  refine ⟨by omega, by omega, by omega, y, ?_⟩
  rcases h.no with z | z
  · subst z
    exact .inl (by omega)
  · cases k with
    | zero => exact .inl (by omega)
    | succ k =>
      refine .inr ?_
      rw [Nat.add_sub_cancel] at z
      have e : b - 1 + 2 ^ (k + 1) / 2 = b + 2 ^ k - 1 := by
        rw [Int.pow_succ]
        omega
      rw [e]
      exact z
theorem Btw.fin {p : Int → Bool} {b lo hi : Int} (F : FirstP p b) (h : Btw p b lo hi) (n : ¬ 1 < hi - lo) : LeastP p b hi := by
  have h1 := h.ge
  have h2 := h.lt
  have h3 := h.big
  refine ⟨by omega, h3, h.yes, fun t t1 t2 => ?_⟩
  rcases h.no with z | z
  · omega
  · cases e : p t with
    | false => rfl
    | true =>
      have := F.up t lo t1 (by omega) (by omega) e
      rw [z] at this
      cases this
theorem first_end {t : TS} {f : Addr} {b : Int} {p : Int → Bool} {G H : Hp} {Q : VK} (sm : Same G H) (hq : ∀ r G2 H2, GS G H G2 H2 → LeastP p b r → Q (.int r) H2)
    (main : SS t [some (yAt f), some (yI b), none, none, none, none] (wP G H) (fun _ _ _ => False) (wP G H) (yE fun r : Int => yW (LeastP p b r) (yI r))) : t { nx := fun _ H' => Q .non H', rt := Q } (L2.start N_first_that [.ref f, .int b]) H := by
  refine main _ G H ?_ sm (GS.refl sm) _ (fun _ _ _ _ _ z => z.elim) fun v G2 H2 _ s2 w2 ⟨r, hr, hv⟩ => ?_
  · exact ⟨⟨_, rfl, rfl⟩, ⟨_, rfl, rfl⟩, trivial⟩
  · have hv : v = .int r := hv
    subst hv
    exact hq r G2 H2 w2 hr
theorem gives_first {X : Cx} {g : Addr} {cdg : Value} : Gives2 X N_first_that "first_that" (defScope LH.s_first_that) g cdg (defBody LH.s_first_that) "tells" lamQ (TTf lamQ) := by
  intro f c' s H Q v tl act h
  obtain ⟨G, p, b, rfl, sm, hc, F, ht, hq⟩ := h
  have h1 := F.b1
  have h2 := F.b2
  refine ⟨_, (pss_cons (ps_set (i := 2) sc_first_that.nd rfl (.inl rfl) pe_int)
      (pss_cons (ps_while PassesOwn.never (pt_not (pt_val (act _ _ _ _ (pe_op op_sub (pe_op op_add (pv 1) (pv 2)) pe_int) rfl))) (pss_one (ps_set (i := 2) sc_first_that.nd rfl (.inl rfl) (pe_op op_mul pe_int (pv 2)))))
      (pss_cons (ps_par (i := 3) (j := 4) rfl sc_first_that.nd rfl rfl (by decide) rfl rfl (pa_cons (pe_op op_add (pe_op op_sub (pv 1) pe_int) (pe_op op_fdiv (pv 2) pe_int)) (pa_cons (pe_op op_sub (pe_op op_add (pv 1) (pv 2)) pe_int) pa_nil)) (by rfl))
      (pss_cons (ps_while PassesOwn.never (pt_cmpR op_gt (pe_op op_sub (pv 4) (pv 3)) pe_int (nomark _)) (pss_cons (ps_set (i := 5) sc_first_that.nd rfl (.inl rfl) (pe_op op_fdiv (pe_op op_add (pv 3) (pv 4)) pe_int))
      (pss_one (ps_asg (pe_ifExp (pt_val (act _ _ _ _ (pv 5) rfl)) (pe_tup (pa_cons (pv 3) (pa_cons (pv 5) pa_nil))) (pe_tup (pa_cons (pv 5) (pa_cons (pv 4) pa_nil)))) (pg_tup rfl (pgs_cons (pg_name (i := 3) sc_first_that.nd rfl (.inl rfl)) (pgs_cons (pg_name (i := 4) sc_first_that.nd rfl (.inl rfl)) pgs_nil)))))))
      (pss_one (ps_ret (pv 4))))))), ?_⟩
  refine first_end sm hq ?_
  · refine ss_asg ee_i ?_
    refine ss_while (α := Nat) (fun m k => m = 200 - k ∧ Up p b k) (fun k => [some (yAt f), some (yI b), some (yI (2 ^ k)), none, none, none]) (fun _ => wP G H) 200 0 ⟨rfl, by omega, .inl rfl⟩ (fun σ G H o w => ⟨by rw [Int.pow_zero]; exact o, w⟩) (fun m k hp => ⟨!(p (b + 2 ^ k - 1)), et_not (et_B (ee_tells rfl hc ht (ee_op (ee_op (ee_var rfl) (ee_var rfl) ot_add) ee_i ot_sub) ?_ ?_)), fun hb => ?_, fun hb => ?_⟩)
    · have := pow2 k
      omega
    · have := pow2_le hp.2.le
      omega
    · have hb : p (b + 2 ^ k - 1) = false := by simpa using hb
      have hn := hp.2.next F hb
      refine ss_last (ss_asg (ee_op ee_i (ee_var rfl) (ot_mul (c2 (by decide)))) (ss_next fun σ G2 H2 o s' w => ⟨199 - k, k + 1, by have := hn.le; omega, ⟨by omega, hn⟩, ?_, w⟩))
      rw [Int.pow_succ, Int.mul_comm]
      exact o
    · have hb : p (b + 2 ^ k - 1) = true := by simpa using hb
      have hn := hp.2.btw F hb
      refine ss_par (ea_cons (ee_op (ee_op (ee_var rfl) ee_i ot_sub) (ee_op (ee_var rfl) ee_i (ot_fdiv ⟨by decide, by decide⟩)) ot_add) (ea_cons (ee_op (ee_op (ee_var rfl) (ee_var rfl) ot_add) ee_i ot_sub) ea_nil)) ?_
      refine ss_while (α := Int × Int) (fun m x => m = (x.2 - x.1).toNat ∧ Btw p b x.1 x.2) (fun x => [some (yAt f), some (yI b), none, some (yI x.1), some (yI x.2), none]) (fun _ => wP G H) _ (b - 1 + 2 ^ k / 2, b + 2 ^ k - 1) ⟨rfl, hn⟩ (fun σ G H o w => ⟨o.forget 2, w⟩) (fun m ⟨lo, hi⟩ ⟨hm, hx⟩ => ⟨decide (1 < hi - lo), et_test (ee_op (ee_op (ee_var rfl) (ee_var rfl) ot_sub) ee_i ot_gt), fun hb => ?_, fun hb => ?_⟩)
      · have hb : 1 < hi - lo := of_decide_eq_true hb
        have x1 : b - 1 ≤ lo := hx.ge
        have x2 : hi < 2 ^ 200 := hx.big
        refine ss_asg (ee_op (ee_op (ee_var rfl) (ee_var rfl) ot_add) ee_i (ot_fdiv ⟨by decide, by decide⟩)) ?_
        show SS _ [some (yAt f), some (yI b), none, some (yI lo), some (yI hi), some (yI ((lo + hi) / 2))] _ _ _ _
        have m1 : lo < (lo + hi) / 2 := by omega
        have m2 : (lo + hi) / 2 < hi := by omega
        generalize (lo + hi) / 2 = md at m1 m2
        refine ss_last (ss_set (R := if p md = true then yT X.K [yI lo, yI md] else yT X.K [yI md, yI hi]) (ee_if (et_B (ee_tells rfl hc ht (ee_var rfl) (by omega) (by omega))) (fun z => ee_eq (ee_tup (ea_cons (ee_var rfl) (ea_cons (ee_var rfl) ea_nil)) (lle rfl)) (if_pos z).symm) (fun z => ee_eq (ee_tup (ea_cons (ee_var rfl) (ea_cons (ee_var rfl) ea_nil)) (lle rfl)) (if_neg (by rw [z]; decide)).symm)) (Γ1 := if p md = true then [some (yAt f), some (yI b), none, some (yI lo), some (yI md), some (yI md)] else [some (yAt f), some (yI b), none, some (yI md), some (yI hi), some (yI md)]) (js := [3, 4]) ?_ ?_)
        · cases e : p md with
          | true => exact gt_tup (gts_cons gt_name (gts_cons gt_name gts_nil)) rfl
          | false => exact gt_tup (gts_cons gt_name (gts_cons gt_name gts_nil)) rfl
        · cases e : p md with
          | true => exact ss_next fun σ G2 H2 o s' w => ⟨(md - lo).toNat, (lo, md), by omega, ⟨rfl, x1, m1, by show md < _; omega, e, hx.no⟩, o.forget 5, w⟩
          | false => exact ss_next fun σ G2 H2 o s' w => ⟨(hi - md).toNat, (md, hi), by omega, ⟨rfl, by show b - 1 ≤ md; omega, m2, x2, hx.yes, .inr e⟩, o.forget 5, w⟩
      · have hb : ¬ 1 < hi - lo := of_decide_eq_false hb
        exact ss_ret (EE.sub (ee_var rfl) fun v H hv => ⟨hi, Btw.fin F hx hb, hv⟩) (Wd.le.refl _)
end LT
end
section
set_option Elab.async false
set_option linter.all false
set_option maxRecDepth 100000
set_option maxHeartbeats 1000000
set_option exponentiation.threshold 20000
namespace LT
open PySem PySem.Spec PyProof.Rows L2 LL LB
def Bd.first (b : Bd) : Int := if b.lag > 1 then b.lag else 1
abbrev ltT : Option Int → Ty
  | none => yN
  | some t => yI t
noncomputable def apP (b : Bd) (ls : List Leg) : Int → Bool := fun T => pB (Ap b ls T)
def LtOk (b : Bd) (ls : List Leg) : Option Int → Prop
  | none => ¬ EvAll b ls
  | some r => EvAll b ls ∧ LeastP (apP b ls) (Bd.first b) r
theorem tk_of {b : Bd} {t : Int} (h : Bd.first b ≤ t) (k : t < 2 ^ 240) : TkOk b t := by
  unfold Bd.first at h
  split at h <;> exact ⟨by omega, by omega, k⟩
theorem firstP {b : Bd} {ls : List Leg} (h : BdOk b) (o : LsOk ls) (e : EvAll b ls) : FirstP (apP b ls) (Bd.first b) := by
  have := h.lag
  refine ⟨?_, ?_, pB_iff.mpr (ev_big h o e), fun t t' h1 h2 h3 k => pB_iff.mpr (Ap.mono h o (tk_of h1 h3) h2 (pB_iff.mp k))⟩ <;> (unfold Bd.first; split <;> omega)
def sp_least_ticks (P : Addr) (K : PySem.W.Frag) : Sp := spT P lamQ (fun g : Bd × List Leg => [yBd K g.1, yLs K g.2]) (fun g => BdOk g.1 ∧ LsOk g.2) (fun g => yE fun o : Option Int => yW (LtOk g.1 g.2 o) (ltT o))
def RawC (K : PySem.W.Frag) (mg : Str → Option Value) (x : Str) (st : Stmt) (c : Addr) : Prop := ∃ f fd, FunD K x x (defArgs st) (defBody st) (defScope st) [] [] f fd ∧ mg x = some (.ref f) ∧ fd.code = .ref c
theorem lam_free : ∀ y ∈ ([("ticks", .local), ("bounds", .free), ("legs", .free), ("is_flight_apart", .globalImplicit)] : List (Str × NameKind)), y.2 = .free → (defScope LH.s_least_ticks).names.lookup y.1 = some .cell ∨ (defScope LH.s_least_ticks).names.lookup y.1 = some .free := by decide +kernel
theorem lam_nd : (N_least_ticks ++ [("ticks" : Str)]).Nodup := by decide +kernel
theorem ct_first {b : Bd} : (if b.lag > 1 then b.lag else 1) = Bd.first b := rfl
section
variable {P : Program} {w : World} {K : PySem.W.Frag} {mg : Str → Option Value} {base : Heap} {cN cO cA cW c T : Addr}
theorem least_end {t : TS} {b : Bd} {ls : List Leg} {G H : Hp} {vs : List V} {Q : VK} {W : Wd} {out : Ty} (wr : W.r G H) (wf : ∀ G2 H2, W.r G2 H2 → TS T lamQ G H G2 H2) (hs : Same G H) (ha : AllR [yBd K b, yLs K ls] vs G) (q : ∀ v G2 H2, TS T lamQ G H G2 H2 → out.r v G2 → Q v H2)
    (main : SS t [some (yBd K b), some (yLs K ls)] W (fun _ _ _ => False) W out) : t { nx := fun _ H' => Q .non H', rt := Q } (L2.start N_least_ticks vs) H := by
  refine main _ G H ?_ hs wr _ (fun _ _ _ _ _ z => z.elim) fun v G2 H2 _ s2 w2 r2 => q v G2 H2 (wf _ _ w2) r2
  have h := okS_start 0 ha
  unfold L2.start
  rw [ha.len]
  exact h
theorem d_least_ticks (B : Blt K mg cN cO cA cW) (R : RawC K mg "least_ticks" LH.s_least_ticks c) (RF : Raw K mg "first_that" LH.s_first_that) (TB : LamX.TabB base mg c T) (D_has_ticks : Def P w K mg base 8 "has_ticks" ["bounds", "legs"] (sp_has_ticks K)) (D_lag_of : Def P w K mg base 1 "lag_of" ["bounds"] (sp_lag_of K)) (D_is_flight_apart : Def P w K mg base 9 "is_flight_apart" ["bounds", "ticks", "legs"] (sp_is_flight_apart K)) : Def P w K mg base 12 "least_ticks" ["bounds", "legs"] (sp_least_ticks T K) := by
  obtain ⟨f, fd, F, hm, hcode⟩ := R
  obtain ⟨g, fd2, F2, hm2⟩ := RF
  have bF := F.bindsN (ps := ["bounds", "legs"]) (fun _ _ _ _ _ _ us hl => match us, hl with | [_, _], _ => rfl)
  have bF2 := F2.bindsN (ps := ["tells", "begin"]) (fun _ _ _ _ _ _ us hl => match us, hl with | [_, _], _ => rfl)
  obtain ⟨oc, od, dV, kV, doc, pm, an, cdv, ct, osl, rfl, lk, hcd, _, _⟩ := F.ex
  obtain ⟨oc2, od2, dV2, kV2, doc2, pm2, an2, cdv2, ct2, osl2, rfl, lk2, hcd2, _, _⟩ := F2.ex
  have hc : cdv = .ref c := hcode
  subst hc
  refine ⟨f, _, fn_of lk hcd sc_least_ticks (fun vs H Q E ⟨g, G, _, _, _, _, a, _⟩ => a.len) fun A outer s H vs Q E hr ⟨⟨b, ls⟩, G, ⟨hb, hl⟩, hs, gT, hT, ha, q⟩ => ?_, hm, F.kp, bF⟩
  refine ⟨_, PSs.nox (pss_cons (ps_if (pt_not (pt_val (pe_cd D_has_ticks hr (by decide) (pa_cons (pv 0) (pa_cons (pv 1) pa_nil))))) (pss_one (ps_ret pe_non)) pss_nil)
      (pss_one (ps_ret (pe_lam2 (a2 := "ticks") (TT := TTf lamQ) (b := "begin") (k := 9) rfl hm2 F2.kp lk2 hcd2 bF2 sc_first_that rfl (.inl rfl) gives_first TB rfl (hr.mono (by decide)) ⟨rfl, rfl, rfl, rfl, by decide +kernel, lam_free⟩ lam_nd rfl ⟨rfl, rfl⟩ (fun _ _ _ _ _ _ => rfl)
        (fun A outer s H f c' hr => pe_cd D_is_flight_apart hr (by decide) (pa_cons (pv 0) (pa_cons (pv 2) (pa_cons (pv 1) pa_nil)))) (pe_callB (call_max2 rfl) rfl B.max (by decide +kernel) (pa_cons pe_int (pa_cons (pe_cd D_lag_of hr (by decide) (pa_cons (pv 0) pa_nil)) pa_nil))))))), ?_⟩
  have g0 := isTab_wTS gT hT
  generalize hW : wTS T lamQ G H gT hT = W at g0
  have wr : W.r G H := by
    rw [← hW]
    exact TS.refl hs hT
  have wf : ∀ G2 H2, W.r G2 H2 → TS T lamQ G H G2 H2 := fun G2 H2 k => by
    rw [← hW] at k
    exact k
  refine least_end (b := b) (ls := ls) wr wf hs ha q ?_
  refine ss_if (et_not (et_B (ee_has_ticks (ee_var rfl) (ee_var rfl) ⟨hb, hl⟩))) (fun hx => ?_) (fun hx => ?_)
  · have hx : pB (EvAll b ls) = false := by simpa using hx
    exact ss_ret1 (EE.sub (R := yN) ee_n fun v H hv => ⟨none, pB_no.mp hx, hv⟩) (Wd.le.refl _)
  · have hx : pB (EvAll b ls) = true := by simpa using hx
    have he := pB_iff.mp hx
    refine ss_skip (ss_ret (EE.sub (ee_lam (p := apP b ls) (b := Bd.first b) g0 (ee_ieq (ee_cb (ea_cons ee_i (ea_cons (ee_lag_of (ee_var rfl) hb) ea_nil)) ct_max) ct_first) (firstP hb hl he) (fun x W' h1 h2 => ?_)) fun v H ⟨r, hr, hv⟩ => ⟨some r, ⟨he, hr⟩, hv⟩) (Wd.le.refl _))
    exact ee_is_flight_apart (ee_var rfl) (ee_var rfl) (ee_var rfl) ⟨hb, tk_of h1 h2, hl⟩
end
end LT
end
section
set_option Elab.async false
set_option linter.all false
set_option maxRecDepth 100000
set_option maxHeartbeats 1000000
set_option exponentiation.threshold 20000
namespace LT
open PySem PySem.Spec PyProof.Rows L2 LL
section
variable {Γ : Tys} {W : Wd} {R S Ra Rb : Ty} {Rs : List Ty} {te ta tb tc td : TE} {t : TA} {K : PySem.W.Frag}
def sp__law_over (K : PySem.W.Frag) : Sp := spF (fun g : Int × Int => [yI g.1, yI g.2]) (fun g => g.2 ≠ 0 ∧ g.2.natAbs < 2 ^ 8900) (fun g => yF K (Rat.divInt g.1 g.2))
def sp__law_added (K : PySem.W.Frag) : Sp := spF (fun g : Rat × Rat => [yF K g.1, yF K g.2]) (fun g => Sz g.1 ∧ Sz g.2) (fun g => yF K (g.1 + g.2))
def sp__law_lessened (K : PySem.W.Frag) : Sp := spF (fun g : Rat × Rat => [yF K g.1, yF K g.2]) (fun g => Sz g.1 ∧ Sz g.2) (fun g => yF K (g.1 - g.2))
def sp__law_multiplied (K : PySem.W.Frag) : Sp := spF (fun g : Rat × Rat => [yF K g.1, yF K g.2]) (fun g => Sz g.1 ∧ Sz g.2) (fun g => yF K (g.1 * g.2))
def sp__law_divided (K : PySem.W.Frag) : Sp := spF (fun g : Rat × Rat => [yF K g.1, yF K g.2]) (fun g => Sz g.1 ∧ Sz g.2 ∧ g.2 ≠ 0) (fun g => yF K (g.1 / g.2))
def sp__law_is_below (K : PySem.W.Frag) : Sp := spF (fun g : Rat × Rat => [yF K g.1, yF K g.2]) (fun g => Sz g.1 ∧ Sz g.2) (fun g => yB (decide (g.1 < g.2)))
def sp__law_reach (K : PySem.W.Frag) : Sp := spF (fun g : Bd => [yBd K g]) (fun g => BdOk g) (fun g => yI g.R)
def sp__law_lag (K : PySem.W.Frag) : Sp := spF (fun g : Bd => [yBd K g]) (fun g => BdOk g) (fun g => yI g.lag)
def sp__law_rho (K : PySem.W.Frag) : Sp := spF (fun g : Bd × Int => [yBd K g.1, yI g.2]) (fun g => BdOk g.1 ∧ TkOk g.1 g.2) (fun g => yF K (g.1.rho g.2))
abbrev yQ (K : PySem.W.Frag) (p : Rat × Rat) : Ty := yL [yF K p.1, yF K p.2]
def ringL (r : Rat) : List (Rat × Rat) := [(0, 0), (r, 0), (1, 1 - r), (1, 1), (1 - r, 1), (0, r)]
def ringL2 (r : Rat) : List (Rat × Rat) := [(r, 0), (1, 1 - r), (1, 1), (1 - r, 1), (0, r), (0, 0)]
def sp__law_corners (K : PySem.W.Frag) : Sp := spF (fun g : Rat => [yF K g]) (fun g => PreR g) (fun g => yL ((ringL g).map (yP K)))
def sp__law_gap (K : PySem.W.Frag) : Sp := spF (fun g : Leg × Leg × Rat × Rat => [yG K g.1, yG K g.2.1, yF K g.2.2.1, yF K g.2.2.2]) (fun g => PreG g.1 g.2.1 g.2.2.1 g.2.2.2) (fun g => yQ K (gx g.1 g.2.1 g.2.2.1 g.2.2.2, gy g.1 g.2.1 g.2.2.1 g.2.2.2))
def sp__law_dot (K : PySem.W.Frag) : Sp := spF (fun g : (Rat × Rat) × (Rat × Rat) => [yQ K g.1, yQ K g.2]) (fun g => (Sh g.1.1 ∧ Sh g.1.2) ∧ Sh g.2.1 ∧ Sh g.2.2) (fun g => yF K (g.1.1 * g.2.1 + g.1.2 * g.2.2))
def sp__law_gap_squared (K : PySem.W.Frag) : Sp := spF (fun g : Leg × Leg × Rat × Rat => [yG K g.1, yG K g.2.1, yF K g.2.2.1, yF K g.2.2.2]) (fun g => PreG g.1 g.2.1 g.2.2.1 g.2.2.2) (fun g => yF K (ff g.1 g.2.1 g.2.2.1 g.2.2.2))
def lessB (p q : Rat × Rat) : Bool := if p.1 ≠ q.1 then decide (p.1 < q.1) else decide (p.2 < q.2)
def sp__law_are_less (K : PySem.W.Frag) : Sp := spF (fun g : (Rat × Rat) × (Rat × Rat) => [yP K g.1, yP K g.2]) (fun g => (Sz g.1.1 ∧ Sz g.1.2) ∧ Sz g.2.1 ∧ Sz g.2.2) (fun g => yB (lessB g.1 g.2))
def sp__law_on_edge (K : PySem.W.Frag) : Sp := spF (fun g : Leg × Leg × (Rat × Rat) × (Rat × Rat) × Nat => [yG K g.1, yG K g.2.1, yP K g.2.2.1, yP K g.2.2.2.1]) (fun g => LB g.1 ∧ LB g.2.1 ∧ g.2.2.2.2 ≠ 0 ∧ g.2.2.2.2 < 2 ^ 250 ∧ Pt g.2.2.2.2 g.2.2.1 ∧ Pt g.2.2.2.2 g.2.2.2.1)
  (fun g => yE fun x : Rat × Rat => yW (EdgeOk g.1 g.2.1 g.2.2.1 g.2.2.2.1 g.2.2.2.2 x.1 x.2) (yR K (ff g.1 g.2.1 x.1 x.2) x.1 x.2))
theorem ee__law_over {n d : Int} (ha : EE ta Γ W (yI n)) (hb : EE tb Γ W (yI d)) (hp : d ≠ 0 ∧ d.natAbs < 2 ^ 8900) : EE (tCall (sp__law_over K) [] E0 (tCons ta (tCons tb tNil))) Γ W (yF K (Rat.divInt n d)) := ee_call (n, d) (ea_cons ha (ea_cons hb ea_nil)) hp
theorem ee__law_added {x y : Rat} (ha : EE ta Γ W (yF K x)) (hb : EE tb Γ W (yF K y)) (hp : Sz x ∧ Sz y) : EE (tCall (sp__law_added K) [] E0 (tCons ta (tCons tb tNil))) Γ W (yF K (x + y)) := ee_call (x, y) (ea_cons ha (ea_cons hb ea_nil)) hp
theorem ee__law_lessened {x y : Rat} (ha : EE ta Γ W (yF K x)) (hb : EE tb Γ W (yF K y)) (hp : Sz x ∧ Sz y) : EE (tCall (sp__law_lessened K) [] E0 (tCons ta (tCons tb tNil))) Γ W (yF K (x - y)) := ee_call (x, y) (ea_cons ha (ea_cons hb ea_nil)) hp
theorem ee__law_multiplied {x y : Rat} (ha : EE ta Γ W (yF K x)) (hb : EE tb Γ W (yF K y)) (hp : Sz x ∧ Sz y) : EE (tCall (sp__law_multiplied K) [] E0 (tCons ta (tCons tb tNil))) Γ W (yF K (x * y)) := ee_call (x, y) (ea_cons ha (ea_cons hb ea_nil)) hp
theorem ee__law_divided {x y : Rat} (ha : EE ta Γ W (yF K x)) (hb : EE tb Γ W (yF K y)) (hp : Sz x ∧ Sz y ∧ y ≠ 0) : EE (tCall (sp__law_divided K) [] E0 (tCons ta (tCons tb tNil))) Γ W (yF K (x / y)) := ee_call (x, y) (ea_cons ha (ea_cons hb ea_nil)) hp
theorem ee__law_is_below {x y : Rat} (ha : EE ta Γ W (yF K x)) (hb : EE tb Γ W (yF K y)) (hp : Sz x ∧ Sz y) : EE (tCall (sp__law_is_below K) [] E0 (tCons ta (tCons tb tNil))) Γ W (yB (decide (x < y))) := ee_call (x, y) (ea_cons ha (ea_cons hb ea_nil)) hp
theorem ee__law_reach {b : Bd} (ha : EE ta Γ W (yBd K b)) (hp : BdOk b) : EE (tCall (sp__law_reach K) [] E0 (tCons ta tNil)) Γ W (yI b.R) := ee_call b (ea_cons ha ea_nil) hp
theorem ee__law_lag {b : Bd} (ha : EE ta Γ W (yBd K b)) (hp : BdOk b) : EE (tCall (sp__law_lag K) [] E0 (tCons ta tNil)) Γ W (yI b.lag) := ee_call b (ea_cons ha ea_nil) hp
theorem ee__law_rho {b : Bd} {T : Int} (ha : EE ta Γ W (yBd K b)) (hb : EE tb Γ W (yI T)) (hp : BdOk b ∧ TkOk b T) : EE (tCall (sp__law_rho K) [] E0 (tCons ta (tCons tb tNil))) Γ W (yF K (b.rho T)) := ee_call (b, T) (ea_cons ha (ea_cons hb ea_nil)) hp
theorem ee__law_corners {r : Rat} (ha : EE ta Γ W (yF K r)) (hp : PreR r) : EE (tCall (sp__law_corners K) [] E0 (tCons ta tNil)) Γ W (yL ((ringL r).map (yP K))) := ee_call r (ea_cons ha ea_nil) hp
theorem ee__law_gap {a b : Leg} {s t : Rat} (ha : EE ta Γ W (yG K a)) (hb : EE tb Γ W (yG K b)) (hc : EE tc Γ W (yF K s)) (hd : EE td Γ W (yF K t)) (hp : PreG a b s t) : EE (tCall (sp__law_gap K) [] E0 (tCons ta (tCons tb (tCons tc (tCons td tNil))))) Γ W (yQ K (gx a b s t, gy a b s t)) := ee_call (a, b, s, t) (ea_cons ha (ea_cons hb (ea_cons hc (ea_cons hd ea_nil)))) hp
theorem ee__law_dot {p q : Rat × Rat} (ha : EE ta Γ W (yQ K p)) (hb : EE tb Γ W (yQ K q)) (hp : (Sh p.1 ∧ Sh p.2) ∧ Sh q.1 ∧ Sh q.2) : EE (tCall (sp__law_dot K) [] E0 (tCons ta (tCons tb tNil))) Γ W (yF K (p.1 * q.1 + p.2 * q.2)) := ee_call (p, q) (ea_cons ha (ea_cons hb ea_nil)) hp
theorem ee__law_gap_squared {a b : Leg} {s t : Rat} (ha : EE ta Γ W (yG K a)) (hb : EE tb Γ W (yG K b)) (hc : EE tc Γ W (yF K s)) (hd : EE td Γ W (yF K t)) (hp : PreG a b s t) : EE (tCall (sp__law_gap_squared K) [] E0 (tCons ta (tCons tb (tCons tc (tCons td tNil))))) Γ W (yF K (ff a b s t)) := ee_call (a, b, s, t) (ea_cons ha (ea_cons hb (ea_cons hc (ea_cons hd ea_nil)))) hp
theorem ee__law_are_less {p q : Rat × Rat} (ha : EE ta Γ W (yP K p)) (hb : EE tb Γ W (yP K q)) (hp : (Sz p.1 ∧ Sz p.2) ∧ Sz q.1 ∧ Sz q.2) : EE (tCall (sp__law_are_less K) [] E0 (tCons ta (tCons tb tNil))) Γ W (yB (lessB p q)) := ee_call (p, q) (ea_cons ha (ea_cons hb ea_nil)) hp
theorem ee__law_on_edge {a b : Leg} {p q : Rat × Rat} {T : Nat} (ha : EE ta Γ W (yG K a)) (hb : EE tb Γ W (yG K b)) (hc : EE tc Γ W (yP K p)) (hd : EE td Γ W (yP K q)) (hp : LB a ∧ LB b ∧ T ≠ 0 ∧ T < 2 ^ 250 ∧ Pt T p ∧ Pt T q) :
    EE (tCall (sp__law_on_edge K) [] E0 (tCons ta (tCons tb (tCons tc (tCons td tNil))))) Γ W (yE fun x : Rat × Rat => yW (EdgeOk a b p q T x.1 x.2) (yR K (ff a b x.1 x.2) x.1 x.2)) := ee_call (a, b, p, q, T) (ea_cons ha (ea_cons hb (ea_cons hc (ea_cons hd ea_nil)))) hp
theorem ee_q0 : EE (tTup (tCons (tC (.int 0)) (tCons (tC (.int 1)) tNil))) Γ W (yF K 0) := ee_fr (i := 0) ee_i
theorem ee_q1 : EE (tTup (tCons (tC (.int 1)) (tCons (tC (.int 1)) tNil))) Γ W (yF K 1) := ee_fr (i := 1) ee_i
theorem sz0 : Sz (0 : Rat) := sz_int (i := 0) (by decide)
theorem sz1 : Sz (1 : Rat) := sz_int (i := 1) (by decide)
end
abbrev N__law_over : List Str := ["_law_n", "_law_d", "_law_one", "_law_other"]
theorem sc__law_over : FnScope N__law_over ["_law_n", "_law_d"] (defScope LH.s__law_over) := ⟨rfl, rfl, rfl, by decide +kernel, rfl, by decide +kernel, by decide +kernel⟩
abbrev N__law_added : List Str := ["_law_x", "_law_y"]
theorem sc__law_added : FnScope N__law_added ["_law_x", "_law_y"] (defScope LH.s__law_added) := ⟨rfl, rfl, rfl, by decide +kernel, rfl, by decide +kernel, by decide +kernel⟩
abbrev N__law_lessened : List Str := ["_law_x", "_law_y"]
theorem sc__law_lessened : FnScope N__law_lessened ["_law_x", "_law_y"] (defScope LH.s__law_lessened) := ⟨rfl, rfl, rfl, by decide +kernel, rfl, by decide +kernel, by decide +kernel⟩
abbrev N__law_multiplied : List Str := ["_law_x", "_law_y"]
theorem sc__law_multiplied : FnScope N__law_multiplied ["_law_x", "_law_y"] (defScope LH.s__law_multiplied) := ⟨rfl, rfl, rfl, by decide +kernel, rfl, by decide +kernel, by decide +kernel⟩
abbrev N__law_divided : List Str := ["_law_x", "_law_y"]
theorem sc__law_divided : FnScope N__law_divided ["_law_x", "_law_y"] (defScope LH.s__law_divided) := ⟨rfl, rfl, rfl, by decide +kernel, rfl, by decide +kernel, by decide +kernel⟩
abbrev N__law_is_below : List Str := ["_law_x", "_law_y"]
theorem sc__law_is_below : FnScope N__law_is_below ["_law_x", "_law_y"] (defScope LH.s__law_is_below) := ⟨rfl, rfl, rfl, by decide +kernel, rfl, by decide +kernel, by decide +kernel⟩
abbrev N__law_reach : List Str := ["_law_bounds_here"]
theorem sc__law_reach : FnScope N__law_reach ["_law_bounds_here"] (defScope LH.s__law_reach) := ⟨rfl, rfl, rfl, by decide +kernel, rfl, by decide +kernel, by decide +kernel⟩
abbrev N__law_lag : List Str := ["_law_bounds_here"]
theorem sc__law_lag : FnScope N__law_lag ["_law_bounds_here"] (defScope LH.s__law_lag) := ⟨rfl, rfl, rfl, by decide +kernel, rfl, by decide +kernel, by decide +kernel⟩
abbrev N__law_rho : List Str := ["_law_bounds_here", "_law_ticks"]
theorem sc__law_rho : FnScope N__law_rho ["_law_bounds_here", "_law_ticks"] (defScope LH.s__law_rho) := ⟨rfl, rfl, rfl, by decide +kernel, rfl, by decide +kernel, by decide +kernel⟩
abbrev N__law_corners : List Str := ["_law_rho_here", "_law_less"]
theorem sc__law_corners : FnScope N__law_corners ["_law_rho_here"] (defScope LH.s__law_corners) := ⟨rfl, rfl, rfl, by decide +kernel, rfl, by decide +kernel, by decide +kernel⟩
abbrev N__law_gap : List Str := ["_law_leg", "_law_other", "_law_s", "_law_t", "_law_found", "_law_at", "_law_one", "_law_two"]
theorem sc__law_gap : FnScope N__law_gap ["_law_leg", "_law_other", "_law_s", "_law_t"] (defScope LH.s__law_gap) := ⟨rfl, rfl, rfl, by decide +kernel, rfl, by decide +kernel, by decide +kernel⟩
abbrev N__law_dot : List Str := ["_law_one", "_law_other"]
theorem sc__law_dot : FnScope N__law_dot ["_law_one", "_law_other"] (defScope LH.s__law_dot) := ⟨rfl, rfl, rfl, by decide +kernel, rfl, by decide +kernel, by decide +kernel⟩
abbrev N__law_gap_squared : List Str := ["_law_leg", "_law_other", "_law_s", "_law_t", "_law_gap_here"]
theorem sc__law_gap_squared : FnScope N__law_gap_squared ["_law_leg", "_law_other", "_law_s", "_law_t"] (defScope LH.s__law_gap_squared) := ⟨rfl, rfl, rfl, by decide +kernel, rfl, by decide +kernel, by decide +kernel⟩
abbrev N__law_are_less : List Str := ["_law_one", "_law_other"]
theorem sc__law_are_less : FnScope N__law_are_less ["_law_one", "_law_other"] (defScope LH.s__law_are_less) := ⟨rfl, rfl, rfl, by decide +kernel, rfl, by decide +kernel, by decide +kernel⟩
section
variable {P : Program} {w : World} {K : PySem.W.Frag} {mg : Str → Option Value} {base : Heap} {cN cO cA cW : Addr}
theorem abs_nat {i : Int} : (if i < 0 then -i else i) = (i.natAbs : Int) := by
  split <;> omega
theorem fmod_nat {a b : Nat} : ((a : Int)).fmod (b : Int) = ((a % b : Nat) : Int) := by
  rw [Int.fmod_eq_emod_of_nonneg _ (by omega)]
  rfl
theorem d__law_over (B : Blt K mg cN cO cA cW) (R : Raw K mg "_law_over" LH.s__law_over) : Def P w K mg base 1 "_law_over" ["_law_n", "_law_d"] (sp__law_over K) := by
  refine def_mk R sc__law_over (fun _ _ _ _ _ _ us hl => match us, hl with | [_, _], _ => rfl) (fun _ => rfl) fun f cdv A outer s H E hr => ⟨_, (pss_cons (ps_par (i := 2) (j := 3) rfl sc__law_over.nd rfl rfl (by decide) rfl rfl (pa_cons (pe_callB call_abs rfl B.abs (by decide +kernel) (pa_cons (pv 0) pa_nil)) (pa_cons (pe_callB call_abs rfl B.abs (by decide +kernel) (pa_cons (pv 1) pa_nil)) pa_nil)) (by rfl))
      (pss_cons (ps_while PassesOwn.never (pt_cmpR op_gt (pv 3) pe_int (nomark _)) (pss_one (ps_par (i := 2) (j := 3) rfl sc__law_over.nd rfl rfl (by decide) rfl rfl (pa_cons (pv 3) (pa_cons (pe_op op_modN (pe_callTy call_int1 rfl B.int (by decide +kernel) (pa_cons (pv 2) pa_nil)) (pv 3)) pa_nil)) (by rfl))))
      (pss_cons (ps_set (i := 2) sc__law_over.nd rfl (.inl rfl) (pe_ifExp (pt_cmpR op_gt (pv 1) pe_int (nomark _)) (pv 2) (pe_un un_neg (pv 2))))
      (pss_one (ps_ret (pe_tup (pa_cons (pe_op op_fdivX (pe_callTy call_int1 rfl B.int (by decide +kernel) (pa_cons (pv 0) pa_nil)) (pv 2)) (pa_cons (pe_op op_fdivX (pe_callTy call_int1 rfl B.int (by decide +kernel) (pa_cons (pv 1) pa_nil)) (pv 2)) pa_nil)))))))), fun ⟨n, d⟩ hp W => ?_⟩
  obtain ⟨h0, h1⟩ := hp
  refine ss_par (Ra := yI (n.natAbs : Int)) (Rb := yI (d.natAbs : Int)) (ea_cons (ee_ieq (ee_cb (ea_cons (ee_var rfl) ea_nil) ct_abs) abs_nat) (ea_cons (ee_ieq (ee_cb (ea_cons (ee_var rfl) ea_nil) ct_abs) abs_nat) ea_nil)) ?_
  refine ss_while (α := Nat × Nat) (fun m x => m = x.2 ∧ Nat.gcd x.1 x.2 = Nat.gcd n.natAbs d.natAbs) (fun x => [some (yI n), some (yI d), some (yI (x.1 : Int)), some (yI (x.2 : Int))]) (fun _ => W) d.natAbs (n.natAbs, d.natAbs) ⟨rfl, rfl⟩ (fun σ G H o w => ⟨o, w⟩) (fun m ⟨x, y⟩ ⟨hm, hx⟩ => ⟨decide ((0 : Int) < (y : Int)), et_test (ee_op (ee_var rfl) ee_i ot_gt), fun hb => ?_, fun hb => ?_⟩)
  · have hb : (0 : Int) < (y : Int) := of_decide_eq_true hb
    refine ss_last (ss_par (Ra := yI (y : Int)) (Rb := yI ((x % y : Nat) : Int)) (ea_cons (ee_var rfl) (ea_cons (ee_ieq (ee_op (ee_cb (ea_cons (ee_var rfl) ea_nil) ct_int) (ee_var rfl) (ot_modN (by omega))) fmod_nat) ea_nil)) (ss_next fun σ G2 H2 o s' w => ⟨x % y, (y, x % y), ?_, ⟨rfl, ?_⟩, o, w⟩))
    · have := Nat.mod_lt x (show 0 < y by omega)
      have hm : m = y := hm
      omega
    · show Nat.gcd y (x % y) = _
      rw [Nat.gcd_comm y (x % y), ← Nat.gcd_rec, Nat.gcd_comm]
      exact hx
  · have hb : ¬ (0 : Int) < (y : Int) := of_decide_eq_false hb
    have hy : y = 0 := by omega
    subst hy
    have hx : x = Nat.gcd n.natAbs d.natAbs := by
      have hx : Nat.gcd x 0 = _ := hx
      rw [Nat.gcd_zero_right] at hx
      exact hx
    subst hx
    have hd : CDivX n (comm n d) := ⟨comm_ne h0, PySem.Flt.log2_lt_of (by decide) (Nat.lt_of_le_of_lt (comm_le h0) (Nat.lt_of_lt_of_le h1 (Nat.pow_le_pow_right (by decide) (by decide))))⟩
    refine ss_asg (R := yI (comm n d)) (ee_if (et_test (ee_op (ee_var rfl) ee_i ot_gt)) (fun h => ee_ieq (ee_var rfl) ?_) (fun h => ee_ieq (ee_un (ee_var rfl) ut_neg) ?_)) ?_
    · exact (if_pos (of_decide_eq_true h)).symm
    · exact (if_neg (of_decide_eq_false h)).symm
    refine ss_ret (ee_tup (ea_cons (ee_ieq (ee_op (ee_cb (ea_cons (ee_var rfl) ea_nil) ct_int) (ee_var rfl) (ot_fdivX hd)) (comm_num h0)) (ea_cons (ee_ieq (ee_op (ee_cb (ea_cons (ee_var rfl) ea_nil) ct_int) (ee_var rfl) (ot_fdivX hd)) (comm_den h0)) ea_nil)) (lle rfl)) (Wd.le.refl _)
theorem d__law_added (R : Raw K mg "_law_added" LH.s__law_added) (D__law_over : Def P w K mg base 1 "_law_over" ["_law_n", "_law_d"] (sp__law_over K)) : Def P w K mg base 2 "_law_added" ["_law_x", "_law_y"] (sp__law_added K) := by
  refine def_mk R sc__law_added (fun _ _ _ _ _ _ us hl => match us, hl with | [_, _], _ => rfl) (fun _ => rfl) fun f cdv A outer s H E hr => ⟨_, (pss_one (ps_ret (pe_cd D__law_over hr (by decide) (pa_cons (pe_op op_add (pe_op op_mulW (pe_ix ix_tup (pv 0) pe_int (fun _ _ => rfl)) (pe_ix ix_tup (pv 1) pe_int (fun _ _ => rfl))) (pe_op op_mulW (pe_ix ix_tup (pv 1) pe_int (fun _ _ => rfl)) (pe_ix ix_tup (pv 0) pe_int (fun _ _ => rfl)))) (pa_cons (pe_op op_mulW (pe_ix ix_tup (pv 0) pe_int (fun _ _ => rfl)) (pe_ix ix_tup (pv 1) pe_int (fun _ _ => rfl))) pa_nil))))), fun ⟨x, y⟩ ⟨hx, hy⟩ W => ?_⟩
  refine ss_ret (ee_eq (ee__law_over (ee_op (ee_op (ee_op (ee_var rfl) ee_i (ot_ixT rfl)) (ee_op (ee_var rfl) ee_i (ot_ixT rfl)) (ot_mulW (sz_nd hx hy))) (ee_op (ee_op (ee_var rfl) ee_i (ot_ixT rfl)) (ee_op (ee_var rfl) ee_i (ot_ixT rfl)) (ot_mulW (sz_nd hy hx))) ot_add) (ee_op (ee_op (ee_var rfl) ee_i (ot_ixT rfl)) (ee_op (ee_var rfl) ee_i (ot_ixT rfl)) (ot_mulW (sz_dd hx hy))) (den_dd hx hy)) (congrArg (yF K) (add_eq x y))) (Wd.le.refl _)
theorem d__law_lessened (R : Raw K mg "_law_lessened" LH.s__law_lessened) (D__law_over : Def P w K mg base 1 "_law_over" ["_law_n", "_law_d"] (sp__law_over K)) : Def P w K mg base 2 "_law_lessened" ["_law_x", "_law_y"] (sp__law_lessened K) := by
  refine def_mk R sc__law_lessened (fun _ _ _ _ _ _ us hl => match us, hl with | [_, _], _ => rfl) (fun _ => rfl) fun f cdv A outer s H E hr => ⟨_, (pss_one (ps_ret (pe_cd D__law_over hr (by decide) (pa_cons (pe_op op_sub (pe_op op_mulW (pe_ix ix_tup (pv 0) pe_int (fun _ _ => rfl)) (pe_ix ix_tup (pv 1) pe_int (fun _ _ => rfl))) (pe_op op_mulW (pe_ix ix_tup (pv 1) pe_int (fun _ _ => rfl)) (pe_ix ix_tup (pv 0) pe_int (fun _ _ => rfl)))) (pa_cons (pe_op op_mulW (pe_ix ix_tup (pv 0) pe_int (fun _ _ => rfl)) (pe_ix ix_tup (pv 1) pe_int (fun _ _ => rfl))) pa_nil))))), fun ⟨x, y⟩ ⟨hx, hy⟩ W => ?_⟩
  refine ss_ret (ee_eq (ee__law_over (ee_op (ee_op (ee_op (ee_var rfl) ee_i (ot_ixT rfl)) (ee_op (ee_var rfl) ee_i (ot_ixT rfl)) (ot_mulW (sz_nd hx hy))) (ee_op (ee_op (ee_var rfl) ee_i (ot_ixT rfl)) (ee_op (ee_var rfl) ee_i (ot_ixT rfl)) (ot_mulW (sz_nd hy hx))) ot_sub) (ee_op (ee_op (ee_var rfl) ee_i (ot_ixT rfl)) (ee_op (ee_var rfl) ee_i (ot_ixT rfl)) (ot_mulW (sz_dd hx hy))) (den_dd hx hy)) (congrArg (yF K) (sub_eq x y))) (Wd.le.refl _)
theorem d__law_multiplied (R : Raw K mg "_law_multiplied" LH.s__law_multiplied) (D__law_over : Def P w K mg base 1 "_law_over" ["_law_n", "_law_d"] (sp__law_over K)) : Def P w K mg base 2 "_law_multiplied" ["_law_x", "_law_y"] (sp__law_multiplied K) := by
  refine def_mk R sc__law_multiplied (fun _ _ _ _ _ _ us hl => match us, hl with | [_, _], _ => rfl) (fun _ => rfl) fun f cdv A outer s H E hr => ⟨_, (pss_one (ps_ret (pe_cd D__law_over hr (by decide) (pa_cons (pe_op op_mulW (pe_ix ix_tup (pv 0) pe_int (fun _ _ => rfl)) (pe_ix ix_tup (pv 1) pe_int (fun _ _ => rfl))) (pa_cons (pe_op op_mulW (pe_ix ix_tup (pv 0) pe_int (fun _ _ => rfl)) (pe_ix ix_tup (pv 1) pe_int (fun _ _ => rfl))) pa_nil))))), fun ⟨x, y⟩ ⟨hx, hy⟩ W => ?_⟩
  refine ss_ret (ee_eq (ee__law_over (ee_op (ee_op (ee_var rfl) ee_i (ot_ixT rfl)) (ee_op (ee_var rfl) ee_i (ot_ixT rfl)) (ot_mulW (sz_nn hx hy))) (ee_op (ee_op (ee_var rfl) ee_i (ot_ixT rfl)) (ee_op (ee_var rfl) ee_i (ot_ixT rfl)) (ot_mulW (sz_dd hx hy))) (den_dd hx hy)) (congrArg (yF K) (mul_eq x y))) (Wd.le.refl _)
theorem d__law_divided (R : Raw K mg "_law_divided" LH.s__law_divided) (D__law_over : Def P w K mg base 1 "_law_over" ["_law_n", "_law_d"] (sp__law_over K)) : Def P w K mg base 2 "_law_divided" ["_law_x", "_law_y"] (sp__law_divided K) := by
  refine def_mk R sc__law_divided (fun _ _ _ _ _ _ us hl => match us, hl with | [_, _], _ => rfl) (fun _ => rfl) fun f cdv A outer s H E hr => ⟨_, (pss_one (ps_ret (pe_cd D__law_over hr (by decide) (pa_cons (pe_op op_mulW (pe_ix ix_tup (pv 0) pe_int (fun _ _ => rfl)) (pe_ix ix_tup (pv 1) pe_int (fun _ _ => rfl))) (pa_cons (pe_op op_mulW (pe_ix ix_tup (pv 0) pe_int (fun _ _ => rfl)) (pe_ix ix_tup (pv 1) pe_int (fun _ _ => rfl))) pa_nil))))), fun ⟨x, y⟩ ⟨hx, hy, h0⟩ W => ?_⟩
  refine ss_ret (ee_eq (ee__law_over (ee_op (ee_op (ee_var rfl) ee_i (ot_ixT rfl)) (ee_op (ee_var rfl) ee_i (ot_ixT rfl)) (ot_mulW (sz_nd hx hy))) (ee_op (ee_op (ee_var rfl) ee_i (ot_ixT rfl)) (ee_op (ee_var rfl) ee_i (ot_ixT rfl)) (ot_mulW (sz_dn hx hy))) (den_dn hx hy h0)) (congrArg (yF K) (div_eq x y))) (Wd.le.refl _)
theorem d__law_is_below (R : Raw K mg "_law_is_below" LH.s__law_is_below) : Def P w K mg base 1 "_law_is_below" ["_law_x", "_law_y"] (sp__law_is_below K) := by
  refine def_mk R sc__law_is_below (fun _ _ _ _ _ _ us hl => match us, hl with | [_, _], _ => rfl) (fun _ => rfl) fun f cdv A outer s H E hr => ⟨_, (pss_one (ps_ret (pe_cmpR op_lt (pe_op op_mulW (pe_ix ix_tup (pv 0) pe_int (fun _ _ => rfl)) (pe_ix ix_tup (pv 1) pe_int (fun _ _ => rfl))) (pe_op op_mulW (pe_ix ix_tup (pv 1) pe_int (fun _ _ => rfl)) (pe_ix ix_tup (pv 0) pe_int (fun _ _ => rfl))) (nomark _)))), fun ⟨x, y⟩ ⟨hx, hy⟩ W => ?_⟩
  refine ss_ret (ee_eq (ee_op (ee_op (ee_op (ee_var rfl) ee_i (ot_ixT rfl)) (ee_op (ee_var rfl) ee_i (ot_ixT rfl)) (ot_mulW (sz_nd hx hy))) (ee_op (ee_op (ee_var rfl) ee_i (ot_ixT rfl)) (ee_op (ee_var rfl) ee_i (ot_ixT rfl)) (ot_mulW (sz_nd hy hx))) ot_lt) (congrArg yB (decide_eq_decide.mpr lt_num))) (Wd.le.refl _)
theorem d__law_reach (R : Raw K mg "_law_reach" LH.s__law_reach) : Def P w K mg base 1 "_law_reach" ["_law_bounds_here"] (sp__law_reach K) := by
  refine def_mk R sc__law_reach (fun _ _ _ _ _ _ us hl => match us, hl with | [_], _ => rfl) (fun _ => rfl) fun f cdv A outer s H E hr => ⟨_, (pss_one (ps_ret (pe_op op_add (pe_ix ix_tup (pv 0) pe_int (fun _ _ => rfl)) (pe_op op_mul pe_int (pe_ix ix_tup (pv 0) pe_int (fun _ _ => rfl)))))), fun b hb W => ?_⟩
  refine ss_ret (ee_op (ee_op (ee_var rfl) ee_i (ot_ixT rfl)) (ee_op ee_i (ee_op (ee_var rfl) ee_i (ot_ixT rfl)) (ot_mul (c2 (by decide)))) ot_add) (Wd.le.refl _)
theorem d__law_lag (R : Raw K mg "_law_lag" LH.s__law_lag) : Def P w K mg base 1 "_law_lag" ["_law_bounds_here"] (sp__law_lag K) := by
  refine def_mk R sc__law_lag (fun _ _ _ _ _ _ us hl => match us, hl with | [_], _ => rfl) (fun _ => rfl) fun f cdv A outer s H E hr => ⟨_, (pss_one (ps_ret (pe_op op_add (pe_ix ix_tup (pv 0) pe_int (fun _ _ => rfl)) (pe_op op_mul pe_int (pe_ix ix_tup (pv 0) pe_int (fun _ _ => rfl)))))), fun b hb W => ?_⟩
  refine ss_ret (ee_op (ee_op (ee_var rfl) ee_i (ot_ixT rfl)) (ee_op ee_i (ee_op (ee_var rfl) ee_i (ot_ixT rfl)) (ot_mul (c2 (by decide)))) ot_add) (Wd.le.refl _)
theorem d__law_rho (R : Raw K mg "_law_rho" LH.s__law_rho) (D__law_over : Def P w K mg base 1 "_law_over" ["_law_n", "_law_d"] (sp__law_over K)) (D__law_lag : Def P w K mg base 1 "_law_lag" ["_law_bounds_here"] (sp__law_lag K)) : Def P w K mg base 2 "_law_rho" ["_law_bounds_here", "_law_ticks"] (sp__law_rho K) := by
  refine def_mk R sc__law_rho (fun _ _ _ _ _ _ us hl => match us, hl with | [_, _], _ => rfl) (fun _ => rfl) fun f cdv A outer s H E hr => ⟨_, (pss_one (ps_ret (pe_cd D__law_over hr (by decide) (pa_cons (pe_cd D__law_lag hr (by decide) (pa_cons (pv 0) pa_nil)) (pa_cons (pv 1) pa_nil))))), fun ⟨b, T⟩ ⟨hb, hT⟩ W => ?_⟩
  refine ss_ret (ee__law_over (ee__law_lag (ee_var rfl) hb) (ee_var rfl) ?_) (Wd.le.refl _)
  have h1 := hT.one
  have h2 := hT.hi
  have h3 : T.natAbs < 2 ^ 240 := by
    have e : ((2 ^ 240 : Nat) : Int) = 2 ^ 240 := by norm_cast
    omega
  exact ⟨by show T ≠ 0; omega, Nat.lt_of_lt_of_le h3 (Nat.pow_le_pow_right (by decide) (by decide))⟩
theorem d__law_corners (R : Raw K mg "_law_corners" LH.s__law_corners) (D__law_lessened : Def P w K mg base 2 "_law_lessened" ["_law_x", "_law_y"] (sp__law_lessened K)) : Def P w K mg base 3 "_law_corners" ["_law_rho_here"] (sp__law_corners K) := by
  refine def_mk R sc__law_corners (fun _ _ _ _ _ _ us hl => match us, hl with | [_], _ => rfl) (fun _ => rfl) fun f cdv A outer s H E hr => ⟨_, (pss_cons (ps_set (i := 1) sc__law_corners.nd rfl (.inl rfl) (pe_cd D__law_lessened hr (by decide) (pa_cons (pe_tup (pa_cons pe_int (pa_cons pe_int pa_nil))) (pa_cons (pv 0) pa_nil))))
      (pss_one (ps_ret (pe_lst (pa_cons (pe_tup (pa_cons (pe_tup (pa_cons pe_int (pa_cons pe_int pa_nil))) (pa_cons (pe_tup (pa_cons pe_int (pa_cons pe_int pa_nil))) pa_nil))) (pa_cons (pe_tup (pa_cons (pv 0) (pa_cons (pe_tup (pa_cons pe_int (pa_cons pe_int pa_nil))) pa_nil))) (pa_cons (pe_tup (pa_cons (pe_tup (pa_cons pe_int (pa_cons pe_int pa_nil))) (pa_cons (pv 1) pa_nil))) (pa_cons (pe_tup (pa_cons (pe_tup (pa_cons pe_int (pa_cons pe_int pa_nil))) (pa_cons (pe_tup (pa_cons pe_int (pa_cons pe_int pa_nil))) pa_nil))) (pa_cons (pe_tup (pa_cons (pv 1) (pa_cons (pe_tup (pa_cons pe_int (pa_cons pe_int pa_nil))) pa_nil))) (pa_cons (pe_tup (pa_cons (pe_tup (pa_cons pe_int (pa_cons pe_int pa_nil))) (pa_cons (pv 0) pa_nil))) pa_nil)))))))))), fun r ⟨⟨h0, h1⟩, h2⟩ W => ?_⟩
  refine ss_asg (ee__law_lessened ee_q1 (ee_var rfl) ⟨sz1, (sh_r h0 h1 h2).sz⟩) ?_
  refine ss_ret (ee_lst (ea_cons (ee_tup (ea_cons ee_q0 (ea_cons ee_q0 ea_nil)) (lle rfl)) (ea_cons (ee_tup (ea_cons (ee_var rfl) (ea_cons ee_q0 ea_nil)) (lle rfl)) (ea_cons (ee_tup (ea_cons ee_q1 (ea_cons (ee_var rfl) ea_nil)) (lle rfl)) (ea_cons (ee_tup (ea_cons ee_q1 (ea_cons ee_q1 ea_nil)) (lle rfl)) (ea_cons (ee_tup (ea_cons (ee_var rfl) (ea_cons ee_q1 ea_nil)) (lle rfl)) (ea_cons (ee_tup (ea_cons ee_q0 (ea_cons (ee_var rfl) ea_nil)) (lle rfl)) ea_nil)))))) (lle rfl)) (Wd.le.refl _)
theorem d__law_dot (R : Raw K mg "_law_dot" LH.s__law_dot) (D__law_added : Def P w K mg base 2 "_law_added" ["_law_x", "_law_y"] (sp__law_added K)) (D__law_multiplied : Def P w K mg base 2 "_law_multiplied" ["_law_x", "_law_y"] (sp__law_multiplied K)) : Def P w K mg base 3 "_law_dot" ["_law_one", "_law_other"] (sp__law_dot K) := by
  refine def_mk R sc__law_dot (fun _ _ _ _ _ _ us hl => match us, hl with | [_, _], _ => rfl) (fun _ => rfl) fun f cdv A outer s H E hr => ⟨_, (pss_one (ps_ret (pe_cd D__law_added hr (by decide) (pa_cons (pe_cd D__law_multiplied hr (by decide) (pa_cons (pe_ix ix_list (pv 0) pe_int (fun _ _ => rfl)) (pa_cons (pe_ix ix_list (pv 1) pe_int (fun _ _ => rfl)) pa_nil))) (pa_cons (pe_cd D__law_multiplied hr (by decide) (pa_cons (pe_ix ix_list (pv 0) pe_int (fun _ _ => rfl)) (pa_cons (pe_ix ix_list (pv 1) pe_int (fun _ _ => rfl)) pa_nil))) pa_nil))))), fun ⟨p, q⟩ ⟨⟨h1, h2⟩, h3, h4⟩ W => ?_⟩
  refine ss_ret (ee__law_added (ee__law_multiplied (ee_op (ee_var rfl) ee_i (ot_ixL rfl)) (ee_op (ee_var rfl) ee_i (ot_ixL rfl)) ⟨h1.sz, h3.sz⟩) (ee__law_multiplied (ee_op (ee_var rfl) ee_i (ot_ixL rfl)) (ee_op (ee_var rfl) ee_i (ot_ixL rfl)) ⟨h2.sz, h4.sz⟩) ⟨sh_mul h1 h3, sh_mul h2 h4⟩) (Wd.le.refl _)
theorem d__law_gap_squared (R : Raw K mg "_law_gap_squared" LH.s__law_gap_squared) (D__law_gap : Def P w K mg base 3 "_law_gap" ["_law_leg", "_law_other", "_law_s", "_law_t"] (sp__law_gap K)) (D__law_dot : Def P w K mg base 3 "_law_dot" ["_law_one", "_law_other"] (sp__law_dot K)) : Def P w K mg base 4 "_law_gap_squared" ["_law_leg", "_law_other", "_law_s", "_law_t"] (sp__law_gap_squared K) := by
  refine def_mk R sc__law_gap_squared (fun _ _ _ _ _ _ us hl => match us, hl with | [_, _, _, _], _ => rfl) (fun _ => rfl) fun f cdv A outer s H E hr => ⟨_, (pss_cons (ps_set (i := 4) sc__law_gap_squared.nd rfl (.inl rfl) (pe_cd D__law_gap hr (by decide) (pa_cons (pv 0) (pa_cons (pv 1) (pa_cons (pv 2) (pa_cons (pv 3) pa_nil))))))
      (pss_one (ps_ret (pe_cd D__law_dot hr (by decide) (pa_cons (pv 4) (pa_cons (pv 4) pa_nil)))))), fun ⟨a, b, s, t⟩ ⟨la, lb, D, d0, d1, hs, ht⟩ W => ?_⟩
  have g1 := sh_in (gx_in la lb hs ht d0) d0 d1 (show _ ≤ 2 ^ 16 by decide) (by decide)
  have g2 := sh_in (gy_in la lb hs ht d0) d0 d1 (show _ ≤ 2 ^ 16 by decide) (by decide)
  refine ss_asg (ee__law_gap (ee_var rfl) (ee_var rfl) (ee_var rfl) (ee_var rfl) ⟨la, lb, D, d0, d1, hs, ht⟩) ?_
  refine ss_ret (ee__law_dot (p := (gx a b s t, gy a b s t)) (q := (gx a b s t, gy a b s t)) (ee_var rfl) (ee_var rfl) ⟨⟨g1, g2⟩, g1, g2⟩) (Wd.le.refl _)
theorem d__law_are_less (R : Raw K mg "_law_are_less" LH.s__law_are_less) (D__law_is_below : Def P w K mg base 1 "_law_is_below" ["_law_x", "_law_y"] (sp__law_is_below K)) : Def P w K mg base 2 "_law_are_less" ["_law_one", "_law_other"] (sp__law_are_less K) := by
  refine def_mk R sc__law_are_less (fun _ _ _ _ _ _ us hl => match us, hl with | [_, _], _ => rfl) (fun _ => rfl) fun f cdv A outer s H E hr => ⟨_, (pss_cons (ps_if (pt_cmpR (op_neD hr.units) (pe_ix ix_tup (pv 0) pe_int (fun _ _ => rfl)) (pe_ix ix_tup (pv 1) pe_int (fun _ _ => rfl)) (nomark _)) (pss_one (ps_ret (pe_cd D__law_is_below hr (by decide) (pa_cons (pe_ix ix_tup (pv 0) pe_int (fun _ _ => rfl)) (pa_cons (pe_ix ix_tup (pv 1) pe_int (fun _ _ => rfl)) pa_nil))))) pss_nil)
      (pss_one (ps_ret (pe_cd D__law_is_below hr (by decide) (pa_cons (pe_ix ix_tup (pv 0) pe_int (fun _ _ => rfl)) (pa_cons (pe_ix ix_tup (pv 1) pe_int (fun _ _ => rfl)) pa_nil)))))), fun ⟨p, q⟩ ⟨⟨h1, h2⟩, h3, h4⟩ W => ?_⟩
  refine ss_if (b := !decide (p.1 = q.1)) (et_test (ee_op (ee_op (ee_var rfl) ee_i (ot_ixT rfl)) (ee_op (ee_var rfl) ee_i (ot_ixT rfl)) (ot_neD da_F da_F rfl rfl eqv_F))) (fun hb => ?_) (fun hb => ?_)
  · have hb : p.1 ≠ q.1 := by simpa using hb
    exact ss_ret1 (ee_eq (ee__law_is_below (ee_op (ee_var rfl) ee_i (ot_ixT rfl)) (ee_op (ee_var rfl) ee_i (ot_ixT rfl)) ⟨h1, h3⟩) (congrArg yB (if_pos hb).symm)) (Wd.le.refl _)
  · have hb : ¬ p.1 ≠ q.1 := by simpa using hb
    exact ss_skip (ss_ret (ee_eq (ee__law_is_below (ee_op (ee_var rfl) ee_i (ot_ixT rfl)) (ee_op (ee_var rfl) ee_i (ot_ixT rfl)) ⟨h2, h4⟩) (congrArg yB (if_neg hb).symm)) (Wd.le.refl _))
end
end LT
end
section
set_option Elab.async false
set_option linter.all false
set_option maxRecDepth 100000
set_option maxHeartbeats 1000000
set_option exponentiation.threshold 20000
namespace LT
open PySem PySem.Spec PyProof.Rows L2 LL
abbrev N__law_on_edge : List Str := ["_law_leg", "_law_other", "_law_one", "_law_two", "_law_first", "_law_last", "_law_run", "_law_steep", "_law_part", "_law_s", "_law_t"]
theorem sc__law_on_edge : FnScope N__law_on_edge ["_law_leg", "_law_other", "_law_one", "_law_two"] (defScope LH.s__law_on_edge) := ⟨rfl, rfl, rfl, by decide +kernel, rfl, by decide +kernel, by decide +kernel⟩
section
variable {P : Program} {w : World} {K : PySem.W.Frag} {mg : Str → Option Value} {base : Heap} {cN cO cA cW : Addr}
theorem sh_div {x y : Rat} (hx : Sh x) (hy : Sh y) (h : y ≠ 0) : Sz (x / y) := by
  have h0 := num_le_divInt (x.num * y.den) (d := (x.den : Int) * y.num) (Int.mul_ne_zero (den_ne x) (fun z => h (Rat.num_eq_zero.mp z)))
  rw [div_eq] at h0
  have n1 : (x.num * (y.den : Int)).natAbs < 2 ^ (1990 + 1990) := wide_lt hx.1 (by have := hy.2; omega)
  have n2 : ((x.den : Int) * y.num).natAbs < 2 ^ (1990 + 1990) := wide_lt (by have := hx.2; omega) hy.1
  have up : (2 : Nat) ^ (1990 + 1990) ≤ 2 ^ 4000 := Nat.pow_le_pow_right (by decide) (by decide)
  exact ⟨by omega, by omega⟩
theorem sh_neg1 {x : Rat} (h : Sh x) : Sh (((-1 : Int) : Rat) * x) := by
  have e : ((-1 : Int) : Rat) * x = -x := by
    have : ((-1 : Int) : Rat) = -1 := rfl
    rw [this]
    grind
  rw [e]
  refine ⟨?_, ?_⟩
  · rw [Rat.neg_num, Int.natAbs_neg]
    exact h.1
  · rw [Rat.neg_den]
    exact h.2
theorem d__law_gap (R : Raw K mg "_law_gap" LH.s__law_gap) (D__law_added : Def P w K mg base 2 "_law_added" ["_law_x", "_law_y"] (sp__law_added K)) (D__law_multiplied : Def P w K mg base 2 "_law_multiplied" ["_law_x", "_law_y"] (sp__law_multiplied K)) (D__law_lessened : Def P w K mg base 2 "_law_lessened" ["_law_x", "_law_y"] (sp__law_lessened K)) : Def P w K mg base 3 "_law_gap" ["_law_leg", "_law_other", "_law_s", "_law_t"] (sp__law_gap K) := by
  refine def_mk R sc__law_gap (fun _ _ _ _ _ _ us hl => match us, hl with | [_, _, _, _], _ => rfl) (fun _ => rfl) fun f cdv A outer s H E hr => ⟨_, (pss_cons (ps_set (i := 4) sc__law_gap.nd rfl (.inl rfl) (pe_lst pa_nil))
      (pss_cons (ps_for PassesOwn.never rfl (pi_tup (pe_tup (pa_cons pe_int (pa_cons pe_int pa_nil)))) (pg_name (i := 5) sc__law_gap.nd rfl (.inl rfl))
      (pss_cons (ps_set (i := 6) sc__law_gap.nd rfl (.inl rfl) (pe_cd D__law_added hr (by decide) (pa_cons (pe_tup (pa_cons (pe_ix ix_tup (pe_ix ix_tup (pv 0) pe_int (fun _ _ => rfl)) (pv 5) (fun _ _ => rfl)) (pa_cons pe_int pa_nil))) (pa_cons (pe_cd D__law_multiplied hr (by decide) (pa_cons (pv 2) (pa_cons (pe_tup (pa_cons (pe_op op_sub (pe_ix ix_tup (pe_ix ix_tup (pv 0) pe_int (fun _ _ => rfl)) (pv 5) (fun _ _ => rfl)) (pe_ix ix_tup (pe_ix ix_tup (pv 0) pe_int (fun _ _ => rfl)) (pv 5) (fun _ _ => rfl))) (pa_cons pe_int pa_nil))) pa_nil))) pa_nil))))
      (pss_cons (ps_set (i := 7) sc__law_gap.nd rfl (.inl rfl) (pe_cd D__law_added hr (by decide) (pa_cons (pe_tup (pa_cons (pe_ix ix_tup (pe_ix ix_tup (pv 1) pe_int (fun _ _ => rfl)) (pv 5) (fun _ _ => rfl)) (pa_cons pe_int pa_nil))) (pa_cons (pe_cd D__law_multiplied hr (by decide) (pa_cons (pv 3) (pa_cons (pe_tup (pa_cons (pe_op op_sub (pe_ix ix_tup (pe_ix ix_tup (pv 1) pe_int (fun _ _ => rfl)) (pv 5) (fun _ _ => rfl)) (pe_ix ix_tup (pe_ix ix_tup (pv 1) pe_int (fun _ _ => rfl)) (pv 5) (fun _ _ => rfl))) (pa_cons pe_int pa_nil))) pa_nil))) pa_nil))))
      (pss_one (ps_expr (pe_bm PySem.F.plainAttrs_list PySem.F.slot_list_append PySem.F.type_list_append mt_append (pv 4) (pa_cons (pe_cd D__law_lessened hr (by decide) (pa_cons (pv 7) (pa_cons (pv 6) pa_nil))) pa_nil)))))))
      (pss_one (ps_ret (pv 4))))), fun ⟨a, b, s, t⟩ ⟨la, lb, D, d0, d1, hs, ht⟩ W => ?_⟩
  have k1 : Sz s := (sh_part hs d0 d1).sz
  have k1' : Sz t := (sh_part ht d0 d1).sz
  have i1 : ∀ {i : Int}, i.natAbs ≤ 16384 → Sz (i : Rat) := fun h => sz_int (Nat.le_trans h (by decide))
  have k2 : ∀ {i : Int}, i.natAbs ≤ 16384 → Sz (s * (i : Rat)) := fun {i} h => (mul1 hs i (V := 16384) h).Sz d0 d1 (show _ ≤ 2 ^ 14 by decide) (by decide)
  have k3 : ∀ {i : Int}, i.natAbs ≤ 16384 → Sz (t * (i : Rat)) := fun {i} h => (mul1 ht i (V := 16384) h).Sz d0 d1 (show _ ≤ 2 ^ 14 by decide) (by decide)
  have p1 : Sz (plx a s) := (plx_in la hs d0).Sz d0 d1 (show _ ≤ 2 ^ 15 by decide) (by decide)
  have p2 : Sz (ply a s) := (ply_in la hs d0).Sz d0 d1 (show _ ≤ 2 ^ 15 by decide) (by decide)
  have p3 : Sz (plx b t) := (plx_in lb ht d0).Sz d0 d1 (show _ ≤ 2 ^ 15 by decide) (by decide)
  have p4 : Sz (ply b t) := (ply_in lb ht d0).Sz d0 d1 (show _ ≤ 2 ^ 15 by decide) (by decide)
  have q1 : ∀ {i : Int}, i.natAbs ≤ 8192 → Sz (i : Rat) := fun h => sz_int (Nat.le_trans h (by decide))
  have q2 : ∀ {i j : Int}, i.natAbs ≤ 8192 → j.natAbs ≤ 8192 → (i - j).natAbs ≤ 16384 := fun h k => by omega
  clear d1
  show SS _ [some (yG K a), some (yG K b), some (yF K s), some (yF K t), none, none, none, none] W _ W (yQ K (gx a b s t, gy a b s t))
  refine ss_newL (i := 4) (Rs := []) ea_nil (lle rfl) fun l hl => ?_
  show SS _ [some (yG K a), some (yG K b), some (yF K s), some (yF K t), some (yAt l), none, none, none] (wM W l []) _ W (yQ K (gx a b s t, gy a b s t))
  refine ss_for (α := Nat) (n := 2) (ei_tup (Rs := [yI 0, yI 1]) (ee_tup (ea_cons ee_i (ea_cons ee_i ea_nil)) (lle rfl))) (fun i k => k = i) (fun _ => [some (yG K a), some (yG K b), some (yF K s), some (yF K t), some (yAt l), none, none, none]) (fun k => wM W l (([gx a b s t, gy a b s t].map (yF K)).take k)) (fun i _ => [some (yG K a), some (yG K b), some (yF K s), some (yF K t), some (yAt l), some ([yI 0, yI 1].getD i yN), none, none]) 0 rfl (fun σ G H o w => ⟨o, w⟩) (fun i k hi hk => gt_name) (fun i k hi hk => ?_) (fun k hk => ?_)
  · subst hk
    rcases k with _ | _ | k
    · show SS _ [some (yG K a), some (yG K b), some (yF K s), some (yF K t), some (yAt l), some (yI 0), none, none] (wM W l []) _ W (yQ K (gx a b s t, gy a b s t))
      refine ss_asg (R := yF K (plx a s)) (ee__law_added (ee_fr (ee_op (ee_op (ee_var rfl) ee_i (ot_ixT rfl)) (ee_var rfl) (ot_ixT rfl))) (ee__law_multiplied (ee_var rfl) (ee_fr (ee_op (ee_op (ee_op (ee_var rfl) ee_i (ot_ixT rfl)) (ee_var rfl) (ot_ixT rfl)) (ee_op (ee_op (ee_var rfl) ee_i (ot_ixT rfl)) (ee_var rfl) (ot_ixT rfl)) ot_sub)) ⟨k1, i1 (q2 la.u la.x)⟩) ⟨q1 la.x, k2 (q2 la.u la.x)⟩) ?_
      show SS _ [some (yG K a), some (yG K b), some (yF K s), some (yF K t), some (yAt l), some (yI 0), some (yF K (plx a s)), none] (wM W l []) _ W (yQ K (gx a b s t, gy a b s t))
      refine ss_asg (R := yF K (plx b t)) (ee__law_added (ee_fr (ee_op (ee_op (ee_var rfl) ee_i (ot_ixT rfl)) (ee_var rfl) (ot_ixT rfl))) (ee__law_multiplied (ee_var rfl) (ee_fr (ee_op (ee_op (ee_op (ee_var rfl) ee_i (ot_ixT rfl)) (ee_var rfl) (ot_ixT rfl)) (ee_op (ee_op (ee_var rfl) ee_i (ot_ixT rfl)) (ee_var rfl) (ot_ixT rfl)) ot_sub)) ⟨k1', i1 (q2 lb.u lb.x)⟩) ⟨q1 lb.x, k3 (q2 lb.u lb.x)⟩) ?_
      show SS _ [some (yG K a), some (yG K b), some (yF K s), some (yF K t), some (yAt l), some (yI 0), some (yF K (plx a s)), some (yF K (plx b t))] (wM W l []) _ W (yQ K (gx a b s t, gy a b s t))
      refine ss_last (ss_append (i := 4) rfl (ee__law_lessened (ee_var rfl) (ee_var rfl) ⟨p3, p1⟩) (by decide) (ss_next fun σ G H o s' w => ⟨1, rfl, ((o.forget 5).forget 6).forget 7, w⟩))
    · show SS _ [some (yG K a), some (yG K b), some (yF K s), some (yF K t), some (yAt l), some (yI 1), none, none] (wM W l [yF K (gx a b s t)]) _ W (yQ K (gx a b s t, gy a b s t))
      refine ss_asg (R := yF K (ply a s)) (ee__law_added (ee_fr (ee_op (ee_op (ee_var rfl) ee_i (ot_ixT rfl)) (ee_var rfl) (ot_ixT rfl))) (ee__law_multiplied (ee_var rfl) (ee_fr (ee_op (ee_op (ee_op (ee_var rfl) ee_i (ot_ixT rfl)) (ee_var rfl) (ot_ixT rfl)) (ee_op (ee_op (ee_var rfl) ee_i (ot_ixT rfl)) (ee_var rfl) (ot_ixT rfl)) ot_sub)) ⟨k1, i1 (q2 la.v la.y)⟩) ⟨q1 la.y, k2 (q2 la.v la.y)⟩) ?_
      show SS _ [some (yG K a), some (yG K b), some (yF K s), some (yF K t), some (yAt l), some (yI 1), some (yF K (ply a s)), none] (wM W l [yF K (gx a b s t)]) _ W (yQ K (gx a b s t, gy a b s t))
      refine ss_asg (R := yF K (ply b t)) (ee__law_added (ee_fr (ee_op (ee_op (ee_var rfl) ee_i (ot_ixT rfl)) (ee_var rfl) (ot_ixT rfl))) (ee__law_multiplied (ee_var rfl) (ee_fr (ee_op (ee_op (ee_op (ee_var rfl) ee_i (ot_ixT rfl)) (ee_var rfl) (ot_ixT rfl)) (ee_op (ee_op (ee_var rfl) ee_i (ot_ixT rfl)) (ee_var rfl) (ot_ixT rfl)) ot_sub)) ⟨k1', i1 (q2 lb.v lb.y)⟩) ⟨q1 lb.y, k3 (q2 lb.v lb.y)⟩) ?_
      show SS _ [some (yG K a), some (yG K b), some (yF K s), some (yF K t), some (yAt l), some (yI 1), some (yF K (ply a s)), some (yF K (ply b t))] (wM W l [yF K (gx a b s t)]) _ W (yQ K (gx a b s t, gy a b s t))
      refine ss_last (ss_append (i := 4) rfl (ee__law_lessened (ee_var rfl) (ee_var rfl) ⟨p4, p2⟩) (show 1 < 100000 by decide) (ss_next fun σ G H o s' w => ⟨2, rfl, ((o.forget 5).forget 6).forget 7, w⟩))
    · exact absurd hi (by omega)
  · subst hk
    refine ss_freeze (i := 4) rfl (ss_ret (ee_var rfl) (Wd.le.refl _))
theorem d__law_on_edge (B : Blt K mg cN cO cA cW) (R : Raw K mg "_law_on_edge" LH.s__law_on_edge) (D__law_added : Def P w K mg base 2 "_law_added" ["_law_x", "_law_y"] (sp__law_added K)) (D__law_gap : Def P w K mg base 3 "_law_gap" ["_law_leg", "_law_other", "_law_s", "_law_t"] (sp__law_gap K)) (D__law_lessened : Def P w K mg base 2 "_law_lessened" ["_law_x", "_law_y"] (sp__law_lessened K)) (D__law_dot : Def P w K mg base 3 "_law_dot" ["_law_one", "_law_other"] (sp__law_dot K)) (D__law_divided : Def P w K mg base 2 "_law_divided" ["_law_x", "_law_y"] (sp__law_divided K)) (D__law_are_less : Def P w K mg base 2 "_law_are_less" ["_law_one", "_law_other"] (sp__law_are_less K)) (D__law_multiplied : Def P w K mg base 2 "_law_multiplied" ["_law_x", "_law_y"] (sp__law_multiplied K)) (D__law_gap_squared : Def P w K mg base 4 "_law_gap_squared" ["_law_leg", "_law_other", "_law_s", "_law_t"] (sp__law_gap_squared K)) (D__law_is_below : Def P w K mg base 1 "_law_is_below" ["_law_x", "_law_y"] (sp__law_is_below K)) : Def P w K mg base 5 "_law_on_edge" ["_law_leg", "_law_other", "_law_one", "_law_two"] (sp__law_on_edge K) := by
  refine def_mk R sc__law_on_edge (fun _ _ _ _ _ _ us hl => match us, hl with | [_, _, _, _], _ => rfl) (fun _ => rfl) fun f cdv A outer s H E hr => ⟨_, (pss_cons (ps_par (i := 4) (j := 5) rfl sc__law_on_edge.nd rfl rfl (by decide) rfl rfl (pa_cons (pe_cd D__law_gap hr (by decide) (pa_cons (pv 0) (pa_cons (pv 1) (pa_cons (pe_ix ix_tup (pv 2) pe_int (fun _ _ => rfl)) (pa_cons (pe_ix ix_tup (pv 2) pe_int (fun _ _ => rfl)) pa_nil))))) (pa_cons (pe_cd D__law_gap hr (by decide) (pa_cons (pv 0) (pa_cons (pv 1) (pa_cons (pe_ix ix_tup (pv 3) pe_int (fun _ _ => rfl)) (pa_cons (pe_ix ix_tup (pv 3) pe_int (fun _ _ => rfl)) pa_nil))))) pa_nil)) (by rfl))
      (pss_cons (ps_set (i := 6) sc__law_on_edge.nd rfl (.inl rfl) (pe_lst (pa_cons (pe_cd D__law_lessened hr (by decide) (pa_cons (pe_ix ix_list (pv 5) pe_int (fun _ _ => rfl)) (pa_cons (pe_ix ix_list (pv 4) pe_int (fun _ _ => rfl)) pa_nil))) (pa_cons (pe_cd D__law_lessened hr (by decide) (pa_cons (pe_ix ix_list (pv 5) pe_int (fun _ _ => rfl)) (pa_cons (pe_ix ix_list (pv 4) pe_int (fun _ _ => rfl)) pa_nil))) pa_nil))))
      (pss_cons (ps_par (i := 7) (j := 8) rfl sc__law_on_edge.nd rfl rfl (by decide) rfl rfl (pa_cons (pe_cd D__law_dot hr (by decide) (pa_cons (pv 6) (pa_cons (pv 6) pa_nil))) (pa_cons (pe_tup (pa_cons pe_int (pa_cons pe_int pa_nil))) pa_nil)) (by rfl))
      (pss_cons (ps_if (pt_cmpR op_ne (pe_ix ix_tup (pv 7) pe_int (fun _ _ => rfl)) pe_int (nomark _)) (pss_one (ps_set (i := 8) sc__law_on_edge.nd rfl (.inl rfl) (pe_cd D__law_divided hr (by decide) (pa_cons (pe_cd D__law_multiplied hr (by decide) (pa_cons (pe_tup (pa_cons (pe_un un_neg pe_int) (pa_cons pe_int pa_nil))) (pa_cons (pe_cd D__law_dot hr (by decide) (pa_cons (pv 4) (pa_cons (pv 6) pa_nil))) pa_nil))) (pa_cons (pv 7) pa_nil))))) (pss_one (ps_if (pt_val (pe_cd D__law_are_less hr (by decide) (pa_cons (pv 3) (pa_cons (pv 2) pa_nil)))) (pss_one (ps_set (i := 8) sc__law_on_edge.nd rfl (.inl rfl) (pe_tup (pa_cons pe_int (pa_cons pe_int pa_nil))))) pss_nil)))
      (pss_cons (ps_set (i := 8) sc__law_on_edge.nd rfl (.inl rfl) (pe_ifExp (pt_cmpR op_lt (pe_ix ix_tup (pv 8) pe_int (fun _ _ => rfl)) pe_int (nomark _)) (pe_tup (pa_cons pe_int (pa_cons pe_int pa_nil))) (pe_ifExp (pt_val (pe_cd D__law_is_below hr (by decide) (pa_cons (pe_tup (pa_cons pe_int (pa_cons pe_int pa_nil))) (pa_cons (pv 8) pa_nil)))) (pe_tup (pa_cons pe_int (pa_cons pe_int pa_nil))) (pv 8))))
      (pss_cons (ps_set (i := 9) sc__law_on_edge.nd rfl (.inl rfl) (pe_cd D__law_added hr (by decide) (pa_cons (pe_ix ix_tup (pv 2) pe_int (fun _ _ => rfl)) (pa_cons (pe_cd D__law_multiplied hr (by decide) (pa_cons (pv 8) (pa_cons (pe_cd D__law_lessened hr (by decide) (pa_cons (pe_ix ix_tup (pv 3) pe_int (fun _ _ => rfl)) (pa_cons (pe_ix ix_tup (pv 2) pe_int (fun _ _ => rfl)) pa_nil))) pa_nil))) pa_nil))))
      (pss_cons (ps_set (i := 10) sc__law_on_edge.nd rfl (.inl rfl) (pe_cd D__law_added hr (by decide) (pa_cons (pe_ix ix_tup (pv 2) pe_int (fun _ _ => rfl)) (pa_cons (pe_cd D__law_multiplied hr (by decide) (pa_cons (pv 8) (pa_cons (pe_cd D__law_lessened hr (by decide) (pa_cons (pe_ix ix_tup (pv 3) pe_int (fun _ _ => rfl)) (pa_cons (pe_ix ix_tup (pv 2) pe_int (fun _ _ => rfl)) pa_nil))) pa_nil))) pa_nil))))
      (pss_one (ps_ret (pe_tup (pa_cons (pe_cd D__law_gap_squared hr (by decide) (pa_cons (pv 0) (pa_cons (pv 1) (pa_cons (pv 9) (pa_cons (pv 10) pa_nil))))) (pa_cons (pv 9) (pa_cons (pv 10) pa_nil))))))))))))), fun ⟨a, b, p, q, T⟩ ⟨la, lb, hT, hT2, hp, hq⟩ W => ?_⟩
  have hT9 : T < 2 ^ 900 := Nat.lt_of_lt_of_le hT2 (Nat.pow_le_pow_right (by decide) (by decide))
  have g1 := gx_in la lb hp.s hp.t hT
  have g2 := gy_in la lb hp.s hp.t hT
  have g3 := gx_in la lb hq.s hq.t hT
  have g4 := gy_in la lb hq.s hq.t hT
  have z1 : ∀ {x : Rat}, InD T 49152 x → Sh x := fun h => sh_in h hT hT2 (show _ ≤ 2 ^ 16 by decide) (by decide)
  have z2 : ∀ {x : Rat}, InD T (49152 + 49152) x → Sh x := fun h => sh_in h hT hT2 (show _ ≤ 2 ^ 17 by decide) (by decide)
  have a1 := g3.sub g1 hT
  have a2 := g4.sub g2 hT
  have hTT : T * T ≠ 0 := Nat.mul_ne_zero hT hT
  have sB : Sh (bQ a b p q) := sh_in (sq_in (g1.mono (show 49152 ≤ 98304 by decide)) (g2.mono (show 49152 ≤ 98304 by decide)) a1 a2 hT) hTT (sq_lt hT2) (show _ ≤ 2 ^ 35 by decide) (by decide)
  have sA : Sh (aQ a b p q) := sh_in (sq_in a1 a2 a1 a2 hT) hTT (sq_lt hT2) (show _ ≤ 2 ^ 35 by decide) (by decide)
  have zp : ∀ {x : Rat}, Part T x → Sz x := fun h => (sh_part h hT hT9).sz
  have zd : ∀ {x y : Rat}, Part T x → Part T y → Sz (x - y) := fun h k => (h.inD.sub k.inD hT).Sz hT hT2 (show _ ≤ 2 ^ 1 by decide) (by decide)
  have zprt : Sz (prt (aQ a b p q) (bQ a b p q) (lessB q p)) := by
    unfold prt
    split
    · rename_i h
      exact sh_div (sh_neg1 sB) sA h
    · split
      · exact sz1
      · exact sz0
  obtain ⟨D, d0, dl, d2⟩ := cut_part (lessB q p) la lb hp hq hT
  have hD : D < 2 ^ 600 := Nat.lt_of_le_of_lt dl (Nat.lt_of_lt_of_le (Nat.mul_lt_mul_of_pos_left (sq_lt hT2) (by decide)) (by rw [← Nat.pow_add]; exact Nat.pow_le_pow_right (by decide) (by decide)))
  have hDT : D * T < 2 ^ (600 + 250) := by rw [Nat.pow_add]; exact Nat.mul_lt_mul'' hD hT2
  have zc : Sz (cutP (prt (aQ a b p q) (bQ a b p q) (lessB q p))) := d2.inD.Sz d0 hD (show 1 ≤ 2 ^ 0 by decide) (by decide)
  have zm : ∀ {x y : Rat}, Part T x → Part T y → Sz (cutP (prt (aQ a b p q) (bQ a b p q) (lessB q p)) * (x - y)) := fun h k => (d2.inD.mul (h.inD.sub k.inD hT)).Sz (Nat.mul_ne_zero d0 hT) hDT (show _ ≤ 2 ^ 1 by decide) (by decide)
  have hpt : Pt (T * D) (onE p q (cutP (prt (aQ a b p q) (bQ a b p q) (lessB q p)))) := onE_pt hp hq d2 hT d0
  have hTD : T * D < 2 ^ 900 := Nat.lt_of_lt_of_le (by rw [Nat.mul_comm]; exact hDT) (Nat.pow_le_pow_right (by decide) (by decide))
  have eok : EdgeOk a b p q T (onE p q (cutP (prt (aQ a b p q) (bQ a b p q) (lessB q p)))).1 (onE p q (cutP (prt (aQ a b p q) (bQ a b p q) (lessB q p)))).2 := edge_ok (lessB q p) la lb hp hq hT rfl
  clear hDT hTD
  have hTD : T * D < 2 ^ 900 := Nat.lt_of_lt_of_le (show T * D < 2 ^ (250 + 600) by rw [Nat.pow_add]; exact Nat.mul_lt_mul'' hT2 hD) (Nat.pow_le_pow_right (by decide) (by decide))
  have k1 : PreG a b p.1 p.2 := ⟨la, lb, T, hT, hT9, hp.s, hp.t⟩
  have k2 : PreG a b q.1 q.2 := ⟨la, lb, T, hT, hT9, hq.s, hq.t⟩
  clear hT2 hT9 hD
  show SS _ [some (yG K a), some (yG K b), some (yP K p), some (yP K q), none, none, none, none, none, none, none] W _ W (yE fun x : Rat × Rat => yW (EdgeOk a b p q T x.1 x.2) (yR K (ff a b x.1 x.2) x.1 x.2))
  refine ss_par (Ra := yQ K (gx a b p.1 p.2, gy a b p.1 p.2)) (Rb := yQ K (gx a b q.1 q.2, gy a b q.1 q.2)) (ea_cons (ee__law_gap (ee_var rfl) (ee_var rfl) (ee_op (ee_var rfl) ee_i (ot_ixT rfl)) (ee_op (ee_var rfl) ee_i (ot_ixT rfl)) k1) (ea_cons (ee__law_gap (ee_var rfl) (ee_var rfl) (ee_op (ee_var rfl) ee_i (ot_ixT rfl)) (ee_op (ee_var rfl) ee_i (ot_ixT rfl)) k2) ea_nil)) ?_
  show SS _ [some (yG K a), some (yG K b), some (yP K p), some (yP K q), some (yQ K (gx a b p.1 p.2, gy a b p.1 p.2)), some (yQ K (gx a b q.1 q.2, gy a b q.1 q.2)), none, none, none, none, none] W _ W (yE fun x : Rat × Rat => yW (EdgeOk a b p q T x.1 x.2) (yR K (ff a b x.1 x.2) x.1 x.2))
  refine ss_asg (R := yQ K (gx a b q.1 q.2 - gx a b p.1 p.2, gy a b q.1 q.2 - gy a b p.1 p.2)) (ee_lst (ea_cons (ee__law_lessened (ee_op (ee_var rfl) ee_i (ot_ixL rfl)) (ee_op (ee_var rfl) ee_i (ot_ixL rfl)) ⟨(z1 g3).sz, (z1 g1).sz⟩) (ea_cons (ee__law_lessened (ee_op (ee_var rfl) ee_i (ot_ixL rfl)) (ee_op (ee_var rfl) ee_i (ot_ixL rfl)) ⟨(z1 g4).sz, (z1 g2).sz⟩) ea_nil)) (lle rfl)) ?_
  show SS _ [some (yG K a), some (yG K b), some (yP K p), some (yP K q), some (yQ K (gx a b p.1 p.2, gy a b p.1 p.2)), some (yQ K (gx a b q.1 q.2, gy a b q.1 q.2)), some (yQ K (gx a b q.1 q.2 - gx a b p.1 p.2, gy a b q.1 q.2 - gy a b p.1 p.2)), none, none, none, none] W _ W (yE fun x : Rat × Rat => yW (EdgeOk a b p q T x.1 x.2) (yR K (ff a b x.1 x.2) x.1 x.2))
  refine ss_par (Ra := yF K (aQ a b p q)) (Rb := yF K 0) (ea_cons (ee_eq (ee__law_dot (p := (gx a b q.1 q.2 - gx a b p.1 p.2, gy a b q.1 q.2 - gy a b p.1 p.2)) (q := (gx a b q.1 q.2 - gx a b p.1 p.2, gy a b q.1 q.2 - gy a b p.1 p.2)) (ee_var rfl) (ee_var rfl) ⟨⟨z2 a1, z2 a2⟩, z2 a1, z2 a2⟩) rfl) (ea_cons ee_q0 ea_nil)) ?_
  show SS _ [some (yG K a), some (yG K b), some (yP K p), some (yP K q), some (yQ K (gx a b p.1 p.2, gy a b p.1 p.2)), some (yQ K (gx a b q.1 q.2, gy a b q.1 q.2)), some (yQ K (gx a b q.1 q.2 - gx a b p.1 p.2, gy a b q.1 q.2 - gy a b p.1 p.2)), some (yF K (aQ a b p q)), some (yF K 0), none, none] W _ W (yE fun x : Rat × Rat => yW (EdgeOk a b p q T x.1 x.2) (yR K (ff a b x.1 x.2) x.1 x.2))
  refine ss_ifJ (b := !decide ((aQ a b p q).num = 0)) [some (yG K a), some (yG K b), some (yP K p), some (yP K q), none, none, none, none, some (yF K (prt (aQ a b p q) (bQ a b p q) (lessB q p))), none, none] W (et_test (ee_op (ee_op (ee_var rfl) ee_i (ot_ixT rfl)) ee_i ot_neI)) (fun hb => ?yes) (fun hb => ?no) ?rest
  case yes =>
    have hn : (aQ a b p q).num ≠ 0 := by simpa using hb
    have hA : aQ a b p q ≠ 0 := fun z => hn (Rat.num_eq_zero.mpr z)
    refine ss_last (ss_asg (R := yF K (prt (aQ a b p q) (bQ a b p q) (lessB q p))) (ee_eq (ee__law_divided (x := ((-1 : Int) : Rat) * bQ a b p q) (ee__law_multiplied ee_fr1 (ee_eq (ee__law_dot (p := (gx a b p.1 p.2, gy a b p.1 p.2)) (q := (gx a b q.1 q.2 - gx a b p.1 p.2, gy a b q.1 q.2 - gy a b p.1 p.2)) (ee_var rfl) (ee_var rfl) ⟨⟨z1 g1, z1 g2⟩, z2 a1, z2 a2⟩) rfl) ⟨sz_int (by decide), sB.sz⟩) (ee_var rfl) ⟨(sh_neg1 sB).sz, sA.sz, hA⟩) (congrArg (yF K) (if_pos hA).symm)) (ss_nX (fun σ G o => (((o.forget 4).forget 5).forget 6).forget 7) (Wd.le.refl _)))
  case no =>
    have hn : (aQ a b p q).num = 0 := by simpa using hb
    have hA : ¬ aQ a b p q ≠ 0 := fun z => z (Rat.num_eq_zero.mp hn)
    refine ss_last (ss_if (et_B (ee__law_are_less (ee_var rfl) (ee_var rfl) ⟨⟨zp hq.s, zp hq.t⟩, zp hp.s, zp hp.t⟩)) (fun h2 => ?_) (fun h2 => ?_))
    · have e : prt (aQ a b p q) (bQ a b p q) (lessB q p) = 1 := by
        unfold prt
        rw [if_neg hA, if_pos h2]
      rw [e]
      exact ss_asg ee_q1 (ss_nX (fun σ G o => (((o.forget 4).forget 5).forget 6).forget 7) (Wd.le.refl _))
    · have e : prt (aQ a b p q) (bQ a b p q) (lessB q p) = 0 := by
        unfold prt
        rw [if_neg hA, if_neg (by rw [h2]; decide)]
      rw [e]
      exact ss_skip (ss_nX (fun σ G o => (((o.forget 4).forget 5).forget 6).forget 7) (Wd.le.refl _))
  case rest =>
    generalize prt (aQ a b p q) (bQ a b p q) (lessB q p) = x at *
    refine ss_asg (R := yF K (cutP x)) (ee_if (et_test (ee_op (ee_op (ee_var rfl) ee_i (ot_ixT rfl)) ee_i ot_lt)) (fun h => ee_eq ee_q0 (congrArg (yF K) ?c0)) (fun h => ee_if (et_B (ee__law_is_below ee_q1 (ee_var rfl) ⟨sz1, zprt⟩)) (fun h2 => ee_eq ee_q1 (congrArg (yF K) ?c1)) (fun h2 => ee_eq (ee_var rfl) (congrArg (yF K) ?c2)))) ?_
    case c0 => exact (if_pos (num_lt.mp (of_decide_eq_true h))).symm
    case c1 =>
      unfold cutP
      rw [if_neg (fun z => of_decide_eq_false h (num_lt.mpr z)), if_pos (of_decide_eq_true h2)]
    case c2 =>
      unfold cutP
      rw [if_neg (fun z => of_decide_eq_false h (num_lt.mpr z)), if_neg (of_decide_eq_false h2)]
    show SS _ [some (yG K a), some (yG K b), some (yP K p), some (yP K q), none, none, none, none, some (yF K (cutP x)), none, none] W _ W (yE fun x : Rat × Rat => yW (EdgeOk a b p q T x.1 x.2) (yR K (ff a b x.1 x.2) x.1 x.2))
    refine ss_asg (R := yF K (onE p q (cutP x)).1) (ee_eq (ee__law_added (ee_op (ee_var rfl) ee_i (ot_ixT rfl)) (ee__law_multiplied (ee_var rfl) (ee__law_lessened (ee_op (ee_var rfl) ee_i (ot_ixT rfl)) (ee_op (ee_var rfl) ee_i (ot_ixT rfl)) ⟨zp hq.s, zp hp.s⟩) ⟨zc, zd hq.s hp.s⟩) ⟨zp hp.s, zm hq.s hp.s⟩) rfl) ?_
    show SS _ [some (yG K a), some (yG K b), some (yP K p), some (yP K q), none, none, none, none, some (yF K (cutP x)), some (yF K (onE p q (cutP x)).1), none] W _ W (yE fun x : Rat × Rat => yW (EdgeOk a b p q T x.1 x.2) (yR K (ff a b x.1 x.2) x.1 x.2))
    refine ss_asg (R := yF K (onE p q (cutP x)).2) (ee_eq (ee__law_added (ee_op (ee_var rfl) ee_i (ot_ixT rfl)) (ee__law_multiplied (ee_var rfl) (ee__law_lessened (ee_op (ee_var rfl) ee_i (ot_ixT rfl)) (ee_op (ee_var rfl) ee_i (ot_ixT rfl)) ⟨zp hq.t, zp hp.t⟩) ⟨zc, zd hq.t hp.t⟩) ⟨zp hp.t, zm hq.t hp.t⟩) rfl) ?_
    generalize onE p q (cutP x) = y at *
    show SS _ [some (yG K a), some (yG K b), some (yP K p), some (yP K q), none, none, none, none, some (yF K (cutP x)), some (yF K y.1), some (yF K y.2)] W _ W (yE fun x : Rat × Rat => yW (EdgeOk a b p q T x.1 x.2) (yR K (ff a b x.1 x.2) x.1 x.2))
    exact ss_ret (EE.sub (R := yR K (ff a b y.1 y.2) y.1 y.2) (ee_tup (ea_cons (ee__law_gap_squared (ee_var rfl) (ee_var rfl) (ee_var rfl) (ee_var rfl) ⟨la, lb, T * D, Nat.mul_ne_zero hT d0, hTD, hpt.s, hpt.t⟩) (ea_cons (ee_var rfl) (ea_cons (ee_var rfl) ea_nil))) (lle rfl)) fun v H hv => ⟨y, eok, hv⟩) (Wd.le.refl _)
end
end LT
end
section
set_option Elab.async false
set_option linter.all false
set_option maxRecDepth 100000
set_option maxHeartbeats 1000000
set_option exponentiation.threshold 20000
namespace LT
open PySem PySem.Spec PyProof.Rows L2 LL
/-! ### a list handed back, new and not held by anyone -/
def yLf (G0 : Hp) (Rs : List Ty) : Ty := ⟨fun v H => ∃ p xs, v = .ref p ∧ G0 p = none ∧ H p = some (.lst xs) ∧ AllR Rs xs H,
  fun _ _ _ s ⟨p, xs, e, n, h, a⟩ => ⟨p, xs, e, n, s _ _ h, a.mono s⟩⟩
def rmH (G : Hp) (l : Addr) : Hp := fun a => if a = l then none else G a
theorem rm_self {G : Hp} {l : Addr} : rmH G l l = none := if_pos rfl
theorem rm_ne {G : Hp} {l a : Addr} (h : a ≠ l) : rmH G l a = G a := if_neg h
/-- a type that looks at no list -/
def NoL (R : Ty) : Prop := ∀ v G l ys, G l = some (.lst ys) → R.r v G → R.r v (rmH G l)
theorem noL_V {x : V} : NoL (yV x) := fun _ _ _ _ _ h => h
theorem noL_E {α : Type} {F : α → Ty} (h : ∀ a, NoL (F a)) : NoL (yE F) := fun v G l ys hl ⟨a, r⟩ => ⟨a, h a v G l ys hl r⟩
theorem noL_W {p : Prop} {R : Ty} (h : NoL R) : NoL (yW p R) := fun v G l ys hl ⟨a, r⟩ => ⟨a, h v G l ys hl r⟩
def NoLs : List Ty → Prop
  | [] => True
  | R :: Rs => NoL R ∧ NoLs Rs
theorem noLs_all : ∀ {Rs : List Ty} {xs : List V} {G : Hp} {l : Addr} {ys : List V}, NoLs Rs → G l = some (.lst ys) → AllR Rs xs G → AllR Rs xs (rmH G l)
  | [], [], _, _, _, _, _, _ => trivial
  | R :: Rs, x :: xs, G, l, ys, n, h, a => ⟨n.1 _ _ _ _ h a.1, noLs_all n.2 h a.2⟩
  | [], _ :: _, _, _, _, _, _, a => a.elim
  | _ :: _, [], _, _, _, _, _, a => a.elim
theorem noL_T {K : PySem.W.Frag} {Rs : List Ty} (h : NoLs Rs) : NoL (yT K Rs) := fun v G l ys hl ⟨p, xs, e, hp, a⟩ => by
  refine ⟨p, xs, e, ?_, noLs_all h hl a⟩
  rcases hp with (k | ⟨o, k⟩) | k
  · exact .inl (.inl ((rm_ne (fun z => by rw [z, hl] at k; cases k)).trans k))
  · exact .inl (.inr ⟨o, (rm_ne (fun z => by rw [z, hl] at k; cases k)).trans k⟩)
  · exact .inr k
theorem noL_F {K : PySem.W.Frag} {q : Rat} : NoL (yF K q) := noL_T ⟨noL_V, noL_V, trivial⟩
theorem noL_R {K : PySem.W.Frag} {q s t : Rat} : NoL (yR K q s t) := noL_T ⟨noL_F, noL_F, noL_F, trivial⟩
def spFG {γ : Type} (args : γ → List Ty) (pre : γ → Prop) (out : Hp → γ → Ty) : Sp := fun vs H Q _ => ∃ g G, pre g ∧ Same G H ∧ AllR (args g) vs G ∧ ∀ v G2 H2, GS G H G2 H2 → (out G g).r v G2 → Q v H2
section
variable {Γ : Tys} {W W0 : Wd} {R S Ra Rb : Ty} {Rs : List Ty} {te ta tb tc td : TE} {t : TA} {K : PySem.W.Frag} {N : Nx} {u : TS} {E : XK}
theorem ee_lstF {G0 H0 : Hp} (s0 : Same G0 H0) (ha : EA t Γ (wP G0 H0) Rs) (hl : Rs.length ≤ 100000) : EE (tLst t) Γ (wP G0 H0) (yLf G0 Rs) := fun σ G H o s w Q q =>
  ha σ G H o s w _ fun xs G1 H1 g1 s1 w1 r1 => ⟨by rw [r1.len]; exact szl hl, fun p hp =>
    have gs := GS.new (o := .lst xs) s1 hp
    have w1 : GS G0 H0 G1 H1 := w1
    q (.ref p) _ _ (g1.trans gs.g) gs.sub (w1.trans gs) ⟨p, xs, rfl, s0.free (w1.h.free hp), upd_same, r1.mono gs.g⟩⟩
/-- x = f(..), the list that f made, ours from now on -/
theorem ss_own {γ α : Type} {args : γ → List Ty} {pre : γ → Prop} {p : α → Prop} {F : α → List Ty} {out : Hp → γ → Ty} {i : Nat} (g : γ) (ha : EA t Γ W (args g)) (hp : pre g) (ho : ∀ G, out G g = yE fun c : α => yW (p c) (yLf G (F c))) (hn : ∀ c, NoLs (F c))
    (k : ∀ c l, p c → W.ign l → SS u (Γ.set i (some (yAt l))) (wM W l (F c)) N W0 S) : SS (tSeq (tAsg (tCall (spFG args pre out) [] E t) (gName i)) u) Γ W N W0 S := fun σ G H o s w D n r =>
  ha σ G H o s w _ fun vs G1 H1 g1 s1 w1 r1 => ⟨g, G1, hp, s1, by rw [List.append_nil]; exact r1, fun v G2 H2 gs hv => by
    rw [ho] at hv
    obtain ⟨c, hc, l, xs, rfl, gl, hl, al⟩ := hv
    have hn1 : H1 l = none := by
      cases e : H1 l with
      | none => rfl
      | some x =>
        have z := gs.fr l (by rw [e]; exact fun z => nomatch z) gl
        rw [hl] at z
        cases z
    have sg : Same G1 (rmH G2 l) := fun b x e => by
      rw [rm_ne (fun z => by rw [z, gl] at e; cases e)]
      exact gs.g b x e
    have sb : Same (rmH G2 l) H2 := fun b x e => by
      by_cases hb : b = l
      · rw [hb, rm_self] at e
        cases e
      · rw [rm_ne hb] at e
        exact gs.sub b x e
    have gs' : GS G1 H1 (rmH G2 l) H2 := ⟨sg, gs.h, sb, fun a h1 h2 => by
      by_cases hb : a = l
      · rw [hb]
        exact rm_self
      · rw [rm_ne hb]
        exact gs.fr a h1 h2⟩
    have ig := W.fresh _ _ _ w1 hn1
    exact k c l hc ig _ (rmH G2 l) H2 ((o.mono (g1.trans sg)).set i rfl) sb ⟨W.pure _ _ _ _ s1 w1 gs', ig, rm_self, xs, gs.sub _ _ hl, noLs_all (hn c) hl al⟩ D (fun σ' G3 H3 a => n σ' G3 H3 ((g1.trans sg).trans a)) fun v G3 H3 a => r v G3 H3 ((g1.trans sg).trans a)⟩
end
theorem def_mkFG {P : Program} {w : World} {K : PySem.W.Frag} {mg : Str → Option Value} {base : Heap} {γ : Type} {args : γ → List Ty} {pre : γ → Prop} {out : Hp → γ → Ty} {x : Str} {st : Stmt} {N ps : List Str} {k : Nat} (R : Raw K mg x st) (S : FnScope N ps (defScope st))
    (hb : ∀ (kV doc pm : Value) (an : Option Addr) (cdv ct : Value) (us : List Value), us.length = ps.length → bindArgs (PySem.W.fnOf x x (defArgs st) (defBody st) (defScope st) .none kV doc pm an cdv ct) ⟨us, []⟩ = pure (ps.zip us))
    (hl : ∀ g, (args g).length = ps.length)
    (hbody : ∀ (f : Addr) (cdv : Value) (A : Around) (outer : List Env) (s : Shared) (H : Hp) (E : XK), Room k (A.deeper (envOfC x (defScope st) s.heap.objs.size f cdv)) →
      ∃ t, PSs (cxOf CX0 P w K mg base N x (defScope st) f cdv A outer s H E).nox (defBody st) t ∧ ∀ g, pre g → ∀ G H, Same G H → SS t (g0 N (args g)) (wP G H) (fun _ _ _ => False) (wP G H) (out G g)) :
    Def P w K mg base (k + 1) x ps (spFG args pre out) := by
  refine def_raw R S hb (fun vs H Q E ⟨g, G, _, _, a, _⟩ => a.len.trans (hl g)) fun f cdv A outer s H vs Q E hr ⟨g, G, hp, hs, ha, q⟩ => ?_
  obtain ⟨t, h1, h2⟩ := hbody f cdv A outer s H E hr
  refine ⟨t, h1, h2 g hp G H hs _ G H ?_ hs (GS.refl hs) _ (fun σ' G2 H2 _ s2 n => n.elim) (fun v G2 H2 _ s2 w2 r2 => q v G2 H2 w2 r2)⟩
  unfold L2.start g0
  rw [ha.len]
  exact okS_start _ ha
/-! ### rows -/
structure RowOk (a b : Leg) (r v q s t : Rat) : Prop where
  val : q = v
  ff : q = ff a b s t
  dm : Dm r s t
  pb : Pb r.den (s, t)
abbrev rowT (K : PySem.W.Frag) (a b : Leg) (r v : Rat) : Ty := yE fun x : Rat × Rat × Rat => yW (RowOk a b r v x.1 x.2.1 x.2.2) (yR K x.1 x.2.1 x.2.2)
theorem noL_row {K : PySem.W.Frag} {a b : Leg} {r v : Rat} : NoL (rowT K a b r v) := noL_E fun _ => noL_W noL_R
abbrev innL (K : PySem.W.Frag) (a b : Leg) (r : Rat) (c : Bool) : List Ty := if c = true then [rowT K a b r 0] else []
def Inn (a b : Leg) (r : Rat) (c : Bool) : Prop := c = true ↔ (wh a b ≠ 0 ∧ Dm r (cr a b).1 (cr a b).2)
def sp__law_inner_point (K : PySem.W.Frag) : Sp := spFG (fun g : Leg × Leg × Rat => [yG K g.1, yG K g.2.1, yF K g.2.2]) (fun g => LB g.1 ∧ LB g.2.1 ∧ PreR g.2.2) (fun G g => yE fun c : Bool => yW (Inn g.1 g.2.1 g.2.2 c) (yLf G (innL K g.1 g.2.1 g.2.2 c)))
def sp__law_nearest (K : PySem.W.Frag) : Sp := spF (fun g : Leg × Leg × Rat => [yG K g.1, yG K g.2.1, yF K g.2.2]) (fun g => LB g.1 ∧ LB g.2.1 ∧ PreR g.2.2) (fun g => yNear K g.1 g.2.1 g.2.2)
theorem ee__law_nearest {Γ : Tys} {W : Wd} {ta tb tc : TE} {K : PySem.W.Frag} {a b : Leg} {r : Rat} (ha : EE ta Γ W (yG K a)) (hb : EE tb Γ W (yG K b)) (hc : EE tc Γ W (yF K r)) (hp : LB a ∧ LB b ∧ PreR r) : EE (tCall (sp__law_nearest K) [] E0 (tCons ta (tCons tb (tCons tc tNil)))) Γ W (yNear K a b r) := ee_call (a, b, r) (ea_cons ha (ea_cons hb (ea_cons hc ea_nil))) hp
abbrev N__law_inner_point : List Str := ["_law_leg", "_law_other", "_law_rho_here", "_law_m", "_law_w", "_law_u", "_law_turn", "_law_s", "_law_t", "_law_apart", "_law_at"]
theorem sc__law_inner_point : FnScope N__law_inner_point ["_law_leg", "_law_other", "_law_rho_here"] (defScope LH.s__law_inner_point) := ⟨rfl, rfl, rfl, by decide +kernel, rfl, by decide +kernel, by decide +kernel⟩
theorem abs_dm {s t r : Rat} (h : ¬ r < (if s - t < 0 then -(s - t) else s - t)) : s - t ≤ r ∧ t - s ≤ r := by
  split at h <;> constructor <;> grind
theorem dm_abs {s t r : Rat} (h : s - t ≤ r ∧ t - s ≤ r) : ¬ r < (if s - t < 0 then -(s - t) else s - t) := by
  split <;> grind
section
variable {P : Program} {w : World} {K : PySem.W.Frag} {mg : Str → Option Value} {base : Heap} {cN cO cA cW : Addr}
theorem d__law_inner_point (B : Blt K mg cN cO cA cW) (R : Raw K mg "_law_inner_point" LH.s__law_inner_point) (D__law_lessened : Def P w K mg base 2 "_law_lessened" ["_law_x", "_law_y"] (sp__law_lessened K)) (D__law_over : Def P w K mg base 1 "_law_over" ["_law_n", "_law_d"] (sp__law_over K)) (D__law_is_below : Def P w K mg base 1 "_law_is_below" ["_law_x", "_law_y"] (sp__law_is_below K)) : Def P w K mg base 3 "_law_inner_point" ["_law_leg", "_law_other", "_law_rho_here"] (sp__law_inner_point K) := by
  refine def_mkFG R sc__law_inner_point (fun _ _ _ _ _ _ us hl => match us, hl with | [_, _, _], _ => rfl) (fun _ => rfl) fun f cdv A outer s H E hr => ⟨_, (pss_cons (ps_par (i := 3) (j := 4) rfl sc__law_inner_point.nd rfl rfl (by decide) rfl rfl (pa_cons (pe_lc (own := [("_law_at", 10)]) (g := gName 10) (tt := tYes) (te := (tOp (rI0 fun i j => .int (i - j)) (tOp (rIxT K) (tOp (rIxT K) (tVar 0) (tC (.int 1))) (tVar 10)) (tOp (rIxT K) (tOp (rIxT K) (tVar 0) (tC (.int 0))) (tVar 10)))) rfl sc__law_inner_point.nd (pi_tup (pe_tup (pa_cons pe_int (pa_cons pe_int pa_nil)))) (blkOk_by (N := N__law_inner_point) (sc := defScope LH.s__law_inner_point) (by decide +kernel)) (fun _ _ _ _ _ => (pg_name (i := 10) sc__law_inner_point.nd rfl (.inl rfl))) (fun _ _ _ _ _ => pts_nil) (fun _ _ _ _ _ => (pe_op op_sub (pe_ix ix_tup (pe_ix ix_tup (pv 0) pe_int (fun _ _ => rfl)) (pv 10) (fun _ _ => rfl)) (pe_ix ix_tup (pe_ix ix_tup (pv 0) pe_int (fun _ _ => rfl)) (pv 10) (fun _ _ => rfl))))) (pa_cons (pe_lc (own := [("_law_at", 10)]) (g := gName 10) (tt := tYes) (te := (tOp (rI0 fun i j => .int (i - j)) (tOp (rIxT K) (tOp (rIxT K) (tVar 1) (tC (.int 1))) (tVar 10)) (tOp (rIxT K) (tOp (rIxT K) (tVar 1) (tC (.int 0))) (tVar 10)))) rfl sc__law_inner_point.nd (pi_tup (pe_tup (pa_cons pe_int (pa_cons pe_int pa_nil)))) (blkOk_by (N := N__law_inner_point) (sc := defScope LH.s__law_inner_point) (by decide +kernel)) (fun _ _ _ _ _ => (pg_name (i := 10) sc__law_inner_point.nd rfl (.inl rfl))) (fun _ _ _ _ _ => pts_nil) (fun _ _ _ _ _ => (pe_op op_sub (pe_ix ix_tup (pe_ix ix_tup (pv 1) pe_int (fun _ _ => rfl)) (pv 10) (fun _ _ => rfl)) (pe_ix ix_tup (pe_ix ix_tup (pv 1) pe_int (fun _ _ => rfl)) (pv 10) (fun _ _ => rfl))))) pa_nil)) (by rfl))
      (pss_cons (ps_setLc (i := 5) (own := [("_law_at", 10)]) (g := gName 10) (tt := tYes) (te := (tOp (rI0 fun i j => .int (i - j)) (tOp (rIxT K) (tOp (rIxT K) (tVar 1) (tC (.int 0))) (tVar 10)) (tOp (rIxT K) (tOp (rIxT K) (tVar 0) (tC (.int 0))) (tVar 10)))) rfl sc__law_inner_point.nd rfl rfl (sw_true rfl rfl rfl (by decide +kernel)) (pi_tup (pe_tup (pa_cons pe_int (pa_cons pe_int pa_nil)))) (blkOk_by (N := N__law_inner_point) (sc := defScope LH.s__law_inner_point) (by decide +kernel)) (fun _ _ _ _ _ => (pg_name (i := 10) sc__law_inner_point.nd rfl (.inl rfl))) (fun _ _ _ _ _ => pts_nil) (fun _ _ _ _ _ => (pe_op op_sub (pe_ix ix_tup (pe_ix ix_tup (pv 1) pe_int (fun _ _ => rfl)) (pv 10) (fun _ _ => rfl)) (pe_ix ix_tup (pe_ix ix_tup (pv 0) pe_int (fun _ _ => rfl)) (pv 10) (fun _ _ => rfl)))))
      (pss_cons (ps_set (i := 6) sc__law_inner_point.nd rfl (.inl rfl) (pe_op op_sub (pe_op op_mul (pe_ix ix_list (pv 3) pe_int (fun _ _ => rfl)) (pe_ix ix_list (pv 4) pe_int (fun _ _ => rfl))) (pe_op op_mul (pe_ix ix_list (pv 3) pe_int (fun _ _ => rfl)) (pe_ix ix_list (pv 4) pe_int (fun _ _ => rfl)))))
      (pss_cons (ps_if (pt_cmpR op_eq (pv 6) pe_int (nomark _)) (pss_one (ps_ret (pe_lst pa_nil))) pss_nil)
      (pss_cons (ps_par (i := 7) (j := 8) rfl sc__law_inner_point.nd rfl rfl (by decide) rfl rfl (pa_cons (pe_cd D__law_over hr (by decide) (pa_cons (pe_op op_sub (pe_op op_mul (pe_ix ix_list (pv 5) pe_int (fun _ _ => rfl)) (pe_ix ix_list (pv 4) pe_int (fun _ _ => rfl))) (pe_op op_mul (pe_ix ix_list (pv 5) pe_int (fun _ _ => rfl)) (pe_ix ix_list (pv 4) pe_int (fun _ _ => rfl)))) (pa_cons (pv 6) pa_nil))) (pa_cons (pe_cd D__law_over hr (by decide) (pa_cons (pe_op op_sub (pe_op op_mul (pe_ix ix_list (pv 5) pe_int (fun _ _ => rfl)) (pe_ix ix_list (pv 3) pe_int (fun _ _ => rfl))) (pe_op op_mul (pe_ix ix_list (pv 5) pe_int (fun _ _ => rfl)) (pe_ix ix_list (pv 3) pe_int (fun _ _ => rfl)))) (pa_cons (pv 6) pa_nil))) pa_nil)) (by rfl))
      (pss_cons (ps_set (i := 9) sc__law_inner_point.nd rfl (.inl rfl) (pe_cd D__law_lessened hr (by decide) (pa_cons (pv 7) (pa_cons (pv 8) pa_nil))))
      (pss_cons (ps_set (i := 9) sc__law_inner_point.nd rfl (.inl rfl) (pe_ifExp (pt_cmpR op_lt (pe_ix ix_tup (pv 9) pe_int (fun _ _ => rfl)) pe_int (nomark _)) (pe_tup (pa_cons (pe_un un_neg (pe_ix ix_tup (pv 9) pe_int (fun _ _ => rfl))) (pa_cons (pe_ix ix_tup (pv 9) pe_int (fun _ _ => rfl)) pa_nil))) (pv 9)))
      (pss_cons (ps_if (PW.pt (pw_or (pt_cmpR op_lt (pe_ix ix_tup (pv 7) pe_int (fun _ _ => rfl)) pe_int (nomark _)) (pw_or (pt_cmpR op_lt (pe_ix ix_tup (pv 8) pe_int (fun _ _ => rfl)) pe_int (nomark _)) (pw_or (pt_val (pe_cd D__law_is_below hr (by decide) (pa_cons (pe_tup (pa_cons pe_int (pa_cons pe_int pa_nil))) (pa_cons (pv 7) pa_nil)))) (pw_or (pt_val (pe_cd D__law_is_below hr (by decide) (pa_cons (pe_tup (pa_cons pe_int (pa_cons pe_int pa_nil))) (pa_cons (pv 8) pa_nil)))) (pw_or1 (pt_val (pe_cd D__law_is_below hr (by decide) (pa_cons (pv 2) (pa_cons (pv 9) pa_nil)))))))))) (pss_one (ps_ret (pe_lst pa_nil))) pss_nil)
      (pss_one (ps_ret (pe_lst (pa_cons (pe_tup (pa_cons (pe_tup (pa_cons pe_int (pa_cons pe_int pa_nil))) (pa_cons (pv 7) (pa_cons (pv 8) pa_nil)))) pa_nil)))))))))))), fun ⟨a, b, r⟩ ⟨la, lb, ⟨h0, h1⟩, h2⟩ G H hs => ?_⟩
  have hw := wh_le la lb
  have cm : ∀ {i j : Int}, i.natAbs ≤ 16384 → CMul i j := fun h => .inl ⟨by omega, by omega⟩
  have d1 : (a.u - a.x).natAbs ≤ 16384 := dif la.u la.x
  have d2 : (a.v - a.y).natAbs ≤ 16384 := dif la.v la.y
  have d3 : (b.x - a.x).natAbs ≤ 16384 := dif lb.x la.x
  have d4 : (b.y - a.y).natAbs ≤ 16384 := dif lb.y la.y
  show SS _ [some (yG K a), some (yG K b), some (yF K r), none, none, none, none, none, none, none, none] (wP G H) _ (wP G H) (yE fun c : Bool => yW (Inn a b r c) (yLf G (innL K a b r c)))
  have dl : ∀ (i : Nat) (W' : Wd), EI (iTup K (tTup (tCons (tC (.int 0)) (tCons (tC (.int 1)) tNil)))) [some (yG K a), some (yG K b), some (yF K r), none, none, none, none, none, none, none, none] W' 2 (fun i => [yI 0, yI 1].getD i yN) := fun i W' => ei_tup (Rs := [yI 0, yI 1]) (ee_tup (ea_cons ee_i (ea_cons ee_i ea_nil)) (lle rfl))
  refine ss_par (Ra := yL [yI (a.u - a.x), yI (a.v - a.y)]) (Rb := yL [yI (b.u - b.x), yI (b.v - b.y)])
    (ea_cons (ee_eq (ee_lc (js := [10]) (F := fun i => [yI (a.u - a.x), yI (a.v - a.y)].getD i yN) (fun _ => true) (fun i => [some (yG K a), some (yG K b), some (yF K r), none, none, none, none, none, none, none, some ([yI 0, yI 1].getD i yN)]) (ei_tup (Rs := [yI 0, yI 1]) (ee_tup (ea_cons ee_i (ea_cons ee_i ea_nil)) (lle rfl))) (by decide) (fun i hi => gt_name) (by decide) (fun i W' hi => et_yes) (fun i W' hi _ => ?b1)) rfl)
    (ea_cons (ee_eq (ee_lc (js := [10]) (F := fun i => [yI (b.u - b.x), yI (b.v - b.y)].getD i yN) (fun _ => true) (fun i => [some (yG K a), some (yG K b), some (yF K r), none, none, none, none, none, none, none, some ([yI 0, yI 1].getD i yN)]) (ei_tup (Rs := [yI 0, yI 1]) (ee_tup (ea_cons ee_i (ea_cons ee_i ea_nil)) (lle rfl))) (by decide) (fun i hi => gt_name) (by decide) (fun i W' hi => et_yes) (fun i W' hi _ => ?b2)) rfl) ea_nil)) ?_
  case b1 =>
    rcases i with _ | _ | i
    · exact ee_op (ee_op (ee_op (ee_var rfl) ee_i (ot_ixT rfl)) (ee_var (R := yI 0) rfl) (ot_ixT rfl)) (ee_op (ee_op (ee_var rfl) ee_i (ot_ixT rfl)) (ee_var (R := yI 0) rfl) (ot_ixT rfl)) ot_sub
    · exact ee_op (ee_op (ee_op (ee_var rfl) ee_i (ot_ixT rfl)) (ee_var (R := yI 1) rfl) (ot_ixT rfl)) (ee_op (ee_op (ee_var rfl) ee_i (ot_ixT rfl)) (ee_var (R := yI 1) rfl) (ot_ixT rfl)) ot_sub
    · exact absurd hi (by show ¬ (i + 2 < 2); omega)
  case b2 =>
    rcases i with _ | _ | i
    · exact ee_op (ee_op (ee_op (ee_var rfl) ee_i (ot_ixT rfl)) (ee_var (R := yI 0) rfl) (ot_ixT rfl)) (ee_op (ee_op (ee_var rfl) ee_i (ot_ixT rfl)) (ee_var (R := yI 0) rfl) (ot_ixT rfl)) ot_sub
    · exact ee_op (ee_op (ee_op (ee_var rfl) ee_i (ot_ixT rfl)) (ee_var (R := yI 1) rfl) (ot_ixT rfl)) (ee_op (ee_op (ee_var rfl) ee_i (ot_ixT rfl)) (ee_var (R := yI 1) rfl) (ot_ixT rfl)) ot_sub
    · exact absurd hi (by show ¬ (i + 2 < 2); omega)
  show SS _ [some (yG K a), some (yG K b), some (yF K r), some (yL [yI (a.u - a.x), yI (a.v - a.y)]), some (yL [yI (b.u - b.x), yI (b.v - b.y)]), none, none, none, none, none, none] (wP G H) _ (wP G H) (yE fun c : Bool => yW (Inn a b r c) (yLf G (innL K a b r c)))
  refine ss_asg (R := yL [yI (b.x - a.x), yI (b.y - a.y)]) (ee_eq (ee_lc (js := [10]) (F := fun i => [yI (b.x - a.x), yI (b.y - a.y)].getD i yN) (fun _ => true) (fun i => [some (yG K a), some (yG K b), some (yF K r), some (yL [yI (a.u - a.x), yI (a.v - a.y)]), some (yL [yI (b.u - b.x), yI (b.v - b.y)]), none, none, none, none, none, some ([yI 0, yI 1].getD i yN)]) (ei_tup (Rs := [yI 0, yI 1]) (ee_tup (ea_cons ee_i (ea_cons ee_i ea_nil)) (lle rfl))) (by decide) (fun i hi => gt_name) (by decide) (fun i W' hi => et_yes) (fun i W' hi _ => ?b3)) rfl) ?_
  case b3 =>
    rcases i with _ | _ | i
    · exact ee_op (ee_op (ee_op (ee_var rfl) ee_i (ot_ixT rfl)) (ee_var (R := yI 0) rfl) (ot_ixT rfl)) (ee_op (ee_op (ee_var rfl) ee_i (ot_ixT rfl)) (ee_var (R := yI 0) rfl) (ot_ixT rfl)) ot_sub
    · exact ee_op (ee_op (ee_op (ee_var rfl) ee_i (ot_ixT rfl)) (ee_var (R := yI 1) rfl) (ot_ixT rfl)) (ee_op (ee_op (ee_var rfl) ee_i (ot_ixT rfl)) (ee_var (R := yI 1) rfl) (ot_ixT rfl)) ot_sub
    · exact absurd hi (by show ¬ (i + 2 < 2); omega)
  show SS _ [some (yG K a), some (yG K b), some (yF K r), some (yL [yI (a.u - a.x), yI (a.v - a.y)]), some (yL [yI (b.u - b.x), yI (b.v - b.y)]), some (yL [yI (b.x - a.x), yI (b.y - a.y)]), none, none, none, none, none] (wP G H) _ (wP G H) (yE fun c : Bool => yW (Inn a b r c) (yLf G (innL K a b r c)))
  refine ss_asg (R := yI (wh a b)) (ee_op (ee_op (ee_op (ee_var rfl) ee_i (ot_ixL rfl)) (ee_op (ee_var rfl) ee_i (ot_ixL rfl)) (ot_mul (cm d1))) (ee_op (ee_op (ee_var rfl) ee_i (ot_ixL rfl)) (ee_op (ee_var rfl) ee_i (ot_ixL rfl)) (ot_mul (cm d2))) ot_sub) ?_
  show SS _ [some (yG K a), some (yG K b), some (yF K r), some (yL [yI (a.u - a.x), yI (a.v - a.y)]), some (yL [yI (b.u - b.x), yI (b.v - b.y)]), some (yL [yI (b.x - a.x), yI (b.y - a.y)]), some (yI (wh a b)), none, none, none, none] (wP G H) _ (wP G H) (yE fun c : Bool => yW (Inn a b r c) (yLf G (innL K a b r c)))
  refine ss_if (et_test (ee_op (ee_var rfl) ee_i ot_eqI)) (fun hb => ?_) (fun hb => ?_)
  · have hz : wh a b = 0 := of_decide_eq_true hb
    exact ss_ret1 (EE.sub (ee_lstF hs ea_nil (lle rfl)) fun v H hv => ⟨false, ⟨(fun z => nomatch z), fun z => absurd hz z.1⟩, hv⟩) (Wd.le.refl _)
  have hne : wh a b ≠ 0 := of_decide_eq_false hb
  have up : 536870912 < 2 ^ 8900 := Nat.lt_of_lt_of_le (show 536870912 < 2 ^ 30 by decide) (Nat.pow_le_pow_right (by decide) (by decide))
  have hw8 : (wh a b).natAbs < 2 ^ 8900 := Nat.lt_of_le_of_lt hw.1 up
  have s1 : Sh (cr a b).1 := sh_quo hne hw.2.1 hw.1
  have s2 : Sh (cr a b).2 := sh_quo hne hw.2.2 hw.1
  have s3 : Sh r := sh_r h0 h1 h2
  have hpb : Dm r (cr a b).1 (cr a b).2 → Pb r.den (cr a b) := fun d => cr_pb (T := r.den) la lb hne d r.den_nz
  have hz0 := cr_zero hne
  have s4 : Sz ((cr a b).1 - (cr a b).2) := by
    have k := num_le_divInt ((cr a b).1.num * (cr a b).2.den - (cr a b).2.num * (cr a b).1.den) (d := ((cr a b).1.den : Int) * ((cr a b).2.den : Int)) (Int.mul_ne_zero (den_ne _) (den_ne _))
    rw [sub_eq] at k
    have n1 : ((cr a b).1.num * ((cr a b).2.den : Int)).natAbs < 2 ^ (1990 + 1990) := wide_lt s1.1 (by have := s2.2; omega)
    have n2 : ((cr a b).2.num * ((cr a b).1.den : Int)).natAbs < 2 ^ (1990 + 1990) := wide_lt s2.1 (by have := s1.2; omega)
    have n3 : (((cr a b).1.den : Int) * ((cr a b).2.den : Int)).natAbs < 2 ^ (1990 + 1990) := wide_lt (by have := s1.2; omega) (by have := s2.2; omega)
    have n4 := (natAbs_le_two n1 n2).2
    have up1 : (2 : Nat) ^ (1990 + 1990 + 1) ≤ 2 ^ 4000 := Nat.pow_le_pow_right (by decide) (by decide)
    have up2 : (2 : Nat) ^ (1990 + 1990) ≤ 2 ^ 4000 := Nat.pow_le_pow_right (by decide) (by decide)
    exact ⟨by omega, by omega⟩
  clear up h2
  refine ss_skip (ss_par (Ra := yF K (cr a b).1) (Rb := yF K (cr a b).2) (ea_cons (ee_eq (ee__law_over (n := crS a b) (d := wh a b) (ee_op (ee_op (ee_op (ee_var rfl) ee_i (ot_ixL rfl)) (ee_op (ee_var rfl) ee_i (ot_ixL rfl)) (ot_mul (cm d3))) (ee_op (ee_op (ee_var rfl) ee_i (ot_ixL rfl)) (ee_op (ee_var rfl) ee_i (ot_ixL rfl)) (ot_mul (cm d4))) ot_sub) (ee_var rfl) ⟨hne, hw8⟩) (congrArg (yF K) (Rat.divInt_eq_div _ _)))
    (ea_cons (ee_eq (ee__law_over (n := crT a b) (d := wh a b) (ee_op (ee_op (ee_op (ee_var rfl) ee_i (ot_ixL rfl)) (ee_op (ee_var rfl) ee_i (ot_ixL rfl)) (ot_mul (cm d3))) (ee_op (ee_op (ee_var rfl) ee_i (ot_ixL rfl)) (ee_op (ee_var rfl) ee_i (ot_ixL rfl)) (ot_mul (cm d4))) ot_sub) (ee_var rfl) ⟨hne, hw8⟩) (congrArg (yF K) (Rat.divInt_eq_div _ _))) ea_nil)) ?_)
  clear hw8
  refine ss_forget 3 (ss_forget 4 (ss_forget 5 (ss_forget 6 (ss_forget 0 (ss_forget 1 ?_)))))
  have inn : ∀ c, (c = true ↔ Dm r (cr a b).1 (cr a b).2) → Inn a b r c := fun c h => ⟨fun z => ⟨hne, h.mp z⟩, fun z => h.mpr z.2⟩
  have row : Dm r (cr a b).1 (cr a b).2 → RowOk a b r 0 0 (cr a b).1 (cr a b).2 := fun d => ⟨rfl, by
    unfold ff
    rw [hz0.1, hz0.2]
    grind, d, hpb d⟩
  generalize (cr a b).1 = s' at *
  generalize (cr a b).2 = t' at *
  show SS _ [none, none, some (yF K r), none, none, none, none, some (yF K s'), some (yF K t'), none, none] (wP G H) _ (wP G H) (yE fun c : Bool => yW (Inn a b r c) (yLf G (innL K a b r c)))
  refine ss_asg (ee__law_lessened (ee_var rfl) (ee_var rfl) ⟨s1.sz, s2.sz⟩) ?_
  show SS _ [none, none, some (yF K r), none, none, none, none, some (yF K s'), some (yF K t'), some (yF K (s' - t')), none] (wP G H) _ (wP G H) (yE fun c : Bool => yW (Inn a b r c) (yLf G (innL K a b r c)))
  refine ss_asg (R := yF K (if s' - t' < 0 then -(s' - t') else s' - t')) (ee_if (et_test (ee_op (ee_op (ee_var rfl) ee_i (ot_ixT rfl)) ee_i ot_lt)) (fun h => ee_eq (S := yF K (if s' - t' < 0 then -(s' - t') else s' - t')) (R := yF K (-(s' - t'))) (ee_tup (ea_cons (ee_un (ee_op (ee_var rfl) ee_i (ot_ixT rfl)) ut_neg) (ea_cons (ee_op (ee_var rfl) ee_i (ot_ixT rfl)) ea_nil)) (lle rfl)) (congrArg (yF K) (if_pos (num_lt.mp (of_decide_eq_true h))).symm)) (fun h => ee_eq (ee_var rfl) (congrArg (yF K) (if_neg (fun z => of_decide_eq_false h (num_lt.mpr z))).symm))) ?_
  have s5 : Sz (if s' - t' < 0 then -(s' - t') else s' - t') := by
    split
    · exact ⟨by rw [Rat.neg_num, Int.natAbs_neg]; exact s4.1, by rw [Rat.neg_den]; exact s4.2⟩
    · exact s4
  have ad := @abs_dm s' t' r
  have da := @dm_abs s' t' r
  generalize (if s' - t' < 0 then -(s' - t') else s' - t') = d' at *
  show SS _ [none, none, some (yF K r), none, none, none, none, some (yF K s'), some (yF K t'), some (yF K d'), none] (wP G H) _ (wP G H) (yE fun c : Bool => yW (Inn a b r c) (yLf G (innL K a b r c)))
  refine ss_if (et_or (et_test (ee_op (ee_op (ee_var rfl) ee_i (ot_ixT rfl)) ee_i ot_lt)) (fun h => (et_or (et_test (ee_op (ee_op (ee_var rfl) ee_i (ot_ixT rfl)) ee_i ot_lt)) (fun h => (et_or (et_B (ee__law_is_below ee_q1 (ee_var rfl) ⟨sz1, s1.sz⟩)) (fun h => (et_or (et_B (ee__law_is_below ee_q1 (ee_var rfl) ⟨sz1, s2.sz⟩)) (fun h => (et_B (ee__law_is_below (ee_var rfl) (ee_var rfl) ⟨s3.sz, s5⟩)))))))))) (fun hb => ?_) (fun hb => ?_)
  · simp only [Bool.or_eq_true, decide_eq_true_eq, num_lt] at hb
    refine ss_ret1 (EE.sub (ee_lstF hs ea_nil (lle rfl)) fun v H hv => ⟨false, inn false ⟨(fun z => nomatch z), fun z => ?_⟩, hv⟩) (Wd.le.refl _)
    have k := da ⟨z.st, z.ts⟩
    have := z.s0; have := z.s1; have := z.t0; have := z.t1
    rcases hb with hb | hb | hb | hb | hb <;> grind
  · simp only [Bool.or_eq_false_iff, decide_eq_false_iff_not, num_lt] at hb
    obtain ⟨k1, k2, k3, k4, k5⟩ := hb
    have dm : Dm r s' t' := ⟨by grind, by grind, by grind, by grind, (ad k5).1, (ad k5).2⟩
    refine ss_skip (ss_ret (EE.sub (ee_lstF (Rs := [rowT K a b r 0]) hs (ea_cons (EE.sub (R := yR K 0 s' t') (ee_tup (ea_cons ee_q0 (ea_cons (ee_var rfl) (ea_cons (ee_var rfl) ea_nil))) (lle rfl)) fun v H hv => ⟨(0, s', t'), row dm, hv⟩) ea_nil) (lle rfl)) fun v H hv => ⟨true, inn true ⟨fun _ => dm, fun _ => rfl⟩, hv⟩) (Wd.le.refl _))
end
end LT
end
section
set_option Elab.async false
set_option linter.all false
set_option maxRecDepth 100000
set_option maxHeartbeats 1000000
set_option exponentiation.threshold 20000
namespace LT
open PySem PySem.Spec PyProof.Rows L2 LL
abbrev N__law_nearest : List Str := ["_law_leg", "_law_other", "_law_rho_here", "_law_corners_here", "_law_best", "_law_found", "_law_one", "_law_two", "_law_row"]
theorem sc__law_nearest : FnScope N__law_nearest ["_law_leg", "_law_other", "_law_rho_here"] (defScope LH.s__law_nearest) := ⟨rfl, rfl, rfl, by decide +kernel, rfl, by decide +kernel, by decide +kernel⟩
def eP (r : Rat) (i : Nat) : Rat × Rat := (ringL r).getD i (0, 0)
def eQ (r : Rat) (i : Nat) : Rat × Rat := (ringL2 r).getD i (0, 0)
theorem ringL_mem {r : Rat} {i : Nat} (h : i < 6) : eP r i ∈ ring r ∧ eQ r i ∈ ring r := by
  unfold eP eQ ringL ringL2 ring
  rcases i with _ | _ | _ | _ | _ | _ | i
  · simp
  · simp
  · simp
  · simp
  · simp
  · simp
  · omega
/-- each edge of the program's stands in the law's row of edges, turned round -/
theorem edges_law {r : Rat} {e : (Rat × Rat) × (Rat × Rat)} (h : e ∈ edges r) : ∃ i, i < 6 ∧ e = (eQ r i, eP r i) := by
  unfold edges at h
  simp only [List.mem_cons, List.not_mem_nil, or_false] at h
  rcases h with h | h | h | h | h | h <;> subst h
  · exact ⟨5, by decide, rfl⟩
  · exact ⟨4, by decide, rfl⟩
  · exact ⟨3, by decide, rfl⟩
  · exact ⟨2, by decide, rfl⟩
  · exact ⟨1, by decide, rfl⟩
  · exact ⟨0, by decide, rfl⟩
def rowsV (a b : Leg) (r : Rat) (c : Bool) : List Rat := (if c = true then [0] else []) ++ (List.range 6).map fun i => edgeV a b (eP r i) (eQ r i)
theorem map_snoc {xs : List Rat} {f : Nat → Rat} {g : Rat → Ty} {k : Nat} : (xs ++ (List.range (k + 1)).map f).map g = (xs ++ (List.range k).map f).map g ++ [g (f k)] := by
  rw [List.range_succ]
  simp only [List.map_append, List.append_assoc, List.map_cons, List.map_nil]
theorem row_near {a b : Leg} {r : Rat} {c : Bool} {v q s t : Rat} (la : LB a) (lb : LB b) (h0 : 0 ≤ r) (h1 : r ≤ 1) (h2 : r.den < 2 ^ 250) (hc : Inn a b r c) (h : RowOk a b r v q s t) (hm : ∀ v ∈ rowsV a b r c, q ≤ v) : NearOk a b r q := by
  have hq := h.ff
  rw [hq]
  refine near_ok (p := (s, t)) la lb h.pb h2 ⟨⟨s, t, h.dm, rfl⟩, fun s' t' d => ?_⟩
  show ff a b s t ≤ ff a b s' t'
  rw [← hq]
  rcases cover h0 h1 d with ⟨e, he, hl⟩ | k
  · obtain ⟨i, hi, rfl⟩ := edges_law he
    have k1 := edge_rev a b (eQ r i) (eP r i)
    have k2 := hm (edgeV a b (eP r i) (eQ r i)) (List.mem_append_right _ (List.mem_map.mpr ⟨i, List.mem_range.mpr hi, rfl⟩))
    have hl : edgeV a b (eQ r i) (eP r i) ≤ ff a b s' t' := hl
    grind
  · have k2 := hm 0 (List.mem_append_left _ (by rw [if_pos (hc.mpr k)]; exact List.mem_singleton.mpr rfl))
    have := ff_nonneg a b s' t'
    grind
theorem edge_row {a b : Leg} {r s t : Rat} {i : Nat} (h0 : 0 ≤ r) (h1 : r ≤ 1) (hi : i < 6) (h : EdgeOk a b (eP r i) (eQ r i) r.den s t) : RowOk a b r (edgeV a b (eP r i) (eQ r i)) (ff a b s t) s t := by
  have m := ringL_mem (r := r) hi
  obtain ⟨l, l0, l1, e⟩ := h.on
  have d := Dm.conv (ring_dm h0 h1 _ m.1) (ring_dm h0 h1 _ m.2) l0 l1
  have es : s = (onE (eP r i) (eQ r i) l).1 := congrArg Prod.fst e
  have et : t = (onE (eP r i) (eQ r i) l).2 := congrArg Prod.snd e
  exact ⟨h.val, rfl, by rw [es, et]; exact d, h.pb⟩
theorem row_sz {a b : Leg} {r v q s t : Rat} (la : LB a) (lb : LB b) (h2 : r.den < 2 ^ 250) (h : RowOk a b r v q s t) : Sz q ∧ Sz s ∧ Sz t := by
  obtain ⟨D, d0, d1, k⟩ := h.pb
  have dl : D < 2 ^ 785 := Nat.lt_of_le_of_lt d1 (cube_lt h2)
  have dd : D * D < 2 ^ (785 + 785) := by rw [Nat.pow_add]; exact Nat.mul_lt_mul'' dl dl
  rw [h.ff]
  exact ⟨(ff_in la lb k.s k.t d0).Sz (Nat.mul_ne_zero d0 d0) dd (show _ ≤ 2 ^ 34 by decide) (by decide), k.s.inD.Sz d0 dl (show 1 ≤ 2 ^ 0 by decide) (by decide), k.t.inD.Sz d0 dl (show 1 ≤ 2 ^ 0 by decide) (by decide)⟩
abbrev bestL (K : PySem.W.Frag) : Option (Rat × Rat × Rat) → Ty
  | none => yN
  | some x => yR K x.1 x.2.1 x.2.2
def BestL (a b : Leg) (r : Rat) (vs : List Rat) (i : Nat) : Option (Rat × Rat × Rat) → Prop
  | none => i = 0
  | some x => (∃ v, RowOk a b r v x.1 x.2.1 x.2.2) ∧ ∀ v ∈ vs.take i, x.1 ≤ v
theorem bestL_new {a b : Leg} {r v q s t : Rat} {vs : List Rat} {i : Nat} {o : Option (Rat × Rat × Rat)} (hi : i < vs.length) (hv : v = vs.getD i 0) (h : BestL a b r vs i o) (hr : RowOk a b r v q s t) (k : ∀ x, o = some x → q ≤ x.1) : BestL a b r vs (i + 1) (some (q, s, t)) := by
  refine ⟨⟨v, hr⟩, fun u hu => ?_⟩
  rw [take_getD (d := 0) hi] at hu
  rcases List.mem_append.mp hu with z | z
  · cases o with
    | none =>
      have h : i = 0 := h
      rw [h] at z
      simp at z
    | some x =>
      have h1 := k x rfl
      have h2 := h.2 u z
      show q ≤ u
      grind
  · rw [List.mem_singleton.mp z, ← hv, ← hr.val]
    exact Rat.le_refl
theorem bestL_old {a b : Leg} {r v q s t : Rat} {vs : List Rat} {i : Nat} {x : Rat × Rat × Rat} (hi : i < vs.length) (hv : v = vs.getD i 0) (h : BestL a b r vs i (some x)) (hr : RowOk a b r v q s t) (k : x.1 ≤ q) : BestL a b r vs (i + 1) (some x) := by
  refine ⟨h.1, fun u hu => ?_⟩
  rw [take_getD (d := 0) hi] at hu
  rcases List.mem_append.mp hu with z | z
  · exact h.2 u z
  · rw [List.mem_singleton.mp z, ← hv, ← hr.val]
    exact k
section
variable {P : Program} {w : World} {K : PySem.W.Frag} {mg : Str → Option Value} {base : Heap} {cN cO cA cW : Addr}
theorem d__law_nearest (B : Blt K mg cN cO cA cW) (R : Raw K mg "_law_nearest" LH.s__law_nearest) (D__law_inner_point : Def P w K mg base 3 "_law_inner_point" ["_law_leg", "_law_other", "_law_rho_here"] (sp__law_inner_point K)) (D__law_corners : Def P w K mg base 3 "_law_corners" ["_law_rho_here"] (sp__law_corners K)) (D__law_on_edge : Def P w K mg base 5 "_law_on_edge" ["_law_leg", "_law_other", "_law_one", "_law_two"] (sp__law_on_edge K)) (D__law_is_below : Def P w K mg base 1 "_law_is_below" ["_law_x", "_law_y"] (sp__law_is_below K)) (D__law_are_less : Def P w K mg base 2 "_law_are_less" ["_law_one", "_law_other"] (sp__law_are_less K)) : Def P w K mg base 6 "_law_nearest" ["_law_leg", "_law_other", "_law_rho_here"] (sp__law_nearest K) := by
  refine def_mk R sc__law_nearest (fun _ _ _ _ _ _ us hl => match us, hl with | [_, _, _], _ => rfl) (fun _ => rfl) fun f cdv A outer s H E hr => ⟨_, (pss_cons (ps_par (i := 3) (j := 4) rfl sc__law_nearest.nd rfl rfl (by decide) rfl rfl (pa_cons (pe_cd D__law_corners hr (by decide) (pa_cons (pv 2) pa_nil)) (pa_cons pe_non pa_nil)) (by rfl))
      (pss_cons (ps_set (i := 5) sc__law_nearest.nd rfl (.inl rfl) (pe_cd D__law_inner_point hr (by decide) (pa_cons (pv 0) (pa_cons (pv 1) (pa_cons (pv 2) pa_nil)))))
      (pss_cons (ps_for PassesOwn.never rfl (pi_zip (by rfl) B.zip (pa_cons (pv 3) (pa_cons (pe_op op_cat (pe_slice sl_list (pv 3) (po_some pe_int) po_none) (pe_slice sl_list (pv 3) po_none (po_some pe_int))) pa_nil))) (pg_tup rfl (pgs_cons (pg_name (i := 6) sc__law_nearest.nd rfl (.inl rfl)) (pgs_cons (pg_name (i := 7) sc__law_nearest.nd rfl (.inl rfl)) pgs_nil)))
      (pss_one (ps_expr (pe_bm PySem.F.plainAttrs_list PySem.F.slot_list_append PySem.F.type_list_append mt_append (pv 5) (pa_cons (pe_cd D__law_on_edge hr (by decide) (pa_cons (pv 0) (pa_cons (pv 1) (pa_cons (pv 6) (pa_cons (pv 7) pa_nil))))) pa_nil)))))
      (pss_cons (ps_for PassesOwn.never rfl (pi_list (pv 5)) (pg_name (i := 8) sc__law_nearest.nd rfl (.inl rfl))
      (pss_one (ps_if (PW.pt (pw_or (pt_cmpR op_isN (pv 4) pe_non (nomark _)) (pw_or (pt_val (pe_cd D__law_is_below hr (by decide) (pa_cons (pe_ix ix_tup (pv 8) pe_int (fun _ _ => rfl)) (pa_cons (pe_ix ix_tup (pv 4) pe_int (fun _ _ => rfl)) pa_nil)))) (pw_or1 (PW.pt (pw_and (pt_cmpR (op_eqD hr.units) (pe_ix ix_tup (pv 8) pe_int (fun _ _ => rfl)) (pe_ix ix_tup (pv 4) pe_int (fun _ _ => rfl)) (nomark _)) (pw_and1 (pt_val (pe_cd D__law_are_less hr (by decide) (pa_cons (pe_slice sl_tupA (pv 8) (po_some pe_int) po_none) (pa_cons (pe_slice sl_tupA (pv 4) (po_some pe_int) po_none) pa_nil))))))))))) (pss_one (ps_set (i := 4) sc__law_nearest.nd rfl (.inl rfl) (pv 8))) pss_nil)))
      (pss_one (ps_ret (pv 4))))))), fun ⟨a, b, r⟩ ⟨la, lb, ⟨h0, h1⟩, h2⟩ W => ?_⟩
  show SS _ [some (yG K a), some (yG K b), some (yF K r), none, none, none, none, none, none] W _ W (yNear K a b r)
  refine ss_par (Ra := yL ((ringL r).map (yP K))) (Rb := yN) (ea_cons (ee__law_corners (ee_var rfl) ⟨⟨h0, h1⟩, h2⟩) (ea_cons ee_n ea_nil)) ?_
  show SS _ [some (yG K a), some (yG K b), some (yF K r), some (yL ((ringL r).map (yP K))), some yN, none, none, none, none] W _ W (yNear K a b r)
  refine ss_own (α := Bool) (p := Inn a b r) (F := innL K a b r) (a, b, r) (ea_cons (ee_var rfl) (ea_cons (ee_var rfl) (ea_cons (ee_var rfl) ea_nil))) ⟨la, lb, ⟨h0, h1⟩, h2⟩ (fun G => rfl) (fun c => by cases c <;> first | exact trivial | exact ⟨noL_row, trivial⟩) (fun c l hc hl => ?_)
  show SS _ [some (yG K a), some (yG K b), some (yF K r), some (yL ((ringL r).map (yP K))), some yN, some (yAt l), none, none, none] (wM W l (innL K a b r c)) _ W (yNear K a b r)
  have e0 : innL K a b r c = (if c = true then [(0 : Rat)] else []).map (rowT K a b r) := by
    unfold innL
    cases c <;> rfl
  rw [e0]
  have hc2 : ((if c = true then [(0 : Rat)] else []) : List Rat).length ≤ 1 := by cases c <;> decide
  refine ss_for (α := Nat) (n := 6) (EI.congr (Y' := fun i => yT K [yP K (eP r i), yP K (eQ r i)]) (ei_zipL (Rs := (ringL r).map (yP K)) (Rs' := (ringL2 r).map (yP K)) (ea_cons (ee_var rfl) (ea_cons (ee_eq (ee_cat (ee_slL (ee_var rfl) (eo_some ee_i) eo_none) (ee_slL (ee_var rfl) eo_none (eo_some ee_i)) (lle rfl)) rfl) ea_nil))) ?ey) (fun i k => k = i)
    (fun _ => [some (yG K a), some (yG K b), none, none, some yN, some (yAt l), none, none, none]) (fun k => wM W l (((if c = true then [(0 : Rat)] else []) ++ (List.range k).map fun i => edgeV a b (eP r i) (eQ r i)).map (rowT K a b r)))
    (fun i _ => [some (yG K a), some (yG K b), none, none, some yN, some (yAt l), some (yP K (eP r i)), some (yP K (eQ r i)), none]) 0 rfl (fun σ G H o w => ⟨(o.forget 2).forget 3, by rw [List.range_zero, List.map_nil, List.append_nil]; exact w⟩) (fun i k hi hk => gt_tup (gts_cons gt_name (gts_cons gt_name gts_nil)) rfl) (fun i k hi hk => ?_) (fun k hk => ?_)
  case ey =>
    intro i hi
    show yT K [((ringL r).map (yP K)).getD i yN, ((ringL2 r).map (yP K)).getD i yN] = _
    rw [map_getD (d := (0, 0)) (show i < (ringL r).length from hi), map_getD (d := (0, 0)) (show i < (ringL2 r).length from hi)]
    rfl
  · subst hk
    have m := ringL_mem (r := r) hi
    refine ss_last (ss_append (i := 5) rfl (EE.sub (S := rowT K a b r (edgeV a b (eP r k) (eQ r k))) (ee__law_on_edge (T := r.den) (ee_var rfl) (ee_var rfl) (ee_var rfl) (ee_var rfl) ⟨la, lb, r.den_nz, h2, ring_pt h0 h1 _ m.1, ring_pt h0 h1 _ m.2⟩) fun v H ⟨x, hx, hv⟩ => ⟨(ff a b x.1 x.2, x.1, x.2), edge_row h0 h1 hi hx, hv⟩) ?len (ss_next fun σ G H o s' w => ⟨k + 1, rfl, (o.forget 6).forget 7, ?wm⟩))
    case len =>
      rw [List.length_map, List.length_append, List.length_map, List.length_range]
      omega
    case wm =>
      rw [map_snoc]
      exact w
  · subst hk
    refine ss_freeze (i := 5) rfl ?_
    show SS _ [some (yG K a), some (yG K b), none, none, some yN, some (yL ((rowsV a b r c).map (rowT K a b r))), none, none, none] W _ W (yNear K a b r)
    have hfin := fun v q s t => row_near (c := c) (v := v) (q := q) (s := s) (t := t) la lb h0 h1 h2 hc
    have hne : rowsV a b r c ≠ [] := by
      unfold rowsV
      simp [List.range, List.range.loop]
    generalize rowsV a b r c = vs at *
    have hn : (vs.map (rowT K a b r)).length = vs.length := List.length_map _
    refine ss_for (α := Option (Rat × Rat × Rat)) (EI.congr (Y' := fun i => rowT K a b r (vs.getD i 0)) (ei_list (ee_var rfl)) (fun i hi => map_getD (by rw [← hn]; exact hi))) (fun i o => BestL a b r vs i o) (fun o => [none, none, none, none, some (bestL K o), none, none, none, none]) (fun _ => W)
      (fun i o => [none, none, none, none, some (bestL K o), none, none, none, some (rowT K a b r (vs.getD i 0))]) none rfl (fun σ G H o w => ⟨((o.forget 0).forget 1).forget 5, w⟩) (fun i o hi hp => gt_name) (fun i o hi hp => ?_) (fun o hp => ?_)
    · have hi : i < vs.length := by rw [← hn]; exact hi
      refine ss_openE (i := 8) rfl fun x => ss_openW (i := 8) rfl fun hx => ?_
      obtain ⟨q, s', t⟩ := x
      have hx : RowOk a b r (vs.getD i 0) q s' t := hx
      have sz := row_sz la lb h2 hx
      show SS _ [none, none, none, none, some (bestL K o), none, none, none, some (yR K q s' t)] W _ W (yNear K a b r)
      cases o with
      | none =>
        refine ss_last (ss_if (b := true) (et_or (a := true) (b := true) (et_test (ee_op (ee_var rfl) ee_n (ot_isN yN_is))) (fun z => nomatch z)) (fun _ => ?_) (fun z => nomatch z))
        exact ss_asg (ee_var rfl) (ss_next fun σ G H o s' w => ⟨some _, bestL_new hi rfl hp hx (fun p e => nomatch e), o.forget 8, w⟩)
      | some x0 =>
        obtain ⟨⟨v0, r0⟩, hm⟩ := id hp
        have sz0 := row_sz la lb h2 r0
        refine ss_last (ss_if (b := decide (q < x0.1) || (decide (q = x0.1) && lessB (s', t) (x0.2.1, x0.2.2))) (et_or (a := false) (et_test (ee_op (ee_var rfl) ee_n (ot_isN yT_not))) (fun z => et_or (et_B (ee__law_is_below (ee_op (ee_var rfl) ee_i (ot_ixT rfl)) (ee_op (ee_var rfl) ee_i (ot_ixT rfl)) ⟨sz.1, sz0.1⟩)) (fun z => et_and (et_test (ee_op (ee_op (ee_var rfl) ee_i (ot_ixT rfl)) (ee_op (ee_var rfl) ee_i (ot_ixT rfl)) ot_eqF)) (fun z => et_B (ee__law_are_less (p := (s', t)) (q := (x0.2.1, x0.2.2)) (ee_slT (Rs := [yF K q, yF K s', yF K t]) (ee_var rfl) (eo_some ee_i) eo_none) (ee_slT (Rs := [yF K x0.1, yF K x0.2.1, yF K x0.2.2]) (ee_var rfl) (eo_some ee_i) eo_none) ⟨⟨sz.2.1, sz.2.2⟩, sz0.2.1, sz0.2.2⟩))))) (fun hb => ?_) (fun hb => ?_))
        · have hle : q ≤ x0.1 := by
            rcases Bool.or_eq_true_iff.mp hb with z | z
            · have := of_decide_eq_true z
              grind
            · have := of_decide_eq_true (Bool.and_eq_true_iff.mp z).1
              grind
          refine ss_asg (ee_var rfl) (ss_next fun σ G H o s' w => ⟨some _, bestL_new hi rfl hp hx (fun p e => ?_), o.forget 8, w⟩)
          cases e
          exact hle
        · have hge : x0.1 ≤ q := by
            have z := of_decide_eq_false (Bool.or_eq_false_iff.mp hb).1
            grind
          exact ss_skip (ss_next fun σ G H o s' w => ⟨some x0, bestL_old hi rfl hp hx hge, o.forget 8, w⟩)
    · rw [hn] at hp
      cases o with
      | none =>
        have hp : vs.length = 0 := hp
        exact absurd (List.length_eq_zero_iff.mp hp) hne
      | some x =>
        obtain ⟨⟨v, hr⟩, hm⟩ := hp
        rw [List.take_length] at hm
        exact ss_ret (EE.sub (ee_var rfl) fun v' H hv => ⟨x, hfin v x.1 x.2.1 x.2.2 hr hm, hv⟩) (Wd.le.refl _)
end
end LT
end
section
set_option Elab.async false
set_option linter.all false
set_option maxRecDepth 100000
set_option maxHeartbeats 1000000
set_option exponentiation.threshold 20000
namespace LT
open PySem PySem.Spec PyProof.Rows L2 LL
abbrev N__law_nearest_of : List Str := ["_law_legs_here", "_law_rho_here", "_law_best", "_law_i", "_law_j", "_law_row"]
theorem sc__law_nearest_of : FnScope N__law_nearest_of ["_law_legs_here", "_law_rho_here"] (defScope LH.s__law_nearest_of) := ⟨rfl, rfl, rfl, by decide +kernel, rfl, by decide +kernel, by decide +kernel⟩
abbrev N__law_are_apart : List Str := ["_law_bounds_here", "_law_ticks", "_law_legs_here", "_law_best"]
theorem sc__law_are_apart : FnScope N__law_are_apart ["_law_bounds_here", "_law_ticks", "_law_legs_here"] (defScope LH.s__law_are_apart) := ⟨rfl, rfl, rfl, by decide +kernel, rfl, by decide +kernel, by decide +kernel⟩
abbrev N__law_are_ever_apart : List Str := ["_law_bounds_here", "_law_legs_here", "_law_square", "_law_lag_here", "_law_i", "_law_j", "_law_still"]
theorem sc__law_are_ever_apart : FnScope N__law_are_ever_apart ["_law_bounds_here", "_law_legs_here"] (defScope LH.s__law_are_ever_apart) := ⟨rfl, rfl, rfl, by decide +kernel, rfl, by decide +kernel, by decide +kernel⟩
def NoS (ls : List Leg) (r : Rat) (S : Nat → Nat → Prop) : Option NoR → Prop
  | none => ∀ i' j', ¬ S i' j'
  | some (q, _, _, _, _) => Sz q ∧ (∃ i' j', S i' j' ∧ j' < ls.length ∧ IsMin (Lg ls i') (Lg ls j') r q) ∧ ∀ i' j', S i' j' → ∀ q', IsMin (Lg ls i') (Lg ls j') r q' → q ≤ q'
theorem noS_eq {ls : List Leg} {r : Rat} {S S' : Nat → Nat → Prop} {o : Option NoR} (h : NoS ls r S o) (e : ∀ i j, S' i j ↔ S i j) : NoS ls r S' o := by
  have : S' = S := funext fun i => funext fun j => propext (e i j)
  rw [this]
  exact h
theorem noS_new {ls : List Leg} {r q s t : Rat} {S S' : Nat → Nat → Prop} {a b : Int} {i j : Nat} {o : Option NoR} (hS : ∀ i' j', S' i' j' ↔ S i' j' ∨ (i' = i ∧ j' = j)) (hj : j < ls.length) (h : NoS ls r S o) (hq : NearOk (Lg ls i) (Lg ls j) r q) (k : ∀ x, o = some x → q ≤ x.1) : NoS ls r S' (some (q, a, b, s, t)) := by
  refine ⟨hq.sz, ⟨i, j, (hS i j).mpr (.inr ⟨rfl, rfl⟩), hj, hq.min⟩, fun i' j' sn q' hq' => ?_⟩
  rcases (hS i' j').mp sn with z | ⟨rfl, rfl⟩
  · cases o with
    | none => exact absurd z (h i' j')
    | some x =>
      obtain ⟨q0, a0, b0, s0, t0⟩ := x
      have h1 := h.2.2 i' j' z q' hq'
      have h2 : q ≤ q0 := k _ rfl
      grind
  · rw [hq.min.uniq hq']
    exact Rat.le_refl
theorem noS_old {ls : List Leg} {r q q0 s0 t0 : Rat} {S S' : Nat → Nat → Prop} {a0 b0 : Int} {i j : Nat} (hS : ∀ i' j', S' i' j' ↔ S i' j' ∨ (i' = i ∧ j' = j)) (h : NoS ls r S (some (q0, a0, b0, s0, t0))) (hq : NearOk (Lg ls i) (Lg ls j) r q) (k : q0 ≤ q) : NoS ls r S' (some (q0, a0, b0, s0, t0)) := by
  obtain ⟨h0, ⟨i', j', k1, k2⟩, h2⟩ := h
  refine ⟨h0, ⟨i', j', (hS i' j').mpr (.inl k1), k2⟩, fun i' j' sn q' hq' => ?_⟩
  rcases (hS i' j').mp sn with z | ⟨rfl, rfl⟩
  · exact h2 i' j' z q' hq'
  · rw [← hq.min.uniq hq']
    exact k
theorem noS_inv {ls : List Leg} {r : Rat} {o : Option NoR} (h : NoS ls r (Seen ls.length 0) o) : NoInv ls r ls.length 0 o := by
  cases o with
  | none => exact h
  | some x =>
    obtain ⟨q, a, b, s, t⟩ := x
    exact h
/-- the couples that the law looked at before (i, j) -/
def Sl (n i j i' j' : Nat) : Prop := i' < j' ∧ j' < n ∧ (i' < i ∨ (i' = i ∧ j' < j))
theorem sl_in {n i i' j' : Nat} : Sl n i (i + 1 + 0) i' j' ↔ Sl n i 0 i' j' := by
  unfold Sl
  omega
theorem sl_step {n i k i' j' : Nat} (h : i + 1 + k < n) : Sl n i (i + 1 + (k + 1)) i' j' ↔ Sl n i (i + 1 + k) i' j' ∨ (i' = i ∧ j' = i + 1 + k) := by
  unfold Sl
  omega
theorem sl_out {n i k i' j' : Nat} (h : n ≤ i + 1 + k) : Sl n (i + 1) 0 i' j' ↔ Sl n i (i + 1 + k) i' j' := by
  unfold Sl
  omega
theorem sl_all {n i' j' : Nat} : Seen n 0 i' j' ↔ Sl n n 0 i' j' := by
  unfold Sl Seen
  omega
def sp__law_nearest_of (K : PySem.W.Frag) : Sp := spF (fun g : List Leg × Rat => [yLs K g.1, yF K g.2]) (fun g => LsOk g.1 ∧ PreR g.2) (fun g => yNo K g.1 g.2)
def sp__law_are_apart (K : PySem.W.Frag) : Sp := spF (fun g : Bd × Int × List Leg => [yBd K g.1, yI g.2.1, yLs K g.2.2]) (fun g => BdOk g.1 ∧ TkOk g.1 g.2.1 ∧ LsOk g.2.2) (fun g => yB (pB (Ap g.1 g.2.2 g.2.1)))
def sp__law_are_ever_apart (K : PySem.W.Frag) : Sp := spF (fun g : Bd × List Leg => [yBd K g.1, yLs K g.2]) (fun g => BdOk g.1 ∧ LsOk g.2) (fun g => yB (pB (EvAll g.1 g.2)))
section
variable {Γ : Tys} {W : Wd} {ta tb tc : TE} {K : PySem.W.Frag}
theorem ee__law_nearest_of {ls : List Leg} {r : Rat} (ha : EE ta Γ W (yLs K ls)) (hb : EE tb Γ W (yF K r)) (hp : LsOk ls ∧ PreR r) : EE (tCall (sp__law_nearest_of K) [] E0 (tCons ta (tCons tb tNil))) Γ W (yNo K ls r) := ee_call (ls, r) (ea_cons ha (ea_cons hb ea_nil)) hp
theorem ee__law_are_apart {b : Bd} {T : Int} {ls : List Leg} (ha : EE ta Γ W (yBd K b)) (hb : EE tb Γ W (yI T)) (hc : EE tc Γ W (yLs K ls)) (hp : BdOk b ∧ TkOk b T ∧ LsOk ls) : EE (tCall (sp__law_are_apart K) [] E0 (tCons ta (tCons tb (tCons tc tNil)))) Γ W (yB (pB (Ap b ls T))) := ee_call (b, T, ls) (ea_cons ha (ea_cons hb (ea_cons hc ea_nil))) hp
theorem ee__law_are_ever_apart {b : Bd} {ls : List Leg} (ha : EE ta Γ W (yBd K b)) (hb : EE tb Γ W (yLs K ls)) (hp : BdOk b ∧ LsOk ls) : EE (tCall (sp__law_are_ever_apart K) [] E0 (tCons ta (tCons tb tNil))) Γ W (yB (pB (EvAll b ls))) := ee_call (b, ls) (ea_cons ha (ea_cons hb ea_nil)) hp
theorem leg_at {ls : List Leg} {i : Nat} (h : i < ls.length) : (ls.map (yG K))[((i : Nat) : Int).toNat]? = some (yG K (Lg ls i)) := by
  rw [Int.toNat_natCast, List.getElem?_map, List.getElem?_eq_getElem h]
  show some _ = some (yG K (ls.getD i d0))
  rw [List.getD_eq_getElem?_getD, List.getElem?_eq_getElem h]
  rfl
theorem below_near {a b : Leg} {r : Rat} {n : Int} (hn : 0 ≤ n ∧ n ≤ 600) : ∀ vs G, AllR [yE fun g : Rat × Rat × Rat => yW (NearOk a b r g.1) (yF K g.1), yF K ((n * n : Int) : Rat)] vs G →
    ∃ g : Rat × Rat, (Sz g.1 ∧ Sz g.2) ∧ AllR [yF K g.1, yF K g.2] vs G ∧ (yB (decide (g.1 < g.2))).le (yE fun g : Rat => yW (NearOk a b r g) (yB (decide (g < ((n * n : Int) : Rat))))) := fun vs G al => by
  obtain ⟨v, u, rfl, ⟨g, hg, hv⟩, hu⟩ := al.two
  exact ⟨(g.1, ((n * n : Int) : Rat)), ⟨hg.sz, sz600 hn⟩, ⟨hv, hu, trivial⟩, fun v H h => ⟨g.1, hg, h⟩⟩
end
section
variable {P : Program} {w : World} {K : PySem.W.Frag} {mg : Str → Option Value} {base : Heap} {cN cO cA cW : Addr}
theorem d__law_nearest_of (B : Blt K mg cN cO cA cW) (R : Raw K mg "_law_nearest_of" LH.s__law_nearest_of) (D__law_nearest : Def P w K mg base 6 "_law_nearest" ["_law_leg", "_law_other", "_law_rho_here"] (sp__law_nearest K)) (D__law_is_below : Def P w K mg base 1 "_law_is_below" ["_law_x", "_law_y"] (sp__law_is_below K)) : Def P w K mg base 7 "_law_nearest_of" ["_law_legs_here", "_law_rho_here"] (sp__law_nearest_of K) := by
  refine def_mk R sc__law_nearest_of (fun _ _ _ _ _ _ us hl => match us, hl with | [_, _], _ => rfl) (fun _ => rfl) fun f cdv A outer s H E hr => ⟨_, (pss_cons (ps_set (i := 2) sc__law_nearest_of.nd rfl (.inl rfl) pe_non)
      (pss_cons (ps_for PassesOwn.never rfl (pi_range1 (by rfl) B.range (pa_cons (pe_callB call_len_seq rfl B.len (by decide +kernel) (pa_cons (pv 0) pa_nil)) pa_nil)) (pg_name (i := 3) sc__law_nearest_of.nd rfl (.inl rfl))
      (pss_one (ps_for PassesOwn.never rfl (pi_range2 (by rfl) B.range (pa_cons (pe_op op_add (pv 3) pe_int) (pa_cons (pe_callB call_len_seq rfl B.len (by decide +kernel) (pa_cons (pv 0) pa_nil)) pa_nil))) (pg_name (i := 4) sc__law_nearest_of.nd rfl (.inl rfl))
      (pss_cons (ps_set (i := 5) sc__law_nearest_of.nd rfl (.inl rfl) (pe_cd D__law_nearest hr (by decide) (pa_cons (pe_ix ix_tup (pv 0) (pv 3) (fun _ _ => rfl)) (pa_cons (pe_ix ix_tup (pv 0) (pv 4) (fun _ _ => rfl)) (pa_cons (pv 1) pa_nil)))))
      (pss_one (ps_if (PW.pt (pw_or (pt_cmpR op_isN (pv 2) pe_non (nomark _)) (pw_or1 (pt_val (pe_cd D__law_is_below hr (by decide) (pa_cons (pe_ix ix_tup (pv 5) pe_int (fun _ _ => rfl)) (pa_cons (pe_ix ix_tup (pv 2) pe_int (fun _ _ => rfl)) pa_nil))))))) (pss_one (ps_set (i := 2) sc__law_nearest_of.nd rfl (.inl rfl) (pe_tup (pa_cons (pe_ix ix_tup (pv 5) pe_int (fun _ _ => rfl)) (pa_cons (pv 3) (pa_cons (pv 4) (pa_cons (pe_ix ix_tup (pv 5) pe_int (fun _ _ => rfl)) (pa_cons (pe_ix ix_tup (pv 5) pe_int (fun _ _ => rfl)) pa_nil)))))))) pss_nil))))))
      (pss_one (ps_ret (pv 2))))), fun ⟨ls, r⟩ ⟨hl, hr0, hr1⟩ W => ?_⟩
  show SS _ [some (yLs K ls), some (yF K r), none, none, none, none] W _ W (yNo K ls r)
  refine ss_asg ee_n ?_
  show SS _ [some (yLs K ls), some (yF K r), some yN, none, none, none] W _ W (yNo K ls r)
  have hn : (ls.map (yG K)).length = ls.length := List.length_map _
  have hl1 : ls.length ≤ 300 := hl.len
  refine ss_for (α := Option NoR) (n := ((ls.length : Nat) : Int).toNat) (ei_rng1 (n := (ls.length : Int)) (ea_cons (ee_ieq (ee_cb (ea_cons (ee_var rfl) ea_nil) ct_lenT) (by rw [hn])) ea_nil) (by omega) (by omega)) (fun i o => NoS ls r (Sl ls.length i 0) o) (fun o => [some (yLs K ls), some (yF K r), some (noT K o), none, none, none]) (fun _ => W)
    (fun i o => [some (yLs K ls), some (yF K r), some (noT K o), some (yI (i : Int)), none, none]) none (fun i' j' k => by unfold Sl at k; omega) (fun σ G H o w => ⟨o, w⟩) (fun i o hi hp => gt_name) (fun i o hi hp => ?_) (fun o hp => ?_)
  · rw [Int.toNat_natCast] at hi
    refine ss_last (ss_for (α := Option NoR) (n := ((ls.length : Int) - ((i : Int) + 1)).toNat) (EI.congr (Y' := fun k => yI ((i + 1 + k : Nat) : Int)) (ei_rng2 (m := (i : Int) + 1) (n := (ls.length : Int)) (ea_cons (ee_op (ee_var rfl) ee_i ot_add) (ea_cons (ee_ieq (ee_cb (ea_cons (ee_var rfl) ea_nil) ct_lenT) (by rw [hn])) ea_nil)) ⟨by omega, by omega⟩ ⟨by omega, by omega⟩) (fun k hk => by congr 1)) (fun k o => NoS ls r (Sl ls.length i (i + 1 + k)) o)
      (fun o => [some (yLs K ls), some (yF K r), some (noT K o), some (yI (i : Int)), none, none]) (fun _ => W) (fun k o => [some (yLs K ls), some (yF K r), some (noT K o), some (yI (i : Int)), some (yI ((i + 1 + k : Nat) : Int)), none]) o (noS_eq hp fun _ _ => sl_in) (fun σ G H o w => ⟨o, w⟩) (fun k o hk hp => gt_name) (fun k o hk hp => ?_) (fun o hp => ?_))
    · have hj : i + 1 + k < ls.length := by omega
      have hS := fun i' j' => sl_step (i' := i') (j' := j') hj
      generalize i + 1 + k = j at *
      refine ss_asg (ee__law_nearest (ee_op (ee_var rfl) (ee_var rfl) (ot_ixT (leg_at hi) (by omega))) (ee_op (ee_var rfl) (ee_var rfl) (ot_ixT (leg_at hj) (by omega))) (ee_var rfl) ⟨hl.at hi, hl.at hj, hr0, hr1⟩) ?_
      refine ss_openE (i := 5) rfl fun x => ss_openW (i := 5) rfl fun hq => ?_
      obtain ⟨q, s', t⟩ := x
      have hq : NearOk (Lg ls i) (Lg ls j) r q := hq
      show SS _ [some (yLs K ls), some (yF K r), some (noT K o), some (yI (i : Int)), some (yI (j : Int)), some (yR K q s' t)] W _ W (yNo K ls r)
      cases o with
      | none =>
        refine ss_last (ss_if (b := true) (et_or (a := true) (b := true) (et_test (ee_op (ee_var rfl) ee_n (ot_isN yN_is))) (fun z => nomatch z)) (fun _ => ?_) (fun z => nomatch z))
        exact ss_asg (ee_tup (ea_cons (ee_op (ee_var rfl) ee_i (ot_ixT rfl)) (ea_cons (ee_var rfl) (ea_cons (ee_var rfl) (ea_cons (ee_op (ee_var rfl) ee_i (ot_ixT rfl)) (ea_cons (ee_op (ee_var rfl) ee_i (ot_ixT rfl)) ea_nil))))) (lle rfl)) (ss_next fun σ G H o s0 w => ⟨some (q, (i : Int), (j : Int), s', t), noS_new hS hj hp hq (fun x e => nomatch e), (o.forget 4).forget 5, w⟩)
      | some x =>
        obtain ⟨q0, a0, b0, s0, t0⟩ := x
        refine ss_last (ss_if (b := decide (q < q0)) (et_or (a := false) (et_test (ee_op (ee_var rfl) ee_n (ot_isN yT_not))) (fun z => et_B (ee__law_is_below (ee_op (ee_var rfl) ee_i (ot_ixT rfl)) (ee_op (ee_var rfl) ee_i (ot_ixT rfl)) ⟨hq.sz, hp.1⟩))) (fun hb => ?_) (fun hb => ?_))
        · have hb : q < q0 := of_decide_eq_true hb
          refine ss_asg (ee_tup (ea_cons (ee_op (ee_var rfl) ee_i (ot_ixT rfl)) (ea_cons (ee_var rfl) (ea_cons (ee_var rfl) (ea_cons (ee_op (ee_var rfl) ee_i (ot_ixT rfl)) (ea_cons (ee_op (ee_var rfl) ee_i (ot_ixT rfl)) ea_nil))))) (lle rfl)) (ss_next fun σ G H o s1 w => ⟨some (q, (i : Int), (j : Int), s', t), noS_new hS hj hp hq (fun x e => ?_), (o.forget 4).forget 5, w⟩)
          cases e
          show q ≤ q0
          grind
        · have hb : ¬ q < q0 := of_decide_eq_false hb
          exact ss_skip (ss_next fun σ G H o s1 w => ⟨some (q0, a0, b0, s0, t0), noS_old hS hp hq (by grind), (o.forget 4).forget 5, w⟩)
    · exact ss_next fun σ G H o' s1 w => ⟨o, noS_eq hp fun _ _ => sl_out (by omega), o'.forget 3, w⟩
  · rw [Int.toNat_natCast] at hp
    exact ss_ret (EE.sub (ee_var rfl) fun v H hv => ⟨o, noS_inv (noS_eq hp fun _ _ => sl_all), hv⟩) (Wd.le.refl _)
theorem d__law_are_apart (B : Blt K mg cN cO cA cW) (R : Raw K mg "_law_are_apart" LH.s__law_are_apart) (D__law_nearest_of : Def P w K mg base 7 "_law_nearest_of" ["_law_legs_here", "_law_rho_here"] (sp__law_nearest_of K)) (D__law_rho : Def P w K mg base 2 "_law_rho" ["_law_bounds_here", "_law_ticks"] (sp__law_rho K)) (D__law_is_below : Def P w K mg base 1 "_law_is_below" ["_law_x", "_law_y"] (sp__law_is_below K)) (D__law_reach : Def P w K mg base 1 "_law_reach" ["_law_bounds_here"] (sp__law_reach K)) : Def P w K mg base 8 "_law_are_apart" ["_law_bounds_here", "_law_ticks", "_law_legs_here"] (sp__law_are_apart K) := by
  refine def_mk R sc__law_are_apart (fun _ _ _ _ _ _ us hl => match us, hl with | [_, _, _], _ => rfl) (fun _ => rfl) fun f cdv A outer s H E hr => ⟨_, (pss_cons (ps_set (i := 3) sc__law_are_apart.nd rfl (.inl rfl) (pe_cd D__law_nearest_of hr (by decide) (pa_cons (pv 2) (pa_cons (pe_cd D__law_rho hr (by decide) (pa_cons (pv 0) (pa_cons (pv 1) pa_nil))) pa_nil))))
      (pss_one (ps_ret (pe_or (pe_cmpR op_isN (pv 3) pe_non (nomark _)) (pe_one (pe_not (pe_cd D__law_is_below hr (by decide) (pa_cons (pe_ix ix_tup (pv 3) pe_int (fun _ _ => rfl)) (pa_cons (pe_tup (pa_cons (pe_op op_mul (pe_cd D__law_reach hr (by decide) (pa_cons (pv 0) pa_nil)) (pe_cd D__law_reach hr (by decide) (pa_cons (pv 0) pa_nil))) (pa_cons pe_int pa_nil))) pa_nil))))))))), fun ⟨b, T, ls⟩ ⟨hb, hT, hl⟩ W => ?_⟩
  have hR : 0 ≤ b.R ∧ b.R ≤ 600 := hb.R
  refine ss_asg (ee__law_nearest_of (ee_var rfl) (ee__law_rho (ee_var rfl) (ee_var rfl) ⟨hb, hT⟩) ⟨hl, rho_in hb hT⟩) ?_
  refine ss_openE (i := 3) rfl fun o => ss_openW (i := 3) rfl fun ho => ?_
  show SS _ [some (yBd K b), some (yI T), some (yLs K ls), some (noT K o)] W _ W (yB (pB (Ap b ls T)))
  cases o with
  | none =>
    exact ss_ret (ee_eq (ee_or (a := true) (b := true) (ee_op (ee_var rfl) ee_n (ot_isN yN_is)) (fun z => nomatch z)) (congrArg yB (pB_of ⟨fun _ i j hij hj => absurd (seen_all.mpr ⟨hij, hj⟩) (ho i j), fun _ => rfl⟩))) (Wd.le.refl _)
  | some x =>
    obtain ⟨q, a', b', s', t⟩ := x
    have h1 : NoInv ls (b.rho T) ls.length 0 (some (q, a', b', s', t)) := ho
    refine ss_ret (ee_eq (ee_or (ee_op (ee_var rfl) ee_n (ot_isN yT_not)) (fun z => ee_not (ee__law_is_below (ee_op (ee_var rfl) ee_i (ot_ixT rfl)) (ee_fr (ee_op (ee__law_reach (ee_var rfl) hb) (ee__law_reach (ee_var rfl) hb) (ot_mul (c600 hR)))) ⟨h1.1, sz600 hR⟩))) (congrArg yB (pB_of ?_))) (Wd.le.refl _)
    rw [Bool.false_or, Bool.not_eq_true', decide_eq_false_iff_not]
    refine Iff.trans ?_ (no_apart (R := b.R) h1)
    rw [cmp_ge]
    constructor <;> intro z <;> grind
theorem d__law_are_ever_apart (B : Blt K mg cN cO cA cW) (R : Raw K mg "_law_are_ever_apart" LH.s__law_are_ever_apart) (D__law_lag : Def P w K mg base 1 "_law_lag" ["_law_bounds_here"] (sp__law_lag K)) (D__law_is_below : Def P w K mg base 1 "_law_is_below" ["_law_x", "_law_y"] (sp__law_is_below K)) (D__law_reach : Def P w K mg base 1 "_law_reach" ["_law_bounds_here"] (sp__law_reach K)) (D__law_nearest : Def P w K mg base 6 "_law_nearest" ["_law_leg", "_law_other", "_law_rho_here"] (sp__law_nearest K)) : Def P w K mg base 7 "_law_are_ever_apart" ["_law_bounds_here", "_law_legs_here"] (sp__law_are_ever_apart K) := by
  refine def_mk R sc__law_are_ever_apart (fun _ _ _ _ _ _ us hl => match us, hl with | [_, _], _ => rfl) (fun _ => rfl) fun f cdv A outer s H E hr => ⟨_, (pss_cons (ps_par (i := 2) (j := 3) rfl sc__law_are_ever_apart.nd rfl rfl (by decide) rfl rfl (pa_cons (pe_tup (pa_cons (pe_op op_mul (pe_cd D__law_reach hr (by decide) (pa_cons (pv 0) pa_nil)) (pe_cd D__law_reach hr (by decide) (pa_cons (pv 0) pa_nil))) (pa_cons pe_int pa_nil))) (pa_cons (pe_cd D__law_lag hr (by decide) (pa_cons (pv 0) pa_nil)) pa_nil)) (by rfl))
      (pss_cons (ps_for PassesOwn.never rfl (pi_range1 (by rfl) B.range (pa_cons (pe_callB call_len_seq rfl B.len (by decide +kernel) (pa_cons (pv 1) pa_nil)) pa_nil)) (pg_name (i := 4) sc__law_are_ever_apart.nd rfl (.inl rfl))
      (pss_one (ps_for PassesOwn.never rfl (pi_range2 (by rfl) B.range (pa_cons (pe_op op_add (pv 4) pe_int) (pa_cons (pe_callB call_len_seq rfl B.len (by decide +kernel) (pa_cons (pv 1) pa_nil)) pa_nil))) (pg_name (i := 5) sc__law_are_ever_apart.nd rfl (.inl rfl))
      (pss_cons (ps_set (i := 6) sc__law_are_ever_apart.nd rfl (.inl rfl) (pe_ix ix_tup (pe_cd D__law_nearest hr (by decide) (pa_cons (pe_ix ix_tup (pv 1) (pv 4) (fun _ _ => rfl)) (pa_cons (pe_ix ix_tup (pv 1) (pv 5) (fun _ _ => rfl)) (pa_cons (pe_tup (pa_cons pe_int (pa_cons pe_int pa_nil))) pa_nil)))) pe_int (fun _ _ => rfl)))
      (pss_cons (ps_if (pt_val (pe_cd D__law_is_below hr (by decide) (pa_cons (pv 6) (pa_cons (pv 2) pa_nil)))) (pss_one (ps_ret pe_bl)) pss_nil)
      (pss_one (ps_if (PW.pt (pw_and (pt_cmpR (op_eqD hr.units) (pv 6) (pv 2) (nomark _)) (pw_and (pt_cmpR op_gt (pv 3) pe_int (nomark _)) (pw_and1 (pt_val (pe_cd D__law_is_below hr (by decide) (pa_cons (pe_ix ix_tup (pe_cd D__law_nearest hr (by decide) (pa_cons (pe_ix ix_tup (pv 1) (pv 4) (fun _ _ => rfl)) (pa_cons (pe_ix ix_tup (pv 1) (pv 5) (fun _ _ => rfl)) (pa_cons (pe_tup (pa_cons pe_int (pa_cons pe_int pa_nil))) pa_nil)))) pe_int (fun _ _ => rfl)) (pa_cons (pv 2) pa_nil)))))))) (pss_one (ps_ret pe_bl)) pss_nil)))))))
      (pss_one (ps_ret pe_bl)))), fun ⟨b, ls⟩ ⟨hb, hl⟩ W => ?_⟩
  have hR : 0 ≤ b.R ∧ b.R ≤ 600 := hb.R
  have hlag : 0 ≤ b.lag ∧ b.lag ≤ 600 := hb.lag
  have hn : (ls.map (yG K)).length = ls.length := List.length_map _
  have hl1 : ls.length ≤ 300 := hl.len
  refine ss_par (Ra := yF K ((b.R * b.R : Int) : Rat)) (Rb := yI b.lag) (ea_cons (ee_fr (ee_op (ee__law_reach (ee_var rfl) hb) (ee__law_reach (ee_var rfl) hb) (ot_mul (c600 hR)))) (ea_cons (ee__law_lag (ee_var rfl) hb) ea_nil)) ?_
  show SS _ [some (yBd K b), some (yLs K ls), some (yF K ((b.R * b.R : Int) : Rat)), some (yI b.lag), none, none, none] W _ W (yB (pB (EvAll b ls)))
  refine ss_for (α := Unit) (n := ((ls.length : Nat) : Int).toNat) (ei_rng1 (n := (ls.length : Int)) (ea_cons (ee_ieq (ee_cb (ea_cons (ee_var rfl) ea_nil) ct_lenT) (by rw [hn])) ea_nil) (by omega) (by omega)) (fun i _ => ∀ i' j', Sl ls.length i 0 i' j' → Ev (Lg ls i') (Lg ls j') b.R b.lag) (fun _ => [some (yBd K b), some (yLs K ls), some (yF K ((b.R * b.R : Int) : Rat)), some (yI b.lag), none, none, none]) (fun _ => W)
    (fun i _ => [some (yBd K b), some (yLs K ls), some (yF K ((b.R * b.R : Int) : Rat)), some (yI b.lag), some (yI (i : Int)), none, none]) () (fun i' j' k => by unfold Sl at k; omega) (fun σ G H o w => ⟨o, w⟩) (fun i o hi hp => gt_name) (fun i o hi hp => ?_) (fun o hp => ?_)
  · rw [Int.toNat_natCast] at hi
    refine ss_last (ss_for (α := Unit) (n := ((ls.length : Int) - ((i : Int) + 1)).toNat) (EI.congr (Y' := fun k => yI ((i + 1 + k : Nat) : Int)) (ei_rng2 (m := (i : Int) + 1) (n := (ls.length : Int)) (ea_cons (ee_op (ee_var rfl) ee_i ot_add) (ea_cons (ee_ieq (ee_cb (ea_cons (ee_var rfl) ea_nil) ct_lenT) (by rw [hn])) ea_nil)) ⟨by omega, by omega⟩ ⟨by omega, by omega⟩) (fun k hk => by congr 1)) (fun k _ => ∀ i' j', Sl ls.length i (i + 1 + k) i' j' → Ev (Lg ls i') (Lg ls j') b.R b.lag)
      (fun _ => [some (yBd K b), some (yLs K ls), some (yF K ((b.R * b.R : Int) : Rat)), some (yI b.lag), some (yI (i : Int)), none, none]) (fun _ => W) (fun k _ => [some (yBd K b), some (yLs K ls), some (yF K ((b.R * b.R : Int) : Rat)), some (yI b.lag), some (yI (i : Int)), some (yI ((i + 1 + k : Nat) : Int)), none]) () (fun i' j' k => hp i' j' (sl_in.mp k)) (fun σ G H o w => ⟨o, w⟩) (fun k o hk hp => gt_name) (fun k o hk hp => ?_) (fun o hp => ?_))
    · have hj : i + 1 + k < ls.length := by omega
      have hij : i < i + 1 + k := by omega
      have hS := fun i' j' => sl_step (i' := i') (j' := j') hj
      generalize i + 1 + k = j at *
      have ix1 : ∀ {Γ : Tys} {W' : Wd}, Γ[1]? = some (some (yLs K ls)) → Γ[4]? = some (some (yI (i : Int))) → EE (tOp (rIxT K) (tVar 1) (tVar 4)) Γ W' (yG K (Lg ls i)) := fun h1 h2 => ee_op (ee_var h1) (ee_var h2) (ot_ixT (leg_at hi) (by omega))
      have ix2 : ∀ {Γ : Tys} {W' : Wd}, Γ[1]? = some (some (yLs K ls)) → Γ[5]? = some (some (yI (j : Int))) → EE (tOp (rIxT K) (tVar 1) (tVar 5)) Γ W' (yG K (Lg ls j)) := fun h1 h2 => ee_op (ee_var h1) (ee_var h2) (ot_ixT (leg_at hj) (by omega))
      refine ss_asg (ee_op (ee__law_nearest (ix1 rfl rfl) (ix2 rfl rfl) ee_q0 ⟨hl.at hi, hl.at hj, ⟨by decide, by decide⟩, by decide⟩) ee_i (ot_ixE (i := 0) fun _ => rfl)) ?_
      refine ss_openE (i := 6) rfl fun x => ss_openW (i := 6) rfl fun hq => ?_
      obtain ⟨m0, s', t⟩ := x
      have hq : NearOk (Lg ls i) (Lg ls j) 0 m0 := hq
      have ca : Lg ls i = Lg ls i := rfl
      show SS _ [some (yBd K b), some (yLs K ls), some (yF K ((b.R * b.R : Int) : Rat)), some (yI b.lag), some (yI (i : Int)), some (yI (j : Int)), some (yF K m0)] W _ W (yB (pB (EvAll b ls)))
      refine ss_if (et_B (ee__law_is_below (ee_var rfl) (ee_var rfl) ⟨hq.sz, sz600 hR⟩)) (fun hb1 => ?_) (fun hb1 => ?_)
      · have hb1 : m0 < ((b.R * b.R : Int) : Rat) := of_decide_eq_true hb1
        refine ss_ret1 (ee_eq ee_b (congrArg yB (pB_of ⟨(fun z => nomatch z), fun z => ?_⟩))) (Wd.le.refl _)
        have := (z i j hij hj m0 hq.min).1
        grind
      have hb1 : ¬ m0 < ((b.R * b.R : Int) : Rat) := of_decide_eq_false hb1
      refine ss_skip (ss_last (ss_if (b := decide (m0 = ((b.R * b.R : Int) : Rat)) && (decide (0 < b.lag) && pB (∃ m1, IsMin (Lg ls i) (Lg ls j) 1 m1 ∧ m1 < ((b.R * b.R : Int) : Rat)))) (et_and (et_test (ee_op (ee_var rfl) (ee_var rfl) ot_eqF)) (fun z => et_and (et_test (ee_op (ee_var rfl) ee_i ot_gt)) (fun z => et_B (EE.sub (S := yB (pB (∃ m1, IsMin (Lg ls i) (Lg ls j) 1 m1 ∧ m1 < ((b.R * b.R : Int) : Rat))))
        (ee_callE (R := yE fun g : Rat => yW (NearOk (Lg ls i) (Lg ls j) 1 g) (yB (decide (g < ((b.R * b.R : Int) : Rat))))) (Rs := [yE fun g : Rat × Rat × Rat => yW (NearOk (Lg ls i) (Lg ls j) 1 g.1) (yF K g.1), yF K ((b.R * b.R : Int) : Rat)]) (ea_cons (ee_op (ee__law_nearest (ix1 rfl rfl) (ix2 rfl rfl) ee_q1 ⟨hl.at hi, hl.at hj, ⟨by decide, by decide⟩, by decide⟩) ee_i (ot_ixE (i := 0) fun _ => rfl)) (ea_cons (ee_var rfl) ea_nil)) (below_near hR)) ?sub)))) (fun hb2 => ?_) (fun hb2 => ?_)))
      case sub =>
        intro v H ⟨g, hg, hv⟩
        have e : decide (g < ((b.R * b.R : Int) : Rat)) = pB (∃ m1, IsMin (Lg ls i) (Lg ls j) 1 m1 ∧ m1 < ((b.R * b.R : Int) : Rat)) := pB_of (by
          rw [decide_eq_true_eq]
          exact ⟨fun z => ⟨g, hg.min, z⟩, fun ⟨m1, k1, k2⟩ => by rw [hg.min.uniq k1]; exact k2⟩)
        rw [← e]
        exact hv
      · rw [Bool.and_eq_true, Bool.and_eq_true, decide_eq_true_eq, decide_eq_true_eq, pB_iff] at hb2
        obtain ⟨e1, e2, m1, k1, k2⟩ := hb2
        refine ss_ret1 (ee_eq ee_b (congrArg yB (pB_of ⟨(fun z => nomatch z), fun z => ?_⟩))) (Wd.le.refl _)
        have := (z i j hij hj m0 hq.min).2 e1 (by omega) m1 k1
        grind
      · refine ss_skip (ss_next fun σ G H o s1 w => ⟨(), fun i' j' sn => ?_, (o.forget 5).forget 6, w⟩)
        rcases (hS i' j').mp sn with z | ⟨rfl, rfl⟩
        · exact hp i' j' z
        · intro m hm
          rw [hm.uniq hq.min]
          refine ⟨by grind, fun e1 e2 m1 k1 => ?_⟩
          have k2 := IsMin.anti hq.min k1 (by decide)
          have k3 : ¬ m1 < ((b.R * b.R : Int) : Rat) := fun z => by
            have t1 : pB (∃ m1, IsMin (Lg ls i') (Lg ls j') 1 m1 ∧ m1 < ((b.R * b.R : Int) : Rat)) = true := pB_iff.mpr ⟨m1, k1, z⟩
            rw [t1, decide_eq_true e1, decide_eq_true (show 0 < b.lag by omega)] at hb2
            cases hb2
          grind
    · exact ss_next fun σ G H o' s1 w => ⟨(), fun i' j' sn => hp i' j' ((sl_out (by omega)).mp sn), o'.forget 4, w⟩
  · rw [Int.toNat_natCast] at hp
    exact ss_ret (ee_eq ee_b (congrArg yB (pB_of ⟨fun _ i j hij hj => hp i j ⟨hij, hj, .inl (by omega)⟩, fun _ => rfl⟩))) (Wd.le.refl _)
end
end LT
end
section
set_option Elab.async false
set_option linter.all false
set_option maxRecDepth 100000
set_option maxHeartbeats 1000000
set_option exponentiation.threshold 20000
namespace LT
open PySem PySem.Spec PyProof.Rows L2 LL
abbrev N__law_is_int : List Str := ["_law_thing"]
theorem sc__law_is_int : FnScope N__law_is_int ["_law_thing"] (defScope LH.s__law_is_int) := ⟨rfl, rfl, rfl, by decide +kernel, rfl, by decide +kernel, by decide +kernel⟩
abbrev N__law_alike : List Str := ["_law_found", "_law_due"]
theorem sc__law_alike : FnScope N__law_alike ["_law_found", "_law_due"] (defScope LH.s__law_alike) := ⟨rfl, rfl, rfl, by decide +kernel, rfl, by decide +kernel, by decide +kernel⟩
def rRep : List V → Hp → VK → Prop := fun xs H Q => (∃ i, xs = [.int i] ∧ i.natAbs.log2 < 1920 ∧ Q (.str (toString i)) H) ∨ (xs = [.non] ∧ Q (.str "None") H)
theorem call_reprX {X : Cx} : CallR X (.builtin "repr") rRep := by
  intro pins s σ H xs us Q I r h
  rcases h with h | ⟨rfl, q⟩
  · exact SkE.call_repr_int pins s σ H xs us Q I r h
  · obtain ⟨u, rfl, ru⟩ := vals1 r
    have e : u = .none := ru
    subst e
    exact PySem.P.repr_of_none ⟨.str _, H, I.tok _, ⟨_, rfl⟩, q⟩
section
variable {Γ : Tys} {W : Wd} {ta tb tc : TE} {K : PySem.W.Frag}
def sp__law_is_int (K : PySem.W.Frag) : Sp := spF (fun g : Int => [yI g]) (fun _ => True) (fun _ => yB true)
def sp__law_alike (K : PySem.W.Frag) : Sp := spF (fun g : Option Int => [ltT g, ltT g]) (fun g => ∀ t, g = some t → t.natAbs.log2 < 1920) (fun _ => yB true)
theorem ee__law_is_int {i : Int} (ha : EE ta Γ W (yI i)) : EE (tCall (sp__law_is_int K) [] E0 (tCons ta tNil)) Γ W (yB true) := ee_call i (ea_cons ha ea_nil) trivial
abbrev strT (o : Option Int) : Ty := yV (.str (match o with
  | none => "None"
  | some t => toString t))
theorem ct_rep {o : Option Int} (h : ∀ t, o = some t → t.natAbs.log2 < 1920) : CT rRep [ltT o] (strT o) := fun xs G H s hx Q q => by
  obtain ⟨v, rfl, hv⟩ := hx.one
  cases o with
  | none =>
    have hv : v = .non := hv
    subst hv
    exact .inr ⟨rfl, q _ G H (GS.refl s) rfl⟩
  | some t =>
    have hv : v = .int t := hv
    subst hv
    exact .inl ⟨t, rfl, h t rfl, q _ G H (GS.refl s) rfl⟩
theorem ot_same {R : Ty} {v : V} (h : ∀ u G, R.r u G → u = v) (hs : scal v v = true) : OT rEq R R (yB true) := fun x y G H s hx hy Q q => by
  have e1 := h x G hx
  have e2 := h y G hy
  subst e1 e2
  exact ⟨hs, q _ G H (GS.refl s) (by show V.bl _ = V.bl true; rw [decide_eq_true rfl])⟩
theorem ct_isi {i : Int} {n : String} {b : Bool} (h : kitB "int" n = some b) : CT (rIsi K) [yI i, yV (.ty n)] (yB b) := fun xs G H s hx Q q => by
  obtain ⟨v, u, rfl, hv, hu⟩ := hx.two
  have hv : v = .int i := hv
  have hu : u = .ty n := hu
  subst hv hu
  exact ⟨.int i, .ty n, .type "int", .type n, b, rfl, .ty n, .base (.int i), kit_ty h, q _ G H (GS.refl s) rfl⟩
end
section
variable {P : Program} {w : World} {K : PySem.W.Frag} {mg : Str → Option Value} {base : Heap} {cN cO cA cW : Addr}
theorem d__law_is_int (B : Blt K mg cN cO cA cW) (R : Raw K mg "_law_is_int" LH.s__law_is_int) : Def P w K mg base 1 "_law_is_int" ["_law_thing"] (sp__law_is_int K) := by
  refine def_mk R sc__law_is_int (fun _ _ _ _ _ _ us hl => match us, hl with | [_], _ => rfl) (fun _ => rfl) fun f cdv A outer s H E hr => ⟨_, (pss_one (ps_ret (pe_and (pe_callB call_isi rfl B.isinstance (by decide +kernel) (pa_cons (pv 0) (pa_cons (pe_bltn (v := .ty "int") (u := .type "int") rfl B.int (by decide +kernel) rfl) pa_nil))) (pe_one (pe_not (pe_callB call_isi rfl B.isinstance (by decide +kernel) (pa_cons (pv 0) (pa_cons (pe_bltn (v := .ty "bool") (u := .type "bool") rfl B.bool (by decide +kernel) rfl) pa_nil)))))))), fun i _ W => ?_⟩
  exact ss_ret (ee_and (a := true) (b := true) (ee_cb (ea_cons (ee_var rfl) (ea_cons (ee_c (fun _ => rfl)) ea_nil)) (ct_isi (by decide +kernel))) (fun h => ee_not (a := false) (ee_cb (ea_cons (ee_var rfl) (ea_cons (ee_c (fun _ => rfl)) ea_nil)) (ct_isi (by decide +kernel))))) (Wd.le.refl _)
theorem d__law_alike (B : Blt K mg cN cO cA cW) (R : Raw K mg "_law_alike" LH.s__law_alike) : Def P w K mg base 1 "_law_alike" ["_law_found", "_law_due"] (sp__law_alike K) := by
  refine def_mk R sc__law_alike (fun _ _ _ _ _ _ us hl => match us, hl with | [_, _], _ => rfl) (fun _ => rfl) fun f cdv A outer s H E hr => ⟨_, (pss_one (ps_ret (pe_and (pe_cmpR op_eq (pv 0) (pv 1) (nomark _)) (pe_one (pe_cmpR op_eq (pe_callB call_reprX rfl B.repr (by decide +kernel) (pa_cons (pv 0) pa_nil)) (pe_callB call_reprX rfl B.repr (by decide +kernel) (pa_cons (pv 1) pa_nil)) (nomark _)))))), fun o ho W => ?_⟩
  refine ss_ret (ee_and (a := true) (b := true) (ee_op (ee_var rfl) (ee_var rfl) ?_) (fun h => ee_op (ee_cb (ea_cons (ee_var rfl) ea_nil) (ct_rep ho)) (ee_cb (ea_cons (ee_var rfl) ea_nil) (ct_rep ho)) (ot_same (fun u G h => h) ?_))) (Wd.le.refl _)
  · cases o with
    | none => exact ot_same (fun u G h => h) rfl
    | some t => exact ot_same (fun u G h => h) rfl
  · rfl
end
end LT
end
section
set_option Elab.async false
set_option linter.all false
set_option maxRecDepth 100000
set_option maxHeartbeats 1000000
namespace LT
open PySem PySem.Spec PyProof.Rows L2 LL
/-! ### loose types: numbers between bounds, unknown tests -/
abbrev yIr (a b : Int) : Ty := yE fun i : Int => yW (a ≤ i ∧ i ≤ b) (yI i)
abbrev yU : Ty := yE yB
theorem Ty.le.refl (R : Ty) : R.le R := fun _ _ h => h
theorem ir_of {i a b : Int} (h : a ≤ i ∧ i ≤ b) : (yI i).le (yIr a b) := fun v H hv => ⟨i, h, hv⟩
theorem ir_le {a b c d : Int} (h : c ≤ a ∧ b ≤ d) : (yIr a b).le (yIr c d) := fun v H ⟨i, hi, hv⟩ => ⟨i, ⟨by omega, by omega⟩, hv⟩
inductive Sub2 : List Ty → List Ty → Prop where
  | nil : Sub2 [] []
  | cons {R S : Ty} {Rs Ss : List Ty} (h : R.le S) (t : Sub2 Rs Ss) : Sub2 (R :: Rs) (S :: Ss)
theorem AllR.sub : ∀ {Rs Ss : List Ty} {xs : List V} {H : Hp}, Sub2 Rs Ss → AllR Rs xs H → AllR Ss xs H
  | _, _, [], _, .nil, _ => trivial
  | _, _, x :: xs, H, .cons h t, a => ⟨h x H a.1, AllR.sub t a.2⟩
  | _, _, [], _, .cons _ _, a => a.elim
  | _, _, _ :: _, _, .nil, a => a.elim
theorem yT_le {K : PySem.W.Frag} {Rs Ss : List Ty} (h : Sub2 Rs Ss) : (yT K Rs).le (yT K Ss) := fun v H ⟨p, xs, e, hp, a⟩ => ⟨p, xs, e, hp, a.sub h⟩
theorem yL_le {Rs Ss : List Ty} (h : Sub2 Rs Ss) : (yL Rs).le (yL Ss) := fun v H ⟨p, xs, e, hp, a⟩ => ⟨p, xs, e, hp, a.sub h⟩
theorem f2_rep {R : Ty} : ∀ {Rs : List Ty}, (∀ S ∈ Rs, S.le R) → Sub2 Rs (List.replicate Rs.length R)
  | [], _ => .nil
  | S :: Rs, h => .cons (h S (by simp)) (f2_rep fun T hT => h T (by simp [hT]))
theorem all_ints : ∀ (ns : List Int) (H : Hp), AllR (ns.map yI) (ns.map V.int) H
  | [], _ => trivial
  | _ :: ns, H => ⟨rfl, all_ints ns H⟩
def rGet0 (K : PySem.W.Frag) : R2 := fun x y H Q => ∃ p xs i v, x = .ref p ∧ y = .int i ∧ 0 ≤ i ∧ SqL K H p xs ∧ atI xs i = some v ∧ Q v H
section
variable {Γ Γ' : Tys} {W W0 W' : Wd} {R S Ra Rb : Ty} {Rs : List Ty} {te ta tb tc td : TE} {t : TA} {K : PySem.W.Frag} {N : Nx} {u tu tw : TS} {tt uu : TT} {b : Addr}
theorem or_add {a b c d : Int} : OT (rI0 fun i j => .int (i + j)) (yIr a b) (yIr c d) (yIr (a + c) (b + d)) := fun x y G H s ⟨i, hi, hx⟩ ⟨j, hj, hy⟩ Q q => ot_add x y G H s hx hy Q fun v G2 H2 gs r => q v G2 H2 gs ⟨i + j, ⟨by omega, by omega⟩, r⟩
theorem or_sub {a b c d : Int} : OT (rI0 fun i j => .int (i - j)) (yIr a b) (yIr c d) (yIr (a - d) (b - c)) := fun x y G H s ⟨i, hi, hx⟩ ⟨j, hj, hy⟩ Q q => ot_sub x y G H s hx hy Q fun v G2 H2 gs r => q v G2 H2 gs ⟨i - j, ⟨by omega, by omega⟩, r⟩
theorem or_mulc {a b c : Int} (hc : 0 ≤ c ∧ c < 2 ^ 60) : OT (rI CMul fun i j => .int (i * j)) (yI c) (yIr a b) (yIr (c * a) (c * b)) := fun x y G H s hx ⟨j, hj, hy⟩ Q q => ot_mul (i := c) (j := j) (.inl ⟨by omega, by omega⟩) x y G H s hx hy Q fun v G2 H2 gs r => q v G2 H2 gs ⟨c * j, ⟨Int.mul_le_mul_of_nonneg_left hj.1 hc.1, Int.mul_le_mul_of_nonneg_left hj.2 hc.1⟩, r⟩
theorem or_neg {a b : Int} : UT (rU fun i => .int (-i)) (yIr a b) (yIr (-b) (-a)) := fun x G H s ⟨i, hi, hx⟩ Q q => ut_neg x G H s hx Q fun v G2 H2 gs r => q v G2 H2 gs ⟨-i, ⟨by omega, by omega⟩, r⟩
theorem or_cmp {f : Int → Int → Bool} {a b c d : Int} : OT (rI0 fun i j => .bl (f i j)) (yIr a b) (yIr c d) yU := fun x y G H s ⟨i, hi, hx⟩ ⟨j, hj, hy⟩ Q q => ⟨i, j, hx, hy, q _ G H (GS.refl s) ⟨f i j, rfl⟩⟩
theorem or_eq {a b c d : Int} : OT rEq (yIr a b) (yIr c d) yU := fun x y G H s ⟨i, hi, hx⟩ ⟨j, hj, hy⟩ Q q => ot_eqI x y G H s hx hy Q fun v G2 H2 gs r => q v G2 H2 gs ⟨_, r⟩
theorem ee_ir {i a b : Int} (h : a ≤ i ∧ i ≤ b) : EE (tC (.int i)) Γ W (yIr a b) := EE.sub ee_i (ir_of h)
def EU (tt : TT) (Γ : Tys) (W : Wd) : Prop := ∀ σ G H, OkS Γ σ G → Same G H → W.r G H → ∀ Q : Bool → Hp → Prop, (∀ b G2 H2, Same G G2 → Same G2 H2 → W.r G2 H2 → Q b H2) → tt σ H Q
theorem eu_test (h : EE te Γ W yU) : EU (tTest te) Γ W := fun σ G H o s w Q q => h σ G H o s w _ fun v G1 H1 g1 s1 w1 ⟨b, r1⟩ => ⟨b, r1, q b G1 H1 g1 s1 w1⟩
theorem eu_and (h1 : EU tt Γ W) (h2 : EU uu Γ W) : EU (tAnd tt uu) Γ W := fun σ G H o s w Q q => h1 σ G H o s w _ fun b G1 H1 g1 s1 w1 => by
  cases b with
  | true => exact h2 σ G1 H1 (o.mono g1) s1 w1 Q fun b G2 H2 a c d => q b G2 H2 (g1.trans a) c d
  | false => exact q false G1 H1 g1 s1 w1
theorem ss_ifU {c : TT} (hc : EU c Γ W) (h1 : SS (tSeq tu u) Γ W N W0 S) (h2 : SS (tSeq tw u) Γ W N W0 S) : SS (tSeq (tIfS c tu tw) u) Γ W N W0 S := fun σ G H o s w D n r =>
  hc σ G H o s w _ fun b G1 H1 g1 s1 w1 => by
    cases b with
    | true => exact h1 σ G1 H1 (o.mono g1) s1 w1 D (fun σ' G2 H2 a => n σ' G2 H2 (g1.trans a)) fun v G2 H2 a => r v G2 H2 (g1.trans a)
    | false => exact h2 σ G1 H1 (o.mono g1) s1 w1 D (fun σ' G2 H2 a => n σ' G2 H2 (g1.trans a)) fun v G2 H2 a => r v G2 H2 (g1.trans a)
theorem ss_ifUJ {c : TT} (Γ' : Tys) (W' : Wd) (hc : EU c Γ W) (h1 : SS tu Γ W (nX Γ' W') W0 S) (h2 : SS tw Γ W (nX Γ' W') W0 S) (k : SS u Γ' W' N W0 S) : SS (tSeq (tIfS c tu tw) u) Γ W N W0 S := fun σ G H o s w D n r =>
  hc σ G H o s w _ fun b G1 H1 g1 s1 w1 => by
    have go : ∀ σ' G2 H2, Same G1 G2 → Same G2 H2 → nX Γ' W' σ' G2 H2 → u D σ' H2 := fun σ' G2 H2 a b ⟨o', w'⟩ => k σ' G2 H2 o' b w' D (fun σ'' G3 H3 c => n σ'' G3 H3 ((g1.trans a).trans c)) fun v G3 H3 c => r v G3 H3 ((g1.trans a).trans c)
    cases b with
    | true => exact h1 σ G1 H1 (o.mono g1) s1 w1 { D with nx := u D } go fun v G2 H2 a => r v G2 H2 (g1.trans a)
    | false => exact h2 σ G1 H1 (o.mono g1) s1 w1 { D with nx := u D } go fun v G2 H2 a => r v G2 H2 (g1.trans a)
theorem ee_ifU {c : TT} (hc : EU c Γ W) (h1 : EE ta Γ W R) (h2 : EE tb Γ W R) : EE (tIf c ta tb) Γ W R := fun σ G H o s w Q q =>
  hc σ G H o s w _ fun b G1 H1 g1 s1 w1 => by
    cases b with
    | true => exact h1 σ G1 H1 (o.mono g1) s1 w1 Q fun v G2 H2 a b c d => q v G2 H2 (g1.trans a) b c d
    | false => exact h2 σ G1 H1 (o.mono g1) s1 w1 Q fun v G2 H2 a b c d => q v G2 H2 (g1.trans a) b c d
/-! ### reading and writing the bag -/
abbrev yNn : Ty := yE fun i : Int => yW (0 ≤ i) (yI i)
theorem ee_bagI (B : IsBag b W) (hb : EE te Γ W (yAt b)) {k : Int} (hk : k = 0 ∨ k = 1 ∨ k = 2) : EE (tOp (rIxL K) te (tC (.int k))) Γ W yNn := fun σ G H o s w Q q =>
  hb σ G H o s w _ fun v G1 H1 g1 s1 w1 r1 => by
    have r1 : v = .ref b := r1
    subst r1
    obtain ⟨v0, v1, v2, p, xs, e, h0, h1, h2, _⟩ := (B.ok _ _ w1).2
    rcases hk with rfl | rfl | rfl
    · exact ⟨b, _, 0, .int v0, rfl, rfl, .inl (.inl e), rfl, q _ G1 H1 g1 s1 w1 ⟨v0, h0, rfl⟩⟩
    · exact ⟨b, _, 1, .int v1, rfl, rfl, .inl (.inl e), rfl, q _ G1 H1 g1 s1 w1 ⟨v1, h1.1, rfl⟩⟩
    · exact ⟨b, _, 2, .int v2, rfl, rfl, .inl (.inl e), rfl, q _ G1 H1 g1 s1 w1 ⟨v2, h2, rfl⟩⟩
def yNs (m : Nat) : Ty := ⟨fun v H => ∃ p ns, v = .ref p ∧ H p = some (.lst (List.map V.int ns)) ∧ (∀ n ∈ ns, (0 : Int) ≤ n) ∧ ns.length ≤ m, fun _ _ _ s ⟨p, ns, e, h, r⟩ => ⟨p, ns, e, s _ _ h, r⟩⟩
theorem ee_bag3 (B : IsBag b W) (hb : EE te Γ W (yAt b)) : EE (tOp (rIxL K) te (tC (.int 3))) Γ W (yNs 63) := fun σ G H o s w Q q =>
  hb σ G H o s w _ fun v G1 H1 g1 s1 w1 r1 => by
    have r1 : v = .ref b := r1
    subst r1
    obtain ⟨v0, v1, v2, p, xs, e, h0, h1, h2, h3, h4, h5⟩ := (B.ok _ _ w1).2
    exact ⟨b, _, 3, .ref p, rfl, rfl, .inl (.inl e), rfl, q _ G1 H1 g1 s1 w1 ⟨p, xs, rfl, h3, h4, h5⟩⟩
theorem ee_slN {tl : TE} (h : EE te Γ W (yNs 63)) (h1 : EE tl Γ W yNn) : EE (tSl (rSlL K) te (tPart tl) tNoPart) Γ W (yNs 63) := fun σ G H o s w Q q =>
  h σ G H o s w _ fun x G1 H1 g1 s1 w1 r1 => h1 σ G1 H1 (o.mono g1) s1 w1 _ fun v G2 H2 g2 s2 w2 ⟨i, hi, r2⟩ => ⟨i, r2, by
    obtain ⟨p, ns, rfl, hp, hn, hl⟩ := (yNs 63).mono _ _ _ g2 r1
    refine ⟨p, _, rfl, .inl (.inl (s2 _ _ hp)), fun l hl' => ?_⟩
    have gs := GS.new (o := .lst (cutV (ns.map V.int) (some i) none)) s2 hl'
    refine q _ _ _ ((g1.trans g2).trans gs.g) gs.sub (W.pure _ _ _ _ s2 w2 gs) ⟨l, (ns.drop (HT.sIx ns.length 0 (some i))).take (HT.sIx ns.length ns.length none - HT.sIx ns.length 0 (some i)), rfl, ?_, fun n hn' => hn n (List.mem_of_mem_drop (List.mem_of_mem_take hn')), ?_⟩
    · rw [upd_same, List.map_take, List.map_drop]
      unfold cutV
      rw [List.length_map]
    · rw [List.length_take, List.length_drop]
      omega⟩
theorem ee_first (h : EE te Γ W (yNs 63)) : EE (tOp (rIxL K) (tOp rCat te (tLst (tCons (tC (.int 0)) tNil))) (tC (.int 0))) Γ W yNn := by
  have hc : EE (tOp rCat te (tLst (tCons (tC (.int 0)) tNil))) Γ W (yE fun ns : List Int => yW ((∀ n ∈ ns, (0 : Int) ≤ n) ∧ ns ≠ []) (yL (ns.map yI))) := ee_op h (ee_lst (Rs := [yI 0]) (ea_cons ee_i ea_nil) (lle rfl)) fun x y G H s r1 r2 Q q => by
    obtain ⟨p, ns, rfl, hp, hn, hl⟩ := r1
    obtain ⟨p2, ys, rfl, hq, aq⟩ := r2
    obtain ⟨v, rfl, hv⟩ := aq.one
    have hv : v = .int 0 := hv
    subst hv
    refine ⟨p, p2, _, _, rfl, rfl, s _ _ hp, s _ _ hq, by rw [List.length_map]; exact szl (show ns.length + 1 ≤ 100000 by omega), fun l hl' => ?_⟩
    have gs := GS.new (o := .lst (ns.map V.int ++ [.int 0])) s hl'
    refine q _ _ _ gs ⟨ns ++ [0], ⟨fun n hn' => ?_, by simp⟩, l, _, rfl, upd_same, ?_⟩
    · rcases List.mem_append.mp hn' with z | z
      · exact hn n z
      · rw [List.mem_singleton.mp z]
        exact Int.le_refl _
    · rw [List.map_append]
      refine AllR.app ?_ ⟨rfl, trivial⟩
      exact all_ints ns _
  refine ee_op hc ee_i fun x y G H s r1 r2 Q q => ?_
  obtain ⟨ns, ⟨hn, hne⟩, r1⟩ := r1
  cases ns with
  | nil => exact absurd rfl hne
  | cons n ns => exact ot_ixL (R := yI n) (Rs := yI n :: ns.map yI) rfl (by decide) x y G H s r1 r2 Q fun v G2 H2 gs r => q v G2 H2 gs ⟨n, hn n (by simp), r⟩
/-- bag[k] = e -/
theorem ss_bagset (B : IsBag b W) (hb : ∀ W', EE td Γ W' (yAt b)) {k : Int} (hk : k = 0 ∨ k = 1) (he : EE te Γ W yNn) (hx : k = 1 → EE te Γ W (yIr 0 2147483646)) (k2 : SS u Γ W N W0 S) : SS (tSeq (tAsg te (gSub td (tC (.int k)) rSetL)) u) Γ W N W0 S := fun σ G H o s w D n r => by
  have put : ∀ (i : Int) G1 H1, Same G G1 → Same G1 H1 → W.r G1 H1 → 0 ≤ i → (k = 1 → i ≤ 2147483646) → gSub td (tC (.int k)) rSetL (.int i) σ H1 fun σ' H' => u D σ' H' := fun i G1 H1 g1 s1 w1 hi hi1 => by
    refine hb W σ G1 H1 (o.mono g1) s1 w1 _ fun v G2 H2 g2 s2 w2 r2 => ?_
    have r2 : v = .ref b := r2
    subst r2
    obtain ⟨gb, v0, v1, v2, p, xs, e, h0, h1, h2, h3, h4, h5⟩ := B.ok _ _ w2
    have fin : ∀ ys, BagOk b G2 (upd H2 b (.lst ys)) → u D σ (upd H2 b (.lst ys)) := fun ys ok => by
      have bs : BS b G2 H2 G2 (upd H2 b (.lst ys)) := ⟨Same.refl _, fun a o' n e' => by rw [upd_ne n]; exact e', upd_sub s2 gb, fun _ _ h => h, ok⟩
      exact k2 σ G2 _ (o.mono (g1.trans g2)) bs.sub (B.bs _ _ _ _ w2 bs) D (fun σ' G3 H3 a => n σ' G3 H3 ((g1.trans g2).trans a)) fun v G3 H3 a => r v G3 H3 ((g1.trans g2).trans a)
    rcases hk with rfl | rfl
    · exact ⟨b, _, 0, 0, rfl, rfl, e, rfl, fin _ ⟨i, v1, v2, p, xs, upd_same, hi, h1, h2, h3, h4, h5⟩⟩
    · exact ⟨b, _, 1, 1, rfl, rfl, e, rfl, fin _ ⟨v0, i, v2, p, xs, upd_same, h0, ⟨hi, by have := hi1 rfl; omega⟩, h2, h3, h4, h5⟩⟩
  rcases hk with rfl | rfl
  · refine he σ G H o s w _ fun v G1 H1 g1 s1 w1 ⟨i, hi, r1⟩ => ?_
    have r1 : v = .int i := r1
    subst r1
    exact put i G1 H1 g1 s1 w1 hi (fun z => by omega)
  · refine hx rfl σ G H o s w _ fun v G1 H1 g1 s1 w1 ⟨i, hi, r1⟩ => ?_
    have r1 : v = .int i := r1
    subst r1
    exact put i G1 H1 g1 s1 w1 hi.1 (fun _ => hi.2)
/-- bag[2] += 1 -/
theorem ss_baginc (B : IsBag b W) (hb : EE td Γ W (yAt b)) (k2 : SS u Γ W N W0 S) : SS (tSeq (tAugS td (tC (.int 2)) (tC (.int 1)) (rGet0 K) (ipI fun i j => i + j) rSetL) u) Γ W N W0 S := fun σ G H o s w D n r => by
  refine hb σ G H o s w _ fun v G2 H2 g2 s2 w2 r2 => ?_
  have r2 : v = .ref b := r2
  subst r2
  obtain ⟨gb, v0, v1, v2, p, xs, e, h0, h1, h2, h3, h4, h5⟩ := B.ok _ _ w2
  have bs : BS b G2 H2 G2 (upd H2 b (.lst [.int v0, .int v1, .int (v2 + 1), .ref p])) := ⟨Same.refl _, fun a o' n e' => by rw [upd_ne n]; exact e', upd_sub s2 gb, fun _ _ h => h, v0, v1, v2 + 1, p, xs, upd_same, h0, h1, by omega, h3, h4, h5⟩
  refine ⟨b, _, 2, .int v2, rfl, rfl, by decide, .inl (.inl e), rfl, v2, 1, rfl, rfl, b, _, 2, 2, rfl, rfl, e, rfl, ?_⟩
  exact k2 σ G2 _ (o.mono g2) bs.sub (B.bs _ _ _ _ w2 bs) D (fun σ' G3 H3 a => n σ' G3 H3 (g2.trans a)) fun v G3 H3 a => r v G3 H3 (g2.trans a)
end
theorem get_listX {X : Cx} : PGet X (rGet0 X.K) := by
  intro pins s σ H o i ov iv Q I r1 r2 h
  obtain ⟨p, xs, k, z, rfl, rfl, h0, hq, he, q⟩ := h
  cases r1
  obtain ⟨t, rfl⟩ := r2
  obtain ⟨its, r, pl, hz⟩ := I.list hq
  obtain ⟨j, h1, h2, h3, h4, h5⟩ := atI_get he
  obtain ⟨w, ew, rw'⟩ := r.get h2
  have hl := r.length
  have hn := line63
  have hj : k.toNat = j := by
    rw [seqIndex_of h0 h5] at h1
    exact Option.some.inj h1
  exact wpAny_getItem_list pl.isList h0 (by omega) (by rw [hj]; simpa using ew) ⟨z, H, I, rw', q⟩
end LT
end
section
set_option Elab.async false
set_option linter.all false
set_option maxRecDepth 100000
set_option maxHeartbeats 1000000
set_option exponentiation.threshold 20000
namespace LT
open PySem PySem.Spec PyProof.Rows L2 LL
abbrev N__law_take : List Str := ["_law_bag_here", "_law_many", "_law_cell", "_law_stirred", "_law_value", "_law_begin", "_law_second"]
theorem sc__law_take : FnScope N__law_take ["_law_bag_here", "_law_many"] (defScope LH.s__law_take) := ⟨rfl, rfl, rfl, by decide +kernel, rfl, by decide +kernel, by decide +kernel⟩
abbrev N__law_some : List Str := ["_law_bag_here", "_law_things"]
theorem sc__law_some : FnScope N__law_some ["_law_bag_here", "_law_things"] (defScope LH.s__law_some) := ⟨rfl, rfl, rfl, by decide +kernel, rfl, by decide +kernel, by decide +kernel⟩
abbrev N__law_mixed : List Str := ["_law_bag_here", "_law_things", "_law_found", "_law_thing"]
theorem sc__law_mixed : FnScope N__law_mixed ["_law_bag_here", "_law_things"] (defScope LH.s__law_mixed) := ⟨rfl, rfl, rfl, by decide +kernel, rfl, by decide +kernel, by decide +kernel⟩
def sp__law_take (K : PySem.W.Frag) : Sp := spB (fun g : Int => [yI g]) (fun g => 1 ≤ g ∧ g ≤ 1000000) (fun g => yIr 0 (g - 1))
def sp__law_some (K : PySem.W.Frag) : Sp := spB (fun g : List Ty × Ty => [yL g.1]) (fun g => (g.1 ≠ [] ∧ g.1.length ≤ 100000) ∧ ∀ S ∈ g.1, S.le g.2) (fun g => g.2)
def sp__law_mixed (K : PySem.W.Frag) : Sp := spB (fun g : Nat × Ty => [yL (List.replicate g.1 g.2)]) (fun g => g.1 ≤ 1000) (fun g => yL (List.replicate g.1 g.2))
section
variable {Γ : Tys} {W : Wd} {R S : Ty} {Rs : List Ty} {ta tb : TE} {K : PySem.W.Frag} {b : Addr}
theorem ee__law_take {i : Int} (B : IsBag b W) (ha : EE ta Γ W (yAt b)) (hb : EE tb Γ W (yI i)) (hp : 1 ≤ i ∧ i ≤ 1000000) : EE (tCall (sp__law_take K) [] E0 (tCons ta (tCons tb tNil))) Γ W (yIr 0 (i - 1)) := ee_callB B i (ea_cons ha (ea_cons hb ea_nil)) hp
theorem ee_takeR {c d : Int} (B : IsBag b W) (ha : EE ta Γ W (yAt b)) (hb : EE tb Γ W (yIr c d)) (hp : 1 ≤ c ∧ d ≤ 1000000) : EE (tCall (sp__law_take K) [] E0 (tCons ta (tCons tb tNil))) Γ W (yIr 0 (d - 1)) := ee_callBE B (Rs := [yIr c d]) (ea_cons ha (ea_cons hb ea_nil)) fun vs G al => by
  obtain ⟨v, rfl, i, hi, hv⟩ := al.one
  exact ⟨i, ⟨by omega, by omega⟩, ⟨hv, trivial⟩, ir_le ⟨by omega, by omega⟩⟩
theorem ee__law_some (B : IsBag b W) (ha : EE ta Γ W (yAt b)) (hb : EE tb Γ W (yL Rs)) (h0 : Rs ≠ [] ∧ Rs.length ≤ 100000) (hp : ∀ S ∈ Rs, S.le R) : EE (tCall (sp__law_some K) [] E0 (tCons ta (tCons tb tNil))) Γ W R := ee_callB B (Rs, R) (ea_cons ha (ea_cons hb ea_nil)) ⟨h0, hp⟩
theorem ee__law_mixed {n : Nat} (B : IsBag b W) (ha : EE ta Γ W (yAt b)) (hb : EE tb Γ W (yL (List.replicate n R))) (h : n ≤ 1000) : EE (tCall (sp__law_mixed K) [] E0 (tCons ta (tCons tb tNil))) Γ W (yL (List.replicate n R)) := ee_callB B (n, R) (ea_cons ha (ea_cons hb ea_nil)) h
theorem nn_ir {a b : Int} (h : 0 ≤ a) : (yIr a b).le yNn := fun v H ⟨i, hi, hv⟩ => ⟨i, by show 0 ≤ i; omega, hv⟩
theorem or_nadd : OT (rI0 fun i j => .int (i + j)) yNn yNn yNn := fun x y G H s ⟨i, hi, hx⟩ ⟨j, hj, hy⟩ Q q => ot_add x y G H s hx hy Q fun v G2 H2 gs r => q v G2 H2 gs ⟨i + j, by show 0 ≤ i + j; omega, r⟩
theorem or_nmul {c : Int} (hc : 0 ≤ c ∧ c < 2 ^ 60) : OT (rI CMul fun i j => .int (i * j)) yNn (yI c) yNn := fun x y G H s ⟨i, hi, hx⟩ hy Q q => ot_mul (i := i) (j := c) (.inr ⟨by omega, by omega⟩) x y G H s hx hy Q fun v G2 H2 gs r => q v G2 H2 gs ⟨i * c, Int.mul_nonneg hi hc.1, r⟩
theorem or_nmul2 {c : Int} (hc : 0 ≤ c ∧ c < 2 ^ 60) : OT (rI CMul fun i j => .int (i * j)) (yI c) yNn yNn := fun x y G H s hx ⟨i, hi, hy⟩ Q q => ot_mul (i := c) (j := i) (.inl ⟨by omega, by omega⟩) x y G H s hx hy Q fun v G2 H2 gs r => q v G2 H2 gs ⟨c * i, Int.mul_nonneg hc.1 hi, r⟩
theorem or_nmod {c : Int} (hc : 0 < c) : OT (rI (fun _ j => 0 < j) fun i j => .int (i % j)) yNn (yI c) (yIr 0 (c - 1)) := fun x y G H s ⟨i, hi, hx⟩ hy Q q => ot_mod hc x y G H s hx hy Q fun v G2 H2 gs r => q v G2 H2 gs ⟨i % c, ⟨Int.emod_nonneg _ (by omega), by have := Int.emod_lt_of_pos i hc; omega⟩, r⟩
theorem or_nfmod {c : Int} (hc : 0 < c) : OT (rI (fun _ j => j ≠ 0) fun i j => .int (i.fmod j)) yNn (yI c) (yIr 0 (c - 1)) := fun x y G H s ⟨i, hi, hx⟩ hy Q q => ot_modN (by omega) x y G H s hx hy Q fun v G2 H2 gs r => q v G2 H2 gs ⟨i.fmod c, by
  rw [Int.fmod_eq_emod_of_nonneg _ (by omega)]
  exact ⟨Int.emod_nonneg _ (by omega), by have := Int.emod_lt_of_pos i hc; omega⟩, r⟩
theorem or_nfdiv {c : Int} (hc : 1 ≤ c ∧ c ≤ 1000000) : OT (rI CDivX fun i j => .int (i.fdiv j)) yNn (yI c) yNn := fun x y G H s ⟨i, hi, hx⟩ hy Q q => ot_fdivX (i := i) (j := c) ⟨by omega, by
  have h1 : c.natAbs < 2 ^ 20 := by omega
  exact PySem.Flt.log2_lt_of (by decide) (Nat.lt_of_lt_of_le h1 (Nat.pow_le_pow_right (by decide) (by decide)))⟩ x y G H s hx hy Q fun v G2 H2 gs r => q v G2 H2 gs ⟨i.fdiv c, Int.fdiv_nonneg hi (by omega), r⟩
theorem or_ncmp {f : Int → Int → Bool} {c : Int} : OT (rI0 fun i j => .bl (f i j)) yNn (yI c) yU := fun x y G H s ⟨i, hi, hx⟩ hy Q q => ⟨i, c, hx, hy, q _ G H (GS.refl s) ⟨f i c, rfl⟩⟩
theorem or_neq {c : Int} : OT rEq yNn (yI c) yU := fun x y G H s ⟨i, hi, hx⟩ hy Q q => ot_eqI x y G H s hx hy Q fun v G2 H2 gs r => q v G2 H2 gs ⟨_, r⟩
theorem ct_nint : CT (fun xs H Q => (∃ i, xs = [.int i] ∧ Q (.int i) H) ∨ ∃ k, xs = [.bl k] ∧ Q (.int (if k then 1 else 0)) H) [yNn] yNn := fun xs G H s hx Q q => by
  obtain ⟨v, rfl, i, hi, hv⟩ := hx.one
  have hv : v = .int i := hv
  subst hv
  exact .inl ⟨i, rfl, q _ G H (GS.refl s) ⟨i, hi, rfl⟩⟩
theorem ee_nn {c : Int} (h : 0 ≤ c) : EE (tC (.int c)) Γ W yNn := EE.sub ee_i fun v H hv => ⟨c, h, hv⟩
theorem or_ndiv {c : Int} (hc : 0 < c ∧ c < 1073741824) : OT (rI CDiv fun i j => .int (i / j)) yNn (yI c) yNn := fun x y G H s ⟨i, hi, hx⟩ hy Q q => ot_fdiv (i := i) (j := c) hc x y G H s hx hy Q fun v G2 H2 gs r => q v G2 H2 gs ⟨i / c, Int.ediv_nonneg hi (by omega), r⟩
theorem or_nmulI {m : Int} (hm : 0 ≤ m ∧ m < 2 ^ 60) : OT (rI CMul fun i j => .int (i * j)) (yIr 0 m) (yIr 0 m) yNn := fun x y G H s ⟨i, hi, hx⟩ ⟨j, hj, hy⟩ Q q => ot_mul (i := i) (j := j) (.inl ⟨by omega, by omega⟩) x y G H s hx hy Q fun v G2 H2 gs r => q v G2 H2 gs ⟨i * j, Int.mul_nonneg hi.1 hj.1, r⟩
end
section
variable {P : Program} {w : World} {K : PySem.W.Frag} {mg : Str → Option Value} {base : Heap} {cN cO cA cW : Addr}
theorem d__law_take (B : Blt K mg cN cO cA cW) (R : Raw K mg "_law_take" LH.s__law_take) : Def P w K mg base 1 "_law_take" ["_law_bag_here", "_law_many"] (sp__law_take K) := by
  refine def_mkB R sc__law_take (fun _ _ _ _ _ _ us hl => match us, hl with | [_, _], _ => rfl) (fun _ => rfl) fun f cdv A outer s H E hr => ⟨_, (pss_cons (ps_if (pt_cmpR op_eq (pe_ix ix_list (pv 0) pe_int (fun _ _ => rfl)) pe_int (nomark _)) (pss_cons (ps_set (i := 2) sc__law_take.nd rfl (.inl rfl) (pe_ix ix_list (pe_op op_cat (pe_slice sl_list (pe_ix ix_list (pv 0) pe_int (fun _ _ => rfl)) (po_some (pe_ix ix_list (pv 0) pe_int (fun _ _ => rfl))) po_none) (pe_lst (pa_cons pe_int pa_nil))) pe_int (fun _ _ => rfl)))
      (pss_cons (ps_augS (pv 0) pe_int get_listX pe_int ip_add set_list)
      (pss_cons (ps_if (pt_cmpR op_ge (pv 2) (pe_op op_pow pe_int pe_int) (nomark _)) (pss_one (ps_asg (pv 2) (pg_sub (pv 0) pe_int set_list))) pss_nil)
      (pss_cons (ps_set (i := 3) sc__law_take.nd rfl (.inl rfl) (pe_op op_add (pe_op op_add (pe_op op_mul (pe_ix ix_list (pv 0) pe_int (fun _ _ => rfl)) pe_int) (pe_op op_mod (pe_callTy call_int1 rfl B.int (by decide +kernel) (pa_cons (pv 2) pa_nil)) pe_int)) (pe_op op_mul pe_int (pe_ix ix_list (pv 0) pe_int (fun _ _ => rfl)))))
      (pss_one (ps_asg (pe_op op_mod (pe_callTy call_int1 rfl B.int (by decide +kernel) (pa_cons (pv 3) pa_nil)) pe_int) (pg_sub (pv 0) pe_int set_list))))))) pss_nil)
      (pss_cons (ps_if (pt_cmpR op_gt (pe_ix ix_list (pv 0) pe_int (fun _ _ => rfl)) pe_int (nomark _)) (pss_cons (ps_set (i := 4) sc__law_take.nd rfl (.inl rfl) (pe_op op_modN (pe_callTy call_int1 rfl B.int (by decide +kernel) (pa_cons (pe_ix ix_list (pv 0) pe_int (fun _ _ => rfl)) pa_nil)) (pv 1)))
      (pss_cons (ps_asg (pe_op op_fdivX (pe_callTy call_int1 rfl B.int (by decide +kernel) (pa_cons (pe_ix ix_list (pv 0) pe_int (fun _ _ => rfl)) pa_nil)) (pv 1)) (pg_sub (pv 0) pe_int set_list))
      (pss_one (ps_ret (pv 4))))) pss_nil)
      (pss_cons (ps_set (i := 5) sc__law_take.nd rfl (.inl rfl) (pe_op op_mod (pe_callTy call_int1 rfl B.int (by decide +kernel) (pa_cons (pe_op op_mul (pe_op op_add (pe_ix ix_list (pv 0) pe_int (fun _ _ => rfl)) pe_int) pe_int) pa_nil)) pe_int))
      (pss_cons (ps_set (i := 6) sc__law_take.nd rfl (.inl rfl) (pe_op op_mod (pe_callTy call_int1 rfl B.int (by decide +kernel) (pa_cons (pe_op op_mul (pe_op op_mod (pe_callTy call_int1 rfl B.int (by decide +kernel) (pa_cons (pe_op op_mul (pv 5) (pv 5)) pa_nil)) pe_int) pe_int) pa_nil)) pe_int))
      (pss_one (ps_ret (pe_op op_modN (pe_callTy call_int1 rfl B.int (by decide +kernel) (pa_cons (pe_op op_fdiv (pv 6) pe_int) pa_nil)) (pv 1)))))))), fun m ⟨h1, h2⟩ b W BG => ?_⟩
  show SS _ [some (yAt b), some (yI m), none, none, none, none, none] W _ W (yIr 0 (m - 1))
  refine ss_ifUJ [some (yAt b), some (yI m), none, none, none, none, none] W (eu_test (ee_op (ee_bagI BG (ee_var rfl) (.inl rfl)) ee_i or_neq)) ?_ (ss_nX (fun σ G o => o) (Wd.le.refl _)) ?_
  · refine ss_asg (ee_first (ee_slN (ee_bag3 BG (ee_var rfl)) (ee_bagI BG (ee_var rfl) (.inr (.inr rfl))))) ?_
    refine ss_baginc BG (ee_var rfl) ?_
    show SS _ [some (yAt b), some (yI m), some yNn, none, none, none, none] W _ W (yIr 0 (m - 1))
    refine ss_ifUJ [some (yAt b), some (yI m), some yNn, none, none, none, none] W (eu_test (ee_op (ee_var rfl) (ee_op ee_i ee_i (ot_pow ⟨by decide, by decide, by decide⟩)) or_ncmp)) ?_ (ss_nX (fun σ G o => o) (Wd.le.refl _)) ?_
    · exact ss_last (ss_bagset BG (fun W' => ee_var rfl) (.inl rfl) (ee_var rfl) (fun z => absurd z (by decide)) (ss_nX (fun σ G o => o) (Wd.le.refl _)))
    · refine ss_asg (R := yNn) (ee_op (ee_op (ee_op (ee_bagI BG (ee_var rfl) (.inr (.inl rfl))) ee_i (or_nmul ⟨by decide, by decide⟩)) (EE.sub (ee_op (ee_cb (ea_cons (ee_var rfl) ea_nil) ct_nint) ee_i (or_nmod (by decide))) (nn_ir (by decide))) or_nadd) (ee_op ee_i (ee_bagI BG (ee_var rfl) (.inr (.inr rfl))) (or_nmul2 ⟨by decide, by decide⟩)) or_nadd) ?_
      refine ss_last (ss_bagset BG (fun W' => ee_var rfl) (.inr rfl) ?_ (fun _ => ?_) (ss_nX (fun σ G o => (o.forget 2).forget 3) (Wd.le.refl _)))
      · exact EE.sub (ee_op (ee_cb (ea_cons (ee_var rfl) ea_nil) ct_nint) ee_i (or_nmod (by decide))) (nn_ir (by decide))
      · exact ee_op (ee_cb (ea_cons (ee_var rfl) ea_nil) ct_nint) ee_i (or_nmod (by decide))
  · refine ss_ifUJ [some (yAt b), some (yI m), none, none, none, none, none] W (eu_test (ee_op (ee_bagI BG (ee_var rfl) (.inl rfl)) ee_i or_ncmp)) ?_ (ss_nX (fun σ G o => o) (Wd.le.refl _)) ?_
    · refine ss_asg (ee_op (ee_cb (ea_cons (ee_bagI BG (ee_var rfl) (.inl rfl)) ea_nil) ct_nint) (ee_var rfl) (or_nfmod (c := m) (by omega))) ?_
      refine ss_bagset BG (fun W' => ee_var rfl) (.inl rfl) (ee_op (ee_cb (ea_cons (ee_bagI BG (ee_var rfl) (.inl rfl)) ea_nil) ct_nint) (ee_var rfl) (or_nfdiv ⟨h1, h2⟩)) (fun z => absurd z (by decide)) ?_
      exact ss_ret (ee_var rfl) (Wd.le.refl _)
    · refine ss_asg (R := yIr 0 1000000006) (ee_op (ee_cb (ea_cons (ee_op (ee_op (ee_bagI BG (ee_var rfl) (.inr (.inl rfl))) (ee_nn (by decide)) or_nadd) ee_i (or_nmul ⟨by decide, by decide⟩)) ea_nil) ct_nint) ee_i (or_nmod (by decide))) ?_
      refine ss_asg (R := yNn) (EE.sub (ee_op (ee_cb (ea_cons (ee_op (EE.sub (ee_op (ee_cb (ea_cons (ee_op (ee_var rfl) (ee_var rfl) (or_nmulI ⟨by decide, by decide⟩)) ea_nil) ct_nint) ee_i (or_nmod (by decide))) (nn_ir (by decide))) ee_i (or_nmul ⟨by decide, by decide⟩)) ea_nil) ct_nint) ee_i (or_nmod (by decide))) (nn_ir (by decide))) ?_
      exact ss_ret (ee_op (ee_cb (ea_cons (ee_op (ee_var rfl) ee_i (or_ndiv ⟨by decide, by decide⟩)) ea_nil) ct_nint) (ee_var rfl) (or_nfmod (c := m) (by omega))) (Wd.le.refl _)
theorem d__law_some (B : Blt K mg cN cO cA cW) (R : Raw K mg "_law_some" LH.s__law_some) (D__law_take : Def P w K mg base 1 "_law_take" ["_law_bag_here", "_law_many"] (sp__law_take K)) : Def P w K mg base 2 "_law_some" ["_law_bag_here", "_law_things"] (sp__law_some K) := by
  refine def_mkB R sc__law_some (fun _ _ _ _ _ _ us hl => match us, hl with | [_, _], _ => rfl) (fun _ => rfl) fun f cdv A outer s H E hr => ⟨_, (pss_one (ps_ret (pe_ix ix_list (pv 1) (pe_cd D__law_take hr (by decide) (pa_cons (pv 0) (pa_cons (pe_callB call_len_seq rfl B.len (by decide +kernel) (pa_cons (pv 1) pa_nil)) pa_nil))) (fun _ _ => rfl)))), fun ⟨Rs, R'⟩ ⟨⟨h0, h1⟩, h2⟩ b W BG => ?_⟩
  have hl : 0 < Rs.length := List.length_pos_iff.mpr h0
  have h1 : Rs.length ≤ 100000 := h1
  refine ss_ret (ee_op (ee_var rfl) (ee__law_take BG (ee_var rfl) (ee_cb (ea_cons (ee_var rfl) ea_nil) ct_lenL) ⟨show (1 : Int) ≤ (Rs.length : Nat) by omega, show ((Rs.length : Nat) : Int) ≤ 1000000 by omega⟩) fun x y G H s hx hy Q q => ?_) (Wd.le.refl _)
  obtain ⟨i, hi, hy⟩ := hy
  have hi1 : 0 ≤ i := hi.1
  have hi3 : i ≤ (Rs.length : Nat) - 1 := hi.2
  have hi2 : i.toNat < Rs.length := by omega
  exact ot_ixL (R := Rs[i.toNat]) (List.getElem?_eq_getElem hi2) hi.1 x y G H s hx hy Q fun v G2 H2 gs r => q v G2 H2 gs (h2 _ (List.getElem_mem hi2) v G2 r)
theorem ss_insert {Γ : Tys} {W W0 : Wd} {N : Nx} {u : TS} {R S : Ty} {te tn : TE} {n : Nat} {l : Addr} {i : Nat} (hi : Γ[i]? = some (some (yAt l))) (hn : EE tn Γ (wM W l (List.replicate n R)) (yIr 0 n)) (he : EE te Γ (wM W l (List.replicate n R)) R) (hz : n < 1000) (k : SS u Γ (wM W l (List.replicate (n + 1) R)) N W0 S) :
    SS (tSeq (tDrop (tBM K "list" (fun (x : V) vs H Q => ∃ (l : Addr) (xs : List V) (i : Int) (y : V), x = .ref l ∧ vs = [.int i, y] ∧ H l = some (.lst xs) ∧ xs.length < sizeLine ∧ 0 ≤ i ∧ i < 2 ^ 63 ∧ Q .non (upd H l (.lst (xs.take i.toNat ++ [y] ++ xs.drop i.toNat)))) (tVar i) (tCons tn (tCons te tNil)))) u) Γ (wM W l (List.replicate n R)) N W0 S := fun σ G H o s w D nn r => by
  obtain ⟨v, e, rv⟩ := o.get hi
  have rv' : v = .ref l := rv
  subst rv'
  obtain ⟨xs, hl, al⟩ := w.2.2.2
  refine ⟨_, e, .inl ⟨rfl, _, .inl (.inl hl)⟩, hn σ G H o s w _ fun y G1 H1 g1 s1 w1 ⟨j, hj, r1⟩ => he σ G1 H1 (o.mono g1) s1 w1 _ fun z G2 H2 g2 s2 w2 r2 => ?_⟩
  have r1 : y = .int j := r1
  subst r1
  obtain ⟨xs1, hl1, al1⟩ := w2.2.2.2
  have ln : xs1.length = n := by rw [al1.len, List.length_replicate]
  refine ⟨l, xs1, j, z, rfl, rfl, hl1, by rw [ln]; exact Nat.lt_of_lt_of_le hz (by decide), hj.1, by omega, ?_⟩
  refine k σ G2 _ (o.mono (g1.trans g2)) (upd_sub s2 w2.2.2.1) (wM_put w2 ?_) D (fun σ' G2 H2 a => nn σ' G2 H2 ((g1.trans g2).trans a)) fun v G2 H2 a => r v G2 H2 ((g1.trans g2).trans a)
  have e1 := (al1.take j.toNat).app (Ss := [R]) (ys := [z]) ⟨r2, trivial⟩ |>.app (al1.drop j.toNat)
  have e2 : (List.replicate n R).take j.toNat ++ [R] ++ (List.replicate n R).drop j.toNat = List.replicate (n + 1) R := by
    rw [List.take_replicate, List.drop_replicate]
    refine List.eq_replicate_iff.mpr ⟨by simp; omega, fun S hS => ?_⟩
    simp at hS
    rcases hS with h | h | h
    · exact h.2
    · exact h
    · exact h.2
  rw [e2] at e1
  exact e1
theorem len_own {Γ : Tys} {W : Wd} {l : Addr} {Rs : List Ty} {te : TE} (h : EE te Γ (wM W l Rs) (yAt l)) : EE (tCB (fun xs H Q => ∃ p ys, xs = [.ref p] ∧ (SqL K H p ys ∨ SqT K H p ys) ∧ Q (.int ys.length) H) (tCons te tNil)) Γ (wM W l Rs) (yI (Rs.length : Nat)) := fun σ G H o s w Q q =>
  h σ G H o s w _ fun v G1 H1 g1 s1 w1 r1 => by
    have r1 : v = .ref l := r1
    subst r1
    obtain ⟨xs, hl, al⟩ := w1.2.2.2
    exact ⟨l, xs, rfl, .inl (.inl (.inl hl)), q _ G1 H1 g1 s1 w1 (by rw [al.len]; rfl)⟩
theorem d__law_mixed (B : Blt K mg cN cO cA cW) (R : Raw K mg "_law_mixed" LH.s__law_mixed) (D__law_take : Def P w K mg base 1 "_law_take" ["_law_bag_here", "_law_many"] (sp__law_take K)) : Def P w K mg base 2 "_law_mixed" ["_law_bag_here", "_law_things"] (sp__law_mixed K) := by
  refine def_mkB R sc__law_mixed (fun _ _ _ _ _ _ us hl => match us, hl with | [_, _], _ => rfl) (fun _ => rfl) fun f cdv A outer s H E hr => ⟨_, (pss_cons (ps_set (i := 2) sc__law_mixed.nd rfl (.inl rfl) (pe_lst pa_nil))
      (pss_cons (ps_for PassesOwn.never rfl (pi_list (pv 1)) (pg_name (i := 3) sc__law_mixed.nd rfl (.inl rfl))
      (pss_one (ps_expr (pe_bm PySem.F.plainAttrs_list PySem.F.slot_list_insert PySem.F.type_list_insert mt_insert (pv 2) (pa_cons (pe_cd D__law_take hr (by decide) (pa_cons (pv 0) (pa_cons (pe_op op_add (pe_callB call_len_seq rfl B.len (by decide +kernel) (pa_cons (pv 2) pa_nil)) pe_int) pa_nil))) (pa_cons (pv 3) pa_nil))))))
      (pss_one (ps_ret (pv 2))))), fun ⟨n, R'⟩ hn b W BG => ?_⟩
  have hn : n ≤ 1000 := hn
  show SS _ [some (yAt b), some (yL (List.replicate n R')), none, none] W _ W (yL (List.replicate n R'))
  refine ss_newL (i := 2) (Rs := []) ea_nil (lle rfl) fun l hl => ?_
  show SS _ [some (yAt b), some (yL (List.replicate n R')), some (yAt l), none] (wM W l (List.replicate 0 R')) _ W (yL (List.replicate n R'))
  refine ss_for (α := Nat) (EI.congr (Y' := fun _ => R') (ei_list (ee_var rfl)) (fun i hi => getD_some (by rw [List.length_replicate] at hi; rw [List.getElem?_replicate, if_pos hi]))) (fun i k => k = i) (fun _ => [some (yAt b), none, some (yAt l), none]) (fun k => wM W l (List.replicate k R')) (fun _ _ => [some (yAt b), none, some (yAt l), some R']) 0 rfl (fun σ G H o w => ⟨o.forget 1, w⟩) (fun i k hi hk => gt_name) (fun i k hi hk => ?_) (fun k hk => ?_)
  · subst hk
    rw [List.length_replicate] at hi
    refine ss_last (ss_insert (i := 2) (n := k) rfl (EE.sub (ee__law_take (isBag_wM BG) (ee_var rfl) (ee_op (len_own (ee_var rfl)) ee_i ot_add) ?_) ?_) (ee_var rfl) (by omega) (ss_next fun σ G H o s' w => ⟨k + 1, rfl, o.forget 3, w⟩))
    · rw [List.length_replicate]
      omega
    · rw [List.length_replicate]
      exact ir_le ⟨by omega, by omega⟩
  · rw [List.length_replicate] at hk
    subst hk
    exact ss_freeze (i := 2) rfl (ss_ret (ee_var rfl) (Wd.le.refl _))
end
end LT
end
section
set_option Elab.async false
set_option linter.all false
set_option maxRecDepth 100000
set_option maxHeartbeats 1000000
set_option exponentiation.threshold 20000
namespace LT
open PySem PySem.Spec PyProof.Rows L2 LL
abbrev N__law_bounds : List Str := ["_law_bag_here", "_law_spacing", "_law_near", "_law_wind", "_law_clock", "_law_fall", "_law_way"]
theorem sc__law_bounds : FnScope N__law_bounds ["_law_bag_here"] (defScope LH.s__law_bounds) := ⟨rfl, rfl, rfl, by decide +kernel, rfl, by decide +kernel, by decide +kernel⟩
abbrev N__law_squared : List Str := ["_law_one", "_law_other"]
theorem sc__law_squared : FnScope N__law_squared ["_law_one", "_law_other"] (defScope LH.s__law_squared) := ⟨rfl, rfl, rfl, by decide +kernel, rfl, by decide +kernel, by decide +kernel⟩
abbrev N__law_least_diagonal : List Str := ["_law_spacing", "_law_found", "_law_turn"]
theorem sc__law_least_diagonal : FnScope N__law_least_diagonal ["_law_spacing"] (defScope LH.s__law_least_diagonal) := ⟨rfl, rfl, rfl, by decide +kernel, rfl, by decide +kernel, by decide +kernel⟩
abbrev N__law_offsets : List Str := ["_law_spacing", "_law_side", "_law_found", "_law_x", "_law_y"]
theorem sc__law_offsets : FnScope N__law_offsets ["_law_spacing"] (defScope LH.s__law_offsets) := ⟨rfl, rfl, rfl, by decide +kernel, rfl, by decide +kernel, by decide +kernel⟩
abbrev yPt (K : PySem.W.Frag) (m : Int) : Ty := yT K [yIr (-m) m, yIr (-m) m]
abbrev yA : Ty := yE yI
def SpOk (s : Int) : Prop := 1 ≤ s ∧ s ≤ 100
abbrev yBds (K : PySem.W.Frag) : Ty := yE fun b : Bd => yW (BdOk b ∧ SpOk b.p0) (yBd K b)
abbrev yOff (K : PySem.W.Frag) : Ty := yE fun n : Nat => yW (1 ≤ n ∧ n ≤ 30) (yL (List.replicate n (yPt K 400)))
def sp__law_bounds (K : PySem.W.Frag) : Sp := spB (fun _ : Unit => []) (fun _ => True) (fun _ => yBds K)
def sp__law_squared (K : PySem.W.Frag) : Sp := spF (fun _ : Unit => [yPt K 4000, yPt K 4000]) (fun _ => True) (fun _ => yA)
def sp__law_least_diagonal (K : PySem.W.Frag) : Sp := spF (fun g : Int => [yI g]) SpOk (fun _ => yIr 0 300)
def sp__law_offsets (K : PySem.W.Frag) : Sp := spF (fun g : Int => [yI g]) SpOk (fun _ => yOff K)
section
variable {Γ : Tys} {W : Wd} {R S : Ty} {Rs : List Ty} {ta tb te : TE} {K : PySem.W.Frag} {b : Addr}
theorem ee__law_bounds (B : IsBag b W) (ha : EE ta Γ W (yAt b)) : EE (tCall (sp__law_bounds K) [] E0 (tCons ta tNil)) Γ W (yBds K) := ee_callB B () (ea_cons ha ea_nil) trivial
theorem ee__law_squared (ha : EE ta Γ W (yPt K 4000)) (hb : EE tb Γ W (yPt K 4000)) : EE (tCall (sp__law_squared K) [] E0 (tCons ta (tCons tb tNil))) Γ W yA := ee_call () (ea_cons ha (ea_cons hb ea_nil)) trivial
theorem ee__law_least_diagonal {s : Int} (ha : EE ta Γ W (yI s)) (hp : SpOk s) : EE (tCall (sp__law_least_diagonal K) [] E0 (tCons ta tNil)) Γ W (yIr 0 300) := ee_call s (ea_cons ha ea_nil) hp
theorem ee__law_offsets {s : Int} (ha : EE ta Γ W (yI s)) (hp : SpOk s) : EE (tCall (sp__law_offsets K) [] E0 (tCons ta tNil)) Γ W (yOff K) := ee_call s (ea_cons ha ea_nil) hp
theorem ir_self {i : Int} : (yI i).le (yIr i i) := ir_of ⟨Int.le_refl _, Int.le_refl _⟩
theorem EE.ir {i a b : Int} (h : EE te Γ W (yI i)) (k : a ≤ i ∧ i ≤ b) : EE te Γ W (yIr a b) := EE.sub h (ir_of k)
theorem EE.wid {a b c d : Int} (h : EE te Γ W (yIr a b)) (k : c ≤ a ∧ b ≤ d) : EE te Γ W (yIr c d) := EE.sub h (ir_le k)
theorem ee_pt {m a b c d : Int} (h1 : EE ta Γ W (yIr a b)) (h2 : EE tb Γ W (yIr c d)) (k1 : -m ≤ a ∧ b ≤ m) (k2 : -m ≤ c ∧ d ≤ m) : EE (tTup (tCons ta (tCons tb tNil))) Γ W (yPt K m) := ee_tup (ea_cons (h1.wid k1) (ea_cons (h2.wid k2) ea_nil)) (lle rfl)
theorem pt_le {m n : Int} (h : m ≤ n) : (yPt K m).le (yPt K n) := yT_le (.cons (ir_le ⟨by omega, by omega⟩) (.cons (ir_le ⟨by omega, by omega⟩) .nil))
theorem or_amul {a b c d : Int} (h : -(2 ^ 60) ≤ a ∧ b ≤ 2 ^ 60) : OT (rI CMul fun i j => .int (i * j)) (yIr a b) (yIr c d) yA := fun x y G H s ⟨i, hi, hx⟩ ⟨j, hj, hy⟩ Q q => ot_mul (i := i) (j := j) (.inl ⟨by omega, by omega⟩) x y G H s hx hy Q fun v G2 H2 gs r => q v G2 H2 gs ⟨i * j, r⟩
theorem or_aadd : OT (rI0 fun i j => .int (i + j)) yA yA yA := fun x y G H s ⟨i, hx⟩ ⟨j, hy⟩ Q q => ot_add x y G H s hx hy Q fun v G2 H2 gs r => q v G2 H2 gs ⟨i + j, r⟩
theorem or_acmp {f : Int → Int → Bool} {c : Int} : OT (rI0 fun i j => .bl (f i j)) yA (yI c) yU := fun x y G H s ⟨i, hx⟩ hy Q q => ⟨i, c, hx, hy, q _ G H (GS.refl s) ⟨f i c, rfl⟩⟩
theorem rep_get {n i : Nat} {R S : Ty} (h : (List.replicate n R)[i]? = some S) : S = R := by
  rw [List.getElem?_replicate] at h
  split at h
  · exact (Option.some.inj h).symm
  · cases h
theorem made_rep (n : Nat) (R : Ty) : made n (fun _ => true) (fun _ => R) = List.replicate n R := by
  induction n with
  | zero => rfl
  | succ n ih =>
    rw [made_succ, ih, if_pos rfl, List.replicate_succ']
theorem ei_rep {n : Nat} (h : EE te Γ W (yL (List.replicate n R))) : EI (iList K te) Γ W n (fun _ => R) := by
  have q := EI.congr (Y' := fun _ => R) (ei_list (K := K) h) (fun i hi => getD_some (by rw [List.length_replicate] at hi; rw [List.getElem?_replicate, if_pos hi]))
  rw [List.length_replicate] at q
  exact q
theorem ei_repT {n : Nat} (h : EE te Γ W (yT K (List.replicate n R))) : EI (iTup K te) Γ W n (fun _ => R) := by
  have q := EI.congr (Y' := fun _ => R) (ei_tup (K := K) h) (fun i hi => getD_some (by rw [List.length_replicate] at hi; rw [List.getElem?_replicate, if_pos hi]))
  rw [List.length_replicate] at q
  exact q
/-- one of a list of such -/
theorem ee_someN {n : Nat} (B : IsBag b W) (ha : EE ta Γ W (yAt b)) (hb : EE tb Γ W (yL (List.replicate n R))) (hn : 1 ≤ n ∧ n ≤ 1000) : EE (tCall (sp__law_some K) [] E0 (tCons ta (tCons tb tNil))) Γ W R :=
  ee__law_some B ha hb ⟨fun z => by have := congrArg List.length z; rw [List.length_replicate] at this; simp at this; omega, by rw [List.length_replicate]; omega⟩ fun S hS => by rw [(List.mem_replicate.mp hS).2]; exact Ty.le.refl _
/-- one of a list of such, n told to be -/
theorem ee_someE {m : Nat} (hm : m ≤ 1000) (B : IsBag b W) (ha : EE ta Γ W (yAt b)) (hb : EE tb Γ W (yE fun n : Nat => yW (1 ≤ n ∧ n ≤ m) (yL (List.replicate n R)))) : EE (tCall (sp__law_some K) [] E0 (tCons ta (tCons tb tNil))) Γ W R :=
  ee_callBE B (Rs := [yE fun n : Nat => yW (1 ≤ n ∧ n ≤ m) (yL (List.replicate n R))]) (ea_cons ha (ea_cons hb ea_nil)) fun vs G al => by
    obtain ⟨v, rfl, n, hn, hv⟩ := al.one
    exact ⟨(List.replicate n R, R), ⟨⟨fun z => by have := congrArg List.length z; rw [List.length_replicate] at this; simp at this; omega, by show (List.replicate n R).length ≤ _; rw [List.length_replicate]; omega⟩, fun S hS => by rw [(List.mem_replicate.mp hS).2]; exact Ty.le.refl _⟩, ⟨hv, trivial⟩, Ty.le.refl _⟩
theorem all9 {a b c d e f g h i : Ty} {vs : List V} {H : Hp} (x : AllR [a, b, c, d, e, f, g, h, i] vs H) : ∃ v1 v2 v3 v4 v5 v6 v7 v8 v9, vs = [v1, v2, v3, v4, v5, v6, v7, v8, v9] ∧ a.r v1 H ∧ b.r v2 H ∧ c.r v3 H ∧ d.r v4 H ∧ e.r v5 H ∧ f.r v6 H ∧ g.r v7 H ∧ h.r v8 H ∧ i.r v9 H := by
  match vs, x with
  | [v1, v2, v3, v4, v5, v6, v7, v8, v9], ⟨h1, h2, h3, h4, h5, h6, h7, h8, h9, _⟩ => exact ⟨v1, v2, v3, v4, v5, v6, v7, v8, v9, rfl, h1, h2, h3, h4, h5, h6, h7, h8, h9⟩
theorem bds_of {s : Int} (hs : SpOk s) : (yT K [yI s, yIr 0 200, yIr 0 200, yIr 0 200, yIr 0 200, yIr 0 2000, yIr 0 2000, yIr 0 2000, yIr 0 2000]).le (yBds K) := fun v H ⟨p, xs, e, hp, al⟩ => by
  obtain ⟨v1, v2, v3, v4, v5, v6, v7, v8, v9, rfl, h1, ⟨i2, k2, h2⟩, ⟨i3, k3, h3⟩, ⟨i4, k4, h4⟩, ⟨i5, k5, h5⟩, ⟨i6, k6, h6⟩, ⟨i7, k7, h7⟩, ⟨i8, k8, h8⟩, ⟨i9, k9, h9⟩⟩ := all9 al
  exact ⟨⟨s, i2, i3, i4, i5, i6, i7, i8, i9⟩, ⟨⟨k2, k3, k4, k5⟩, hs⟩, p, _, e, hp, h1, h2, h3, h4, h5, h6, h7, h8, h9, trivial⟩
end
section
variable {P : Program} {w : World} {K : PySem.W.Frag} {mg : Str → Option Value} {base : Heap} {cN cO cA cW : Addr}
theorem some_ir {a b : Int} {is : List Int} (h : ∀ i ∈ is, a ≤ i ∧ i ≤ b) : ∀ S ∈ is.map yI, S.le (yIr a b) := fun S hS => by
  obtain ⟨i, hi, rfl⟩ := List.mem_map.mp hS
  exact ir_of (h i hi)
theorem d__law_bounds (B : Blt K mg cN cO cA cW) (R : Raw K mg "_law_bounds" LH.s__law_bounds) (D__law_some : Def P w K mg base 2 "_law_some" ["_law_bag_here", "_law_things"] (sp__law_some K)) (D__law_take : Def P w K mg base 1 "_law_take" ["_law_bag_here", "_law_many"] (sp__law_take K)) : Def P w K mg base 3 "_law_bounds" ["_law_bag_here"] (sp__law_bounds K) := by
  refine def_mkB R sc__law_bounds (fun _ _ _ _ _ _ us hl => match us, hl with | [_], _ => rfl) (fun _ => rfl) fun f cdv A outer s H E hr => ⟨_, (pss_cons (ps_set (i := 1) sc__law_bounds.nd rfl (.inl rfl) (pe_cd D__law_some hr (by decide) (pa_cons (pv 0) (pa_cons (pe_lst (pa_cons pe_int (pa_cons pe_int (pa_cons pe_int (pa_cons pe_int (pa_cons pe_int (pa_cons pe_int (pa_cons pe_int (pa_cons pe_int (pa_cons pe_int (pa_cons pe_int pa_nil))))))))))) pa_nil))))
      (pss_cons (ps_set (i := 2) sc__law_bounds.nd rfl (.inl rfl) (pe_op op_add pe_int (pe_cd D__law_take hr (by decide) (pa_cons (pv 0) (pa_cons (pe_callB (call_max2 rfl) rfl B.max (by decide +kernel) (pa_cons pe_int (pa_cons (pe_op op_fdiv (pe_op op_mul (pv 1) pe_int) pe_int) pa_nil))) pa_nil)))))
      (pss_cons (ps_set (i := 3) sc__law_bounds.nd rfl (.inl rfl) (pe_ifExp (pt_cmpR op_eq (pe_cd D__law_take hr (by decide) (pa_cons (pv 0) (pa_cons pe_int pa_nil))) pe_int (nomark _)) (pe_cd D__law_take hr (by decide) (pa_cons (pv 0) (pa_cons (pe_op op_add pe_int (pe_op op_fdiv (pv 1) pe_int)) pa_nil))) pe_int))
      (pss_cons (ps_par (i := 4) (j := 5) rfl sc__law_bounds.nd rfl rfl (by decide) rfl rfl (pa_cons (pe_cd D__law_some hr (by decide) (pa_cons (pv 0) (pa_cons (pe_lst (pa_cons pe_int (pa_cons pe_int (pa_cons pe_int (pa_cons pe_int (pa_cons pe_int pa_nil)))))) pa_nil))) (pa_cons (pe_cd D__law_some hr (by decide) (pa_cons (pv 0) (pa_cons (pe_lst (pa_cons pe_int (pa_cons pe_int (pa_cons pe_int (pa_cons pe_int (pa_cons pe_int (pa_cons pe_int pa_nil))))))) pa_nil))) pa_nil)) (by rfl))
      (pss_cons (ps_set (i := 6) sc__law_bounds.nd rfl (.inl rfl) (pe_op op_add (pv 1) (pe_cd D__law_some hr (by decide) (pa_cons (pv 0) (pa_cons (pe_lst (pa_cons pe_int (pa_cons pe_int (pa_cons (pv 1) (pa_cons (pe_op op_mul pe_int (pv 1)) (pa_cons (pe_cd D__law_take hr (by decide) (pa_cons (pv 0) (pa_cons (pe_op op_add (pe_op op_mul pe_int (pv 1)) pe_int) pa_nil))) pa_nil)))))) pa_nil)))))
      (pss_one (ps_ret (pe_tup (pa_cons (pv 1) (pa_cons (pv 2) (pa_cons (pv 3) (pa_cons (pv 4) (pa_cons (pv 5) (pa_cons (pv 6) (pa_cons (pe_op op_add pe_int (pe_cd D__law_take hr (by decide) (pa_cons (pv 0) (pa_cons pe_int pa_nil)))) (pa_cons (pe_cd D__law_take hr (by decide) (pa_cons (pv 0) (pa_cons pe_int pa_nil))) (pa_cons (pe_op op_add pe_int (pe_cd D__law_take hr (by decide) (pa_cons (pv 0) (pa_cons pe_int pa_nil)))) pa_nil))))))))))))))))), fun _ _ b W BG => ?_⟩
  show SS _ [some (yAt b), none, none, none, none, none, none] W _ W (yBds K)
  refine ss_asg (ee__law_some (R := yIr 1 100) (Rs := [1, 2, 3, 5, 7, 10, 13, 20, 60, 100].map yI) BG (ee_var rfl) (ee_lst (ea_cons ee_i (ea_cons ee_i (ea_cons ee_i (ea_cons ee_i (ea_cons ee_i (ea_cons ee_i (ea_cons ee_i (ea_cons ee_i (ea_cons ee_i (ea_cons ee_i ea_nil)))))))))) (lle rfl)) ⟨by simp, by simp⟩ (some_ir (by decide))) ?_
  refine ss_openE (i := 1) rfl fun s => ss_openW (i := 1) rfl fun hs => ?_
  have hs1 : 1 ≤ s := hs.1
  have hs2 : s ≤ 100 := hs.2
  show SS _ [some (yAt b), some (yI s), none, none, none, none, none] W _ W (yBds K)
  refine ss_asg (R := yIr 0 200) (EE.wid (ee_op (ee_ir (a := 1) (b := 1) ⟨by decide, by decide⟩) (ee__law_take BG (ee_var rfl) (ee_cb (ea_cons ee_i (ea_cons (ee_op (ee_op (ee_var rfl) ee_i (ot_mul (.inr ⟨by decide, by decide⟩))) ee_i (ot_fdiv ⟨by decide, by decide⟩)) ea_nil)) ct_max) ?_) or_add) ?_) ?_
  · split <;> constructor <;> omega
  · split <;> constructor <;> omega
  show SS _ [some (yAt b), some (yI s), some (yIr 0 200), none, none, none, none] W _ W (yBds K)
  refine ss_asg (R := yIr 0 200) (ee_ifU (eu_test (ee_op (ee__law_take BG (ee_var rfl) ee_i ⟨by decide, by decide⟩) (ee_ir (a := 0) (b := 0) ⟨by decide, by decide⟩) or_eq)) (EE.wid (ee__law_take BG (ee_var rfl) (ee_op ee_i (ee_op (ee_var rfl) ee_i (ot_fdiv ⟨by decide, by decide⟩)) ot_add) ⟨by omega, by omega⟩) ⟨by omega, by omega⟩) (ee_ir ⟨by decide, by decide⟩)) ?_
  show SS _ [some (yAt b), some (yI s), some (yIr 0 200), some (yIr 0 200), none, none, none] W _ W (yBds K)
  refine ss_par (Ra := yIr 0 200) (Rb := yIr 0 200) (ea_cons (ee__law_some (R := yIr 0 200) (Rs := [0, 0, 1, 2, 5].map yI) BG (ee_var rfl) (ee_lst (ea_cons ee_i (ea_cons ee_i (ea_cons ee_i (ea_cons ee_i (ea_cons ee_i ea_nil))))) (lle rfl)) ⟨by simp, by simp⟩ (some_ir (by decide))) (ea_cons (ee__law_some (R := yIr 0 200) (Rs := [0, 1, 2, 3, 7, 20].map yI) BG (ee_var rfl) (ee_lst (ea_cons ee_i (ea_cons ee_i (ea_cons ee_i (ea_cons ee_i (ea_cons ee_i (ea_cons ee_i ea_nil)))))) (lle rfl)) ⟨by simp, by simp⟩ (some_ir (by decide))) ea_nil)) ?_
  show SS _ [some (yAt b), some (yI s), some (yIr 0 200), some (yIr 0 200), some (yIr 0 200), some (yIr 0 200), none] W _ W (yBds K)
  refine ss_asg (R := yIr 0 2000) (EE.wid (ee_op (EE.ir (ee_var rfl) ⟨hs1, hs2⟩) (ee__law_some (R := yIr 0 600) (Rs := [yI 0, yI 1, yI s, yI (3 * s), yIr 0 (5 * s + 1 - 1)]) BG (ee_var rfl) (ee_lst (ea_cons ee_i (ea_cons ee_i (ea_cons (ee_var rfl) (ea_cons (ee_op ee_i (ee_var rfl) (ot_mul (c2 (by decide)))) (ea_cons (ee__law_take BG (ee_var rfl) (ee_op (ee_op ee_i (ee_var rfl) (ot_mul (c2 (by decide)))) ee_i ot_add) ⟨by omega, by omega⟩) ea_nil))))) (lle rfl)) ⟨by simp, by simp⟩ (fun S hS => ?_)) or_add) ⟨by omega, by omega⟩) ?_
  · simp only [List.mem_cons, List.not_mem_nil, or_false] at hS
    rcases hS with h | h | h | h | h <;> subst h
    · exact ir_of ⟨by decide, by decide⟩
    · exact ir_of ⟨by decide, by decide⟩
    · exact ir_of ⟨by omega, by omega⟩
    · exact ir_of ⟨by omega, by omega⟩
    · exact ir_le ⟨by omega, by omega⟩
  show SS _ [some (yAt b), some (yI s), some (yIr 0 200), some (yIr 0 200), some (yIr 0 200), some (yIr 0 200), some (yIr 0 2000)] W _ W (yBds K)
  have tk : ∀ k : Int, 1 ≤ k ∧ k ≤ 100 → EE (tOp (rI0 fun i j => .int (i + j)) (tC (.int 1)) (tCall (sp__law_take K) [] E0 (tCons (tVar 0) (tCons (tC (.int k)) tNil)))) [some (yAt b), some (yI s), some (yIr 0 200), some (yIr 0 200), some (yIr 0 200), some (yIr 0 200), some (yIr 0 2000)] W (yIr 0 2000) := fun k hk => EE.wid (ee_op (ee_ir (a := 1) (b := 1) ⟨by decide, by decide⟩) (ee__law_take BG (ee_var rfl) ee_i ⟨by omega, by omega⟩) or_add) ⟨by omega, by omega⟩
  exact ss_ret (EE.sub (ee_tup (ea_cons (ee_var rfl) (ea_cons (ee_var rfl) (ea_cons (ee_var rfl) (ea_cons (ee_var rfl) (ea_cons (ee_var rfl) (ea_cons (ee_var rfl) (ea_cons (tk 3 (by decide)) (ea_cons (EE.wid (ee__law_take BG (ee_var rfl) ee_i ⟨by decide, by decide⟩) ⟨by decide, by decide⟩) (ea_cons (tk 6 (by decide)) ea_nil))))))))) (lle rfl)) (bds_of hs)) (Wd.le.refl _)
theorem d__law_squared (R : Raw K mg "_law_squared" LH.s__law_squared) : Def P w K mg base 1 "_law_squared" ["_law_one", "_law_other"] (sp__law_squared K) := by
  refine def_mk R sc__law_squared (fun _ _ _ _ _ _ us hl => match us, hl with | [_, _], _ => rfl) (fun _ => rfl) fun f cdv A outer s H E hr => ⟨_, (pss_one (ps_ret (pe_op op_add (pe_op op_mul (pe_op op_sub (pe_ix ix_tup (pv 0) pe_int (fun _ _ => rfl)) (pe_ix ix_tup (pv 1) pe_int (fun _ _ => rfl))) (pe_op op_sub (pe_ix ix_tup (pv 0) pe_int (fun _ _ => rfl)) (pe_ix ix_tup (pv 1) pe_int (fun _ _ => rfl)))) (pe_op op_mul (pe_op op_sub (pe_ix ix_tup (pv 0) pe_int (fun _ _ => rfl)) (pe_ix ix_tup (pv 1) pe_int (fun _ _ => rfl))) (pe_op op_sub (pe_ix ix_tup (pv 0) pe_int (fun _ _ => rfl)) (pe_ix ix_tup (pv 1) pe_int (fun _ _ => rfl))))))), fun _ _ W => ?_⟩
  exact ss_ret (ee_op (ee_op (ee_op (ee_op (ee_var rfl) ee_i (ot_ixT rfl)) (ee_op (ee_var rfl) ee_i (ot_ixT rfl)) or_sub) (ee_op (ee_op (ee_var rfl) ee_i (ot_ixT rfl)) (ee_op (ee_var rfl) ee_i (ot_ixT rfl)) or_sub) (or_amul ⟨by decide, by decide⟩)) (ee_op (ee_op (ee_op (ee_var rfl) ee_i (ot_ixT rfl)) (ee_op (ee_var rfl) ee_i (ot_ixT rfl)) or_sub) (ee_op (ee_op (ee_var rfl) ee_i (ot_ixT rfl)) (ee_op (ee_var rfl) ee_i (ot_ixT rfl)) or_sub) (or_amul ⟨by decide, by decide⟩)) or_aadd) (Wd.le.refl _)
theorem ss_augI {Γ : Tys} {W W0 : Wd} {N : Nx} {u : TS} {S : Ty} {i : Nat} {x y : Int} {te : TE} (hi : Γ[i]? = some (some (yI x))) (he : EE te Γ W (yI y)) (k : SS u (Γ.set i (some (yI (x + y)))) W N W0 S) : SS (tSeq (tAug i te (ipI fun i j => i + j)) u) Γ W N W0 S := fun σ G H o s w D n r => by
  obtain ⟨v, e, rv⟩ := o.get hi
  have rv : v = .int x := rv
  subst rv
  refine ⟨_, e, he σ G H o s w _ fun v G1 H1 g1 s1 w1 r1 => ?_⟩
  have r1 : v = .int y := r1
  subst r1
  exact ⟨x, y, rfl, rfl, k _ G1 H1 ((o.mono g1).set i rfl) s1 w1 D (fun σ' G2 H2 a => n σ' G2 H2 (g1.trans a)) fun v G2 H2 a => r v G2 H2 (g1.trans a)⟩
theorem d__law_least_diagonal (B : Blt K mg cN cO cA cW) (R : Raw K mg "_law_least_diagonal" LH.s__law_least_diagonal) : Def P w K mg base 1 "_law_least_diagonal" ["_law_spacing"] (sp__law_least_diagonal K) := by
  refine def_mk R sc__law_least_diagonal (fun _ _ _ _ _ _ us hl => match us, hl with | [_], _ => rfl) (fun _ => rfl) fun f cdv A outer s H E hr => ⟨_, (pss_cons (ps_set (i := 1) sc__law_least_diagonal.nd rfl (.inl rfl) pe_int)
      (pss_cons (ps_for PassesOwn.never rfl (pi_range1 (by rfl) B.range (pa_cons (pe_op op_add (pe_op op_mul pe_int (pv 0)) pe_int) pa_nil)) (pg_name (i := 2) sc__law_least_diagonal.nd rfl (.inl rfl))
      (pss_one (ps_if (pt_cmpR op_lt (pe_op op_mul (pe_op op_mul pe_int (pv 1)) (pv 1)) (pe_op op_mul (pv 0) (pv 0)) (nomark _)) (pss_one (ps_aug (i := 1) sc__law_least_diagonal.nd rfl (.inl rfl) pe_int ip_add)) pss_nil)))
      (pss_one (ps_ret (pv 1))))), fun s hs W => ?_⟩
  have hs1 : 1 ≤ s := hs.1
  have hs2 : s ≤ 100 := hs.2
  show SS _ [some (yI s), none, none] W _ W (yIr 0 300)
  refine ss_asg ee_i ?_
  refine ss_for (α := Int) (n := (2 * s + 2).toNat) (ei_rng1 (n := 2 * s + 2) (ea_cons (ee_op (ee_op ee_i (ee_var rfl) (ot_mul (c2 (by decide)))) ee_i ot_add) ea_nil) (by omega) (by omega)) (fun i f => 0 ≤ f ∧ f ≤ i) (fun f => [some (yI s), some (yI f), none]) (fun _ => W) (fun i f => [some (yI s), some (yI f), some (yI (i : Int))]) 0 ⟨by decide, by decide⟩ (fun σ G H o w => ⟨o, w⟩) (fun i f hi hp => gt_name) (fun i f hi hp => ?_) (fun f hp => ?_)
  · have hi : i < (2 * s + 2).toNat := hi
    refine ss_last (ss_if (et_test (ee_op (ee_op (ee_op ee_i (ee_var rfl) (ot_mul (c2 (by decide)))) (ee_var rfl) (ot_mul (.inr ⟨by omega, by omega⟩))) (ee_op (ee_var rfl) (ee_var rfl) (ot_mul (.inl ⟨by omega, by omega⟩))) ot_lt)) (fun hb => ?_) (fun hb => ?_))
    · exact ss_augI rfl ee_i (ss_next fun σ G H o s' w => ⟨f + 1, ⟨by omega, by omega⟩, o.forget 2, w⟩)
    · exact ss_skip (ss_next fun σ G H o s' w => ⟨f, ⟨hp.1, by omega⟩, o.forget 2, w⟩)
  · exact ss_ret (EE.ir (ee_var rfl) ⟨hp.1, by omega⟩) (Wd.le.refl _)
theorem all_pt {m : Int} {Rs : List Ty} (h : ∀ S ∈ Rs, S.le (yPt K m)) : (yL Rs).le (yL (List.replicate Rs.length (yPt K m))) := yL_le (f2_rep h)
theorem d__law_offsets (B : Blt K mg cN cO cA cW) (R : Raw K mg "_law_offsets" LH.s__law_offsets) (D__law_least_diagonal : Def P w K mg base 1 "_law_least_diagonal" ["_law_spacing"] (sp__law_least_diagonal K)) : Def P w K mg base 2 "_law_offsets" ["_law_spacing"] (sp__law_offsets K) := by
  refine def_mk R sc__law_offsets (fun _ _ _ _ _ _ us hl => match us, hl with | [_], _ => rfl) (fun _ => rfl) fun f cdv A outer s H E hr => ⟨_, (pss_cons (ps_set (i := 1) sc__law_offsets.nd rfl (.inl rfl) (pe_cd D__law_least_diagonal hr (by decide) (pa_cons (pv 0) pa_nil)))
      (pss_cons (ps_set (i := 2) sc__law_offsets.nd rfl (.inl rfl) (pe_lst (pa_cons (pe_tup (pa_cons (pv 0) (pa_cons pe_int pa_nil))) (pa_cons (pe_tup (pa_cons pe_int (pa_cons (pv 0) pa_nil))) (pa_cons (pe_tup (pa_cons (pv 1) (pa_cons (pv 1) pa_nil))) (pa_cons (pe_tup (pa_cons (pv 1) (pa_cons (pe_un un_neg (pv 1)) pa_nil))) (pa_cons (pe_tup (pa_cons (pv 0) (pa_cons pe_int pa_nil))) (pa_cons (pe_tup (pa_cons pe_int (pa_cons (pv 0) pa_nil))) pa_nil))))))))
      (pss_cons (ps_set (i := 2) sc__law_offsets.nd rfl (.inl rfl) (pe_op op_cat (pv 2) (pe_lst (pa_cons (pe_tup (pa_cons (pe_op op_add (pv 0) pe_int) (pa_cons (pe_un un_neg pe_int) pa_nil))) (pa_cons (pe_tup (pa_cons (pe_op op_mul pe_int (pv 0)) (pa_cons pe_int pa_nil))) (pa_cons (pe_tup (pa_cons pe_int (pa_cons (pe_op op_mul pe_int (pv 0)) pa_nil))) (pa_cons (pe_tup (pa_cons (pv 0) (pa_cons (pv 0) pa_nil))) pa_nil)))))))
      (pss_cons (ps_if (pt_cmpR op_eq (pe_op op_sub (pv 0) (pe_op op_mul (pe_op op_fdiv (pv 0) pe_int) pe_int)) pe_int (nomark _)) (pss_one (ps_expr (pe_bm PySem.F.plainAttrs_list PySem.F.slot_list_append PySem.F.type_list_append mt_append (pv 2) (pa_cons (pe_tup (pa_cons (pe_op op_fdiv (pe_op op_mul pe_int (pv 0)) pe_int) (pa_cons (pe_op op_fdiv (pe_op op_mul pe_int (pv 0)) pe_int) pa_nil))) pa_nil)))) pss_nil)
      (pss_one (ps_ret (pe_op op_cat (pv 2) (pe_lc (own := [("_law_x", 3), ("_law_y", 4)]) (g := gTup K 2 (gCons (gName 3) (gCons (gName 4) gNil))) (tt := tYes) (te := (tTup (tCons (tUn (rU fun i => .int (-i)) (tVar 3)) (tCons (tUn (rU fun i => .int (-i)) (tVar 4)) tNil)))) rfl sc__law_offsets.nd (pi_list (pv 2)) (blkOk_by (N := N__law_offsets) (sc := defScope LH.s__law_offsets) (by decide +kernel)) (fun _ _ _ _ _ => (pg_tup rfl (pgs_cons (pg_name (i := 3) sc__law_offsets.nd rfl (.inl rfl)) (pgs_cons (pg_name (i := 4) sc__law_offsets.nd rfl (.inl rfl)) pgs_nil)))) (fun _ _ _ _ _ => pts_nil) (fun _ _ _ _ _ => (pe_tup (pa_cons (pe_un un_neg (pv 3)) (pa_cons (pe_un un_neg (pv 4)) pa_nil)))))))))))), fun s hs W => ?_⟩
  have hs1 : 1 ≤ s := hs.1
  have hs2 : s ≤ 100 := hs.2
  show SS _ [some (yI s), none, none, none, none] W _ W (yOff K)
  have sv : ∀ {Γ : Tys} {W' : Wd}, Γ[0]? = some (some (yI s)) → EE (tVar 0) Γ W' (yIr 0 100) := fun h => EE.ir (ee_var h) ⟨by omega, hs2⟩
  have ci : ∀ {Γ : Tys} {W' : Wd} {c : Int}, 0 ≤ c ∧ c ≤ 100 → EE (tC (.int c)) Γ W' (yIr 0 100) := fun h => ee_ir h
  refine ss_asg (ee__law_least_diagonal (ee_var rfl) hs) ?_
  show SS _ [some (yI s), some (yIr 0 300), none, none, none] W _ W (yOff K)
  refine ss_asg (R := yL (List.replicate 6 (yPt K 400))) (ee_lst (ea_cons (ee_pt (sv rfl) (ci (by decide)) ⟨by decide, by decide⟩ ⟨by decide, by decide⟩) (ea_cons (ee_pt (ci (by decide)) (sv rfl) ⟨by decide, by decide⟩ ⟨by decide, by decide⟩) (ea_cons (ee_pt (ee_var rfl) (ee_var rfl) ⟨by decide, by decide⟩ ⟨by decide, by decide⟩) (ea_cons (ee_pt (ee_var rfl) (ee_un (ee_var rfl) or_neg) ⟨by decide, by decide⟩ ⟨by decide, by decide⟩) (ea_cons (ee_pt (sv rfl) (ci (by decide)) ⟨by decide, by decide⟩ ⟨by decide, by decide⟩) (ea_cons (ee_pt (ci (by decide)) (sv rfl) ⟨by decide, by decide⟩ ⟨by decide, by decide⟩) ea_nil)))))) (lle rfl)) ?_
  show SS _ [some (yI s), some (yIr 0 300), some (yL (List.replicate 6 (yPt K 400))), none, none] W _ W (yOff K)
  refine ss_cat (Rs' := List.replicate 4 (yPt K 400)) (ee_var rfl) (ee_lst (ea_cons (ee_pt (ee_op (sv rfl) (ci (c := 1) (by decide)) or_add) (ee_un (ci (c := 1) (by decide)) or_neg) ⟨by decide, by decide⟩ ⟨by decide, by decide⟩) (ea_cons (ee_pt (ee_op ee_i (sv rfl) (or_mulc ⟨by decide, by decide⟩)) (ci (by decide)) ⟨by decide, by decide⟩ ⟨by decide, by decide⟩) (ea_cons (ee_pt (ci (by decide)) (ee_op ee_i (sv rfl) (or_mulc ⟨by decide, by decide⟩)) ⟨by decide, by decide⟩ ⟨by decide, by decide⟩) (ea_cons (ee_pt (sv rfl) (sv rfl) ⟨by decide, by decide⟩ ⟨by decide, by decide⟩) ea_nil)))) (lle rfl)) (lle rfl) (fun l hl => ?_)
  show SS _ [some (yI s), some (yIr 0 300), some (yAt l), none, none] (wM W l (List.replicate 10 (yPt K 400))) _ W (yOff K)
  have fin : ∀ n : Nat, 1 ≤ n ∧ n ≤ 15 → SS (tRet (tOp rCat (tVar 2) (tLc (iList K (tVar 2)) (gTup K 2 (gCons (gName 3) (gCons (gName 4) gNil))) tYes (tTup (tCons (tUn (rU fun i => .int (-i)) (tVar 3)) (tCons (tUn (rU fun i => .int (-i)) (tVar 4)) tNil))) [3, 4]))) [some (yI s), some (yIr 0 300), some (yAt l), none, none] (wM W l (List.replicate n (yPt K 400))) (fun _ G H => W.r G H ∧ (yOff K).r .non G) W (yOff K) := fun n hn => by
    refine ss_freeze (i := 2) rfl ?_
    show SS _ [some (yI s), some (yIr 0 300), some (yL (List.replicate n (yPt K 400))), none, none] W _ W (yOff K)
    refine ss_ret (EE.sub (ee_cat (Rs := List.replicate n (yPt K 400)) (Rs' := List.replicate n (yPt K 400)) (ee_var rfl) (ee_eq (ee_lc (js := [3, 4]) (F := fun _ => yPt K 400) (fun _ => true) (fun _ => [some (yI s), some (yIr 0 300), some (yL (List.replicate n (yPt K 400))), some (yIr (-400) 400), some (yIr (-400) 400)]) (ei_rep (ee_var rfl)) (by omega) (fun i hi => gt_tup (gts_cons gt_name (gts_cons gt_name gts_nil)) rfl) (by decide) (fun i W' hi => et_yes) (fun i W' hi _ => ee_pt (ee_un (ee_var rfl) or_neg) (ee_un (ee_var rfl) or_neg) ⟨by decide, by decide⟩ ⟨by decide, by decide⟩)) (congrArg yL (made_rep n _))) ?_) fun v H hv => ⟨n + n, ⟨by omega, by omega⟩, by rw [List.replicate_append_replicate] at hv; exact hv⟩) (Wd.le.refl _)
    rw [List.length_replicate]
    omega
  refine ss_if (et_test (ee_op (ee_op (ee_var rfl) (ee_op (ee_op (ee_var rfl) ee_i (ot_fdiv ⟨by decide, by decide⟩)) ee_i (ot_mul (.inr ⟨by decide, by decide⟩))) ot_sub) ee_i ot_eqI)) (fun hb => ?_) (fun hb => ?_)
  · refine ss_append (Rs := List.replicate 10 (yPt K 400)) (R := yPt K 400) (i := 2) rfl (ee_pt (EE.ir (ee_op (ee_op ee_i (ee_var rfl) (ot_mul (c2 (by decide)))) ee_i (ot_fdiv ⟨by decide, by decide⟩)) ⟨?_, ?_⟩) (EE.ir (ee_op (ee_op ee_i (ee_var rfl) (ot_mul (c2 (by decide)))) ee_i (ot_fdiv ⟨by decide, by decide⟩)) ⟨?_, ?_⟩) (a := -400) (b := 400) (c := -400) (d := 400) ⟨by decide, by decide⟩ ⟨by decide, by decide⟩) (by rw [List.length_replicate]; decide) ?_
    · omega
    · omega
    · omega
    · omega
    · exact fin 11 ⟨by decide, by decide⟩
  · exact ss_skip (fin 10 ⟨by decide, by decide⟩)
end
end LT
end
section
set_option Elab.async false
set_option linter.all false
set_option maxRecDepth 100000
set_option maxHeartbeats 1000000
set_option exponentiation.threshold 20000
namespace LT
open PySem PySem.Spec PyProof.Rows L2 LL
abbrev N__law_couple : List Str := ["_law_bag_here", "_law_spacing", "_law_a", "_law_b", "_law_v", "_law_m"]
theorem sc__law_couple : FnScope N__law_couple ["_law_bag_here", "_law_spacing"] (defScope LH.s__law_couple) := ⟨rfl, rfl, rfl, by decide +kernel, rfl, by decide +kernel, by decide +kernel⟩
abbrev N__law_worst_couple : List Str := ["_law_bag_here", "_law_spacing", "_law_x", "_law_y", "_law_m", "_law_a", "_law_b", "_law_to"]
theorem sc__law_worst_couple : FnScope N__law_worst_couple ["_law_bag_here", "_law_spacing"] (defScope LH.s__law_worst_couple) := ⟨rfl, rfl, rfl, by decide +kernel, rfl, by decide +kernel, by decide +kernel⟩
abbrev N__law_do_cross : List Str := ["_law_leg", "_law_other", "_law_a", "_law_b", "_law_c", "_law_d"]
theorem sc__law_do_cross : FnScope N__law_do_cross ["_law_leg", "_law_other"] (defScope LH.s__law_do_cross) := ⟨rfl, rfl, rfl, by decide +kernel, rfl, by decide +kernel, by decide +kernel⟩
abbrev yLeg (K : PySem.W.Frag) : Ty := yT K [yPt K 8000, yPt K 8000]
abbrev yCpl (K : PySem.W.Frag) : Ty := yT K (List.replicate 2 (yLeg K))
def sp__law_couple (K : PySem.W.Frag) : Sp := spB (fun g : Int => [yI g]) SpOk (fun _ => yCpl K)
def sp__law_worst_couple (K : PySem.W.Frag) : Sp := spB (fun g : Int => [yI g]) SpOk (fun _ => yCpl K)
def sp__law_do_cross (K : PySem.W.Frag) : Sp := spF (fun _ : Unit => [yLeg K, yLeg K]) (fun _ => True) (fun _ => yU)
section
variable {Γ : Tys} {W : Wd} {R S : Ty} {Rs : List Ty} {ta tb te : TE} {K : PySem.W.Frag} {b : Addr}
theorem ee__law_couple {s : Int} (B : IsBag b W) (ha : EE ta Γ W (yAt b)) (hb : EE tb Γ W (yI s)) (hp : SpOk s) : EE (tCall (sp__law_couple K) [] E0 (tCons ta (tCons tb tNil))) Γ W (yCpl K) := ee_callB B s (ea_cons ha (ea_cons hb ea_nil)) hp
theorem ee__law_worst_couple {s : Int} (B : IsBag b W) (ha : EE ta Γ W (yAt b)) (hb : EE tb Γ W (yI s)) (hp : SpOk s) : EE (tCall (sp__law_worst_couple K) [] E0 (tCons ta (tCons tb tNil))) Γ W (yCpl K) := ee_callB B s (ea_cons ha (ea_cons hb ea_nil)) hp
theorem ee__law_do_cross (ha : EE ta Γ W (yLeg K)) (hb : EE tb Γ W (yLeg K)) : EE (tCall (sp__law_do_cross K) [] E0 (tCons ta (tCons tb tNil))) Γ W yU := ee_call () (ea_cons ha (ea_cons hb ea_nil)) trivial
theorem or_negc {a b c : Int} (hc : 0 ≤ c ∧ c < 2 ^ 60) : OT (rI CMul fun i j => .int (i * j)) (yI (-c)) (yIr a b) (yIr (-c * b) (-c * a)) := fun x y G H s hx ⟨j, hj, hy⟩ Q q => ot_mul (i := -c) (j := j) (.inl ⟨by omega, by omega⟩) x y G H s hx hy Q fun v G2 H2 gs r => q v G2 H2 gs ⟨-c * j, ⟨Int.mul_le_mul_of_nonpos_left (by omega) hj.2, Int.mul_le_mul_of_nonpos_left (by omega) hj.1⟩, r⟩
theorem ot_ptI {m : Int} {i : Int} (h : i = 0 ∨ i = 1) : OT (rIxT K) (yPt K m) (yI i) (yIr (-m) m) := by
  rcases h with rfl | rfl
  · exact ot_ixT rfl
  · exact ot_ixT rfl
end
section
variable {P : Program} {w : World} {K : PySem.W.Frag} {mg : Str → Option Value} {base : Heap} {cN cO cA cW : Addr}
theorem d__law_couple (B : Blt K mg cN cO cA cW) (R : Raw K mg "_law_couple" LH.s__law_couple) (D__law_some : Def P w K mg base 2 "_law_some" ["_law_bag_here", "_law_things"] (sp__law_some K)) (D__law_offsets : Def P w K mg base 2 "_law_offsets" ["_law_spacing"] (sp__law_offsets K)) (D__law_take : Def P w K mg base 1 "_law_take" ["_law_bag_here", "_law_many"] (sp__law_take K)) : Def P w K mg base 3 "_law_couple" ["_law_bag_here", "_law_spacing"] (sp__law_couple K) := by
  refine def_mkB R sc__law_couple (fun _ _ _ _ _ _ us hl => match us, hl with | [_, _], _ => rfl) (fun _ => rfl) fun f cdv A outer s H E hr => ⟨_, (pss_cons (ps_par (i := 2) (j := 3) rfl sc__law_couple.nd rfl rfl (by decide) rfl rfl (pa_cons (pe_tup (pa_cons pe_int (pa_cons pe_int pa_nil))) (pa_cons (pe_cd D__law_some hr (by decide) (pa_cons (pv 0) (pa_cons (pe_cd D__law_offsets hr (by decide) (pa_cons (pv 1) pa_nil)) pa_nil))) pa_nil)) (by rfl))
      (pss_cons (ps_set (i := 4) sc__law_couple.nd rfl (.inl rfl) (pe_cd D__law_some hr (by decide) (pa_cons (pv 0) (pa_cons (pe_op op_cat (pe_cd D__law_offsets hr (by decide) (pa_cons (pv 1) pa_nil)) (pe_lst (pa_cons (pv 3) (pa_cons (pe_tup (pa_cons (pe_un un_neg (pe_ix ix_tup (pv 3) pe_int (fun _ _ => rfl))) (pa_cons (pe_ix ix_tup (pv 3) pe_int (fun _ _ => rfl)) pa_nil))) (pa_cons (pe_tup (pa_cons (pe_ix ix_tup (pv 3) pe_int (fun _ _ => rfl)) (pa_cons (pe_un un_neg (pe_ix ix_tup (pv 3) pe_int (fun _ _ => rfl))) pa_nil))) (pa_cons (pe_tup (pa_cons (pe_op op_mul pe_int (pe_ix ix_tup (pv 3) pe_int (fun _ _ => rfl))) (pa_cons (pe_op op_mul pe_int (pe_ix ix_tup (pv 3) pe_int (fun _ _ => rfl))) pa_nil))) pa_nil)))))) pa_nil))))
      (pss_cons (ps_set (i := 5) sc__law_couple.nd rfl (.inl rfl) (pe_tup (pa_cons (pe_op op_sub (pe_cd D__law_take hr (by decide) (pa_cons (pv 0) (pa_cons (pe_op op_add (pe_op op_mul pe_int (pv 1)) pe_int) pa_nil))) (pe_op op_mul pe_int (pv 1))) (pa_cons (pe_op op_sub (pe_cd D__law_take hr (by decide) (pa_cons (pv 0) (pa_cons (pe_op op_add (pe_op op_mul pe_int (pv 1)) pe_int) pa_nil))) (pe_op op_mul pe_int (pv 1))) pa_nil))))
      (pss_cons (ps_set (i := 5) sc__law_couple.nd rfl (.inl rfl) (pe_cd D__law_some hr (by decide) (pa_cons (pv 0) (pa_cons (pe_lst (pa_cons (pv 5) (pa_cons (pe_tup (pa_cons pe_int (pa_cons pe_int pa_nil))) (pa_cons (pe_tup (pa_cons (pe_op op_mul (pe_un un_neg pe_int) (pe_op op_add (pe_ix ix_tup (pv 3) pe_int (fun _ _ => rfl)) (pe_ix ix_tup (pv 4) pe_int (fun _ _ => rfl)))) (pa_cons (pe_op op_mul (pe_un un_neg pe_int) (pe_op op_add (pe_ix ix_tup (pv 3) pe_int (fun _ _ => rfl)) (pe_ix ix_tup (pv 4) pe_int (fun _ _ => rfl)))) pa_nil))) (pa_cons (pe_tup (pa_cons (pe_ix ix_tup (pv 3) pe_int (fun _ _ => rfl)) (pa_cons (pe_ix ix_tup (pv 3) pe_int (fun _ _ => rfl)) pa_nil))) (pa_cons (pe_tup (pa_cons (pe_op op_mul pe_int (pe_ix ix_tup (pv 4) pe_int (fun _ _ => rfl))) (pa_cons (pe_op op_mul pe_int (pe_ix ix_tup (pv 4) pe_int (fun _ _ => rfl))) pa_nil))) pa_nil)))))) pa_nil))))
      (pss_one (ps_ret (pe_tup (pa_cons (pe_tup (pa_cons (pv 2) (pa_cons (pv 5) pa_nil))) (pa_cons (pe_tup (pa_cons (pv 3) (pa_cons (pe_tup (pa_cons (pe_op op_add (pe_ix ix_tup (pv 5) pe_int (fun _ _ => rfl)) (pe_ix ix_tup (pv 4) pe_int (fun _ _ => rfl))) (pa_cons (pe_op op_add (pe_ix ix_tup (pv 5) pe_int (fun _ _ => rfl)) (pe_ix ix_tup (pv 4) pe_int (fun _ _ => rfl))) pa_nil))) pa_nil))) pa_nil))))))))), fun s hs b W BG => ?_⟩
  have hs1 : 1 ≤ s := hs.1
  have hs2 : s ≤ 100 := hs.2
  have z0 : ∀ {Γ : Tys} {W' : Wd}, EE (tC (.int 0)) Γ W' (yIr 0 0) := ee_ir ⟨by decide, by decide⟩
  show SS _ [some (yAt b), some (yI s), none, none, none, none] W _ W (yCpl K)
  refine ss_par (Ra := yPt K 8000) (Rb := yPt K 400) (ea_cons (ee_pt z0 z0 ⟨by decide, by decide⟩ ⟨by decide, by decide⟩) (ea_cons (ee_someE (m := 30) (by decide) BG (ee_var rfl) (ee__law_offsets (ee_var rfl) hs)) ea_nil)) ?_
  show SS _ [some (yAt b), some (yI s), some (yPt K 8000), some (yPt K 400), none, none] W _ W (yCpl K)
  have pb : ∀ {i : Int} {Γ : Tys} {W' : Wd}, Γ[3]? = some (some (yPt K 400)) → i = 0 ∨ i = 1 → EE (tOp (rIxT K) (tVar 3) (tC (.int i))) Γ W' (yIr (-400) 400) := fun h k => ee_op (ee_var h) ee_i (ot_ptI k)
  refine ss_asg (R := yPt K 800) (ee_callBE BG (Rs := [yE fun n : Nat => yW (1 ≤ n ∧ n ≤ 30) (yL (List.replicate n (yPt K 400) ++ List.replicate 4 (yPt K 800)))]) (ea_cons (ee_var rfl) (ea_cons (ee_op (ee__law_offsets (ee_var rfl) hs) (ee_lst (Rs := List.replicate 4 (yPt K 800)) (ea_cons (EE.sub (ee_var rfl) (pt_le (by decide))) (ea_cons (ee_pt (ee_un (pb rfl (.inr rfl)) or_neg) (pb rfl (.inl rfl)) ⟨by decide, by decide⟩ ⟨by decide, by decide⟩) (ea_cons (ee_pt (pb rfl (.inr rfl)) (ee_un (pb rfl (.inl rfl)) or_neg) ⟨by decide, by decide⟩ ⟨by decide, by decide⟩) (ea_cons (ee_pt (ee_op ee_i (pb rfl (.inl rfl)) (or_mulc ⟨by decide, by decide⟩)) (ee_op ee_i (pb rfl (.inr rfl)) (or_mulc ⟨by decide, by decide⟩)) ⟨by decide, by decide⟩ ⟨by decide, by decide⟩) ea_nil)))) (lle rfl)) ?cat) ea_nil)) ?some) ?_
  case cat =>
    intro x y G H st ⟨n, hn, r1⟩ r2 Q q
    obtain ⟨p, xs, rfl, hp, ap⟩ := r1
    obtain ⟨p2, ys, rfl, hq, aq⟩ := r2
    refine ⟨p, p2, xs, ys, rfl, rfl, st _ _ hp, st _ _ hq, by rw [ap.len, aq.len, List.length_replicate, List.length_replicate]; exact szl (by omega), fun l hl => ?_⟩
    have gs := GS.new (o := .lst (xs ++ ys)) st hl
    exact q _ _ _ gs ⟨n, hn, l, _, rfl, upd_same, (ap.mono gs.g).app (aq.mono gs.g)⟩
  case some =>
    intro vs G al
    obtain ⟨v, rfl, n, hn, hv⟩ := al.one
    refine ⟨(List.replicate n (yPt K 400) ++ List.replicate 4 (yPt K 800), yPt K 800), ⟨⟨by simp, by show List.length _ ≤ _; rw [List.length_append, List.length_replicate, List.length_replicate]; omega⟩, fun S hS => ?_⟩, ⟨hv, trivial⟩, Ty.le.refl _⟩
    rcases List.mem_append.mp hS with z | z
    · rw [(List.mem_replicate.mp z).2]
      exact pt_le (by decide)
    · rw [(List.mem_replicate.mp z).2]
      exact Ty.le.refl _
  show SS _ [some (yAt b), some (yI s), some (yPt K 8000), some (yPt K 400), some (yPt K 800), none] W _ W (yCpl K)
  have pv : ∀ {i : Int} {Γ : Tys} {W' : Wd}, Γ[4]? = some (some (yPt K 800)) → i = 0 ∨ i = 1 → EE (tOp (rIxT K) (tVar 4) (tC (.int i))) Γ W' (yIr (-800) 800) := fun h k => ee_op (ee_var h) ee_i (ot_ptI k)
  have tk : EE (tOp (rI0 fun i j => .int (i - j)) (tCall (sp__law_take K) [] E0 (tCons (tVar 0) (tCons (tOp (rI0 fun i j => .int (i + j)) (tOp (rI CMul fun i j => .int (i * j)) (tC (.int 6)) (tVar 1)) (tC (.int 1))) tNil))) (tOp (rI CMul fun i j => .int (i * j)) (tC (.int 3)) (tVar 1))) [some (yAt b), some (yI s), some (yPt K 8000), some (yPt K 400), some (yPt K 800), none] W (yIr (-600) 600) := EE.wid (ee_op (ee__law_take BG (ee_var rfl) (ee_op (ee_op ee_i (ee_var rfl) (ot_mul (c2 (by decide)))) ee_i ot_add) ⟨by omega, by omega⟩) (EE.sub (ee_op ee_i (ee_var rfl) (ot_mul (c2 (by decide)))) ir_self) or_sub) ⟨by omega, by omega⟩
  refine ss_asg (R := yPt K 600) (ee_pt tk tk ⟨by decide, by decide⟩ ⟨by decide, by decide⟩) ?_
  clear tk
  show SS _ [some (yAt b), some (yI s), some (yPt K 8000), some (yPt K 400), some (yPt K 800), some (yPt K 600)] W _ W (yCpl K)
  have n3 : ∀ {Γ : Tys} {W' : Wd}, EE (tUn (rU fun i => .int (-i)) (tC (.int 3))) Γ W' (yI (-3)) := ee_un ee_i ut_neg
  refine ss_asg (R := yPt K 3600) (ee__law_some (R := yPt K 3600) (Rs := [yPt K 600, yPt K 3600, yPt K 3600, yPt K 3600, yPt K 3600]) BG (ee_var rfl) (ee_lst (ea_cons (ee_var rfl) (ea_cons (ee_pt z0 z0 ⟨by decide, by decide⟩ ⟨by decide, by decide⟩) (ea_cons (ee_pt (ee_op n3 (ee_op (pb rfl (.inl rfl)) (pv rfl (.inl rfl)) or_add) (or_negc (c := 3) ⟨by decide, by decide⟩)) (ee_op n3 (ee_op (pb rfl (.inr rfl)) (pv rfl (.inr rfl)) or_add) (or_negc (c := 3) ⟨by decide, by decide⟩)) ⟨by decide, by decide⟩ ⟨by decide, by decide⟩) (ea_cons (ee_pt (pb rfl (.inl rfl)) (pb rfl (.inr rfl)) ⟨by decide, by decide⟩ ⟨by decide, by decide⟩) (ea_cons (ee_pt (ee_op ee_i (pv rfl (.inl rfl)) (or_mulc ⟨by decide, by decide⟩)) (ee_op ee_i (pv rfl (.inr rfl)) (or_mulc ⟨by decide, by decide⟩)) ⟨by decide, by decide⟩ ⟨by decide, by decide⟩) ea_nil))))) (lle rfl)) ⟨by simp, by simp⟩ (fun S hS => ?_)) ?_
  · simp only [List.mem_cons, List.not_mem_nil, or_false] at hS
    rcases hS with h | h | h | h | h <;> subst h <;> exact pt_le (by decide)
  show SS _ [some (yAt b), some (yI s), some (yPt K 8000), some (yPt K 400), some (yPt K 800), some (yPt K 3600)] W _ W (yCpl K)
  have pm : ∀ {i : Int} {Γ : Tys} {W' : Wd}, Γ[5]? = some (some (yPt K 3600)) → i = 0 ∨ i = 1 → EE (tOp (rIxT K) (tVar 5) (tC (.int i))) Γ W' (yIr (-3600) 3600) := fun h k => ee_op (ee_var h) ee_i (ot_ptI k)
  exact ss_ret (ee_tup (Rs := List.replicate 2 (yLeg K)) (ea_cons (ee_tup (ea_cons (ee_var rfl) (ea_cons (EE.sub (ee_var rfl) (pt_le (by decide))) ea_nil)) (lle rfl)) (ea_cons (ee_tup (ea_cons (EE.sub (ee_var rfl) (pt_le (by decide))) (ea_cons (ee_pt (m := 8000) (ee_op (pm rfl (.inl rfl)) (pv rfl (.inl rfl)) or_add) (ee_op (pm rfl (.inr rfl)) (pv rfl (.inr rfl)) or_add) ⟨by decide, by decide⟩ ⟨by decide, by decide⟩) ea_nil)) (lle rfl)) ea_nil)) (lle rfl)) (Wd.le.refl _)
theorem or_neP {a b c d e f : Int} {i j : Int} : OT (rNeD K) (yT K [yIr a b, yIr c d]) (yT K [yI i, yI j]) yU := fun x y G H s ⟨p, xs, e1, hp, ap⟩ hy Q q => by
  subst e1
  obtain ⟨v1, v2, rfl, ⟨k1, _, h1⟩, ⟨k2, _, h2⟩⟩ := ap.two
  exact ot_neD (Ra := yT K [yI k1, yI k2]) (da_t (ds := [_, _]) ⟨da_i, da_i, trivial⟩) (da_t (Rs := [yI i, yI j]) (ds := [_, _]) ⟨da_i, da_i, trivial⟩) rfl rfl rfl _ y G H s ⟨p, _, rfl, hp, h1, h2, trivial⟩ hy Q fun v G2 H2 gs r => q v G2 H2 gs ⟨_, r⟩
theorem d__law_worst_couple (B : Blt K mg cN cO cA cW) (R : Raw K mg "_law_worst_couple" LH.s__law_worst_couple) (D__law_some : Def P w K mg base 2 "_law_some" ["_law_bag_here", "_law_things"] (sp__law_some K)) (D__law_take : Def P w K mg base 1 "_law_take" ["_law_bag_here", "_law_many"] (sp__law_take K)) : Def P w K mg base 3 "_law_worst_couple" ["_law_bag_here", "_law_spacing"] (sp__law_worst_couple K) := by
  refine def_mkB R sc__law_worst_couple (fun _ _ _ _ _ _ us hl => match us, hl with | [_, _], _ => rfl) (fun _ => rfl) fun f cdv A outer s H E hr => ⟨_, (pss_cons (ps_asg (pe_cd D__law_some hr (by decide) (pa_cons (pv 0) (pa_cons (pe_lst (pa_cons (pe_tup (pa_cons (pv 1) (pa_cons pe_int pa_nil))) (pa_cons (pe_tup (pa_cons pe_int (pa_cons (pv 1) pa_nil))) (pa_cons (pe_tup (pa_cons (pv 1) (pa_cons (pv 1) pa_nil))) pa_nil)))) pa_nil))) (pg_tup rfl (pgs_cons (pg_name (i := 2) sc__law_worst_couple.nd rfl (.inl rfl)) (pgs_cons (pg_name (i := 3) sc__law_worst_couple.nd rfl (.inl rfl)) pgs_nil))))
      (pss_cons (ps_set (i := 4) sc__law_worst_couple.nd rfl (.inl rfl) (pe_cd D__law_take hr (by decide) (pa_cons (pv 0) (pa_cons (pe_op op_add (pe_op op_mul pe_int (pv 1)) pe_int) pa_nil))))
      (pss_cons (ps_par (i := 5) (j := 6) rfl sc__law_worst_couple.nd rfl rfl (by decide) rfl rfl (pa_cons (pe_tup (pa_cons pe_int (pa_cons pe_int pa_nil))) (pa_cons (pe_tup (pa_cons (pv 2) (pa_cons (pv 3) pa_nil))) pa_nil)) (by rfl))
      (pss_cons (ps_set (i := 7) sc__law_worst_couple.nd rfl (.inl rfl) (pe_ifExp (pt_cmpR (op_neD hr.units) (pe_tup (pa_cons (pv 2) (pa_cons (pv 3) pa_nil))) (pe_tup (pa_cons (pv 1) (pa_cons (pv 1) pa_nil))) (nomark _)) (pe_tup (pa_cons (pe_un un_neg (pv 4)) (pa_cons (pe_un un_neg (pv 4)) pa_nil))) (pe_tup (pa_cons pe_int (pa_cons (pe_op op_mul (pe_un un_neg pe_int) (pv 4)) pa_nil)))))
      (pss_one (ps_ret (pe_tup (pa_cons (pe_tup (pa_cons (pv 5) (pa_cons (pv 7) pa_nil))) (pa_cons (pe_tup (pa_cons (pv 6) (pa_cons (pe_tup (pa_cons (pe_op op_sub (pe_ix ix_tup (pv 7) pe_int (fun _ _ => rfl)) (pv 3)) (pa_cons (pe_op op_add (pe_ix ix_tup (pv 7) pe_int (fun _ _ => rfl)) (pv 2)) pa_nil))) pa_nil))) pa_nil))))))))), fun s hs b W BG => ?_⟩
  have hs1 : 1 ≤ s := hs.1
  have hs2 : s ≤ 100 := hs.2
  have z0 : ∀ {Γ : Tys} {W' : Wd}, EE (tC (.int 0)) Γ W' (yIr 0 0) := ee_ir ⟨by decide, by decide⟩
  have sv : ∀ {Γ : Tys} {W' : Wd}, Γ[1]? = some (some (yI s)) → EE (tVar 1) Γ W' (yIr 0 100) := fun h => EE.ir (ee_var h) ⟨by omega, hs2⟩
  show SS _ [some (yAt b), some (yI s), none, none, none, none, none, none] W _ W (yCpl K)
  refine ss_set (R := yPt K 100) (ee_someN (n := 3) BG (ee_var rfl) (ee_lst (Rs := List.replicate 3 (yPt K 100)) (ea_cons (ee_pt (sv rfl) z0 ⟨by decide, by decide⟩ ⟨by decide, by decide⟩) (ea_cons (ee_pt z0 (sv rfl) ⟨by decide, by decide⟩ ⟨by decide, by decide⟩) (ea_cons (ee_pt (sv rfl) (sv rfl) ⟨by decide, by decide⟩ ⟨by decide, by decide⟩) ea_nil))) (lle rfl)) ⟨by decide, by decide⟩) (gt_tup (gts_cons gt_name (gts_cons gt_name gts_nil)) rfl) ?_
  show SS _ [some (yAt b), some (yI s), some (yIr (-100) 100), some (yIr (-100) 100), none, none, none, none] W _ W (yCpl K)
  refine ss_asg (R := yIr 0 800) (EE.wid (ee__law_take BG (ee_var rfl) (ee_op (ee_op ee_i (ee_var rfl) (ot_mul (c2 (by decide)))) ee_i ot_add) ⟨by omega, by omega⟩) ⟨by omega, by omega⟩) ?_
  show SS _ [some (yAt b), some (yI s), some (yIr (-100) 100), some (yIr (-100) 100), some (yIr 0 800), none, none, none] W _ W (yCpl K)
  refine ss_par (Ra := yPt K 8000) (Rb := yPt K 8000) (ea_cons (ee_pt z0 z0 ⟨by decide, by decide⟩ ⟨by decide, by decide⟩) (ea_cons (ee_pt (ee_var rfl) (ee_var rfl) ⟨by decide, by decide⟩ ⟨by decide, by decide⟩) ea_nil)) ?_
  show SS _ [some (yAt b), some (yI s), some (yIr (-100) 100), some (yIr (-100) 100), some (yIr 0 800), some (yPt K 8000), some (yPt K 8000), none] W _ W (yCpl K)
  refine ss_asg (R := yPt K 1600) (ee_ifU (eu_test (ee_op (ee_tup (ea_cons (ee_var rfl) (ea_cons (ee_var rfl) ea_nil)) (lle rfl)) (ee_tup (ea_cons (ee_var rfl) (ea_cons (ee_var rfl) ea_nil)) (lle rfl)) (or_neP (i := s) (j := s) (e := 0) (f := 0)))) (ee_pt (ee_un (ee_var rfl) or_neg) (ee_un (ee_var rfl) or_neg) ⟨by decide, by decide⟩ ⟨by decide, by decide⟩) (ee_pt z0 (ee_op (ee_un ee_i ut_neg) (ee_var rfl) (or_negc (c := 2) ⟨by decide, by decide⟩)) ⟨by decide, by decide⟩ ⟨by decide, by decide⟩)) ?_
  show SS _ [some (yAt b), some (yI s), some (yIr (-100) 100), some (yIr (-100) 100), some (yIr 0 800), some (yPt K 8000), some (yPt K 8000), some (yPt K 1600)] W _ W (yCpl K)
  exact ss_ret (ee_tup (Rs := List.replicate 2 (yLeg K)) (ea_cons (ee_tup (ea_cons (ee_var rfl) (ea_cons (EE.sub (ee_var rfl) (pt_le (by decide))) ea_nil)) (lle rfl)) (ea_cons (ee_tup (ea_cons (ee_var rfl) (ea_cons (ee_pt (m := 8000) (ee_op (ee_op (ee_var rfl) ee_i (ot_ptI (.inl rfl))) (ee_var rfl) or_sub) (ee_op (ee_op (ee_var rfl) ee_i (ot_ptI (.inr rfl))) (ee_var rfl) or_add) ⟨by decide, by decide⟩ ⟨by decide, by decide⟩) ea_nil)) (lle rfl)) ea_nil)) (lle rfl)) (Wd.le.refl _)
theorem d__law_do_cross (R : Raw K mg "_law_do_cross" LH.s__law_do_cross) : Def P w K mg base 1 "_law_do_cross" ["_law_leg", "_law_other"] (sp__law_do_cross K) := by
  refine def_mk R sc__law_do_cross (fun _ _ _ _ _ _ us hl => match us, hl with | [_, _], _ => rfl) (fun _ => rfl) fun f cdv A outer s H E hr => ⟨_, (pss_cons (ps_asg (pe_tup (pa_cons (pv 0) (pa_cons (pv 1) pa_nil))) (pg_tup rfl (pgs_cons (pg_tup rfl (pgs_cons (pg_name (i := 2) sc__law_do_cross.nd rfl (.inl rfl)) (pgs_cons (pg_name (i := 3) sc__law_do_cross.nd rfl (.inl rfl)) pgs_nil))) (pgs_cons (pg_tup rfl (pgs_cons (pg_name (i := 4) sc__law_do_cross.nd rfl (.inl rfl)) (pgs_cons (pg_name (i := 5) sc__law_do_cross.nd rfl (.inl rfl)) pgs_nil))) pgs_nil))))
      (pss_one (ps_ret (pe_cmpR op_lt (pe_op op_add (pe_op op_mul (pe_op op_sub (pe_ix ix_tup (pv 4) pe_int (fun _ _ => rfl)) (pe_ix ix_tup (pv 2) pe_int (fun _ _ => rfl))) (pe_op op_sub (pe_ix ix_tup (pv 5) pe_int (fun _ _ => rfl)) (pe_ix ix_tup (pv 3) pe_int (fun _ _ => rfl)))) (pe_op op_mul (pe_op op_sub (pe_ix ix_tup (pv 4) pe_int (fun _ _ => rfl)) (pe_ix ix_tup (pv 2) pe_int (fun _ _ => rfl))) (pe_op op_sub (pe_ix ix_tup (pv 5) pe_int (fun _ _ => rfl)) (pe_ix ix_tup (pv 3) pe_int (fun _ _ => rfl))))) pe_int (nomark _))))), fun _ _ W => ?_⟩
  refine ss_set (ee_tup (ea_cons (ee_var rfl) (ea_cons (ee_var rfl) ea_nil)) (lle rfl)) (gt_tup (gts_cons (gt_tup (gts_cons gt_name (gts_cons gt_name gts_nil)) rfl) (gts_cons (gt_tup (gts_cons gt_name (gts_cons gt_name gts_nil)) rfl) gts_nil)) rfl) ?_
  exact ss_ret (ee_op (ee_op (ee_op (ee_op (ee_op (ee_var rfl) ee_i (ot_ixT rfl)) (ee_op (ee_var rfl) ee_i (ot_ixT rfl)) or_sub) (ee_op (ee_op (ee_var rfl) ee_i (ot_ixT rfl)) (ee_op (ee_var rfl) ee_i (ot_ixT rfl)) or_sub) (or_amul ⟨by decide, by decide⟩)) (ee_op (ee_op (ee_op (ee_var rfl) ee_i (ot_ixT rfl)) (ee_op (ee_var rfl) ee_i (ot_ixT rfl)) or_sub) (ee_op (ee_op (ee_var rfl) ee_i (ot_ixT rfl)) (ee_op (ee_var rfl) ee_i (ot_ixT rfl)) or_sub) (or_amul ⟨by decide, by decide⟩)) or_aadd) ee_i or_acmp) (Wd.le.refl _)
end
end LT
end
section
set_option Elab.async false
set_option linter.all false
set_option maxRecDepth 100000
set_option maxHeartbeats 1000000
set_option exponentiation.threshold 20000
namespace LT
open PySem PySem.Spec PyProof.Rows L2 LL
abbrev N__law_spaced : List Str := ["_law_bag_here", "_law_spacing", "_law_many", "_law_found", "_law_turn", "_law_base", "_law_offset", "_law_column", "_law_one"]
theorem sc__law_spaced : FnScope N__law_spaced ["_law_bag_here", "_law_spacing", "_law_many"] (defScope LH.s__law_spaced) := ⟨rfl, rfl, rfl, by decide +kernel, rfl, by decide +kernel, by decide +kernel⟩
abbrev N__law_uncrossed : List Str := ["_law_legs_here", "_law_found", "_law_pair", "_law_turn", "_law_i", "_law_j"]
theorem sc__law_uncrossed : FnScope N__law_uncrossed ["_law_legs_here"] (defScope LH.s__law_uncrossed) := ⟨rfl, rfl, rfl, by decide +kernel, rfl, by decide +kernel, by decide +kernel⟩
def rmX (G : Hp) (l : Addr) : Hp := fun a => if a = l then none else G a
theorem rmX_self {G : Hp} {l : Addr} : rmX G l l = none := if_pos rfl
theorem rmX_ne {G : Hp} {l a : Addr} (h : a ≠ l) : rmX G l a = G a := if_neg h
/-- a type that looks at no list -/
def NoK (R : Ty) : Prop := ∀ v G l ys, G l = some (.lst ys) → R.r v G → R.r v (rmX G l)
theorem noK_V {x : V} : NoK (yV x) := fun _ _ _ _ _ h => h
theorem noK_E {α : Type} {F : α → Ty} (h : ∀ a, NoK (F a)) : NoK (yE F) := fun v G l ys hl ⟨a, r⟩ => ⟨a, h a v G l ys hl r⟩
theorem noK_W {p : Prop} {R : Ty} (h : NoK R) : NoK (yW p R) := fun v G l ys hl ⟨a, r⟩ => ⟨a, h v G l ys hl r⟩
def NoKs : List Ty → Prop
  | [] => True
  | R :: Rs => NoK R ∧ NoKs Rs
theorem noKs_all : ∀ {Rs : List Ty} {xs : List V} {G : Hp} {l : Addr} {ys : List V}, NoKs Rs → G l = some (.lst ys) → AllR Rs xs G → AllR Rs xs (rmX G l)
  | [], [], _, _, _, _, _, _ => trivial
  | R :: Rs, x :: xs, G, l, ys, n, h, a => ⟨n.1 _ _ _ _ h a.1, noKs_all n.2 h a.2⟩
  | [], _ :: _, _, _, _, _, _, a => a.elim
  | _ :: _, [], _, _, _, _, _, a => a.elim
theorem noK_T {K : PySem.W.Frag} {Rs : List Ty} (h : NoKs Rs) : NoK (yT K Rs) := fun v G l ys hl ⟨p, xs, e, hp, a⟩ => by
  refine ⟨p, xs, e, ?_, noKs_all h hl a⟩
  rcases hp with (k | ⟨o, k⟩) | k
  · exact .inl (.inl ((rmX_ne (fun z => by rw [z, hl] at k; cases k)).trans k))
  · exact .inl (.inr ⟨o, (rmX_ne (fun z => by rw [z, hl] at k; cases k)).trans k⟩)
  · exact .inr k
theorem noK_ir {a b : Int} : NoK (yIr a b) := noK_E fun _ => noK_W noK_V
theorem noK_U : NoK yU := noK_E fun _ => noK_V
theorem noK_pt {K : PySem.W.Frag} {m : Int} : NoK (yPt K m) := noK_T ⟨noK_ir, noK_ir, trivial⟩
theorem noK_leg {K : PySem.W.Frag} : NoK (yLeg K) := noK_T ⟨noK_pt, noK_pt, trivial⟩
theorem noKs_rep {R : Ty} (h : NoK R) : ∀ n, NoKs (List.replicate n R)
  | 0 => trivial
  | n + 1 => ⟨h, noKs_rep h n⟩
/-- a world that may forget a list of one's own -/
def Shr (W : Wd) : Prop := ∀ G H l ys, W.r G H → W.ign l → H l = some (.lst ys) → (∃ y ∈ ys, ∀ i, y ≠ V.int i) → W.r (rmX G l) H
theorem shr_wP {G0 H0 : Hp} (s0 : Same G0 H0) : Shr (wP G0 H0) := fun G H l ys w ig hl _ => by
  have w : GS G0 H0 G H := w
  have ig : H0 l = none := ig
  exact ⟨fun b x e => by
    rw [rmX_ne (fun z => by rw [z] at e; rw [s0 _ _ e] at ig; cases ig)]
    exact w.g b x e, w.h, fun b x e => by
    by_cases hb : b = l
    · rw [hb, rmX_self] at e
      cases e
    · rw [rmX_ne hb] at e
      exact w.sub b x e, fun a h1 h2 => by
    by_cases hb : a = l
    · rw [hb]
      exact rmX_self
    · rw [rmX_ne hb]
      exact w.fr a h1 h2⟩
theorem shr_wB {b : Addr} {G0 H0 : Hp} (s0 : Same G0 H0) (k0 : BagOk b G0 H0) : Shr (wB b G0 H0 k0) := fun G H l ys w ig hl ⟨y, hy, hi⟩ => by
  have w : BS b G0 H0 G H := w
  have ig : H0 l = none := ig
  refine ⟨fun b x e => by
    rw [rmX_ne (fun z => by rw [z] at e; rw [s0 _ _ e] at ig; cases ig)]
    exact w.g b x e, w.h, fun b x e => by
    by_cases hb : b = l
    · rw [hb, rmX_self] at e
      cases e
    · rw [rmX_ne hb] at e
      exact w.sub b x e, fun a h1 h2 => by
    by_cases hb : a = l
    · rw [hb]
      exact rmX_self
    · rw [rmX_ne hb]
      exact w.fr a h1 h2, ?_⟩
  obtain ⟨v0, v1, v2, p, xs, h1, h2, h3, h4, h5, h6⟩ := w.ok
  refine ⟨v0, v1, v2, p, xs, h1, h2, h3, h4, ?_, h6⟩
  rw [rmX_ne (fun z => ?_)]
  · exact h5
  · have e := w.sub _ _ h5
    rw [z, hl] at e
    have e2 : ys = xs.map V.int := by injection (Option.some.inj e)
    rw [e2] at hy
    obtain ⟨i, _, hi2⟩ := List.mem_map.mp hy
    exact hi i hi2.symm
section
variable {Γ Γ' : Tys} {W W0 : Wd} {R S : Ty} {Rs : List Ty} {ta tb te : TE} {K : PySem.W.Frag} {b l : Addr} {N : Nx} {u : TS} {tt : TT}
theorem fr_own {G H : Hp} (s : Same G H) {ys : List V} (gl : G l = none) (hl : H l = some (.lst ys)) : Same G (upd G l (.lst ys)) ∧ Same (upd G l (.lst ys)) H := ⟨same_new gl, fun b' x e => by
  by_cases hb : b' = l
  · subst hb
    rw [upd_same] at e
    rw [hl]
    exact e
  · rw [upd_ne hb] at e
    exact s b' x e⟩
/-- looking at a list of one's own, as at one that stays -/
theorem ee_borrow {i : Nat} (sh : Shr W) (hi : Γ[i]? = some (some (yAt l))) (hR : NoK R) (hx : ∀ xs G, AllR Rs xs G → ∃ y ∈ xs, ∀ i, y ≠ V.int i) (h : EE te (Γ.set i (some (yL Rs))) W R) : EE te Γ (wM W l Rs) R := fun σ G H o s w Q q => by
  obtain ⟨w1, ig, gl, xs, hl, al⟩ := w
  obtain ⟨s1, s2⟩ := fr_own s gl hl
  obtain ⟨v0, e0, rv⟩ := o.get hi
  refine h σ _ H ((o.mono s1).rep i ⟨v0, e0, l, xs, rv, upd_same, al.mono s1⟩) s2 (W.grow _ _ _ _ w1 ig hl gl) _ fun v G2 H2 g2 t2 w2 r2 => ?_
  have el : G2 l = some (.lst xs) := g2 _ _ upd_same
  have sg : Same G (rmX G2 l) := fun b' x e => by
    rw [rmX_ne (fun z => by rw [z, gl] at e; cases e)]
    exact g2 _ _ (s1 _ _ e)
  exact q v (rmX G2 l) H2 sg (fun b' x e => by
    by_cases hb : b' = l
    · rw [hb, rmX_self] at e
      cases e
    · rw [rmX_ne hb] at e
      exact t2 b' x e) ⟨sh _ _ _ _ w2 ig (t2 _ _ el) (hx xs G al), ig, rmX_self, xs, t2 _ _ el, al.mono sg⟩ (hR _ _ _ _ el r2)
theorem some_ref {n : Nat} {Rs' : List Ty} (hn : 1 ≤ n) : ∀ xs G, AllR (List.replicate n (yT K Rs')) xs G → ∃ y ∈ xs, ∀ i, y ≠ V.int i := fun xs G al => by
  cases n with
  | zero => omega
  | succ n =>
    cases xs with
    | nil => exact al.elim
    | cons x xs =>
      obtain ⟨p, _, e, _⟩ := al.1
      exact ⟨x, by simp, fun i z => by rw [e] at z; cases z⟩
/-- what stands in a list of one's own, seen wider -/
theorem ss_widen {Rs Ss : List Ty} (h : Sub2 Rs Ss) (k : SS u Γ (wM W l Ss) N W0 S) : SS u Γ (wM W l Rs) N W0 S := fun σ G H o s ⟨w1, ig, gl, xs, hl, al⟩ => k σ G H o s ⟨w1, ig, gl, xs, hl, al.sub h⟩
theorem sub2_app : ∀ {As Bs Cs Ds : List Ty}, Sub2 As Bs → Sub2 Cs Ds → Sub2 (As ++ Cs) (Bs ++ Ds)
  | _, _, _, _, .nil, k => k
  | _, _, _, _, .cons h t, k => .cons h (sub2_app t k)
theorem sub2_rep {R S : Ty} (h : R.le S) : ∀ n, Sub2 (List.replicate n R) (List.replicate n S)
  | 0 => .nil
  | n + 1 => .cons h (sub2_rep h n)
end
theorem def_mkB2 {P : Program} {w : World} {K : PySem.W.Frag} {mg : Str → Option Value} {base : Heap} {γ : Type} {args : γ → List Ty} {pre : γ → Prop} {out : γ → Ty} {x : Str} {st : Stmt} {N ps : List Str} {k : Nat} (R : Raw K mg x st) (S : FnScope N ps (defScope st))
    (hb : ∀ (kV doc pm : Value) (an : Option Addr) (cdv ct : Value) (us : List Value), us.length = ps.length → bindArgs (PySem.W.fnOf x x (defArgs st) (defBody st) (defScope st) .none kV doc pm an cdv ct) ⟨us, []⟩ = pure (ps.zip us))
    (hl : ∀ g, (args g).length + 1 = ps.length)
    (hbody : ∀ (f : Addr) (cdv : Value) (A : Around) (outer : List Env) (s : Shared) (H : Hp) (E : XK), Room k (A.deeper (envOfC x (defScope st) s.heap.objs.size f cdv)) →
      ∃ t, PSs (cxOf CX0 P w K mg base N x (defScope st) f cdv A outer s H E).nox (defBody st) t ∧ ∀ g, pre g → ∀ (b : Addr) (W : Wd), IsBag b W → Shr W → SS t (g0 N (yAt b :: args g)) W (fun _ G H => W.r G H ∧ (out g).r .non G) W (out g)) :
    Def P w K mg base (k + 1) x ps (spB args pre out) := by
  refine def_raw R S hb (fun vs H Q E ⟨g, G, b, _, _, _, _, a, _⟩ => a.len.trans (hl g)) fun f cdv A outer s H vs Q E hr ⟨g, G, b, hp, hs, gb, hk, ha, q⟩ => ?_
  obtain ⟨t, h1, h2⟩ := hbody f cdv A outer s H E hr
  refine ⟨t, h1, h2 g hp b (wB b G H hk) (isBag_wB hk gb) (shr_wB hs hk) _ G H ?_ hs ((GS.refl hs).bs hk) _ (fun σ' G2 H2 _ s2 n => q _ _ _ n.1 n.2) (fun v G2 H2 _ s2 w2 r2 => q v G2 H2 w2 r2)⟩
  unfold L2.start g0
  rw [ha.len]
  exact okS_start _ ha
theorem def_mk2 {P : Program} {w : World} {K : PySem.W.Frag} {mg : Str → Option Value} {base : Heap} {γ : Type} {args : γ → List Ty} {pre : γ → Prop} {out : γ → Ty} {x : Str} {st : Stmt} {N ps : List Str} {k : Nat} (R : Raw K mg x st) (S : FnScope N ps (defScope st))
    (hb : ∀ (kV doc pm : Value) (an : Option Addr) (cdv ct : Value) (us : List Value), us.length = ps.length → bindArgs (PySem.W.fnOf x x (defArgs st) (defBody st) (defScope st) .none kV doc pm an cdv ct) ⟨us, []⟩ = pure (ps.zip us))
    (hl : ∀ g, (args g).length = ps.length)
    (hbody : ∀ (f : Addr) (cdv : Value) (A : Around) (outer : List Env) (s : Shared) (H : Hp) (E : XK), Room k (A.deeper (envOfC x (defScope st) s.heap.objs.size f cdv)) →
      ∃ t, PSs (cxOf CX0 P w K mg base N x (defScope st) f cdv A outer s H E).nox (defBody st) t ∧ ∀ g, pre g → ∀ W : Wd, Shr W → SS t (g0 N (args g)) W (fun _ G H => W.r G H ∧ (out g).r .non G) W (out g)) :
    Def P w K mg base (k + 1) x ps (spF args pre out) := by
  refine def_raw R S hb (fun vs H Q E ⟨g, G, _, _, a, _⟩ => a.len.trans (hl g)) fun f cdv A outer s H vs Q E hr ⟨g, G, hp, hs, ha, q⟩ => ?_
  obtain ⟨t, h1, h2⟩ := hbody f cdv A outer s H E hr
  refine ⟨t, h1, h2 g hp (wP G H) (shr_wP hs) _ G H ?_ hs (GS.refl hs) _ (fun σ' G2 H2 _ s2 n => q _ _ _ n.1 n.2) (fun v G2 H2 _ s2 w2 r2 => q v G2 H2 w2 r2)⟩
  unfold L2.start g0
  rw [ha.len]
  exact okS_start _ ha
/-! ### a comprehension with an unknown test; == of such lists -/
theorem eu_B {te : TE} {Γ : Tys} {W : Wd} (h : EE te Γ W yU) : EU (L2.tB te) Γ W := fun σ G H o s w Q q => h σ G H o s w _ fun v G1 H1 g1 s1 w1 ⟨b, r1⟩ => ⟨b, r1, q b G1 H1 g1 s1 w1⟩
theorem eu_of {tt : TT} {Γ : Tys} {W : Wd} {b : Bool} (h : ET tt Γ W b) : EU tt Γ W := fun σ G H o s w Q q => h σ G H o s w _ fun G2 H2 a c d => q b G2 H2 a c d
theorem ee_lcU {Γ : Tys} {W : Wd} {R : Ty} {g : TG} {te : TE} {js : List Nat} {n : Nat} {Y : Nat → Ty} {wi : TI} {tt : TT} {vs : List Nat} (Γb : Nat → Tys) (hI : EI wi Γ W n Y) (hn : n ≤ 100000) (hg : ∀ i, i < n → GT g (Y i) (wipeT Γ vs) (Γb i) js) (hj : ∀ j ∈ js, j ∈ vs)
    (ht : ∀ i W', i < n → EU tt (Γb i) W') (he : ∀ i W', i < n → EE te (Γb i) W' R) : EE (tLc wi g tt te vs) Γ W (yE fun k : Nat => yW (k ≤ n) (yL (List.replicate k R))) := fun σ G H o s w Q q =>
  hI σ G H o s w _ fun J G1 H1 g1 s1 w1 wk D hD => by
    have gs0 := GS.hid (o := .lst []) s1 hD
    refine ⟨fun i m H => m = n - i ∧ i ≤ n ∧ ∃ G k, k ≤ i ∧ Same G1 G ∧ Same G H ∧ (wM W D (List.replicate k R)).r G H, ⟨n, rfl, Nat.zero_le _, G1, 0, Nat.le_refl _, Same.refl _, gs0.sub, W.pure _ _ _ _ s1 w1 gs0, W.fresh _ _ _ w1 hD, s1.free hD, [], upd_same, trivial⟩, ?_⟩
    rintro i m H2 ⟨rfl, hi, G2, k, hk, e1, e2, w2⟩
    by_cases hlt : i < n
    · refine .inr ⟨wk.go i G2 H2 hlt e1 e2, fun H => ∃ G k, k ≤ i + 1 ∧ Same G1 G ∧ Same G H ∧ (wM W D (List.replicate k R)).r G H, fun H' ⟨G', k', hk', e1', e2', w'⟩ => ⟨n - (i + 1), by omega, rfl, hlt, G', k', hk', e1', e2', w'⟩, fun x H' y => ?_⟩
      obtain ⟨G3, gs, rx⟩ := wk.yld i G2 H2 x H' hlt e1 e2 y
      have w3 := (wM W D (List.replicate k R)).pure _ _ _ _ e2 w2 gs
      refine hg i hlt x (L2.wipe σ vs) G3 H' rx gs.sub ((o.wipe vs).mono ((g1.trans e1).trans gs.g)) _ fun σ3 o3 l3 f3 => ⟨wipe_eq l3 hj f3, ?_⟩
      refine ht i _ hlt σ3 G3 H' o3 gs.sub w3 _ fun b G4 H4 g4 s4 w4 => ?_
      cases b with
      | true =>
        refine he i _ hlt σ3 G4 H4 (o3.mono g4) s4 w4 _ fun y G5 H5 g5 s5 w5 r5 => ?_
        obtain ⟨acc, hl, al⟩ := w5.2.2.2
        refine ⟨acc, hl, ?_, G5, k + 1, by omega, ((e1.trans gs.g).trans g4).trans g5, upd_sub s5 w5.2.2.1, ?_⟩
        · rw [al.len, List.length_replicate]
          exact Nat.lt_of_le_of_lt hk (Nat.lt_of_lt_of_le hlt (szl hn))
        · rw [List.replicate_succ']
          exact wM_put w5 (al.app (Ss := [R]) (ys := [y]) ⟨r5, trivial⟩)
      | false => exact ⟨G4, k, by omega, (e1.trans gs.g).trans g4, s4, w4⟩
    · have e : i = n := by omega
      subst e
      refine .inl ⟨wk.stop G2 H2 e1 e2, ?_⟩
      obtain ⟨w2, ig, gl, xs, hl, al⟩ := w2
      obtain ⟨sg, sh⟩ := fr_own e2 gl hl
      exact q (.ref D) _ H2 ((g1.trans e1).trans sg) sh (W.grow _ _ _ _ w2 ig hl gl) ⟨k, hk, D, xs, rfl, upd_same, al.mono sg⟩
theorem pts_data {K : PySem.W.Frag} {m : Int} {G : Hp} : ∀ {k : Nat} {xs : List V}, AllR (List.replicate k (yPt K m)) xs G → ∃ ds, DpAll K G xs ds ∧ PyData.canLayAll0 ds = true ∧ PyData.depthAll ds ≤ 10
  | 0, [], _ => ⟨[], .nil, rfl, Nat.zero_le _⟩
  | k + 1, x :: xs, ⟨⟨p, ys, e, hp, al⟩, a⟩ => by
    obtain ⟨ds, h1, h2, h3⟩ := pts_data (k := k) (xs := xs) a
    obtain ⟨v, u, rfl, ⟨i, _, hv⟩, ⟨j, _, hu⟩⟩ := al.two
    have hv : v = .int i := hv
    have hu : u = .int j := hu
    subst hv hu e
    refine ⟨.tuple [.int i, .int j] :: ds, .cons (.tup hp (.cons (.int i) (.cons (.int j) .nil))) h1, ?_, ?_⟩
    · simp [PyData.canLayAll0, PyData.canLay0, h2]
    · simp only [PyData.depthAll, PyData.depth]
      omega
  | 0, _ :: _, a => a.elim
  | _ + 1, [], a => a.elim
theorem or_nil {K : PySem.W.Frag} {m : Int} {n : Nat} : OT (rEqD K) (yE fun k : Nat => yW (k ≤ n) (yL (List.replicate k (yPt K m)))) (yL []) yU := fun x y G H s ⟨k, _, p, xs, e, hp, al⟩ ⟨p2, ys, e2, hp2, al2⟩ Q q => by
  subst e e2
  obtain ⟨ds, h1, h2, h3⟩ := pts_data al
  cases ys with
  | cons _ _ => exact al2.elim
  | nil =>
    refine ⟨.list ds, .list [], dp_mono s (.lst (.inl (.inl hp)) h1), dp_mono s (.lst (.inl (.inl hp2)) .nil), ?_, rfl, q _ G H (GS.refl s) ⟨_, rfl⟩⟩
    show (PyData.canLayAll0 ds && decide (PyData.depth (.list ds) ≤ 64)) = true
    rw [h2, Bool.true_and, decide_eq_true_eq]
    simp only [PyData.depth]
    omega
/-! ### spaced -/
abbrev ySp (K : PySem.W.Frag) : Ty := yE fun n : Nat => yW (1 ≤ n ∧ n ≤ 5) (yL (List.replicate n (yPt K 3000)))
def sp__law_spaced (K : PySem.W.Frag) : Sp := spB (fun g : Int × Int => [yI g.1, yI g.2]) (fun g => SpOk g.1 ∧ 1 ≤ g.2 ∧ g.2 ≤ 5) (fun _ => ySp K)
theorem ee__law_spaced {Γ : Tys} {W : Wd} {ta tb tc : TE} {K : PySem.W.Frag} {b : Addr} {s m : Int} (B : IsBag b W) (ha : EE ta Γ W (yAt b)) (hb : EE tb Γ W (yI s)) (hc : EE tc Γ W (yI m)) (hp : SpOk s ∧ 1 ≤ m ∧ m ≤ 5) : EE (tCall (sp__law_spaced K) [] E0 (tCons ta (tCons tb (tCons tc tNil)))) Γ W (ySp K) := ee_callB B (s, m) (ea_cons ha (ea_cons hb (ea_cons hc ea_nil))) hp
section
variable {P : Program} {w : World} {K : PySem.W.Frag} {mg : Str → Option Value} {base : Heap} {cN cO cA cW : Addr}
theorem d__law_spaced (B : Blt K mg cN cO cA cW) (R : Raw K mg "_law_spaced" LH.s__law_spaced) (D__law_some : Def P w K mg base 2 "_law_some" ["_law_bag_here", "_law_things"] (sp__law_some K)) (D__law_take : Def P w K mg base 1 "_law_take" ["_law_bag_here", "_law_many"] (sp__law_take K)) (D__law_offsets : Def P w K mg base 2 "_law_offsets" ["_law_spacing"] (sp__law_offsets K)) (D__law_squared : Def P w K mg base 1 "_law_squared" ["_law_one", "_law_other"] (sp__law_squared K)) : Def P w K mg base 3 "_law_spaced" ["_law_bag_here", "_law_spacing", "_law_many"] (sp__law_spaced K) := by
  refine def_mkB2 R sc__law_spaced (fun _ _ _ _ _ _ us hl => match us, hl with | [_, _, _], _ => rfl) (fun _ => rfl) fun f cdv A outer s H E hr => ⟨_, (pss_cons (ps_set (i := 3) sc__law_spaced.nd rfl (.inl rfl) (pe_lst (pa_cons (pe_tup (pa_cons (pe_op op_sub (pe_cd D__law_take hr (by decide) (pa_cons (pv 0) (pa_cons (pe_op op_add (pe_op op_mul pe_int (pv 1)) pe_int) pa_nil))) (pv 1)) (pa_cons (pe_op op_sub (pe_cd D__law_take hr (by decide) (pa_cons (pv 0) (pa_cons (pe_op op_add (pe_op op_mul pe_int (pv 1)) pe_int) pa_nil))) (pv 1)) pa_nil))) pa_nil)))
      (pss_cons (ps_for PassesOwn.never rfl (pi_range1 (by rfl) B.range (pa_cons (pe_op op_mul pe_int (pv 2)) pa_nil)) (pg_name (i := 4) sc__law_spaced.nd rfl (.inl rfl))
      (pss_cons (ps_par (i := 5) (j := 6) rfl sc__law_spaced.nd rfl rfl (by decide) rfl rfl (pa_cons (pe_cd D__law_some hr (by decide) (pa_cons (pv 0) (pa_cons (pv 3) pa_nil))) (pa_cons (pe_cd D__law_some hr (by decide) (pa_cons (pv 0) (pa_cons (pe_cd D__law_offsets hr (by decide) (pa_cons (pv 1) pa_nil)) pa_nil))) pa_nil)) (by rfl))
      (pss_cons (ps_set (i := 7) sc__law_spaced.nd rfl (.inr rfl) (pe_tup (pa_cons (pe_op op_add (pe_ix ix_tup (pv 5) pe_int (fun _ _ => rfl)) (pe_ix ix_tup (pv 6) pe_int (fun _ _ => rfl))) (pa_cons (pe_op op_add (pe_ix ix_tup (pv 5) pe_int (fun _ _ => rfl)) (pe_ix ix_tup (pv 6) pe_int (fun _ _ => rfl))) pa_nil))))
      (pss_one (ps_if (PW.pt (pw_and (pt_cmpR op_lt (pe_callB call_len_seq rfl B.len (by decide +kernel) (pa_cons (pv 3) pa_nil)) (pv 2) (nomark _)) (pw_and1 (pt_cmpR (op_eqD hr.units) (pe_lc (own := [("_law_one", 8)]) (g := gName 8) (tt := (tTest (tOp (rI0 fun i j => .bl (decide (i < j))) (tCall (sp__law_squared K) [] E0 (tCons (tVar 8) (tCons (tVar 7) tNil))) (tOp (rI CMul fun i j => .int (i * j)) (tVar 1) (tVar 1))))) (te := (tVar 8)) rfl sc__law_spaced.nd (pi_list (pv 3)) (blkOk_by (N := N__law_spaced) (sc := defScope LH.s__law_spaced) (by decide +kernel)) (fun _ _ _ _ _ => (pg_name (i := 8) sc__law_spaced.nd rfl (.inl rfl))) (fun _ _ _ _ _ => (pts_one (pt_cmpR op_lt (pe_cd D__law_squared hr (by decide) (pa_cons (pv 8) (pa_cons (pv 7) pa_nil))) (pe_op op_mul (pv 1) (pv 1)) (nomark _)))) (fun _ _ _ _ _ => (pv 8))) (pe_lst pa_nil) (nomark _))))) (pss_one (ps_expr (pe_bm PySem.F.plainAttrs_list PySem.F.slot_list_append PySem.F.type_list_append mt_append (pv 3) (pa_cons (pv 7) pa_nil)))) pss_nil)))))
      (pss_one (ps_ret (pv 3))))), fun ⟨s, m⟩ ⟨hs, hm⟩ b W BG SH => ?_⟩
  have hs1 : 1 ≤ s := hs.1
  have hs2 : s ≤ 100 := hs.2
  have hm1 : 1 ≤ m := hm.1
  have hm2 : m ≤ 5 := hm.2
  show SS _ [some (yAt b), some (yI s), some (yI m), none, none, none, none, none, none] W _ W (ySp K)
  have tk : EE (tOp (rI0 fun i j => .int (i - j)) (tCall (sp__law_take K) [] E0 (tCons (tVar 0) (tCons (tOp (rI0 fun i j => .int (i + j)) (tOp (rI CMul fun i j => .int (i * j)) (tC (.int 2)) (tVar 1)) (tC (.int 1))) tNil))) (tVar 1)) [some (yAt b), some (yI s), some (yI m), none, none, none, none, none, none] W (yIr (-400) 400) := EE.wid (ee_op (ee__law_take BG (ee_var rfl) (ee_op (ee_op ee_i (ee_var rfl) (ot_mul (c2 (by decide)))) ee_i ot_add) ⟨by omega, by omega⟩) (EE.sub (ee_var rfl) ir_self) or_sub) ⟨by omega, by omega⟩
  refine ss_newL (i := 3) (Rs := [yPt K 400]) (ea_cons (ee_pt tk tk ⟨by decide, by decide⟩ ⟨by decide, by decide⟩) ea_nil) (lle rfl) fun l hl => ?_
  clear tk
  show SS _ [some (yAt b), some (yI s), some (yI m), some (yAt l), none, none, none, none, none] (wM W l (List.replicate 1 (yPt K (400 * ((1 : Nat) : Int))))) _ W (ySp K)
  refine ss_for (α := Nat) (n := (4 * m).toNat) (ei_rng1 (n := 4 * m) (ea_cons (ee_op ee_i (ee_var rfl) (ot_mul (c2 (by decide)))) ea_nil) (by omega) (by omega)) (fun i n => 1 ≤ n ∧ n ≤ 5) (fun n => [some (yAt b), some (yI s), some (yI m), some (yAt l), none, none, none, none, none]) (fun n => wM W l (List.replicate n (yPt K (400 * (n : Int))))) (fun i n => [some (yAt b), some (yI s), some (yI m), some (yAt l), some (yI (i : Int)), none, none, none, none]) 1 ⟨by decide, by decide⟩ (fun σ G H o w => ⟨o, w⟩) (fun i n hi hp => gt_name) (fun i n hi hp => ?_) (fun n hp => ?_)
  · have BM := isBag_wM (l := l) (Rs := List.replicate n (yPt K (400 * (n : Int)))) BG
    refine ss_par (Ra := yPt K (400 * (n : Int))) (Rb := yPt K 400) (ea_cons (ee_borrow (i := 3) SH rfl noK_pt (some_ref hp.1) (ee_someN (n := n) BG (ee_var rfl) (ee_var rfl) ⟨hp.1, by omega⟩)) (ea_cons (ee_someE (m := 30) (by decide) BM (ee_var rfl) (ee__law_offsets (ee_var rfl) hs)) ea_nil)) ?_
    refine ss_asg (R := yPt K (400 * (n : Int) + 400)) (ee_pt (ee_op (ee_op (ee_var rfl) ee_i (ot_ptI (.inl rfl))) (ee_op (ee_var rfl) ee_i (ot_ptI (.inl rfl))) or_add) (ee_op (ee_op (ee_var rfl) ee_i (ot_ptI (.inr rfl))) (ee_op (ee_var rfl) ee_i (ot_ptI (.inr rfl))) or_add) ⟨by omega, by omega⟩ ⟨by omega, by omega⟩) ?_
    show SS _ [some (yAt b), some (yI s), some (yI m), some (yAt l), some (yI (i : Int)), some (yPt K (400 * (n : Int))), some (yPt K 400), some (yPt K (400 * (n : Int) + 400)), none] (wM W l (List.replicate n (yPt K (400 * (n : Int))))) _ W (ySp K)
    have hlen : EE (tCB (fun xs H Q => ∃ p ys, xs = [.ref p] ∧ (SqL K H p ys ∨ SqT K H p ys) ∧ Q (.int ys.length) H) (tCons (tVar 3) tNil)) [some (yAt b), some (yI s), some (yI m), some (yAt l), some (yI (i : Int)), some (yPt K (400 * (n : Int))), some (yPt K 400), some (yPt K (400 * (n : Int) + 400)), none] (wM W l (List.replicate n (yPt K (400 * (n : Int))))) (yI (n : Int)) := ee_ieq (len_own (ee_var rfl)) (by rw [List.length_replicate])
    by_cases hnm : (n : Int) < m
    · refine ss_last (ss_ifU (eu_and (eu_of (et_test (ee_op hlen (ee_var rfl) ot_lt))) (eu_test (ee_borrow (i := 3) SH rfl noK_U (some_ref hp.1) (ee_op (ee_lcU (js := [8]) (n := n) (R := yPt K (400 * (n : Int))) (fun _ => [some (yAt b), some (yI s), some (yI m), some (yL (List.replicate n (yPt K (400 * (n : Int))))), some (yI (i : Int)), some (yPt K (400 * (n : Int))), some (yPt K 400), some (yPt K (400 * (n : Int) + 400)), some (yPt K (400 * (n : Int)))]) (ei_rep (ee_var rfl)) (by omega) (fun i hi => gt_name) (by decide)
        (fun i W' hi => eu_test (ee_op (ee__law_squared (EE.sub (ee_var rfl) (pt_le (by omega))) (EE.sub (ee_var rfl) (pt_le (by omega)))) (ee_op (ee_var rfl) (ee_var rfl) (ot_mul (.inl ⟨by omega, by omega⟩))) or_acmp)) (fun i W' hi => ee_var rfl)) (ee_lst ea_nil (lle rfl)) or_nil)))) ?_ ?_)
      · refine ss_append (i := 3) (R := yPt K (400 * (n : Int) + 400)) rfl (ee_var rfl) (by rw [List.length_replicate]; omega) ?_
        refine ss_widen (Ss := List.replicate (n + 1) (yPt K (400 * ((n + 1 : Nat) : Int)))) ?_ (ss_next fun σ G H o s' w => ⟨n + 1, ⟨by omega, by omega⟩, (((o.forget 4).forget 5).forget 6).forget 7, w⟩)
        rw [List.replicate_succ']
        exact sub2_app (sub2_rep (pt_le (by omega)) n) (.cons (pt_le (by omega)) .nil)
      · exact ss_skip (ss_next fun σ G H o s' w => ⟨n, hp, (((o.forget 4).forget 5).forget 6).forget 7, w⟩)
    · refine ss_last (ss_if (b := false) (et_and (a := false) (b := false) (et_is (et_test (ee_op hlen (ee_var rfl) ot_lt)) (decide_eq_false hnm)) (fun z => nomatch z)) (fun z => nomatch z) (fun _ => ?_))
      exact ss_skip (ss_next fun σ G H o s' w => ⟨n, hp, (((o.forget 4).forget 5).forget 6).forget 7, w⟩)
  · refine ss_freeze (i := 3) rfl (ss_ret (EE.sub (ee_var rfl) fun v H hv => ⟨n, hp, yL_le (sub2_rep (pt_le (by omega)) n) v H hv⟩) (Wd.le.refl _))
end
end LT
end
section
set_option Elab.async false
set_option linter.all false
set_option maxRecDepth 100000
set_option maxHeartbeats 1000000
set_option exponentiation.threshold 20000
namespace LT
open PySem PySem.Spec PyProof.Rows L2 LL
abbrev prT (K : PySem.W.Frag) : Option (Int × Int) → Ty
  | none => yN
  | some p => yT K [yI p.1, yI p.2]
def PrOk (n : Nat) : Option (Int × Int) → Prop
  | none => True
  | some p => (0 ≤ p.1 ∧ p.1 < n) ∧ 0 ≤ p.2 ∧ p.2 < n
abbrev yPr (K : PySem.W.Frag) (n : Nat) : Ty := yE fun o : Option (Int × Int) => yW (PrOk n o) (prT K o)
abbrev seqT (K : PySem.W.Frag) (c : Bool) (n : Nat) (R : Ty) : Ty := if c = true then yL (List.replicate n R) else yT K (List.replicate n R)
def sp__law_first_crossing (K : PySem.W.Frag) : Sp := spF (fun g : Bool × Nat => [seqT K g.1 g.2 (yLeg K)]) (fun g => g.2 ≤ 100) (fun g => yPr K g.2)
abbrev yLgs (K : PySem.W.Frag) (n : Nat) : Ty := yT K (List.replicate n (yLeg K))
def sp__law_uncrossed (K : PySem.W.Frag) : Sp := spF (fun g : Nat => [yLgs K g]) (fun g => 1 ≤ g ∧ g ≤ 100) (fun g => yLgs K g)
theorem noK_pr {K : PySem.W.Frag} {n : Nat} : NoK (yPr K n) := noK_E fun o => noK_W (by
  cases o with
  | none => exact noK_V
  | some p => exact noK_T ⟨noK_V, noK_V, trivial⟩)
section
variable {Γ Γ' : Tys} {W W0 : Wd} {R S : Ty} {Rs : List Ty} {ta tb te : TE} {K : PySem.W.Frag} {b l : Addr} {N : Nx} {u : TS}
theorem ee_fcL {n : Nat} (ha : EE ta Γ W (yL (List.replicate n (yLeg K)))) (h : n ≤ 100) : EE (tCall (sp__law_first_crossing K) [] E0 (tCons ta tNil)) Γ W (yPr K n) := ee_call (true, n) (ea_cons ha ea_nil) h
theorem ee_fcT {n : Nat} (ha : EE ta Γ W (yLgs K n)) (h : n ≤ 100) : EE (tCall (sp__law_first_crossing K) [] E0 (tCons ta tNil)) Γ W (yPr K n) := ee_call (false, n) (ea_cons ha ea_nil) h
theorem ee__law_uncrossed {n : Nat} (ha : EE ta Γ W (yLgs K n)) (h : 1 ≤ n ∧ n ≤ 100) : EE (tCall (sp__law_uncrossed K) [] E0 (tCons ta tNil)) Γ W (yLgs K n) := ee_call n (ea_cons ha ea_nil) h
theorem ct_lenS {c : Bool} {n : Nat} : CT (fun xs H Q => ∃ p ys, xs = [.ref p] ∧ (SqL K H p ys ∨ SqT K H p ys) ∧ Q (.int ys.length) H) [seqT K c n R] (yI (n : Int)) := by
  cases c with
  | true =>
    have h := ct_lenL (K := K) (Rs := List.replicate n R)
    rw [List.length_replicate] at h
    exact h
  | false =>
    have h := ct_lenT (K := K) (Rs := List.replicate n R)
    rw [List.length_replicate] at h
    exact h
theorem ot_ixS {c : Bool} {n : Nat} {i : Int} (h : 0 ≤ i ∧ i < n) : OT (fun x y H Q => rIxL K x y H Q ∨ rIxT K x y H Q) (seqT K c n R) (yI i) R := by
  have e : (List.replicate n R)[i.toNat]? = some R := by rw [List.getElem?_replicate, if_pos (by omega)]
  cases c with
  | true => exact fun x y G H s hx hy Q q => .inl (ot_ixL e h.1 x y G H s hx hy Q q)
  | false => exact fun x y G H s hx hy Q q => .inr (ot_ixT e h.1 x y G H s hx hy Q q)
theorem ot_ixR {n : Nat} {i : Int} (h : 0 ≤ i ∧ i < n) : OT (rIxL K) (yL (List.replicate n R)) (yI i) R := ot_ixL (by rw [List.getElem?_replicate, if_pos (by omega)]) h.1
theorem ss_parL {i j : Nat} (ha : EE ta Γ W (yT K Rs)) (hz : Rs.length ≤ 100000) (hb : ∀ l, EE tb Γ (wM W l Rs) R) (k : ∀ l, W.ign l → SS u ((Γ.set i (some (yAt l))).set j (some R)) (wM W l Rs) N W0 S) :
    SS (tSeq (tPar i j (tCons (tCB (fun xs H Q => ∃ p ys, xs = [.ref p] ∧ (SqL K H p ys ∨ SqT K H p ys) ∧ ∀ l, H l = none → Q (.ref l) (upd H l (.lst ys))) (tCons ta tNil)) (tCons tb tNil))) u) Γ W N W0 S := fun σ G H o s w D n r =>
  ha σ G H o s w _ fun v G1 H1 g1 s1 w1 r1 => by
    obtain ⟨p, xs, rfl, hp, al⟩ := r1
    refine ⟨p, xs, rfl, .inr (same_t s1 hp), fun l hl => ?_⟩
    have gs := GS.hid (o := .lst xs) s1 hl
    have ig := W.fresh _ _ _ w1 hl
    have wm : (wM W l Rs).r G1 (upd H1 l (.lst xs)) := ⟨W.pure _ _ _ _ s1 w1 gs, ig, s1.free hl, xs, upd_same, al⟩
    exact hb l σ G1 _ (o.mono g1) gs.sub wm _ fun v2 G2 H2 g2 s2 w2 r2 => ⟨.ref l, v2, rfl, k l ig _ G2 H2 ((((o.mono (g1.trans g2)).set i rfl)).set j r2) s2 w2 D (fun σ' G3 H3 a => n σ' G3 H3 ((g1.trans g2).trans a)) fun v G3 H3 a => r v G3 H3 ((g1.trans g2).trans a)⟩
theorem all_set {R : Ty} {G : Hp} {v : V} (hv : R.r v G) : ∀ {n : Nat} {xs : List V} (j : Nat), AllR (List.replicate n R) xs G → AllR (List.replicate n R) (xs.set j v) G
  | 0, [], _, a => a
  | n + 1, x :: xs, 0, a => ⟨hv, a.2⟩
  | n + 1, x :: xs, j + 1, a => ⟨a.1, all_set hv j a.2⟩
  | 0, _ :: _, _, a => a.elim
  | _ + 1, [], _, a => a.elim
/-- l[i], l[j] = (.., ..) -/
theorem ss_swap {n : Nat} {a c d : Nat} {i j : Int} (ha : Γ[a]? = some (some (yAt l))) (hc : Γ[c]? = some (some (yI i))) (hd : Γ[d]? = some (some (yI j))) (hi : 0 ≤ i ∧ i < n) (hj : 0 ≤ j ∧ j < n) (he : EE te Γ (wM W l (List.replicate n R)) (yT K [R, R])) (k : SS u Γ (wM W l (List.replicate n R)) N W0 S) :
    SS (tSeq (tAsg te (gTup K 2 (gCons (gSub (tVar a) (tVar c) rSetL) (gCons (gSub (tVar a) (tVar d) rSetL) gNil)))) u) Γ (wM W l (List.replicate n R)) N W0 S := fun σ G H o s w D nn r =>
  he σ G H o s w _ fun v G1 H1 g1 s1 w1 r1 => by
    obtain ⟨p, xs, rfl, hp, al⟩ := r1
    obtain ⟨x, y, rfl, hx, hy⟩ := al.two
    have o1 := o.mono g1
    obtain ⟨va, ea, ra⟩ := o1.get ha
    obtain ⟨vc, ec, rc⟩ := o1.get hc
    obtain ⟨vd, ed, rd⟩ := o1.get hd
    have ra : va = .ref l := ra
    have rc : vc = .int i := rc
    have rd : vd = .int j := rd
    subst ra rc rd
    obtain ⟨ys, hl, al2⟩ := w1.2.2.2
    have ln : ys.length = n := by rw [al2.len, List.length_replicate]
    have ix1 : ixN ys.length i = some i.toNat := by
      unfold ixN
      rw [if_pos hi.1, if_pos (by rw [ln]; exact hi.2)]
    have ix2 : ixN (ys.set i.toNat x).length j = some j.toNat := by
      unfold ixN
      rw [if_pos hj.1, if_pos (by rw [List.length_set, ln]; exact hj.2)]
    refine ⟨p, [x, y], rfl, same_t s1 hp, rfl, x, [y], rfl, .ref l, ea, .int i, ec, l, ys, i, i.toNat, rfl, rfl, hl, ix1, y, [], rfl, .ref l, ea, .int j, ed, l, ys.set i.toNat x, j, j.toNat, rfl, rfl, upd_same, ix2, rfl, ?_⟩
    have w2 := wM_put (Rs' := List.replicate n R) (ys := ys.set i.toNat x) w1 (all_set hx _ al2)
    have w3 := wM_put (Rs' := List.replicate n R) (ys := (ys.set i.toNat x).set j.toNat y) w2 (all_set hy _ (all_set hx _ al2))
    exact k σ G1 _ o1 (upd_sub (upd_sub s1 w1.2.2.1) w1.2.2.1) w3 D (fun σ' G3 H3 a => nn σ' G3 H3 (g1.trans a)) fun v G3 H3 a => r v G3 H3 (g1.trans a)
end
abbrev N__law_first_crossing : List Str := ["_law_legs_here", "_law_i", "_law_j"]
theorem sc__law_first_crossing : FnScope N__law_first_crossing ["_law_legs_here"] (defScope LH.s__law_first_crossing) := ⟨rfl, rfl, rfl, by decide +kernel, rfl, by decide +kernel, by decide +kernel⟩
section
variable {P : Program} {w : World} {K : PySem.W.Frag} {mg : Str → Option Value} {base : Heap} {cN cO cA cW : Addr}
theorem d__law_first_crossing (B : Blt K mg cN cO cA cW) (R : Raw K mg "_law_first_crossing" LH.s__law_first_crossing) (D__law_do_cross : Def P w K mg base 1 "_law_do_cross" ["_law_leg", "_law_other"] (sp__law_do_cross K)) : Def P w K mg base 2 "_law_first_crossing" ["_law_legs_here"] (sp__law_first_crossing K) := by
  refine def_mk R sc__law_first_crossing (fun _ _ _ _ _ _ us hl => match us, hl with | [_], _ => rfl) (fun _ => rfl) fun f cdv A outer s H E hr => ⟨_, (pss_cons (ps_for PassesOwn.never rfl (pi_range1 (by rfl) B.range (pa_cons (pe_callB call_len_seq rfl B.len (by decide +kernel) (pa_cons (pv 0) pa_nil)) pa_nil)) (pg_name (i := 1) sc__law_first_crossing.nd rfl (.inl rfl))
      (pss_one (ps_for PassesOwn.never rfl (pi_range2 (by rfl) B.range (pa_cons (pe_op op_add (pv 1) pe_int) (pa_cons (pe_callB call_len_seq rfl B.len (by decide +kernel) (pa_cons (pv 0) pa_nil)) pa_nil))) (pg_name (i := 2) sc__law_first_crossing.nd rfl (.inl rfl))
      (pss_one (ps_if (pt_val (pe_cd D__law_do_cross hr (by decide) (pa_cons (pe_ix (ix_list.or ix_tup) (pv 0) (pv 1) (fun _ _ => rfl)) (pa_cons (pe_ix (ix_list.or ix_tup) (pv 0) (pv 2) (fun _ _ => rfl)) pa_nil)))) (pss_one (ps_ret (pe_tup (pa_cons (pv 1) (pa_cons (pv 2) pa_nil))))) pss_nil)))))
      (pss_one (ps_ret pe_non))), fun ⟨c, n⟩ hn W => ?_⟩
  have hn : n ≤ 100 := hn
  show SS _ [some (seqT K c n (yLeg K)), none, none] W _ W (yPr K n)
  have lenS : ∀ {Γ : Tys} {W' : Wd}, Γ[0]? = some (some (seqT K c n (yLeg K))) → EE (tCB (fun xs H Q => ∃ p ys, xs = [.ref p] ∧ (SqL K H p ys ∨ SqT K H p ys) ∧ Q (.int ys.length) H) (tCons (tVar 0) tNil)) Γ W' (yI (n : Int)) := fun h => ee_cb (ea_cons (ee_var h) ea_nil) ct_lenS
  refine ss_for (α := Unit) (n := ((n : Nat) : Int).toNat) (ei_rng1 (n := (n : Int)) (ea_cons (lenS rfl) ea_nil) (by omega) (by omega)) (fun _ _ => True) (fun _ => [some (seqT K c n (yLeg K)), none, none]) (fun _ => W) (fun i _ => [some (seqT K c n (yLeg K)), some (yI (i : Int)), none]) () trivial (fun σ G H o w => ⟨o, w⟩) (fun i o hi hp => gt_name) (fun i o hi hp => ?_) (fun o hp => ?_)
  · rw [Int.toNat_natCast] at hi
    refine ss_last (ss_for (α := Unit) (n := ((n : Int) - ((i : Int) + 1)).toNat) (ei_rng2 (m := (i : Int) + 1) (n := (n : Int)) (ea_cons (ee_op (ee_var rfl) ee_i ot_add) (ea_cons (lenS rfl) ea_nil)) ⟨by omega, by omega⟩ ⟨by omega, by omega⟩) (fun _ _ => True) (fun _ => [some (seqT K c n (yLeg K)), some (yI (i : Int)), none]) (fun _ => W) (fun k _ => [some (seqT K c n (yLeg K)), some (yI (i : Int)), some (yI ((i : Int) + 1 + (k : Int)))]) () trivial (fun σ G H o w => ⟨o, w⟩) (fun k o hk hp => gt_name) (fun k o hk hp => ?_) (fun o hp => ?_))
    · refine ss_last (ss_ifU (eu_B (ee__law_do_cross (ee_op (ee_var rfl) (ee_var rfl) (ot_ixS ⟨by omega, by omega⟩)) (ee_op (ee_var rfl) (ee_var rfl) (ot_ixS ⟨by omega, by omega⟩)))) ?_ ?_)
      · exact ss_ret1 (EE.sub (ee_tup (ea_cons (ee_var rfl) (ea_cons (ee_var rfl) ea_nil)) (lle rfl)) fun v H hv => ⟨some ((i : Int), (i : Int) + 1 + (k : Int)), ⟨⟨by show (0 : Int) ≤ i; omega, by show (i : Int) < n; omega⟩, by show (0 : Int) ≤ (i : Int) + 1 + k; omega, by show (i : Int) + 1 + k < n; omega⟩, hv⟩) (Wd.le.refl _)
      · exact ss_skip (ss_next fun σ G H o s' w => ⟨(), trivial, o.forget 2, w⟩)
    · exact ss_next fun σ G H o s' w => ⟨(), trivial, o.forget 1, w⟩
  · exact ss_ret (EE.sub (R := yN) ee_n fun v H hv => ⟨none, trivial, hv⟩) (Wd.le.refl _)
theorem d__law_uncrossed (B : Blt K mg cN cO cA cW) (R : Raw K mg "_law_uncrossed" LH.s__law_uncrossed) (D__law_first_crossing : Def P w K mg base 2 "_law_first_crossing" ["_law_legs_here"] (sp__law_first_crossing K)) : Def P w K mg base 3 "_law_uncrossed" ["_law_legs_here"] (sp__law_uncrossed K) := by
  refine def_mk2 R sc__law_uncrossed (fun _ _ _ _ _ _ us hl => match us, hl with | [_], _ => rfl) (fun _ => rfl) fun f cdv A outer s H E hr => ⟨_, (pss_cons (ps_par (i := 1) (j := 2) rfl sc__law_uncrossed.nd rfl rfl (by decide) rfl rfl (pa_cons (pe_callTy call_list_of rfl B.list (by decide +kernel) (pa_cons (pv 0) pa_nil)) (pa_cons (pe_cd D__law_first_crossing hr (by decide) (pa_cons (pv 0) pa_nil)) pa_nil)) (by rfl))
      (pss_cons (ps_for PassesOwn.never rfl (pi_range1 (by rfl) B.range (pa_cons pe_int pa_nil)) (pg_name (i := 3) sc__law_uncrossed.nd rfl (.inl rfl))
      (pss_one (ps_if (pt_cmpR op_notN (pv 2) pe_non (nomark _)) (pss_cons (ps_asg (pv 2) (pg_tup rfl (pgs_cons (pg_name (i := 4) sc__law_uncrossed.nd rfl (.inl rfl)) (pgs_cons (pg_name (i := 5) sc__law_uncrossed.nd rfl (.inl rfl)) pgs_nil))))
      (pss_cons (ps_asg (pe_tup (pa_cons (pe_tup (pa_cons (pe_ix ix_tup (pe_ix ix_list (pv 1) (pv 4) (fun _ _ => rfl)) pe_int (fun _ _ => rfl)) (pa_cons (pe_ix ix_tup (pe_ix ix_list (pv 1) (pv 5) (fun _ _ => rfl)) pe_int (fun _ _ => rfl)) pa_nil))) (pa_cons (pe_tup (pa_cons (pe_ix ix_tup (pe_ix ix_list (pv 1) (pv 5) (fun _ _ => rfl)) pe_int (fun _ _ => rfl)) (pa_cons (pe_ix ix_tup (pe_ix ix_list (pv 1) (pv 4) (fun _ _ => rfl)) pe_int (fun _ _ => rfl)) pa_nil))) pa_nil))) (pg_tup rfl (pgs_cons (pg_sub (pv 1) (pv 4) set_list) (pgs_cons (pg_sub (pv 1) (pv 5) set_list) pgs_nil))))
      (pss_one (ps_set (i := 2) sc__law_uncrossed.nd rfl (.inl rfl) (pe_cd D__law_first_crossing hr (by decide) (pa_cons (pv 1) pa_nil)))))) pss_nil)))
      (pss_one (ps_ret (pe_callTy call_tuple_of rfl B.tuple (by decide +kernel) (pa_cons (pv 1) pa_nil)))))), fun n ⟨n1, n2⟩ W SH => ?_⟩
  show SS _ [some (yLgs K n), none, none, none, none, none] W _ W (yLgs K n)
  refine ss_parL (R := yPr K n) (ee_var rfl) (by rw [List.length_replicate]; omega) (fun l => ee_fcT (ee_var rfl) n2) fun l hl => ?_
  refine ss_openE (i := 2) rfl fun o => ss_openW (i := 2) rfl fun ho => ?_
  show SS _ [some (yLgs K n), some (yAt l), some (prT K o), none, none, none] (wM W l (List.replicate n (yLeg K))) _ W (yLgs K n)
  refine ss_for (α := Option (Int × Int)) (ei_rng1 (n := 400) (ea_cons ee_i ea_nil) (by decide) (by decide)) (fun _ o => PrOk n o) (fun o => [none, some (yAt l), some (prT K o), none, none, none]) (fun _ => wM W l (List.replicate n (yLeg K))) (fun i o => [none, some (yAt l), some (prT K o), some (yI (i : Int)), none, none]) o ho (fun σ G H o w => ⟨o.forget 0, w⟩) (fun i o hi hp => gt_name) (fun i o hi hp => ?_) (fun o hp => ?_)
  · cases o with
    | none =>
      refine ss_last (ss_if (b := false) (et_test (ee_op (ee_var rfl) ee_n (ot_notN fun v H hv => by rw [yN_is v H hv]; rfl))) (fun z => nomatch z) (fun _ => ?_))
      exact ss_skip (ss_next fun σ G H o s' w => ⟨none, trivial, o.forget 3, w⟩)
    | some p =>
      obtain ⟨x, y⟩ := p
      obtain ⟨⟨x1, x2⟩, y1, y2⟩ := hp
      have x1 : 0 ≤ x := x1
      have x2 : x < n := x2
      have y1 : 0 ≤ y := y1
      have y2 : y < n := y2
      refine ss_last (ss_if (b := true) (et_test (ee_op (ee_var rfl) ee_n (ot_notN fun v H hv => by rw [yT_not v H hv]; rfl))) (fun _ => ?_) (fun z => nomatch z))
      refine ss_set (R := yT K [yI x, yI y]) (ee_var rfl) (gt_tup (gts_cons gt_name (gts_cons gt_name gts_nil)) rfl) ?_
      show SS _ [none, some (yAt l), some (yT K [yI x, yI y]), some (yI (i : Int)), some (yI x), some (yI y)] (wM W l (List.replicate n (yLeg K))) _ W (yLgs K n)
      refine ss_swap (R := yLeg K) (a := 1) (c := 4) (d := 5) rfl rfl rfl ⟨x1, x2⟩ ⟨y1, y2⟩ ?_ ?_
      · have g : ∀ {Γ : Tys} {W' : Wd} (c : Nat) (z k : Int), Γ[1]? = some (some (yL (List.replicate n (yLeg K)))) → Γ[c]? = some (some (yI z)) → 0 ≤ z ∧ z < n → k = 0 ∨ k = 1 → EE (tOp (rIxT K) (tOp (rIxL K) (tVar 1) (tVar c)) (tC (.int k))) Γ W' (yPt K 8000) := fun c z k h1 h2 h3 h4 => by
          rcases h4 with rfl | rfl
          · exact ee_op (ee_op (ee_var h1) (ee_var h2) (ot_ixR h3)) ee_i (ot_ixT rfl)
          · exact ee_op (ee_op (ee_var h1) (ee_var h2) (ot_ixR h3)) ee_i (ot_ixT rfl)
        exact ee_borrow (i := 1) SH rfl (noK_T ⟨noK_leg, noK_leg, trivial⟩) (some_ref n1) (ee_tup (ea_cons (ee_tup (ea_cons (g 4 x 0 rfl rfl ⟨x1, x2⟩ (.inl rfl)) (ea_cons (g 5 y 1 rfl rfl ⟨y1, y2⟩ (.inr rfl)) ea_nil)) (lle rfl)) (ea_cons (ee_tup (ea_cons (g 5 y 0 rfl rfl ⟨y1, y2⟩ (.inl rfl)) (ea_cons (g 4 x 1 rfl rfl ⟨x1, x2⟩ (.inr rfl)) ea_nil)) (lle rfl)) ea_nil)) (lle rfl))
      · refine ss_asg (ee_borrow (i := 1) SH rfl noK_pr (some_ref n1) (ee_fcL (n := n) (ee_var rfl) n2)) ?_
        refine ss_openE (i := 2) rfl fun o2 => ss_openW (i := 2) rfl fun ho2 => ?_
        exact ss_next fun σ G H o s' w => ⟨o2, ho2, ((o.forget 3).forget 4).forget 5, w⟩
  · refine ss_freeze (i := 1) rfl (ss_ret (ee_cb (ea_cons (ee_var rfl) ea_nil) ct_tupL) (Wd.le.refl _))
end
end LT
end
section
set_option Elab.async false
set_option linter.all false
set_option maxRecDepth 100000
set_option maxHeartbeats 2000000
namespace LZ
open PySem PySem.Spec PyProof.Rows L2
/-! ### tuple(zip(l1, l2)) -/
theorem zlen : typeLookup (.type "zip") "__len__" = pure none := by rw [typeLookup_type, builtinLookup_eq_fast]; kernel_rfl
theorem zhint : typeLookup (.type "zip") "__length_hint__" = pure none := by rw [typeLookup_type, builtinLookup_eq_fast]; kernel_rfl
section
variable {prog : Program} {w : World} {A : Around} {E : Value → Shared → Prop} {s : Shared} {z TI TO i1 i2 l1 l2 S : Addr} {xs ys : Array Value}
/-- the zip at its i-th turn: its tuple free, or still held by who walks -/
def ZSt (z TI TO i1 i2 l1 l2 S : Addr) (xs ys : Array Value) (h : Heap) (i : Nat) : Prop := IsPair h TI (.ref i1) (.ref i2) ∧ h.IsListIter i1 l1 i ∧ h.IsListIter i2 l2 i ∧ h.IsList l1 xs ∧ h.IsList l2 ys ∧ (∃ o, h.get? TO = some o) ∧
  ((IsZip h z TI TO .none ∧ ∃ a b, IsPair h TO a b) ∨ ∃ T f oT, IsZipHeld h z TI TO T f ∧ h.get? T = some oT ∧ T ≠ z ∧ T ≠ i1 ∧ T ≠ i2 ∧ T ≠ S)
/-- the pairs given so far -/
def ZAcc (z TO i1 i2 S : Addr) (xs ys : Array Value) (b0 : Nat) (h : Heap) (acc : Array Value) (i : Nat) : Prop := acc.size = i ∧ ∀ j, j < i → ∃ T x y, acc[j]? = some (.ref T) ∧ xs[j]? = some x ∧ ys[j]? = some y ∧ IsPair h T x y ∧ T ∉ [z, TO, i1, i2, S] ∧ b0 ≤ T
structure Off (z TI TO i1 i2 l1 l2 S : Addr) : Prop where
  a : z ≠ S
  b : TI ≠ S
  c : TO ≠ S
  d : i1 ≠ S
  e : i2 ≠ S
  f : l1 ≠ S
  g : l2 ≠ S
theorem ZSt.frame {h h' : Heap} {i : Nat} (O : Off z TI TO i1 i2 l1 l2 S) (st : ZSt z TI TO i1 i2 l1 l2 S xs ys h i) (hk : ∀ b o, b ≠ S → h.get? b = some o → h'.get? b = some o) : ZSt z TI TO i1 i2 l1 l2 S xs ys h' i := by
  obtain ⟨hTI, h1, h2, hl1, hl2, ⟨o, hTO⟩, hz⟩ := st
  refine ⟨hk _ _ O.b hTI, h1.at fun o e => hk _ o O.d e, h2.at fun o e => hk _ o O.e e, hl1.at fun o e => hk _ o O.f e, hl2.at fun o e => hk _ o O.g e, ⟨o, hk _ _ O.c hTO⟩, ?_⟩
  rcases hz with ⟨hz, a, b, hp⟩ | ⟨T, f, oT, hz, hT, r1, r2, r3, r4⟩
  · exact .inl ⟨hk _ _ O.a hz, a, b, hk _ _ O.c hp⟩
  · exact .inr ⟨T, f, oT, hk _ _ O.a hz, hk _ _ r4 hT, r1, r2, r3, r4⟩
theorem ZSt.type {i : Nat} (st : ZSt z TI TO i1 i2 l1 l2 S xs ys s.heap i) : s.TypeIs (.ref z) "zip" := by
  obtain ⟨_, _, _, _, _, _, hz⟩ := st
  rcases hz with ⟨hz, _⟩ | ⟨T, f, oT, hz, _⟩
  · exact ⟨_, hz, rfl⟩
  · exact ⟨_, hz, rfl⟩
/-- a turn -/
theorem zturn {i : Nat} {acc : Array Value} {b0 : Nat} {Q : Option Value → Shared → Prop} (D : ZipApart z TI TO i1 i2 l1 l2) (O : Off z TI TO i1 i2 l1 l2 S) (hS : ∃ o, s.heap.get? S = some o) (hb0 : b0 ≤ s.heap.objs.size) (st : ZSt z TI TO i1 i2 l1 l2 S xs ys s.heap i) (ac : ZAcc z TO i1 i2 S xs ys b0 s.heap acc i)
    (hx : i < xs.size) (hy : i < ys.size)
    (hQ : ∀ v h', ZSt z TI TO i1 i2 l1 l2 S xs ys h' (i + 1) → ZAcc z TO i1 i2 S xs ys b0 h' (acc.push v) (i + 1) → (∀ c o, c ∉ [z, TO, i1, i2] → s.heap.get? c = some o → h'.get? c = some o) → Q (some v) { s with heap := h' }) : wpAny (model prog w) A (pyNext (.ref z)) Q E s := by
  obtain ⟨hTI, h1, h2, hl1, hl2, ⟨oTO, hTO⟩, hz⟩ := st
  have ex := Array.getElem?_eq_getElem hx
  have ey := Array.getElem?_eq_getElem hy
  have lt : ∀ {c o}, s.heap.get? c = some o → s.heap.objs.size ≠ c := fun e => Nat.ne_of_gt (Heap.lt_size e)
  have n1 : s.heap.objs.size ≠ i1 := let ⟨_, e, _⟩ := h1; lt e
  have n2 : s.heap.objs.size ≠ i2 := let ⟨_, e, _⟩ := h2; lt e
  have n3 : s.heap.objs.size ≠ TO := lt hTO
  have n4 : s.heap.objs.size ≠ S := let ⟨_, e⟩ := hS; lt e
  have n5 : s.heap.objs.size ≠ z := by
    rcases hz with ⟨hz, _⟩ | ⟨T, f, oT, hz, _⟩ <;> exact lt hz
  have more : ∀ h', IsPair h' s.heap.objs.size xs[i] ys[i] → (∀ c o, c ∉ [z, TO, i1, i2] → s.heap.get? c = some o → h'.get? c = some o) → ZAcc z TO i1 i2 S xs ys b0 h' (acc.push (.ref s.heap.objs.size)) (i + 1) := fun h' hp hk => by
    refine ⟨by rw [Array.size_push, ac.1], fun j hj => ?_⟩
    by_cases e : j = i
    · subst e
      refine ⟨s.heap.objs.size, xs[j], ys[j], ?_, ex, ey, hp, by simp [n1, n2, n3, n4, n5], hb0⟩
      rw [Array.getElem?_push, if_pos ac.1.symm]
    · obtain ⟨T, x, y, e1, e2, e3, e4, e5, e6⟩ := ac.2 j (by omega)
      refine ⟨T, x, y, ?_, e2, e3, hk T _ (fun m => e5 (List.mem_append_left [S] m)) e4, e5, e6⟩
      rw [Array.getElem?_push, if_neg (by rw [ac.1]; exact e)]
      exact e1
  rcases hz with ⟨hz, a, b, hp⟩ | ⟨T, f, oT, hz, hT, r1, r2, r3, r4⟩
  · refine wpAny_pyNext_zip_item D hz hTI hp h1 h2 hl1 hl2 ex ey fun h' a1 a2 a3 a4 a5 a6 hk => ?_
    have kk : ∀ c o, c ∉ [z, TO, i1, i2] → s.heap.get? c = some o → h'.get? c = some o := fun c o hc e => hk c o (fun x => hc (by simp [x])) (fun x => hc (by simp [x])) (fun x => hc (by simp [x])) (fun x => hc (by simp [x])) e
    exact hQ _ h' ⟨hk _ _ D.TIz D.TITO D.TIi1 D.TIi2 hTI, a3, a4, hl1.at fun o e => hk _ o D.l1z D.l1TO D.l1i1 D.l1i2 e, hl2.at fun o e => hk _ o D.l2z D.l2TO D.l2i1 D.l2i2 e, ⟨_, a2⟩, .inr ⟨s.heap.objs.size, false, _, a1, a5, n5, n1, n2, n4⟩⟩ (more h' a5 kk) kk
  · refine wpAny_pyNext_zip_item_held D hz hT hTI h1 h2 hl1 hl2 ex ey fun h' a1 a3 a4 a5 a6 hk => ?_
    have kk : ∀ c o, c ∉ [z, TO, i1, i2] → s.heap.get? c = some o → h'.get? c = some o := fun c o hc e => hk c o (fun x => hc (by simp [x])) (fun x => hc (by simp [x])) (fun x => hc (by simp [x])) e
    exact hQ _ h' ⟨hk _ _ D.TIz D.TIi1 D.TIi2 hTI, a3, a4, hl1.at fun o e => hk _ o D.l1z D.l1i1 D.l1i2 e, hl2.at fun o e => hk _ o D.l2z D.l2i1 D.l2i2 e, ⟨_, hk _ _ D.TOz D.TOi1 D.TOi2 hTO⟩, .inr ⟨T, true, oT, a1, hk _ _ r1 r2 r3 hT, r1, r2, r3, r4⟩⟩ (more h' a5 kk) kk
theorem zend {i : Nat} {Q : Option Value → Shared → Prop} (hA : A.handled = none) (D : ZipApart z TI TO i1 i2 l1 l2) (st : ZSt z TI TO i1 i2 l1 l2 S xs ys s.heap i) (hend : xs[i]? = none ∨ ys[i]? = none)
    (hQ : ∀ h', (∀ c o, c ∉ [z, TO, i1, i2] → s.heap.get? c = some o → h'.get? c = some o) → Q none { s with heap := h' }) : wpAny (model prog w) A (pyNext (.ref z)) Q E s := by
  obtain ⟨hTI, h1, h2, hl1, hl2, ⟨oTO, hTO⟩, hz⟩ := st
  rcases hz with ⟨hz, a, b, hp⟩ | ⟨T, f, oT, hz, hT, r1, r2, r3, r4⟩
  · exact wpAny_pyNext_zip_end hA D hz hTI hp h1 h2 hl1 hl2 hend fun h' hk => hQ h' fun c o hc e => hk c o (fun x => hc (by simp [x])) (fun x => hc (by simp [x])) (fun x => hc (by simp [x])) (fun x => hc (by simp [x])) e
  · exact wpAny_pyNext_zip_end_held hA D hz hT hTI h1 h2 hl1 hl2 hend fun h' hk => hQ h' fun c o hc e => hk c o (fun x => hc (by simp [x])) (fun x => hc (by simp [x])) (fun x => hc (by simp [x])) e
theorem ZAcc.frame {h h' : Heap} {acc : Array Value} {i b0 : Nat} (ac : ZAcc z TO i1 i2 S xs ys b0 h acc i) (hk : ∀ b o, b ∉ [z, TO, i1, i2, S] → h.get? b = some o → h'.get? b = some o) : ZAcc z TO i1 i2 S xs ys b0 h' acc i := ⟨ac.1, fun j hj => by
  obtain ⟨T, x, y, e1, e2, e3, e4, e5, e6⟩ := ac.2 j hj
  exact ⟨T, x, y, e1, e2, e3, hk T _ e5 e4, e5, e6⟩⟩
/-- the loop that takes them -/
theorem zloop {n b0 : Nat} {R : Result → Shared → Prop} (hA : A.handled = none) (D : ZipApart z TI TO i1 i2 l1 l2) (O : Off z TI TO i1 i2 l1 l2 S) (hn : n = min xs.size ys.size) (hsz : n ≤ sizeLine) (res : Value) :
    ∀ (k i : Nat) (s : Shared) (acc : Array Value) (c : Nat), n - i = k → i ≤ n → b0 ≤ s.heap.objs.size → ZSt z TI TO i1 i2 l1 l2 S xs ys s.heap i → s.heap.get? S = some { cls := .type "list", dict := none, data := .seq acc c, slots := #[] } → ZAcc z TO i1 i2 S xs ys b0 s.heap acc i →
    (∀ h' acc' c', (∀ b o, b ∉ [z, TO, i1, i2, S] → s.heap.get? b = some o → h'.get? b = some o) → h'.get? S = some { cls := .type "list", dict := none, data := .seq acc' c', slots := #[] } → ZAcc z TO i1 i2 S xs ys b0 h' acc' n → R (.ok (.ret res)) { s with heap := h' }) →
    codeAny (model prog w) A (.builtin "list.extend.loop" ⟨[.ref S, .ref z, res], []⟩) R s := by
  have hSw : S ∉ [z, TO, i1, i2] := by simp [Ne.symm O.a, Ne.symm O.c, Ne.symm O.d, Ne.symm O.e]
  intro k
  induction k with
  | zero =>
    intro i s acc c hk hi hb st hS ac hR
    have hin : i = n := by omega
    subst hin
    refine codeAny_builtin F.entry_extend_loop ?_
    rw [Around.under_plainId F.plain_extend_loop _]
    show wpAny _ A.in1 (pyNext (.ref z) >>= _) _ _ s
    refine wpAny_bind (zend (A := A.in1) hA D st ?_ fun h' hk' => ?_)
    · rcases Nat.le_total xs.size ys.size with h | h
      · exact .inl (Array.getElem?_eq_none (by omega))
      · exact .inr (Array.getElem?_eq_none (by omega))
    · exact wpAny_pure (hR h' acc c (fun b o hb e => hk' b o (fun m => hb (List.mem_append_left [S] m)) e) (hk' S _ hSw hS) (ac.frame fun b o hb e => hk' b o (fun m => hb (List.mem_append_left [S] m)) e))
  | succ k ih =>
    intro i s acc c hk hi hb st hS ac hR
    refine codeAny_builtin F.entry_extend_loop ?_
    rw [Around.under_plainId F.plain_extend_loop _]
    show wpAny _ A.in1 (pyNext (.ref z) >>= _) _ _ s
    refine wpAny_bind (zturn (A := A.in1) D O ⟨_, hS⟩ hb st ac (by omega) (by omega) fun v h' st' ac' hk' => ?_)
    have hS' := hk' S _ hSw hS
    show wpAny _ A.in1 (updateSeq S (·.push v) >>= _) _ _ _
    refine wpAny_bind ?_
    have up : ∀ b o, b ≠ S → h'.get? b = some o → (h'.update S (Obj.mapSeq (·.push v))).get? b = some o := fun b o hb e => (Heap.get?_update_other _ _ (Ne.symm hb)).trans e
    refine wpAny_updateSeq (s := { s with heap := h' }) hS' rfl (wpAny_pure ⟨plainId_quiet F.plain_extend_loop _, ih (i + 1) _ (acc.push v) _ (by omega) (by omega) ?_ (st'.frame O fun b o hb e => up b o hb e) (Heap.get?_update_self _ hS' rfl) (ac'.frame fun b o hb e => up b o (fun m => hb (by simp [m])) e) fun h2 acc2 c2 hk2 hS2 ac2 => ?_⟩)
      (by rw [ac.1]; omega) (by show (acc.push v).size ≤ sizeLine + 1; rw [Array.size_push, ac.1]; omega)
    · rw [Heap.size_update]
      obtain ⟨T, x, y, _, _, _, e4, _, e6⟩ := ac'.2 i (by omega)
      exact Nat.le_of_lt (Nat.lt_of_le_of_lt e6 (Heap.lt_size e4))
    · exact hR h2 acc2 c2 (fun b o hb e => hk2 b o hb (up b o (fun m => hb (by simp [m])) (hk' b o (fun m => hb (List.mem_append_left [S] m)) e))) hS2 ac2
end
end LZ
end
section
set_option Elab.async false
set_option linter.all false
set_option maxRecDepth 100000
set_option maxHeartbeats 2000000
namespace LZ
open PySem PySem.Spec PyProof.Rows L2
section
variable {prog : Program} {w : World} {A : Around} {E : Value → Shared → Prop} {s : Shared} {z TI TO i1 i2 l1 l2 : Addr} {xs ys : Array Value} {n : Nat}
/-- what was taken: new pairs, one behind another -/
def Took (xs ys : Array Value) (b0 : Nat) (h : Heap) (acc : Array Value) (n : Nat) : Prop := acc.size = n ∧ ∀ j, j < n → ∃ T x y, acc[j]? = some (.ref T) ∧ xs[j]? = some x ∧ ys[j]? = some y ∧ IsPair h T x y ∧ b0 ≤ T
theorem take_zip {Q : List Value → Shared → Prop} (hA : A.handled = none) (D : ZipApart z TI TO i1 i2 l1 l2) (hn : n = min xs.size ys.size) (hsz : n ≤ sizeLine) (hz : IsZip s.heap z TI TO .none) (hTI : IsPair s.heap TI (.ref i1) (.ref i2)) {a b : Value} (hTO : IsPair s.heap TO a b)
    (h1 : s.heap.IsListIter i1 l1 0) (h2 : s.heap.IsListIter i2 l2 0) (hl1 : s.heap.IsList l1 xs) (hl2 : s.heap.IsList l2 ys)
    (hQ : ∀ h' acc, (∀ b o, b ∉ [z, TO, i1, i2] → s.heap.get? b = some o → h'.get? b = some o) → Took xs ys s.heap.objs.size h' acc n → Q acc.toList { s with heap := h' }) : wpAny (model prog w) A (collect (.ref z)) Q E s := by
  have lt : ∀ {c o}, s.heap.get? c = some o → c ≠ s.heap.objs.size := fun e => Nat.ne_of_lt (Heap.lt_size e)
  have O : Off z TI TO i1 i2 l1 l2 s.heap.objs.size := ⟨lt hz, lt hTI, lt hTO, (let ⟨_, e, _⟩ := h1; lt e), (let ⟨_, e, _⟩ := h2; lt e), (let ⟨_, e, _⟩ := hl1; lt e), (let ⟨_, e, _⟩ := hl2; lt e)⟩
  have st0 : ZSt z TI TO i1 i2 l1 l2 s.heap.objs.size xs ys s.heap 0 := ⟨hTI, h1, h2, hl1, hl2, ⟨_, hTO⟩, .inl ⟨hz, a, b, hTO⟩⟩
  unfold collect
  refine wpAny_bind (wpAny_runValue (codeAny_builtin F.entry_proto_collect ?_))
  rw [Around.under_plainId F.plain_proto_collect _]
  show wpAny _ A.in1 (newList [] >>= fun l => again (.builtin "list.__iadd__" ⟨[l, .ref z], []⟩)) _ _ s
  refine wpAny_bind (wpAny_newObj_type ?_)
  refine wpAny_pure ⟨plainId_quiet F.plain_list_iadd _, codeAny_builtin F.entry_list_iadd ?_⟩
  rw [Around.under_plainId F.plain_list_iadd _]
  have st1 : ZSt z TI TO i1 i2 l1 l2 s.heap.objs.size xs ys (s.heap.push { cls := .type "list", data := .seq ([] : List Value).toArray }) 0 := st0.frame O fun b o _ e => Heap.get?_push_of_some _ e
  have ty : ∀ {h : Heap} {tk : Nat}, ZSt z TI TO i1 i2 l1 l2 s.heap.objs.size xs ys h 0 → ({ s with heap := h, toks := tk } : Shared).TypeIs (.ref z) "zip" := fun {h tk} st => ZSt.type (s := { s with heap := h, toks := tk }) st
  show wpAny _ A.in1 (Builtin.List.listExtendWith (.ref s.heap.objs.size) (.ref z) (.ref s.heap.objs.size)) _ _ _
  unfold Builtin.List.listExtendWith
  refine wpAny_bind (wpAny_typeOf (ty st1) ?_)
  have k1 : Builtin.List.listSameRef (.ref s.heap.objs.size) (.ref z) = false := by simp [Builtin.List.listSameRef, Ne.symm O.a]
  have k2 : (Value.type "zip" == Value.type "list") = false := by decide
  have k3 : (Value.type "zip" == Value.type "tuple") = false := by decide
  simp only [k1, k2, k3, Bool.or_false, Bool.false_eq_true, if_false]
  refine wpAny_bind (wpAny_pyIter_zip (Heap.get?_push_of_some _ hz) ?_)
  refine wpAny_bind (wpAny_holding ?_)
  unfold Builtin.List.listLengthHint
  refine wpAny_bind (wpAny_specialOf (ty st1) zlen ?_)
  show wpAny _ A.in1 (specialOf (Value.ref z) (Str.ofString "__length_hint__") >>= _) _ _ _
  refine wpAny_bind (wpAny_specialOf (ty st1) zhint ?_)
  refine wpAny_pure ?_
  show wpAny _ A.in1 (rule "list.extend.makes-room" >>= fun _ => Builtin.List.listTouch (.ref s.heap.objs.size) >>= fun _ => again (.builtin "list.extend.loop" ⟨[.ref s.heap.objs.size, .ref z, .ref s.heap.objs.size], []⟩)) _ _ _
  refine wpAny_bind (wpAny_rule ?_)
  have hS1 : (s.heap.push { cls := .type "list", data := .seq ([] : List Value).toArray }).get? s.heap.objs.size = some { cls := .type "list", data := .seq ([] : List Value).toArray } := Heap.get?_push_size _ rfl
  refine wpAny_bind ?_
  show wpAny _ A.in1 (updateSeq s.heap.objs.size (·.push .none) >>= fun _ => updateSeq s.heap.objs.size (·.pop)) _ _ _
  refine wpAny_bind (wpAny_updateSeq hS1 rfl ?_)
  have hS2 := Heap.get?_update_self (Obj.mapSeq (·.push Value.none)) hS1 rfl
  refine wpAny_updateSeq hS2 rfl ?_
  have hS3 := Heap.get?_update_self (Obj.mapSeq (·.pop)) hS2 rfl
  have oth : ∀ b o, b ≠ s.heap.objs.size → (s.heap.push { cls := .type "list", data := .seq ([] : List Value).toArray }).get? b = some o →
      (((s.heap.push { cls := .type "list", data := .seq ([] : List Value).toArray }).update s.heap.objs.size (Obj.mapSeq (·.push Value.none))).update s.heap.objs.size (Obj.mapSeq (·.pop))).get? b = some o :=
    fun b o hb e => (Heap.get?_update_other _ _ (Ne.symm hb)).trans ((Heap.get?_update_other _ _ (Ne.symm hb)).trans e)
  refine wpAny_pure ⟨plainId_quiet F.plain_extend_loop _, zloop (b0 := s.heap.objs.size) hA D O hn hsz _ n 0 _ _ _ rfl (Nat.zero_le _) ?_ (st1.frame O oth) hS3 ⟨rfl, fun j hj => absurd hj (Nat.not_lt_zero _)⟩ fun h' acc' c' hk' hS' ac => ?_⟩
  · rw [Heap.size_update, Heap.size_update, Heap.size_push]
    exact Nat.le_succ _
  · show wpAny _ A (load s.heap.objs.size >>= _) _ _ _
    refine wpAny_bind (wpAny_load (s := { s with heap := h' }) hS' ?_)
    refine wpAny_pure (hQ h' acc' (fun b o hb e => hk' b o (fun m => ?_) (oth b o (lt e) (Heap.get?_push_of_some _ e))) ⟨ac.1, fun j hj => ?_⟩)
    · rcases List.mem_append.mp (show b ∈ [z, TO, i1, i2] ++ [s.heap.objs.size] from m) with q | q
      · exact hb q
      · exact lt e (List.mem_singleton.mp q)
    · obtain ⟨T, x, y, e1, e2, e3, e4, _, e6⟩ := ac.2 j hj
      exact ⟨T, x, y, e1, e2, e3, e4, e6⟩
theorem code_tup_zip {Q₁ : Value → Shared → Prop} (hA : A.handled = none) (D : ZipApart z TI TO i1 i2 l1 l2) (hn : n = min xs.size ys.size) (hsz : n ≤ sizeLine) (hz : IsZip s.heap z TI TO .none) (hTI : IsPair s.heap TI (.ref i1) (.ref i2)) {a b : Value} (hTO : IsPair s.heap TO a b)
    (h1 : s.heap.IsListIter i1 l1 0) (h2 : s.heap.IsListIter i2 l2 0) (hl1 : s.heap.IsList l1 xs) (hl2 : s.heap.IsList l2 ys)
    (h : ∀ h' acc, (∀ b o, b ∉ [z, TO, i1, i2] → s.heap.get? b = some o → h'.get? b = some o) → Took xs ys s.heap.objs.size h' acc n → Q₁ (.ref h'.objs.size) { s with heap := h'.push { cls := .type "tuple", data := .seq acc } }) :
    codeAny (model prog w) A (.call (.builtin "tuple.__new__") ⟨[.type "tuple", .ref z], []⟩) (wants Q₁ E) s := by
  refine codeAny_of_tree ?_
  show wpAny _ A.in1 (do checkBuiltinCall "tuple.__new__" ⟨[.type "tuple", .ref z], []⟩; again (.builtin "tuple.__new__" ⟨[.type "tuple", .ref z], []⟩)) _ _ s
  refine wpAny_bind (wpAny_of_eq (F.newCall_tuple_1 _) (wpAny_pure ⟨plainId_quiet F.plain_tuple_new _, codeAny_builtin F.entry_tuple_new ?_⟩))
  rw [Around.under_plainId F.plain_tuple_new _]
  have hsub := sub_tuple_self
  have hinit := init_tuple_lookup
  have hmh := madeHere_tuple
  have hTy : s.TypeIs (.ref z) "zip" := ⟨_, hz, rfl⟩
  have hh1 : A.in1.handled = none := hA
  wp_walk using wpAny_typeOf hTy, take_zip (A := A.in1) hh1 D hn hsz hz hTI hTO h1 h2 hl1 hl2
  intro h' acc hk tk
  show wpAny _ _ (Builtin.Tuple.tupleExact acc.toList.toArray >>= fun v => ret v) _ _ _
  unfold Builtin.Tuple.tupleExact
  refine wpAny_bind (wpAny_newObj_type ?_ (by show acc.toList.toArray.size ≤ sizeLine; simp only [Array.toArray_toList]; rw [tk.1]; exact hsz))
  refine wpAny_pure ?_
  have e : acc.toList.toArray = acc := by simp
  rw [e]
  exact h h' acc hk tk
theorem call_tup_zip {Q : Value → Shared → Prop} (hA : A.handled = none) (D : ZipApart z TI TO i1 i2 l1 l2) (hn : n = min xs.size ys.size) (hsz : n ≤ sizeLine) (hz : IsZip s.heap z TI TO .none) (hTI : IsPair s.heap TI (.ref i1) (.ref i2)) {a b : Value} (hTO : IsPair s.heap TO a b)
    (h1 : s.heap.IsListIter i1 l1 0) (h2 : s.heap.IsListIter i2 l2 0) (hl1 : s.heap.IsList l1 xs) (hl2 : s.heap.IsList l2 ys)
    (hQ : ∀ h' acc, (∀ b o, b ∉ [z, TO, i1, i2] → s.heap.get? b = some o → h'.get? b = some o) → Took xs ys s.heap.objs.size h' acc n → Q (.ref h'.objs.size) { s with heap := h'.push { cls := .type "tuple", data := .seq acc } }) :
    wpAny (model prog w) A (call (.type "tuple") [.ref z]) Q E s := by
  refine callType_codes (Q₁ := fun obj s₁ => s₁.TypeIs obj "tuple" ∧ Q obj s₁) F.called_tuple (F.typeCall_tuple_1 _) F.entry_object_init
    (code_tup_zip (A := A.in1) hA D hn hsz hz hTI hTO h1 h2 hl1 hl2 fun h' acc hk tk => ⟨⟨_, Heap.get?_push_size _ rfl, rfl⟩, hQ h' acc hk tk⟩) fun obj s₁ h₁ => ?_
  exact ⟨h₁.1, F.args_object_init_2 obj _, object_init_meets F.called_tuple.init.lookup F.called_tuple.made (by decide) prog w A.in1 _ s₁ ⟨h₁.1, rfl, h₁.2⟩⟩
end
end LZ
end
section
set_option Elab.async false
set_option linter.all false
set_option maxRecDepth 100000
set_option maxHeartbeats 2000000
namespace LZ
open PySem PySem.Spec PyProof.Rows L2
theorem inv_many {X : Cx} {pins : List (Addr × Obj)} {σ : L2.St} {H H' : Hp} {s : Shared} {h' : Heap} {t' : Nat} (I : Inv X pins σ H s) (k : ∀ b o, s.heap.get? b = some o → h'.get? b = some o) (ext : ∀ b u, H b = some u → H' b = some u)
    (new : ∀ b u, H' b = some u → H b = some u ∨ (s.heap.objs.size ≤ b ∧ ObjOk X.prog X.w H' h' b u)) : Inv X pins σ H' { s with heap := h', toks := t' } := by
  refine I.step (t' := t') (g' := s.gens) (d' := s.drawn) (ch := []) (fun b hb => absurd hb (by simp)) (fun b o _ _ _ e _ => k b o e) (fun b o _ _ _ e _ => ⟨o.slots, k b o e⟩) (fun b o _ e n => ?_) (fun b o _ e => ⟨o, k b o e⟩) (fun b xs e => ext b _ e) (fun b o u e => ext b _ e) (fun b ps e => ⟨#[], by rw [ext b _ e]; simp⟩) (fun m hm => ?_) (fun b u e => ?_) I.bare
  · cases q : H' b with
    | none => rfl
    | some u =>
      rcases new b u q with z | ⟨z, _⟩
      · rw [n] at z
        cases z
      · exact absurd (Nat.lt_of_lt_of_le (Heap.lt_size e) z) (Nat.lt_irrefl _)
  · obtain ⟨o, es, ep, ho, r⟩ := hm
    exact ⟨o, es, ep, k _ o ho, r⟩
  · rcases new b u e with z | ⟨_, z⟩
    · exact (I.hok b u z).stay (fun c v _ q => k c v q) (fun c q => ext c _ q) fun c xs q => ext c _ q
    · exact z
def toA : Value → Addr
  | .ref T => T
  | _ => 0
theorem vals_refs : ∀ l : List Value, (∀ v ∈ l, ∃ T, v = .ref T) → Vals ((l.map toA).map V.ref) l
  | [], _ => .nil
  | v :: l, h => by
    obtain ⟨T, rfl⟩ := h v (by simp)
    exact .cons rfl (vals_refs l fun u hu => h u (by simp [hu]))
def tTZ (K : PySem.W.Frag) (ta : TA) : TE := fun σ H Q => ta σ H fun vs H1 => ∃ p q xs ys, vs = [.ref p, .ref q] ∧ SqL K H1 p xs ∧ SqL K H1 q ys ∧ xs.length ≤ 1000 ∧ ys.length ≤ 1000 ∧
  ∀ (H2 : Hp) (l : Addr) (Ts : List Addr), (∀ b u, H1 b = some u → H2 b = some u) → H1 l = none → H2 l = some (.tup (Ts.map V.ref)) → Ts.length = min xs.length ys.length → (∀ T ∈ Ts, ∃ x ∈ xs, ∃ y ∈ ys, H1 T = none ∧ H2 T = some (.tup [x, y])) → Q (.ref l) H2
theorem pe_tupzip {X : Cx} {e1 e2 : Expr} {ta : TA} {p p2 pos pos2 : Pos} (hg : Gl X "tuple") (hm : X.mg "tuple" = none) (hg2 : Gl X "zip") (hm2 : X.mg "zip" = none) (ha : PA X [e1, e2] ta) (hc : X.calm = true := by rfl)
    (hs : starEach [e1, e2] X.env = (false, eval e1 X.env) :: starEach [e2] X.env := by rfl) (hpl : (backTo pos2 (starEach [e2] X.env)).any (·.1) = false := by rfl) :
    PE X (.Call (.Name "tuple" p) [.Call (.Name "zip" p2) [e1, e2] [] pos2] [] pos) (tTZ X.K ta) := by
  refine ⟨fun pins s σ H Q I h => ?_⟩
  refine Call_ (ld_blt I hg hm boot_tuple ?_)
  refine PyProof.Rows.callWith_type1 (PyProof.Rows.args_cons ?_ rfl) rfl rfl
  refine Call_ (ld_blt I hg2 hm2 PyProof.Rows.boot_zip (PyProof.Rows.callWith_type1 (thn (ha.run pos2 pins s σ H _ I h) fun us s1 ⟨vs, H1, I1, r1, q1⟩ => ?_) hs hpl))
  obtain ⟨a, b, xs, ys, ex, hqx, hqy, lx, ly, q⟩ := q1
  subst ex
  cases r1 with
  | cons r rr =>
    cases rr with
    | cons r' rr =>
      cases rr
      cases r
      cases r'
      obtain ⟨its, rv, p1, _⟩ := I1.list hqx
      obtain ⟨its2, rv2, p2, _⟩ := I1.list hqy
      have l1 := rv.length
      have l2 := rv2.length
      refine call_zip_2 p1.isList p2.isList fun h' hz hTI hTO h1 h2 hsz hk => PyProof.Rows.args_nil ?_
      refine call_tup_zip (s := { s1 with heap := h' }) (n := min its.toArray.size its2.toArray.size) (I1.ok.hd hc) (PySem.W.ktu_apart s1.heap.objs.size a b p1.lt p2.lt) rfl ?_ hz hTI hTO h1 h2 (p1.isList.at fun o e => hk _ o e) (p2.isList.at fun o e => hk _ o e) fun h2' acc hk2 tk => ?_
      · rw [List.size_toArray]
        exact Nat.le_trans (Nat.min_le_left _ _) (Nat.le_trans (show its.length ≤ 1000 by omega) (by decide))
      have kp : ∀ b o, s1.heap.get? b = some o → h2'.get? b = some o := fun b o e => hk2 b o (fun m => by
        have hb := Heap.lt_size e
        simp only [List.mem_cons, List.not_mem_nil, or_false] at m
        rcases m with z | z | z | z
        · rw [z] at hb; exact Nat.lt_irrefl _ (Nat.lt_of_le_of_lt (Nat.le_add_right _ _) hb)
        · rw [z] at hb; exact Nat.lt_irrefl _ (Nat.lt_of_le_of_lt (Nat.le_add_right _ _) hb)
        · rw [z] at hb; exact Nat.lt_irrefl _ hb
        · rw [z] at hb; exact Nat.lt_irrefl _ (Nat.lt_of_le_of_lt (Nat.le_add_right _ _) hb)) (hk b o e)
      have kp2 : ∀ b o, s1.heap.get? b = some o → (h2'.push { cls := .type "tuple", data := .seq acc }).get? b = some o := fun b o e => Heap.get?_push_of_some _ (kp b o e)
      have isr : ∀ v ∈ acc.toList, ∃ T, v = .ref T := fun v hv => by
        obtain ⟨j, hj, e⟩ := List.mem_iff_getElem.mp hv
        obtain ⟨T, x, y, e1, _⟩ := tk.2 j (by rw [← tk.1]; simpa using hj)
        refine ⟨T, ?_⟩
        rw [← e]
        have e2 : acc.toList[j]? = some (.ref T) := by rw [Array.getElem?_toList]; exact e1
        rw [List.getElem?_eq_getElem hj] at e2
        exact Option.some.inj e2
      have inT : ∀ T ∈ acc.toList.map toA, ∃ x ∈ xs, ∃ y ∈ ys, ∃ u v, RelV x u ∧ RelV y v ∧ IsPair h2' T u v ∧ s1.heap.objs.size ≤ T := fun T hT => by
        obtain ⟨v, hv, e⟩ := List.mem_map.mp hT
        obtain ⟨j, hj, ej⟩ := List.mem_iff_getElem.mp hv
        have hjn : j < min its.toArray.size its2.toArray.size := by rw [← tk.1]; simpa using hj
        obtain ⟨T', x, y, e1, e2, e3, e4, e5⟩ := tk.2 j hjn
        have e6 : acc.toList[j]? = some (.ref T') := by rw [Array.getElem?_toList]; exact e1
        rw [List.getElem?_eq_getElem hj, ej] at e6
        have e7 : v = .ref T' := Option.some.inj e6
        rw [e7] at e
        have e8 : T' = T := e
        subst e8
        have hx : j < xs.length := by rw [l1]; simp at hjn; omega
        have hy : j < ys.length := by rw [l2]; simp at hjn; omega
        obtain ⟨u, hu, ru⟩ := rv.get (List.getElem?_eq_getElem hx)
        obtain ⟨v', hv', rv'⟩ := rv2.get (List.getElem?_eq_getElem hy)
        rw [List.getElem?_toArray, hu] at e2
        rw [List.getElem?_toArray, hv'] at e3
        have e2 := Option.some.inj e2
        have e3 := Option.some.inj e3
        subst e2 e3
        exact ⟨xs[j], List.getElem_mem hx, ys[j], List.getElem_mem hy, u, v', ru, rv', e4, Nat.le_trans (by show s1.heap.objs.size ≤ h'.objs.size; omega) e5⟩
      classical
      let H2 : Hp := fun b => if b = h2'.objs.size then some (.tup ((acc.toList.map toA).map V.ref)) else if hb : b ∈ acc.toList.map toA then some (.tup [(inT b hb).choose, (inT b hb).choose_spec.2.choose]) else H1 b
      have gt : ∀ T ∈ acc.toList.map toA, T < h2'.objs.size := fun T hT => by
        obtain ⟨_, _, _, _, _, _, _, _, e, _⟩ := inT T hT
        exact Heap.lt_size e
      have ge : s1.heap.objs.size ≤ h2'.objs.size := by
        have z := kp2
        have e := hk2 (s1.heap.objs.size + 2) _ (by simp) hTI
        exact Nat.le_trans (Nat.le_add_right _ _) (Nat.le_of_lt (Heap.lt_size e))
      have at_l : H2 h2'.objs.size = some (.tup ((acc.toList.map toA).map V.ref)) := if_pos rfl
      have at_T : ∀ T (hT : T ∈ acc.toList.map toA), H2 T = some (.tup [(inT T hT).choose, (inT T hT).choose_spec.2.choose]) := fun T hT => by
        show (if T = h2'.objs.size then _ else _) = _
        rw [if_neg (Nat.ne_of_lt (gt T hT)), dif_pos hT]
      have ext : ∀ b u, H1 b = some u → H2 b = some u := fun b u e => by
        have hb : b < s1.heap.objs.size := (I1.hok b u e).lt
        show (if b = h2'.objs.size then _ else _) = _
        rw [if_neg (Nat.ne_of_lt (Nat.lt_of_lt_of_le hb ge)), dif_neg (fun hT => by
          obtain ⟨_, _, _, _, _, _, _, _, _, e⟩ := inT b hT
          exact Nat.lt_irrefl _ (Nat.lt_of_lt_of_le hb e))]
        exact e
      have I2 : Inv X pins σ H2 { s1 with heap := h2'.push { cls := .type "tuple", data := .seq acc }, toks := s1.toks } := inv_many I1 kp2 ext fun b u e => by
        by_cases hb : b = h2'.objs.size
        · subst hb
          rw [at_l] at e
          cases e
          refine .inr ⟨ge, ⟨?_, acc.toList, vals_refs _ isr, ?_⟩⟩
          · rw [List.length_map, List.length_map, Array.length_toList, tk.1, List.size_toArray]
            exact Nat.le_trans (Nat.min_le_left _ _) (Nat.le_trans (show its.length ≤ 1000 by omega) (by decide))
          · rw [Array.toArray_toList]
            exact IsTup.new _ _
        · by_cases hT : b ∈ acc.toList.map toA
          · rw [at_T b hT] at e
            cases e
            obtain ⟨u, v, ru, rv', e4, e5⟩ := (inT b hT).choose_spec.2.choose_spec.2
            exact .inr ⟨e5, ⟨by show 2 ≤ sizeLine; decide, [u, v], .cons ru (.cons rv' .nil), ⟨_, Heap.get?_push_of_some _ e4, rfl, _, rfl⟩⟩⟩
          · refine .inl ?_
            have e' : (if b = h2'.objs.size then some (.tup ((acc.toList.map toA).map V.ref)) else if hb : b ∈ acc.toList.map toA then some (.tup [(inT b hb).choose, (inT b hb).choose_spec.2.choose]) else H1 b) = some u := e
            rw [if_neg hb, dif_neg hT] at e'
            exact e'
      refine ⟨.ref h2'.objs.size, H2, I2, rfl, q H2 h2'.objs.size (acc.toList.map toA) ext (I1.hok.fresh ge) at_l ?_ fun T hT => ⟨_, (inT T hT).choose_spec.1, _, (inT T hT).choose_spec.2.choose_spec.1, I1.hok.fresh ?_, at_T T hT⟩⟩
      · rw [List.length_map, Array.length_toList, tk.1, List.size_toArray, List.size_toArray, l1, l2]
      · obtain ⟨_, _, _, _, _, _, _, _, _, e⟩ := inT T hT
        exact e
end LZ
end
section
set_option Elab.async false
set_option linter.all false
set_option maxRecDepth 100000
set_option maxHeartbeats 2000000
namespace LZ
open PySem PySem.Spec PyProof.Rows L2
/-! ### zip(a tuple, a list) -/
theorem doneT {prog : Program} {w : World} {A : Around} (hh : A.handled = none) (it t : Addr) (hne : t ≠ it) (items : Array Value) {i : Nat} (hx : items[i]? = none) : Draws prog w A it [it, t] i (fun _ _ => True) (fun j h => j = i ∧ h.IsTupleIter it t i ∧ h.IsTuple t items) where
  live := fun _ _ st => let ⟨o, ho, _⟩ := st.2.1; ⟨o, ho⟩
  frame := fun _ _ _ st hk => ⟨st.1, st.2.1.at fun o e => hk it (by simp) o e, st.2.2.at fun o e => hk t (by simp) o e⟩
  item := fun j s Q E hj st hQ => absurd st.1 (Nat.ne_of_lt hj)
  done := fun s Q E st hE => wpAny_nextOf_tuple_end hh st.2.1 st.2.2 hx hE
theorem doneL {prog : Program} {w : World} {A : Around} (hh : A.handled = none) (it t : Addr) (hne : t ≠ it) (items : Array Value) {i : Nat} (hx : items[i]? = none) : Draws prog w A it [it, t] i (fun _ _ => True) (fun j h => j = i ∧ h.IsListIter it t i ∧ h.IsList t items) where
  live := fun _ _ st => let ⟨o, ho, _⟩ := st.2.1; ⟨o, ho⟩
  frame := fun _ _ _ st hk => ⟨st.1, st.2.1.at fun o e => hk it (by simp) o e, st.2.2.at fun o e => hk t (by simp) o e⟩
  item := fun j s Q E hj st hQ => absurd st.1 (Nat.ne_of_lt hj)
  done := fun s Q E st hE => wpAny_nextOf_list_end hh st.2.1 st.2.2 hx hE
theorem sep_of {z TI TO i1 i2 a b : Addr} (D : ZipApart z TI TO i1 i2 a b) : ZipSep2 z TI TO i1 i2 [i1, a] [i2, b] :=
  ⟨D.TIz, D.TOz, D.TITO, D.TIi1, by simp, by simp [D.i1z.symm, D.l1z.symm], by simp [D.TOi1, D.l1TO.symm], D.TIi2, by simp, by simp [D.i2z.symm, D.l2z.symm], by simp [D.TOi2, D.l2TO.symm], by simp [D.i12, D.l2i1.symm], by simp [D.i12.symm, D.l1i2.symm]⟩
def ItzM (K : PySem.W.Frag) (a b : Addr) : It :=
  ⟨fun i H => ∃ (xs ys : List V) (x y : V), SqT K H a xs ∧ SqL K H b ys ∧ xs[i]? = some x ∧ ys[i]? = some y,
    fun i H v H' => ∃ T x y, v = .ref T ∧ H T = none ∧ H' = upd H T (.tup [x, y]) ∧ (∀ xs, SqT K H a xs → xs[i]? = some x) ∧ ∀ ys, SqL K H b ys → ys[i]? = some y,
    fun i H => ∃ xs ys : List V, SqT K H a xs ∧ SqL K H b ys ∧ (xs.length ≤ i ∨ ys.length ≤ i)⟩
theorem turn_zipM {P : Program} {w : World} {K : PySem.W.Frag} {elts : List Expr} {kk : Nat} {tpos : Pos} {a b z TI TO i1 i2 : Addr} (D : ZipApart z TI TO i1 i2 a b) :
    Turn P w K (.Tuple elts kk tpos) (ItzM K a b) [z, TI, TO, i1, i2] z (fun i h => IsZip h z TI TO .none ∧ IsPair h TI (.ref i1) (.ref i2) ∧ (∃ x y, IsPair h TO x y) ∧ h.IsTupleIter i1 a i ∧ h.IsListIter i2 b i) where
  mem := by simp
  obj := fun i h st c hc => by
    obtain ⟨hz, hTI, ⟨x, y, hTO⟩, ⟨o1, e1, _, d1⟩, ⟨o2, e2, _, d2⟩⟩ := st
    rcases (show c = z ∨ c = TI ∨ c = TO ∨ c = i1 ∨ c = i2 by simpa using hc) with q | q | q | q | q
    · rw [q]; exact ⟨_, hz, fun v q => nomatch q⟩
    · rw [q]; exact ⟨_, hTI, fun v q => nomatch q⟩
    · rw [q]; exact ⟨_, hTO, fun v q => nomatch q⟩
    · rw [q]; exact ⟨o1, e1, fun v q => by rw [d1] at q; cases q⟩
    · rw [q]; exact ⟨o2, e2, fun v q => by rw [d2] at q; cases q⟩
  keep := fun i h h' st k => by
    obtain ⟨hz, hTI, ⟨x, y, hTO⟩, h1, h2⟩ := st
    exact ⟨k z (by simp) _ hz, k TI (by simp) _ hTI, ⟨x, y, k TO (by simp) _ hTO⟩, h1.at fun o q => k i1 (by simp) o q, h2.at fun o q => k i2 (by simp) o q⟩
  item := by
    intro X hP hw hK hc i pins s σ H E I hf st hg
    subst hP hw hK
    obtain ⟨hz, hTI, hTO, h1, h2⟩ := st
    obtain ⟨xs, ys, x, y, hqx, hqy, hx, hy⟩ := hg
    obtain ⟨its, rv, p, _⟩ := I.tuple hqx
    obtain ⟨its2, rv2, p2, _⟩ := I.list hqy
    obtain ⟨u, hu, ru⟩ := rv.get hx
    obtain ⟨u2, hu2, ru2⟩ := rv2.get hy
    have hh : X.A.in1.handled = none := I.ok.hd hc
    have i1' : i < its.length := by
      rcases Nat.lt_or_ge i its.length with q | q
      · exact q
      · rw [List.getElem?_eq_none q] at hu; cases hu
    have i2' : i < its2.length := by
      rcases Nat.lt_or_ge i its2.length with q | q
      · exact q
      · rw [List.getElem?_eq_none q] at hu2; cases hu2
    have W := WalksT.zipD2 (sep_of D) (Draws.tuple (prog := X.prog) (w := X.w) (A := X.A.in1) hh i1 a D.l1i1 its.toArray) (Draws.list (prog := X.prog) (w := X.w) (A := X.A.in1) hh i2 b D.l2i2 its2.toArray)
    refine W.item i s _ _ (by simp; omega) ⟨hz, hTI, hTO, ⟨h1, p⟩, ⟨h2, p2.isList⟩⟩ fun T vals h' tk hv hsz hT mid hk => ?_
    obtain ⟨w1, w2, hw1, hw2, rfl⟩ := hv
    have e1 : w1 = u := by
      have q : its.toArray[i]? = some w1 := hw1
      rw [List.getElem?_toArray, hu] at q
      exact (Option.some.inj q).symm
    have e2 : w2 = u2 := by
      have q : its2.toArray[i]? = some w2 := hw2
      rw [List.getElem?_toArray, hu2] at q
      exact (Option.some.inj q).symm
    subst e1 e2
    refine ⟨_, rfl, W.go elts kk tpos i T { s with heap := h', toks := tk } _ _ mid fun h'' st'' hk'' => ?_⟩
    obtain ⟨oT, hT1, hT2, hT3⟩ := hT
    have hTo := hk'' T oT (W.apart i T h' mid) hT1
    have new : ObjOk X.prog X.w (upd H T (.tup [x, y])) h'' T (.tup [x, y]) := ⟨by show 2 ≤ sizeLine; decide, [w1, w2], .cons ru (.cons ru2 .nil), ⟨oT, hTo, hT2, hT3⟩⟩
    have I1 : Inv X pins σ (upd H T (.tup [x, y])) { s with heap := h'', toks := tk } := I.turnedNew (t' := tk) (ch := [z, TI, TO, i1, i2]) (fun c o hb q => hk'' c o (fun m => hb (by simp at m ⊢; rcases m with m | m | m | m <;> simp [m])) (hk c o (fun m => hb (by simp at m ⊢; rcases m with m | m | m | m <;> simp [m])) q)) hf hsz new
    refine ⟨.ref T, _, I1, rfl, ⟨T, x, y, rfl, I.hok.fresh hsz, rfl, fun l hl => by rw [I.tuple_inj hl hqx]; exact hx, fun l hl => by rw [I.list_inj hl hqy]; exact hy⟩, ⟨st''.1, st''.2.1, st''.2.2.1, st''.2.2.2.1.1, st''.2.2.2.2.1⟩, fun c hcm => ?_⟩
    have hlt : c < s.heap.objs.size := by
      rcases (show c = z ∨ c = TI ∨ c = TO ∨ c = i1 ∨ c = i2 by simpa using hcm) with q | q | q | q | q
      · rw [q]; exact Heap.lt_size hz
      · rw [q]; exact Heap.lt_size hTI
      · rw [q]; obtain ⟨_, _, hTO⟩ := hTO; exact Heap.lt_size hTO
      · rw [q]; obtain ⟨_, e1, _⟩ := h1; exact Heap.lt_size e1
      · rw [q]; obtain ⟨_, e2, _⟩ := h2; exact Heap.lt_size e2
    rw [upd_ne (Nat.ne_of_lt (Nat.lt_of_lt_of_le hlt hsz))]
    exact (hf c hcm).1
  done := by
    intro X hP hw hK hc i pins s σ H E I hf st hg
    subst hP hw hK
    obtain ⟨hz, hTI, hTO, h1, h2⟩ := st
    obtain ⟨xs, ys, hqx, hqy, hend⟩ := hg
    obtain ⟨its, rv, p, _⟩ := I.tuple hqx
    obtain ⟨its2, rv2, p2, _⟩ := I.list hqy
    have l1 := rv.length
    have l2 := rv2.length
    have hh : X.A.in1.handled = none := I.ok.hd hc
    have fin : ∀ (h' : Heap) (tk : Nat), (∀ b o, b ∉ [z, TO, i1, i2] → s.heap.get? b = some o → h'.get? b = some o) → Inv X pins σ H { s with heap := h', toks := tk } := fun h' tk hk => I.turnedL (t' := tk) (ch := [z, TI, TO, i1, i2]) (fun c o hb q => hk c o (fun m => hb (by simp at m ⊢; rcases m with m | m | m | m <;> simp [m])) q) hf
    by_cases e1 : i < its.length
    · have e2 : ¬ i < its2.length := by omega
      have W := WalksT.zipD2 (sep_of D) (Draws.tuple (prog := X.prog) (w := X.w) (A := X.A.in1) hh i1 a D.l1i1 its.toArray) (doneL (prog := X.prog) (w := X.w) (A := X.A.in1) hh i2 b D.l2i2 its2.toArray (i := i) (by simp; omega))
      have hm : min its.toArray.size i = i := by simp; omega
      refine W.done s _ _ (by rw [hm]; exact ⟨hz, hTI, hTO, ⟨h1, p⟩, ⟨rfl, h2, p2.isList⟩⟩) fun h' tk hk => ⟨rfl, fin h' tk hk⟩
    · by_cases e2 : i < its2.length
      · have W := WalksT.zipD2 (sep_of D) (doneT (prog := X.prog) (w := X.w) (A := X.A.in1) hh i1 a D.l1i1 its.toArray (i := i) (by simp; omega)) (Draws.list (prog := X.prog) (w := X.w) (A := X.A.in1) hh i2 b D.l2i2 its2.toArray)
        have hm : min i its2.toArray.size = i := by simp; omega
        refine W.done s _ _ (by rw [hm]; exact ⟨hz, hTI, hTO, ⟨rfl, h1, p⟩, ⟨h2, p2.isList⟩⟩) fun h' tk hk => ⟨rfl, fin h' tk hk⟩
      · have W := WalksT.zipD2 (sep_of D) (doneT (prog := X.prog) (w := X.w) (A := X.A.in1) hh i1 a D.l1i1 its.toArray (i := i) (by simp; omega)) (doneL (prog := X.prog) (w := X.w) (A := X.A.in1) hh i2 b D.l2i2 its2.toArray (i := i) (by simp; omega))
        refine W.done s _ _ (by rw [Nat.min_self]; exact ⟨hz, hTI, hTO, ⟨rfl, h1, p⟩, ⟨rfl, h2, p2.isList⟩⟩) fun h' tk hk => ⟨rfl, fin h' tk hk⟩
  self := fun A i s Q E st h => wpAny_pyIter_zip st.1 h
def iZipM (K : PySem.W.Frag) (ta : TA) : TI := fun σ H R => ta σ H fun vs H1 => ∃ a b xs ys, vs = [.ref a, .ref b] ∧ SqT K H1 a xs ∧ SqL K H1 b ys ∧ R (ItzM K a b) H1
theorem pi_zipM {X : Cx} {e e2 : Expr} {ta : TA} {p pos tpos : Pos} {elts : List Expr} {kk : Nat} (hg : Gl X "zip") (hm : X.mg "zip" = none) (ha : PA X [e, e2] ta)
    (hs : starEach [e, e2] X.env = (false, eval e X.env) :: starEach [e2] X.env := by rfl) (hpl : (backTo pos (starEach [e2] X.env)).any (·.1) = false := by rfl) :
    PI X (.Tuple elts kk tpos) (.Call (.Name "zip" p) [e, e2] [] pos) (iZipM X.K ta) := by
  refine ⟨fun pins s σ H R I h => ?_⟩
  refine Call_ (ld_blt I hg hm PyProof.Rows.boot_zip (PyProof.Rows.callWith_type1 (thn (ha.run pos pins s σ H _ I h) fun us s1 ⟨vs, H1, I1, r1, q1⟩ => ?_) hs hpl))
  obtain ⟨a, b, xs, ys, ex, hqx, hqy, q⟩ := q1
  subst ex
  cases r1 with
  | cons r rr =>
    cases rr with
    | cons r' rr =>
      cases rr
      cases r
      cases r'
      obtain ⟨its, rv, p1, _⟩ := I1.tuple hqx
      obtain ⟨its2, rv2, p2, _⟩ := I1.list hqy
      obtain ⟨o1, ho1, _⟩ := id p1
      refine zip_begins2 (begins_tuple a its.toArray) (begins_list b its2.toArray) p1 p2.isList fun h' hz hTI hTO h1 h2 hsz hk => wpAny_pyIter_zip hz ?_
      have I2 : Inv X pins σ H1 { s1 with heap := h' } := I1.kept (t' := s1.toks) hk
      refine ⟨s1.heap.objs.size + 4, [s1.heap.objs.size + 4, s1.heap.objs.size + 2, s1.heap.objs.size + 3, s1.heap.objs.size, s1.heap.objs.size + 1], _, _, H1, rfl, I2, turn_zipM (PySem.W.ktu_apart s1.heap.objs.size a b (Heap.lt_size ho1) p2.lt), ⟨hz, hTI, ⟨_, _, hTO⟩, ⟨_, h1, rfl, rfl⟩, ⟨_, h2, rfl, rfl⟩⟩, fun c hcm => ?_, q⟩
      have hle : s1.heap.objs.size ≤ c := by
        rcases (show c = s1.heap.objs.size + 4 ∨ c = s1.heap.objs.size + 2 ∨ c = s1.heap.objs.size + 3 ∨ c = s1.heap.objs.size ∨ c = s1.heap.objs.size + 1 by simpa using hcm) with z | z | z | z | z
        · rw [z]; exact Nat.le_add_right _ _
        · rw [z]; exact Nat.le_add_right _ _
        · rw [z]; exact Nat.le_add_right _ _
        · rw [z]; exact Nat.le_refl _
        · rw [z]; exact Nat.le_add_right _ _
      exact I1.fpOk hle (I1.hok.fresh hle)
end LZ
end
section
set_option Elab.async false
set_option linter.all false
set_option maxRecDepth 100000
set_option maxHeartbeats 1000000
set_option exponentiation.threshold 20000
namespace LT
open PySem PySem.Spec PyProof.Rows L2 LL
abbrev N__law_legs : List Str := ["_law_bag_here", "_law_spacing", "_law_many", "_law_froms", "_law_tos", "_law_x", "_law_y", "_law_count", "_law_a", "_law_b"]
theorem sc__law_legs : FnScope N__law_legs ["_law_bag_here", "_law_spacing", "_law_many"] (defScope LH.s__law_legs) := ⟨rfl, rfl, rfl, by decide +kernel, rfl, by decide +kernel, by decide +kernel⟩
abbrev N__law_flight_legs : List Str := ["_law_bag_here", "_law_spacing", "_law_legs_here", "_law_tos", "_law_one", "_law_to", "_law_leg"]
theorem sc__law_flight_legs : FnScope N__law_flight_legs ["_law_bag_here", "_law_spacing"] (defScope LH.s__law_flight_legs) := ⟨rfl, rfl, rfl, by decide +kernel, rfl, by decide +kernel, by decide +kernel⟩
abbrev N__law_bound_legs : List Str := ["_law_bag_here", "_law_bounds_here", "_law_legs_here", "_law_reach_here"]
theorem sc__law_bound_legs : FnScope N__law_bound_legs ["_law_bag_here"] (defScope LH.s__law_bound_legs) := ⟨rfl, rfl, rfl, by decide +kernel, rfl, by decide +kernel, by decide +kernel⟩
abbrev yLgE (K : PySem.W.Frag) : Ty := yE fun n : Nat => yW (1 ≤ n ∧ n ≤ 5) (yLgs K n)
abbrev yLgB (K : PySem.W.Frag) : Ty := yE fun n : Nat => yW (n ≤ 5) (yLgs K n)
abbrev yBL (K : PySem.W.Frag) : Ty := yE fun b : Bd => yW (BdOk b) (yT K [yBd K b, yLgB K])
def sp__law_legs (K : PySem.W.Frag) : Sp := spB (fun g : Int × Int => [yI g.1, yI g.2]) (fun g => SpOk g.1 ∧ 1 ≤ g.2 ∧ g.2 ≤ 5) (fun _ => yLgE K)
def sp__law_flight_legs (K : PySem.W.Frag) : Sp := spB (fun g : Int => [yI g]) SpOk (fun _ => yLgB K)
def sp__law_bound_legs (K : PySem.W.Frag) : Sp := spB (fun _ : Unit => []) (fun _ => True) (fun _ => yBL K)
section
variable {Γ Γ' : Tys} {W W0 : Wd} {R S : Ty} {Rs : List Ty} {ta tb te th : TE} {t : TA} {K : PySem.W.Frag} {b l : Addr} {N : Nx} {u : TS}
theorem ee__law_flight_legs {s : Int} (B : IsBag b W) (ha : EE ta Γ W (yAt b)) (hb : EE tb Γ W (yI s)) (hp : SpOk s) : EE (tCall (sp__law_flight_legs K) [] E0 (tCons ta (tCons tb tNil))) Γ W (yLgB K) := ee_callB B s (ea_cons ha (ea_cons hb ea_nil)) hp
theorem ee__law_bound_legs (B : IsBag b W) (ha : EE ta Γ W (yAt b)) : EE (tCall (sp__law_bound_legs K) [] E0 (tCons ta tNil)) Γ W (yBL K) := ee_callB B () (ea_cons ha ea_nil) trivial
theorem all_mem {G : Hp} : ∀ {n : Nat} {xs : List V} {x : V}, AllR (List.replicate n R) xs G → x ∈ xs → R.r x G
  | n + 1, y :: xs, x, a, h => by
    rcases List.mem_cons.mp h with z | z
    · rw [z]; exact a.1
    · exact all_mem (n := n) (xs := xs) a.2 z
  | 0, _ :: _, _, a, _ => a.elim
  | _, [], _, _, h => by simp at h
theorem all_of {G : Hp} : ∀ {xs : List V}, (∀ x ∈ xs, R.r x G) → AllR (List.replicate xs.length R) xs G
  | [], _ => trivial
  | x :: xs, h => ⟨h x (by simp), all_of fun y hy => h y (by simp [hy])⟩
theorem ee_tz {n m : Nat} (h : EA t Γ W [yL (List.replicate n R), yL (List.replicate m S)]) (hn : n ≤ 1000) (hm : m ≤ 1000) : EE (LZ.tTZ K t) Γ W (yT K (List.replicate (min n m) (yT K [R, S]))) := fun σ G H o s w Q q =>
  h σ G H o s w _ fun vs G1 H1 g1 s1 w1 r1 => by
    obtain ⟨v, v', rfl, ⟨p, xs, rfl, hp, ap⟩, ⟨p', ys, rfl, hp', ap'⟩⟩ := r1.two
    have l1 := ap.len
    have l2 := ap'.len
    rw [List.length_replicate] at l1 l2
    refine ⟨p, p', xs, ys, rfl, .inl (.inl (s1 _ _ hp)), .inl (.inl (s1 _ _ hp')), by omega, by omega, fun H2 l Ts ext hl el hT hTs => ?_⟩
    let G2 : Hp := fun a => match H1 a with
      | none => H2 a
      | some _ => G1 a
    have at0 : ∀ a, H1 a = none → G2 a = H2 a := fun a e => by show (match H1 a with | none => H2 a | some _ => G1 a) = _; rw [e]
    have at1 : ∀ a o, H1 a = some o → G2 a = G1 a := fun a o e => by show (match H1 a with | none => H2 a | some _ => G1 a) = _; rw [e]
    have gs : GS G1 H1 G2 H2 := ⟨fun a x e => by rw [at1 a x (s1 _ _ e)]; exact e, ext, fun a x e => by
      cases e1 : H1 a with
      | none => rw [at0 a e1] at e; exact e
      | some o =>
        rw [at1 a o e1] at e
        exact ext _ _ (s1 _ _ e), fun a h1 h2 => by
      cases e1 : H1 a with
      | none => exact absurd e1 h1
      | some o => rw [at1 a o e1]; exact h2⟩
    refine q (.ref l) G2 H2 (g1.trans gs.g) gs.sub (W.pure _ _ _ _ s1 w1 gs) ⟨l, Ts.map V.ref, rfl, .inl (.inl (by rw [at0 l hl]; exact el)), ?_⟩
    have hlen : (Ts.map V.ref).length = min n m := by rw [List.length_map, hT, l1, l2]
    rw [← hlen]
    refine all_of fun x hx => ?_
    obtain ⟨T, hTm, rfl⟩ := List.mem_map.mp hx
    obtain ⟨x, hx, y, hy, e1, e2⟩ := hTs T hTm
    exact ⟨T, [x, y], rfl, .inl (.inl (by rw [at0 T e1]; exact e2)), R.mono _ _ _ gs.g (all_mem ap hx), S.mono _ _ _ gs.g (all_mem ap' hy), trivial⟩
theorem ei_zipM {Rs' : List Ty} (h : EA t Γ W [yT K Rs, yL Rs']) : EI (LZ.iZipM K t) Γ W (min Rs.length Rs'.length) (fun i => yT K [Rs.getD i yN, Rs'.getD i yN]) := fun σ G H o s w Rr q =>
  h σ G H o s w _ fun vs G1 H1 g1 s1 w1 r1 => by
    obtain ⟨v, v', rfl, ⟨p, xs, rfl, hp, ap⟩, ⟨p', ys, rfl, hp', ap'⟩⟩ := r1.two
    have hs : ∀ {G H}, Same G1 G → Same G H → SqT K H p xs := fun a b => same_t b (same_t a hp)
    have hs' : ∀ {G H}, Same G1 G → Same G H → SqL K H p' ys := fun a b => .inl (.inl (b _ _ (a _ _ hp')))
    have l1 := ap.len
    have l2 := ap'.len
    refine ⟨p, p', xs, ys, rfl, hs (Same.refl _) s1, hs' (Same.refl _) s1, q _ G1 H1 g1 s1 w1 ⟨fun i G H hi a b => ?_, fun i G H x H' hi a b y => ?_, fun G H a b => ⟨xs, ys, hs a b, hs' a b, by omega⟩⟩⟩
    · have hx : i < xs.length := by omega
      have hy : i < ys.length := by omega
      exact ⟨xs, ys, xs[i], ys[i], hs a b, hs' a b, List.getElem?_eq_getElem hx, List.getElem?_eq_getElem hy⟩
    · obtain ⟨T, x1, x2, rfl, nT, rfl, f1, f2⟩ := y
      obtain ⟨R1, e1, k1⟩ := ap.getv (f1 xs (hs a b))
      obtain ⟨R2, e2, k2⟩ := ap'.getv (f2 ys (hs' a b))
      have gs := GS.new (o := .tup [x1, x2]) b nT
      refine ⟨_, gs, T, [x1, x2], rfl, .inl (.inl upd_same), ?_, ?_, trivial⟩
      · rw [getD_some e1]
        exact R1.mono _ _ _ (a.trans gs.g) k1
      · rw [getD_some e2]
        exact R2.mono _ _ _ (a.trans gs.g) k2
theorem rep_getD {n i : Nat} (h : i < n) : (List.replicate n R).getD i S = R := getD_some (by rw [List.getElem?_replicate, if_pos h])
theorem cut_rep {n k : Nat} (h : k ≤ n) : cutT (List.replicate n R) none (some (k : Int)) = List.replicate k R := by
  rw [cut_to (by rw [List.length_replicate]; exact h), List.take_replicate, Nat.min_eq_left h]
/-- a tuple up to an unknown place -/
theorem ee_slU {n : Nat} {c d : Int} (h : EE te Γ W (yT K (List.replicate n R))) (h1 : EE th Γ W (yIr c d)) (hc : 0 ≤ c) : EE (tSl (rSlA K) te tNoPart (tPart th)) Γ W (yE fun k : Nat => yW (k ≤ n) (yT K (List.replicate k R))) := fun σ G H o s w Q q =>
  h σ G H o s w _ fun x G1 H1 g1 s1 w1 r1 => h1 σ G1 H1 (o.mono g1) s1 w1 _ fun v G2 H2 g2 s2 w2 ⟨i, hi, r2⟩ => ⟨i, r2, by
    have e : cutT (List.replicate n R) none (some i) = List.replicate (min i.toNat n) R := by
      unfold cutT
      have e2 : i = ((i.toNat : Nat) : Int) := by omega
      rw [HT.sIx_none, e2, HT.sIx_nat, List.drop_zero, List.length_replicate, Nat.sub_zero, List.take_replicate, Int.toNat_natCast]
      congr 1
      omega
    have hh := ee_slT (K := K) (te := te) (Γ := Γ) (W := W) (Rs := List.replicate n R) (lo := none) (hi := some i) (tl := tNoPart) (th := tPart (tC (.int i))) h eo_none (eo_some ee_i)
    obtain ⟨p, xs, rfl, hp, a⟩ := (yT K (List.replicate n R)).mono _ _ _ g2 r1
    refine ⟨p, xs, rfl, same_t s2 hp, fun hw => ?_, fun hw l hl => ?_⟩
    · refine q _ G2 H2 (g1.trans g2) s2 w2 ⟨min i.toNat n, Nat.min_le_right _ _, p, xs, rfl, hp, ?_⟩
      have ec : cutV xs none (some i) = xs := by
        unfold cutV
        rw [hw.1, hw.2]
        simp
      have c := cut_all (lo := none) (hi := some i) a
      rw [ec, e] at c
      exact c
    · have gs := GS.new (o := .tup (cutV xs none (some i))) s2 hl
      refine q _ _ _ ((g1.trans g2).trans gs.g) gs.sub (W.pure _ _ _ _ s2 w2 gs) ⟨min i.toNat n, Nat.min_le_right _ _, l, _, rfl, .inl (.inl upd_same), ?_⟩
      have c := cut_all (lo := none) (hi := some i) a
      rw [e] at c
      exact c.mono gs.g⟩
end
section
variable {P : Program} {w : World} {K : PySem.W.Frag} {mg : Str → Option Value} {base : Heap} {cN cO cA cW : Addr}
theorem d__law_legs (B : Blt K mg cN cO cA cW) (R : Raw K mg "_law_legs" LH.s__law_legs) (D__law_uncrossed : Def P w K mg base 3 "_law_uncrossed" ["_law_legs_here"] (sp__law_uncrossed K)) (D__law_spaced : Def P w K mg base 3 "_law_spaced" ["_law_bag_here", "_law_spacing", "_law_many"] (sp__law_spaced K)) (D__law_take : Def P w K mg base 1 "_law_take" ["_law_bag_here", "_law_many"] (sp__law_take K)) (D__law_mixed : Def P w K mg base 2 "_law_mixed" ["_law_bag_here", "_law_things"] (sp__law_mixed K)) : Def P w K mg base 4 "_law_legs" ["_law_bag_here", "_law_spacing", "_law_many"] (sp__law_legs K) := by
  refine def_mkB R sc__law_legs (fun _ _ _ _ _ _ us hl => match us, hl with | [_, _, _], _ => rfl) (fun _ => rfl) fun f cdv A outer s H E hr => ⟨_, (pss_cons (ps_par (i := 3) (j := 4) rfl sc__law_legs.nd rfl rfl (by decide) rfl rfl (pa_cons (pe_cd D__law_spaced hr (by decide) (pa_cons (pv 0) (pa_cons (pv 1) (pa_cons (pv 2) pa_nil)))) (pa_cons (pe_cd D__law_spaced hr (by decide) (pa_cons (pv 0) (pa_cons (pv 1) (pa_cons (pv 2) pa_nil)))) pa_nil)) (by rfl))
      (pss_cons (ps_if (pt_cmpR op_eq (pe_cd D__law_take hr (by decide) (pa_cons (pv 0) (pa_cons pe_int pa_nil))) pe_int (nomark _)) (pss_cons (ps_asg (pe_tup (pa_cons (pe_cd D__law_take hr (by decide) (pa_cons (pv 0) (pa_cons (pe_op op_add (pe_op op_mul pe_int (pv 1)) pe_int) pa_nil))) (pa_cons (pe_cd D__law_take hr (by decide) (pa_cons (pv 0) (pa_cons (pe_op op_add (pe_op op_mul pe_int (pv 1)) pe_int) pa_nil))) pa_nil))) (pg_tup rfl (pgs_cons (pg_name (i := 5) sc__law_legs.nd rfl (.inr rfl)) (pgs_cons (pg_name (i := 6) sc__law_legs.nd rfl (.inr rfl)) pgs_nil))))
      (pss_one (ps_setLc (i := 4) (own := [("_law_a", 8), ("_law_b", 9)]) (g := gTup K 2 (gCons (gName 8) (gCons (gName 9) gNil))) (tt := tYes) (te := (tTup (tCons (tOp (rI0 fun i j => .int (i + j)) (tVar 8) (tVar 5)) (tCons (tOp (rI0 fun i j => .int (i + j)) (tVar 9) (tVar 6)) tNil)))) rfl sc__law_legs.nd rfl rfl (sw_true rfl rfl rfl (by decide +kernel)) (pi_list (pv 3)) (blkOk_by (N := N__law_legs) (sc := defScope LH.s__law_legs) (by decide +kernel)) (fun _ _ _ _ _ => (pg_tup rfl (pgs_cons (pg_name (i := 8) sc__law_legs.nd rfl (.inl rfl)) (pgs_cons (pg_name (i := 9) sc__law_legs.nd rfl (.inl rfl)) pgs_nil)))) (fun _ _ _ _ _ => pts_nil) (fun _ _ _ _ _ => (pe_tup (pa_cons (pe_op op_add (pv 8) (pv 5)) (pa_cons (pe_op op_add (pv 9) (pv 6)) pa_nil))))))) pss_nil)
      (pss_cons (ps_set (i := 7) sc__law_legs.nd rfl (.inl rfl) (pe_callB (call_min2 rfl) rfl B.min (by decide +kernel) (pa_cons (pe_callB call_len_seq rfl B.len (by decide +kernel) (pa_cons (pv 3) pa_nil)) (pa_cons (pe_callB call_len_seq rfl B.len (by decide +kernel) (pa_cons (pv 4) pa_nil)) pa_nil))))
      (pss_one (ps_ret (pe_cd D__law_uncrossed hr (by decide) (pa_cons (LZ.pe_tupzip rfl B.tuple rfl B.zip (pa_cons (pe_slice sl_list (pv 3) po_none (po_some (pv 7))) (pa_cons (pe_cd D__law_mixed hr (by decide) (pa_cons (pv 0) (pa_cons (pe_slice sl_list (pv 4) po_none (po_some (pv 7))) pa_nil))) pa_nil))) pa_nil))))))), fun ⟨s, m⟩ ⟨hs, hm⟩ b W BG => ?_⟩
  have hs1 : 1 ≤ s := hs.1
  have hs2 : s ≤ 100 := hs.2
  show SS _ [some (yAt b), some (yI s), some (yI m), none, none, none, none, none, none, none] W _ W (yLgE K)
  refine ss_par (ea_cons (ee__law_spaced BG (ee_var rfl) (ee_var rfl) (ee_var rfl) ⟨hs, hm⟩) (ea_cons (ee__law_spaced BG (ee_var rfl) (ee_var rfl) (ee_var rfl) ⟨hs, hm⟩) ea_nil)) ?_
  refine ss_openE (i := 3) rfl fun n1 => ss_openW (i := 3) rfl fun h1 => ?_
  show SS _ [some (yAt b), some (yI s), some (yI m), some (yL (List.replicate n1 (yPt K 3000))), some (ySp K), none, none, none, none, none] W _ W (yLgE K)
  have z0 : ∀ {Γ : Tys} {W' : Wd}, EE (tC (.int 0)) Γ W' (yIr 0 0) := ee_ir ⟨by decide, by decide⟩
  refine ss_ifUJ [some (yAt b), some (yI s), some (yI m), some (yL (List.replicate n1 (yPt K 3000))), some (yE fun n : Nat => yW (1 ≤ n ∧ n ≤ 5) (yL (List.replicate n (yPt K 4000)))), none, none, none, none, none] W (eu_test (ee_op (ee__law_take BG (ee_var rfl) ee_i ⟨by decide, by decide⟩) z0 or_eq)) ?_ ?_ ?_
  · refine ss_set (R := yT K [yIr 0 400, yIr 0 400]) (ee_tup (ea_cons (EE.wid (ee__law_take BG (ee_var rfl) (ee_op (ee_op ee_i (ee_var rfl) (ot_mul (c2 (by decide)))) ee_i ot_add) ⟨by omega, by omega⟩) ⟨by omega, by omega⟩) (ea_cons (EE.wid (ee__law_take BG (ee_var rfl) (ee_op (ee_op ee_i (ee_var rfl) (ot_mul (c2 (by decide)))) ee_i ot_add) ⟨by omega, by omega⟩) ⟨by omega, by omega⟩) ea_nil)) (lle rfl)) (gt_tup (gts_cons gt_name (gts_cons gt_name gts_nil)) rfl) ?_
    show SS _ [some (yAt b), some (yI s), some (yI m), some (yL (List.replicate n1 (yPt K 3000))), some (ySp K), some (yIr 0 400), some (yIr 0 400), none, none, none] W _ W (yLgE K)
    refine ss_last (ss_asg (R := yE fun n : Nat => yW (1 ≤ n ∧ n ≤ 5) (yL (List.replicate n (yPt K 4000)))) (EE.sub (ee_lc (js := [8, 9]) (F := fun _ => yPt K 4000) (fun _ => true) (fun _ => [some (yAt b), some (yI s), some (yI m), some (yL (List.replicate n1 (yPt K 3000))), some (ySp K), some (yIr 0 400), some (yIr 0 400), none, some (yIr (-3000) 3000), some (yIr (-3000) 3000)]) (ei_rep (ee_var rfl)) (by omega) (fun i hi => gt_tup (gts_cons gt_name (gts_cons gt_name gts_nil)) rfl) (by decide) (fun i W' hi => et_yes) (fun i W' hi _ => ee_pt (ee_op (ee_var rfl) (ee_var rfl) or_add) (ee_op (ee_var rfl) (ee_var rfl) or_add) ⟨by decide, by decide⟩ ⟨by decide, by decide⟩)) fun v H hv => ⟨n1, h1, by rw [made_rep] at hv; exact hv⟩) (ss_nX (fun σ G o => (o.forget 5).forget 6) (Wd.le.refl _)))
  · exact ss_as (Ra := yE fun n : Nat => yW (1 ≤ n ∧ n ≤ 5) (yL (List.replicate n (yPt K 4000)))) (i := 4) rfl (fun v H ⟨n, hn, hv⟩ => ⟨n, hn, yL_le (sub2_rep (pt_le (by decide)) n) v H hv⟩) (ss_nX (fun σ G o => o) (Wd.le.refl _))
  · refine ss_openE (i := 4) rfl fun n2 => ss_openW (i := 4) rfl fun h2 => ?_
    show SS _ [some (yAt b), some (yI s), some (yI m), some (yL (List.replicate n1 (yPt K 3000))), some (yL (List.replicate n2 (yPt K 4000))), none, none, none, none, none] W _ W (yLgE K)
    refine ss_asg (R := yI ((min n1 n2 : Nat) : Int)) (ee_ieq (ee_cb (ea_cons (ee_cb (ea_cons (ee_var rfl) ea_nil) ct_lenL) (ea_cons (ee_cb (ea_cons (ee_var rfl) ea_nil) ct_lenL) ea_nil)) ct_min) ?_) ?_
    · rw [List.length_replicate, List.length_replicate]
      split <;> omega
    have k1 : min n1 n2 ≤ n1 := Nat.min_le_left _ _
    have k2 : min n1 n2 ≤ n2 := Nat.min_le_right _ _
    have k3 : 1 ≤ min n1 n2 := by omega
    have k4 : min n1 n2 ≤ 5 := by omega
    generalize min n1 n2 = k at *
    show SS _ [some (yAt b), some (yI s), some (yI m), some (yL (List.replicate n1 (yPt K 3000))), some (yL (List.replicate n2 (yPt K 4000))), none, none, some (yI (k : Int)), none, none] W _ W (yLgE K)
    refine ss_ret (EE.sub (ee__law_uncrossed (n := k) (ee_eq (ee_tz (n := k) (m := k) (R := yPt K 8000) (S := yPt K 8000) (ea_cons (EE.sub (ee_eq (ee_slL (ee_var rfl) eo_none (eo_some (ee_var rfl))) (congrArg yL (cut_rep k1))) (yL_le (sub2_rep (pt_le (by decide)) k))) (ea_cons (ee__law_mixed (n := k) BG (ee_var rfl) (EE.sub (ee_eq (ee_slL (ee_var rfl) eo_none (eo_some (ee_var rfl))) (congrArg yL (cut_rep k2))) (yL_le (sub2_rep (pt_le (by decide)) k))) (by omega)) ea_nil)) (by omega) (by omega)) (by rw [Nat.min_self]; rfl)) ⟨k3, by omega⟩) fun v H hv => ⟨k, ⟨k3, k4⟩, hv⟩) (Wd.le.refl _)
theorem d__law_flight_legs (B : Blt K mg cN cO cA cW) (R : Raw K mg "_law_flight_legs" LH.s__law_flight_legs) (D__law_legs : Def P w K mg base 4 "_law_legs" ["_law_bag_here", "_law_spacing", "_law_many"] (sp__law_legs K)) (D__law_take : Def P w K mg base 1 "_law_take" ["_law_bag_here", "_law_many"] (sp__law_take K)) (D__law_mixed : Def P w K mg base 2 "_law_mixed" ["_law_bag_here", "_law_things"] (sp__law_mixed K)) : Def P w K mg base 5 "_law_flight_legs" ["_law_bag_here", "_law_spacing"] (sp__law_flight_legs K) := by
  refine def_mkB R sc__law_flight_legs (fun _ _ _ _ _ _ us hl => match us, hl with | [_, _], _ => rfl) (fun _ => rfl) fun f cdv A outer s H E hr => ⟨_, (pss_cons (ps_set (i := 2) sc__law_flight_legs.nd rfl (.inl rfl) (pe_cd D__law_legs hr (by decide) (pa_cons (pv 0) (pa_cons (pv 1) (pa_cons (pe_op op_add pe_int (pe_cd D__law_take hr (by decide) (pa_cons (pv 0) (pa_cons pe_int pa_nil)))) pa_nil)))))
      (pss_cons (ps_if (pt_cmpR op_eq (pe_cd D__law_take hr (by decide) (pa_cons (pv 0) (pa_cons pe_int pa_nil))) pe_int (nomark _)) (pss_cons (ps_set (i := 3) sc__law_flight_legs.nd rfl (.inl rfl) (pe_cd D__law_mixed hr (by decide) (pa_cons (pv 0) (pa_cons (pe_lc (own := [("_law_one", 4), ("_law_to", 5)]) (g := gTup K 2 (gCons (gName 4) (gCons (gName 5) gNil))) (tt := tYes) (te := (tVar 5)) rfl sc__law_flight_legs.nd (pi_tup (pv 2)) (blkOk_by (N := N__law_flight_legs) (sc := defScope LH.s__law_flight_legs) (by decide +kernel)) (fun _ _ _ _ _ => (pg_tup rfl (pgs_cons (pg_name (i := 4) sc__law_flight_legs.nd rfl (.inl rfl)) (pgs_cons (pg_name (i := 5) sc__law_flight_legs.nd rfl (.inl rfl)) pgs_nil)))) (fun _ _ _ _ _ => pts_nil) (fun _ _ _ _ _ => (pv 5))) pa_nil))))
      (pss_one (ps_set (i := 2) sc__law_flight_legs.nd rfl (.inl rfl) (pe_callTy call_tuple_of rfl B.tuple (by decide +kernel) (pa_cons (pe_lc (own := [("_law_leg", 6), ("_law_to", 5)]) (g := gTup K 2 (gCons (gName 6) (gCons (gName 5) gNil))) (tt := tYes) (te := (tTup (tCons (tOp (rIxT K) (tVar 6) (tC (.int 0))) (tCons (tVar 5) tNil)))) rfl sc__law_flight_legs.nd (LZ.pi_zipM (by rfl) B.zip (pa_cons (pv 2) (pa_cons (pv 3) pa_nil))) (blkOk_by (N := N__law_flight_legs) (sc := defScope LH.s__law_flight_legs) (by decide +kernel)) (fun _ _ _ _ _ => (pg_tup rfl (pgs_cons (pg_name (i := 6) sc__law_flight_legs.nd rfl (.inl rfl)) (pgs_cons (pg_name (i := 5) sc__law_flight_legs.nd rfl (.inl rfl)) pgs_nil)))) (fun _ _ _ _ _ => pts_nil) (fun _ _ _ _ _ => (pe_tup (pa_cons (pe_ix ix_tup (pv 6) pe_int (fun _ _ => rfl)) (pa_cons (pv 5) pa_nil))))) pa_nil))))) pss_nil)
      (pss_one (ps_ret (pe_ifExp (pt_cmpR op_eq (pe_cd D__law_take hr (by decide) (pa_cons (pv 0) (pa_cons pe_int pa_nil))) pe_int (nomark _)) (pe_slice sl_tupA (pv 2) po_none (po_some (pe_cd D__law_take hr (by decide) (pa_cons (pv 0) (pa_cons (pe_op op_add (pe_callB call_len_seq rfl B.len (by decide +kernel) (pa_cons (pv 2) pa_nil)) pe_int) pa_nil))))) (pv 2)))))), fun s hs b W BG => ?_⟩
  have hs1 : 1 ≤ s := hs.1
  have hs2 : s ≤ 100 := hs.2
  have z0 : ∀ {Γ : Tys} {W' : Wd}, EE (tC (.int 0)) Γ W' (yIr 0 0) := ee_ir ⟨by decide, by decide⟩
  show SS _ [some (yAt b), some (yI s), none, none, none, none, none] W _ W (yLgB K)
  refine ss_asg (R := yLgE K) (ee_callBE BG (Rs := [yI s, yIr (1 + 0) (1 + (5 - 1))]) (ea_cons (ee_var rfl) (ea_cons (ee_var rfl) (ea_cons (ee_op (ee_ir (a := 1) (b := 1) ⟨by decide, by decide⟩) (ee__law_take BG (ee_var rfl) ee_i ⟨by decide, by decide⟩) or_add) ea_nil))) fun vs G al => ?_) ?_
  · obtain ⟨v, u, rfl, hv, m, hm, hu⟩ := al.two
    exact ⟨(s, m), ⟨hs, by omega, by omega⟩, ⟨hv, hu, trivial⟩, Ty.le.refl _⟩
  refine ss_openE (i := 2) rfl fun n => ss_openW (i := 2) rfl fun hn => ?_
  have hn2 : n ≤ 5 := hn.2
  show SS _ [some (yAt b), some (yI s), some (yLgs K n), none, none, none, none] W _ W (yLgB K)
  refine ss_ifUJ [some (yAt b), some (yI s), some (yLgs K n), none, none, none, none] W (eu_test (ee_op (ee__law_take BG (ee_var rfl) ee_i ⟨by decide, by decide⟩) z0 or_eq)) ?_ (ss_nX (fun σ G o => o) (Wd.le.refl _)) ?_
  · refine ss_asg (ee__law_mixed (n := n) (R := yPt K 8000) BG (ee_var rfl) (ee_eq (ee_lc (js := [4, 5]) (F := fun _ => yPt K 8000) (fun _ => true) (fun _ => [some (yAt b), some (yI s), some (yLgs K n), none, some (yPt K 8000), some (yPt K 8000), none]) (ei_repT (ee_var rfl)) (by omega) (fun i hi => gt_tup (gts_cons gt_name (gts_cons gt_name gts_nil)) rfl) (by decide) (fun i W' hi => et_yes) (fun i W' hi _ => ee_var rfl)) (congrArg yL (made_rep n _))) (by omega)) ?_
    show SS _ [some (yAt b), some (yI s), some (yLgs K n), some (yL (List.replicate n (yPt K 8000))), none, none, none] W _ W (yLgB K)
    refine ss_last (ss_asg (R := yLgs K n) (ee_cb (ea_cons (ee_eq (ee_lc (n := n) (js := [6, 5]) (F := fun _ => yLeg K) (fun _ => true) (fun _ => [some (yAt b), some (yI s), some (yLgs K n), some (yL (List.replicate n (yPt K 8000))), none, some (yPt K 8000), some (yLeg K)]) ?ei (by omega) (fun i hi => gt_tup (gts_cons gt_name (gts_cons gt_name gts_nil)) rfl) (by decide) (fun i W' hi => et_yes) (fun i W' hi _ => ee_tup (ea_cons (ee_op (ee_var rfl) ee_i (ot_ixT rfl)) (ea_cons (ee_var rfl) ea_nil)) (lle rfl))) (congrArg yL (made_rep n _))) ea_nil) ct_tupL) (ss_nX (fun σ G o => o.forget 3) (Wd.le.refl _)))
    case ei =>
      have q := EI.congr (Y' := fun _ => yT K [yLeg K, yPt K 8000]) (ei_zipM (K := K) (W := W) (Rs := List.replicate n (yLeg K)) (Rs' := List.replicate n (yPt K 8000)) (ea_cons (ee_var (i := 2) (Γ := [some (yAt b), some (yI s), some (yLgs K n), some (yL (List.replicate n (yPt K 8000))), none, none, none]) rfl) (ea_cons (ee_var (i := 3) rfl) ea_nil))) (fun i hi => by
        rw [List.length_replicate, List.length_replicate, Nat.min_self] at hi
        rw [rep_getD hi, rep_getD hi])
      rw [List.length_replicate, List.length_replicate, Nat.min_self] at q
      exact q
  · refine ss_ret (ee_ifU (eu_test (ee_op (ee__law_take BG (ee_var rfl) ee_i ⟨by decide, by decide⟩) z0 or_eq)) (EE.sub (ee_slU (ee_var rfl) (ee__law_take BG (ee_var rfl) (ee_op (ee_cb (ea_cons (ee_var rfl) ea_nil) ct_lenT) ee_i ot_add) ⟨?_, ?_⟩) (by decide)) fun v H ⟨k, hk, hv⟩ => ⟨k, by show k ≤ 5; omega, hv⟩) (EE.sub (ee_var rfl) fun v H hv => ⟨n, hn2, hv⟩)) (Wd.le.refl _)
    · rw [List.length_replicate]; omega
    · rw [List.length_replicate]; omega
theorem d__law_bound_legs (B : Blt K mg cN cO cA cW) (R : Raw K mg "_law_bound_legs" LH.s__law_bound_legs) (D__law_bounds : Def P w K mg base 3 "_law_bounds" ["_law_bag_here"] (sp__law_bounds K)) (D__law_some : Def P w K mg base 2 "_law_some" ["_law_bag_here", "_law_things"] (sp__law_some K)) (D__law_take : Def P w K mg base 1 "_law_take" ["_law_bag_here", "_law_many"] (sp__law_take K)) (D__law_reach : Def P w K mg base 1 "_law_reach" ["_law_bounds_here"] (sp__law_reach K)) (D__law_flight_legs : Def P w K mg base 5 "_law_flight_legs" ["_law_bag_here", "_law_spacing"] (sp__law_flight_legs K)) (D__law_worst_couple : Def P w K mg base 3 "_law_worst_couple" ["_law_bag_here", "_law_spacing"] (sp__law_worst_couple K)) (D__law_couple : Def P w K mg base 3 "_law_couple" ["_law_bag_here", "_law_spacing"] (sp__law_couple K)) : Def P w K mg base 6 "_law_bound_legs" ["_law_bag_here"] (sp__law_bound_legs K) := by
  refine def_mkB R sc__law_bound_legs (fun _ _ _ _ _ _ us hl => match us, hl with | [_], _ => rfl) (fun _ => rfl) fun f cdv A outer s H E hr => ⟨_, (pss_cons (ps_set (i := 1) sc__law_bound_legs.nd rfl (.inl rfl) (pe_cd D__law_bounds hr (by decide) (pa_cons (pv 0) pa_nil)))
      (pss_cons (ps_set (i := 2) sc__law_bound_legs.nd rfl (.inl rfl) (pe_cd D__law_some hr (by decide) (pa_cons (pv 0) (pa_cons (pe_lst (pa_cons (pe_cd D__law_flight_legs hr (by decide) (pa_cons (pv 0) (pa_cons (pe_ix ix_tup (pv 1) pe_int (fun _ _ => rfl)) pa_nil))) (pa_cons (pe_cd D__law_worst_couple hr (by decide) (pa_cons (pv 0) (pa_cons (pe_ix ix_tup (pv 1) pe_int (fun _ _ => rfl)) pa_nil))) (pa_cons (pe_cd D__law_couple hr (by decide) (pa_cons (pv 0) (pa_cons (pe_ix ix_tup (pv 1) pe_int (fun _ _ => rfl)) pa_nil))) pa_nil)))) pa_nil))))
      (pss_cons (ps_if (pt_cmpR op_eq (pe_cd D__law_take hr (by decide) (pa_cons (pv 0) (pa_cons pe_int pa_nil))) pe_int (nomark _)) (pss_cons (ps_set (i := 3) sc__law_bound_legs.nd rfl (.inl rfl) (pe_cd D__law_reach hr (by decide) (pa_cons (pv 1) pa_nil)))
      (pss_cons (ps_set (i := 2) sc__law_bound_legs.nd rfl (.inl rfl) (pe_tup (pa_cons (pe_tup (pa_cons (pe_tup (pa_cons pe_int (pa_cons pe_int pa_nil))) (pa_cons (pe_tup (pa_cons pe_int (pa_cons pe_int pa_nil))) pa_nil))) (pa_cons (pe_tup (pa_cons (pe_tup (pa_cons (pv 3) (pa_cons pe_int pa_nil))) (pa_cons (pe_tup (pa_cons (pe_op op_add pe_int (pv 3)) (pa_cons pe_int pa_nil))) pa_nil))) (pa_cons (pe_tup (pa_cons (pe_tup (pa_cons (pe_op op_sub (pe_op op_mul (pe_un un_neg pe_int) (pv 3)) pe_int) (pa_cons pe_int pa_nil))) (pa_cons (pe_tup (pa_cons (pe_op op_sub (pe_op op_mul (pe_un un_neg pe_int) (pv 3)) pe_int) (pa_cons pe_int pa_nil))) pa_nil))) pa_nil)))))
      (pss_one (ps_set (i := 2) sc__law_bound_legs.nd rfl (.inl rfl) (pe_slice sl_tupA (pv 2) po_none (po_some (pe_op op_add pe_int (pe_cd D__law_take hr (by decide) (pa_cons (pv 0) (pa_cons pe_int pa_nil)))))))))) pss_nil)
      (pss_one (ps_ret (pe_tup (pa_cons (pv 1) (pa_cons (pv 2) pa_nil)))))))), fun _ _ b W BG => ?_⟩
  have z0 : ∀ {Γ : Tys} {W' : Wd}, EE (tC (.int 0)) Γ W' (yIr 0 0) := ee_ir ⟨by decide, by decide⟩
  have cc : ∀ {Γ : Tys} {W' : Wd} {c : Int}, 0 ≤ c ∧ c ≤ 100 → EE (tC (.int c)) Γ W' (yIr 0 100) := fun h => ee_ir h
  show SS _ [some (yAt b), none, none, none] W _ W (yBL K)
  refine ss_asg (ee__law_bounds BG (ee_var rfl)) ?_
  refine ss_openE (i := 1) rfl fun d => ss_openW (i := 1) rfl fun hd => ?_
  have hR := hd.1.R
  show SS _ [some (yAt b), some (yBd K d), none, none] W _ W (yBL K)
  have sp : EE (tOp (rIxT K) (tVar 1) (tC (.int 0))) [some (yAt b), some (yBd K d), none, none] W (yI d.p0) := ee_op (ee_var rfl) ee_i (ot_ixT rfl)
  refine ss_asg (R := yLgB K) (ee__law_some (R := yLgB K) (Rs := [yLgB K, yCpl K, yCpl K]) BG (ee_var rfl) (ee_lst (ea_cons (ee__law_flight_legs BG (ee_var rfl) sp hd.2) (ea_cons (ee__law_worst_couple BG (ee_var rfl) sp hd.2) (ea_cons (ee__law_couple BG (ee_var rfl) sp hd.2) ea_nil))) (lle rfl)) ⟨by simp, by simp⟩ (fun S hS => ?_)) ?_
  · simp only [List.mem_cons, List.not_mem_nil, or_false] at hS
    rcases hS with h | h | h <;> subst h
    · exact Ty.le.refl _
    · exact fun v H hv => ⟨2, by decide, hv⟩
    · exact fun v H hv => ⟨2, by decide, hv⟩
  clear sp
  show SS _ [some (yAt b), some (yBd K d), some (yLgB K), none] W _ W (yBL K)
  refine ss_ifUJ [some (yAt b), some (yBd K d), some (yLgB K), none] W (eu_test (ee_op (ee__law_take BG (ee_var rfl) ee_i ⟨by decide, by decide⟩) z0 or_eq)) ?_ (ss_nX (fun σ G o => o) (Wd.le.refl _)) ?_
  · refine ss_asg (R := yIr 0 600) (EE.ir (ee__law_reach (ee_var rfl) hd.1) hR) ?_
    show SS _ [some (yAt b), some (yBd K d), some (yLgB K), some (yIr 0 600)] W _ W (yBL K)
    have n3 : ∀ {Γ : Tys} {W' : Wd}, EE (tUn (rU fun i => .int (-i)) (tC (.int 3))) Γ W' (yI (-3)) := ee_un ee_i ut_neg
    have n2 : ∀ {Γ : Tys} {W' : Wd}, EE (tUn (rU fun i => .int (-i)) (tC (.int 2))) Γ W' (yI (-2)) := ee_un ee_i ut_neg
    refine ss_asg (R := yLgs K 3) (ee_tup (Rs := List.replicate 3 (yLeg K)) (ea_cons (ee_tup (ea_cons (ee_pt z0 z0 ⟨by decide, by decide⟩ ⟨by decide, by decide⟩) (ea_cons (ee_pt (cc (by decide)) (cc (by decide)) ⟨by decide, by decide⟩ ⟨by decide, by decide⟩) ea_nil)) (lle rfl))
      (ea_cons (ee_tup (ea_cons (ee_pt (ee_var rfl) z0 ⟨by decide, by decide⟩ ⟨by decide, by decide⟩) (ea_cons (ee_pt (ee_op (cc (by decide)) (ee_var rfl) or_add) (cc (by decide)) ⟨by decide, by decide⟩ ⟨by decide, by decide⟩) ea_nil)) (lle rfl))
      (ea_cons (ee_tup (ea_cons (ee_pt (ee_op (ee_op n3 (ee_var rfl) (or_negc (c := 3) ⟨by decide, by decide⟩)) (cc (by decide)) or_sub) z0 ⟨by decide, by decide⟩ ⟨by decide, by decide⟩) (ea_cons (ee_pt (ee_op (ee_op n2 (ee_var rfl) (or_negc (c := 2) ⟨by decide, by decide⟩)) (cc (by decide)) or_sub) (cc (by decide)) ⟨by decide, by decide⟩ ⟨by decide, by decide⟩) ea_nil)) (lle rfl)) ea_nil))) (lle rfl)) ?_
    show SS _ [some (yAt b), some (yBd K d), some (yLgs K 3), some (yIr 0 600)] W _ W (yBL K)
    refine ss_last (ss_asg (R := yLgB K) (EE.sub (ee_slU (ee_var rfl) (ee_op (ee_ir (a := 2) (b := 2) ⟨by decide, by decide⟩) (ee__law_take BG (ee_var rfl) ee_i ⟨by decide, by decide⟩) or_add) (by decide)) fun v H ⟨k, hk, hv⟩ => ⟨k, by show k ≤ 5; omega, hv⟩) (ss_nX (fun σ G o => o.forget 3) (Wd.le.refl _)))
  · exact ss_ret (EE.sub (R := yT K [yBd K d, yLgB K]) (ee_tup (ea_cons (ee_var rfl) (ea_cons (ee_var rfl) ea_nil)) (lle rfl)) fun v H hv => ⟨d, hd.1, hv⟩) (Wd.le.refl _)
end
end LT
end
section
set_option Elab.async false
set_option linter.all false
set_option maxRecDepth 100000
set_option maxHeartbeats 1000000
set_option exponentiation.threshold 20000
namespace LT
open PySem PySem.Spec PyProof.Rows L2 LL LB
abbrev N__law_bag : List Str := ["_law_script", "_law_cell"]
theorem sc__law_bag : FnScope N__law_bag ["_law_script"] (defScope LH.s__law_bag) := ⟨rfl, rfl, rfl, by decide +kernel, rfl, by decide +kernel, by decide +kernel⟩
abbrev N_law : List Str := ["_law_script", "_law_bag_here", "_law_turn", "_law_bounds_here", "_law_legs_here", "_law_first", "_law_told", "_law_more"]
theorem sc_law : FnScope N_law ["_law_script"] (defScope LH.s_law) := ⟨rfl, rfl, rfl, by decide +kernel, rfl, by decide +kernel, by decide +kernel⟩
def sp__law_bag (K : PySem.W.Frag) : Sp := fun vs H Q _ => ∃ (p : Addr) (ns : List Int), vs = [.ref p] ∧ SqL K H p (ns.map V.int) ∧ ∀ (l p4 : Addr) (ms : List Int) (H2 : Hp), Same H H2 → H l = none → H2 l = some (.lst [.int 0, .int 1234567891, .int 0, .ref p4]) → H2 p4 = some (.lst (ms.map V.int)) → (∀ i ∈ ms, (0 : Int) ≤ i) → ms.length ≤ 63 → p4 ≠ l → Q (.ref l) H2
def sp_law (T : Addr) (K : PySem.W.Frag) : Sp := fun vs H Q _ => ∃ (p : Addr) (ns : List Int), vs = [.ref p] ∧ SqL K H p (ns.map V.int) ∧ H T = some (.tbl #[]) ∧ ∀ H2, Q (.bl true) H2
def ySq (K : PySem.W.Frag) (ns : List Int) : Ty := ⟨fun v H => ∃ p, v = .ref p ∧ SqL K H p (ns.map V.int), fun _ _ _ s ⟨p, e, h⟩ => ⟨p, e, s.seq h⟩⟩
theorem cutV_63 (xs : List V) : cutV xs none (some 63) = xs.take 63 := by
  unfold cutV
  have e : HT.sIx xs.length xs.length (some (63 : Int)) = min 63 xs.length := HT.sIx_nat xs.length xs.length 63
  rw [HT.sIx_none, e, List.drop_zero, Nat.sub_zero]
  rcases Nat.le_total 63 xs.length with h | h
  · rw [Nat.min_eq_left h]
  · rw [Nat.min_eq_right h, List.take_of_length_le (Nat.le_refl _), List.take_of_length_le h]
theorem nn_list {G : Hp} : ∀ {n : Nat} {xs : List V}, AllR (List.replicate n yNn) xs G → ∃ ns : List Int, xs = ns.map V.int ∧ (∀ i ∈ ns, 0 ≤ i) ∧ ns.length = n
  | 0, [], _ => ⟨[], rfl, by simp, rfl⟩
  | n + 1, x :: xs, ⟨⟨i, hi, hv⟩, a⟩ => by
    obtain ⟨ns, e, h, l⟩ := nn_list (n := n) a
    have hv : x = .int i := hv
    refine ⟨i :: ns, by rw [e, hv]; rfl, fun j hj => ?_, by rw [List.length_cons, l]⟩
    rcases List.mem_cons.mp hj with z | z
    · rw [z]; exact hi
    · exact h j z
  | 0, _ :: _, a => a.elim
  | _ + 1, [], a => a.elim
/-- the law's world: the bag, the lambda's table -/
def wL (b T : Addr) : Wd where
  r := fun G H => BagOk b G H ∧ G b = none ∧ TabG T lamQ G H ∧ G T = none
  ign := fun p => p ≠ b ∧ p ≠ T
  pure := fun G H G2 H2 s ⟨h1, h2, h3, h4⟩ x => ⟨h1.same x.g x.h, x.fr b h1.some h2, h3.same x.g x.h, x.fr T h3.some h4⟩
  fresh := fun G H p ⟨h1, h2, h3, h4⟩ hp => ⟨fun z => h1.some (by rw [← z]; exact hp), fun z => h3.some (by rw [← z]; exact hp)⟩
  chg := fun G H p o ⟨h1, h2, h3, h4⟩ hp hg => ⟨h1.keep (Same.refl _) (upd_ne hp.1.symm), h2, h3.keep (Same.refl _) (upd_ne hp.2.symm), h4⟩
  grow := fun G H p o ⟨h1, h2, h3, h4⟩ hp hh hg => ⟨h1.same (same_new hg) (Same.refl _), by rw [upd_ne hp.1.symm]; exact h2, h3.same (same_new hg) (Same.refl _), by rw [upd_ne hp.2.symm]; exact h4⟩
theorem bt_ne {b T : Addr} {G H : Hp} {q : Str} (h1 : BagOk b G H) (h3 : TabG T q G H) : b ≠ T := fun z => by
  obtain ⟨_, _, _, _, _, e, _⟩ := h1
  obtain ⟨_, e2, _⟩ := h3
  rw [z, e2] at e
  cases e
theorem isBag_wL {b T : Addr} : IsBag b (wL b T) := ⟨fun G H h => ⟨h.2.1, h.1⟩, fun G H G2 H2 ⟨h1, h2, h3, h4⟩ x => by
  have ne := bt_ne h1 h3
  obtain ⟨ps, e, _⟩ := id h3
  exact ⟨x.ok, x.fr b h1.some h2, h3.keep x.g ((x.h T _ ne.symm e).trans e.symm), x.fr T h3.some h4⟩, fun z => z.1 rfl⟩
theorem isTab_wL {b T : Addr} : IsTab T lamQ (wL b T) := ⟨fun G H h => ⟨h.2.2.2, h.2.2.1⟩, fun G H G2 H2 ⟨h1, h2, h3, h4⟩ x => by
  have ne := bt_ne h1 h3
  obtain ⟨v0, v1, v2, p, xs, e, _⟩ := id h1
  exact ⟨h1.keep x.g ((x.h b _ ne e).trans e.symm), x.fr b h1.some h2, x.ok, x.fr T h3.some h4⟩⟩
theorem leg_of {K : PySem.W.Frag} {v : V} {G : Hp} (h : (yLeg K).r v G) : ∃ l : Leg, LB l ∧ (yG K l).r v G := by
  obtain ⟨p, xs, e, hp, al⟩ := h
  obtain ⟨v1, v2, rfl, ⟨p1, x1, e1, hp1, a1⟩, ⟨p2, x2, e2, hp2, a2⟩⟩ := al.two
  obtain ⟨u1, u2, rfl, ⟨i1, k1, r1⟩, ⟨i2, k2, r2⟩⟩ := a1.two
  obtain ⟨u3, u4, rfl, ⟨i3, k3, r3⟩, ⟨i4, k4, r4⟩⟩ := a2.two
  exact ⟨⟨i1, i2, i3, i4⟩, ⟨by show i1.natAbs ≤ _; omega, by show i2.natAbs ≤ _; omega, by show i3.natAbs ≤ _; omega, by show i4.natAbs ≤ _; omega⟩, p, _, e, hp, ⟨p1, _, e1, hp1, r1, r2, trivial⟩, ⟨p2, _, e2, hp2, r3, r4, trivial⟩, trivial⟩
theorem legs_of {K : PySem.W.Frag} {G : Hp} : ∀ {n : Nat} {xs : List V}, AllR (List.replicate n (yLeg K)) xs G → ∃ ls : List Leg, ls.length = n ∧ (∀ l ∈ ls, LB l) ∧ AllR (ls.map (yG K)) xs G
  | 0, [], _ => ⟨[], rfl, by simp, trivial⟩
  | n + 1, x :: xs, ⟨h, a⟩ => by
    obtain ⟨ls, h1, h2, h3⟩ := legs_of (n := n) a
    obtain ⟨l, k1, k2⟩ := leg_of h
    refine ⟨l :: ls, by rw [List.length_cons, h1], fun m hm => ?_, k2, h3⟩
    rcases List.mem_cons.mp hm with z | z
    · rw [z]; exact k1
    · exact h2 m z
  | 0, _ :: _, a => a.elim
  | _ + 1, [], a => a.elim
theorem lgs_le {K : PySem.W.Frag} : (yLgB K).le (yE fun ls : List Leg => yW (LsOk ls) (yLs K ls)) := fun v H ⟨n, hn, p, xs, e, hp, a⟩ => by
  obtain ⟨ls, h1, h2, h3⟩ := legs_of a
  exact ⟨ls, ⟨h2, by omega⟩, p, xs, e, hp, h3⟩
theorem lt_uniq {d : Bd} {ls : List Leg} {o o' : Option Int} (h : LtOk d ls o) (k : LtOk d ls o') : o = o' := by
  cases o with
  | none =>
    cases o' with
    | none => rfl
    | some r => exact absurd k.1 h
  | some r =>
    cases o' with
    | none => exact absurd h.1 k
    | some r' =>
      obtain ⟨_, h⟩ := h
      obtain ⟨_, k⟩ := k
      congr 1
      have h1 := h.ge
      have k1 := k.ge
      rcases Int.lt_trichotomy r r' with z | z | z
      · have := k.no r h1 z
        rw [h.at_] at this
        cases this
      · exact z
      · have := h.no r' k1 z
        rw [k.at_] at this
        cases this
theorem lt_log {d : Bd} {ls : List Leg} {o : Option Int} (hd : BdOk d) (h : LtOk d ls o) : ∀ t, o = some t → t.natAbs.log2 < 1920 := fun t e => by
  subst e
  have h1 := h.2.ge
  have h2 := h.2.lt
  have h3 : (1 : Int) ≤ Bd.first d := by
    unfold Bd.first
    have := hd.lag
    split <;> omega
  have h4 : t.natAbs < 2 ^ 200 := by
    have e : ((2 ^ 200 : Nat) : Int) = 2 ^ 200 := by norm_cast
    omega
  exact PySem.Flt.log2_lt_of (by decide) (Nat.lt_of_lt_of_le h4 (Nat.pow_le_pow_right (by decide) (by decide)))
theorem ev_short {d : Bd} {ls : List Leg} (h : ls.length < 2) : EvAll d ls := fun i j hij hj => by omega
theorem ap_short {d : Bd} {ls : List Leg} {T : Int} (h : ls.length < 2) : Ap d ls T := fun i j hij hj => by omega
section
variable {P : Program} {w : World} {K : PySem.W.Frag} {mg : Str → Option Value} {base : Heap} {cN cO cA cW T : Addr}
theorem d__law_bag (B : Blt K mg cN cO cA cW) (R : Raw K mg "_law_bag" LH.s__law_bag) : Def P w K mg base 1 "_law_bag" ["_law_script"] (sp__law_bag K) := by
  refine def_raw R sc__law_bag (fun _ _ _ _ _ _ us hl => match us, hl with | [_], _ => rfl) (fun vs H Q E ⟨p, ns, e, _⟩ => by rw [e]; rfl) fun f cdv A outer s H vs Q E hr ⟨p, ns, e, hsq, q⟩ => ⟨_, (pss_one (ps_ret (pe_lst (pa_cons pe_int (pa_cons pe_int (pa_cons pe_int (pa_cons (pe_lc (own := [("_law_cell", 1)]) (g := gName 1) (tt := tYes) (te := (tCB (fun xs H Q => ∃ i, xs = [.int i] ∧ Q (.int (if i < 0 then -i else i)) H) (tCons (tVar 1) tNil))) rfl sc__law_bag.nd (pi_list (pe_slice sl_list (pv 0) po_none (po_some pe_int))) (blkOk_by (N := N__law_bag) (sc := defScope LH.s__law_bag) (by decide +kernel)) (fun _ _ _ _ _ => (pg_name (i := 1) sc__law_bag.nd rfl (.inl rfl))) (fun _ _ _ _ _ => pts_nil) (fun _ _ _ _ _ => (pe_callB call_abs rfl B.abs (by decide +kernel) (pa_cons (pv 1) pa_nil)))) pa_nil))))))), ?_⟩
  subst e
  let G1 : Hp := fun a => if a = p then H p else none
  have hs1 : Same G1 H := fun a o e => by
    by_cases hb : a = p
    · have e' : (if a = p then H p else none) = some o := e
      rw [if_pos hb] at e'
      rw [hb]; exact e'
    · have e' : (if a = p then H p else none) = some o := e
      rw [if_neg hb] at e'
      cases e'
  have sq1 : SqL K G1 p (ns.map V.int) := by
    have e : G1 p = H p := if_pos rfl
    rcases hsq with (k | ⟨o, k⟩) | k
    · exact .inl (.inl (e.trans k))
    · exact .inl (.inr ⟨o, e.trans k⟩)
    · exact .inr k
  have hsl : EE (tSl (rSlL K) (tVar 0) tNoPart (tPart (tC (.int 63)))) [some (ySq K ns), none] (wP G1 H) (yL ((ns.take 63).map yI)) := ee_sl (Ra := ySq K ns) (lo := none) (hi := some 63) (ee_var rfl) eo_none (eo_some ee_i) fun x G H s ⟨p, e, hp⟩ Q q => by
    subst e
    refine ⟨p, _, rfl, s.seq hp, fun l hl => ?_⟩
    have gs := GS.new (o := .lst (cutV (ns.map V.int) none (some 63))) s hl
    refine q _ _ _ gs ⟨l, _, rfl, upd_same, ?_⟩
    rw [cutV_63, ← List.map_take]
    exact all_ints _ _
  have hlen : ((ns.take 63).map yI).length ≤ 63 := by rw [List.length_map, List.length_take]; omega
  have hab : EE (tLc (iList K (tSl (rSlL K) (tVar 0) tNoPart (tPart (tC (.int 63))))) (gName 1) tYes (tCB (fun xs H Q => ∃ i, xs = [.int i] ∧ Q (.int (if i < 0 then -i else i)) H) (tCons (tVar 1) tNil)) [1]) [some (ySq K ns), none] (wP G1 H) (yNs 63) := by
    refine EE.sub (ee_lc (js := [1]) (F := fun _ => yNn) (fun _ => true) (fun i => [some (ySq K ns), some (yI ((ns.take 63).getD i 0))]) (EI.congr (Y' := fun i => yI ((ns.take 63).getD i 0)) (ei_list hsl) (fun i hi => map_getD (by rw [List.length_map] at hi; exact hi))) (by omega) (fun i hi => gt_name) (by decide) (fun i W' hi => et_yes) (fun i W' hi _ => EE.sub (ee_cb (ea_cons (ee_var rfl) ea_nil) ct_abs) fun v H hv => ⟨_, ?_, hv⟩)) fun v H ⟨p, xs, e, hp, al⟩ => ?_
    · show (0 : Int) ≤ _
      split <;> omega
    · rw [made_rep] at al
      obtain ⟨ms, e2, h1, h2⟩ := nn_list al
      exact ⟨p, ms, e, by rw [hp, e2], h1, by omega⟩
  have hea : EA (tCons (tC (.int 0)) (tCons (tC (.int 1234567891)) (tCons (tC (.int 0)) (tCons (tLc (iList K (tSl (rSlL K) (tVar 0) tNoPart (tPart (tC (.int 63))))) (gName 1) tYes (tCB (fun xs H Q => ∃ i, xs = [.int i] ∧ Q (.int (if i < 0 then -i else i)) H) (tCons (tVar 1) tNil)) [1]) tNil)))) [some (ySq K ns), none] (wP G1 H) [yI 0, yI 1234567891, yI 0, yNs 63] := ea_cons ee_i (ea_cons ee_i (ea_cons ee_i (ea_cons hab ea_nil)))
  refine hea (L2.start N__law_bag [.ref p]) G1 H (show OkS [some (ySq K ns), none] [some (.ref p), none] G1 from ⟨⟨_, rfl, p, rfl, sq1⟩, trivial⟩) hs1 (GS.refl hs1) (fun xs H1 => xs.length ≤ sizeLine ∧ ∀ l, H1 l = none → Q (.ref l) (upd H1 l (.lst xs))) fun xs G2 H2 g2 s2 w2 al => ?_
  have w2 : GS G1 H G2 H2 := w2
  match xs, al with
  | [a, b, c, d], ⟨e1, e2, e3, ⟨p4, ms, e4, hp4, h4, h5⟩, _⟩ =>
    have e1 : a = .int 0 := e1
    have e2 : b = .int 1234567891 := e2
    have e3 : c = .int 0 := e3
    subst e1 e2 e3 e4
    refine ⟨szl (show 4 ≤ 100000 by decide), fun l hl => ?_⟩
    have hl0 : H l = none := w2.h.free hl
    have hp5 : H2 p4 = some (.lst (ms.map V.int)) := s2 _ _ hp4
    have ne : p4 ≠ l := fun z => by rw [z, hl] at hp5; cases hp5
    refine q l p4 ms _ (fun x o e => ?_) hl0 upd_same (by rw [upd_ne ne]; exact hp5) h4 h5 ne
    rw [upd_ne (fun z => by rw [z, hl0] at e; cases e)]
    exact w2.h _ _ e
end
end LT
end
section
set_option Elab.async false
set_option linter.all false
set_option maxRecDepth 100000
set_option maxHeartbeats 1000000
set_option exponentiation.threshold 20000
namespace LT
open PySem PySem.Spec PyProof.Rows L2 LL LB
section
variable {Γ Γ' : Tys} {W W0 : Wd} {R S : Ty} {Rs : List Ty} {ta tb te th : TE} {t : TA} {K : PySem.W.Frag} {b l T : Addr} {N : Nx} {u : TS}
theorem ee_least {d : Bd} {ls : List Leg} (I : IsTab T lamQ W) (ha : EE ta Γ W (yBd K d)) (hb : EE tb Γ W (yLs K ls)) (hd : BdOk d) (hl : LsOk ls) : EE (tCall (sp_least_ticks T K) [] E0 (tCons ta (tCons tb tNil))) Γ W (yE fun o : Option Int => yW (LtOk d ls o) (ltT o)) := ee_callT I (d, ls) (ea_cons ha (ea_cons hb ea_nil)) ⟨hd, hl⟩
theorem ee_alike {d : Bd} {ls : List Leg} {o : Option Int} (hd : BdOk d) (ho : LtOk d ls o) (ha : EE ta Γ W (yE fun o : Option Int => yW (LtOk d ls o) (ltT o))) (hb : EE tb Γ W (ltT o)) : EE (tCall (sp__law_alike K) [] E0 (tCons ta (tCons tb tNil))) Γ W (yB true) :=
  ee_callE (Rs := [yE fun o : Option Int => yW (LtOk d ls o) (ltT o), ltT o]) (ea_cons ha (ea_cons hb ea_nil)) fun vs G al => by
    obtain ⟨v, u, rfl, ⟨o', h', hv⟩, hu⟩ := al.two
    have e := lt_uniq h' ho
    subst e
    exact ⟨o', lt_log hd ho, ⟨hv, hu, trivial⟩, Ty.le.refl _⟩
theorem ltT_some {r : Int} : ∀ (v : V) (H : Hp), (ltT (some r)).r v H → decide (v = V.non) = false := fun v H h => by
  have h : v = .int r := h
  subst h
  exact decide_eq_false fun z => nomatch z
end
section
variable {P : Program} {w : World} {K : PySem.W.Frag} {mg : Str → Option Value} {base : Heap} {cN cO cA cW T : Addr}
theorem law_start {u : TS} {p : Addr} {ns : List Int} {H : Hp} {Q : VK} (hsq : SqL K H p (ns.map V.int)) (hT : H T = some (.tbl #[])) (hq : ∀ H2, Q (.bl true) H2)
    (main : ∀ b, SS u [none, some (yAt b), none, none, none, none, none, none] (wL b T) (fun _ _ _ => False) (wL b T) (yB true)) : tSeq (tAsg (tCall (sp__law_bag K) [] E0 (tCons (tVar 0) tNil)) (gName 1)) u { nx := fun _ H' => Q .non H', rt := Q } (L2.start N_law [.ref p]) H := by
  refine ⟨.ref p, rfl, p, ns, rfl, hsq, fun l p4 ms H2 ext hl e1 e2 h1 h2 ne => ?_⟩
  let G : Hp := fun a => if a = p4 then some (.lst (ms.map V.int)) else none
  have gp : G p4 = some (.lst (ms.map V.int)) := if_pos rfl
  have gn : ∀ a, a ≠ p4 → G a = none := fun a h => if_neg h
  have sm : Same G H2 := fun a o e => by
    by_cases hb : a = p4
    · rw [hb] at e ⊢
      rw [gp] at e
      rw [e2]
      exact e
    · rw [gn a hb] at e
      cases e
  have hT2 := ext _ _ hT
  have tp : T ≠ p4 := fun z => by rw [z, e2] at hT2; cases hT2
  have wr : (wL l T).r G H2 := ⟨⟨0, 1234567891, 0, p4, ms, e1, Int.le_refl _, ⟨by decide, by decide⟩, Int.le_refl _, gp, h1, h2⟩, gn l (Ne.symm ne), ⟨#[], hT2, True.intro, fun pos cv hc => by
    have z : codeAmong pos [] = some cv := hc
    simp [codeAmong] at z⟩, gn T tp⟩
  exact main l _ G H2 (show OkS [none, some (yAt l), none, none, none, none, none, none] [some (.ref p), some (.ref l), none, none, none, none, none, none] G from ⟨⟨_, rfl, rfl⟩, trivial⟩) sm wr _ (fun _ _ _ _ _ z => z.elim) fun v G3 H3 _ _ _ hv => by
    have hv : v = .bl true := hv
    subst hv
    exact hq H3
theorem fn_raw {x : Str} {st : Stmt} {N ps : List Str} {k : Nat} {sp : Sp} {f : Addr} {fd : FuncData} (F : FunD K x x (defArgs st) (defBody st) (defScope st) [] [] f fd) (S : FnScope N ps (defScope st)) (hl : ∀ vs H Q E, sp vs H Q E → vs.length = ps.length)
    (hbody : ∀ (cdv : Value) (A : Around) (outer : List Env) (s : Shared) (H : Hp) (vs : List V) (Q : VK) (E : XK), Room k (A.deeper (envOfC x (defScope st) s.heap.objs.size f cdv)) → sp vs H Q E →
      ∃ t, PSs (cxOf CX0 P w K mg base N x (defScope st) f cdv A outer s H E).nox (defBody st) t ∧ t { nx := fun _ H' => Q .non H', rt := Q } (L2.start N vs) H) : FnOk P w K mg base CX0 (k + 1) f fd ps sp :=
  F.ok S hl fun cdv A outer s H vs Q E hr h => by
    obtain ⟨t, h1, h2⟩ := hbody cdv A outer s H vs Q E hr h
    exact ⟨t, h1.nox, h2⟩
theorem d_law (B : Blt K mg cN cO cA cW) {f : Addr} {fd : FuncData} (F : FunD K "law" "law" (defArgs LH.s_law) (defBody LH.s_law) (defScope LH.s_law) [] [] f fd) (D_least_ticks : Def P w K mg base 12 "least_ticks" ["bounds", "legs"] (sp_least_ticks T K)) (D__law_bag : Def P w K mg base 1 "_law_bag" ["_law_script"] (sp__law_bag K)) (D__law_bound_legs : Def P w K mg base 6 "_law_bound_legs" ["_law_bag_here"] (sp__law_bound_legs K)) (D__law_lag : Def P w K mg base 1 "_law_lag" ["_law_bounds_here"] (sp__law_lag K)) (D__law_alike : Def P w K mg base 1 "_law_alike" ["_law_found", "_law_due"] (sp__law_alike K))
    (D__law_are_ever_apart : Def P w K mg base 7 "_law_are_ever_apart" ["_law_bounds_here", "_law_legs_here"] (sp__law_are_ever_apart K)) (D__law_is_int : Def P w K mg base 1 "_law_is_int" ["_law_thing"] (sp__law_is_int K)) (D__law_are_apart : Def P w K mg base 8 "_law_are_apart" ["_law_bounds_here", "_law_ticks", "_law_legs_here"] (sp__law_are_apart K)) (D__law_some : Def P w K mg base 2 "_law_some" ["_law_bag_here", "_law_things"] (sp__law_some K)) (D_is_flight_apart : Def P w K mg base 9 "is_flight_apart" ["bounds", "ticks", "legs"] (sp_is_flight_apart K)) :
    FnOk P w K mg base CX0 13 f fd ["_law_script"] (sp_law T K) := by
  refine fn_raw F sc_law (fun vs H Q E ⟨p, ns, e, _⟩ => by rw [e]; rfl) fun cdv A outer s H vs Q E hr ⟨p, ns, e, hsq, hT, hq⟩ => ⟨_, (pss_cons (ps_set (i := 1) sc_law.nd rfl (.inl rfl) (pe_cd D__law_bag hr (by decide) (pa_cons (pv 0) pa_nil)))
      (pss_cons (ps_for PassesOwn.never rfl (pi_range1 (by rfl) B.range (pa_cons pe_int pa_nil)) (pg_name (i := 2) sc_law.nd rfl (.inl rfl))
      (pss_cons (ps_asg (pe_cd D__law_bound_legs hr (by decide) (pa_cons (pv 1) pa_nil)) (pg_tup rfl (pgs_cons (pg_name (i := 3) sc_law.nd rfl (.inl rfl)) (pgs_cons (pg_name (i := 4) sc_law.nd rfl (.inl rfl)) pgs_nil))))
      (pss_cons (ps_set (i := 5) sc_law.nd rfl (.inl rfl) (pe_callB (call_max2 rfl) rfl B.max (by decide +kernel) (pa_cons pe_int (pa_cons (pe_cd D__law_lag hr (by decide) (pa_cons (pv 3) pa_nil)) pa_nil))))
      (pss_cons (ps_set (i := 6) sc_law.nd rfl (.inl rfl) (pe_cd D_least_ticks hr (by decide) (pa_cons (pv 3) (pa_cons (pv 4) pa_nil))))
      (pss_cons (ps_if (PW.pt (pw_or (pt_not (pt_val (pe_cd D__law_alike hr (by decide) (pa_cons (pe_cd D_least_ticks hr (by decide) (pa_cons (pv 3) (pa_cons (pv 4) pa_nil))) (pa_cons (pv 6) pa_nil))))) (pw_or1 (pt_cmpR op_ne (pe_cmpR op_notN (pv 6) pe_non (nomark _)) (pe_cd D__law_are_ever_apart hr (by decide) (pa_cons (pv 3) (pa_cons (pv 4) pa_nil))) (nomark _))))) (pss_one (ps_ret pe_bl)) pss_nil)
      (pss_cons (ps_if (pt_cmpR op_notN (pv 6) pe_non (nomark _)) (pss_cons (ps_if (PW.pt (pw_or (pt_not (pt_val (pe_cd D__law_is_int hr (by decide) (pa_cons (pv 6) pa_nil)))) (pw_or (pt_cmpR op_lt (pv 6) (pv 5) (nomark _)) (pw_or1 (pt_not (pt_val (pe_cd D__law_are_apart hr (by decide) (pa_cons (pv 3) (pa_cons (pv 6) (pa_cons (pv 4) pa_nil)))))))))) (pss_one (ps_ret pe_bl)) pss_nil)
      (pss_cons (ps_if (PW.pt (pw_and (pt_cmpR op_gt (pv 6) (pv 5) (nomark _)) (pw_and1 (pt_val (pe_cd D__law_are_apart hr (by decide) (pa_cons (pv 3) (pa_cons (pe_op op_sub (pv 6) pe_int) (pa_cons (pv 4) pa_nil)))))))) (pss_one (ps_ret pe_bl)) pss_nil)
      (pss_cons (ps_set (i := 7) sc_law.nd rfl (.inl rfl) (pe_op op_add (pv 6) (pe_cd D__law_some hr (by decide) (pa_cons (pv 1) (pa_cons (pe_lst (pa_cons pe_int (pa_cons pe_int (pa_cons pe_int (pa_cons pe_int pa_nil))))) pa_nil)))))
      (pss_cons (ps_if (PW.pt (pw_or (pt_cmpR op_notBl (pe_cd D_is_flight_apart hr (by decide) (pa_cons (pv 3) (pa_cons (pv 6) (pa_cons (pv 4) pa_nil)))) pe_bl (nomark _)) (pw_or1 (pt_cmpR op_notBl (pe_cd D_is_flight_apart hr (by decide) (pa_cons (pv 3) (pa_cons (pv 7) (pa_cons (pv 4) pa_nil)))) pe_bl (nomark _))))) (pss_one (ps_ret pe_bl)) pss_nil)
      (pss_one (ps_if (PW.pt (pw_and (pt_cmpR op_gt (pv 6) (pv 5) (nomark _)) (pw_and1 (pt_cmpR op_notBl (pe_cd D_is_flight_apart hr (by decide) (pa_cons (pv 3) (pa_cons (pe_op op_sub (pv 6) pe_int) (pa_cons (pv 4) pa_nil)))) pe_bl (nomark _))))) (pss_one (ps_ret pe_bl)) pss_nil)))))) pss_nil)
      (pss_one (ps_if (PW.pt (pw_and (pt_cmpR op_lt (pe_callB call_len_seq rfl B.len (by decide +kernel) (pa_cons (pv 4) pa_nil)) pe_int (nomark _)) (pw_and1 (pt_cmpR op_ne (pv 6) (pv 5) (nomark _))))) (pss_one (ps_ret pe_bl)) pss_nil))))))))
      (pss_one (ps_ret pe_bl)))), ?_⟩
  subst e
  refine law_start hsq hT hq fun b => ?_
  have BG := isBag_wL (b := b) (T := T)
  have TG := isTab_wL (b := b) (T := T)
  generalize wL b T = W at BG TG
  refine ss_for (α := Unit) (ei_rng1 (n := 3) (ea_cons ee_i ea_nil) (by decide) (by decide)) (fun _ _ => True) (fun _ => [none, some (yAt b), none, none, none, none, none, none]) (fun _ => W) (fun i _ => [none, some (yAt b), some (yI (i : Int)), none, none, none, none, none]) () trivial (fun σ G H o w => ⟨o, w⟩) (fun i o hi hp => gt_name) (fun i o hi hp => ?_) (fun o hp => ss_ret ee_b (Wd.le.refl _))
  refine ss_forget 2 ?_
  refine ss_setW (js := [3, 4]) (Γ1 := fun d => [none, some (yAt b), none, some (yBd K d), some (yLgB K), none, none, none]) (ee__law_bound_legs BG (ee_var rfl)) (fun d _ => gt_tup (gts_cons gt_name (gts_cons gt_name gts_nil)) rfl) (fun d hd => ?_)
  refine ss_as (Ra := yE fun ls : List Leg => yW (LsOk ls) (yLs K ls)) (i := 4) rfl lgs_le (ss_openE (i := 4) rfl fun ls => ss_openW (i := 4) rfl fun hl => ?_)
  show SS _ [none, some (yAt b), none, some (yBd K d), some (yLs K ls), none, none, none] W _ W (yB true)
  refine ss_asg (R := yI (Bd.first d)) (ee_ieq (ee_cb (ea_cons ee_i (ea_cons (ee__law_lag (ee_var rfl) hd) ea_nil)) ct_max) ct_first) ?_
  refine ss_asg (ee_least TG (ee_var rfl) (ee_var rfl) hd hl) ?_
  refine ss_openE (i := 6) rfl fun o => ss_openW (i := 6) rfl fun ho => ?_
  show SS _ [none, some (yAt b), none, some (yBd K d), some (yLs K ls), some (yI (Bd.first d)), some (ltT o), none] W _ W (yB true)
  have hlen : (ls.map (yG K)).length = ls.length := List.length_map _
  have hf0 : 1 ≤ Bd.first d ∧ d.lag ≤ Bd.first d ∧ Bd.first d ≤ 600 := by
    have := hd.lag
    unfold Bd.first
    split <;> refine ⟨by omega, by omega, by omega⟩
  have fin : ∀ {σ : L2.St} {G H : Hp}, OkS [none, some (yAt b), none, some (yBd K d), some (yLs K ls), some (yI (Bd.first d)), some (ltT o), none] σ G → OkS [none, some (yAt b), none, none, none, none, none, none] σ G := fun o' => ((o'.forget 3).forget 4 |>.forget 5).forget 6
  cases o with
  | none =>
    have hne : ¬ EvAll d ls := ho
    refine ss_if (b := false) (et_or (a := false) (b := false) (et_not (a := true) (et_B (ee_alike hd ho (ee_least TG (ee_var rfl) (ee_var rfl) hd hl) (ee_var rfl)))) (fun _ => et_is (et_test (ee_op (ee_op (ee_var rfl) ee_n (ot_notN (b := false) fun v H hv => by rw [yN_is v H hv]; rfl)) (ee__law_are_ever_apart (ee_var rfl) (ee_var rfl) ⟨hd, hl⟩) ot_neB)) (by rw [pB_no.mpr hne]; rfl))) (fun z => nomatch z) (fun _ => ss_skip ?_)
    refine ss_if (b := false) (et_test (ee_op (ee_var rfl) ee_n (ot_notN fun v H hv => by rw [yN_is v H hv]; rfl))) (fun z => nomatch z) (fun _ => ss_skip ?_)
    refine ss_last (ss_if (b := false) (et_and (a := false) (b := false) (et_is (et_test (ee_op (ee_cb (ea_cons (ee_var rfl) ea_nil) ct_lenT) ee_i ot_lt)) ?_) (fun z => nomatch z)) (fun z => nomatch z) (fun _ => ss_skip (ss_next fun σ G H o s' w => ⟨(), trivial, fin (H := H) o, w⟩)))
    rw [hlen]
    exact decide_eq_false fun z => hne (ev_short (by omega))
  | some r =>
    have ho2 : LtOk d ls (some r) := ho
    obtain ⟨he, hr⟩ := ho
    have r1 := hr.ge
    have r2 := hr.lt
    have hap : Ap d ls r := pB_iff.mp hr.at_
    have tk : TkOk d r := tk_of r1 (by omega)
    refine ss_if (b := false) (et_or (a := false) (b := false) (et_not (a := true) (et_B (ee_alike (o := some r) hd ho2 (ee_least TG (ee_var rfl) (ee_var rfl) hd hl) (ee_var rfl)))) (fun _ => et_is (et_test (ee_op (ee_op (ee_var rfl) ee_n (ot_notN (b := true) fun v H hv => by rw [ltT_some v H hv]; rfl)) (ee__law_are_ever_apart (ee_var rfl) (ee_var rfl) ⟨hd, hl⟩) ot_neB)) (by rw [pB_iff.mpr he]; rfl))) (fun z => nomatch z) (fun _ => ss_skip ?_)
    refine ss_ifJ (b := true) [none, some (yAt b), none, some (yBd K d), some (yLs K ls), some (yI (Bd.first d)), some (yI r), none] W (et_test (ee_op (ee_var rfl) ee_n (ot_notN fun v H hv => by rw [ltT_some v H hv]; rfl))) (fun _ => ?body) (fun z => nomatch z) ?rest
    case rest =>
      refine ss_last (ss_if (b := false) (et_is (et_and (et_test (ee_op (ee_cb (ea_cons (ee_var rfl) ea_nil) ct_lenT) ee_i ot_lt)) (fun _ => et_test (ee_op (ee_var rfl) (ee_var rfl) ot_neI))) ?_) (fun z => nomatch z) (fun _ => ss_skip (ss_next fun σ G H o s' w => ⟨(), trivial, fin (H := H) o, w⟩)))
      rw [hlen]
      by_cases hs2 : ((ls.length : Nat) : Int) < 2
      · have e : r = Bd.first d := by
          rcases Int.lt_trichotomy (Bd.first d) r with z | z | z
          · have k := hr.no (Bd.first d) (Int.le_refl _) z
            have k2 : apP d ls (Bd.first d) = true := pB_iff.mpr (ap_short (by omega))
            rw [k2] at k
            cases k
          · exact z.symm
          · omega
        rw [decide_eq_true e, Bool.not_true, Bool.and_false]
      · rw [decide_eq_false hs2, Bool.false_and]
    case body =>
      refine ss_if (b := false) (et_or (a := false) (b := false) (et_not (a := true) (et_B (ee__law_is_int (ee_var rfl)))) (fun _ => et_or (a := false) (b := false) (et_is (et_test (ee_op (ee_var rfl) (ee_var rfl) ot_lt)) (decide_eq_false (by omega))) (fun _ => et_is (et_not (et_B (ee__law_are_apart (ee_var rfl) (ee_var rfl) (ee_var rfl) ⟨hd, tk, hl⟩))) (by rw [pB_iff.mpr hap]; rfl)))) (fun z => nomatch z) (fun _ => ss_skip ?_)
      have hno : Bd.first d < r → TkOk d (r - 1) ∧ pB (Ap d ls (r - 1)) = false := fun z => ⟨tk_of (by omega) (by omega), hr.no (r - 1) (by omega) (by omega)⟩
      have n1 : ∀ {Γ : Tys} {W' : Wd}, Γ[3]? = some (some (yBd K d)) → Γ[4]? = some (some (yLs K ls)) → Γ[6]? = some (some (yI r)) → Bd.first d < r → EE (tCall (sp__law_are_apart K) [] E0 (tCons (tVar 3) (tCons (tOp (rI0 fun i j => .int (i - j)) (tVar 6) (tC (.int 1))) (tCons (tVar 4) tNil)))) Γ W' (yB false) := fun h3 h4 h6 z => ee_eq (ee__law_are_apart (ee_var h3) (ee_op (ee_var h6) ee_i ot_sub) (ee_var h4) ⟨hd, (hno z).1, hl⟩) (congrArg yB (hno z).2)
      have n2 : ∀ {Γ : Tys} {W' : Wd}, Γ[3]? = some (some (yBd K d)) → Γ[4]? = some (some (yLs K ls)) → Γ[6]? = some (some (yI r)) → Bd.first d < r → EE (tCall (sp_is_flight_apart K) [] E0 (tCons (tVar 3) (tCons (tOp (rI0 fun i j => .int (i - j)) (tVar 6) (tC (.int 1))) (tCons (tVar 4) tNil)))) Γ W' (yB false) := fun h3 h4 h6 z => ee_eq (ee_is_flight_apart (ee_var h3) (ee_op (ee_var h6) ee_i ot_sub) (ee_var h4) ⟨hd, (hno z).1, hl⟩) (congrArg yB (hno z).2)
      refine ss_if (b := false) (et_is (et_and (a := decide (Bd.first d < r)) (b := false) (et_test (ee_op (ee_var rfl) (ee_var rfl) ot_gt)) (fun z => et_B (n1 rfl rfl rfl (of_decide_eq_true z)))) (Bool.and_false _)) (fun z => nomatch z) (fun _ => ss_skip ?_)
      refine ss_asg (R := yIr (r + 1) (r + 1000)) (ee_op (EE.sub (ee_var rfl) ir_self) (ee__law_some (R := yIr 1 1000) (Rs := [1, 2, 10, 1000].map yI) BG (ee_var rfl) (ee_lst (ea_cons ee_i (ea_cons ee_i (ea_cons ee_i (ea_cons ee_i ea_nil)))) (lle rfl)) ⟨by simp, by simp⟩ (some_ir (by decide))) or_add) ?_
      refine ss_openE (i := 7) rfl fun m => ss_openW (i := 7) rfl fun hm => ?_
      show SS _ [none, some (yAt b), none, some (yBd K d), some (yLs K ls), some (yI (Bd.first d)), some (yI r), some (yI m)] W _ W (yB true)
      have m1 : r + 1 ≤ m := hm.1
      have m2 : m ≤ r + 1000 := hm.2
      have tkm : TkOk d m := tk_of (by omega) (by omega)
      have hapm : Ap d ls m := Ap.mono hd hl tk (by omega) hap
      refine ss_if (b := false) (et_or (a := false) (b := false) (et_is (et_test (ee_op (ee_is_flight_apart (ee_var rfl) (ee_var rfl) (ee_var rfl) ⟨hd, tk, hl⟩) ee_b ot_notBl)) (by rw [pB_iff.mpr hap]; rfl)) (fun _ => et_is (et_test (ee_op (ee_is_flight_apart (ee_var rfl) (ee_var rfl) (ee_var rfl) ⟨hd, tkm, hl⟩) ee_b ot_notBl)) (by rw [pB_iff.mpr hapm]; rfl))) (fun z => nomatch z) (fun _ => ss_skip ?_)
      refine ss_last (ss_if (b := false) (et_is (et_and (a := decide (Bd.first d < r)) (b := false) (et_test (ee_op (ee_var rfl) (ee_var rfl) ot_gt)) (fun z => et_is (et_test (ee_op (n2 rfl rfl rfl (of_decide_eq_true z)) ee_b ot_notBl)) rfl)) (Bool.and_false _)) (fun z => nomatch z) (fun _ => ss_skip (ss_nX (fun σ G o => o.forget 7) (Wd.le.refl _))))
end
end LT
end
section
set_option Elab.async false
set_option linter.all false
set_option maxRecDepth 100000
set_option maxHeartbeats 0
namespace LH
open PySem PySem.Spec PyProof.Rows L2
def dd (x : Str) (st : Stmt) : He.DefD := ⟨(x, none), x, x, defArgs st, defBody st, defScope st, [], []⟩
def d_reduced : He.DefD := dd "reduced" s_reduced
def d_added : He.DefD := dd "added" s_added
def d_lessened : He.DefD := dd "lessened" s_lessened
def d_times : He.DefD := dd "times" s_times
def d_over : He.DefD := dd "over" s_over
def d_compared : He.DefD := dd "compared" s_compared
def d_place_on : He.DefD := dd "place_on" s_place_on
def d_parting : He.DefD := dd "parting" s_parting
def d_dot : He.DefD := dd "dot" s_dot
def d_squared_at : He.DefD := dd "squared_at" s_squared_at
def d_ring_of : He.DefD := dd "ring_of" s_ring_of
def d_by_parts : He.DefD := dd "by_parts" s_by_parts
def d_on_side : He.DefD := dd "on_side" s_on_side
def d_crossing : He.DefD := dd "crossing" s_crossing
def d_is_within : He.DefD := dd "is_within" s_is_within
def d_nearest : He.DefD := dd "nearest" s_nearest
def d_r_of : He.DefD := dd "r_of" s_r_of
def d_lag_of : He.DefD := dd "lag_of" s_lag_of
def d_rho_of : He.DefD := dd "rho_of" s_rho_of
def d_nearest_of : He.DefD := dd "nearest_of" s_nearest_of
def d_are_apart : He.DefD := dd "are_apart" s_are_apart
def d_is_flight_apart : He.DefD := dd "is_flight_apart" s_is_flight_apart
def d_are_ever_apart : He.DefD := dd "are_ever_apart" s_are_ever_apart
def d_has_ticks : He.DefD := dd "has_ticks" s_has_ticks
def d_first_that : He.DefD := dd "first_that" s_first_that
def d_least_ticks : He.DefD := dd "least_ticks" s_least_ticks
def d__law_bag : He.DefD := dd "_law_bag" s__law_bag
def d__law_take : He.DefD := dd "_law_take" s__law_take
def d__law_some : He.DefD := dd "_law_some" s__law_some
def d__law_mixed : He.DefD := dd "_law_mixed" s__law_mixed
def d__law_alike : He.DefD := dd "_law_alike" s__law_alike
def d__law_over : He.DefD := dd "_law_over" s__law_over
def d__law_added : He.DefD := dd "_law_added" s__law_added
def d__law_lessened : He.DefD := dd "_law_lessened" s__law_lessened
def d__law_multiplied : He.DefD := dd "_law_multiplied" s__law_multiplied
def d__law_divided : He.DefD := dd "_law_divided" s__law_divided
def d__law_is_below : He.DefD := dd "_law_is_below" s__law_is_below
def d__law_reach : He.DefD := dd "_law_reach" s__law_reach
def d__law_lag : He.DefD := dd "_law_lag" s__law_lag
def d__law_rho : He.DefD := dd "_law_rho" s__law_rho
def d__law_bounds : He.DefD := dd "_law_bounds" s__law_bounds
def d__law_squared : He.DefD := dd "_law_squared" s__law_squared
def d__law_least_diagonal : He.DefD := dd "_law_least_diagonal" s__law_least_diagonal
def d__law_offsets : He.DefD := dd "_law_offsets" s__law_offsets
def d__law_spaced : He.DefD := dd "_law_spaced" s__law_spaced
def d__law_do_cross : He.DefD := dd "_law_do_cross" s__law_do_cross
def d__law_first_crossing : He.DefD := dd "_law_first_crossing" s__law_first_crossing
def d__law_uncrossed : He.DefD := dd "_law_uncrossed" s__law_uncrossed
def d__law_legs : He.DefD := dd "_law_legs" s__law_legs
def d__law_couple : He.DefD := dd "_law_couple" s__law_couple
def d__law_corners : He.DefD := dd "_law_corners" s__law_corners
def d__law_gap : He.DefD := dd "_law_gap" s__law_gap
def d__law_dot : He.DefD := dd "_law_dot" s__law_dot
def d__law_gap_squared : He.DefD := dd "_law_gap_squared" s__law_gap_squared
def d__law_on_edge : He.DefD := dd "_law_on_edge" s__law_on_edge
def d__law_are_less : He.DefD := dd "_law_are_less" s__law_are_less
def d__law_inner_point : He.DefD := dd "_law_inner_point" s__law_inner_point
def d__law_nearest : He.DefD := dd "_law_nearest" s__law_nearest
def d__law_worst_couple : He.DefD := dd "_law_worst_couple" s__law_worst_couple
def d__law_is_int : He.DefD := dd "_law_is_int" s__law_is_int
def d__law_flight_legs : He.DefD := dd "_law_flight_legs" s__law_flight_legs
def d__law_nearest_of : He.DefD := dd "_law_nearest_of" s__law_nearest_of
def d__law_are_apart : He.DefD := dd "_law_are_apart" s__law_are_apart
def d__law_are_ever_apart : He.DefD := dd "_law_are_ever_apart" s__law_are_ever_apart
def d__law_bound_legs : He.DefD := dd "_law_bound_legs" s__law_bound_legs
def d_law : He.DefD := dd "law" s_law
def fn0 : List He.DefD := [d_reduced, d_added, d_lessened, d_times, d_over, d_compared, d_place_on, d_parting, d_dot, d_squared_at, d_ring_of, d_by_parts, d_on_side, d_crossing, d_is_within, d_nearest, d_r_of, d_lag_of, d_rho_of, d_nearest_of]
def fn1 : List He.DefD := [d_are_apart, d_is_flight_apart, d_are_ever_apart, d_has_ticks, d_first_that, d_least_ticks, d__law_bag, d__law_take, d__law_some, d__law_mixed, d__law_alike, d__law_over, d__law_added, d__law_lessened, d__law_multiplied, d__law_divided, d__law_is_below, d__law_reach, d__law_lag, d__law_rho]
def fn2 : List He.DefD := [d__law_bounds, d__law_squared, d__law_least_diagonal, d__law_offsets, d__law_spaced, d__law_do_cross, d__law_first_crossing, d__law_uncrossed, d__law_legs, d__law_couple, d__law_corners, d__law_gap, d__law_dot, d__law_gap_squared, d__law_on_edge, d__law_are_less, d__law_inner_point, d__law_nearest, d__law_worst_couple, d__law_is_int]
def fn3 : List He.DefD := [d__law_flight_legs, d__law_nearest_of, d__law_are_apart, d__law_are_ever_apart, d__law_bound_legs, d_law]
def fn : List He.DefD := fn0 ++ fn1 ++ fn2 ++ fn3
def fa0 : List He.Fa := [.glo "reduced", .glo "added", .glo "lessened", .glo "times", .glo "over", .glo "compared", .glo "NOUGHT", .glo "ONE", .glo "place_on", .glo "parting", .glo "dot", .glo "squared_at", .glo "ring_of", .glo "by_parts", .glo "on_side", .glo "crossing", .glo "is_within", .glo "nearest", .glo "r_of", .glo "lag_of"]
def fa1 : List He.Fa := [.glo "rho_of", .glo "ALIKE", .glo "WHOLE", .glo "nearest_of", .glo "are_apart", .glo "is_flight_apart", .glo "are_ever_apart", .glo "has_ticks", .glo "first_that", .glo "least_ticks", .glo "_law_bag", .glo "_law_take", .glo "_law_some", .glo "_law_mixed", .glo "_law_alike", .glo "_law_over", .glo "_law_added", .glo "_law_lessened", .glo "_law_multiplied", .glo "_law_divided"]
def fa2 : List He.Fa := [.glo "_law_is_below", .glo "_law_reach", .glo "_law_lag", .glo "_law_rho", .glo "_law_bounds", .glo "_law_squared", .glo "_law_least_diagonal", .glo "_law_offsets", .glo "_law_spaced", .glo "_law_do_cross", .glo "_law_first_crossing", .glo "_law_uncrossed", .glo "_law_legs", .glo "_law_couple", .glo "_law_corners", .glo "_law_gap", .glo "_law_dot", .glo "_law_gap_squared", .glo "_law_on_edge", .glo "_law_are_less"]
def fa3 : List He.Fa := [.glo "_law_inner_point", .glo "_law_nearest", .glo "_law_worst_couple", .glo "_law_is_int", .glo "_law_flight_legs", .glo "_law_nearest_of", .glo "_law_are_apart", .glo "_law_are_ever_apart", .glo "_law_bound_legs", .glo "law", .free "abs", .free "all", .free "enumerate", .free "int", .free "isinstance", .free "bool", .free "len", .free "list", .free "max", .free "min"]
def fa4 : List He.Fa := [.free "range", .free "repr", .free "tuple", .free "zip"]
def fa : List He.Fa := fa0 ++ fa1 ++ fa2 ++ fa3 ++ fa4
def loose0 : List Str := ["reduced", "added", "lessened", "times", "over", "compared", "NOUGHT", "ONE", "place_on", "parting", "dot", "squared_at", "ring_of", "by_parts", "on_side", "crossing", "is_within", "nearest", "r_of", "lag_of"]
def loose1 : List Str := ["rho_of", "ALIKE", "WHOLE", "nearest_of", "are_apart", "is_flight_apart", "are_ever_apart", "has_ticks", "first_that", "least_ticks", "_law_bag", "_law_take", "_law_some", "_law_mixed", "_law_alike", "_law_over", "_law_added", "_law_lessened", "_law_multiplied", "_law_divided"]
def loose2 : List Str := ["_law_is_below", "_law_reach", "_law_lag", "_law_rho", "_law_bounds", "_law_squared", "_law_least_diagonal", "_law_offsets", "_law_spaced", "_law_do_cross", "_law_first_crossing", "_law_uncrossed", "_law_legs", "_law_couple", "_law_corners", "_law_gap", "_law_dot", "_law_gap_squared", "_law_on_edge", "_law_are_less"]
def loose3 : List Str := ["_law_inner_point", "_law_nearest", "_law_worst_couple", "_law_is_int", "_law_flight_legs", "_law_nearest_of", "_law_are_apart", "_law_are_ever_apart", "_law_bound_legs"]
def loose : List Str := loose0 ++ loose1 ++ loose2 ++ loose3
def ex (K : PySem.W.Frag) : Bool := decide (PySem.W.nsIn K mainGlobals "gcd" = some (some (.builtin "math.gcd"))) && (He.tupB K "NOUGHT" [.int 0, .int 1] && (He.tupB K "ONE" [.int 1, .int 1] && (He.tupB K "ALIKE" [.int 0, .int 1] && He.tupB K "WHOLE" [.int 1, .int 1])))
abbrev R : PySem.W.OpenRow := PySem.W.OpenLaw.row PySem.Challenge.rw_lampsaloft_k35_whole_least_ticks
def tf : List He.Defn := [("least_ticks", none)]
abbrev hk : PySem.W.Hook := He.hookX 4 fa fn [] tf ex
def ob (s : PySem.W.SharedT) : He.AlX := He.obsX 4 fa fn [] tf ex (HandSHeadRun.getT s)
theorem ob_eq (s : PySem.W.SharedT) : ob s = hk.obs s.abs := He.obsX_eq (HandSHeadRun.getT_eq s)
theorem run (w : World) : HandSHeadRun.RunEqI R (PySem.W.view R.prog [0, 75]) hk ob 20000 loose w := by
  show _ = _
  kernel_rfl
end LH
end
set_option Elab.async false
set_option linter.all false
set_option maxRecDepth 100000
set_option maxHeartbeats 0
set_option exponentiation.threshold 20000
namespace LT
open PySem PySem.Spec PyProof.Rows L2 LL LB
section
variable {w : World} {K : PySem.W.Frag} {mg : Str → Option Value} {h : Heap}
theorem free_at (KX : K.In h) (G : h.Ns mainGlobals mg) (c : He.SaysX LH.fa LH.fn [] LH.tf LH.ex w h K) (i : Nat) {x : Str} (e : LH.fa[i]? = some (.free x)) : mg x = none := He.free_ok KX G (c.t.d.fact i e)
theorem glo_at (KX : K.In h) (G : h.Ns mainGlobals mg) (c : He.SaysX LH.fa LH.fn [] LH.tf LH.ex w h K) (i : Nat) {x : Str} (e : LH.fa[i]? = some (.glo x)) : mg x = some (.ref (He.ga K x)) := He.glo_ok KX G (c.t.d.fact i e)
theorem raw_at (KX : K.In h) (G : h.Ns mainGlobals mg) (c : He.SaysX LH.fa LH.fn [] LH.tf LH.ex w h K) (i j : Nat) {x : Str} {st : Stmt} (e : LH.fn[i]? = some (LH.dd x st)) (e2 : LH.fa[j]? = some (.glo x)) : Raw K mg x st := by
  obtain ⟨fd, F⟩ := c.t.d.def_ i e
  exact ⟨_, fd, F, glo_at KX G c j e2⟩
theorem rawC_at (KX : K.In h) (G : h.Ns mainGlobals mg) (c : He.SaysX LH.fa LH.fn [] LH.tf LH.ex w h K) (i j : Nat) {x : Str} {st : Stmt} (e : LH.fn[i]? = some (LH.dd x st)) (e2 : LH.fa[j]? = some (.glo x)) : RawC K mg x st (He.codeOf K (x, none)) := by
  obtain ⟨fd, F⟩ := c.t.d.def_ i e
  refine ⟨_, fd, F, glo_at KX G c j e2, ?_⟩
  obtain ⟨oc, od, dV, kV, doc, pm, an, cdv, ct, osl, e1, lk, hcd, _, _⟩ := F.ex
  obtain ⟨a, ha⟩ := He.codeIn_ref hcd
  have hc : fd.code = .ref a := by
    rw [e1]
    exact ha
  have z : He.codeOf K (x, none) = a := He.codeOf_eq (p := (x, none)) lk hc
  rw [z]
  exact hc
theorem blt_at (KX : K.In h) (G : h.Ns mainGlobals mg) (c : He.SaysX LH.fa LH.fn [] LH.tf LH.ex w h K) : Blt K mg (He.ga K "NOUGHT") (He.ga K "ONE") (He.ga K "ALIKE") (He.ga K "WHOLE") := by
  obtain ⟨e1, e2⟩ := He.ba (show (_ && _) = true from c.more)
  obtain ⟨e3, e4⟩ := He.ba e2
  obtain ⟨e5, e6⟩ := He.ba e4
  obtain ⟨e7, e8⟩ := He.ba e6
  exact {
    gcd := PySem.W.mg_of KX G (of_decide_eq_true e1)
    abs := free_at KX G c 70 rfl
    all := free_at KX G c 71 rfl
    enumerate := free_at KX G c 72 rfl
    int := free_at KX G c 73 rfl
    isinstance := free_at KX G c 74 rfl
    bool := free_at KX G c 75 rfl
    len := free_at KX G c 76 rfl
    list := free_at KX G c 77 rfl
    max := free_at KX G c 78 rfl
    min := free_at KX G c 79 rfl
    range := free_at KX G c 80 rfl
    repr := free_at KX G c 81 rfl
    tuple := free_at KX G c 82 rfl
    zip := free_at KX G c 83 rfl
    gNOUGHT := glo_at KX G c 6 rfl
    gONE := glo_at KX G c 7 rfl
    gALIKE := glo_at KX G c 21 rfl
    gWHOLE := glo_at KX G c 22 rfl
    tNOUGHT := fun G => ⟨_, [.int 0, .int 1], rfl, He.tupB_ok e3 G, rfl, rfl, trivial⟩
    tONE := fun G => ⟨_, [.int 1, .int 1], rfl, He.tupB_ok e5 G, rfl, rfl, trivial⟩
    tALIKE := fun G => ⟨_, [.int 0, .int 1], rfl, He.tupB_ok e7 G, rfl, rfl, trivial⟩
    tWHOLE := fun G => ⟨_, [.int 1, .int 1], rfl, He.tupB_ok e8 G, rfl, rfl, trivial⟩
  }
theorem all_at {P : Program} {base : Heap} (KX : K.In h) (G : h.Ns mainGlobals mg) (c : He.SaysX LH.fa LH.fn [] LH.tf LH.ex w h K) {fd : FuncData} (F : FunD K "law" "law" (defArgs LH.s_law) (defBody LH.s_law) (defScope LH.s_law) [] [] (He.ga K "law") fd)
    (TB : LamX.TabB base mg (He.cT K ("least_ticks", none)).1 (He.cT K ("least_ticks", none)).2) : FnOk P w K mg base CX0 13 (He.ga K "law") fd ["_law_script"] (sp_law (He.cT K ("least_ticks", none)).2 K) := by
  have B := blt_at KX G c
  have D_reduced := d_reduced (P := P) (w := w) (base := base) B (raw_at KX G c 0 0 rfl rfl)
  have D_added := d_added (P := P) (w := w) (base := base) (raw_at KX G c 1 1 rfl rfl) D_reduced
  have D_lessened := d_lessened (P := P) (w := w) (base := base) (raw_at KX G c 2 2 rfl rfl) D_reduced
  have D_times := d_times (P := P) (w := w) (base := base) (raw_at KX G c 3 3 rfl rfl) D_reduced
  have D_over := d_over (P := P) (w := w) (base := base) (raw_at KX G c 4 4 rfl rfl) D_reduced
  have D_compared := d_compared (P := P) (w := w) (base := base) B (raw_at KX G c 5 5 rfl rfl)
  have D_place_on := d_place_on (P := P) (w := w) (base := base) (raw_at KX G c 6 8 rfl rfl) D_added D_times
  have D_parting := d_parting (P := P) (w := w) (base := base) (raw_at KX G c 7 9 rfl rfl) D_place_on D_lessened
  have D_dot := d_dot (P := P) (w := w) (base := base) (raw_at KX G c 8 10 rfl rfl) D_added D_times
  have D_squared_at := d_squared_at (P := P) (w := w) (base := base) (raw_at KX G c 9 11 rfl rfl) D_parting D_dot
  have D_ring_of := d_ring_of (P := P) (w := w) (base := base) B (raw_at KX G c 10 12 rfl rfl) D_lessened
  have D_by_parts := d_by_parts (P := P) (w := w) (base := base) B (raw_at KX G c 11 13 rfl rfl) D_compared
  have D_on_side := d_on_side (P := P) (w := w) (base := base) B (raw_at KX G c 12 14 rfl rfl) D_over D_parting D_lessened D_times D_dot D_added
  have D_crossing := d_crossing (P := P) (w := w) (base := base) (raw_at KX G c 13 15 rfl rfl) D_over
  have D_is_within := d_is_within (P := P) (w := w) (base := base) B (raw_at KX G c 14 16 rfl rfl) D_lessened D_compared
  have D_nearest := d_nearest (P := P) (w := w) (base := base) B (raw_at KX G c 15 17 rfl rfl) D_ring_of D_crossing D_is_within D_on_side D_squared_at D_by_parts
  have D_r_of := d_r_of (P := P) (w := w) (base := base) (raw_at KX G c 16 18 rfl rfl)
  have D_lag_of := d_lag_of (P := P) (w := w) (base := base) (raw_at KX G c 17 19 rfl rfl)
  have D_rho_of := d_rho_of (P := P) (w := w) (base := base) (raw_at KX G c 18 20 rfl rfl) D_reduced D_lag_of
  have D_nearest_of := d_nearest_of (P := P) (w := w) (base := base) B (raw_at KX G c 19 23 rfl rfl) D_nearest D_compared
  have D_are_apart := d_are_apart (P := P) (w := w) (base := base) B (raw_at KX G c 20 24 rfl rfl) D_nearest_of D_compared
  have D_is_flight_apart := d_is_flight_apart (P := P) (w := w) (base := base) (raw_at KX G c 21 25 rfl rfl) D_are_apart D_rho_of D_r_of
  have D_are_ever_apart := d_are_ever_apart (P := P) (w := w) (base := base) B (raw_at KX G c 22 26 rfl rfl) D_compared D_nearest
  have D_has_ticks := d_has_ticks (P := P) (w := w) (base := base) B (raw_at KX G c 23 27 rfl rfl) D_r_of D_lag_of D_are_ever_apart
  have D_least_ticks := d_least_ticks (P := P) (w := w) (base := base) B (rawC_at KX G c 25 29 rfl rfl) (raw_at KX G c 24 28 rfl rfl) TB D_has_ticks D_lag_of D_is_flight_apart
  have D__law_over := d__law_over (P := P) (w := w) (base := base) B (raw_at KX G c 31 35 rfl rfl)
  have D__law_added := d__law_added (P := P) (w := w) (base := base) (raw_at KX G c 32 36 rfl rfl) D__law_over
  have D__law_lessened := d__law_lessened (P := P) (w := w) (base := base) (raw_at KX G c 33 37 rfl rfl) D__law_over
  have D__law_multiplied := d__law_multiplied (P := P) (w := w) (base := base) (raw_at KX G c 34 38 rfl rfl) D__law_over
  have D__law_divided := d__law_divided (P := P) (w := w) (base := base) (raw_at KX G c 35 39 rfl rfl) D__law_over
  have D__law_is_below := d__law_is_below (P := P) (w := w) (base := base) (raw_at KX G c 36 40 rfl rfl)
  have D__law_reach := d__law_reach (P := P) (w := w) (base := base) (raw_at KX G c 37 41 rfl rfl)
  have D__law_lag := d__law_lag (P := P) (w := w) (base := base) (raw_at KX G c 38 42 rfl rfl)
  have D__law_rho := d__law_rho (P := P) (w := w) (base := base) (raw_at KX G c 39 43 rfl rfl) D__law_over D__law_lag
  have D__law_corners := d__law_corners (P := P) (w := w) (base := base) (raw_at KX G c 50 54 rfl rfl) D__law_lessened
  have D__law_dot := d__law_dot (P := P) (w := w) (base := base) (raw_at KX G c 52 56 rfl rfl) D__law_added D__law_multiplied
  have D__law_are_less := d__law_are_less (P := P) (w := w) (base := base) (raw_at KX G c 55 59 rfl rfl) D__law_is_below
  have D__law_gap := d__law_gap (P := P) (w := w) (base := base) (raw_at KX G c 51 55 rfl rfl) D__law_added D__law_multiplied D__law_lessened
  have D__law_gap_squared := d__law_gap_squared (P := P) (w := w) (base := base) (raw_at KX G c 53 57 rfl rfl) D__law_gap D__law_dot
  have D__law_on_edge := d__law_on_edge (P := P) (w := w) (base := base) B (raw_at KX G c 54 58 rfl rfl) D__law_added D__law_gap D__law_lessened D__law_dot D__law_divided D__law_are_less D__law_multiplied D__law_gap_squared D__law_is_below
  have D__law_inner_point := d__law_inner_point (P := P) (w := w) (base := base) B (raw_at KX G c 56 60 rfl rfl) D__law_lessened D__law_over D__law_is_below
  have D__law_nearest := d__law_nearest (P := P) (w := w) (base := base) B (raw_at KX G c 57 61 rfl rfl) D__law_inner_point D__law_corners D__law_on_edge D__law_is_below D__law_are_less
  have D__law_nearest_of := d__law_nearest_of (P := P) (w := w) (base := base) B (raw_at KX G c 61 65 rfl rfl) D__law_nearest D__law_is_below
  have D__law_are_apart := d__law_are_apart (P := P) (w := w) (base := base) B (raw_at KX G c 62 66 rfl rfl) D__law_nearest_of D__law_rho D__law_is_below D__law_reach
  have D__law_are_ever_apart := d__law_are_ever_apart (P := P) (w := w) (base := base) B (raw_at KX G c 63 67 rfl rfl) D__law_lag D__law_is_below D__law_reach D__law_nearest
  have D__law_is_int := d__law_is_int (P := P) (w := w) (base := base) B (raw_at KX G c 59 63 rfl rfl)
  have D__law_alike := d__law_alike (P := P) (w := w) (base := base) B (raw_at KX G c 30 34 rfl rfl)
  have D__law_take := d__law_take (P := P) (w := w) (base := base) B (raw_at KX G c 27 31 rfl rfl)
  have D__law_some := d__law_some (P := P) (w := w) (base := base) B (raw_at KX G c 28 32 rfl rfl) D__law_take
  have D__law_mixed := d__law_mixed (P := P) (w := w) (base := base) B (raw_at KX G c 29 33 rfl rfl) D__law_take
  have D__law_bounds := d__law_bounds (P := P) (w := w) (base := base) B (raw_at KX G c 40 44 rfl rfl) D__law_some D__law_take
  have D__law_squared := d__law_squared (P := P) (w := w) (base := base) (raw_at KX G c 41 45 rfl rfl)
  have D__law_least_diagonal := d__law_least_diagonal (P := P) (w := w) (base := base) B (raw_at KX G c 42 46 rfl rfl)
  have D__law_offsets := d__law_offsets (P := P) (w := w) (base := base) B (raw_at KX G c 43 47 rfl rfl) D__law_least_diagonal
  have D__law_couple := d__law_couple (P := P) (w := w) (base := base) B (raw_at KX G c 49 53 rfl rfl) D__law_some D__law_offsets D__law_take
  have D__law_worst_couple := d__law_worst_couple (P := P) (w := w) (base := base) B (raw_at KX G c 58 62 rfl rfl) D__law_some D__law_take
  have D__law_do_cross := d__law_do_cross (P := P) (w := w) (base := base) (raw_at KX G c 45 49 rfl rfl)
  have D__law_spaced := d__law_spaced (P := P) (w := w) (base := base) B (raw_at KX G c 44 48 rfl rfl) D__law_some D__law_take D__law_offsets D__law_squared
  have D__law_first_crossing := d__law_first_crossing (P := P) (w := w) (base := base) B (raw_at KX G c 46 50 rfl rfl) D__law_do_cross
  have D__law_uncrossed := d__law_uncrossed (P := P) (w := w) (base := base) B (raw_at KX G c 47 51 rfl rfl) D__law_first_crossing
  have D__law_legs := d__law_legs (P := P) (w := w) (base := base) B (raw_at KX G c 48 52 rfl rfl) D__law_uncrossed D__law_spaced D__law_take D__law_mixed
  have D__law_flight_legs := d__law_flight_legs (P := P) (w := w) (base := base) B (raw_at KX G c 60 64 rfl rfl) D__law_legs D__law_take D__law_mixed
  have D__law_bound_legs := d__law_bound_legs (P := P) (w := w) (base := base) B (raw_at KX G c 64 68 rfl rfl) D__law_bounds D__law_some D__law_take D__law_reach D__law_flight_legs D__law_worst_couple D__law_couple
  have D__law_bag := d__law_bag (P := P) (w := w) (base := base) B (raw_at KX G c 26 30 rfl rfl)
  exact d_law B F D_least_ticks D__law_bag D__law_bound_legs D__law_lag D__law_alike D__law_are_ever_apart D__law_is_int D__law_are_apart D__law_some D_is_flight_apart
end
end LT
open PySem PySem.W PySem.Calls PyProof.Rows
theorem PySem.Challenge.cw_lampsaloft_k35_whole_least_ticks_holds : PySem.Challenge.rw_lampsaloft_k35_whole_least_ticks.Holds := by
  w_on; o_law
  refine HandSHeadRun.head_imp (r := OpenLaw.row PySem.Challenge.rw_lampsaloft_k35_whole_least_ticks) (q := view (OpenLaw.row PySem.Challenge.rw_lampsaloft_k35_whole_least_ticks).prog [0, 75]) (H := LH.hk) (ob := LH.ob) (M := 20000) (loose := LH.loose) (d := HandSHeadRun.topDef (OpenLaw.row PySem.Challenge.rw_lampsaloft_k35_whole_least_ticks).prog 75) (kwd := []) LH.ob_eq LH.run
    (by kernel_rfl) (by kernel_rfl) (by kernel_rfl) (by rfl) (by first | assumption | decide +kernel) (by decide +kernel) ⟨rfl, rfl, rfl, rfl, rfl, by decide +kernel⟩ ?hw ?hc
  case hw => w_witness2
  case hc =>
    refine LamX.walk_ofTsE (l := PySem.Challenge.rw_lampsaloft_k35_whole_least_ticks) (n := 63) (k := 13) (x := "_law_script") (CX := fun _ => L2.CX0) rfl (by decide) (by kernel_rfl) ⟨rfl, by decide, by decide⟩ ?F (fun _ _ _ _ _ z => z)
    intro w mg fa h Y G hmg0
    obtain ⟨K, KX, c⟩ := Y
    have hmg : mg ("law" : PySem.Str) = some (.ref fa) := by
      have e : (HandSHeadRun.topDef (OpenLaw.row PySem.Challenge.rw_lampsaloft_k35_whole_least_ticks).prog 75).name = ("law" : PySem.Str) := by kernel_rfl
      rw [← e]
      exact hmg0
    have e := hmg.symm.trans (LT.glo_at KX G c 69 rfl)
    cases e
    obtain ⟨fd, F⟩ := c.t.d.def_ 65 (d := LH.d_law) rfl
    have b := L2.FunD.bindsA (ps := ["_law_script"]) F fun _ _ _ _ _ _ us hl => match us, hl with | [_], _ => rfl
    have hT := c.empty _ (List.mem_cons_self : (("least_ticks", none) : He.Defn) ∈ LH.tf)
    have nT := c.out _ (List.mem_cons_self : (("least_ticks", none) : He.Defn) ∈ LH.tf)
    have hC := PySem.W.codeHd_of_K KX (c.hd _ (List.mem_cons_self : (("least_ticks", none) : He.Defn) ∈ LH.tf))
    refine ⟨K, KX, fd, [He.cT K ("least_ticks", none)], LT.sp_law (He.cT K ("least_ticks", none)).2 K, ?_, ?_, ?_, fun s u => b s [u] rfl, fun H a ns _ _ hH hS => ⟨a, ns, rfl, hS, hH _ List.mem_cons_self, fun _ => rfl⟩, fun base _ _ hTB => LT.all_at KX G c F (hTB _ List.mem_cons_self)⟩
    · intro p hp
      obtain rfl := List.mem_singleton.mp hp
      exact hT
    · intro p hp
      obtain rfl := List.mem_singleton.mp hp
      exact nT
    · intro p hp
      obtain rfl := List.mem_singleton.mp hp
      exact hC

