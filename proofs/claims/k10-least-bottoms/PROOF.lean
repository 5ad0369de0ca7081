import PyProof.Rows.All
import Wide.All
import OpenK.AllK
import Wide.FinOn
import HandS.ForMost
import HandS.ForExc
import HandS.Wide
import HandS.IsInst
import HandS.Zip
import HandS.Flow
import HandS.Gcd
import HandS.ExcIs
import PySem.Challenge.RW_everyformat_k10_whole_least_bottoms_betw
import HandS.Walk
set_option Elab.async false
set_option linter.all false
set_option maxRecDepth 100000
set_option maxHeartbeats 4000000
/-! Plain mathematics of the simplest FRACTION strictly between two: no program in sight. -/
namespace KM

theorem least_nat {P : Nat → Prop} : ∀ n, P n → ∃ m, P m ∧ ∀ k, P k → m ≤ k := by
  intro n
  induction n using Nat.strongRecOn with
  | _ n ih =>
    intro h
    by_cases e : ∃ k, k < n ∧ P k
    · obtain ⟨k, hk, hp⟩ := e
      exact ih k hk hp
    · refine ⟨n, h, fun k hp => ?_⟩
      by_cases hk : k < n
      · exact absurd ⟨k, hk, hp⟩ e
      · omega

/-- p / q lies strictly between a / b and c / d -/
def Btw (a b c d p q : Int) : Prop := 0 < q ∧ a * q < p * b ∧ p * d < c * q

structure Simp (a b c d p q : Int) : Prop where
  btw : Btw a b c d p q
  bot : ∀ p' q', Btw a b c d p' q' → q ≤ q'
  top : ∀ p', Btw a b c d p' q → p.natAbs ≤ p'.natAbs

theorem mediant {a b c d : Int} (hb : 0 < b) (hd : 0 < d) (h : a * d < c * b) : Btw a b c d (a + c) (b + d) := by
  refine ⟨by omega, ?_, ?_⟩
  · rw [Int.mul_add, Int.add_mul]; omega
  · rw [Int.mul_add, Int.add_mul]; omega

theorem exists_simp {a b c d : Int} (hb : 0 < b) (hd : 0 < d) (h : a * d < c * b) : ∃ p q, Simp a b c d p q := by
  obtain ⟨m, ⟨q, hq, p0, hp0⟩, hm⟩ := least_nat (P := fun m => ∃ q : Int, q = m ∧ ∃ p, Btw a b c d p q) (b + d).toNat ⟨b + d, by omega, _, mediant hb hd h⟩
  obtain ⟨k, ⟨p, hp, hpk⟩, hk⟩ := least_nat (P := fun k => ∃ p, Btw a b c d p q ∧ p.natAbs = k) p0.natAbs ⟨p0, hp0, rfl⟩
  refine ⟨p, q, hp, fun p' q' h' => ?_, fun p' h' => ?_⟩
  · have h1 := h'.1
    have := hm q'.toNat ⟨q', by omega, p', h'⟩
    omega
  · have := hk p'.natAbs ⟨p', h', rfl⟩
    omega

theorem pos_of_mul {x y : Int} (hy : 0 < y) (h : 0 < x * y) : 0 < x := by
  by_cases e : x ≤ 0
  · have := Int.mul_le_mul_of_nonneg_right e (Int.le_of_lt hy)
    omega
  · omega

theorem lt_of_mul {x y z : Int} (hz : 0 < z) (h : x * z < y * z) : x < y := by
  by_cases e : y ≤ x
  · have := Int.mul_le_mul_of_nonneg_right e (Int.le_of_lt hz)
    omega
  · omega

theorem le_of_mul {x y z : Int} (hz : 0 < z) (h : x * z ≤ y * z) : x ≤ y := by
  by_cases e : y < x
  · have := Int.mul_lt_mul_of_pos_right e hz
    omega
  · omega

theorem Simp.uniq {a b c d p q p' q' : Int} (S : Simp a b c d p q) (T : Simp a b c d p' q') : p = p' ∧ q = q' := by
  have e : q = q' := Int.le_antisymm (S.bot _ _ T.btw) (T.bot _ _ S.btw)
  subst e
  refine ⟨?_, rfl⟩
  have h1 := S.top _ T.btw
  have h2 := T.top _ S.btw
  have h3 : p = p' ∨ p = -p' := by omega
  rcases h3 with h | h
  · exact h
  · subst h
    obtain ⟨q0, s1, s2⟩ := S.btw
    obtain ⟨_, t1, t2⟩ := T.btw
    rw [Int.neg_mul] at s1 s2
    have ha : a * q < 0 := by omega
    have hc : 0 < c * q := by omega
    have ha' : 0 < -a := pos_of_mul q0 (by rw [Int.neg_mul]; omega)
    have hc' : 0 < c := pos_of_mul q0 hc
    have z : Btw a b c d 0 1 := ⟨by omega, by omega, by omega⟩
    have q1 : q = 1 := by have := S.bot _ _ z; omega
    subst q1
    have := S.top _ z
    omega

theorem Simp.sub {a b c d a' b' c' d' p q : Int} (S : Simp a b c d p q) (h : ∀ x y, Btw a' b' c' d' x y → Btw a b c d x y) (hb : Btw a' b' c' d' p q) : Simp a' b' c' d' p q :=
  ⟨hb, fun p' q' z => S.bot _ _ (h _ _ z), fun p' z => S.top _ (h _ _ z)⟩

theorem Simp.mirror {a b c d p q : Int} (S : Simp a b c d p q) : Simp (-c) d (-a) b (-p) q := by
  have fl : ∀ x y, Btw (-c) d (-a) b x y → Btw a b c d (-x) y := by
    rintro x y ⟨h0, h1, h2⟩
    rw [Int.neg_mul] at h1 h2
    refine ⟨h0, ?_, ?_⟩ <;> rw [Int.neg_mul] <;> omega
  obtain ⟨h0, h1, h2⟩ := S.btw
  refine ⟨⟨h0, ?_, ?_⟩, fun x y z => S.bot _ _ (fl _ _ z), fun x z => ?_⟩
  · rw [Int.neg_mul, Int.neg_mul]; omega
  · rw [Int.neg_mul, Int.neg_mul]; omega
  · have := S.top _ (fl _ _ z)
    omega

theorem Simp.cop {a b c d p q : Int} (S : Simp a b c d p q) : Nat.gcd p.natAbs q.natAbs = 1 := by
  obtain ⟨h0, h1, h2⟩ := S.btw
  have gp : 0 < Nat.gcd p.natAbs q.natAbs := Nat.gcd_pos_of_pos_right _ (by omega)
  have dp : ((Nat.gcd p.natAbs q.natAbs : Nat) : Int) ∣ p := Int.gcd_dvd_left p q
  have dq : ((Nat.gcd p.natAbs q.natAbs : Nat) : Int) ∣ q := Int.gcd_dvd_right p q
  generalize Nat.gcd p.natAbs q.natAbs = g at *
  obtain ⟨p', rfl⟩ := dp
  obtain ⟨q', rfl⟩ := dq
  have g0 : (0 : Int) < g := by omega
  have q0 : 0 < q' := pos_of_mul g0 (by rw [Int.mul_comm]; exact h0)
  have z : Btw a b c d p' q' := by
    refine ⟨q0, lt_of_mul g0 ?_, lt_of_mul g0 ?_⟩
    · rw [Int.mul_assoc, Int.mul_comm q', Int.mul_assoc, Int.mul_comm b, ← Int.mul_assoc p', Int.mul_comm p']; exact h1
    · rw [Int.mul_assoc, Int.mul_comm d, ← Int.mul_assoc p', Int.mul_comm p', Int.mul_assoc c, Int.mul_comm q']; exact h2
  have := S.bot _ _ z
  have h3 : (g : Int) * q' ≤ 1 * q' := by omega
  have := le_of_mul q0 h3
  omega

/-- numbers over the bottom e, by floor and ceiling -/
def lo (a b e : Int) : Int := a * e / b + 1
def hi (c d e : Int) : Int := -(-(c * e) / d) - 1
theorem btw_iff {a b c d z e : Int} (hb : 0 < b) (hd : 0 < d) (he : 0 < e) : Btw a b c d z e ↔ lo a b e ≤ z ∧ z ≤ hi c d e := by
  have h1 : a * e < z * b ↔ a * e / b < z := (Int.ediv_lt_iff_lt_mul hb).symm
  have h2 : -(c * e) < (-z) * d ↔ -(c * e) / d < -z := (Int.ediv_lt_iff_lt_mul hd).symm
  rw [Int.neg_mul] at h2
  unfold Btw lo hi
  constructor
  · rintro ⟨_, x, y⟩
    have x' := h1.mp x
    have y' := h2.mp (by omega)
    omega
  · rintro ⟨x, y⟩
    have x' := h1.mpr (by omega)
    have y' := h2.mpr (by omega)
    exact ⟨he, x', by omega⟩
/-- the number of the least size from l to m -/
def mid (l m : Int) : Int := if (if m < 0 then m else 0) > l then (if m < 0 then m else 0) else l
theorem simp_at {a b c d e : Int} (hb : 0 < b) (hd : 0 < d) (he : 0 < e) (h : lo a b e ≤ hi c d e) (no : ∀ e', 0 < e' → e' < e → hi c d e' < lo a b e') :
    Simp a b c d (mid (lo a b e) (hi c d e)) e := by
  refine ⟨(btw_iff hb hd he).mpr ?_, fun p' q' z => ?_, fun p' z => ?_⟩
  · unfold mid
    split <;> split at * <;> omega
  · by_cases hq : q' < e
    · have h1 := no q' z.1 hq
      have h2 := (btw_iff hb hd z.1).mp z
      omega
    · omega
  · have h2 := (btw_iff hb hd he).mp z
    unfold mid
    split <;> split at * <;> omega

/-- one turn of the continued fraction -/
structure Step (a b c d p q n : Int) : Prop where
  simp : Simp d (c - n * d) b (a - n * b) q (p - n * q)
  u0 : 0 < p - n * q
  uq : p - n * q < q
  c0 : 0 < c - n * d
  cd : c - n * d ≤ d
  a0 : 0 ≤ a - n * b
  ab : a - n * b < b
  ord : d * (a - n * b) < b * (c - n * d)
theorem step {a b c d p q : Int} (hb : 0 < b) (hd : 0 < d) (S : Simp a b c d p q) (no : hi c d 1 < lo a b 1) : Step a b c d p q (a / b) := by
  have n1 : a / b * b ≤ a := Int.ediv_mul_le a (by omega)
  have n2 : a < (a / b + 1) * b := Int.lt_ediv_add_one_mul_self a hb
  rw [Int.add_mul] at n2
  have hno : ¬ Btw a b c d (a / b + 1) 1 := fun z => by
    have := (btw_iff hb hd (by omega)).mp z
    omega
  obtain ⟨q0, s1, s2⟩ := S.btw
  have c1 : c ≤ (a / b + 1) * d := by
    by_cases e : c ≤ (a / b + 1) * d
    · exact e
    · exact absurd ⟨by omega, by rw [Int.add_mul]; omega, by omega⟩ hno
  rw [Int.add_mul] at c1
  generalize a / b = n at *
  obtain ⟨a', rfl⟩ : ∃ a', a = n * b + a' := ⟨a - n * b, by omega⟩
  obtain ⟨c', rfl⟩ : ∃ c', c = n * d + c' := ⟨c - n * d, by omega⟩
  obtain ⟨u, rfl⟩ : ∃ u, p = n * q + u := ⟨p - n * q, by omega⟩
  have ea : n * b + a' - n * b = a' := by omega
  have ec : n * d + c' - n * d = c' := by omega
  have eu : n * q + u - n * q = u := by omega
  have a0 : 0 ≤ a' := by omega
  have ab : a' < b := by omega
  have cd : c' ≤ d := by omega
  -- the plain form of the relation
  have tr : ∀ t s : Int, Btw (n * b + a') b (n * d + c') d (n * s + t) s ↔ 0 < s ∧ a' * s < t * b ∧ t * d < c' * s := by
    intro t s
    unfold Btw
    rw [Int.add_mul, Int.add_mul, Int.add_mul, Int.add_mul, Int.mul_assoc n b s, Int.mul_assoc n s b, Int.mul_comm b s, Int.mul_assoc n s d, Int.mul_assoc n d s, Int.mul_comm d s]
    constructor
    · rintro ⟨x, y, z⟩; exact ⟨x, by omega, by omega⟩
    · rintro ⟨x, y, z⟩; exact ⟨x, by omega, by omega⟩
  obtain ⟨_, t1, t2⟩ := (tr u q).mp S.btw
  have low : ∀ t s : Int, 0 < s → a' * s < t * b → t * d < c' * s → q ≤ s := fun t s h0 h1 h2 => S.bot _ _ ((tr t s).mpr ⟨h0, h1, h2⟩)
  have u0 : 0 < u := pos_of_mul hb (by have := Int.mul_nonneg a0 (Int.le_of_lt q0); omega)
  have cq : 0 < c' * q := by have := Int.mul_pos u0 hd; omega
  have c0 : 0 < c' := pos_of_mul q0 cq
  have uq : u < q := by
    have : c' * q ≤ d * q := Int.mul_le_mul_of_nonneg_right cd (Int.le_of_lt q0)
    exact lt_of_mul hd (by rw [Int.mul_comm q d]; omega)
  -- u is the least top over q
  have key : ∀ t : Int, a' * q < t * b → t * d < c' * q → u ≤ t := by
    intro t h1 h2
    by_cases e : u ≤ t
    · exact e
    · have t0 : 0 < t := pos_of_mul hb (by have := Int.mul_nonneg a0 (Int.le_of_lt q0); omega)
      have m1 : t * b ≤ (u - 1) * b := Int.mul_le_mul_of_nonneg_right (by omega) (Int.le_of_lt hb)
      have := low (u - 1) (q - 1) (by omega) (by rw [Int.mul_sub]; omega) (by rw [Int.mul_sub, Int.sub_mul]; omega)
      omega
  have simp0 : Simp d c' b a' q u := by
    refine ⟨⟨u0, ?_, ?_⟩, fun s t h => ?_, fun s h => ?_⟩
    · rw [Int.mul_comm d, Int.mul_comm q]; exact t2
    · rw [Int.mul_comm q, Int.mul_comm b]; exact t1
    · obtain ⟨h0, h1, h2⟩ := h
      have s0 : 0 < s := pos_of_mul c0 (by have := Int.mul_pos hd h0; omega)
      have qs := low t s s0 (by rw [Int.mul_comm a', Int.mul_comm t]; exact h2) (by rw [Int.mul_comm t, Int.mul_comm c']; exact h1)
      by_cases e : u ≤ t
      · exact e
      · refine key t ?_ ?_
        · have : a' * q ≤ a' * s := Int.mul_le_mul_of_nonneg_left qs a0
          rw [Int.mul_comm s, Int.mul_comm b] at h2
          omega
        · have : t * d ≤ u * d := Int.mul_le_mul_of_nonneg_right (by omega) (Int.le_of_lt hd)
          omega
    · obtain ⟨h0, h1, h2⟩ := h
      have s0 : 0 < s := pos_of_mul c0 (by have := Int.mul_pos hd h0; omega)
      have qs := low u s s0 (by rw [Int.mul_comm a', Int.mul_comm u]; exact h2) (by rw [Int.mul_comm u, Int.mul_comm c']; exact h1)
      omega
  have ord : d * a' < b * c' := by
    have x1 : a' * q * d < u * b * d := Int.mul_lt_mul_of_pos_right t1 hd
    have x2 : u * d * b < c' * q * b := Int.mul_lt_mul_of_pos_right t2 hb
    have e1 : u * b * d = u * d * b := by rw [Int.mul_assoc, Int.mul_comm b d, ← Int.mul_assoc]
    have e2 : a' * q * d = d * a' * q := by rw [Int.mul_assoc, Int.mul_comm q d, ← Int.mul_assoc, Int.mul_comm a' d]
    have e3 : c' * q * b = b * c' * q := by rw [Int.mul_assoc, Int.mul_comm q b, ← Int.mul_assoc, Int.mul_comm c' b]
    exact lt_of_mul q0 (by omega)
  exact ⟨by rw [ea, ec, eu]; exact simp0, by omega, by omega, by omega, by omega, by omega, by omega, by rw [ea, ec]; exact ord⟩

/-- behind the last turn: the upper end 1 / 0 may be any greater number -/
theorem Simp.last {l m q u : Int} (hl : 0 < l) (hm : 0 < m) (S : Simp l m 1 0 q u) : Simp l m (l / m + 2) 1 q u := by
  have n1 : l / m * m ≤ l := Int.ediv_mul_le l (by omega)
  have n2 : l < (l / m + 1) * m := Int.lt_ediv_add_one_mul_self l hm
  have z : Btw l m 1 0 (l / m + 1) 1 := ⟨by omega, by omega, by omega⟩
  obtain ⟨h0, h1, h2⟩ := S.btw
  have u1 : u = 1 := by have := S.bot _ _ z; omega
  subst u1
  have t1 := S.top _ z
  have d0 : 0 ≤ l / m := Int.ediv_nonneg (by omega) (by omega)
  have q0 : 0 < q := pos_of_mul hm (by omega)
  refine S.sub (fun x y ⟨a0, a1, a2⟩ => ⟨a0, a1, by omega⟩) ⟨by omega, h1, by omega⟩

theorem Simp.q_le {a b c d p q : Int} (S : Simp a b c d p q) (hb : 0 < b) (hd : 0 < d) (h : a * d < c * b) : q ≤ b + d := S.bot _ _ (mediant hb hd h)
theorem abs_bound {a b c d p q A : Int} (hb : 0 < b) (hd : 0 < d) (h : Btw a b c d p q) (ha : -A ≤ a) (hc : c ≤ A) : -(A * q) ≤ p ∧ p ≤ A * q := by
  obtain ⟨q0, h1, h2⟩ := h
  have x1 : -A * q ≤ a * q := Int.mul_le_mul_of_nonneg_right ha (Int.le_of_lt q0)
  have x2 : c * q ≤ A * q := Int.mul_le_mul_of_nonneg_right hc (Int.le_of_lt q0)
  rw [Int.neg_mul] at x1
  constructor
  · by_cases e : 0 ≤ p
    · have : 0 ≤ A * q ∨ A * q < 0 := by omega
      rcases this with z | z
      · omega
      · have : p * 1 ≤ p * d := Int.mul_le_mul_of_nonneg_left (by omega) e
        omega
    · have : p * b ≤ p * 1 := by
        have := Int.mul_le_mul_of_nonneg_left (show (1 : Int) ≤ b by omega) (show (0 : Int) ≤ -p by omega)
        rw [Int.neg_mul, Int.neg_mul] at this
        omega
      omega
  · by_cases e : 0 ≤ p
    · have : p * 1 ≤ p * d := Int.mul_le_mul_of_nonneg_left (by omega) e
      omega
    · have : p * b ≤ p * 1 := by
        have := Int.mul_le_mul_of_nonneg_left (show (1 : Int) ≤ b by omega) (show (0 : Int) ≤ -p by omega)
        rw [Int.neg_mul, Int.neg_mul] at this
        omega
      omega

/-- what is handed to the function -/
structure W (a b c d : Int) : Prop where
  b0 : 0 < b
  d0 : 0 < d
  ord : a * d < c * b
  ca : Nat.gcd a.natAbs b.natAbs = 1
  cc : Nat.gcd c.natAbs d.natAbs = 1
  bB : b ≤ 18446744073709551616
  dB : d ≤ 18446744073709551616
  aB : a.natAbs ≤ 73786976294838206464
  cB : c.natAbs ≤ 73786976294838206464

theorem gcd_sub (x n y : Int) : Nat.gcd (x - n * y).natAbs y.natAbs = Nat.gcd x.natAbs y.natAbs := by
  show Int.gcd (x - n * y) y = Int.gcd x y
  rw [Int.sub_eq_add_neg, ← Int.neg_mul]
  exact Int.gcd_add_mul_right_left y x (-n)
theorem W.next {a b c d p q : Int} (w : W a b c d) (T : Step a b c d p q (a / b)) (h : a - a / b * b ≠ 0) : W d (c - a / b * d) b (a - a / b * b) where
  b0 := T.c0
  d0 := by have := T.a0; omega
  ord := T.ord
  ca := by rw [Nat.gcd_comm, gcd_sub]; exact w.cc
  cc := by rw [Nat.gcd_comm, gcd_sub]; exact w.ca
  bB := by have := T.cd; have := w.dB; omega
  dB := by have := T.ab; have := w.bB; omega
  aB := by have := w.d0; have := w.dB; omega
  cB := by have := w.b0; have := w.bB; omega
theorem W.b1 {a b c d : Int} (w : W a b c d) (h : a - a / b * b = 0) : b = 1 := by
  have e := w.ca
  rw [← gcd_sub a (a / b) b, h] at e
  have := w.b0
  simp at e
  omega
theorem W.last {a b c d p q : Int} (w : W a b c d) (T : Step a b c d p q (a / b)) (h : a - a / b * b = 0) : W d (c - a / b * d) (d / (c - a / b * d) + 2) 1 := by
  have c0 := T.c0
  have n2 : d < (d / (c - a / b * d) + 1) * (c - a / b * d) := Int.lt_ediv_add_one_mul_self d c0
  have n3 : d / (c - a / b * d) ≤ d := Int.ediv_le_self _ (Int.le_of_lt w.d0)
  have n4 : 0 ≤ d / (c - a / b * d) := Int.ediv_nonneg (Int.le_of_lt w.d0) (Int.le_of_lt c0)
  have := w.d0
  have := w.dB
  refine ⟨c0, by omega, ?_, ?_, ?_, ?_, by omega, by omega, by omega⟩
  · generalize c - a / b * d = m at *
    generalize d / m = k at *
    rw [Int.add_mul] at n2 ⊢
    omega
  · rw [Nat.gcd_comm, gcd_sub]; exact w.cc
  · simp
  · have := T.cd; omega
end KM
/-! The loops' bookkeeping and the law's own reckoning: plain mathematics. -/
namespace KM
/-- a size that every number here keeps -/
def Sm (i : Int) : Prop := i.natAbs ≤ 115792089237316195423570985008687907853269984665640564039457584007913129639936
/-- going back through the turns (the last one first) -/
def FB : List Int → Int → Int → Int → Int → Prop
  | [], p, q, p0, q0 => p = p0 ∧ q = q0
  | n :: r, p, q, p0, q0 => (Sm n ∧ Sm p ∧ Sm q ∧ 0 < p ∧ 0 < q ∧ Nat.gcd p.natAbs q.natAbs = 1) ∧ FB r (n * p + q) p p0 q0
/-- how many turns there can be -/
def LenOk (k : Nat) (p q : Int) : Prop := k = 0 ∨ (q < p ∧ 0 < q ∧ 2 ^ k * (p.toNat * q.toNat) ≤ 2722258935367507707706996859454145691648)
theorem LenOk.small {k : Nat} {p q : Int} (h : LenOk k p q) : k ≤ 131 := by
  rcases h with h | ⟨h1, h2, h3⟩
  · omega
  · by_cases e : k ≤ 131
    · exact e
    · have a : 2 ^ 132 ≤ 2 ^ k := Nat.pow_le_pow_right (by decide) (by omega)
      have b : 1 * 1 ≤ p.toNat * q.toNat := Nat.mul_le_mul (by omega) (by omega)
      have c : 2 ^ k * 1 ≤ 2 ^ k * (p.toNat * q.toNat) := Nat.mul_le_mul_left _ (by omega)
      have d : (2 : Nat) ^ 132 = 5444517870735015415413993718908291383296 := by decide +kernel
      omega
theorem LenOk.next {k : Nat} {p q n : Int} (h : LenOk k p q) (hq : q ≤ 36893488147419103232) (u0 : 0 < p - n * q) (uq : p - n * q < q) : LenOk (k + 1) q (p - n * q) := by
  refine .inr ⟨uq, u0, ?_⟩
  rcases h with h | ⟨h1, h2, h3⟩
  · subst h
    have a : q.toNat * (p - n * q).toNat ≤ 36893488147419103232 * 36893488147419103232 := Nat.mul_le_mul (by omega) (by omega)
    omega
  · have n1 : 1 ≤ n := by
      by_cases e : 1 ≤ n
      · exact e
      · have := Int.mul_le_mul_of_nonneg_right (show n ≤ 0 by omega) (show (0 : Int) ≤ q by omega)
        omega
    have m : 1 * q ≤ n * q := Int.mul_le_mul_of_nonneg_right n1 (by omega)
    have a : 2 * (p - n * q).toNat ≤ p.toNat := by omega
    have b : q.toNat * (2 * (p - n * q).toNat) ≤ q.toNat * p.toNat := Nat.mul_le_mul_left _ a
    have c : 2 ^ k * (q.toNat * (2 * (p - n * q).toNat)) ≤ 2 ^ k * (p.toNat * q.toNat) := Nat.mul_le_mul_left _ (by rw [Nat.mul_comm p.toNat]; exact b)
    have d : 2 ^ (k + 1) * (q.toNat * (p - n * q).toNat) = 2 ^ k * (q.toNat * (2 * (p - n * q).toNat)) := by
      rw [Nat.pow_succ, Nat.mul_assoc]
      congr 1
      rw [Nat.mul_left_comm]
    omega
/-- all sizes from W and Simp -/
structure Sz (a b c d p q : Int) : Prop where
  ha : Sm a
  hb : Sm b
  hc : Sm c
  hd : Sm d
  hp : Sm p
  hq : Sm q
  hn : Sm (a / b)
  q1 : q ≤ 36893488147419103232
theorem W.sz {a b c d p q : Int} (w : W a b c d) (S : Simp a b c d p q) : Sz a b c d p q := by
  have h1 := S.q_le w.b0 w.d0 w.ord
  have h2 := abs_bound w.b0 w.d0 S.btw (A := 73786976294838206464) (by have := w.aB; omega) (by have := w.cB; omega)
  have h3 := S.btw.1
  have := w.aB; have := w.bB; have := w.cB; have := w.dB; have := w.b0; have := w.d0
  have h4 : (a / b).natAbs ≤ a.natAbs := Int.natAbs_ediv_le_natAbs a b
  refine ⟨?_, ?_, ?_, ?_, ?_, ?_, ?_, by omega⟩ <;> unfold Sm <;> omega
theorem W.fb {a b c d p q p0 q0 : Int} {ns : List Int} (w : W a b c d) (S : Simp a b c d p q) (T : Step a b c d p q (a / b)) (h : FB ns.reverse p q p0 q0) : FB (ns ++ [a / b]).reverse q (p - a / b * q) p0 q0 := by
  rw [List.reverse_append, List.reverse_singleton]
  have z := w.sz S
  have h3 := S.btw.1
  refine ⟨⟨z.hn, z.hq, ?_, h3, T.u0, ?_⟩, ?_⟩
  · have := z.q1; have := T.u0; have := T.uq
    unfold Sm; omega
  · exact T.simp.cop
  · show FB ns.reverse (a / b * q + (p - a / b * q)) q p0 q0
    rw [show a / b * q + (p - a / b * q) = p by omega]
    exact h
/-- the second half's shape at each turn -/
theorem FB.turn {n : Int} {r : List Int} {p q p0 q0 : Int} (h : FB (n :: r) p q p0 q0) : (Sm n ∧ Sm p ∧ Sm q ∧ 0 < p ∧ 0 < q ∧ Nat.gcd p.natAbs q.natAbs = 1) ∧ FB r (n * p + q) p p0 q0 := h

/-! ### the law's own search -/
theorem has_of_gap {a b c d : Int} (hb : 0 < b) (hd : 0 < d) (h : a * d < c * b) (g : b * d ≤ 60 * (c * b - a * d)) : lo a b 61 ≤ hi c d 61 := by
  have n1 : a * 61 / b * b ≤ a * 61 := Int.ediv_mul_le _ (by omega)
  have n2 : a * 61 < (a * 61 / b + 1) * b := Int.lt_ediv_add_one_mul_self _ hb
  have z : Btw a b c d (a * 61 / b + 1) 61 := by
    refine ⟨by omega, n2, ?_⟩
    have m : (a * 61 / b + 1) * b * d ≤ (a * 61 + b) * d := Int.mul_le_mul_of_nonneg_right (by rw [Int.add_mul]; omega) (Int.le_of_lt hd)
    have e1 : (a * 61 + b) * d = a * d * 61 + b * d := by rw [Int.add_mul, Int.mul_assoc, Int.mul_comm 61 d, ← Int.mul_assoc]
    have e2 : (a * 61 / b + 1) * b * d = (a * 61 / b + 1) * d * b := by rw [Int.mul_assoc, Int.mul_comm b d, ← Int.mul_assoc]
    have e3 : c * 61 * b = c * b * 61 := by rw [Int.mul_assoc, Int.mul_comm 61 b, ← Int.mul_assoc]
    exact lt_of_mul hb (by omega)
  have := (btw_iff hb hd (by omega)).mp z
  omega
theorem Btw.trans_left {a b p q c d x y : Int} (hb : 0 < b) (h : Btw a b c d p q) (g : Btw a b p q x y) (hd : 0 < d) : Btw a b c d x y := by
  obtain ⟨q0, h1, h2⟩ := h
  obtain ⟨y0, g1, g2⟩ := g
  refine ⟨y0, g1, ?_⟩
  have x1 : x * q * d < p * y * d := Int.mul_lt_mul_of_pos_right g2 hd
  have x2 : p * d * y < c * q * y := Int.mul_lt_mul_of_pos_right h2 y0
  have e1 : x * q * d = x * d * q := by rw [Int.mul_assoc, Int.mul_comm q d, ← Int.mul_assoc]
  have e2 : p * y * d = p * d * y := by rw [Int.mul_assoc, Int.mul_comm y d, ← Int.mul_assoc]
  have e3 : c * q * y = c * y * q := by rw [Int.mul_assoc, Int.mul_comm q y, ← Int.mul_assoc]
  exact lt_of_mul q0 (by omega)
theorem Btw.trans_right {a b p q c d x y : Int} (hb : 0 < b) (h : Btw a b c d p q) (g : Btw p q c d x y) (hd : 0 < d) : Btw a b c d x y := by
  obtain ⟨q0, h1, h2⟩ := h
  obtain ⟨y0, g1, g2⟩ := g
  refine ⟨y0, ?_, g2⟩
  have x1 : a * q * y < p * b * y := Int.mul_lt_mul_of_pos_right h1 y0
  have x2 : p * y * b < x * q * b := Int.mul_lt_mul_of_pos_right g1 hb
  have e1 : a * q * y = a * y * q := by rw [Int.mul_assoc, Int.mul_comm q y, ← Int.mul_assoc]
  have e2 : p * b * y = p * y * b := by rw [Int.mul_assoc, Int.mul_comm b y, ← Int.mul_assoc]
  have e3 : x * q * b = x * b * q := by rw [Int.mul_assoc, Int.mul_comm q b, ← Int.mul_assoc]
  exact lt_of_mul q0 (by omega)
/-- what is between two parts of a whole is between the whole's ends -/
theorem Btw.inner {a b c d p1 q1 p2 q2 x y : Int} (hb : 0 < b) (hd : 0 < d) (h1 : Btw a b c d p1 q1) (h2 : Btw a b c d p2 q2) (g : Btw p1 q1 p2 q2 x y) : Btw a b c d x y := by
  obtain ⟨y0, g1, g2⟩ := g
  have u : Btw p1 q1 c d x y := Btw.trans_left h1.1 (p := p2) (q := q2) ⟨h2.1, ?_, h2.2.2⟩ ⟨y0, g1, g2⟩ hd
  · exact Btw.trans_right hb h1 u hd
  · have x1 : p1 * y * q2 < x * q1 * q2 := Int.mul_lt_mul_of_pos_right g1 h2.1
    have x2 : x * q2 * q1 < p2 * y * q1 := Int.mul_lt_mul_of_pos_right g2 h1.1
    have e1 : p1 * y * q2 = p1 * q2 * y := by rw [Int.mul_assoc, Int.mul_comm y q2, ← Int.mul_assoc]
    have e2 : x * q1 * q2 = x * q2 * q1 := by rw [Int.mul_assoc, Int.mul_comm q1 q2, ← Int.mul_assoc]
    have e3 : p2 * y * q1 = p2 * q1 * y := by rw [Int.mul_assoc, Int.mul_comm y q1, ← Int.mul_assoc]
    exact lt_of_mul y0 (by omega)

/-- a drawn pair of FRACTIONS, as the law asks it -/
structure Case (a b c d : Int) : Prop where
  w : W a b c d
  gap : b * d ≤ 60 * (c * b - a * d)
  aS : a.natAbs ≤ 1000000
  bS : b ≤ 1000000
  cS : c.natAbs ≤ 1000000
  dS : d ≤ 1000000
/-- all that the law asks of one case: r is the simplest, l and u those on both sides -/
structure Answer (a b c d p q p1 q1 p2 q2 : Int) : Prop where
  mid : Simp a b c d p q
  q61 : q ≤ 61
  mir : W (0 - c) d (0 - a) b
  mirS : Simp (0 - c) d (0 - a) b (0 - p) q
  wl : W a b p q
  sl : Simp a b p q p1 q1
  wu : W p q c d
  su : Simp p q c d p2 q2
  wm : W p1 q1 p2 q2
  sm : Simp p1 q1 p2 q2 p q
  l1 : q ≤ q1
  l2 : q ≤ q2
theorem case_answer {a b c d : Int} (C : Case a b c d) : ∃ p q p1 q1 p2 q2, Answer a b c d p q p1 q1 p2 q2 := by
  obtain ⟨w, gap, aS, bS, cS, dS⟩ := C
  obtain ⟨p, q, S⟩ := exists_simp w.b0 w.d0 w.ord
  obtain ⟨q0, s1, s2⟩ := S.btw
  have q61 : q ≤ 61 := by
    have h := has_of_gap w.b0 w.d0 w.ord gap
    exact S.bot _ _ ((btw_iff w.b0 w.d0 (by omega)).mpr ⟨Int.le_refl _, h⟩)
  have pA := abs_bound w.b0 w.d0 S.btw (A := 1000000) (by omega) (by omega)
  have hb := w.b0
  have hd := w.d0
  have wl : W a b p q := ⟨hb, q0, s1, w.ca, S.cop, by omega, by omega, by omega, by omega⟩
  have wu : W p q c d := ⟨q0, hd, s2, S.cop, w.cc, by omega, by omega, by omega, by omega⟩
  obtain ⟨p1, q1, L⟩ := exists_simp hb q0 s1
  obtain ⟨p2, q2, U⟩ := exists_simp q0 hd s2
  have q1B := L.q_le hb q0 s1
  have q2B := U.q_le q0 hd s2
  have p1A := abs_bound hb q0 L.btw (A := 100000000) (by omega) (by omega)
  have p2A := abs_bound q0 hd U.btw (A := 100000000) (by omega) (by omega)
  have b1 : Btw a b c d p1 q1 := Btw.trans_left hb S.btw L.btw hd
  have b2 : Btw a b c d p2 q2 := Btw.trans_right hb S.btw U.btw hd
  obtain ⟨q10, l1, l2⟩ := L.btw
  obtain ⟨q20, u1, u2⟩ := U.btw
  have ord : p1 * q2 < p2 * q1 := by
    have x1 : p1 * q * q2 < p * q1 * q2 := Int.mul_lt_mul_of_pos_right l2 q20
    have x2 : p * q2 * q1 < p2 * q * q1 := Int.mul_lt_mul_of_pos_right u1 q10
    have e1 : p1 * q * q2 = p1 * q2 * q := by rw [Int.mul_assoc, Int.mul_comm q q2, ← Int.mul_assoc]
    have e2 : p * q1 * q2 = p * q2 * q1 := by rw [Int.mul_assoc, Int.mul_comm q1 q2, ← Int.mul_assoc]
    have e3 : p2 * q * q1 = p2 * q1 * q := by rw [Int.mul_assoc, Int.mul_comm q q1, ← Int.mul_assoc]
    exact lt_of_mul q0 (by omega)
  refine ⟨p, q, p1, q1, p2, q2, S, q61, ?_, ?_, wl, L, wu, U, ?_, S.sub (fun x y z => Btw.inner hb hd b1 b2 z) ⟨q0, l2, u1⟩, S.bot _ _ b1, S.bot _ _ b2⟩
  · refine ⟨hd, hb, ?_, ?_, ?_, w.dB, w.bB, by omega, by omega⟩
    · have := w.ord
      rw [Int.sub_mul, Int.sub_mul, Int.zero_mul, Int.zero_mul]
      omega
    · have := w.cc
      rw [show (0 - c).natAbs = c.natAbs by omega]
      exact this
    · have := w.ca
      rw [show (0 - a).natAbs = a.natAbs by omega]
      exact this
  · have := S.mirror
    rw [Int.zero_sub, Int.zero_sub, Int.zero_sub]
    exact this
  · exact ⟨q10, q20, ord, L.cop, U.cop, by omega, by omega, by omega, by omega⟩
end KM
/-! The walks: what stands for a pair, the small defs. -/
namespace KW
open PySem PySem.Spec PyProof.Rows L2
/-! ### the text by places -/
def topS (i : Nat) : Stmt := PySem.Challenge.pw_everyformat_k10_whole_least_bottoms_betw.main.body.getD i (.Pass ⟨0, 0, 0, 0⟩)
/-- a def of the top, as callers need it -/
structure Def (K : PySem.W.Frag) (mg : Str → Option Value) (x : Str) (st : Stmt) (ps : List Str) (f : Addr) (fd : FuncData) : Prop where
  F : Fun K x x st f fd
  b : Binds K fd ps []
  g : mg x = some (.ref f)
/-! ### heaps -/
theorem same_upd {H : Hp} {p : Addr} {o : HO} (h : H p = none) : Same H (upd H p o) := fun b x e => by
  rw [upd_ne (ne_of_none e h)]
  exact e
theorem sqt {K : PySem.W.Frag} {H H' : Hp} {a : Addr} {xs : List V} (e : Same H H') (h : SqT K H a xs) : SqT K H' a xs := by
  rcases h with (h | ⟨o, h⟩) | h
  · exact .inl (.inl (e _ _ h))
  · exact .inl (.inr ⟨o, e _ _ h⟩)
  · exact .inr h
/-- a new object is handed back, all else kept -/
def Out (H : Hp) (o : HO) (Q : VK) : Prop := ∀ H' p, Same H H' → H p = none → H' p = some o → Q (.ref p) H'
theorem Out.go {H H1 : Hp} {o : HO} {Q : VK} (k : Out H o Q) (s : Same H H1) : ∀ p, H1 p = none → Q (.ref p) (upd H1 p o) := fun p hp => k _ p (s.trans (same_upd hp)) (s.free hp) upd_same
theorem Out.from {H H1 : Hp} {o : HO} {Q : VK} (k : Out H o Q) (s : Same H H1) : Out H1 o Q := fun H' p s' hp e => k H' p (s.trans s') (s.free hp) e
/-! ### pairs -/
def Pr (K : PySem.W.Frag) (H : Hp) (v : V) (a b : Int) : Prop := ∃ p, v = .ref p ∧ (SqL K H p [.int a, .int b] ∨ SqT K H p [.int a, .int b])
theorem Pr.mono {K : PySem.W.Frag} {H H' : Hp} {v : V} {a b : Int} (s : Same H H') (h : Pr K H v a b) : Pr K H' v a b := by
  obtain ⟨p, e, h | h⟩ := h
  · exact ⟨p, e, .inl (s.seq h)⟩
  · exact ⟨p, e, .inr (sqt s h)⟩
theorem Pr.tup {K : PySem.W.Frag} {H : Hp} {p : Addr} {a b : Int} (h : H p = some (.tup [.int a, .int b])) : Pr K H (.ref p) a b := ⟨p, rfl, .inr (SqT.of h)⟩
theorem Pr.lst {K : PySem.W.Frag} {H : Hp} {p : Addr} {a b : Int} (h : H p = some (.lst [.int a, .int b])) : Pr K H (.ref p) a b := ⟨p, rfl, .inl (SqL.of h)⟩
def rIxP (K : PySem.W.Frag) : R2 := fun x y H Q => ∃ a b, Pr K H x a b ∧ ((y = .int 0 ∧ Q (.int a) H) ∨ (y = .int 1 ∧ Q (.int b) H))
theorem ixp {X : Cx} : IxR X (rIxP X.K) := by
  intro value slice pins s σ H x y v u Q I rx ry h hs
  refine ix_seq value slice pins s σ H x y v u Q I rx ry ?_ hs
  obtain ⟨a, b, ⟨p, rfl, hp⟩, hy⟩ := h
  rcases hp with hp | hp
  · refine .inl ?_
    rcases hy with ⟨rfl, q⟩ | ⟨rfl, q⟩
    · exact ⟨p, _, 0, _, rfl, rfl, hp, atI_nat (j := 0) rfl, q⟩
    · exact ⟨p, _, 1, _, rfl, rfl, hp, atI_nat (j := 1) rfl, q⟩
  · refine .inr (.inl ?_)
    rcases hy with ⟨rfl, q⟩ | ⟨rfl, q⟩
    · exact ⟨p, _, 0, _, rfl, rfl, hp, atI_nat (j := 0) rfl, q⟩
    · exact ⟨p, _, 1, _, rfl, rfl, hp, atI_nat (j := 1) rfl, q⟩
/-! ### sizes -/
def Bd (i : Int) : Prop := i.natAbs < 2 ^ 1000
theorem Bd.of {i : Int} (h : i.natAbs ≤ 115792089237316195423570985008687907853269984665640564039457584007913129639936) : Bd i := Nat.lt_of_le_of_lt h (by decide +kernel)
theorem Bd.mul {i j : Int} (a : Bd i) (b : Bd j) : CMulW i j := wide_mul a b (by decide) (by decide) (by decide)
theorem Bd.prod {i j : Int} (a : Bd i) (b : Bd j) : (i * j).natAbs < 2 ^ 8000 := Nat.lt_of_lt_of_le (wide_lt a b) (Nat.pow_le_pow_right (by decide) (by decide))
theorem Bd.one : Bd 1 := .of (by decide +kernel)
theorem Bd.div {i j : Int} (h : 0 < j) (b : Bd j) : CDivW i j := wide_div h b (by decide) (by decide)
theorem divG {t e : Int} (h : 0 < e) (b : e.natAbs < 2 ^ 8000) (i : Int) : CDivW i ((Nat.gcd t.natAbs e.natAbs : Nat) : Int) := by
  have g0 : 0 < Nat.gcd t.natAbs e.natAbs := Nat.gcd_pos_of_pos_right _ (by omega)
  have g1 : Nat.gcd t.natAbs e.natAbs ≤ e.natAbs := Nat.le_of_dvd (by omega) (Nat.gcd_dvd_right _ _)
  exact wide_div (b := 8000) (by omega) (by rw [Int.natAbs_natCast]; exact Nat.lt_of_le_of_lt g1 b) (by decide) (by decide)
/-- a quotient in lowest terms -/
def rt (t e : Int) : Int := t / ((Nat.gcd t.natAbs e.natAbs : Nat) : Int)
def rb (t e : Int) : Int := e / ((Nat.gcd t.natAbs e.natAbs : Nat) : Int)
theorem rt_cop {t e : Int} (h : Nat.gcd t.natAbs e.natAbs = 1) : rt t e = t := by unfold rt; rw [h]; exact Int.ediv_one t
theorem rb_cop {t e : Int} (h : Nat.gcd t.natAbs e.natAbs = 1) : rb t e = e := by unfold rb; rw [h]; exact Int.ediv_one e
def pairO (a b : Int) : HO := .tup [.int a, .int b]
/-! ### the promises -/
def spFraction : Sp := fun vs H Q _ => ∃ t e, vs = [.int t, .int e] ∧ 0 < e ∧ e.natAbs < 2 ^ 8000 ∧ Out H (pairO (rt t e) (rb t e)) Q
def spWhole : Sp := fun vs H Q _ => ∃ n, vs = [.int n] ∧ Out H (pairO n 1) Q
structure Ar (K : PySem.W.Frag) (H : Hp) (vs : List V) (a b c d : Int) : Prop where
  h : ∃ x y, vs = [x, y] ∧ Pr K H x a b ∧ Pr K H y c d
  a : Bd a
  b : Bd b
  c : Bd c
  d : Bd d
def spPlus (K : PySem.W.Frag) : Sp := fun vs H Q _ => ∃ a b c d, Ar K H vs a b c d ∧ 0 < b ∧ 0 < d ∧ Out H (pairO (rt (a * d + c * b) (b * d)) (rb (a * d + c * b) (b * d))) Q
def spMinus (K : PySem.W.Frag) : Sp := fun vs H Q _ => ∃ a b c d, Ar K H vs a b c d ∧ 0 < b ∧ 0 < d ∧ Out H (pairO (rt (a * d - c * b) (b * d)) (rb (a * d - c * b) (b * d))) Q
def spOver (K : PySem.W.Frag) : Sp := fun vs H Q _ => ∃ a b c d, Ar K H vs a b c d ∧ 0 < b ∧ 0 < c ∧ Out H (pairO (rt (a * d) (b * c)) (rb (a * d) (b * c))) Q
def spLess (K : PySem.W.Frag) : Sp := fun vs H Q _ => ∃ a b c d, Ar K H vs a b c d ∧ Q (.bl (decide (a * d < c * b))) H
def spFloor (K : PySem.W.Frag) : Sp := fun vs H Q _ => ∃ x a b, vs = [x] ∧ Pr K H x a b ∧ 0 < b ∧ Bd b ∧ Q (.int (a / b)) H
def spCeil (K : PySem.W.Frag) : Sp := fun vs H Q _ => ∃ x a b, vs = [x] ∧ Pr K H x a b ∧ 0 < b ∧ Bd b ∧ Q (.int (-(-a / b))) H
def spLeast (K : PySem.W.Frag) : Sp := fun vs H Q _ => ∃ a b c d, Ar K H vs a b c d ∧ 0 < b ∧ 0 < d ∧ (KM.lo a b 1 ≤ KM.hi c d 1 → Q (.int (KM.mid (KM.lo a b 1) (KM.hi c d 1))) H) ∧ (KM.hi c d 1 < KM.lo a b 1 → Q .non H)
/-! ### the bodies -/
section
variable {P : Program} {w : World} {K : PySem.W.Frag} {mg : Str → Option Value} {base : Heap} {f : Addr} {fd : FuncData}
theorem sc7 : FnScope ["top", "bottom", "common"] ["top", "bottom"] (defScope (topS 7)) := ⟨rfl, rfl, rfl, by decide +kernel, rfl, by decide +kernel, by decide +kernel⟩
theorem ok_fraction (F : Fun K "fraction" "fraction" (topS 7) f fd) (mgg : mg "gcd" = some (.builtin "math.gcd")) : FnOk P w K mg base CX0 1 f fd ["top", "bottom"] spFraction := by
  refine F.ok sc7 (fun vs H Q E h => ?_) (fun cdv A outer s H vs Q E hr h => ?_)
  · obtain ⟨t, e, rfl, _⟩ := h
    rfl
  · obtain ⟨t, e, rfl, h0, hb, k⟩ := h
    refine ⟨_, pss_cons (ps_if (pt_cmpR op_eq (pv 1) pe_int (nomark _)) (pss_one ps_never) pss_nil)
      (pss_cons (ps_set (i := 2) sc7.nd rfl (.inl rfl) (pe_callBfun cr_gcd (by rfl) mgg (pa_cons (pv 0) (pa_cons (pv 1) pa_nil))))
      (pss_cons (ps_if (pt_cmpR op_lt (pv 1) pe_int (nomark _)) (pss_one ps_never) pss_nil)
      (pss_one (ps_ret (pe_tup (pa_cons (pe_op op_fdivW (pv 0) (pv 2)) (pa_cons (pe_op op_fdivW (pv 1) (pv 2)) pa_nil))))))), ?_⟩
    refine ⟨_, rfl, rfl, _, rfl, ite2 (fun z => ?_) (fun _ => ?_)⟩
    · have := V.int.inj (of_decide_eq_true z)
      omega
    · refine ⟨_, rfl, _, rfl, t, e, rfl, ?_⟩
      refine ⟨_, rfl, _, _, rfl, rfl, _, rfl, ite2 (fun z => ?_) (fun _ => ?_)⟩
      · have := of_decide_eq_true z
        omega
      · exact ⟨_, rfl, _, rfl, _, _, rfl, rfl, divG h0 hb _, _, rfl, _, rfl, _, _, rfl, rfl, divG h0 hb _, by show 2 ≤ sizeLine; decide, k.go (Same.refl H)⟩
theorem sc8 : FnScope ["number"] ["number"] (defScope (topS 8)) := ⟨rfl, rfl, rfl, by decide +kernel, rfl, by decide +kernel, by decide +kernel⟩
theorem ok_whole (F : Fun K "whole" "whole" (topS 8) f fd) : FnOk P w K mg base CX0 1 f fd ["number"] spWhole := by
  refine F.ok sc8 (fun vs H Q E h => ?_) (fun cdv A outer s H vs Q E hr h => ?_)
  · obtain ⟨n, rfl, _⟩ := h
    rfl
  · obtain ⟨n, rfl, k⟩ := h
    exact ⟨_, pss_one (ps_ret (pe_tup (pa_cons (pv 0) (pa_cons pe_int pa_nil)))), _, rfl, by show 2 ≤ sizeLine; decide, k.go (Same.refl H)⟩
theorem Ar.len {H : Hp} {vs : List V} {a b c d : Int} (h : Ar K H vs a b c d) : vs.length = 2 := by
  obtain ⟨x, y, rfl, _⟩ := h.h
  rfl
theorem sc9 : FnScope ["x", "y"] ["x", "y"] (defScope (topS 9)) := ⟨rfl, rfl, rfl, by decide +kernel, rfl, by decide +kernel, by decide +kernel⟩
theorem sc10 : FnScope ["x", "y"] ["x", "y"] (defScope (topS 10)) := ⟨rfl, rfl, rfl, by decide +kernel, rfl, by decide +kernel, by decide +kernel⟩
theorem sc11 : FnScope ["x", "y"] ["x", "y"] (defScope (topS 11)) := ⟨rfl, rfl, rfl, by decide +kernel, rfl, by decide +kernel, by decide +kernel⟩
theorem sc12 : FnScope ["x", "y"] ["x", "y"] (defScope (topS 12)) := ⟨rfl, rfl, rfl, by decide +kernel, rfl, by decide +kernel, by decide +kernel⟩
theorem sc13 : FnScope ["x"] ["x"] (defScope (topS 13)) := ⟨rfl, rfl, rfl, by decide +kernel, rfl, by decide +kernel, by decide +kernel⟩
theorem sc14 : FnScope ["x"] ["x"] (defScope (topS 14)) := ⟨rfl, rfl, rfl, by decide +kernel, rfl, by decide +kernel, by decide +kernel⟩
theorem sc15 : FnScope ["low", "high", "least", "most"] ["low", "high"] (defScope (topS 15)) := ⟨rfl, rfl, rfl, by decide +kernel, rfl, by decide +kernel, by decide +kernel⟩
variable {fF : Addr} {fdF : FuncData}
theorem ok_plus (F : Fun K "plus" "plus" (topS 9) f fd) (D : Def K mg "fraction" (topS 7) ["top", "bottom"] fF fdF) (mgg : mg "gcd" = some (.builtin "math.gcd")) : FnOk P w K mg base CX0 2 f fd ["x", "y"] (spPlus K) := by
  have G : FnOk P w K mg base CX0 1 fF fdF ["top", "bottom"] spFraction := ok_fraction D.F mgg
  refine F.ok sc9 (fun vs H Q E h => ?_) (fun cdv A outer s H vs Q E hr h => ?_)
  · obtain ⟨a, b, c, d, hA, _⟩ := h
    exact hA.len
  · obtain ⟨a, b, c, d, ⟨⟨x, y, rfl, hx, hy⟩, ba, bb, bc, bd⟩, hb, hd, k⟩ := h
    refine ⟨_, pss_one (ps_ret (pe_call G hr (by rfl) D.g D.F.kp D.b .nil pass0
      (pa_cons (pe_op op_add (pe_op op_mulW (pe_ix ixp (pv 0) pe_int (fun _ _ => rfl)) (pe_ix ixp (pv 1) pe_int (fun _ _ => rfl))) (pe_op op_mulW (pe_ix ixp (pv 1) pe_int (fun _ _ => rfl)) (pe_ix ixp (pv 0) pe_int (fun _ _ => rfl))))
      (pa_cons (pe_op op_mulW (pe_ix ixp (pv 0) pe_int (fun _ _ => rfl)) (pe_ix ixp (pv 1) pe_int (fun _ _ => rfl))) pa_nil)))), ?_⟩
    refine ⟨_, rfl, a, b, hx, .inl ⟨rfl, _, rfl, c, d, hy, .inr ⟨rfl, _, _, rfl, rfl, ba.mul bd, ?_⟩⟩⟩
    refine ⟨_, rfl, c, d, hy, .inl ⟨rfl, _, rfl, a, b, hx, .inr ⟨rfl, _, _, rfl, rfl, bc.mul bb, ?_⟩⟩⟩
    refine ⟨_, _, rfl, rfl, ?_⟩
    refine ⟨_, rfl, a, b, hx, .inr ⟨rfl, _, rfl, c, d, hy, .inr ⟨rfl, _, _, rfl, rfl, bb.mul bd, ?_⟩⟩⟩
    exact ⟨_, _, rfl, Int.mul_pos hb hd, bb.prod bd, k⟩
theorem ok_minus (F : Fun K "minus" "minus" (topS 10) f fd) (D : Def K mg "fraction" (topS 7) ["top", "bottom"] fF fdF) (mgg : mg "gcd" = some (.builtin "math.gcd")) : FnOk P w K mg base CX0 2 f fd ["x", "y"] (spMinus K) := by
  have G : FnOk P w K mg base CX0 1 fF fdF ["top", "bottom"] spFraction := ok_fraction D.F mgg
  refine F.ok sc10 (fun vs H Q E h => ?_) (fun cdv A outer s H vs Q E hr h => ?_)
  · obtain ⟨a, b, c, d, hA, _⟩ := h
    exact hA.len
  · obtain ⟨a, b, c, d, ⟨⟨x, y, rfl, hx, hy⟩, ba, bb, bc, bd⟩, hb, hd, k⟩ := h
    refine ⟨_, pss_one (ps_ret (pe_call G hr (by rfl) D.g D.F.kp D.b .nil pass0
      (pa_cons (pe_op op_sub (pe_op op_mulW (pe_ix ixp (pv 0) pe_int (fun _ _ => rfl)) (pe_ix ixp (pv 1) pe_int (fun _ _ => rfl))) (pe_op op_mulW (pe_ix ixp (pv 1) pe_int (fun _ _ => rfl)) (pe_ix ixp (pv 0) pe_int (fun _ _ => rfl))))
      (pa_cons (pe_op op_mulW (pe_ix ixp (pv 0) pe_int (fun _ _ => rfl)) (pe_ix ixp (pv 1) pe_int (fun _ _ => rfl))) pa_nil)))), ?_⟩
    refine ⟨_, rfl, a, b, hx, .inl ⟨rfl, _, rfl, c, d, hy, .inr ⟨rfl, _, _, rfl, rfl, ba.mul bd, ?_⟩⟩⟩
    refine ⟨_, rfl, c, d, hy, .inl ⟨rfl, _, rfl, a, b, hx, .inr ⟨rfl, _, _, rfl, rfl, bc.mul bb, ?_⟩⟩⟩
    refine ⟨_, _, rfl, rfl, ?_⟩
    refine ⟨_, rfl, a, b, hx, .inr ⟨rfl, _, rfl, c, d, hy, .inr ⟨rfl, _, _, rfl, rfl, bb.mul bd, ?_⟩⟩⟩
    exact ⟨_, _, rfl, Int.mul_pos hb hd, bb.prod bd, k⟩
theorem ok_over (F : Fun K "over" "over" (topS 11) f fd) (D : Def K mg "fraction" (topS 7) ["top", "bottom"] fF fdF) (mgg : mg "gcd" = some (.builtin "math.gcd")) : FnOk P w K mg base CX0 2 f fd ["x", "y"] (spOver K) := by
  have G : FnOk P w K mg base CX0 1 fF fdF ["top", "bottom"] spFraction := ok_fraction D.F mgg
  refine F.ok sc11 (fun vs H Q E h => ?_) (fun cdv A outer s H vs Q E hr h => ?_)
  · obtain ⟨a, b, c, d, hA, _⟩ := h
    exact hA.len
  · obtain ⟨a, b, c, d, ⟨⟨x, y, rfl, hx, hy⟩, ba, bb, bc, bd⟩, hb, hd, k⟩ := h
    refine ⟨_, pss_one (ps_ret (pe_call G hr (by rfl) D.g D.F.kp D.b .nil pass0
      (pa_cons (pe_op op_mulW (pe_ix ixp (pv 0) pe_int (fun _ _ => rfl)) (pe_ix ixp (pv 1) pe_int (fun _ _ => rfl)))
      (pa_cons (pe_op op_mulW (pe_ix ixp (pv 0) pe_int (fun _ _ => rfl)) (pe_ix ixp (pv 1) pe_int (fun _ _ => rfl))) pa_nil)))), ?_⟩
    refine ⟨_, rfl, a, b, hx, .inl ⟨rfl, _, rfl, c, d, hy, .inr ⟨rfl, _, _, rfl, rfl, ba.mul bd, ?_⟩⟩⟩
    refine ⟨_, rfl, a, b, hx, .inr ⟨rfl, _, rfl, c, d, hy, .inl ⟨rfl, _, _, rfl, rfl, bb.mul bc, ?_⟩⟩⟩
    exact ⟨_, _, rfl, Int.mul_pos hb hd, bb.prod bc, k⟩
theorem ok_less (F : Fun K "is_less" "is_less" (topS 12) f fd) : FnOk P w K mg base CX0 1 f fd ["x", "y"] (spLess K) := by
  refine F.ok sc12 (fun vs H Q E h => ?_) (fun cdv A outer s H vs Q E hr h => ?_)
  · obtain ⟨a, b, c, d, hA, _⟩ := h
    exact hA.len
  · obtain ⟨a, b, c, d, ⟨⟨x, y, rfl, hx, hy⟩, ba, bb, bc, bd⟩, k⟩ := h
    refine ⟨_, pss_one (ps_ret (pe_cmpR op_lt (pe_op op_mulW (pe_ix ixp (pv 0) pe_int (fun _ _ => rfl)) (pe_ix ixp (pv 1) pe_int (fun _ _ => rfl))) (pe_op op_mulW (pe_ix ixp (pv 1) pe_int (fun _ _ => rfl)) (pe_ix ixp (pv 0) pe_int (fun _ _ => rfl))) (nomark _))), ?_⟩
    refine ⟨_, rfl, a, b, hx, .inl ⟨rfl, _, rfl, c, d, hy, .inr ⟨rfl, _, _, rfl, rfl, ba.mul bd, ?_⟩⟩⟩
    refine ⟨_, rfl, c, d, hy, .inl ⟨rfl, _, rfl, a, b, hx, .inr ⟨rfl, _, _, rfl, rfl, bc.mul bb, ?_⟩⟩⟩
    exact ⟨_, _, rfl, rfl, k⟩
theorem ok_floor (F : Fun K "floor_of" "floor_of" (topS 13) f fd) : FnOk P w K mg base CX0 1 f fd ["x"] (spFloor K) := by
  refine F.ok sc13 (fun vs H Q E h => ?_) (fun cdv A outer s H vs Q E hr h => ?_)
  · obtain ⟨x, a, b, rfl, _⟩ := h
    rfl
  · obtain ⟨x, a, b, rfl, hx, hb, bb, k⟩ := h
    refine ⟨_, pss_one (ps_ret (pe_op op_fdivW (pe_ix ixp (pv 0) pe_int (fun _ _ => rfl)) (pe_ix ixp (pv 0) pe_int (fun _ _ => rfl)))), ?_⟩
    exact ⟨_, rfl, a, b, hx, .inl ⟨rfl, _, rfl, a, b, hx, .inr ⟨rfl, _, _, rfl, rfl, Bd.div hb bb, k⟩⟩⟩
theorem ok_ceil (F : Fun K "ceiling_of" "ceiling_of" (topS 14) f fd) : FnOk P w K mg base CX0 1 f fd ["x"] (spCeil K) := by
  refine F.ok sc14 (fun vs H Q E h => ?_) (fun cdv A outer s H vs Q E hr h => ?_)
  · obtain ⟨x, a, b, rfl, _⟩ := h
    rfl
  · obtain ⟨x, a, b, rfl, hx, hb, bb, k⟩ := h
    refine ⟨_, pss_one (ps_ret (pe_un un_neg (pe_op op_fdivW (pe_un un_neg (pe_ix ixp (pv 0) pe_int (fun _ _ => rfl))) (pe_ix ixp (pv 0) pe_int (fun _ _ => rfl))))), ?_⟩
    exact ⟨_, rfl, a, b, hx, .inl ⟨rfl, _, rfl, _, rfl, a, b, hx, .inr ⟨rfl, _, _, rfl, rfl, Bd.div hb bb, _, rfl, k⟩⟩⟩
variable {fG fC : Addr} {fdG fdC : FuncData}
theorem ok_least (F : Fun K "_least_whole" "_least_whole" (topS 15) f fd) (DF : Def K mg "floor_of" (topS 13) ["x"] fF fdF) (DC : Def K mg "ceiling_of" (topS 14) ["x"] fC fdC) (mmax : mg "max" = none) (mmin : mg "min" = none) :
    FnOk P w K mg base CX0 2 f fd ["low", "high"] (spLeast K) := by
  have GF : FnOk P w K mg base CX0 1 fF fdF ["x"] (spFloor K) := ok_floor DF.F
  have GC : FnOk P w K mg base CX0 1 fC fdC ["x"] (spCeil K) := ok_ceil DC.F
  refine F.ok sc15 (fun vs H Q E h => ?_) (fun cdv A outer s H vs Q E hr h => ?_)
  · obtain ⟨a, b, c, d, hA, _⟩ := h
    exact hA.len
  · obtain ⟨a, b, c, d, ⟨⟨x, y, rfl, hx, hy⟩, ba, bb, bc, bd⟩, hb, hd, k1, k2⟩ := h
    refine ⟨_, pss_cons (ps_par (i := 2) (j := 3) (by rfl) sc15.nd rfl rfl (by decide) rfl rfl
        (pa_cons (pe_op op_add (pe_call GF hr (by rfl) DF.g DF.F.kp DF.b .nil pass0 (pa_cons (pv 0) pa_nil)) pe_int)
        (pa_cons (pe_op op_sub (pe_call GC hr (by rfl) DC.g DC.F.kp DC.b .nil pass0 (pa_cons (pv 1) pa_nil)) pe_int) pa_nil)) (by rfl))
      (pss_cons (ps_if (pt_cmpR op_gt (pv 2) (pv 3) (nomark _)) (pss_one (ps_ret pe_non)) pss_nil)
      (pss_one (ps_ret (pe_callB (call_max2 rfl) (by rfl) mmax (by decide +kernel) (pa_cons (pv 2) (pa_cons (pe_callB (call_min2 rfl) (by rfl) mmin (by decide +kernel) (pa_cons pe_int (pa_cons (pv 3) pa_nil))) pa_nil)))))), ?_⟩
    refine ⟨_, rfl, x, a, b, rfl, hx, hb, bb, _, _, rfl, rfl, _, rfl, y, c, d, rfl, hy, hd, bd, _, _, rfl, rfl, _, _, rfl, ?_⟩
    have e1 : KM.lo a b 1 = a / b + 1 := by unfold KM.lo; rw [Int.mul_one]
    have e2 : KM.hi c d 1 = -(-c / d) - 1 := by unfold KM.hi; rw [Int.mul_one]
    rw [e1, e2] at k1 k2
    refine ⟨_, rfl, _, rfl, _, _, rfl, rfl, _, rfl, ite2 (fun z => ?_) (fun z => ?_)⟩
    · exact k2 (of_decide_eq_true z)
    · have z' : ¬ (-(-c / d) - 1 < a / b + 1) := fun q => z (decide_eq_true q)
      exact ⟨_, rfl, _, rfl, _, _, rfl, _, _, rfl, k1 (by omega)⟩
end
end KW
/-! The walks: own rules (an own error without arguments, a call by keywords alone), tuple_of. -/
namespace KW
open PySem PySem.Spec PyProof.Rows L2
section
variable {X : Cx} {C : Addr} {bmB : List Value} {B newId initId : String}
/-- X() -/
theorem pmk_own0 {x : Str} {p pos : Pos} (F : ExcBaseFacts B newId initId bmB) (q : PySem.W.excIn X.K C bmB newId = true) (gC : X.mg x = some (.ref C)) (kC : PySem.W.keepIn X.K (.ref C) = true) (r : Raises X (.ref C)) (hg : Gl X x)
    (hdb : (x == ("__debug__" : Str)) = false := by decide) : PMk X (.Call (.Name x p) [] [] pos) (fun _ H Q => Q (.ref C) none H) := by
  intro pins s σ H Q I h
  refine wpAny_Call_Name_kw (ld_glob I hg gC ?_ hdb)
  refine PySem.W.callWith_K0 I.kIn kC ?_
  show wpAny _ _ (call (.ref C) []) _ _ _
  obtain ⟨bm, N, nm, qn, bs, hdct, sn, sub, ab, col, dd, k0, k1, k2, k3, k5, mN, hC, hN, hni, T⟩ := exc_obj I.kIn q
  refine wpAny_call_exc_subT F T hC hN hni (fun h' e hm => ?_) (Nat.zero_le _)
  exact mk_of I hm r h (I.hok.gone hm.new)
end
section
variable {X : Cx} {CX : CXT} {k : Nat} {f : Addr} {fd : FuncData} {ps ks : List Str} {sp : Sp} {E : XK} {x : Str} {p pos : Pos} {kws : List Keyword} {tk : TA} {g : List Value → List Value → List Value} {gV : List V → List V → List V}
/-- f(k = v, ..) -/
theorem pe_callK0 (F : FnOk X.prog X.w X.K X.mg X.base CX k f fd ps sp) (hr : Room k X.A) (hg : Gl X x) (hm : X.mg x = some (.ref f)) (hk : PySem.W.keepIn X.K (.ref f) = true) (hb : KBinds X.K fd ps ks g gV) (hx : Passes CX X E)
    (hkw : PK X kws tk) (hall : (backToKw pos (keywordEach kws X.env)).all (·.1.isSome) = true := by rfl) (hks : (backToKw pos (keywordEach kws X.env)).filterMap (·.1) = ks := by rfl)
    (hdb : (x == ("__debug__" : Str)) = false := by decide) (hpl : ((backTo pos (starEach [] X.env)).any (·.1) || (backToKw pos (keywordEach kws X.env)).any (·.1.isNone)) = false := by rfl) :
    PE X (.Call (.Name x p) [] kws pos) (tCallK sp gV E tNil tk) := by
  refine ⟨fun pins s σ H Q I h => ?_⟩
  refine wpAny_Call_Name_kw (ld_glob I hg hm ?_ hdb)
  refine PySem.W.callWith_KW0 (h₀ := X.base) I.ok.mod.kin hk hall ?_ hpl
  refine thn (hkw.run pos pins s σ H _ I h) fun ws s2 ⟨zs, H2, I2, rz, q2⟩ => ⟨I2.kIn, ?_⟩
  rw [hks]
  exact run_fnk (us := []) (vs := []) F hr hb hx I2 .nil rz q2
end
end KW
namespace KW
open PySem PySem.Spec PyProof.Rows L2
/-- a pair that is tracked -/
def Pt (H : Hp) (v : V) (a b : Int) : Prop := ∃ p, v = .ref p ∧ (H p = some (.lst [.int a, .int b]) ∨ H p = some (.tup [.int a, .int b]))
theorem Pt.mono {H H' : Hp} {v : V} {a b : Int} (s : Same H H') (h : Pt H v a b) : Pt H' v a b := by
  obtain ⟨p, e, h | h⟩ := h
  · exact ⟨p, e, .inl (s _ _ h)⟩
  · exact ⟨p, e, .inr (s _ _ h)⟩
theorem Pt.pr {K : PySem.W.Frag} {H : Hp} {v : V} {a b : Int} (h : Pt H v a b) : Pr K H v a b := by
  obtain ⟨p, e, h | h⟩ := h
  · exact ⟨p, e, .inl (SqL.of h)⟩
  · exact ⟨p, e, .inr (SqT.of h)⟩
theorem Pt.tup {H : Hp} {p : Addr} {a b : Int} (h : H p = some (pairO a b)) : Pt H (.ref p) a b := ⟨p, rfl, .inr h⟩
theorem Pt.lst {H : Hp} {p : Addr} {a b : Int} (h : H p = some (.lst [.int a, .int b])) : Pt H (.ref p) a b := ⟨p, rfl, .inl h⟩
theorem same_over {H H' : Hp} {D : Addr} {o : HO} (hD : H D = none) (s : Same H H') : Same H (upd H' D o) := fun b x e => by
  rw [upd_ne (ne_of_none e hD)]
  exact s _ _ e
/-! ### what the text has written -/
structure Tx (K : PySem.W.Frag) (mg : Str → Option Value) (C : Addr) : Prop where
  gcd : mg "gcd" = some (.builtin "math.gcd")
  nb : ∀ x ∈ (["list", "tuple", "isinstance", "max", "min", "reversed", "len", "abs", "int", "enumerate", "all", "zip", "bool", "str", "range", "ValueError"] : List Str), mg x = none
  one : ∃ a, mg "ONE" = some (.ref a) ∧ ∀ H, SqT K H a [.int 1, .int 1]
  tuple_of : ∃ f fd, Def K mg "tuple_of" (topS 4) ["thing"] f fd
  fraction : ∃ f fd, Def K mg "fraction" (topS 7) ["top", "bottom"] f fd
  whole : ∃ f fd, Def K mg "whole" (topS 8) ["number"] f fd
  plus : ∃ f fd, Def K mg "plus" (topS 9) ["x", "y"] f fd
  minus : ∃ f fd, Def K mg "minus" (topS 10) ["x", "y"] f fd
  over : ∃ f fd, Def K mg "over" (topS 11) ["x", "y"] f fd
  is_less : ∃ f fd, Def K mg "is_less" (topS 12) ["x", "y"] f fd
  floor_of : ∃ f fd, Def K mg "floor_of" (topS 13) ["x"] f fd
  ceiling_of : ∃ f fd, Def K mg "ceiling_of" (topS 14) ["x"] f fd
  least_whole : ∃ f fd, Def K mg "_least_whole" (topS 15) ["low", "high"] f fd
  simplest : ∃ f fd, Def K mg "simplest_between" (topS 16) ["low", "high"] f fd ∧ KBinds K fd ["low", "high"] ["high", "low"] (fun us ws => us ++ ws.reverse) (fun vs zs => vs ++ zs.reverse)
  box : ∃ f fd, Def K mg "_law_box" (topS 18) ["_law_script", "_law_k"] f fd
  take : ∃ f fd, Def K mg "_law_take" (topS 19) ["_law_urn", "_law_low_so"] f fd
  cells : ∃ f fd, Def K mg "_law_cells" (topS 20) ["_law_script", "_law_top"] f fd
  of : ∃ f fd, Def K mg "_law_of" (topS 21) ["_law_urn", "_law_some_so"] f fd
  same : ∃ f fd, Def K mg "_law_same" (topS 22) ["_law_got", "_law_goal"] f fd
  low : ∃ f fd, Def K mg "_law_low" (topS 23) ["_law_top_so", "_law_down_so"] f fd
  add : ∃ f fd, Def K mg "_law_add" (topS 24) ["_law_own", "_law_far"] f fd
  heard : ∃ f fd, Def K mg "_law_heard" (topS 25) ["_law_left", "_law_right_here"] f fd
  hand : ∃ f fd, Def K mg "_law_by_hand_right" (topS 26) [] f fd
  tops : ∃ f fd, Def K mg "_law_tops" (topS 27) ["_law_left", "_law_right_here", "_law_down_so"] f fd
  least : ∃ f fd, Def K mg "_law_least" (topS 28) ["_law_left", "_law_right_here"] f fd
  case : ∃ f fd, Def K mg "_law_case_right" (topS 29) ["_law_left", "_law_right_here"] f fd
  right : ∃ f fd, Def K mg "_law_right" (topS 30) ["_law_urn"] f fd
  gC : mg "Unfit" = some (.ref C)
  xC : PySem.W.excIn K C [.type "ValueError", .type "Exception", .type "BaseException", .type "object"] "ValueError.__new__" = true
  kC : PySem.W.keepIn K (.ref C) = true
  bC : PySem.W.subIn K (.ref C) (.type "BaseException") = some true
  tC : PySem.W.typeIn K (.ref C) = some (.type "type")
  eC : PySem.W.exmOne K (.ref C) (.ref C) = some true
  xc : ExcC K C
  vC : PySem.W.kitOne K (.ref C) (.type "ValueError") = some true
section
variable {P : Program} {w : World} {K : PySem.W.Frag} {mg : Str → Option Value} {base : Heap} {f C : Addr} {fd : FuncData}
/-! ### tuple_of -/
def spTupI : Sp := fun vs H Q _ => ∃ i, vs = [.int i] ∧ ∀ H', Same H H' → Q (.int i) H'
def spTup : Sp := fun vs H Q _ => ∃ x a b, vs = [x] ∧ Pt H x a b ∧ Out H (pairO a b) Q
theorem sc4 : FnScope ["thing", "part"] ["thing"] (defScope (topS 4)) := ⟨rfl, rfl, rfl, by decide +kernel, rfl, by decide +kernel, by decide +kernel⟩
theorem kitInt {b : Bool} {t : String} (h1 : kitB t "list" = some false) (h2 : kitB t "tuple" = some b) : PySem.W.kitAny K (.type t) [.type "list", .type "tuple"] = some b :=
  kitAny_cons (kit_ty h1) (fun _ => kitAny_cons (kit_ty h2) (fun e => by rw [e]; exact kitAny_nil) fun e => e) (fun e => by cases e)
theorem kitLst : PySem.W.kitAny K (.type "list") [.type "list", .type "tuple"] = some true := kitAny_cons (b := true) (kit_ty (by decide +kernel)) (fun e => by cases e) (fun _ => rfl)
theorem lt2 : Paired ClsV [V.ty "list", V.ty "tuple"] [.type "list", .type "tuple"] := .cons (.ty _) (.cons (.ty _) .nil)
theorem ok_tupI (D : Def K mg "tuple_of" (topS 4) ["thing"] f fd) (T : Tx K mg C) : FnOk P w K mg base CX0 1 f fd ["thing"] spTupI := by
  refine D.F.ok sc4 (fun vs H Q E h => ?_) (fun cdv A outer s H vs Q E hr h => ?_)
  · obtain ⟨i, rfl, _⟩ := h
    rfl
  · obtain ⟨i, rfl, k⟩ := h
    refine ⟨_, pss_cons (ps_if (pt_val (pe_callB call_isiT (by rfl) (T.nb "isinstance" (by decide +kernel)) (by decide +kernel) (pa_cons (pv 0) (pa_cons (pe_tup (pa_cons (pe_bltn (v := .ty "list") (by rfl) (T.nb "list" (by decide +kernel)) (by decide +kernel) rfl) (pa_cons (pe_bltn (v := .ty "tuple") (by rfl) (T.nb "tuple" (by decide +kernel)) (by decide +kernel) rfl) pa_nil))) pa_nil)))) (pss_one ps_never) pss_nil)
      (pss_one (ps_ret (pv 0))), ?_⟩
    refine ⟨_, rfl, by show 2 ≤ sizeLine; decide, fun p hp => ?_⟩
    refine ⟨_, p, _, _, _, false, rfl, upd_same, lt2, .base (.int i), kitInt (by decide +kernel) (by decide +kernel), _, rfl, iteF ?_⟩
    exact ⟨_, rfl, k _ (same_upd hp)⟩
theorem small3 {n : Nat} (h : n ≤ 100) : n < sizeLine := Nat.lt_of_le_of_lt h (by decide)
theorem take_snoc {xs : List V} {i : Nat} {x : V} (h : xs[i]? = some x) : xs.take i ++ [x] = xs.take (i + 1) := by
  rw [List.take_add_one, h]
  rfl
theorem pair_at {a b : Int} {i : Nat} {x : V} (h : ([.int a, .int b] : List V)[i]? = some x) : i < 2 ∧ ∃ j, x = .int j := by
  match i, h with
  | 0, h => exact ⟨by decide, _, (Option.some.inj h).symm⟩
  | 1, h => exact ⟨by decide, _, (Option.some.inj h).symm⟩
  | n + 2, h => simp at h
theorem ok_tup (D : Def K mg "tuple_of" (topS 4) ["thing"] f fd) (T : Tx K mg C) : FnOk P w K mg base CX0 2 f fd ["thing"] spTup := by
  have G : FnOk P w K mg base CX0 1 f fd ["thing"] spTupI := ok_tupI D T
  refine D.F.ok sc4 (fun vs H Q E h => ?_) (fun cdv A outer s H vs Q E hr h => ?_)
  · obtain ⟨x, a, b, rfl, _⟩ := h
    rfl
  · obtain ⟨x, a, b, rfl, ⟨p, rfl, hp | hp⟩, k⟩ := h
    · refine ⟨_, pss_cons (ps_if (pt_val (pe_callB call_isiT (by rfl) (T.nb "isinstance" (by decide +kernel)) (by decide +kernel) (pa_cons (pv 0) (pa_cons (pe_tup (pa_cons (pe_bltn (v := .ty "list") (by rfl) (T.nb "list" (by decide +kernel)) (by decide +kernel) rfl) (pa_cons (pe_bltn (v := .ty "tuple") (by rfl) (T.nb "tuple" (by decide +kernel)) (by decide +kernel) rfl) pa_nil))) pa_nil))))
          (pss_one (ps_ret (pe_callTy call_tuple_of (by rfl) (T.nb "tuple" (by decide +kernel)) (by decide +kernel) (pa_cons
            (pe_lc (own := [("part", 1)]) (g := gName 1) (tt := tYes) rfl sc4.nd (pi_list (pv 0)) (blkOk_by (N := ["thing", "part"]) (sc := defScope (topS 4)) (by decide +kernel)) (fun _ _ _ _ _ => pg_name (i := 1) sc4.nd rfl (Or.inl rfl)) (fun _ _ _ _ _ => pts_nil)
              (fun _ _ _ _ _ => pe_call G hr (by rfl) D.g D.F.kp D.b .nil pass0 (pa_cons (pv 1) pa_nil))) pa_nil)))) pss_nil)
        (pss_one (ps_ret (pv 0))), ?_⟩
      refine ⟨_, rfl, by show 2 ≤ sizeLine; decide, fun q hq => ?_⟩
      have s1 : Same H (upd H q (.tup [.ty "list", .ty "tuple"])) := same_upd hq
      refine ⟨_, q, _, _, _, true, rfl, upd_same, lt2, .base (.lst (s1 _ _ hp)), kitLst, _, rfl, iteT ?_⟩
      refine ⟨_, rfl, p, rfl, ⟨_, SqL.of (s1 _ _ hp)⟩, fun D' hD => ?_⟩
      have hD0 : H D' = none := s1.free hD
      refine lc_list (xs := [.int a, .int b]) (fun i H' => Same H H' ∧ H' D' = some (.lst ([V.int a, V.int b].take i))) ⟨s1.trans (same_upd hD), upd_same⟩ (fun i H' _ h => SqL.of (h.1 _ _ hp)) (fun i x H' hx h => ?_) (fun H' h => ?_)
      · obtain ⟨hs, hd⟩ := h
        obtain ⟨hi, j, rfl⟩ := pair_at hx
        refine ⟨rfl, _, rfl, j, rfl, fun H2 hs2 => ⟨_, hs2 _ _ hd, small3 (by rw [List.length_take]; exact Nat.le_trans (Nat.min_le_right _ _) (show 2 ≤ 100 by decide)), same_over hD0 (hs.trans hs2), ?_⟩⟩
        rw [upd_same, take_snoc hx]
      · obtain ⟨hs, hd⟩ := h
        exact ⟨D', _, rfl, .inl ⟨SqL.of hd, k.go hs⟩⟩
    · refine ⟨_, pss_cons (ps_if (pt_val (pe_callB call_isiT (by rfl) (T.nb "isinstance" (by decide +kernel)) (by decide +kernel) (pa_cons (pv 0) (pa_cons (pe_tup (pa_cons (pe_bltn (v := .ty "list") (by rfl) (T.nb "list" (by decide +kernel)) (by decide +kernel) rfl) (pa_cons (pe_bltn (v := .ty "tuple") (by rfl) (T.nb "tuple" (by decide +kernel)) (by decide +kernel) rfl) pa_nil))) pa_nil))))
          (pss_one (ps_ret (pe_callTy call_tuple_of (by rfl) (T.nb "tuple" (by decide +kernel)) (by decide +kernel) (pa_cons
            (pe_lc (own := [("part", 1)]) (g := gName 1) (tt := tYes) rfl sc4.nd (pi_tup (pv 0)) (blkOk_by (N := ["thing", "part"]) (sc := defScope (topS 4)) (by decide +kernel)) (fun _ _ _ _ _ => pg_name (i := 1) sc4.nd rfl (Or.inl rfl)) (fun _ _ _ _ _ => pts_nil)
              (fun _ _ _ _ _ => pe_call G hr (by rfl) D.g D.F.kp D.b .nil pass0 (pa_cons (pv 1) pa_nil))) pa_nil)))) pss_nil)
        (pss_one (ps_ret (pv 0))), ?_⟩
      refine ⟨_, rfl, by show 2 ≤ sizeLine; decide, fun q hq => ?_⟩
      have s1 : Same H (upd H q (.tup [.ty "list", .ty "tuple"])) := same_upd hq
      refine ⟨_, q, _, _, _, true, rfl, upd_same, lt2, .base (.tup (s1 _ _ hp)), kitInt (by decide +kernel) (by decide +kernel), _, rfl, iteT ?_⟩
      refine ⟨_, rfl, p, rfl, ⟨_, SqT.of (s1 _ _ hp)⟩, fun D' hD => ?_⟩
      have hD0 : H D' = none := s1.free hD
      refine lc_tup (xs := [.int a, .int b]) (fun i H' => Same H H' ∧ H' D' = some (.lst ([V.int a, V.int b].take i))) ⟨s1.trans (same_upd hD), upd_same⟩ (fun i H' _ h => SqT.of (h.1 _ _ hp)) (fun i x H' hx h => ?_) (fun H' h => ?_)
      · obtain ⟨hs, hd⟩ := h
        obtain ⟨hi, j, rfl⟩ := pair_at hx
        refine ⟨rfl, _, rfl, j, rfl, fun H2 hs2 => ⟨_, hs2 _ _ hd, small3 (by rw [List.length_take]; exact Nat.le_trans (Nat.min_le_right _ _) (show 2 ≤ 100 by decide)), same_over hD0 (hs.trans hs2), ?_⟩⟩
        rw [upd_same, take_snoc hx]
      · obtain ⟨hs, hd⟩ := h
        exact ⟨D', _, rfl, .inl ⟨SqL.of hd, k.go hs⟩⟩
end
end KW
/-! The walk of simplest_between. -/
namespace KW
open PySem PySem.Spec PyProof.Rows L2
theorem bd_sm {i : Int} (h : KM.Sm i) : Bd i := .of h
theorem eqv_pair (i j a b : Int) : PyData.eqv (.tuple [.int i, .int j]) (.tuple [.int a, .int b]) = (i == a && (j == b && true)) := by
  simp [PyData.eqv, PyData.eqvAll]
theorem shaped_pair (i j : Int) : SeqAt.shaped (.tuple [.int i, .int j]) = true := by
  rfl
theorem dp_pair {K : PySem.W.Frag} {H : Hp} {p : Addr} {a b : Int} (h : H p = some (pairO a b)) : Dp K H (.ref p) (.tuple [.int a, .int b]) := .tup (SqT.of h) (.cons (.int a) (.cons (.int b) .nil))
theorem red_minus {x n y : Int} (h : Nat.gcd x.natAbs y.natAbs = 1) : pairO (rt (x * 1 - n * y) (y * 1)) (rb (x * 1 - n * y) (y * 1)) = pairO (x - n * y) y := by
  have e : Nat.gcd (x - n * y).natAbs y.natAbs = 1 := by rw [KM.gcd_sub]; exact h
  rw [Int.mul_one, Int.mul_one, rt_cop e, rb_cop e]
theorem red_over {x y : Int} (h : Nat.gcd y.natAbs x.natAbs = 1) : pairO (rt (1 * y) (1 * x)) (rb (1 * y) (1 * x)) = pairO y x := by
  rw [Int.one_mul, Int.one_mul, rt_cop h, rb_cop h]
theorem red_plus {n p q : Int} (h : Nat.gcd p.natAbs q.natAbs = 1) : pairO (rt (n * p + q * 1) (1 * p)) (rb (n * p + q * 1) (1 * p)) = pairO (n * p + q) p := by
  have e : Nat.gcd (n * p + q).natAbs p.natAbs = 1 := by
    rw [show n * p + q = q - (-n) * p by rw [Int.neg_mul]; omega, KM.gcd_sub, Nat.gcd_comm]
    exact h
  rw [Int.mul_one, Int.one_mul, rt_cop e, rb_cop e]
/-- the promise -/
def spSB (C : Addr) : Sp := fun vs H Q E => ∃ x y a b c d, vs = [x, y] ∧ Pt H x a b ∧ Pt H y c d ∧
  ((KM.W a b c d ∧ ∃ p q, KM.Simp a b c d p q ∧ Out H (pairO p q) Q) ∨ (Bd a ∧ Bd b ∧ Bd c ∧ Bd d ∧ ¬ (a * d < c * b) ∧ E (.ref C) none H))
section
variable {P : Program} {w : World} {K : PySem.W.Frag} {mg : Str → Option Value} {base : Heap} {f C : Addr} {fd : FuncData}
/-- _least_whole of an interval whose simplest FRACTION is known -/
theorem least_use {H : Hp} {x y : V} {a b c d p q : Int} {Q : VK} (hx : Pt H x a b) (hy : Pt H y c d) (w : KM.W a b c d) (S : KM.Simp a b c d p q)
    (k : ∀ ov, ((ov = .non ∧ KM.hi c d 1 < KM.lo a b 1) ∨ (ov = .int p ∧ q = 1)) → Q ov H) : spLeast K [x, y] H Q E0 := by
  have z := w.sz S
  refine ⟨a, b, c, d, ⟨⟨x, y, rfl, hx.pr, hy.pr⟩, bd_sm z.ha, bd_sm z.hb, bd_sm z.hc, bd_sm z.hd⟩, w.b0, w.d0, fun h => ?_, fun h => k _ (.inl ⟨rfl, h⟩)⟩
  have T := KM.simp_at w.b0 w.d0 (by decide) h (fun e' h1 h2 => by omega)
  obtain ⟨e1, e2⟩ := S.uniq T
  rw [← e1]
  exact k _ (.inr ⟨rfl, e2⟩)
/-- over(ONE, minus(v, rest)) -/
theorem low_use {H : Hp} {x : V} {r aOne : Addr} {c d n : Int} {Q : VK} (pOne : ∀ H, Pr K H (.ref aOne) 1 1) (hx : Pt H x c d) (hr : H r = some (pairO n 1)) (hd : 0 < d) (g : Nat.gcd c.natAbs d.natAbs = 1) (h0 : 0 < c - n * d)
    (bc : KM.Sm c) (bd : KM.Sm d) (bn : KM.Sm n) (be : KM.Sm (c - n * d))
    (k : ∀ H5 lw, Same H H5 → H5 lw = some (pairO d (c - n * d)) → Q (.ref lw) H5) : spMinus K [x, .ref r] H (fun v H1 => spOver K [.ref aOne, v] H1 Q E0) E0 := by
  refine ⟨c, d, n, 1, ⟨⟨_, _, rfl, hx.pr, Pr.tup hr⟩, bd_sm bc, bd_sm bd, bd_sm bn, Bd.one⟩, hd, by decide, ?_⟩
  intro H4 u s4 _ hu
  rw [red_minus g] at hu
  refine ⟨1, 1, c - n * d, d, ⟨⟨_, _, rfl, pOne H4, Pr.tup hu⟩, Bd.one, Bd.one, bd_sm be, bd_sm bd⟩, by decide, h0, ?_⟩
  intro H5 lw s5 _ hlw
  rw [red_over (by rw [Nat.gcd_comm, KM.gcd_sub]; exact g)] at hlw
  exact k H5 lw (s4.trans s5) hlw
/-- a pair: one that stood ahead of the loop, or a new tuple -/
def PQ (H H' : Hp) (v : V) (a b : Int) : Prop := Pt H v a b ∨ ∃ p, v = .ref p ∧ H' p = some (pairO a b)
theorem PQ.pt {H H' : Hp} {v : V} {a b : Int} (s : Same H H') (h : PQ H H' v a b) : Pt H' v a b := by
  rcases h with h | ⟨p, e, h⟩
  · exact h.mono s
  · exact ⟨p, e, .inr h⟩
theorem PQ.mono {H H' H2 : Hp} {v : V} {a b : Int} (s : Same H' H2) (h : PQ H H' v a b) : PQ H H2 v a b := by
  rcases h with h | ⟨p, e, h⟩
  · exact .inl h
  · exact .inr ⟨p, e, s _ _ h⟩
theorem PQ.upd {H H' : Hp} {v : V} {a b : Int} {nl : Addr} {xs ys : List V} (hl : H' nl = some (.lst xs)) (h : PQ H H' v a b) : PQ H (upd H' nl (.lst ys)) v a b := by
  rcases h with h | ⟨p, e, h⟩
  · exact .inl h
  · exact .inr ⟨p, e, by rw [upd_ne (ne_of h hl (by intro z; cases z))]; exact h⟩
/-- the loop's word -/
def WhileW (H : Hp) (p0 q0 : Int) (m : Nat) (σ : L2.St) (H' : Hp) : Prop :=
  ∃ (la ha ov : V) (nl : Addr) (a b c d p q : Int) (ns : List Int) (y4 y5 : Option V), σ = [some la, some ha, some (.ref nl), some ov, y4, y5, none, none] ∧ Same H H' ∧ H nl = none ∧ H' nl = some (.lst (ns.map V.int)) ∧
    PQ H H' la a b ∧ PQ H H' ha c d ∧ KM.W a b c d ∧ KM.Simp a b c d p q ∧ KM.FB ns.reverse p q p0 q0 ∧ KM.LenOk ns.length p q ∧ m = q.toNat ∧ ((ov = .non ∧ KM.hi c d 1 < KM.lo a b 1) ∨ (ov = .int p ∧ q = 1))
theorem sc16 : FnScope ["low", "high", "numbers", "own", "rest", "top", "found", "number"] ["low", "high"] (defScope (topS 16)) := ⟨rfl, rfl, rfl, by decide +kernel, rfl, by decide +kernel, by decide +kernel⟩
theorem Out.use {H H1 : Hp} {o o' : HO} {Q : VK} (s : Same H H1) (e : o = o') (h : ∀ H' p, Same H H' → Same H1 H' → H' p = some o' → Q (.ref p) H') : Out H1 o Q := fun H' p s' _ hp => h H' p (s.trans s') s' (by rw [← e]; exact hp)
theorem ok_simplest (D : Def K mg "simplest_between" (topS 16) ["low", "high"] f fd) (T : Tx K mg C) : FnOk P w K mg base (L2.CX P w) 3 f fd ["low", "high"] (spSB C) := by
  obtain ⟨fL, fdL, DL⟩ := T.is_less
  obtain ⟨fW, fdW, DW⟩ := T.least_whole
  obtain ⟨fF, fdF, DF⟩ := T.floor_of
  obtain ⟨fC, fdC, DC⟩ := T.ceiling_of
  obtain ⟨fH, fdH, DH⟩ := T.whole
  obtain ⟨fT, fdT, DT⟩ := T.tuple_of
  obtain ⟨fO, fdO, DO⟩ := T.over
  obtain ⟨fM, fdM, DM⟩ := T.minus
  obtain ⟨fP, fdP, DP⟩ := T.plus
  obtain ⟨fR, fdR, DR⟩ := T.fraction
  obtain ⟨aOne, gOne, hOne⟩ := T.one
  have GL : FnOk P w K mg base CX0 1 fL fdL ["x", "y"] (spLess K) := ok_less DL.F
  have GW : FnOk P w K mg base CX0 2 fW fdW ["low", "high"] (spLeast K) := ok_least DW.F DF DC (T.nb "max" (by decide +kernel)) (T.nb "min" (by decide +kernel))
  have GF : FnOk P w K mg base CX0 1 fF fdF ["x"] (spFloor K) := ok_floor DF.F
  have GH : FnOk P w K mg base CX0 1 fH fdH ["number"] spWhole := ok_whole DH.F
  have GT : FnOk P w K mg base CX0 2 fT fdT ["thing"] spTup := ok_tup DT T
  have GO : FnOk P w K mg base CX0 2 fO fdO ["x", "y"] (spOver K) := ok_over DO.F DR T.gcd
  have GM : FnOk P w K mg base CX0 2 fM fdM ["x", "y"] (spMinus K) := ok_minus DM.F DR T.gcd
  have GP : FnOk P w K mg base CX0 2 fP fdP ["x", "y"] (spPlus K) := ok_plus DP.F DR T.gcd
  have pOne : ∀ H, Pr K H (.ref aOne) 1 1 := fun H => ⟨aOne, rfl, .inr (hOne H)⟩
  refine D.F.okX sc16 (fun vs H Q E h => ?_) (fun cdv A outer s H vs Q E hr h => ?_)
  · obtain ⟨x, y, a, b, c, d, rfl, _⟩ := h
    rfl
  · obtain ⟨x, y, a0, b0, c0, d0, rfl, hx, hy, h⟩ := h
    have hr1 : Room 1 _ := hr.mono (by decide)
    have hr2 : Room 2 _ := hr
    refine ⟨_, pss_cons (ps_if (pt_not (pt_val (pe_call GL hr1 (by rfl) DL.g DL.F.kp DL.b .nil pass0 (pa_cons (pv 0) (pa_cons (pv 1) pa_nil)))))
        (pss_one (ps_raise rfl (takes_of rfl rfl rfl rfl) (pmk_own0 PySem.F.excBase_ValueError T.xC T.gC T.kC (raises_own T.bC T.tC) rfl))) pss_nil)
      (PSs.nox (pss_cons (ps_par (i := 2) (j := 3) (by rfl) sc16.nd rfl rfl (by decide) rfl rfl (pa_cons (pe_lst pa_nil) (pa_cons (pe_call GW hr2 (by rfl) DW.g DW.F.kp DW.b .nil pass0 (pa_cons (pv 0) (pa_cons (pv 1) pa_nil))) pa_nil)) (by rfl))
      (pss_cons (ps_while PassesOwn.never (pt_cmp (pc_isN (pv 3)))
        (pss_cons (ps_expr (pe_bm PySem.F.plainAttrs_list PySem.F.slot_list_append PySem.F.type_list_append mt_append (pv 2) (pa_cons (pe_call GF hr1 (by rfl) DF.g DF.F.kp DF.b .nil pass0 (pa_cons (pv 0) pa_nil)) pa_nil)))
        (pss_cons (ps_set (i := 4) sc16.nd rfl (.inl rfl) (pe_call GH hr1 (by rfl) DH.g DH.F.kp DH.b .nil pass0 (pa_cons (pe_ix ix_list (pv 2) (pe_un un_neg pe_int) (fun _ _ => rfl)) pa_nil)))
        (pss_cons (ps_set (i := 5) sc16.nd rfl (.inl rfl) (pe_ifExp (pt_cmpR (op_eqD hr.units) (pv 4) (pe_call GT hr2 (by rfl) DT.g DT.F.kp DT.b .nil pass0 (pa_cons (pv 0) pa_nil)) (nomark _)) pe_non
          (pe_call GO hr2 (by rfl) DO.g DO.F.kp DO.b .nil pass0 (pa_cons (pe_glob (v := .ref aOne) (by rfl) gOne rfl) (pa_cons (pe_call GM hr2 (by rfl) DM.g DM.F.kp DM.b .nil pass0 (pa_cons (pv 0) (pa_cons (pv 4) pa_nil))) pa_nil)))))
        (pss_cons (ps_set (i := 0) sc16.nd rfl (.inl rfl) (pe_call GO hr2 (by rfl) DO.g DO.F.kp DO.b .nil pass0 (pa_cons (pe_glob (v := .ref aOne) (by rfl) gOne rfl) (pa_cons (pe_call GM hr2 (by rfl) DM.g DM.F.kp DM.b .nil pass0 (pa_cons (pv 1) (pa_cons (pv 4) pa_nil))) pa_nil))))
        (pss_cons (ps_set (i := 1) sc16.nd rfl (.inl rfl) (pe_ifExp (pt_cmp (pc_isN (pv 5))) (pe_call GH hr1 (by rfl) DH.g DH.F.kp DH.b .nil pass0 (pa_cons (pe_op op_add (pe_call GF hr1 (by rfl) DF.g DF.F.kp DF.b .nil pass0 (pa_cons (pv 0) pa_nil)) pe_int) pa_nil)) (pv 5)))
        (pss_one (ps_set (i := 3) sc16.nd rfl (.inl rfl) (pe_call GW hr2 (by rfl) DW.g DW.F.kp DW.b .nil pass0 (pa_cons (pv 0) (pa_cons (pv 1) pa_nil))))))))))) 
      (pss_cons (ps_set (i := 6) sc16.nd rfl (.inl rfl) (pe_call GH hr1 (by rfl) DH.g DH.F.kp DH.b .nil pass0 (pa_cons (pv 3) pa_nil)))
      (pss_cons (ps_for PassesOwn.never rfl (pi_reversed (by rfl) (T.nb "reversed" (by decide +kernel)) (pa_cons (pv 2) pa_nil)) (pg_name (i := 7) sc16.nd rfl (.inl rfl))
        (pss_one (ps_set (i := 6) sc16.nd rfl (.inl rfl) (pe_call GP hr2 (by rfl) DP.g DP.F.kp DP.b .nil pass0 (pa_cons (pe_call GH hr1 (by rfl) DH.g DH.F.kp DH.b .nil pass0 (pa_cons (pv 7) pa_nil))
          (pa_cons (pe_call GO hr2 (by rfl) DO.g DO.F.kp DO.b .nil pass0 (pa_cons (pe_glob (v := .ref aOne) (by rfl) gOne rfl) (pa_cons (pv 6) pa_nil))) pa_nil))))))
      (pss_one (ps_ret (pv 6)))))))), ?_⟩
    rcases h with ⟨hW, p0, q0, hS, k⟩ | ⟨ba, bb, bc, bd, hno, hE⟩
    · have z := hW.sz hS
      refine ⟨_, rfl, _, rfl, a0, b0, c0, d0, ⟨⟨x, y, rfl, hx.pr, hy.pr⟩, bd_sm z.ha, bd_sm z.hb, bd_sm z.hc, bd_sm z.hd⟩, _, rfl, iteNS hW.ord ?_⟩
      -- numbers, own = [], _least_whole(low, high)
      refine ⟨Nat.zero_le _, fun nl hnl => ⟨_, rfl, _, rfl, ?_⟩⟩
      dsimp only [tNil]
      refine least_use (hx.mono (same_upd hnl)) (hy.mono (same_upd hnl)) hW hS (fun ov hov => ?_)
      refine ⟨_, _, rfl, ?_⟩
      -- the loop
      refine ⟨WhileW H p0 q0, ⟨_, x, y, ov, nl, a0, b0, c0, d0, p0, q0, [], none, none, rfl, same_upd hnl, hnl, upd_same, .inl hx, .inl hy, hW, hS, ⟨rfl, rfl⟩, .inl rfl, rfl, hov⟩, ?_⟩
      clear hov z hS hW hx hy hnl
      rintro m σ H' ⟨la, ha, ov, nl, a, b, c, d, p, q, ns, y4, y5, rfl, hs, hn0, hn, hla, hha, w, S, hfb, hlen, rfl, hov⟩
      have z := w.sz S
      refine ⟨ov, rfl, _, rfl, ?_⟩
      rcases hov with ⟨rfl, hno⟩ | ⟨rfl, hq1⟩
      · refine ite2 (fun _ => ?_) (fun z => absurd (decide_eq_true rfl) z)
        have st := KM.step w.b0 w.d0 S hno
        refine ⟨fun σ' H2 => ∃ m', m' < q.toNat ∧ WhileW H p0 q0 m' σ' H2, fun _ _ z => z, ?_⟩
        -- numbers.append(floor_of(low))
        refine ⟨_, rfl, .inl ⟨rfl, _, SqL.of hn⟩, _, rfl, la, a, b, rfl, (hla.pt hs).pr, w.b0, bd_sm z.hb, nl, _, _, rfl, rfl, hn, ?_, ?_⟩
        · rw [List.length_map]
          exact Nat.lt_of_le_of_lt hlen.small (by decide)
        have s1 : Same H (upd H' nl (.lst (ns.map V.int ++ [.int (a / b)]))) := same_over hn0 hs
        -- rest = whole(numbers[-1])
        refine ⟨_, rfl, 1, rfl, nl, _, -1, _, rfl, rfl, SqL.of upd_same, atI_last _ _, _, rfl, ?_⟩
        intro H2 r s2 _ hr2
        have hs2 := s1.trans s2
        have hla2 : PQ H H2 la a b := (hla.upd hn).mono s2
        have hha2 : PQ H H2 ha c d := (hha.upd hn).mono s2
        have hn2 : H2 nl = some (.lst ((ns ++ [a / b]).map V.int)) := by
          rw [s2 _ _ upd_same, List.map_append]
          rfl
        -- top = None if rest == tuple_of(low) else ..
        refine ⟨_, rfl, _, rfl, la, a, b, rfl, hla2.pt hs2, ?_⟩
        intro H3 t s3 _ ht
        have hs3 := hs2.trans s3
        refine ⟨_, _, dp_pair (s3 _ _ hr2), dp_pair ht, shaped_pair _ _, shaped_pair _ _, _, rfl, ?_⟩
        have uq := st.uq
        have u0 := st.u0
        have c1 := st.c0
        have cd := st.cd
        have mlt : (p - a / b * q).toNat < q.toNat := by omega
        have smc : KM.Sm (c - a / b * d) := by
          have := z.hd
          unfold KM.Sm at this ⊢
          omega
        refine ite2 (fun e => ?_) (fun e => ?_)
        · rw [eqv_pair] at e
          have e1 : (1 : Int) = b := by
            rw [Bool.and_eq_true, Bool.and_true] at e
            exact eq_of_beq e.2
          subst e1
          have hz : a - a / 1 * 1 = 0 := by rw [Int.ediv_one]; omega
          -- low = over(ONE, minus(high, rest))
          refine ⟨_, rfl, _, rfl, ?_⟩
          dsimp only [tNil]
          refine low_use pOne ((hha2.mono s3).pt hs3) (s3 _ _ hr2) w.d0 w.cc c1 z.hc z.hd z.hn smc (fun H5 lw s5 h5 => ?_)
          -- high = whole(floor_of(low) + 2)
          refine ⟨_, rfl, _, rfl, ite2 (fun _ => ?_) (fun z => absurd (decide_eq_true rfl) z)⟩
          refine ⟨_, rfl, _, d, _, rfl, Pr.tup h5, c1, bd_sm smc, _, _, rfl, rfl, _, rfl, ?_⟩
          intro H6 hw s6 _ h6
          have s36 := s3.trans (s5.trans s6)
          have w' := w.last st hz
          have S' := st.simp
          rw [hz] at S'
          have S2 := S'.last w.d0 c1
          refine ⟨_, rfl, _, rfl, ?_⟩
          dsimp only [tNil]
          refine least_use (Pt.tup (s6 _ _ h5)) (Pt.tup h6) w' S2 (fun ov hov => ?_)
          exact ⟨_, mlt, .ref lw, .ref hw, ov, nl, d, _, _, 1, q, _, ns ++ [a / 1], _, _, rfl, hs2.trans s36, hn0, s36 _ _ hn2, .inr ⟨_, rfl, s6 _ _ h5⟩, .inr ⟨_, rfl, h6⟩, w', S2, w.fb S st hfb, by
            rw [List.length_append]
            exact hlen.next z.q1 u0 uq, rfl, hov⟩
        · have hz : a - a / b * b ≠ 0 := fun hz => by
            have b1 := w.b1 hz
            subst b1
            rw [eqv_pair, Int.ediv_one] at e
            exact e (by simp)
          have a1 : 0 < a - a / b * b := by have := st.a0; omega
          have sma : KM.Sm (a - a / b * b) := by
            have := z.hb
            have := st.ab
            unfold KM.Sm at *
            omega
          -- top = over(ONE, minus(low, rest))
          refine ⟨_, rfl, _, rfl, ?_⟩
          dsimp only [tNil]
          refine low_use pOne ((hla2.mono s3).pt hs3) (s3 _ _ hr2) w.b0 w.ca a1 z.ha z.hb z.hn sma (fun H4 tp s4 h4 => ?_)
          have hs4 := hs3.trans s4
          -- low = over(ONE, minus(high, rest))
          refine ⟨_, rfl, _, rfl, ?_⟩
          dsimp only [tNil]
          refine low_use pOne ((hha2.mono (s3.trans s4)).pt hs4) (s4 _ _ (s3 _ _ hr2)) w.d0 w.cc c1 z.hc z.hd z.hn smc (fun H5 lw s5 h5 => ?_)
          have s35 := s3.trans (s4.trans s5)
          -- high = top
          refine ⟨_, rfl, _, rfl, ite2 (fun z => ?_) (fun _ => ?_)⟩
          · have := of_decide_eq_true z
            cases this
          refine ⟨_, rfl, _, rfl, _, rfl, ?_⟩
          have w' := w.next st hz
          dsimp only [tNil]
          refine least_use (Pt.tup h5) (Pt.tup (s5 _ _ h4)) w' st.simp (fun ov hov => ?_)
          exact ⟨_, mlt, .ref lw, .ref tp, ov, nl, d, _, b, _, q, _, ns ++ [a / b], _, _, rfl, hs2.trans s35, hn0, s35 _ _ hn2, .inr ⟨_, rfl, h5⟩, .inr ⟨_, rfl, s5 _ _ h4⟩, w', st.simp, w.fb S st hfb, by
            rw [List.length_append]
            exact hlen.next z.q1 u0 uq, rfl, hov⟩
      · refine ite2 (fun z => ?_) (fun _ => ?_)
        · have := of_decide_eq_true z
          cases this
        subst hq1
        -- found = whole(own)
        refine ⟨_, rfl, _, rfl, ?_⟩
        intro H2 fo s2 nf hfo
        -- for number in reversed(numbers)
        refine ⟨_, rfl, nl, ns.map V.int, rfl, SqL.of (s2 _ _ hn), ?_⟩
        refine ⟨fun i m σ H3 => ∃ (fo : Addr) (p q : Int) (v0 v1 v3 v4 v5 v7 : Option V), σ = [v0, v1, some (.ref nl), v3, v4, v5, some (.ref fo), v7] ∧ i + m = ns.length ∧ Same H H3 ∧ H3 nl = some (.lst (ns.map V.int)) ∧ H3 fo = some (pairO p q) ∧ H fo = none ∧ KM.FB (ns.reverse.drop i) p q p0 q0,
          ⟨ns.length, fo, p, 1, _, _, _, _, _, _, rfl, by omega, hs.trans s2, s2 _ _ hn, hfo, hs.free nf, hfb⟩, ?_⟩
        rintro i m σ H3 ⟨fo, p, q, v0, v1, v3, v4, v5, v7, rfl, em, hs3, hn3, hfo3, nf3, fb⟩
        by_cases hi : i < ns.length
        · have hl : (ns.map V.int).length - 1 - i < ns.length := by rw [List.length_map]; omega
          have g : (ns.map V.int)[(ns.map V.int).length - 1 - i]? = some (.int ns[(ns.map V.int).length - 1 - i]) := by
            rw [List.getElem?_map, List.getElem?_eq_getElem hl]
            rfl
          have er : ns.reverse.drop i = ns[(ns.map V.int).length - 1 - i] :: ns.reverse.drop (i + 1) := by
            have hi' : i < ns.reverse.length := by rw [List.length_reverse]; exact hi
            rw [List.drop_eq_getElem_cons hi', List.getElem_reverse]
            congr 2
            simp
          refine .inr ⟨⟨by rw [List.length_map]; exact hi, _, _, SqL.of hn3, g⟩, fun σ' H4 => ∃ m', m' < m ∧ ∃ (fo : Addr) (p q : Int) (v0 v1 v3 v4 v5 v7 : Option V), σ' = [v0, v1, some (.ref nl), v3, v4, v5, some (.ref fo), v7] ∧ i + 1 + m' = ns.length ∧ Same H H4 ∧ H4 nl = some (.lst (ns.map V.int)) ∧ H4 fo = some (pairO p q) ∧ H fo = none ∧ KM.FB (ns.reverse.drop (i + 1)) p q p0 q0, fun _ _ z => z, fun v H4 hy => ?_⟩
          obtain ⟨rfl, fv⟩ := hy
          have ev := Option.some.inj ((fv _ (SqL.of hn3)).symm.trans g)
          subst ev
          rw [er] at fb
          obtain ⟨⟨bn, bp, bq, p1, q1, gg⟩, fb2⟩ := fb.turn
          -- plus(whole(number), over(ONE, found))
          refine ⟨_, rfl, _, rfl, ?_⟩
          intro H5 wn s5 _ h5
          refine ⟨_, rfl, 1, 1, p, q, ⟨⟨_, _, rfl, pOne H5, Pr.tup (s5 _ _ hfo3)⟩, Bd.one, Bd.one, bd_sm bp, bd_sm bq⟩, by decide, p1, ?_⟩
          intro H6 ov s6 _ h6
          rw [red_over (by rw [Nat.gcd_comm]; exact gg)] at h6
          refine ⟨_, 1, q, p, ⟨⟨_, _, rfl, Pr.tup (s6 _ _ h5), Pr.tup h6⟩, bd_sm bn, Bd.one, bd_sm bq, bd_sm bp⟩, by decide, p1, ?_⟩
          intro H7 f7 s7 n7 h7
          rw [red_plus gg] at h7
          exact ⟨m - 1, by omega, f7, _, _, _, _, _, _, _, _, rfl, by omega, hs3.trans (s5.trans (s6.trans s7)), s7 _ _ (s6 _ _ (s5 _ _ hn3)), h7, (hs3.trans (s5.trans s6)).free n7, fb2⟩
        · refine .inl ⟨(by show (ns.map V.int).length ≤ i; rw [List.length_map]; omega), ?_⟩
          rw [List.drop_eq_nil_of_le (by rw [List.length_reverse]; omega)] at fb
          obtain ⟨rfl, rfl⟩ := fb
          refine ⟨_, rfl, k _ _ hs3 nf3 hfo3⟩
    · refine ⟨_, rfl, _, rfl, a0, b0, c0, d0, ⟨⟨x, y, rfl, hx.pr, hy.pr⟩, ba, bb, bc, bd⟩, _, rfl, ?_⟩
      rw [decide_eq_false hno]
      exact iteT hE
end
end KW
/-! The walks: the law's own small defs. -/
namespace KW
open PySem PySem.Spec PyProof.Rows L2
def spLow : Sp := fun vs H Q _ => ∃ t e, vs = [.int t, .int e] ∧ 0 < e ∧ e.natAbs < 2 ^ 8000 ∧ Out H (pairO (rt t e) (rb t e)) Q
def spTake : Sp := fun vs H Q _ => ∃ (u : Addr) (n A B C : Int), vs = [.ref u, .int n] ∧ 0 < n ∧ n < 1073741824 ∧ H u = some (.lst [.int A, .int B, .int C]) ∧ 0 ≤ C ∧ C ≤ 1000000 ∧
  ∀ r A' C', 0 ≤ r → r < n → 0 ≤ C' → C' ≤ C + 1 → Q (.int r) (upd H u (.lst [.int A', .int B, .int C']))
def spOf : Sp := fun vs H Q _ => ∃ (u l : Addr) (ns : List Int) (A B C : Int), vs = [.ref u, .ref l] ∧ H l = some (.lst (ns.map V.int)) ∧ l ≠ u ∧ 0 < ns.length ∧ ns.length ≤ 1000 ∧ H u = some (.lst [.int A, .int B, .int C]) ∧ 0 ≤ C ∧ C ≤ 1000000 ∧
  ∀ z A' C', z ∈ ns → 0 ≤ C' → C' ≤ C + 1 → Q (.int z) (upd H u (.lst [.int A', .int B, .int C']))
def spBox (K : PySem.W.Frag) : Sp := fun vs H Q _ => ∃ (a : Addr) (ns : List Int) (k : Nat), vs = [.ref a, .int k] ∧ SqL K H a (ns.map V.int) ∧ k < ns.length ∧ ∀ A B p, H p = none → Q (.ref p) (upd H p (.lst [.int A, .int B, .int 0]))
def spCells (K : PySem.W.Frag) : Sp := fun vs H Q _ => ∃ (a : Addr) (ns : List Int), vs = [.ref a, .int 2] ∧ SqL K H a (ns.map V.int) ∧ ns.length ≤ 63 ∧ ∀ ms : List Int, 1 ≤ ms.length → ms.length ≤ 2 → Out H (.lst (ms.map V.int)) Q
def spTops (K : PySem.W.Frag) : Sp := fun vs H Q _ => ∃ x y a b c d e, vs = [x, y, .int e] ∧ Pr K H x a b ∧ Pr K H y c d ∧ Bd a ∧ Bd b ∧ Bd c ∧ Bd d ∧ Bd e ∧ 0 < b ∧ 0 < d ∧ Out H (pairO (KM.lo a b e) (KM.hi c d e)) Q
def spLst (K : PySem.W.Frag) : Sp := fun vs H Q _ => ∃ x y a b c d, vs = [x, y] ∧ Pr K H x a b ∧ Pr K H y c d ∧ Bd a ∧ Bd b ∧ Bd c ∧ Bd d ∧ 0 < b ∧ 0 < d ∧ KM.lo a b 61 ≤ KM.hi c d 61 ∧ ∀ p q, KM.Simp a b c d p q → Out H (pairO p q) Q
theorem mulL {i j : Int} (h : -(2 ^ 64) < i) (h' : i < 2 ^ 64) : CMul i j := .inl ⟨h, h'⟩
theorem mulR {i j : Int} (h : -(2 ^ 64) < j) (h' : j < 2 ^ 64) : CMul i j := .inr ⟨h, h'⟩
theorem b01 (k : Bool) : (-(2 ^ 64) : Int) < (if k = true then 1 else 0) ∧ (if k = true then (1 : Int) else 0) < 2 ^ 64 := by cases k <;> decide
section
variable {P : Program} {w : World} {K : PySem.W.Frag} {mg : Str → Option Value} {base : Heap} {f C : Addr} {fd : FuncData}
/-! ### _law_low -/
theorem sc23 : FnScope ["_law_top_so", "_law_down_so", "_law_near", "_law_far"] ["_law_top_so", "_law_down_so"] (defScope (topS 23)) := ⟨rfl, rfl, rfl, by decide +kernel, rfl, by decide +kernel, by decide +kernel⟩
theorem abs_is (t : Int) : (if t < 0 then -t else t) = ((t.natAbs : Nat) : Int) := by split <;> omega
theorem ok_low (D : Def K mg "_law_low" (topS 23) ["_law_top_so", "_law_down_so"] f fd) (T : Tx K mg C) : FnOk P w K mg base CX0 1 f fd ["_law_top_so", "_law_down_so"] spLow := by
  refine D.F.ok sc23 (fun vs H Q E h => ?_) (fun cdv A outer s H vs Q E hr h => ?_)
  · obtain ⟨t, e, rfl, _⟩ := h
    rfl
  · obtain ⟨t, e, rfl, h0, hb, k⟩ := h
    refine ⟨_, pss_cons (ps_par (i := 2) (j := 3) (by rfl) sc23.nd rfl rfl (by decide) rfl rfl (pa_cons (pe_callB call_abs (by rfl) (T.nb "abs" (by decide +kernel)) (by decide +kernel) (pa_cons (pv 0) pa_nil)) (pa_cons (pe_callB call_abs (by rfl) (T.nb "abs" (by decide +kernel)) (by decide +kernel) (pa_cons (pv 1) pa_nil)) pa_nil)) (by rfl))
      (pss_cons (ps_while PassesOwn.never (pt_cmpR op_gt (pv 3) pe_int (nomark _))
        (pss_one (ps_par (i := 2) (j := 3) (by rfl) sc23.nd rfl rfl (by decide) rfl rfl (pa_cons (pv 3) (pa_cons (pe_op op_mod (pe_callTy call_int1 (by rfl) (T.nb "int" (by decide +kernel)) (by decide +kernel) (pa_cons (pv 2) pa_nil)) (pv 3)) pa_nil)) (by rfl))))
      (pss_cons (ps_if (pt_cmpR op_lt (pv 1) pe_int (nomark _)) (pss_one ps_never) pss_nil)
      (pss_one (ps_ret (pe_tup (pa_cons (pe_op op_fdivW (pv 0) (pv 2)) (pa_cons (pe_op op_fdivW (pv 1) (pv 2)) pa_nil))))))), ?_⟩
    refine ⟨_, rfl, t, rfl, _, rfl, e, rfl, _, _, rfl, ?_⟩
    rw [abs_is, abs_is]
    refine ⟨fun m σ H' => ∃ n g : Nat, σ = [some (.int t), some (.int e), some (.int (n : Int)), some (.int (g : Int))] ∧ H' = H ∧ Nat.gcd n g = Nat.gcd t.natAbs e.natAbs ∧ m = g, ⟨_, t.natAbs, e.natAbs, rfl, rfl, rfl, rfl⟩, ?_⟩
    rintro m σ H' ⟨n, g, rfl, rfl, hg, rfl⟩
    refine ⟨_, rfl, _, _, rfl, rfl, _, rfl, ite2 (fun z => ?_) (fun z => ?_)⟩
    · have g0 : (0 : Int) < m := of_decide_eq_true z
      refine ⟨fun σ' H2 => ∃ m', m' < m ∧ ∃ n g : Nat, σ' = [some (.int t), some (.int e), some (.int (n : Int)), some (.int (g : Int))] ∧ H2 = H' ∧ Nat.gcd n g = Nat.gcd t.natAbs e.natAbs ∧ m' = g, fun _ _ q => q, ?_⟩
      refine ⟨_, rfl, _, rfl, .inl ⟨_, rfl, _, rfl, _, _, rfl, rfl, g0, _, _, rfl, ?_⟩⟩
      refine ⟨n % m, Nat.mod_lt _ (by omega), m, n % m, ?_, rfl, ?_, rfl⟩
      · rw [Int.natCast_emod]
        rfl
      · rw [← hg, Nat.gcd_comm m, ← Nat.gcd_rec, Nat.gcd_comm]
    · have g0 : m = 0 := by
        have : ¬ (0 : Int) < m := fun q => z (decide_eq_true q)
        omega
      subst g0
      rw [Nat.gcd_zero_right] at hg
      subst hg
      refine ⟨_, rfl, _, _, rfl, rfl, _, rfl, ite2 (fun z => ?_) (fun _ => ?_)⟩
      · have := of_decide_eq_true z
        omega
      · exact ⟨_, rfl, _, rfl, _, _, rfl, rfl, divG h0 hb _, _, rfl, _, rfl, _, _, rfl, rfl, divG h0 hb _, by show 2 ≤ sizeLine; decide, k.go (Same.refl _)⟩
/-! ### _law_add -/
theorem sc24 : FnScope ["_law_own", "_law_far"] ["_law_own", "_law_far"] (defScope (topS 24)) := ⟨rfl, rfl, rfl, by decide +kernel, rfl, by decide +kernel, by decide +kernel⟩
theorem ok_add (D : Def K mg "_law_add" (topS 24) ["_law_own", "_law_far"] f fd) (T : Tx K mg C) : FnOk P w K mg base CX0 2 f fd ["_law_own", "_law_far"] (spPlus K) := by
  obtain ⟨fL, fdL, DL⟩ := T.low
  have G : FnOk P w K mg base CX0 1 fL fdL ["_law_top_so", "_law_down_so"] spLow := ok_low DL T
  refine D.F.ok sc24 (fun vs H Q E h => ?_) (fun cdv A outer s H vs Q E hr h => ?_)
  · obtain ⟨a, b, c, d, hA, _⟩ := h
    exact hA.len
  · obtain ⟨a, b, c, d, ⟨⟨x, y, rfl, hx, hy⟩, ba, bb, bc, bd⟩, hb, hd, k⟩ := h
    refine ⟨_, pss_one (ps_ret (pe_call G hr (by rfl) DL.g DL.F.kp DL.b .nil pass0
      (pa_cons (pe_op op_add (pe_op op_mulW (pe_ix ixp (pv 0) pe_int (fun _ _ => rfl)) (pe_ix ixp (pv 1) pe_int (fun _ _ => rfl))) (pe_op op_mulW (pe_ix ixp (pv 1) pe_int (fun _ _ => rfl)) (pe_ix ixp (pv 0) pe_int (fun _ _ => rfl))))
      (pa_cons (pe_op op_mulW (pe_ix ixp (pv 0) pe_int (fun _ _ => rfl)) (pe_ix ixp (pv 1) pe_int (fun _ _ => rfl))) pa_nil)))), ?_⟩
    refine ⟨_, rfl, a, b, hx, .inl ⟨rfl, _, rfl, c, d, hy, .inr ⟨rfl, _, _, rfl, rfl, ba.mul bd, ?_⟩⟩⟩
    refine ⟨_, rfl, c, d, hy, .inl ⟨rfl, _, rfl, a, b, hx, .inr ⟨rfl, _, _, rfl, rfl, bc.mul bb, ?_⟩⟩⟩
    refine ⟨_, _, rfl, rfl, ?_⟩
    refine ⟨_, rfl, a, b, hx, .inr ⟨rfl, _, rfl, c, d, hy, .inr ⟨rfl, _, _, rfl, rfl, bb.mul bd, ?_⟩⟩⟩
    exact ⟨_, _, rfl, Int.mul_pos hb hd, bb.prod bd, k⟩
/-! ### _law_take -/
theorem sc19 : FnScope ["_law_urn", "_law_low_so", "_law_drawn", "_law_once", "_law_far", "_law_twice"] ["_law_urn", "_law_low_so"] (defScope (topS 19)) := ⟨rfl, rfl, rfl, by decide +kernel, rfl, by decide +kernel, by decide +kernel⟩
theorem ok_take (D : Def K mg "_law_take" (topS 19) ["_law_urn", "_law_low_so"] f fd) (T : Tx K mg C) : FnOk P w K mg base CX0 1 f fd ["_law_urn", "_law_low_so"] spTake := by
  have mi := T.nb "int" (by decide +kernel)
  refine D.F.ok sc19 (fun vs H Q E h => ?_) (fun cdv A outer s H vs Q E hr h => ?_)
  · obtain ⟨u, n, A, B, C, rfl, _⟩ := h
    rfl
  · obtain ⟨u, n, a, b, c, rfl, n0, nB, hu, c0, cB, k⟩ := h
    refine ⟨_, pss_cons (ps_if (pt_cmpR op_gt (pe_ix ix_list (pv 0) pe_int (fun _ _ => rfl)) pe_int (nomark _))
        (pss_cons (ps_set (i := 2) sc19.nd rfl (.inl rfl) (pe_op op_mod (pe_callTy call_int1 (by rfl) mi (by decide +kernel) (pa_cons (pe_ix ix_list (pv 0) pe_int (fun _ _ => rfl)) pa_nil)) (pv 1)))
        (pss_cons (ps_asg (pe_op op_fdiv (pe_ix ix_list (pv 0) pe_int (fun _ _ => rfl)) (pv 1)) (pg_sub (pv 0) pe_int set_list))
        (pss_one (ps_ret (pv 2))))) pss_nil)
      (pss_cons (ps_asg (pe_op op_add (pe_ix ix_list (pv 0) pe_int (fun _ _ => rfl)) pe_int) (pg_sub (pv 0) pe_int set_list))
      (pss_cons (ps_set (i := 3) sc19.nd rfl (.inl rfl) (pe_op op_mod (pe_callTy call_int1 (by rfl) mi (by decide +kernel) (pa_cons (pe_op op_mul (pe_op op_add (pe_ix ix_list (pv 0) pe_int (fun _ _ => rfl)) (pe_op op_mul pe_int (pe_ix ix_list (pv 0) pe_int (fun _ _ => rfl)))) (pe_op op_add pe_int (pe_ix ix_list (pv 0) pe_int (fun _ _ => rfl)))) pa_nil)) pe_int))
      (pss_cons (ps_set (i := 4) sc19.nd rfl (.inl rfl) (pe_op op_add (pe_op op_mod (pe_callTy call_int1 (by rfl) mi (by decide +kernel) (pa_cons (pv 3) pa_nil)) pe_int) pe_int))
      (pss_cons (ps_set (i := 5) sc19.nd rfl (.inl rfl) (pe_op op_mod (pe_callTy call_int1 (by rfl) mi (by decide +kernel) (pa_cons (pe_op op_mul (pe_op op_add (pe_op op_add (pv 3) (pe_ix ix_list (pv 0) pe_int (fun _ _ => rfl))) (pe_op op_fdiv (pe_ix ix_list (pv 0) pe_int (fun _ _ => rfl)) pe_int)) (pv 4)) pa_nil)) pe_int))
      (pss_one (ps_ret (pe_op op_mod (pe_callTy call_int1 (by rfl) mi (by decide +kernel) (pa_cons (pe_op op_fdiv (pe_op op_mod (pe_callTy call_int1 (by rfl) mi (by decide +kernel) (pa_cons (pe_op op_add (pe_op op_mul (pv 5) pe_int) (pv 3)) pa_nil)) pe_int) pe_int) pa_nil)) (pv 1)))))))), ?_⟩
    have hL := SqL.of (K := K) hu
    refine ⟨_, rfl, u, _, 0, _, rfl, rfl, hL, atI_nat (j := 0) rfl, _, _, rfl, rfl, _, rfl, ite2 (fun z => ?_) (fun z => ?_)⟩
    · refine ⟨_, rfl, u, _, 0, _, rfl, rfl, hL, atI_nat (j := 0) rfl, .inl ⟨_, rfl, _, rfl, _, _, rfl, rfl, n0, ?_⟩⟩
      refine ⟨_, rfl, u, _, 0, _, rfl, rfl, hL, atI_nat (j := 0) rfl, _, rfl, _, _, rfl, rfl, ⟨n0, nB⟩, ?_⟩
      refine ⟨_, rfl, u, _, 0, 0, rfl, rfl, hu, rfl, ?_⟩
      exact ⟨_, rfl, k _ _ _ (Int.emod_nonneg _ (by omega)) (Int.emod_lt_of_pos _ n0) c0 (by omega)⟩
    · refine ⟨_, rfl, u, _, 2, _, rfl, rfl, hL, atI_nat (j := 2) rfl, _, _, rfl, rfl, ?_⟩
      refine ⟨_, rfl, u, _, 2, 2, rfl, rfl, hu, rfl, ?_⟩
      have hM : SqL K (upd H u (.lst ([V.int a, V.int b, V.int c].set 2 (.int (c + 1))))) u [.int a, .int b, .int (c + 1)] := SqL.of upd_same
      refine ⟨_, rfl, u, _, 1, _, rfl, rfl, hM, atI_nat (j := 1) rfl, _, rfl, u, _, 2, _, rfl, rfl, hM, atI_nat (j := 2) rfl, _, _, rfl, rfl, mulL (by decide) (by decide), _, _, rfl, rfl, ?_⟩
      refine ⟨_, rfl, u, _, 2, _, rfl, rfl, hM, atI_nat (j := 2) rfl, _, _, rfl, rfl, _, _, rfl, rfl, mulR (by omega) (by omega), .inl ⟨_, rfl, _, _, rfl, rfl, (by decide : (0 : Int) < 2147483647), ?_⟩⟩
      generalize hO : (b + 48271 * (c + 1)) * (39373 + (c + 1)) % 2147483647 = o
      refine ⟨_, rfl, .inl ⟨_, rfl, _, _, rfl, rfl, (by decide : (0 : Int) < 40009), _, _, rfl, rfl, ?_⟩⟩
      have r1 := Int.emod_nonneg o (show (40009 : Int) ≠ 0 by decide)
      have r2 := Int.emod_lt_of_pos o (show (0 : Int) < 40009 by decide)
      generalize o % 40009 + 7 = fa at *
      refine ⟨_, rfl, _, rfl, u, _, 2, _, rfl, rfl, hM, atI_nat (j := 2) rfl, _, _, rfl, rfl, _, rfl, u, _, 1, _, rfl, rfl, hM, atI_nat (j := 1) rfl, _, _, rfl, rfl, ⟨by decide, by decide⟩, _, _, rfl, rfl, _, rfl, _, _, rfl, rfl, mulR (by omega) (by omega), .inl ⟨_, rfl, _, _, rfl, rfl, (by decide : (0 : Int) < 2147483629), ?_⟩⟩
      refine ⟨_, rfl, _, _, rfl, rfl, mulR (by decide) (by decide), _, rfl, _, _, rfl, rfl, .inl ⟨_, rfl, _, _, rfl, rfl, (by decide : (0 : Int) < 2147483587), _, _, rfl, rfl, ⟨by decide, by decide⟩, .inl ⟨_, rfl, _, rfl, _, _, rfl, rfl, n0, ?_⟩⟩⟩
      exact k _ _ _ (Int.emod_nonneg _ (by omega)) (Int.emod_lt_of_pos _ n0) (by omega) (by omega)
/-! ### _law_of -/
theorem sc21 : FnScope ["_law_urn", "_law_some_so"] ["_law_urn", "_law_some_so"] (defScope (topS 21)) := ⟨rfl, rfl, rfl, by decide +kernel, rfl, by decide +kernel, by decide +kernel⟩
theorem ok_of (D : Def K mg "_law_of" (topS 21) ["_law_urn", "_law_some_so"] f fd) (T : Tx K mg C) : FnOk P w K mg base CX0 2 f fd ["_law_urn", "_law_some_so"] spOf := by
  obtain ⟨fT, fdT, DT⟩ := T.take
  have G : FnOk P w K mg base CX0 1 fT fdT ["_law_urn", "_law_low_so"] spTake := ok_take DT T
  refine D.F.ok sc21 (fun vs H Q E h => ?_) (fun cdv A outer s H vs Q E hr h => ?_)
  · obtain ⟨u, l, ns, A, B, C, rfl, _⟩ := h
    rfl
  · obtain ⟨u, l, ns, a, b, c, rfl, hl, ne, l0, lB, hu, c0, cB, k⟩ := h
    refine ⟨_, pss_one (ps_ret (pe_ix ix_list (pv 1) (pe_call G hr (by rfl) DT.g DT.F.kp DT.b .nil pass0 (pa_cons (pv 0) (pa_cons (pe_callB call_len_seq (by rfl) (T.nb "len" (by decide +kernel)) PySem.boot_len (pa_cons (pv 1) pa_nil)) pa_nil))) (fun _ _ => rfl))), ?_⟩
    refine ⟨_, rfl, _, rfl, _, rfl, l, _, rfl, .inl (SqL.of hl), ?_⟩
    rw [List.length_map]
    refine ⟨u, _, a, b, c, rfl, by omega, by omega, hu, c0, cB, fun r A' C' r0 r1 h1 h2 => ?_⟩
    have hl' : SqL K (upd H u (.lst [.int A', .int b, .int C'])) l (ns.map V.int) := SqL.of (by rw [upd_ne ne]; exact hl)
    have hi : r.toNat < ns.length := by omega
    refine ⟨l, _, r, _, rfl, rfl, hl', at_of (j := r.toNat) (by omega) ?_, k ns[r.toNat] A' C' (List.getElem_mem hi) h1 h2⟩
    rw [List.getElem?_map, List.getElem?_eq_getElem hi]
    rfl
/-! ### _law_box -/
theorem sc18 : FnScope ["_law_script", "_law_k", "_law_cell"] ["_law_script", "_law_k"] (defScope (topS 18)) := ⟨rfl, rfl, rfl, by decide +kernel, rfl, by decide +kernel, by decide +kernel⟩
theorem ok_box (D : Def K mg "_law_box" (topS 18) ["_law_script", "_law_k"] f fd) (T : Tx K mg C) : FnOk P w K mg base CX0 1 f fd ["_law_script", "_law_k"] (spBox K) := by
  have mi := T.nb "int" (by decide +kernel)
  have ma := T.nb "abs" (by decide +kernel)
  refine D.F.ok sc18 (fun vs H Q E h => ?_) (fun cdv A outer s H vs Q E hr h => ?_)
  · obtain ⟨a, ns, k, rfl, _⟩ := h
    rfl
  · obtain ⟨a, ns, i, rfl, hS, hi, k⟩ := h
    refine ⟨_, pss_cons (ps_set (i := 2) sc18.nd rfl (.inl rfl) (pe_ifExp (pt_cmpR op_lt (pv 1) (pe_callB call_len_seq (by rfl) (T.nb "len" (by decide +kernel)) PySem.boot_len (pa_cons (pv 0) pa_nil)) (nomark _)) (pe_ix ix_list (pv 0) (pv 1) (fun _ _ => rfl)) pe_int))
      (pss_one (ps_ret (pe_lst (pa_cons (pe_op op_mul (pe_callB call_abs (by rfl) ma (by decide +kernel) (pa_cons (pv 2) pa_nil)) (pe_callTy call_int1 (by rfl) mi (by decide +kernel) (pa_cons (pe_cmpR op_ge (pe_callB call_abs (by rfl) ma (by decide +kernel) (pa_cons (pv 2) pa_nil)) (pe_op op_pow pe_int pe_int) (nomark _)) pa_nil)))
        (pa_cons (pe_op op_add (pe_op op_add (pe_op op_mod (pe_callTy call_int1 (by rfl) mi (by decide +kernel) (pa_cons (pv 2) pa_nil)) pe_int) (pe_op op_mul pe_int (pv 1))) pe_int) (pa_cons pe_int pa_nil)))))), ?_⟩
    refine ⟨_, rfl, _, rfl, a, _, rfl, .inl hS, _, _, rfl, rfl, _, rfl, ite2 (fun _ => ?_) (fun z => ?_)⟩
    · have g : (ns.map V.int)[i]? = some (.int ns[i]) := by
        rw [List.getElem?_map, List.getElem?_eq_getElem hi]
        rfl
      refine ⟨_, rfl, _, rfl, a, _, _, _, rfl, rfl, hS, atI_nat g, ?_⟩
      refine ⟨_, rfl, _, rfl, _, rfl, _, rfl, _, _, rfl, rfl, ⟨by decide, by decide, by decide⟩, _, _, rfl, rfl, .inr ⟨_, rfl, _, _, rfl, rfl, mulR (b01 _).1 (b01 _).2, ?_⟩⟩
      · refine ⟨_, rfl, .inl ⟨_, rfl, _, _, rfl, rfl, (by decide : (0 : Int) < 2305843009213693951), _, rfl, _, _, rfl, rfl, mulL (by decide) (by decide), _, _, rfl, rfl, _, _, rfl, rfl, by show 3 ≤ sizeLine; decide, fun p hp => k _ _ p hp⟩⟩
    · refine absurd (decide_eq_true ?_) z
      rw [List.length_map]
      omega
/-! ### _law_tops, _law_least -/
theorem sc27 : FnScope ["_law_left", "_law_right_here", "_law_down_so"] ["_law_left", "_law_right_here", "_law_down_so"] (defScope (topS 27)) := ⟨rfl, rfl, rfl, by decide +kernel, rfl, by decide +kernel, by decide +kernel⟩
theorem ok_tops (D : Def K mg "_law_tops" (topS 27) ["_law_left", "_law_right_here", "_law_down_so"] f fd) : FnOk P w K mg base CX0 1 f fd ["_law_left", "_law_right_here", "_law_down_so"] (spTops K) := by
  refine D.F.ok sc27 (fun vs H Q E h => ?_) (fun cdv A outer s H vs Q E hr h => ?_)
  · obtain ⟨x, y, a, b, c, d, e, rfl, _⟩ := h
    rfl
  · obtain ⟨x, y, a, b, c, d, e, rfl, hx, hy, ba, bb, bc, bd, be, hb, hd, k⟩ := h
    refine ⟨_, pss_one (ps_ret (pe_tup (pa_cons (pe_op op_add (pe_op op_fdivW (pe_op op_mulW (pe_ix ixp (pv 0) pe_int (fun _ _ => rfl)) (pv 2)) (pe_ix ixp (pv 0) pe_int (fun _ _ => rfl))) pe_int)
      (pa_cons (pe_op op_sub (pe_op op_sub pe_int (pe_op op_fdivW (pe_op op_sub pe_int (pe_op op_mulW (pe_ix ixp (pv 1) pe_int (fun _ _ => rfl)) (pv 2))) (pe_ix ixp (pv 1) pe_int (fun _ _ => rfl)))) pe_int) pa_nil)))), ?_⟩
    refine ⟨_, rfl, a, b, hx, .inl ⟨rfl, _, rfl, _, _, rfl, rfl, ba.mul be, _, rfl, a, b, hx, .inr ⟨rfl, _, _, rfl, rfl, Bd.div hb bb, _, _, rfl, rfl, ?_⟩⟩⟩
    refine ⟨_, rfl, c, d, hy, .inl ⟨rfl, _, rfl, _, _, rfl, rfl, bc.mul be, _, _, rfl, rfl, _, rfl, c, d, hy, .inr ⟨rfl, _, _, rfl, rfl, Bd.div hd bd, _, _, rfl, rfl, _, _, rfl, rfl, ?_⟩⟩⟩
    refine ⟨by show 2 ≤ sizeLine; decide, fun p hp => ?_⟩
    have e2 : KM.hi c d e = 0 - (0 - c * e) / d - 1 := by unfold KM.hi; rw [Int.zero_sub, Int.zero_sub]
    have k' := k.go (Same.refl H) p hp
    rw [e2] at k'
    exact k'
theorem sc28 : FnScope ["_law_left", "_law_right_here", "_law_down_so", "_law_least_so", "_law_most_so"] ["_law_left", "_law_right_here"] (defScope (topS 28)) := ⟨rfl, rfl, rfl, by decide +kernel, rfl, by decide +kernel, by decide +kernel⟩
theorem ok_lst (D : Def K mg "_law_least" (topS 28) ["_law_left", "_law_right_here"] f fd) (T : Tx K mg C) : FnOk P w K mg base CX0 2 f fd ["_law_left", "_law_right_here"] (spLst K) := by
  obtain ⟨fT, fdT, DT⟩ := T.tops
  have G : FnOk P w K mg base CX0 1 fT fdT ["_law_left", "_law_right_here", "_law_down_so"] (spTops K) := ok_tops DT
  refine D.F.ok sc28 (fun vs H Q E h => ?_) (fun cdv A outer s H vs Q E hr h => ?_)
  · obtain ⟨x, y, a, b, c, d, rfl, _⟩ := h
    rfl
  · obtain ⟨x, y, a, b, c, d, rfl, hx, hy, ba, bb, bc, bd, hb, hd, h61, k⟩ := h
    refine ⟨_, pss_cons (ps_for PassesOwn.never rfl (pi_range2 (by rfl) (T.nb "range" (by decide +kernel)) (pa_cons pe_int (pa_cons pe_int pa_nil))) (pg_name (i := 2) sc28.nd rfl (.inl rfl))
        (pss_cons (ps_asg (pe_call G hr (by rfl) DT.g DT.F.kp DT.b .nil pass0 (pa_cons (pv 0) (pa_cons (pv 1) (pa_cons (pv 2) pa_nil)))) (pg_tup (by rfl) (pgs_cons (pg_name (i := 3) sc28.nd rfl (.inl rfl)) (pgs_cons (pg_name (i := 4) sc28.nd rfl (.inl rfl)) pgs_nil))))
        (pss_one (ps_if (pt_cmpR op_le (pv 3) (pv 4) (nomark _))
          (pss_one (ps_ret (pe_tup (pa_cons (pe_callB (call_max2 rfl) (by rfl) (T.nb "max" (by decide +kernel)) (by decide +kernel) (pa_cons (pv 3) (pa_cons (pe_callB (call_min2 rfl) (by rfl) (T.nb "min" (by decide +kernel)) (by decide +kernel) (pa_cons pe_int (pa_cons (pv 4) pa_nil))) pa_nil))) (pa_cons (pv 2) pa_nil))))) pss_nil))))
      (pss_one ps_never), ?_⟩
    refine ⟨1, 63, rfl, by decide, ?_⟩
    refine for_range (lo := 1) (n := 62) (fun i σ H' => ∃ v2 v3 v4 : Option V, σ = [some x, some y, v2, v3, v4] ∧ Same H H' ∧ ∀ e', 0 < e' → e' < 1 + (i : Int) → KM.hi c d e' < KM.lo a b e') ⟨_, _, _, rfl, Same.refl H, fun e' h1 h2 => by omega⟩ ?_ ?_
    · rintro i σ H' hi ⟨v2, v3, v4, rfl, hs, hno⟩
      refine ⟨_, rfl, _, rfl, _, rfl, x, y, a, b, c, d, _, rfl, hx.mono hs, hy.mono hs, ba, bb, bc, bd, .of (by omega), hb, hd, ?_⟩
      intro H2 p s2 np hp
      refine ⟨p, _, rfl, SqT.of hp, rfl, _, _, rfl, _, _, rfl, rfl, ?_⟩
      refine ⟨_, rfl, _, rfl, _, _, rfl, rfl, _, rfl, ite2 (fun z => ?_) (fun z => ?_)⟩
      · have S := KM.simp_at hb hd (by omega) (of_decide_eq_true z) hno
        have k' := (k _ _ S).go (hs.trans s2)
        exact ⟨_, rfl, _, rfl, _, _, rfl, _, _, rfl, _, rfl, by show 2 ≤ sizeLine; decide, k'⟩
      · refine ⟨_, _, _, rfl, hs.trans s2, fun e' h1 h2 => ?_⟩
        by_cases he : e' < 1 + (i : Int)
        · exact hno e' h1 he
        · have ee : e' = 1 + (i : Int) := by omega
          subst ee
          have : ¬ (KM.lo a b (1 + (i : Int)) ≤ KM.hi c d (1 + (i : Int))) := fun q => z (decide_eq_true q)
          omega
    · rintro σ H' ⟨v2, v3, v4, rfl, hs, hno⟩
      have := hno 61 (by decide) (by decide)
      omega
end
end KW
/-! The walk of _law_cells. -/
namespace KW
open PySem PySem.Spec PyProof.Rows L2
theorem cut_to2 (ns : List Int) : cutV (ns.map V.int) none (some 2) = (ns.take 2).map V.int := by
  unfold cutV
  rw [show HT.sIx (ns.map V.int).length (ns.map V.int).length (some 2) = min 2 (ns.map V.int).length from HT.sIx_nat _ _ 2, HT.sIx_none, List.map_take, List.drop_zero, Nat.sub_zero]
  rw [Nat.min_def]
  split
  · rfl
  · rw [List.take_of_length_le (by omega), List.take_of_length_le (by omega)]
theorem cut_from2 (ns : List Int) : ∃ m, cutV (ns.map V.int) (some 2) (some 63) = ((ns.drop (min 2 ns.length)).take m).map V.int := by
  unfold cutV
  rw [show HT.sIx (ns.map V.int).length (ns.map V.int).length (some 63) = min 63 (ns.map V.int).length from HT.sIx_nat _ _ 63, show HT.sIx (ns.map V.int).length 0 (some 2) = min 2 (ns.map V.int).length from HT.sIx_nat _ _ 2]
  rw [List.length_map]
  exact ⟨min 63 ns.length - min 2 ns.length, by rw [List.map_take, List.map_drop]⟩
section
variable {P : Program} {w : World} {K : PySem.W.Frag} {mg : Str → Option Value} {base : Heap} {f C : Addr} {fd : FuncData}
theorem sc20 : FnScope ["_law_script", "_law_top", "_law_cells_here", "_law_k", "_law_cell", "_law_at_so"] ["_law_script", "_law_top"] (defScope (topS 20)) := ⟨rfl, rfl, rfl, by decide +kernel, rfl, by decide +kernel, by decide +kernel⟩
theorem ok_cells (D : Def K mg "_law_cells" (topS 20) ["_law_script", "_law_top"] f fd) (T : Tx K mg C) : FnOk P w K mg base CX0 1 f fd ["_law_script", "_law_top"] (spCells K) := by
  refine D.F.ok sc20 (fun vs H Q E h => ?_) (fun cdv A outer s H vs Q E hr h => ?_)
  · obtain ⟨a, ns, rfl, _⟩ := h
    rfl
  · obtain ⟨a, ns, rfl, hS, hlen, k⟩ := h
    refine ⟨_, pss_cons (ps_set (i := 2) sc20.nd rfl (.inl rfl) (pe_orT (pe_callTy call_list_of (by rfl) (T.nb "list" (by decide +kernel)) (by decide +kernel) (pa_cons (pe_slice sl_list (pv 0) po_none (po_some (pv 1))) pa_nil)) (pe_one (pe_lst (pa_cons pe_int pa_nil)))))
      (pss_cons (ps_for PassesOwn.never rfl (pi_enum (by rfl) (T.nb "enumerate" (by decide +kernel)) (pa_cons (pe_slice sl_list (pv 0) (po_some (pv 1)) (po_some pe_int)) pa_nil))
          (pg_tup (by rfl) (pgs_cons (pg_name (i := 3) sc20.nd rfl (.inl rfl)) (pgs_cons (pg_name (i := 4) sc20.nd rfl (.inl rfl)) pgs_nil)))
        (pss_cons (ps_set (i := 5) sc20.nd rfl (.inl rfl) (pe_op op_mod (pe_callTy call_int1 (by rfl) (T.nb "int" (by decide +kernel)) (by decide +kernel) (pa_cons (pv 3) pa_nil)) (pv 1)))
        (pss_one (ps_asg (pe_op op_add (pe_ix ix_list (pv 2) (pv 5) (fun _ _ => rfl)) (pe_op op_mul (pv 4) (pe_op op_add (pv 3) pe_int))) (pg_sub (pv 2) (pv 5) set_list)))))
      (pss_one (ps_ret (pv 2)))), ?_⟩
    -- what follows, from any list of one or two numbers
    have next : ∀ (H1 : Hp) (l : Addr) (ms : List Int), Same H H1 → H l = none → H1 l = some (.lst (ms.map V.int)) → 1 ≤ ms.length → ms.length ≤ 2 → (2 < ns.length → ms.length = 2) →
        tSeq (tFor (iEnum K (tCons (tSl (rSlL K) (tVar 0) (tPart (tVar 1)) (tPart (tC (V.int 63)))) tNil)) (gTup K 2 (gCons (gName 3) (gCons (gName 4) gNil)))
          (tSeq (tAsg (tOp (rI (fun _ j => 0 < j) fun i j => .int (i % j)) (tCB (fun xs H Q => (∃ i, xs = [.int i] ∧ Q (.int i) H) ∨ ∃ k, xs = [.bl k] ∧ Q (.int (if k then 1 else 0)) H) (tCons (tVar 3) tNil)) (tVar 1)) (gName 5))
            (tAsg (tOp (rI0 fun i j => .int (i + j)) (tOp (rIxL K) (tVar 2) (tVar 5)) (tOp (rI CMul fun i j => .int (i * j)) (tVar 4) (tOp (rI0 fun i j => .int (i + j)) (tVar 3) (tC (.int 2))))) (gSub (tVar 2) (tVar 5) rSetL))))
          (tRet (tVar 2)) { nx := fun _ H' => Q .non H', rt := Q } [some (.ref a), some (.int 2), some (.ref l), none, none, none] H1 := by
      intro H1 l ms hs hl0 hl h1 h2 h3
      refine ⟨_, rfl, _, rfl, 2, rfl, 63, rfl, a, _, rfl, hs.seq hS, fun c nc => ?_⟩
      obtain ⟨m, em⟩ := cut_from2 ns
      rw [em]
      generalize hc : (ns.drop (min 2 ns.length)).take m = cs
      have hcl : cs ≠ [] → 2 < ns.length := by
        intro z
        by_cases e : 2 < ns.length
        · exact e
        · rw [List.drop_eq_nil_of_le (by omega), List.take_nil] at hc
          exact absurd hc.symm z
      have clen : cs.length ≤ 63 := by
        rw [← hc, List.length_take, List.length_drop]
        omega
      have s1 : Same H1 (upd H1 c (.lst (cs.map V.int))) := same_upd nc
      have c0 : H c = none := hs.free nc
      have ncl : l ≠ c := ne_of_none hl nc
      refine ⟨c, _, rfl, SqL.of upd_same, ?_⟩
      refine ⟨fun i m σ H2 => ∃ (ms : List Int) (v3 v4 v5 : Option V), σ = [some (.ref a), some (.int 2), some (.ref l), v3, v4, v5] ∧ i + m = cs.length ∧ Same H H2 ∧ H2 c = some (.lst (cs.map V.int)) ∧ H2 l = some (.lst (ms.map V.int)) ∧ 1 ≤ ms.length ∧ ms.length ≤ 2 ∧ (2 < ns.length → ms.length = 2),
        ⟨cs.length, ms, none, none, none, rfl, by omega, hs.trans s1, upd_same, s1 _ _ hl, h1, h2, h3⟩, ?_⟩
      rintro i m' σ H2 ⟨ms, v3, v4, v5, rfl, ei, hs2, hc2, hl2, g1, g2, g3⟩
      by_cases hi : i < cs.length
      · have g : (cs.map V.int)[i]? = some (.int cs[i]) := by
          rw [List.getElem?_map, List.getElem?_eq_getElem hi]
          rfl
        have ml : ms.length = 2 := g3 (hcl (by intro z; subst z; simp at hi))
        refine .inr ⟨⟨_, _, SqL.of hc2, g⟩, fun σ' H3 => ∃ m2, m2 < m' ∧ ∃ (ms : List Int) (v3 v4 v5 : Option V), σ' = [some (.ref a), some (.int 2), some (.ref l), v3, v4, v5] ∧ i + 1 + m2 = cs.length ∧ Same H H3 ∧ H3 c = some (.lst (cs.map V.int)) ∧ H3 l = some (.lst (ms.map V.int)) ∧ 1 ≤ ms.length ∧ ms.length ≤ 2 ∧ (2 < ns.length → ms.length = 2), fun _ _ z => z, fun v H3 hy => ?_⟩
        obtain ⟨t, x, rfl, nt, rfl, fx⟩ := hy
        have ex := Option.some.inj ((fx _ (SqL.of hc2)).symm.trans g)
        subst ex
        have ntl : l ≠ t := ne_of_none hl2 nt
        have ntc : c ≠ t := ne_of_none hc2 nt
        refine ⟨t, _, rfl, SqT.of upd_same, rfl, _, _, rfl, _, _, rfl, rfl, ?_⟩
        refine ⟨_, rfl, .inl ⟨_, rfl, _, rfl, _, _, rfl, rfl, (by decide : (0 : Int) < 2), ?_⟩⟩
        have r0 := Int.emod_nonneg (i : Int) (show (2 : Int) ≠ 0 by decide)
        have r1 := Int.emod_lt_of_pos (i : Int) (show (0 : Int) < 2 by decide)
        have hj : ((i : Int) % 2).toNat < ms.length := by omega
        have gm : (ms.map V.int)[((i : Int) % 2).toNat]? = some (.int ms[((i : Int) % 2).toNat]) := by
          rw [List.getElem?_map, List.getElem?_eq_getElem hj]
          rfl
        have hl3 : (upd H2 t (.tup [.int (i : Nat), .int cs[i]])) l = some (.lst (ms.map V.int)) := by rw [upd_ne ntl]; exact hl2
        refine ⟨_, rfl, _, rfl, l, _, _, _, rfl, rfl, SqL.of hl3, at_of (j := ((i : Int) % 2).toNat) (by omega) gm, ?_⟩
        refine ⟨_, rfl, _, rfl, _, _, rfl, rfl, _, _, rfl, rfl, mulR (by omega) (by omega), _, _, rfl, rfl, ?_⟩
        refine ⟨_, rfl, _, rfl, l, _, _, ((i : Int) % 2).toNat, rfl, rfl, hl3, ?_, ?_⟩
        · unfold ixN
          rw [List.length_map, if_pos r0, if_pos (by omega)]
        · refine ⟨m' - 1, by omega, ms.set ((i : Int) % 2).toNat (ms[((i : Int) % 2).toNat] + cs[i] * ((i : Int) + 2)), _, _, _, rfl, by omega, ?_, ?_, ?_, ?_, ?_, ?_⟩
          · exact same_over hl0 (hs2.trans (same_upd nt))
          · rw [upd_ne ncl.symm, upd_ne ntc]
            exact hc2
          · rw [upd_same, List.map_set]
          · rw [List.length_set]; exact g1
          · rw [List.length_set]; exact g2
          · rw [List.length_set]; exact g3
      · refine .inl ⟨⟨_, SqL.of hc2, by rw [List.length_map]; omega⟩, ?_⟩
        exact ⟨_, rfl, k ms g1 g2 _ _ hs2 hl0 hl2⟩
    refine ⟨_, rfl, _, rfl, 2, rfl, a, _, rfl, hS, fun p hp => ?_⟩
    rw [cut_to2]
    refine ⟨p, _, rfl, .inl (SqL.of upd_same), fun l hl => ?_⟩
    have s1 : Same H (upd H p (.lst ((ns.take 2).map V.int))) := same_upd hp
    have l0 : H l = none := s1.free hl
    refine ⟨_, .inl ⟨_, SqL.of upd_same, rfl⟩, ?_⟩
    by_cases hn : ns = []
    · subst hn
      refine ⟨by show 1 ≤ sizeLine; decide, fun l2 hl2 => ?_⟩
      have s2 := s1.trans (same_upd (o := .lst ((List.take 2 []).map V.int)) hl)
      exact next _ l2 [0] (s2.trans (same_upd hl2)) (s2.free hl2) upd_same (by decide) (by decide) (fun z => by simp at z)
    · have en : (!((ns.take 2).map V.int).isEmpty) = true := by
        cases ns with
        | nil => exact absurd rfl hn
        | cons x r => rfl
      rw [en]
      refine iteT ?_
      have hl1 : 1 ≤ ns.length := by
        cases ns with
        | nil => exact absurd rfl hn
        | cons x r => simp
      exact next _ l (ns.take 2) (s1.trans (same_upd hl)) l0 upd_same (by rw [List.length_take]; omega) (by rw [List.length_take]; omega) (fun z => by rw [List.length_take]; omega)
end
end KW
/-! The walk of _law_same. -/
namespace KW
open PySem PySem.Spec PyProof.Rows L2
/-- equal numbers, truth values or texts -/
def Flat (x y : V) : Prop := x = y ∧ ((∃ i, x = .int i) ∨ (∃ b, x = .bl b) ∨ ∃ s, x = .str s)
/-- alike to a depth -/
def SameV : Nat → Hp → V → V → Prop
  | 0, _, x, y => Flat x y
  | n + 1, H, x, y => Flat x y ∨ ∃ p q xs ys, x = .ref p ∧ y = .ref q ∧ ((H p = some (.lst xs) ∧ H q = some (.lst ys)) ∨ (H p = some (.tup xs) ∧ H q = some (.tup ys))) ∧ xs.length = ys.length ∧ xs.length ≤ 1000 ∧
      ∀ (i : Nat) (u v : V), xs[i]? = some u → ys[i]? = some v → SameV n H u v
theorem SameV.mono {H H' : Hp} (s : Same H H') : ∀ {n : Nat} {x y : V}, SameV n H x y → SameV n H' x y
  | 0, _, _, h => h
  | n + 1, _, _, h => by
    rcases h with h | ⟨p, q, xs, ys, e1, e2, h, hl, hb, ha⟩
    · exact Or.inl h
    · refine Or.inr ⟨p, q, xs, ys, e1, e2, ?_, hl, hb, fun i u v a b => SameV.mono s (ha i u v a b)⟩
      rcases h with ⟨a, b⟩ | ⟨a, b⟩
      · exact .inl ⟨s _ _ a, s _ _ b⟩
      · exact .inr ⟨s _ _ a, s _ _ b⟩
theorem SameV.flat {n : Nat} {H : Hp} {x y : V} (h : Flat x y) : SameV n H x y := by
  cases n with
  | zero => exact h
  | succ n => exact Or.inl h
theorem flat_int (i : Int) : Flat (.int i) (.int i) := ⟨rfl, .inl ⟨i, rfl⟩⟩
theorem flat_bl (b : Bool) : Flat (.bl b) (.bl b) := ⟨rfl, .inr (.inl ⟨b, rfl⟩)⟩
theorem flat_str (s : Str) : Flat (.str s) (.str s) := ⟨rfl, .inr (.inr ⟨s, rfl⟩)⟩
def spSame (n : Nat) : Sp := fun vs H Q _ => ∃ x y, vs = [x, y] ∧ SameV n H x y ∧ ∀ H', Same H H' → Q (.bl true) H'
/-! ### zip of two tuples, as a walk -/
theorem walk_zip_tuples {K : PySem.W.Frag} {a b : Addr} {xs ys : List V} (hl : xs.length = ys.length) : Walk (RZ.ItzT K a b) xs.length (fun H => SqT K H a xs ∧ SqT K H b ys) (YPair (fun i => xs[i]?) (fun i => ys[i]?)) where
  goes := fun i H hi q => ⟨xs, ys, xs[i], ys[i]'(by omega), q.1, q.2, List.getElem?_eq_getElem hi, List.getElem?_eq_getElem (by omega)⟩
  stops := fun H q => ⟨xs, ys, q.1, q.2, .inl (Nat.le_refl _)⟩
  yields := fun i H v H' _ q ⟨t, x, y, e1, e2, e3, fx, fy⟩ => ⟨t, x, y, e1, e2, e3, fx _ q.1, fy _ q.2⟩
theorem rep_snoc (i : Nat) : (List.replicate i true).map V.bl ++ [V.bl true] = (List.replicate (i + 1) true).map V.bl := by
  rw [List.replicate_succ', List.map_append]
  rfl
theorem rep_all : ∀ i : Nat, (List.replicate i true).all id = true
  | 0 => rfl
  | i + 1 => by
    rw [List.replicate_succ, List.all_cons, rep_all i]
    rfl
section
variable {P : Program} {w : World} {K : PySem.W.Frag} {mg : Str → Option Value} {base : Heap} {f C : Addr} {fd : FuncData}
theorem sc22 : FnScope ["_law_got", "_law_goal", "_law_mine_so", "_law_own"] ["_law_got", "_law_goal"] (defScope (topS 22)) := ⟨rfl, rfl, rfl, by decide +kernel, rfl, by decide +kernel, by decide +kernel⟩
theorem bs2 : Paired ClsV [V.ty "bool", V.ty "str"] [.type "bool", .type "str"] := .cons (.ty _) (.cons (.ty _) .nil)
theorem kitBS {b c : Bool} {t : String} (h1 : kitB t "bool" = some b) (h2 : kitB t "str" = some c) : PySem.W.kitAny K (.type t) [.type "bool", .type "str"] = some (b || c) :=
  kitAny_cons (kit_ty h1) (fun e => by subst e; exact kitAny_cons (kit_ty h2) (fun e => by rw [e]; exact kitAny_nil) fun e => by rw [e]; rfl) (fun e => by rw [e]; rfl)
/-- the flat way -/
theorem flat_way (D : Def K mg "_law_same" (topS 22) ["_law_got", "_law_goal"] f fd) (T : Tx K mg C) (cdv : Value) (A : Around) (outer : List Env) (s : Shared) (H : Hp) (x y : V) (Q : VK) (E : XK) (hf : Flat x y) (k : ∀ H', Same H H' → Q (.bl true) H') :
    ∃ t, PSs (cxOf CX0 P w K mg base ["_law_got", "_law_goal", "_law_mine_so", "_law_own"] "_law_same" (defScope (topS 22)) f cdv A outer s H E).nox (defBody (topS 22)) t ∧ t { nx := fun _ H' => Q .non H', rt := Q } (L2.start ["_law_got", "_law_goal", "_law_mine_so", "_law_own"] [x, y]) H := by
  have mi := T.nb "isinstance" (by decide +kernel)
  obtain ⟨rfl, hf⟩ := hf
  refine ⟨_, pss_cons (ps_if (pt_val (pe_callB call_isiT (by rfl) mi (by decide +kernel) (pa_cons (pv 1) (pa_cons (pe_tup (pa_cons (pe_bltn (v := .ty "list") (by rfl) (T.nb "list" (by decide +kernel)) (by decide +kernel) rfl) (pa_cons (pe_bltn (v := .ty "tuple") (by rfl) (T.nb "tuple" (by decide +kernel)) (by decide +kernel) rfl) pa_nil))) pa_nil)))) pss_never pss_nil)
    (pss_cons (ps_if (PW.pt (pw_or (pt_cmp (pc_isN (pv 1))) (pw_or1 (pt_val (pe_callB call_isiT (by rfl) mi (by decide +kernel) (pa_cons (pv 1) (pa_cons (pe_tup (pa_cons (pe_bltn (v := .ty "bool") (by rfl) (T.nb "bool" (by decide +kernel)) (by decide +kernel) rfl) (pa_cons (pe_bltn (v := .ty "str") (by rfl) (T.nb "str" (by decide +kernel)) (by decide +kernel) rfl) pa_nil))) pa_nil)))))))
        (pss_one (ps_ret (pe_and (pe_cmpR op_eq (pv 0) (pv 1) (nomark _)) (pe_and (pe_cmpR op_eq (pe_callB call_isi (by rfl) mi (by decide +kernel) (pa_cons (pv 0) (pa_cons (pe_bltn (v := .ty "bool") (by rfl) (T.nb "bool" (by decide +kernel)) (by decide +kernel) rfl) pa_nil)))
          (pe_callB call_isi (by rfl) mi (by decide +kernel) (pa_cons (pv 1) (pa_cons (pe_bltn (v := .ty "bool") (by rfl) (T.nb "bool" (by decide +kernel)) (by decide +kernel) rfl) pa_nil))) (nomark _))
          (pe_one (pe_cmpR op_eq (pe_cmp (pc_isN (pv 0))) (pe_cmp (pc_isN (pv 1))) (nomark _))))))) pss_nil)
    (pss_one (ps_ret (pe_and (pe_callB call_isi (by rfl) mi (by decide +kernel) (pa_cons (pv 0) (pa_cons (pe_bltn (v := .ty "int") (by rfl) (T.nb "int" (by decide +kernel)) (by decide +kernel) rfl) pa_nil)))
      (pe_and (pe_not (pe_callB call_isi (by rfl) mi (by decide +kernel) (pa_cons (pv 0) (pa_cons (pe_bltn (v := .ty "bool") (by rfl) (T.nb "bool" (by decide +kernel)) (by decide +kernel) rfl) pa_nil))))
      (pe_one (pe_cmpR op_eq (pv 0) (pv 1) (nomark _)))))))), ?_⟩
  refine ⟨_, rfl, by show 2 ≤ sizeLine; decide, fun p hp => ?_⟩
  have s1 : Same H (upd H p (.tup [.ty "list", .ty "tuple"])) := same_upd hp
  rcases hf with ⟨i, rfl⟩ | ⟨b, rfl⟩ | ⟨z, rfl⟩
  · refine ⟨_, p, _, _, _, false, rfl, upd_same, lt2, .base (.int i), kitInt (by decide +kernel) (by decide +kernel), _, rfl, iteF ?_⟩
    refine ⟨_, rfl, _, rfl, ite2 (fun z => by have := of_decide_eq_true z; cases this) fun _ => ?_⟩
    refine ⟨_, rfl, by show 2 ≤ sizeLine; decide, fun p2 hp2 => ?_⟩
    refine ⟨_, p2, _, _, _, _, rfl, upd_same, bs2, .base (.int i), kitBS (b := false) (c := false) (by decide +kernel) (by decide +kernel), _, rfl, iteF ?_⟩
    refine ⟨_, rfl, _, _, _, _, true, rfl, .ty _, .base (.int i), kit_ty (by decide +kernel), _, rfl, iteT ?_⟩
    refine ⟨_, rfl, _, _, _, _, false, rfl, .ty _, .base (.int i), kit_ty (by decide +kernel), _, rfl, _, rfl, iteT ?_⟩
    refine ⟨_, rfl, _, rfl, rfl, ?_⟩
    rw [decide_eq_true rfl]
    exact k _ (s1.trans (same_upd hp2))
  · refine ⟨_, p, _, _, _, false, rfl, upd_same, lt2, .base (.bl b), kitInt (by decide +kernel) (by decide +kernel), _, rfl, iteF ?_⟩
    refine ⟨_, rfl, _, rfl, ite2 (fun z => by have := of_decide_eq_true z; cases this) fun _ => ?_⟩
    refine ⟨_, rfl, by show 2 ≤ sizeLine; decide, fun p2 hp2 => ?_⟩
    refine ⟨_, p2, _, _, _, _, rfl, upd_same, bs2, .base (.bl b), kitBS (b := true) (c := false) (by decide +kernel) (by decide +kernel), _, rfl, iteT ?_⟩
    refine ⟨_, rfl, _, rfl, rfl, _, rfl, ite2 (fun _ => ?_) (fun z => absurd (decide_eq_true rfl) z)⟩
    refine ⟨_, rfl, _, _, _, _, true, rfl, .ty _, .base (.bl b), kit_ty (by decide +kernel), _, rfl, _, _, _, _, true, rfl, .ty _, .base (.bl b), kit_ty (by decide +kernel), rfl, _, rfl, ite2 (fun _ => ?_) (fun z => absurd (decide_eq_true rfl) z)⟩
    refine ⟨_, rfl, _, rfl, rfl, ?_⟩
    rw [decide_eq_true rfl]
    exact k _ (s1.trans (same_upd hp2))
  · refine ⟨_, p, _, _, _, false, rfl, upd_same, lt2, .base (.str z), kitInt (by decide +kernel) (by decide +kernel), _, rfl, iteF ?_⟩
    refine ⟨_, rfl, _, rfl, ite2 (fun z => by have := of_decide_eq_true z; cases this) fun _ => ?_⟩
    refine ⟨_, rfl, by show 2 ≤ sizeLine; decide, fun p2 hp2 => ?_⟩
    refine ⟨_, p2, _, _, _, _, rfl, upd_same, bs2, .base (.str z), kitBS (b := false) (c := true) (by decide +kernel) (by decide +kernel), _, rfl, iteT ?_⟩
    refine ⟨_, rfl, _, rfl, rfl, _, rfl, ite2 (fun _ => ?_) (fun z => absurd (decide_eq_true rfl) z)⟩
    refine ⟨_, rfl, _, _, _, _, false, rfl, .ty _, .base (.str z), kit_ty (by decide +kernel), _, rfl, _, _, _, _, false, rfl, .ty _, .base (.str z), kit_ty (by decide +kernel), rfl, _, rfl, ite2 (fun _ => ?_) (fun z => absurd (decide_eq_true rfl) z)⟩
    refine ⟨_, rfl, _, rfl, rfl, ?_⟩
    rw [decide_eq_true rfl]
    exact k _ (s1.trans (same_upd hp2))
theorem ok_same0 (D : Def K mg "_law_same" (topS 22) ["_law_got", "_law_goal"] f fd) (T : Tx K mg C) : FnOk P w K mg base CX0 1 f fd ["_law_got", "_law_goal"] (spSame 0) := by
  refine D.F.ok sc22 (fun vs H Q E h => ?_) (fun cdv A outer s H vs Q E hr h => ?_)
  · obtain ⟨x, y, rfl, _⟩ := h
    rfl
  · obtain ⟨x, y, rfl, hf, k⟩ := h
    exact flat_way D T cdv A outer s H x y Q E hf k
theorem ok_sameS {n : Nat} (D : Def K mg "_law_same" (topS 22) ["_law_got", "_law_goal"] f fd) (T : Tx K mg C) (G : FnOk P w K mg base CX0 (n + 1) f fd ["_law_got", "_law_goal"] (spSame n)) : FnOk P w K mg base CX0 (n + 2) f fd ["_law_got", "_law_goal"] (spSame (n + 1)) := by
  refine D.F.ok sc22 (fun vs H Q E h => ?_) (fun cdv A outer s H vs Q E hr h => ?_)
  · obtain ⟨x, y, rfl, _⟩ := h
    rfl
  · obtain ⟨x, y, rfl, hf | ⟨p, q, xs, ys, rfl, rfl, hpq, hl, hb, ha⟩, k⟩ := h
    · exact flat_way D T cdv A outer s H x y Q E hf k
    · have mi := T.nb "isinstance" (by decide +kernel)
      have hb' : xs.length ≤ 1000 := hb
      refine ⟨_, pss_cons (ps_if (pt_val (pe_callB call_isiT (by rfl) mi (by decide +kernel) (pa_cons (pv 1) (pa_cons (pe_tup (pa_cons (pe_bltn (v := .ty "list") (by rfl) (T.nb "list" (by decide +kernel)) (by decide +kernel) rfl) (pa_cons (pe_bltn (v := .ty "tuple") (by rfl) (T.nb "tuple" (by decide +kernel)) (by decide +kernel) rfl) pa_nil))) pa_nil))))
          (pss_cons (ps_if (PW.pt (pw_or (pt_cmpR op_ne (pe_callB call_isi (by rfl) mi (by decide +kernel) (pa_cons (pv 0) (pa_cons (pe_bltn (v := .ty "list") (by rfl) (T.nb "list" (by decide +kernel)) (by decide +kernel) rfl) pa_nil))) (pe_callB call_isi (by rfl) mi (by decide +kernel) (pa_cons (pv 1) (pa_cons (pe_bltn (v := .ty "list") (by rfl) (T.nb "list" (by decide +kernel)) (by decide +kernel) rfl) pa_nil))) (nomark _))
              (pw_or1 (pt_cmpR op_ne (pe_callB call_isi (by rfl) mi (by decide +kernel) (pa_cons (pv 0) (pa_cons (pe_bltn (v := .ty "tuple") (by rfl) (T.nb "tuple" (by decide +kernel)) (by decide +kernel) rfl) pa_nil))) (pe_callB call_isi (by rfl) mi (by decide +kernel) (pa_cons (pv 1) (pa_cons (pe_bltn (v := .ty "tuple") (by rfl) (T.nb "tuple" (by decide +kernel)) (by decide +kernel) rfl) pa_nil))) (nomark _)))))
              (pss_one (ps_ret pe_bl)) pss_nil)
            (pss_one (ps_ret (pe_and (pe_cmpR op_eq (pe_callB call_len_seq (by rfl) (T.nb "len" (by decide +kernel)) PySem.boot_len (pa_cons (pv 0) pa_nil)) (pe_callB call_len_seq (by rfl) (T.nb "len" (by decide +kernel)) PySem.boot_len (pa_cons (pv 1) pa_nil)) (nomark _))
              (pe_one (pe_callB (cr_all rfl) (by rfl) (T.nb "all" (by decide +kernel)) (by decide +kernel) (pa_cons
                (pe_lc (own := [("_law_mine_so", 2), ("_law_own", 3)]) (g := gTup K 2 (gCons (gName 2) (gCons (gName 3) gNil))) (tt := tYes) rfl sc22.nd (RZ.pi_zipA (by rfl) (T.nb "zip" (by decide +kernel)) (pa_cons (pv 0) (pa_cons (pv 1) pa_nil)))
                  (blkOk_by (N := ["_law_got", "_law_goal", "_law_mine_so", "_law_own"]) (sc := defScope (topS 22)) (by decide +kernel))
                  (fun _ _ _ _ _ => pg_tup (by rfl) (pgs_cons (pg_name (i := 2) sc22.nd rfl (Or.inl rfl)) (pgs_cons (pg_name (i := 3) sc22.nd rfl (Or.inl rfl)) pgs_nil))) (fun _ _ _ _ _ => pts_nil)
                  (fun _ _ _ _ _ => pe_call G hr (by rfl) D.g D.F.kp D.b .nil pass0 (pa_cons (pv 2) (pa_cons (pv 3) pa_nil)))) pa_nil))))))) pss_nil)
        pss_never, ?_⟩
      rcases hpq with ⟨hp, hq⟩ | ⟨hp, hq⟩
      · refine ⟨_, rfl, by show 2 ≤ sizeLine; decide, fun t ht => ?_⟩
        have s1 : Same H (upd H t (.tup [.ty "list", .ty "tuple"])) := same_upd ht
        refine ⟨_, t, _, _, _, true, rfl, upd_same, lt2, .base (.lst (s1 _ _ hq)), kitLst, _, rfl, iteT ?_⟩
        refine ⟨_, rfl, _, _, _, _, true, rfl, .ty _, .base (.lst (s1 _ _ hp)), kit_ty (by decide +kernel), _, rfl, _, _, _, _, true, rfl, .ty _, .base (.lst (s1 _ _ hq)), kit_ty (by decide +kernel), rfl, _, rfl, ite2 (fun z => by simp at z) (fun _ => ?_)⟩
        refine ⟨_, rfl, _, _, _, _, false, rfl, .ty _, .base (.lst (s1 _ _ hp)), kit_ty (by decide +kernel), _, rfl, _, _, _, _, false, rfl, .ty _, .base (.lst (s1 _ _ hq)), kit_ty (by decide +kernel), rfl, _, rfl, ite2 (fun z => by simp at z) (fun _ => ?_)⟩
        refine ⟨_, rfl, p, xs, rfl, .inl (SqL.of (s1 _ _ hp)), _, rfl, q, ys, rfl, .inl (SqL.of (s1 _ _ hq)), rfl, _, rfl, ite2 (fun _ => ?_) (fun z => absurd (decide_eq_true (by rw [hl])) z)⟩
        refine ⟨_, rfl, _, rfl, p, q, xs, ys, rfl, .inl ⟨SqL.of (s1 _ _ hp), SqL.of (s1 _ _ hq), fun E' hE => ?_⟩⟩
        have hE0 : H E' = none := s1.free hE
        refine lc_it (walk_zip (n := xs.length) (xs := xs) (ys := ys) (by omega)) (fun i H' => i ≤ xs.length ∧ Same H H' ∧ H' E' = some (.lst ((List.replicate i true).map V.bl))) ⟨Nat.zero_le _, s1.trans (same_upd hE), upd_same⟩ (fun i H' _ h => ⟨SqL.of (h.2.1 _ _ hp), SqL.of (h.2.1 _ _ hq)⟩) (fun i x H' _ hlt h yy => ?_) (fun H' h => ?_)
        · obtain ⟨hi, hs, hd⟩ := h
          obtain ⟨t', u, v, rfl, ht', rfl, hu, hv⟩ := yy
          have nE : E' ≠ t' := ne_of_none hd ht'
          refine ⟨t', _, rfl, SqT.of upd_same, rfl, _, _, rfl, _, _, rfl, rfl, rfl, _, rfl, _, rfl, u, v, rfl, (ha i u v hu hv).mono (hs.trans (same_upd ht')), fun H2 hs2 => ?_⟩
          refine ⟨_, hs2 _ _ (by rw [upd_ne nE]; exact hd), Nat.lt_of_le_of_lt (by rw [List.length_map, List.length_replicate]; exact hi) (small1000 hb'), hlt, same_over hE0 (hs.trans ((same_upd ht').trans hs2)), ?_⟩
          rw [upd_same, rep_snoc]
        · obtain ⟨hi, hs, hd⟩ := h
          refine ⟨E', _, rfl, SqL.of hd, ?_⟩
          rw [rep_all]
          exact k _ hs
      · refine ⟨_, rfl, by show 2 ≤ sizeLine; decide, fun t ht => ?_⟩
        have s1 : Same H (upd H t (.tup [.ty "list", .ty "tuple"])) := same_upd ht
        refine ⟨_, t, _, _, _, true, rfl, upd_same, lt2, .base (.tup (s1 _ _ hq)), kitInt (by decide +kernel) (by decide +kernel), _, rfl, iteT ?_⟩
        refine ⟨_, rfl, _, _, _, _, false, rfl, .ty _, .base (.tup (s1 _ _ hp)), kit_ty (by decide +kernel), _, rfl, _, _, _, _, false, rfl, .ty _, .base (.tup (s1 _ _ hq)), kit_ty (by decide +kernel), rfl, _, rfl, ite2 (fun z => by simp at z) (fun _ => ?_)⟩
        refine ⟨_, rfl, _, _, _, _, true, rfl, .ty _, .base (.tup (s1 _ _ hp)), kit_ty (by decide +kernel), _, rfl, _, _, _, _, true, rfl, .ty _, .base (.tup (s1 _ _ hq)), kit_ty (by decide +kernel), rfl, _, rfl, ite2 (fun z => by simp at z) (fun _ => ?_)⟩
        refine ⟨_, rfl, p, xs, rfl, .inr (SqT.of (s1 _ _ hp)), _, rfl, q, ys, rfl, .inr (SqT.of (s1 _ _ hq)), rfl, _, rfl, ite2 (fun _ => ?_) (fun z => absurd (decide_eq_true (by rw [hl])) z)⟩
        refine ⟨_, rfl, _, rfl, p, q, xs, ys, rfl, .inr ⟨SqT.of (s1 _ _ hp), SqT.of (s1 _ _ hq), fun E' hE => ?_⟩⟩
        have hE0 : H E' = none := s1.free hE
        refine lc_it (walk_zip_tuples (xs := xs) (ys := ys) hl) (fun i H' => i ≤ xs.length ∧ Same H H' ∧ H' E' = some (.lst ((List.replicate i true).map V.bl))) ⟨Nat.zero_le _, s1.trans (same_upd hE), upd_same⟩ (fun i H' _ h => ⟨SqT.of (h.2.1 _ _ hp), SqT.of (h.2.1 _ _ hq)⟩) (fun i x H' _ hlt h yy => ?_) (fun H' h => ?_)
        · obtain ⟨hi, hs, hd⟩ := h
          obtain ⟨t', u, v, rfl, ht', rfl, hu, hv⟩ := yy
          have nE : E' ≠ t' := ne_of_none hd ht'
          refine ⟨t', _, rfl, SqT.of upd_same, rfl, _, _, rfl, _, _, rfl, rfl, rfl, _, rfl, _, rfl, u, v, rfl, (ha i u v hu hv).mono (hs.trans (same_upd ht')), fun H2 hs2 => ?_⟩
          refine ⟨_, hs2 _ _ (by rw [upd_ne nE]; exact hd), Nat.lt_of_le_of_lt (by rw [List.length_map, List.length_replicate]; exact hi) (small1000 hb'), hlt, same_over hE0 (hs.trans ((same_upd ht').trans hs2)), ?_⟩
          rw [upd_same, rep_snoc]
        · obtain ⟨hi, hs, hd⟩ := h
          refine ⟨E', _, rfl, SqL.of hd, ?_⟩
          rw [rep_all]
          exact k _ hs
end
end KW
/-! The walk of _law_heard. -/
namespace KW
open PySem PySem.Spec PyProof.Rows L2
/-- isinstance(error, c) in a suite -/
def tIsE (K : PySem.W.Frag) (C a : Addr) (cls : Value) (d : Option Addr) (t : TA) : TE := fun σ H Q => (cls = .ref C ∧ d = none) ∧ tCB (rIsE K C a) t σ H Q
theorem pe_isE {X : Cx} {a C : Addr} {oe : Obj} {cls : Value} {d : Option Addr} {pn : List (Addr × Obj)} {p pos : Pos} {e : Expr} {es : List Expr} {t : TA} (c : ExcC X.K C) (hz : Zc cls d oe) (hf : ∃ vs, oe.data = .fields vs)
    (hg : Gl (X.suite a ((a, oe) :: pn)) "isinstance") (hm : X.mg "isinstance" = none) (ha : PA (X.suite a ((a, oe) :: pn)) (e :: es) t)
    (he : starEach (e :: es) X.env = (false, eval e X.env) :: starEach es X.env := by rfl)
    (hpl : (backTo pos (starEach es X.env)).any (·.1) = false := by rfl) : PE (X.suite a ((a, oe) :: pn)) (.Call (.Name "isinstance" p) (e :: es) [] pos) (tIsE X.K C a cls d t) := by
  refine ⟨fun pins s σ H Q I h => ?_⟩
  obtain ⟨⟨rfl, rfl⟩, h⟩ := h
  exact (pe_callB (X := X.suite a ((a, oe) :: pn)) (call_isE c hz hf) hg hm (by decide +kernel) ha (by decide) (by decide) he hpl).run pins s σ H Q I h
def heardO : HO := .lst [.str "unfit", .bl true]
def spHeard : Sp := fun vs H Q _ => ∃ x y a b c d, vs = [x, y] ∧ Pt H x a b ∧ Pt H y c d ∧ Bd a ∧ Bd b ∧ Bd c ∧ Bd d ∧ ¬ (a * d < c * b) ∧ Out H heardO Q
section
variable {P : Program} {w : World} {K : PySem.W.Frag} {mg : Str → Option Value} {base : Heap} {f C : Addr} {fd : FuncData}
theorem sc25 : FnScope ["_law_left", "_law_right_here", "_law_found", "_law_rang", "error"] ["_law_left", "_law_right_here"] (defScope (topS 25)) := ⟨rfl, rfl, rfl, by decide +kernel, rfl, by decide +kernel, by decide +kernel⟩
theorem ok_heard (D : Def K mg "_law_heard" (topS 25) ["_law_left", "_law_right_here"] f fd) (T : Tx K mg C) : FnOk P w K mg base CX0 4 f fd ["_law_left", "_law_right_here"] spHeard := by
  obtain ⟨fS, fdS, DS, _⟩ := T.simplest
  have GS : FnOk P w K mg base (L2.CX P w) 3 fS fdS ["low", "high"] (spSB C) := ok_simplest DS T
  refine D.F.ok sc25 (fun vs H Q E h => ?_) (fun cdv A outer s H vs Q E hr h => ?_)
  · obtain ⟨x, y, a, b, c, d, rfl, _⟩ := h
    rfl
  · obtain ⟨x, y, a, b, c, d, rfl, hx, hy, ba, bb, bc, bd, hno, k⟩ := h
    refine ⟨_, pss_cons (ps_asg (pe_tup (pa_cons pe_non (pa_cons pe_non pa_nil))) (pg_tup (by rfl) (pgs_cons (pg_name (i := 2) sc25.nd rfl (.inl rfl)) (pgs_cons (pg_name (i := 3) sc25.nd rfl (.inl rfl)) pgs_nil))))
      (pss_cons (ps_try_as (i := 4) (tb := fun W => tAsg (tCallS (spSB C) (WE W) (tCons (tVar 0) (tCons (tVar 1) tNil))) (gName 2)) (ts := fun a cls d => tAsg (tLst (tCons (tC (.str "unfit")) (tCons (tIsE K C a cls d (tCons (tVar 4) (tCons (tC (.ty "ValueError")) tNil))) tNil))) (gName 3)) (Wout := fun _ _ _ _ => False) rfl rfl sc25.nd rfl rfl ⟨rfl, by decide, Or.inl T.gC⟩ takes0
        (fun W pn xe tk _ => pss_one (ps_set (i := 2) sc25.nd rfl (Or.inl rfl) (by exact (pe_callS GS hr rfl DS.g DS.F.kp DS.b (fun σ => passAt tk σ) (by exact (pa_cons (pv 0) (pa_cons (pv 1) pa_nil)))))))
        (fun a oe cls d pn hz hf => pss_one (ps_set (i := 3) sc25.nd rfl (Or.inl rfl) (by exact (pe_lst (pa_cons pe_str (pa_cons (pe_isE T.xc hz hf rfl (T.nb "isinstance" (by decide +kernel)) (pa_cons (pv 4) (pa_cons (pe_bltn (v := .ty "ValueError") (by rfl) (T.nb "ValueError" (by decide +kernel)) (by decide +kernel) rfl) pa_nil))) pa_nil)))))))
      (pss_one (ps_ret (pe_ifExp (pt_cmp (pc_isN (pv 3))) (pv 2) (pv 3))))), ?_⟩
    refine ⟨by show 2 ≤ sizeLine; decide, fun p hp => ?_⟩
    have s1 : Same H (upd H p (.tup [.non, .non])) := same_upd hp
    refine ⟨p, _, rfl, SqT.of upd_same, rfl, _, _, rfl, _, _, rfl, rfl, ?_⟩
    refine ⟨_, rfl, _, rfl, x, y, a, b, c, d, rfl, hx.mono s1, hy.mono s1, .inr ⟨ba, bb, bc, bd, hno, true, T.eC, fun _ ea hea => ?_, fun z => nomatch z⟩⟩
    refine ⟨⟨rfl, rfl⟩, _, rfl, _, _, _, rfl, fun u hu => hu, T.vC, by show 2 ≤ sizeLine; decide, fun l hl => ?_⟩
    refine ⟨_, rfl, _, rfl, ite2 (fun z => by have := of_decide_eq_true z; cases this) (fun _ => ?_)⟩
    exact ⟨_, rfl, k.go s1 l hl⟩
end
end KW
/-! What displays and calls yield, piece by piece; the walk of _law_by_hand_right. (Printed by gen_hand.py.) -/
namespace KW
open PySem PySem.Spec PyProof.Rows L2
/-! ### numbers -/
def YI (t : TE) (σ : L2.St) (i : Int) : Prop := ∀ (H : Hp) (Q : VK), Q (.int i) H → t σ H Q
theorem YI.c {σ : L2.St} {i : Int} : YI (tC (.int i)) σ i := fun _ _ h => h
theorem YI.neg {σ : L2.St} {t : TE} {i : Int} (h : YI t σ i) : YI (tUn (rU fun i => .int (-i)) t) σ (-i) := fun H _ k => h H _ ⟨i, rfl, k⟩
theorem YI.sub {σ : L2.St} {t u : TE} {i j : Int} (h : YI t σ i) (g : YI u σ j) : YI (tOp (rI0 fun i j => .int (i - j)) t u) σ (i - j) := fun H _ k => h H _ (g H _ ⟨i, j, rfl, rfl, k⟩)
theorem YI.add {σ : L2.St} {t u : TE} {i j : Int} (h : YI t σ i) (g : YI u σ j) : YI (tOp (rI0 fun i j => .int (i + j)) t u) σ (i + j) := fun H _ k => h H _ (g H _ ⟨i, j, rfl, rfl, k⟩)
theorem YI.mul {σ : L2.St} {t u : TE} {i j : Int} (h : YI t σ i) (g : YI u σ j) (c : CMul i j) : YI (tOp (rI CMul fun i j => .int (i * j)) t u) σ (i * j) := fun H _ k => h H _ (g H _ ⟨i, j, rfl, rfl, c, k⟩)
theorem YI.pow {σ : L2.St} {t u : TE} {i j : Int} (h : YI t σ i) (g : YI u σ j) (c : CPow i j) : YI (tOp (rI CPow fun i j => .int (i ^ j.toNat)) t u) σ (i ^ j.toNat) := fun H _ k => h H _ (g H _ ⟨i, j, rfl, rfl, c, k⟩)
theorem YI.is {σ : L2.St} {t : TE} {i j : Int} (h : YI t σ i) (e : i = j) : YI t σ j := by subst e; exact h
/-! ### data -/
inductive Dt where
  | pr (a b : Int)
  | un
def Rep (H : Hp) (v : V) : Dt → Prop
  | .pr a b => ∃ p, v = .ref p ∧ H p = some (pairO a b)
  | .un => ∃ p, v = .ref p ∧ H p = some heardO
theorem Rep.mono {H H' : Hp} {v : V} {d : Dt} (s : Same H H') (h : Rep H v d) : Rep H' v d := by
  cases d with
  | pr a b => obtain ⟨p, e, h⟩ := h; exact ⟨p, e, s _ _ h⟩
  | un => obtain ⟨p, e, h⟩ := h; exact ⟨p, e, s _ _ h⟩
theorem Rep.pt {H : Hp} {v : V} {a b : Int} (h : Rep H v (.pr a b)) : Pt H v a b := by
  obtain ⟨p, e, h⟩ := h
  exact ⟨p, e, .inr h⟩
abbrev Reps (H : Hp) (xs : List V) (ds : List Dt) : Prop := Paired (Rep H) xs ds
theorem Reps.mono {H H' : Hp} (s : Same H H') : ∀ {xs : List V} {ds : List Dt}, Reps H xs ds → Reps H' xs ds
  | _, _, .nil => .nil
  | _, _, .cons r t => .cons (r.mono s) (Reps.mono s t)
theorem Reps.app {H : Hp} : ∀ {xs ys : List V} {ds es : List Dt}, Reps H xs ds → Reps H ys es → Reps H (xs ++ ys) (ds ++ es)
  | _, _, _, _, .nil, h => h
  | _, _, _, _, .cons r t, h => .cons r (Reps.app t h)
theorem Reps.at2 {H : Hp} : ∀ {xs ys : List V} {ds : List Dt}, Reps H xs ds → Reps H ys ds → ∀ (i : Nat) (u v : V), xs[i]? = some u → ys[i]? = some v → ∃ d, Rep H u d ∧ Rep H v d
  | _, _, _, .nil, .nil, i, _, _, h, _ => by simp at h
  | _, _, _, .cons r _, .cons s _, 0, _, _, h, g => ⟨_, Option.some.inj h ▸ r, Option.some.inj g ▸ s⟩
  | _, _, _, .cons _ t, .cons _ t', i + 1, u, v, h, g => Reps.at2 t t' i u v (by simpa using h) (by simpa using g)
theorem same_pair {H : Hp} {u v : V} {a b : Int} (h : Rep H u (.pr a b)) (g : Rep H v (.pr a b)) : SameV 1 H u v := by
  obtain ⟨p, rfl, hp⟩ := h
  obtain ⟨q, rfl, hq⟩ := g
  refine Or.inr ⟨p, q, _, _, rfl, rfl, .inr ⟨hp, hq⟩, rfl, (show 2 ≤ 1000 by decide), fun i u v hu hv => ?_⟩
  have e := hu.symm.trans hv
  cases e
  obtain ⟨_, j, rfl⟩ := pair_at hu
  exact flat_int j
theorem same_dt {H : Hp} {u v : V} {d : Dt} (h : Rep H u d) (g : Rep H v d) : SameV 1 H u v := by
  cases d with
  | pr a b => exact same_pair h g
  | un =>
    obtain ⟨p, rfl, hp⟩ := h
    obtain ⟨q, rfl, hq⟩ := g
    refine Or.inr ⟨p, q, _, _, rfl, rfl, .inl ⟨hp, hq⟩, rfl, by decide, fun i u v hu hv => ?_⟩
    match i, hu, hv with
    | 0, hu, hv => cases Option.some.inj hu; cases Option.some.inj hv; exact flat_str _
    | 1, hu, hv => cases Option.some.inj hu; cases Option.some.inj hv; exact flat_bl _
    | n + 2, hu, _ => simp at hu
theorem same_lists {H : Hp} {p q : Addr} {xs ys : List V} {ds : List Dt} (hp : H p = some (.lst xs)) (hq : H q = some (.lst ys)) (a : Reps H xs ds) (b : Reps H ys ds) (hl : ds.length ≤ 1000) : SameV 2 H (.ref p) (.ref q) := by
  have l1 := Paired.length a
  have l2 := Paired.length b
  refine Or.inr ⟨p, q, xs, ys, rfl, rfl, .inl ⟨hp, hq⟩, by omega, by omega, fun i u v hu hv => ?_⟩
  obtain ⟨d, r, s⟩ := Reps.at2 a b i u v hu hv
  exact same_dt r s
/-- a new list of these -/
def IsL (H0 : Hp) (ds : List Dt) (H : Hp) (v : V) : Prop := ∃ g xs, v = .ref g ∧ H0 g = none ∧ H g = some (.lst xs) ∧ Reps H xs ds
theorem IsL.mono {H0 H H' : Hp} {ds : List Dt} {v : V} (s : Same H H') (h : IsL H0 ds H v) : IsL H0 ds H' v := by
  obtain ⟨g, xs, e, n, h, r⟩ := h
  exact ⟨g, xs, e, n, s _ _ h, r.mono s⟩
/-! ### what an expression yields -/
def Y (Hb : Hp) (t : TE) (σ : L2.St) (R : Hp → V → Prop) : Prop := ∀ (H1 : Hp), Same Hb H1 → ∀ Q : VK, (∀ v H2, Same H1 H2 → R H2 v → Q v H2) → t σ H1 Q
def YA (Hb : Hp) (t : TA) (σ : L2.St) (ds : List Dt) : Prop := ∀ (H1 : Hp), Same Hb H1 → ∀ Q : List V → Hp → Prop, (∀ vs H2, Same H1 H2 → Reps H2 vs ds → Q vs H2) → t σ H1 Q
theorem Y.var {Hb : Hp} {σ : L2.St} {i : Nat} {v : V} {R : Hp → V → Prop} (e : σ[i]? = some (some v)) (h : ∀ H1, Same Hb H1 → R H1 v) : Y Hb (tVar i) σ R := fun H1 s _ k => ⟨v, e, k v H1 (Same.refl _) (h H1 s)⟩
theorem Y.tup {Hb : Hp} {σ : L2.St} {ta tb : TE} {a b : Int} (ha : YI ta σ a) (hb : YI tb σ b) : Y Hb (tTup (tCons ta (tCons tb tNil))) σ (fun H v => Pt H v a b) := fun H1 _ _ k =>
  ha H1 _ (hb H1 _ ⟨by show 2 ≤ sizeLine; decide, fun p hp => k _ _ (same_upd hp) (Pt.tup upd_same)⟩)
theorem Y.tupR {Hb : Hp} {σ : L2.St} {ta tb : TE} {a b : Int} (ha : YI ta σ a) (hb : YI tb σ b) : Y Hb (tTup (tCons ta (tCons tb tNil))) σ (fun H v => Rep H v (.pr a b)) := fun H1 _ _ k =>
  ha H1 _ (hb H1 _ ⟨by show 2 ≤ sizeLine; decide, fun p hp => k _ _ (same_upd hp) ⟨p, rfl, upd_same⟩⟩)
theorem Y.lst2 {Hb : Hp} {σ : L2.St} {ta tb : TE} {a b : Int} (ha : YI ta σ a) (hb : YI tb σ b) : Y Hb (tLst (tCons ta (tCons tb tNil))) σ (fun H v => Pt H v a b) := fun H1 _ _ k =>
  ha H1 _ (hb H1 _ ⟨by show 2 ≤ sizeLine; decide, fun p hp => k _ _ (same_upd hp) (Pt.lst upd_same)⟩)
theorem Y.un {Hb : Hp} {σ : L2.St} : Y Hb (tLst (tCons (tC (.str "unfit")) (tCons (tC (.bl true)) tNil))) σ (fun H v => Rep H v .un) := fun H1 _ _ k =>
  ⟨by show 2 ≤ sizeLine; decide, fun p hp => k _ _ (same_upd hp) ⟨p, rfl, upd_same⟩⟩
theorem Y.sb {C : Addr} {Hb : Hp} {σ : L2.St} {ta tb : TE} {a b c d p q : Int} (ha : Y Hb ta σ (fun H v => Pt H v a b)) (hb : Y Hb tb σ (fun H v => Pt H v c d)) (w : KM.W a b c d) (S : KM.Simp a b c d p q) :
    Y Hb (tCall (spSB C) [] E0 (tCons ta (tCons tb tNil))) σ (fun H v => Rep H v (.pr p q)) := fun H1 s _ k =>
  ha H1 s _ fun v1 H2 s2 h1 => hb H2 (s.trans s2) _ fun v2 H3 s3 h2 => ⟨v1, v2, a, b, c, d, rfl, h1.mono s3, h2, .inl ⟨w, p, q, S, fun H' r s' _ hr => k _ H' (s2.trans (s3.trans s')) ⟨r, rfl, hr⟩⟩⟩
theorem Y.sbK {C : Addr} {Hb : Hp} {σ : L2.St} {ta tb : TE} {a b c d p q : Int} (hb : Y Hb tb σ (fun H v => Pt H v c d)) (ha : Y Hb ta σ (fun H v => Pt H v a b)) (w : KM.W a b c d) (S : KM.Simp a b c d p q) :
    Y Hb (tCallK (spSB C) (fun vs zs => vs ++ zs.reverse) E0 tNil (tCons tb (tCons ta tNil))) σ (fun H v => Rep H v (.pr p q)) := fun H1 s _ k =>
  hb H1 s _ fun v2 H2 s2 h2 => ha H2 (s.trans s2) _ fun v1 H3 s3 h1 => ⟨v1, v2, a, b, c, d, rfl, h1, h2.mono s3, .inl ⟨w, p, q, S, fun H' r s' _ hr => k _ H' (s2.trans (s3.trans s')) ⟨r, rfl, hr⟩⟩⟩
theorem Y.heard {Hb : Hp} {σ : L2.St} {ta tb : TE} {a b c d : Int} (ha : Y Hb ta σ (fun H v => Pt H v a b)) (hb : Y Hb tb σ (fun H v => Pt H v c d)) (ba : Bd a) (bb : Bd b) (bc : Bd c) (bd : Bd d) (hno : ¬ (a * d < c * b)) :
    Y Hb (tCall spHeard [] E0 (tCons ta (tCons tb tNil))) σ (fun H v => Rep H v .un) := fun H1 s _ k =>
  ha H1 s _ fun v1 H2 s2 h1 => hb H2 (s.trans s2) _ fun v2 H3 s3 h2 => ⟨v1, v2, a, b, c, d, rfl, h1.mono s3, h2, ba, bb, bc, bd, hno, fun H' r s' _ hr => k _ H' (s2.trans (s3.trans s')) ⟨r, rfl, hr⟩⟩
theorem YA.nil {Hb : Hp} {σ : L2.St} : YA Hb tNil σ [] := fun H1 _ _ k => k [] H1 (Same.refl _) .nil
theorem YA.cons {Hb : Hp} {σ : L2.St} {t : TE} {ts : TA} {d : Dt} {ds : List Dt} (h : Y Hb t σ (fun H v => Rep H v d)) (hs : YA Hb ts σ ds) : YA Hb (tCons t ts) σ (d :: ds) := fun H1 s _ k =>
  h H1 s _ fun v H2 s2 r => hs H2 (s.trans s2) _ fun vs H3 s3 rs => k (v :: vs) H3 (s2.trans s3) (.cons (r.mono s3) rs)
theorem Y.lst {H0 Hb : Hp} {σ : L2.St} {t : TA} {ds : List Dt} (s0 : Same H0 Hb) (h : YA Hb t σ ds) (hl : ds.length ≤ 1000) : Y Hb (tLst t) σ (IsL H0 ds) := fun H1 s _ k =>
  h H1 s _ fun vs H2 s2 r => ⟨by rw [Paired.length r]; exact Nat.le_of_lt (small1000 hl), fun p hp => k _ _ (s2.trans (same_upd hp)) ⟨p, vs, rfl, (s0.trans (s.trans s2)).free hp, upd_same, r.mono (same_upd hp)⟩⟩
theorem Y.cat {H0 Hb : Hp} {σ : L2.St} {ta tb : TE} {ds es fs : List Dt} (s0 : Same H0 Hb) (ha : Y Hb ta σ (IsL H0 ds)) (hb : Y Hb tb σ (IsL H0 es)) (e : ds ++ es = fs) (hl : fs.length ≤ 1000) : Y Hb (tOp rCat ta tb) σ (IsL H0 fs) := fun H1 s _ k =>
  ha H1 s _ fun v1 H2 s2 h1 => hb H2 (s.trans s2) _ fun v2 H3 s3 h2 => by
    obtain ⟨g, xs, rfl, n, hg, r⟩ := h1.mono s3
    obtain ⟨g2, ys, rfl, n2, hg2, r2⟩ := h2
    subst e
    have l := Paired.length (r.app r2)
    rw [List.length_append] at l
    exact ⟨g, g2, xs, ys, rfl, rfl, hg, hg2, by rw [l]; exact Nat.le_of_lt (small1000 hl), fun p hp => k _ _ ((s2.trans s3).trans (same_upd hp)) ⟨p, _, rfl, (s0.trans (s.trans (s2.trans s3))).free hp, upd_same, (r.app r2).mono (same_upd hp)⟩⟩
theorem rep_flat (x : V) : ∀ n : Nat, (List.replicate n [x]).flatten = List.replicate n x
  | 0 => rfl
  | n + 1 => by rw [List.replicate_succ, List.flatten_cons, rep_flat x n, List.replicate_succ]; rfl
theorem Y.rep {H0 Hb : Hp} {σ : L2.St} {t : TE} {d : Dt} {n : Nat} (s0 : Same H0 Hb) (h : Y Hb t σ (IsL H0 [d])) (hn : n ≤ 1000) : Y Hb (tOp rRep t (tC (.int n))) σ (IsL H0 (List.replicate n d)) := fun H1 s _ k =>
  h H1 s _ fun v1 H2 s2 h1 => by
    obtain ⟨g, xs, rfl, n0, hg, r⟩ := h1
    cases r with
    | @cons x _ _ _ r1 r2 =>
      cases r2
      have e : (List.replicate n [x]).flatten = List.replicate n x := rep_flat x n
      have rr : ∀ m : Nat, ∀ H', Rep H' x d → Reps H' (List.replicate m x) (List.replicate m d) := by
        intro m H' q
        induction m with
        | zero => exact .nil
        | succ m ih => rw [List.replicate_succ, List.replicate_succ]; exact .cons q ih
      refine ⟨g, n, _, rfl, rfl, hg, by omega, by omega, ?_, fun p hp => ?_⟩
      · rw [Int.toNat_natCast]
        show 1 * n ≤ sizeLine
        rw [Nat.one_mul]
        exact Nat.le_of_lt (small1000 hn)
      · rw [Int.toNat_natCast, e]
        exact k _ _ (s2.trans (same_upd hp)) ⟨p, _, rfl, (s0.trans (s.trans s2)).free hp, upd_same, rr n _ (r1.mono (same_upd hp))⟩
theorem seq_asg {te : TE} {g : TG} {rest : TS} {D : Ends} {σ : L2.St} {H : Hp} (h : te σ H fun x H1 => g x σ H1 (rest D)) : tSeq (tAsg te g) rest D σ H := h
theorem ret_use {te : TE} {D : Ends} {σ : L2.St} {H : Hp} (h : te σ H D.rt) : tRet te D σ H := h
/-- _law_same(a, b) of two lists -/
theorem Y.same {H0 Hb : Hp} {σ : L2.St} {ta tb : TE} {ds : List Dt} {H : Hp} {Q : VK} (s : Same Hb H) (ha : Y Hb ta σ (IsL H0 ds)) (hb : Y Hb tb σ (IsL H0 ds)) (hl : ds.length ≤ 1000) (k : ∀ H', Same H H' → Q (.bl true) H') : tCall (spSame 2) [] E0 (tCons ta (tCons tb tNil)) σ H Q :=
  ha H s _ fun v1 H2 s2 h1 => hb H2 (s.trans s2) _ fun v2 H3 s3 h2 => by
    obtain ⟨g, xs, rfl, n, hg, r⟩ := h1.mono s3
    obtain ⟨g2, ys, rfl, n2, hg2, r2⟩ := h2
    exact ⟨_, _, rfl, same_lists hg hg2 r r2 hl, fun H' s' => k H' (s2.trans (s3.trans s'))⟩
/-! ### the written cases -/
theorem w0 : KM.W 1 3 2 5 := ⟨by decide, by decide, by decide, by decide +kernel, by decide +kernel, by decide, by decide, by decide, by decide⟩
theorem s0 : KM.Simp 1 3 2 5 3 8 := ⟨⟨by decide, by decide, by decide⟩, fun p' q' ⟨h0, h1, h2⟩ => by omega, fun p' ⟨h0, h1, h2⟩ => by omega⟩
theorem w1 : KM.W (-5) 2 (-1) 2 := ⟨by decide, by decide, by decide, by decide +kernel, by decide +kernel, by decide, by decide, by decide, by decide⟩
theorem s1 : KM.Simp (-5) 2 (-1) 2 (-1) 1 := ⟨⟨by decide, by decide, by decide⟩, fun p' q' ⟨h0, h1, h2⟩ => by omega, fun p' ⟨h0, h1, h2⟩ => by omega⟩
theorem w2 : KM.W 0 1 1 100 := ⟨by decide, by decide, by decide, by decide +kernel, by decide +kernel, by decide, by decide, by decide, by decide⟩
theorem s2 : KM.Simp 0 1 1 100 1 101 := ⟨⟨by decide, by decide, by decide⟩, fun p' q' ⟨h0, h1, h2⟩ => by omega, fun p' ⟨h0, h1, h2⟩ => by omega⟩
theorem w3 : KM.W (-1) 2 1 3 := ⟨by decide, by decide, by decide, by decide +kernel, by decide +kernel, by decide, by decide, by decide, by decide⟩
theorem s3 : KM.Simp (-1) 2 1 3 0 1 := ⟨⟨by decide, by decide, by decide⟩, fun p' q' ⟨h0, h1, h2⟩ => by omega, fun p' ⟨h0, h1, h2⟩ => by omega⟩
theorem w4 : KM.W 0 1 1 1 := ⟨by decide, by decide, by decide, by decide +kernel, by decide +kernel, by decide, by decide, by decide, by decide⟩
theorem s4 : KM.Simp 0 1 1 1 1 2 := ⟨⟨by decide, by decide, by decide⟩, fun p' q' ⟨h0, h1, h2⟩ => by omega, fun p' ⟨h0, h1, h2⟩ => by omega⟩
theorem w5 : KM.W 2 1 3 1 := ⟨by decide, by decide, by decide, by decide +kernel, by decide +kernel, by decide, by decide, by decide, by decide⟩
theorem s5 : KM.Simp 2 1 3 1 5 2 := ⟨⟨by decide, by decide, by decide⟩, fun p' q' ⟨h0, h1, h2⟩ => by omega, fun p' ⟨h0, h1, h2⟩ => by omega⟩
theorem w6 : KM.W (-5) 2 (-9) 4 := ⟨by decide, by decide, by decide, by decide +kernel, by decide +kernel, by decide, by decide, by decide, by decide⟩
theorem s6 : KM.Simp (-5) 2 (-9) 4 (-7) 3 := ⟨⟨by decide, by decide, by decide⟩, fun p' q' ⟨h0, h1, h2⟩ => by omega, fun p' ⟨h0, h1, h2⟩ => by omega⟩
theorem w7 : KM.W 5 2 100 1 := ⟨by decide, by decide, by decide, by decide +kernel, by decide +kernel, by decide, by decide, by decide, by decide⟩
theorem s7 : KM.Simp 5 2 100 1 3 1 := ⟨⟨by decide, by decide, by decide⟩, fun p' q' ⟨h0, h1, h2⟩ => by omega, fun p' ⟨h0, h1, h2⟩ => by omega⟩
theorem w8 : KM.W (-3) 1 (-5) 2 := ⟨by decide, by decide, by decide, by decide +kernel, by decide +kernel, by decide, by decide, by decide, by decide⟩
theorem s8 : KM.Simp (-3) 1 (-5) 2 (-8) 3 := ⟨⟨by decide, by decide, by decide⟩, fun p' q' ⟨h0, h1, h2⟩ => by omega, fun p' ⟨h0, h1, h2⟩ => by omega⟩
theorem w9 : KM.W 157 50 22 7 := ⟨by decide, by decide, by decide, by decide +kernel, by decide +kernel, by decide, by decide, by decide, by decide⟩
theorem s9 : KM.Simp 157 50 22 7 179 57 := ⟨⟨by decide, by decide, by decide⟩, fun p' q' ⟨h0, h1, h2⟩ => by omega, fun p' ⟨h0, h1, h2⟩ => by omega⟩
theorem w10 : KM.W 1 1000000000000000 1 999999999999999 := ⟨by decide, by decide, by decide, by decide +kernel, by decide +kernel, by decide, by decide, by decide, by decide⟩
theorem s10 : KM.Simp 1 1000000000000000 1 999999999999999 2 1999999999999999 := ⟨⟨by decide, by decide, by decide⟩, fun p' q' ⟨h0, h1, h2⟩ => by omega, fun p' ⟨h0, h1, h2⟩ => by omega⟩
theorem w11 : KM.W 1 4 1 2 := ⟨by decide, by decide, by decide, by decide +kernel, by decide +kernel, by decide, by decide, by decide, by decide⟩
theorem s11 : KM.Simp 1 4 1 2 1 3 := ⟨⟨by decide, by decide, by decide⟩, fun p' q' ⟨h0, h1, h2⟩ => by omega, fun p' ⟨h0, h1, h2⟩ => by omega⟩
theorem w12 : KM.W (-1) 1000000000000000 0 1 := ⟨by decide, by decide, by decide, by decide +kernel, by decide +kernel, by decide, by decide, by decide, by decide⟩
theorem s12 : KM.Simp (-1) 1000000000000000 0 1 (-1) 1000000000000001 := ⟨⟨by decide, by decide, by decide⟩, fun p' q' ⟨h0, h1, h2⟩ => by omega, fun p' ⟨h0, h1, h2⟩ => by omega⟩
theorem e15 : (10 : Int) ^ (15 : Int).toNat = 1000000000000000 := by decide +kernel
theorem c15 : CPow 10 15 := ⟨by decide, by decide, by decide⟩
section
variable {P : Program} {w : World} {K : PySem.W.Frag} {mg : Str → Option Value} {base : Heap} {f C : Addr} {fd : FuncData}
def spHand : Sp := fun vs H Q _ => vs = [] ∧ ∀ H', Same H H' → Q (.bl true) H'
theorem sc26 : FnScope ["_law_got", "_law_due"] [] (defScope (topS 26)) := ⟨rfl, rfl, rfl, by decide +kernel, rfl, by decide +kernel, by decide +kernel⟩
theorem ok_hand (D : Def K mg "_law_by_hand_right" (topS 26) [] f fd) (T : Tx K mg C) : FnOk P w K mg base CX0 5 f fd [] spHand := by
  obtain ⟨fS, fdS, DS, kS⟩ := T.simplest
  obtain ⟨fH, fdH, DH⟩ := T.heard
  obtain ⟨fE, fdE, DE⟩ := T.same
  have GS : FnOk P w K mg base (L2.CX P w) 3 fS fdS ["low", "high"] (spSB C) := ok_simplest DS T
  have GH : FnOk P w K mg base CX0 4 fH fdH ["_law_left", "_law_right_here"] spHeard := ok_heard DH T
  have GE : FnOk P w K mg base CX0 3 fE fdE ["_law_got", "_law_goal"] (spSame 2) := ok_sameS DE T (ok_sameS DE T (ok_same0 DE T))
  refine D.F.ok sc26 (fun vs H Q E h => ?_) (fun cdv A outer s H vs Q E hr h => ?_)
  · obtain ⟨rfl, _⟩ := h
    rfl
  · obtain ⟨rfl, k⟩ := h
    have hr3 : Room 3 _ := hr.mono (by decide)
    refine ⟨_, (pss_cons (ps_set (i := 0) sc26.nd rfl (.inl rfl) (pe_lst (pa_cons (pe_call GS hr3 (by rfl) DS.g DS.F.kp DS.b .nil passL (pa_cons (pe_tup (pa_cons pe_int (pa_cons pe_int pa_nil))) (pa_cons (pe_tup (pa_cons pe_int (pa_cons pe_int pa_nil))) pa_nil))) (pa_cons (pe_call GS hr3 (by rfl) DS.g DS.F.kp DS.b .nil passL (pa_cons (pe_tup (pa_cons (pe_un un_neg pe_int) (pa_cons pe_int pa_nil))) (pa_cons (pe_tup (pa_cons (pe_un un_neg pe_int) (pa_cons pe_int pa_nil))) pa_nil))) (pa_cons (pe_call GS hr3 (by rfl) DS.g DS.F.kp DS.b .nil passL (pa_cons (pe_tup (pa_cons pe_int (pa_cons pe_int pa_nil))) (pa_cons (pe_tup (pa_cons pe_int (pa_cons pe_int pa_nil))) pa_nil))) pa_nil)))))
      (pss_cons (ps_set (i := 1) sc26.nd rfl (.inl rfl) (pe_lst (pa_cons (pe_tup (pa_cons pe_int (pa_cons pe_int pa_nil))) (pa_cons (pe_tup (pa_cons (pe_un un_neg pe_int) (pa_cons pe_int pa_nil))) (pa_cons (pe_tup (pa_cons pe_int (pa_cons pe_int pa_nil))) pa_nil)))))
      (pss_cons (ps_set (i := 0) sc26.nd rfl (.inl rfl) (pe_op op_cat (pv 0) (pe_lst (pa_cons (pe_call GS hr3 (by rfl) DS.g DS.F.kp DS.b .nil passL (pa_cons (pe_tup (pa_cons (pe_un un_neg pe_int) (pa_cons pe_int pa_nil))) (pa_cons (pe_tup (pa_cons pe_int (pa_cons pe_int pa_nil))) pa_nil))) (pa_cons (pe_call GS hr3 (by rfl) DS.g DS.F.kp DS.b .nil passL (pa_cons (pe_tup (pa_cons pe_int (pa_cons pe_int pa_nil))) (pa_cons (pe_tup (pa_cons pe_int (pa_cons pe_int pa_nil))) pa_nil))) (pa_cons (pe_call GS hr3 (by rfl) DS.g DS.F.kp DS.b .nil passL (pa_cons (pe_tup (pa_cons pe_int (pa_cons pe_int pa_nil))) (pa_cons (pe_tup (pa_cons pe_int (pa_cons pe_int pa_nil))) pa_nil))) pa_nil))))))
      (pss_cons (ps_set (i := 1) sc26.nd rfl (.inl rfl) (pe_op op_cat (pv 1) (pe_lst (pa_cons (pe_tup (pa_cons pe_int (pa_cons pe_int pa_nil))) (pa_cons (pe_tup (pa_cons pe_int (pa_cons pe_int pa_nil))) (pa_cons (pe_tup (pa_cons pe_int (pa_cons pe_int pa_nil))) pa_nil))))))
      (pss_cons (ps_set (i := 0) sc26.nd rfl (.inl rfl) (pe_op op_cat (pv 0) (pe_lst (pa_cons (pe_call GS hr3 (by rfl) DS.g DS.F.kp DS.b .nil passL (pa_cons (pe_tup (pa_cons (pe_un un_neg pe_int) (pa_cons pe_int pa_nil))) (pa_cons (pe_tup (pa_cons (pe_un un_neg pe_int) (pa_cons pe_int pa_nil))) pa_nil))) (pa_cons (pe_call GS hr3 (by rfl) DS.g DS.F.kp DS.b .nil passL (pa_cons (pe_tup (pa_cons pe_int (pa_cons pe_int pa_nil))) (pa_cons (pe_tup (pa_cons pe_int (pa_cons pe_int pa_nil))) pa_nil))) (pa_cons (pe_call GS hr3 (by rfl) DS.g DS.F.kp DS.b .nil passL (pa_cons (pe_tup (pa_cons (pe_un un_neg pe_int) (pa_cons pe_int pa_nil))) (pa_cons (pe_tup (pa_cons (pe_un un_neg pe_int) (pa_cons pe_int pa_nil))) pa_nil))) pa_nil))))))
      (pss_cons (ps_set (i := 1) sc26.nd rfl (.inl rfl) (pe_op op_cat (pv 1) (pe_lst (pa_cons (pe_tup (pa_cons (pe_un un_neg pe_int) (pa_cons pe_int pa_nil))) (pa_cons (pe_tup (pa_cons pe_int (pa_cons pe_int pa_nil))) (pa_cons (pe_tup (pa_cons (pe_un un_neg pe_int) (pa_cons pe_int pa_nil))) pa_nil))))))
      (pss_cons (ps_set (i := 0) sc26.nd rfl (.inl rfl) (pe_op op_cat (pv 0) (pe_lst (pa_cons (pe_call GS hr3 (by rfl) DS.g DS.F.kp DS.b .nil passL (pa_cons (pe_tup (pa_cons pe_int (pa_cons pe_int pa_nil))) (pa_cons (pe_tup (pa_cons pe_int (pa_cons pe_int pa_nil))) pa_nil))) (pa_cons (pe_call GS hr3 (by rfl) DS.g DS.F.kp DS.b .nil passL (pa_cons (pe_tup (pa_cons pe_int (pa_cons (pe_op op_pow pe_int pe_int) pa_nil))) (pa_cons (pe_tup (pa_cons pe_int (pa_cons (pe_op op_sub (pe_op op_pow pe_int pe_int) pe_int) pa_nil))) pa_nil))) pa_nil)))))
      (pss_cons (ps_set (i := 1) sc26.nd rfl (.inl rfl) (pe_op op_cat (pv 1) (pe_lst (pa_cons (pe_tup (pa_cons pe_int (pa_cons pe_int pa_nil))) (pa_cons (pe_tup (pa_cons pe_int (pa_cons (pe_op op_sub (pe_op op_mul pe_int (pe_op op_pow pe_int pe_int)) pe_int) pa_nil))) pa_nil)))))
      (pss_cons (ps_set (i := 0) sc26.nd rfl (.inl rfl) (pe_op op_cat (pv 0) (pe_lst (pa_cons (pe_callK0 GS hr3 (by rfl) DS.g DS.F.kp kS passL (pk_cons (pe_lst (pa_cons pe_int (pa_cons pe_int pa_nil))) (pk_cons (pe_lst (pa_cons pe_int (pa_cons pe_int pa_nil))) pk_nil))) (pa_cons (pe_call GS hr3 (by rfl) DS.g DS.F.kp DS.b .nil passL (pa_cons (pe_lst (pa_cons (pe_un un_neg pe_int) (pa_cons (pe_op op_pow pe_int pe_int) pa_nil))) (pa_cons (pe_lst (pa_cons pe_int (pa_cons pe_int pa_nil))) pa_nil))) pa_nil)))))
      (pss_cons (ps_set (i := 1) sc26.nd rfl (.inl rfl) (pe_op op_cat (pv 1) (pe_lst (pa_cons (pe_tup (pa_cons pe_int (pa_cons pe_int pa_nil))) (pa_cons (pe_tup (pa_cons (pe_un un_neg pe_int) (pa_cons (pe_op op_add (pe_op op_pow pe_int pe_int) pe_int) pa_nil))) pa_nil)))))
      (pss_cons (ps_set (i := 0) sc26.nd rfl (.inl rfl) (pe_op op_cat (pv 0) (pe_lst (pa_cons (pe_call GH hr (by rfl) DH.g DH.F.kp DH.b .nil pass0 (pa_cons (pe_tup (pa_cons pe_int (pa_cons pe_int pa_nil))) (pa_cons (pe_tup (pa_cons pe_int (pa_cons pe_int pa_nil))) pa_nil))) (pa_cons (pe_call GH hr (by rfl) DH.g DH.F.kp DH.b .nil pass0 (pa_cons (pe_tup (pa_cons pe_int (pa_cons pe_int pa_nil))) (pa_cons (pe_tup (pa_cons pe_int (pa_cons pe_int pa_nil))) pa_nil))) (pa_cons (pe_call GH hr (by rfl) DH.g DH.F.kp DH.b .nil pass0 (pa_cons (pe_lst (pa_cons pe_int (pa_cons pe_int pa_nil))) (pa_cons (pe_lst (pa_cons (pe_un un_neg pe_int) (pa_cons pe_int pa_nil))) pa_nil))) pa_nil))))))
      (pss_one (ps_ret (pe_call GE hr3 (by rfl) DE.g DE.F.kp DE.b .nil pass0 (pa_cons (pv 0) (pa_cons (pe_op op_cat (pv 1) (pe_op op_rep (pe_lst (pa_cons (pe_lst (pa_cons pe_str (pa_cons pe_bl pa_nil))) pa_nil)) pe_int)) pa_nil)))))))))))))))), ?_⟩
    refine seq_asg ((Y.lst (H0 := H) (Same.refl H) (ds := [.pr 3 8, .pr (-1) 1, .pr 1 101]) (YA.cons (Y.sb (C := C) (Y.tup YI.c YI.c) (Y.tup YI.c YI.c) w0 s0) (YA.cons (Y.sb (C := C) (Y.tup (YI.neg YI.c) YI.c) (Y.tup (YI.neg YI.c) YI.c) w1 s1) (YA.cons (Y.sb (C := C) (Y.tup YI.c YI.c) (Y.tup YI.c YI.c) w2 s2) YA.nil))) (by decide)) H (Same.refl _) _ fun v1 H1 b1 got => ?_)
    have a1 : Same H H1 := b1
    refine seq_asg ((Y.lst (H0 := H) a1 (ds := [.pr 3 8, .pr (-1) 1, .pr 1 101]) (YA.cons (Y.tupR YI.c YI.c) (YA.cons (Y.tupR (YI.neg YI.c) YI.c) (YA.cons (Y.tupR YI.c YI.c) YA.nil))) (by decide)) H1 (Same.refl _) _ fun v2 H2 b2 due => ?_)
    have a2 : Same H H2 := a1.trans b2
    replace got := got.mono b2
    refine seq_asg ((Y.cat (H0 := H) a2 (Y.var rfl (fun _ q => got.mono q)) (Y.lst a2 (ds := [.pr 0 1, .pr 1 2, .pr 5 2]) (YA.cons (Y.sb (C := C) (Y.tup (YI.neg YI.c) YI.c) (Y.tup YI.c YI.c) w3 s3) (YA.cons (Y.sb (C := C) (Y.tup YI.c YI.c) (Y.tup YI.c YI.c) w4 s4) (YA.cons (Y.sb (C := C) (Y.tup YI.c YI.c) (Y.tup YI.c YI.c) w5 s5) YA.nil))) (by decide)) (fs := [.pr 3 8, .pr (-1) 1, .pr 1 101, .pr 0 1, .pr 1 2, .pr 5 2]) rfl (by decide)) H2 (Same.refl _) _ fun v3 H3 b3 got => ?_)
    have a3 : Same H H3 := a2.trans b3
    replace due := due.mono b3
    refine seq_asg ((Y.cat (H0 := H) a3 (Y.var rfl (fun _ q => due.mono q)) (Y.lst a3 (ds := [.pr 0 1, .pr 1 2, .pr 5 2]) (YA.cons (Y.tupR YI.c YI.c) (YA.cons (Y.tupR YI.c YI.c) (YA.cons (Y.tupR YI.c YI.c) YA.nil))) (by decide)) (fs := [.pr 3 8, .pr (-1) 1, .pr 1 101, .pr 0 1, .pr 1 2, .pr 5 2]) rfl (by decide)) H3 (Same.refl _) _ fun v4 H4 b4 due => ?_)
    have a4 : Same H H4 := a3.trans b4
    replace got := got.mono b4
    refine seq_asg ((Y.cat (H0 := H) a4 (Y.var rfl (fun _ q => got.mono q)) (Y.lst a4 (ds := [.pr (-7) 3, .pr 3 1, .pr (-8) 3]) (YA.cons (Y.sb (C := C) (Y.tup (YI.neg YI.c) YI.c) (Y.tup (YI.neg YI.c) YI.c) w6 s6) (YA.cons (Y.sb (C := C) (Y.tup YI.c YI.c) (Y.tup YI.c YI.c) w7 s7) (YA.cons (Y.sb (C := C) (Y.tup (YI.neg YI.c) YI.c) (Y.tup (YI.neg YI.c) YI.c) w8 s8) YA.nil))) (by decide)) (fs := [.pr 3 8, .pr (-1) 1, .pr 1 101, .pr 0 1, .pr 1 2, .pr 5 2, .pr (-7) 3, .pr 3 1, .pr (-8) 3]) rfl (by decide)) H4 (Same.refl _) _ fun v5 H5 b5 got => ?_)
    have a5 : Same H H5 := a4.trans b5
    replace due := due.mono b5
    refine seq_asg ((Y.cat (H0 := H) a5 (Y.var rfl (fun _ q => due.mono q)) (Y.lst a5 (ds := [.pr (-7) 3, .pr 3 1, .pr (-8) 3]) (YA.cons (Y.tupR (YI.neg YI.c) YI.c) (YA.cons (Y.tupR YI.c YI.c) (YA.cons (Y.tupR (YI.neg YI.c) YI.c) YA.nil))) (by decide)) (fs := [.pr 3 8, .pr (-1) 1, .pr 1 101, .pr 0 1, .pr 1 2, .pr 5 2, .pr (-7) 3, .pr 3 1, .pr (-8) 3]) rfl (by decide)) H5 (Same.refl _) _ fun v6 H6 b6 due => ?_)
    have a6 : Same H H6 := a5.trans b6
    replace got := got.mono b6
    refine seq_asg ((Y.cat (H0 := H) a6 (Y.var rfl (fun _ q => got.mono q)) (Y.lst a6 (ds := [.pr 179 57, .pr 2 1999999999999999]) (YA.cons (Y.sb (C := C) (Y.tup YI.c YI.c) (Y.tup YI.c YI.c) w9 s9) (YA.cons (Y.sb (C := C) (Y.tup YI.c ((YI.pow YI.c YI.c c15).is e15)) (Y.tup YI.c (YI.sub ((YI.pow YI.c YI.c c15).is e15) YI.c)) w10 s10) YA.nil)) (by decide)) (fs := [.pr 3 8, .pr (-1) 1, .pr 1 101, .pr 0 1, .pr 1 2, .pr 5 2, .pr (-7) 3, .pr 3 1, .pr (-8) 3, .pr 179 57, .pr 2 1999999999999999]) rfl (by decide)) H6 (Same.refl _) _ fun v7 H7 b7 got => ?_)
    have a7 : Same H H7 := a6.trans b7
    replace due := due.mono b7
    refine seq_asg ((Y.cat (H0 := H) a7 (Y.var rfl (fun _ q => due.mono q)) (Y.lst a7 (ds := [.pr 179 57, .pr 2 1999999999999999]) (YA.cons (Y.tupR YI.c YI.c) (YA.cons (Y.tupR YI.c (YI.sub (YI.mul YI.c ((YI.pow YI.c YI.c c15).is e15) (mulL (by decide) (by decide))) YI.c)) YA.nil)) (by decide)) (fs := [.pr 3 8, .pr (-1) 1, .pr 1 101, .pr 0 1, .pr 1 2, .pr 5 2, .pr (-7) 3, .pr 3 1, .pr (-8) 3, .pr 179 57, .pr 2 1999999999999999]) rfl (by decide)) H7 (Same.refl _) _ fun v8 H8 b8 due => ?_)
    have a8 : Same H H8 := a7.trans b8
    replace got := got.mono b8
    refine seq_asg ((Y.cat (H0 := H) a8 (Y.var rfl (fun _ q => got.mono q)) (Y.lst a8 (ds := [.pr 1 3, .pr (-1) 1000000000000001]) (YA.cons (Y.sbK (C := C) (Y.lst2 YI.c YI.c) (Y.lst2 YI.c YI.c) w11 s11) (YA.cons (Y.sb (C := C) (Y.lst2 (YI.neg YI.c) ((YI.pow YI.c YI.c c15).is e15)) (Y.lst2 YI.c YI.c) w12 s12) YA.nil)) (by decide)) (fs := [.pr 3 8, .pr (-1) 1, .pr 1 101, .pr 0 1, .pr 1 2, .pr 5 2, .pr (-7) 3, .pr 3 1, .pr (-8) 3, .pr 179 57, .pr 2 1999999999999999, .pr 1 3, .pr (-1) 1000000000000001]) rfl (by decide)) H8 (Same.refl _) _ fun v9 H9 b9 got => ?_)
    have a9 : Same H H9 := a8.trans b9
    replace due := due.mono b9
    refine seq_asg ((Y.cat (H0 := H) a9 (Y.var rfl (fun _ q => due.mono q)) (Y.lst a9 (ds := [.pr 1 3, .pr (-1) 1000000000000001]) (YA.cons (Y.tupR YI.c YI.c) (YA.cons (Y.tupR (YI.neg YI.c) (YI.add ((YI.pow YI.c YI.c c15).is e15) YI.c)) YA.nil)) (by decide)) (fs := [.pr 3 8, .pr (-1) 1, .pr 1 101, .pr 0 1, .pr 1 2, .pr 5 2, .pr (-7) 3, .pr 3 1, .pr (-8) 3, .pr 179 57, .pr 2 1999999999999999, .pr 1 3, .pr (-1) 1000000000000001]) rfl (by decide)) H9 (Same.refl _) _ fun v10 H10 b10 due => ?_)
    have a10 : Same H H10 := a9.trans b10
    replace got := got.mono b10
    refine seq_asg ((Y.cat (H0 := H) a10 (Y.var rfl (fun _ q => got.mono q)) (Y.lst a10 (ds := [.un, .un, .un]) (YA.cons (Y.heard (Y.tup YI.c YI.c) (Y.tup YI.c YI.c) (.of (by decide +kernel)) (.of (by decide +kernel)) (.of (by decide +kernel)) (.of (by decide +kernel)) (by decide)) (YA.cons (Y.heard (Y.tup YI.c YI.c) (Y.tup YI.c YI.c) (.of (by decide +kernel)) (.of (by decide +kernel)) (.of (by decide +kernel)) (.of (by decide +kernel)) (by decide)) (YA.cons (Y.heard (Y.lst2 YI.c YI.c) (Y.lst2 (YI.neg YI.c) YI.c) (.of (by decide +kernel)) (.of (by decide +kernel)) (.of (by decide +kernel)) (.of (by decide +kernel)) (by decide)) YA.nil))) (by decide)) (fs := [.pr 3 8, .pr (-1) 1, .pr 1 101, .pr 0 1, .pr 1 2, .pr 5 2, .pr (-7) 3, .pr 3 1, .pr (-8) 3, .pr 179 57, .pr 2 1999999999999999, .pr 1 3, .pr (-1) 1000000000000001, .un, .un, .un]) rfl (by decide)) H10 (Same.refl _) _ fun v11 H11 b11 got => ?_)
    have a11 : Same H H11 := a10.trans b11
    replace due := due.mono b11
    refine ret_use (Y.same (H0 := H) (Hb := H11) (Same.refl _) (Y.var rfl (fun _ q => got.mono q)) (Y.cat (H0 := H) a11 (Y.var rfl (fun _ q => due.mono q)) (Y.rep (n := 3) a11 (Y.lst a11 (ds := [.un]) (YA.cons Y.un YA.nil) (by decide)) (by decide)) rfl (by decide)) (by decide) (fun H' q => k _ (a11.trans q)))
end
end KW
/-! The walk of _law_case_right. -/
namespace KW
open PySem PySem.Spec PyProof.Rows L2
/-! ### more of what expressions yield -/
def Yi (Hb : Hp) (t : TE) (σ : L2.St) (i : Int) : Prop := ∀ (H1 : Hp), Same Hb H1 → ∀ Q : VK, Q (.int i) H1 → t σ H1 Q
theorem Yi.c {Hb : Hp} {σ : L2.St} {i : Int} : Yi Hb (tC (.int i)) σ i := fun _ _ _ h => h
theorem Yi.sub {Hb : Hp} {σ : L2.St} {t u : TE} {i j : Int} (h : Yi Hb t σ i) (g : Yi Hb u σ j) : Yi Hb (tOp (rI0 fun i j => .int (i - j)) t u) σ (i - j) := fun H s _ k => h H s _ (g H s _ ⟨i, j, rfl, rfl, k⟩)
theorem Yi.ix0 {K : PySem.W.Frag} {Hb : Hp} {σ : L2.St} {n : Nat} {v : V} {a b : Int} (e : σ[n]? = some (some v)) (h : Rep Hb v (.pr a b)) : Yi Hb (tOp (rIxP K) (tVar n) (tC (.int 0))) σ a := fun _ s _ k => ⟨v, e, a, b, (h.mono s).pt.pr, .inl ⟨rfl, k⟩⟩
theorem Yi.ix1 {K : PySem.W.Frag} {Hb : Hp} {σ : L2.St} {n : Nat} {v : V} {a b : Int} (e : σ[n]? = some (some v)) (h : Rep Hb v (.pr a b)) : Yi Hb (tOp (rIxP K) (tVar n) (tC (.int 1))) σ b := fun _ s _ k => ⟨v, e, a, b, (h.mono s).pt.pr, .inr ⟨rfl, k⟩⟩
theorem Y.tupi {Hb : Hp} {σ : L2.St} {ta tb : TE} {a b : Int} (ha : Yi Hb ta σ a) (hb : Yi Hb tb σ b) : Y Hb (tTup (tCons ta (tCons tb tNil))) σ (fun H v => Pt H v a b) := fun H1 s _ k =>
  ha H1 s _ (hb H1 s _ ⟨by show 2 ≤ sizeLine; decide, fun p hp => k _ _ (same_upd hp) (Pt.tup upd_same)⟩)
theorem Y.tupiR {Hb : Hp} {σ : L2.St} {ta tb : TE} {a b : Int} (ha : Yi Hb ta σ a) (hb : Yi Hb tb σ b) : Y Hb (tTup (tCons ta (tCons tb tNil))) σ (fun H v => Rep H v (.pr a b)) := fun H1 s _ k =>
  ha H1 s _ (hb H1 s _ ⟨by show 2 ≤ sizeLine; decide, fun p hp => k _ _ (same_upd hp) ⟨p, rfl, upd_same⟩⟩)
theorem Y.pt {Hb : Hp} {σ : L2.St} {n : Nat} {v : V} {a b : Int} (e : σ[n]? = some (some v)) (h : Rep Hb v (.pr a b)) : Y Hb (tVar n) σ (fun H v => Pt H v a b) := Y.var e fun _ s => (h.mono s).pt
theorem Y.rp {Hb : Hp} {σ : L2.St} {n : Nat} {v : V} {d : Dt} (e : σ[n]? = some (some v)) (h : Rep Hb v d) : Y Hb (tVar n) σ (fun H v => Rep H v d) := Y.var e fun _ s => h.mono s
theorem Y.lof {K : PySem.W.Frag} {Hb : Hp} {σ : L2.St} {n : Nat} {v : V} {a b : Int} (e : σ[n]? = some (some v)) (h : Rep Hb v (.pr a b)) :
    Y Hb (tCB (fun xs H Q => ∃ p ys, xs = [.ref p] ∧ (SqL K H p ys ∨ SqT K H p ys) ∧ ∀ l, H l = none → Q (.ref l) (upd H l (.lst ys))) (tCons (tVar n) tNil)) σ (fun H v => Pt H v a b) := fun H1 s _ k => by
  obtain ⟨p, rfl, hp⟩ := h
  exact ⟨_, e, p, _, rfl, .inr (SqT.of (s _ _ hp)), fun l hl => k _ _ (same_upd hl) (Pt.lst upd_same)⟩
theorem cons_use {t : TE} {ts : TA} {σ : L2.St} {H : Hp} {Q : List V → Hp → Prop} (h : t σ H fun x H1 => ts σ H1 fun xs H2 => Q (x :: xs) H2) : tCons t ts σ H Q := h
theorem seq_par {ta : TA} {i j : Nat} {rest : TS} {D : Ends} {σ : L2.St} {H : Hp} (h : ta σ H fun vs H1 => ∃ v w, vs = [v, w] ∧ rest D ((σ.set i (some v)).set j (some w)) H1) : tSeq (tPar i j ta) rest D σ H := h
theorem seq_ifnot {t : TE} {a : TS} {rest : TS} {D : Ends} {σ : L2.St} {H : Hp} (h : t σ H fun x H1 => ∃ c, x = .bl c ∧ if (!c) = true then a { D with nx := rest D } σ H1 else rest D σ H1) : tSeq (tIfS (tNot (tB t)) a tNext) rest D σ H := h
theorem Rep.upd {H : Hp} {v : V} {a b : Int} {g : Addr} {xs ys : List V} (hg : H g = some (.lst xs)) (h : Rep H v (.pr a b)) : Rep (upd H g (.lst ys)) v (.pr a b) := by
  obtain ⟨p, e, h⟩ := h
  exact ⟨p, e, by rw [upd_ne (ne_of h hg (by intro z; cases z))]; exact h⟩
theorem bdw {a b c d : Int} (w : KM.W a b c d) : Bd a ∧ Bd b ∧ Bd c ∧ Bd d := by
  have := w.aB; have := w.bB; have := w.cB; have := w.dB; have := w.b0; have := w.d0
  exact ⟨.of (by omega), .of (by omega), .of (by omega), .of (by omega)⟩
def spCase : Sp := fun vs H Q _ => ∃ x y a b c d, vs = [x, y] ∧ Rep H x (.pr a b) ∧ Rep H y (.pr c d) ∧ KM.Case a b c d ∧ ∀ H', Same H H' → Q (.bl true) H'
section
variable {P : Program} {w : World} {K : PySem.W.Frag} {mg : Str → Option Value} {base : Heap} {f C : Addr} {fd : FuncData}
theorem sc29 : FnScope ["_law_left", "_law_right_here", "_law_due", "_law_got", "_law_lower", "_law_upper"] ["_law_left", "_law_right_here"] (defScope (topS 29)) := ⟨rfl, rfl, rfl, by decide +kernel, rfl, by decide +kernel, by decide +kernel⟩
theorem ok_case (D : Def K mg "_law_case_right" (topS 29) ["_law_left", "_law_right_here"] f fd) (T : Tx K mg C) : FnOk P w K mg base CX0 4 f fd ["_law_left", "_law_right_here"] spCase := by
  obtain ⟨fS, fdS, DS, kS⟩ := T.simplest
  obtain ⟨fL, fdL, DL⟩ := T.least
  obtain ⟨fI, fdI, DI⟩ := T.is_less
  obtain ⟨fE, fdE, DE⟩ := T.same
  have GS : FnOk P w K mg base (L2.CX P w) 3 fS fdS ["low", "high"] (spSB C) := ok_simplest DS T
  have GL : FnOk P w K mg base CX0 2 fL fdL ["_law_left", "_law_right_here"] (spLst K) := ok_lst DL T
  have GI : FnOk P w K mg base CX0 1 fI fdI ["x", "y"] (spLess K) := ok_less DI.F
  have GE1 : FnOk P w K mg base CX0 2 fE fdE ["_law_got", "_law_goal"] (spSame 1) := ok_sameS DE T (ok_same0 DE T)
  have GE : FnOk P w K mg base CX0 3 fE fdE ["_law_got", "_law_goal"] (spSame 2) := ok_sameS DE T GE1
  refine D.F.ok sc29 (fun vs H Q E h => ?_) (fun cdv A outer s H vs Q E hr h => ?_)
  · obtain ⟨x, y, a, b, c, d, rfl, _⟩ := h
    rfl
  · obtain ⟨x, y, a, b, c, d, rfl, hx, hy, cs, k⟩ := h
    obtain ⟨p, q, p1, q1, p2, q2, an⟩ := KM.case_answer cs
    have hr2 : Room 2 _ := hr.mono (by decide)
    have hr1 : Room 1 _ := hr.mono (by decide)
    refine ⟨_, pss_cons (ps_set (i := 2) sc29.nd rfl (.inl rfl) (pe_call GL hr2 (by rfl) DL.g DL.F.kp DL.b .nil pass0 (pa_cons (pv 0) (pa_cons (pv 1) pa_nil))))
      (pss_cons (ps_set (i := 3) sc29.nd rfl (.inl rfl) (pe_lst (pa_cons (pe_call GS hr (by rfl) DS.g DS.F.kp DS.b .nil passL (pa_cons (pv 0) (pa_cons (pv 1) pa_nil)))
        (pa_cons (pe_call GS hr (by rfl) DS.g DS.F.kp DS.b .nil passL (pa_cons (pe_callTy call_list_of (by rfl) (T.nb "list" (by decide +kernel)) (by decide +kernel) (pa_cons (pv 0) pa_nil)) (pa_cons (pe_callTy call_list_of (by rfl) (T.nb "list" (by decide +kernel)) (by decide +kernel) (pa_cons (pv 1) pa_nil)) pa_nil))) pa_nil))))
      (pss_cons (ps_expr (pe_bm PySem.F.plainAttrs_list PySem.F.slot_list_append PySem.F.type_list_append mt_append (pv 3) (pa_cons (pe_call GS hr (by rfl) DS.g DS.F.kp DS.b .nil passL
          (pa_cons (pe_tup (pa_cons (pe_op op_sub pe_int (pe_ix ixp (pv 1) pe_int (fun _ _ => rfl))) (pa_cons (pe_ix ixp (pv 1) pe_int (fun _ _ => rfl)) pa_nil)))
          (pa_cons (pe_tup (pa_cons (pe_op op_sub pe_int (pe_ix ixp (pv 0) pe_int (fun _ _ => rfl))) (pa_cons (pe_ix ixp (pv 0) pe_int (fun _ _ => rfl)) pa_nil))) pa_nil))) pa_nil)))
      (pss_cons (ps_if (pt_not (pt_val (pe_call GE hr (by rfl) DE.g DE.F.kp DE.b .nil pass0 (pa_cons (pv 3) (pa_cons (pe_lst (pa_cons (pv 2) (pa_cons (pv 2) (pa_cons (pe_tup (pa_cons (pe_op op_sub pe_int (pe_ix ixp (pv 2) pe_int (fun _ _ => rfl))) (pa_cons (pe_ix ixp (pv 2) pe_int (fun _ _ => rfl)) pa_nil))) pa_nil)))) pa_nil))))) (pss_one (ps_ret pe_bl)) pss_nil)
      (pss_cons (ps_par (i := 4) (j := 5) (by rfl) sc29.nd rfl rfl (by decide) rfl rfl (pa_cons (pe_call GS hr (by rfl) DS.g DS.F.kp DS.b .nil passL (pa_cons (pv 0) (pa_cons (pv 2) pa_nil))) (pa_cons (pe_call GS hr (by rfl) DS.g DS.F.kp DS.b .nil passL (pa_cons (pv 2) (pa_cons (pv 1) pa_nil))) pa_nil)) (by rfl))
      (pss_cons (ps_if (PW.pt (pw_or (pt_not (pt_val (pe_call GI hr1 (by rfl) DI.g DI.F.kp DI.b .nil pass0 (pa_cons (pv 0) (pa_cons (pv 4) pa_nil)))))
          (pw_or (pt_not (pt_val (pe_call GI hr1 (by rfl) DI.g DI.F.kp DI.b .nil pass0 (pa_cons (pv 4) (pa_cons (pv 2) pa_nil)))))
          (pw_or (pt_not (pt_val (pe_call GI hr1 (by rfl) DI.g DI.F.kp DI.b .nil pass0 (pa_cons (pv 2) (pa_cons (pv 5) pa_nil)))))
          (pw_or1 (pt_not (pt_val (pe_call GI hr1 (by rfl) DI.g DI.F.kp DI.b .nil pass0 (pa_cons (pv 5) (pa_cons (pv 1) pa_nil)))))))))) (pss_one (ps_ret pe_bl)) pss_nil)
      (pss_one (ps_ret (pe_and (pe_cmpR op_ge (pe_ix ixp (pv 4) pe_int (fun _ _ => rfl)) (pe_ix ixp (pv 2) pe_int (fun _ _ => rfl)) (nomark _)) (pe_and (pe_cmpR op_ge (pe_ix ixp (pv 5) pe_int (fun _ _ => rfl)) (pe_ix ixp (pv 2) pe_int (fun _ _ => rfl)) (nomark _))
        (pe_one (pe_call GE1 hr2 (by rfl) DE.g DE.F.kp DE.b .nil pass0 (pa_cons (pe_call GS hr (by rfl) DS.g DS.F.kp DS.b .nil passL (pa_cons (pv 4) (pa_cons (pv 5) pa_nil))) (pa_cons (pv 2) pa_nil))))))))))))), ?_⟩
    obtain ⟨ba, bb, bc, bd⟩ := bdw cs.w
    -- due
    refine seq_asg ⟨_, rfl, _, rfl, x, y, a, b, c, d, rfl, hx.pt.pr, hy.pt.pr, ba, bb, bc, bd, cs.w.b0, cs.w.d0, KM.has_of_gap cs.w.b0 cs.w.d0 cs.w.ord cs.gap, fun p' q' S' => ?_⟩
    obtain ⟨rfl, rfl⟩ := an.mid.uniq S'
    intro H1 du s1 _ hdu
    have du1 : Rep H1 (.ref du) (.pr p q) := ⟨du, rfl, hdu⟩
    have x1 := hx.mono s1
    have y1 := hy.mono s1
    -- got
    refine seq_asg ((Y.lst (H0 := H) s1 (ds := [.pr p q, .pr p q]) (YA.cons (Y.sb (C := C) (Y.pt rfl x1) (Y.pt rfl y1) cs.w an.mid) (YA.cons (Y.sb (C := C) (Y.lof rfl x1) (Y.lof rfl y1) cs.w an.mid) YA.nil)) (show 2 ≤ 1000 by decide)) H1 (Same.refl _) _ fun v H2 s2 got => ?_)
    obtain ⟨g, xs, rfl, g0, hg, rg⟩ := got
    have t2 := s1.trans s2
    -- got.append(..)
    refine ⟨.ref g, rfl, .inl ⟨rfl, _, SqL.of hg⟩, ?_⟩
    refine cons_use ((Y.sb (C := C) (Y.tupi (Yi.sub Yi.c (Yi.ix0 rfl (hy.mono t2))) (Yi.ix1 rfl (hy.mono t2))) (Y.tupi (Yi.sub Yi.c (Yi.ix0 rfl (hx.mono t2))) (Yi.ix1 rfl (hx.mono t2))) an.mir an.mirS) H2 (Same.refl _) _ fun v H3 s3 r3 => ?_)
    have hg3 := s3 _ _ hg
    have lg := Paired.length rg
    refine ⟨g, xs, v, rfl, rfl, hg3, by rw [lg]; exact small3 (show 2 ≤ 100 by decide), ?_⟩
    have t3 : Same H (upd H3 g (.lst (xs ++ [v]))) := same_over g0 (t2.trans s3)
    have du3 : Rep (upd H3 g (.lst (xs ++ [v]))) (.ref du) (.pr p q) := Rep.upd hg3 (du1.mono (s2.trans s3))
    have rg3 : Reps (upd H3 g (.lst (xs ++ [v]))) (xs ++ [v]) [.pr p q, .pr p q, .pr (0 - p) q] := by
      cases rg with
      | cons r1 rr => cases rr with
        | cons r2 rn =>
          cases rn
          exact .cons (Rep.upd hg3 (r1.mono s3)) (.cons (Rep.upd hg3 (r2.mono s3)) (.cons (Rep.upd hg3 r3) .nil))
    generalize hH4 : upd H3 g (.lst (xs ++ [v])) = H4 at *
    have hg4 : H4 g = some (.lst (xs ++ [v])) := by rw [← hH4]; exact upd_same
    -- _law_same(got, [..])
    refine seq_ifnot (Y.same (H0 := H) (Hb := H4) (ds := [.pr p q, .pr p q, .pr (0 - p) q]) (Same.refl _) (Y.var rfl fun _ z => ⟨g, _, rfl, g0, z _ _ hg4, rg3.mono z⟩)
      (Y.lst (H0 := H) t3 (YA.cons (Y.rp rfl du3) (YA.cons (Y.rp rfl du3) (YA.cons (Y.tupiR (Yi.sub Yi.c (Yi.ix0 rfl du3)) (Yi.ix1 rfl du3)) YA.nil))) (show 3 ≤ 1000 by decide)) (show 3 ≤ 1000 by decide) fun H5 s5 => ⟨true, rfl, iteF ?_⟩)
    have t5 := t3.trans s5
    have x5 := hx.mono t5
    have y5 := hy.mono t5
    have du5 := du3.mono s5
    -- lower, upper
    refine seq_par ((YA.cons (Y.sb (C := C) (Y.pt rfl x5) (Y.pt rfl du5) an.wl an.sl) (YA.cons (Y.sb (C := C) (Y.pt rfl du5) (Y.pt rfl y5) an.wu an.su) YA.nil)) H5 (Same.refl _) _ fun vs H6 s6 rs => ?_)
    cases rs with
    | cons l6 rr => cases rr with
      | cons u6 rn =>
        cases rn
        rename_i lv uv
        refine ⟨_, _, rfl, ?_⟩
        have x6 := x5.mono s6
        have y6 := y5.mono s6
        have du6 := du5.mono s6
        obtain ⟨_, _, bp, bq⟩ := bdw an.wl
        obtain ⟨bp1, bq1, bp2, bq2⟩ := bdw an.wm
        refine ⟨_, rfl, _, rfl, a, b, p1, q1, ⟨⟨_, _, rfl, x6.pt.pr, l6.pt.pr⟩, ba, bb, bp1, bq1⟩, _, rfl, iteNS an.sl.btw.2.1 ?_⟩
        refine ⟨_, rfl, _, rfl, p1, q1, p, q, ⟨⟨_, _, rfl, l6.pt.pr, du6.pt.pr⟩, bp1, bq1, bp, bq⟩, _, rfl, iteNS an.sl.btw.2.2 ?_⟩
        refine ⟨_, rfl, _, rfl, p, q, p2, q2, ⟨⟨_, _, rfl, du6.pt.pr, u6.pt.pr⟩, bp, bq, bp2, bq2⟩, _, rfl, iteNS an.su.btw.2.1 ?_⟩
        refine ⟨_, rfl, _, rfl, p2, q2, c, d, ⟨⟨_, _, rfl, u6.pt.pr, y6.pt.pr⟩, bp2, bq2, bc, bd⟩, _, rfl, iteNS an.su.btw.2.2 ?_⟩
        refine ⟨_, rfl, p1, q1, l6.pt.pr, .inr ⟨rfl, _, rfl, p, q, du6.pt.pr, .inr ⟨rfl, _, _, rfl, rfl, _, rfl, ite2 (fun _ => ?_) (fun z => absurd (decide_eq_true an.l1) z)⟩⟩⟩
        refine ⟨_, rfl, p2, q2, u6.pt.pr, .inr ⟨rfl, _, rfl, p, q, du6.pt.pr, .inr ⟨rfl, _, _, rfl, rfl, _, rfl, ite2 (fun _ => ?_) (fun z => absurd (decide_eq_true an.l2) z)⟩⟩⟩
        refine cons_use ((Y.sb (C := C) (Y.pt rfl l6) (Y.pt rfl u6) an.wm an.sm) H6 (Same.refl _) _ fun v7 H7 s7 r7 => ?_)
        exact ⟨_, rfl, v7, _, rfl, same_pair r7 (du6.mono s7), fun H8 s8 => k _ (t5.trans (s6.trans (s7.trans s8)))⟩
end
end KW
/-! The walks of _law_right and of the law itself. -/
namespace KW
open PySem PySem.Spec PyProof.Rows L2
/-! ### quotients in lowest terms -/
theorem red_props (t : Int) {e : Int} (h : 0 < e) : ∃ G : Int, 0 < G ∧ t = rt t e * G ∧ e = rb t e * G ∧ 0 < rb t e ∧ Nat.gcd (rt t e).natAbs (rb t e).natAbs = 1 := by
  have g0 : 0 < Int.gcd t e := Nat.gcd_pos_of_pos_right _ (by omega)
  have g1 : (0 : Int) < ((Int.gcd t e : Nat) : Int) := by omega
  have e1 : rb t e * ((Int.gcd t e : Nat) : Int) = e := Int.ediv_mul_cancel (Int.gcd_dvd_right t e)
  refine ⟨((Int.gcd t e : Nat) : Int), g1, (Int.ediv_mul_cancel (Int.gcd_dvd_left t e)).symm, e1.symm, ?_, Int.gcd_ediv_gcd_ediv_gcd g0⟩
  exact KM.pos_of_mul g1 (by rw [e1]; exact h)
theorem le_mul {x G : Int} (hG : 0 < G) (hx : 0 ≤ x) : x ≤ x * G := by
  have := Int.mul_le_mul_of_nonneg_left (show (1 : Int) ≤ G by omega) hx
  omega
theorem abs_le_mul {x G y : Int} (hG : 0 < G) (e : y = x * G) : x.natAbs ≤ y.natAbs := by
  subst e
  rw [Int.natAbs_mul]
  have := Nat.mul_le_mul_left x.natAbs (show 1 ≤ G.natAbs by omega)
  omega
/-- the drawn numbers give a case -/
theorem case_of {t e u z : Int} (ht : t.natAbs ≤ 60) (he : 0 < e) (he' : e ≤ 12) (hu : 0 < u) (hu' : u ≤ 5) (hz : 0 < z) (hz' : z ≤ 60) :
    KM.Case (rt t e) (rb t e) (rt (rt t e * rb u z + rt u z * rb t e) (rb t e * rb u z)) (rb (rt t e * rb u z + rt u z * rb t e) (rb t e * rb u z)) ∧ 0 < rb u z ∧ rt u z ≤ 5 ∧ 0 < rt u z ∧ rb u z ≤ 60 := by
  obtain ⟨G, hG, et, ee, hb, ca⟩ := red_props t he
  obtain ⟨G2, hG2, eu, ez, hh, cg⟩ := red_props u hz
  have aA := abs_le_mul hG et
  have bA := le_mul hG (Int.le_of_lt hb)
  have hA := le_mul hG2 (Int.le_of_lt hh)
  have g0 : 0 < rt u z := KM.pos_of_mul hG2 (by rw [← eu]; exact hu)
  have gA := le_mul hG2 (Int.le_of_lt g0)
  generalize rt t e = a at *
  generalize rb t e = b at *
  generalize rt u z = g at *
  generalize rb u z = h at *
  have b12 : b ≤ 12 := by omega
  have h60 : h ≤ 60 := by omega
  have g5 : g ≤ 5 := by omega
  have a60 : a.natAbs ≤ 60 := by omega
  have hD : 0 < b * h := Int.mul_pos hb hh
  obtain ⟨G3, hG3, eN, eD, hd, cc⟩ := red_props (a * h + g * b) hD
  have cA := abs_le_mul hG3 eN
  have dA := le_mul hG3 (Int.le_of_lt hd)
  generalize rt (a * h + g * b) (b * h) = c at *
  generalize rb (a * h + g * b) (b * h) = d at *
  have D720 : b * h ≤ 12 * 60 := Int.mul_le_mul b12 h60 (by omega) (by decide)
  have n1 : (a * h).natAbs ≤ 60 * 60 := by rw [Int.natAbs_mul]; exact Nat.mul_le_mul a60 (by omega)
  have n2 : (g * b).natAbs ≤ 5 * 12 := by rw [Int.natAbs_mul]; exact Nat.mul_le_mul (by omega) (by omega)
  have cB : c.natAbs ≤ 3660 := by omega
  -- (c * b - a * d) * G3 = g * b * b
  have k1 : c * b * G3 = a * h * b + g * b * b := by rw [Int.mul_assoc, Int.mul_comm b G3, ← Int.mul_assoc, ← eN, Int.add_mul]
  have k2 : a * d * G3 = a * h * b := by rw [Int.mul_assoc, ← eD, Int.mul_comm b h, ← Int.mul_assoc]
  have k3 : b * d * G3 = h * (b * b) := by rw [Int.mul_assoc, ← eD, ← Int.mul_assoc, Int.mul_comm]
  have bb : 0 < b * b := Int.mul_pos hb hb
  have k4 : 0 < g * b * b := by rw [Int.mul_assoc]; exact Int.mul_pos g0 bb
  have ord : a * d < c * b := KM.lt_of_mul hG3 (by omega)
  have gap : b * d ≤ 60 * (c * b - a * d) := by
    refine KM.le_of_mul hG3 ?_
    rw [k3, Int.mul_assoc, Int.sub_mul, k1, k2]
    have x1 : h * (b * b) ≤ 60 * (b * b) := Int.mul_le_mul_of_nonneg_right h60 (Int.le_of_lt bb)
    have x2 : 1 * (b * b) ≤ g * (b * b) := Int.mul_le_mul_of_nonneg_right (by omega) (Int.le_of_lt bb)
    rw [Int.mul_assoc g b b]
    omega
  exact ⟨⟨⟨hb, hd, ord, ca, cc, by omega, by omega, by omega, by omega⟩, gap, by omega, by omega, by omega, by omega⟩, hh, g5, g0, h60⟩
/-! ### _law_right -/
/-- all but the object at u is kept -/
def But (u : Addr) (H H' : Hp) : Prop := ∀ b o, b ≠ u → H b = some o → H' b = some o
theorem But.refl {u : Addr} {H : Hp} : But u H H := fun _ _ _ h => h
theorem But.same {u : Addr} {H H1 H2 : Hp} (h : But u H H1) (s : Same H1 H2) : But u H H2 := fun b o n e => s _ _ (h b o n e)
theorem But.upd {u : Addr} {H H1 : Hp} {o : HO} (h : But u H H1) : But u H (upd H1 u o) := fun b x n e => by
  rw [upd_ne n]
  exact h b x n e
def spRight : Sp := fun vs H Q _ => ∃ (u : Addr) (A B : Int), vs = [.ref u] ∧ H u = some (.lst [.int A, .int B, .int 0]) ∧ ∀ H', But u H H' → Q (.bl true) H'
section
variable {P : Program} {w : World} {K : PySem.W.Frag} {mg : Str → Option Value} {base : Heap} {f C : Addr} {fd : FuncData}
theorem sc30 : FnScope ["_law_urn", "_law_left", "_law_gap_so", "_law_right_here", "_law_got"] ["_law_urn"] (defScope (topS 30)) := ⟨rfl, rfl, rfl, by decide +kernel, rfl, by decide +kernel, by decide +kernel⟩
theorem menu_in {z : Int} (h : z ∈ ([1, 2, 3, 7, 20, 60, 60, 59, 31] : List Int)) : 0 < z ∧ z ≤ 60 := by
  simp only [List.mem_cons, List.not_mem_nil, or_false] at h
  omega
theorem red_bd {i : Int} (h : i.natAbs ≤ 1000000) : Bd i := .of (by omega)
theorem small8 {e : Int} (h : e.natAbs ≤ 1000000) : e.natAbs < 2 ^ 8000 := Nat.lt_of_lt_of_le (red_bd h) (Nat.pow_le_pow_right (by decide) (by decide))
theorem ok_right (D : Def K mg "_law_right" (topS 30) ["_law_urn"] f fd) (T : Tx K mg C) : FnOk P w K mg base CX0 5 f fd ["_law_urn"] spRight := by
  obtain ⟨fL, fdL, DL⟩ := T.low
  obtain ⟨fT, fdT, DT⟩ := T.take
  obtain ⟨fO, fdO, DO⟩ := T.of
  obtain ⟨fA, fdA, DA⟩ := T.add
  obtain ⟨fH, fdH, DH⟩ := T.heard
  obtain ⟨fE, fdE, DE⟩ := T.same
  obtain ⟨fC, fdC, DC⟩ := T.case
  have GL : FnOk P w K mg base CX0 1 fL fdL ["_law_top_so", "_law_down_so"] spLow := ok_low DL T
  have GT : FnOk P w K mg base CX0 1 fT fdT ["_law_urn", "_law_low_so"] spTake := ok_take DT T
  have GO : FnOk P w K mg base CX0 2 fO fdO ["_law_urn", "_law_some_so"] spOf := ok_of DO T
  have GA : FnOk P w K mg base CX0 2 fA fdA ["_law_own", "_law_far"] (spPlus K) := ok_add DA T
  have GH : FnOk P w K mg base CX0 4 fH fdH ["_law_left", "_law_right_here"] spHeard := ok_heard DH T
  have GE : FnOk P w K mg base CX0 3 fE fdE ["_law_got", "_law_goal"] (spSame 2) := ok_sameS DE T (ok_sameS DE T (ok_same0 DE T))
  have GC : FnOk P w K mg base CX0 4 fC fdC ["_law_left", "_law_right_here"] spCase := ok_case DC T
  refine D.F.ok sc30 (fun vs H Q E h => ?_) (fun cdv A outer s H vs Q E hr h => ?_)
  · obtain ⟨u, A, B, rfl, _⟩ := h
    rfl
  · obtain ⟨u, a0, b0, rfl, hu, k⟩ := h
    have hr1 : Room 1 _ := hr.mono (by decide)
    have hr2 : Room 2 _ := hr.mono (by decide)
    have hr3 : Room 3 _ := hr.mono (by decide)
    refine ⟨_, pss_cons (ps_set (i := 1) sc30.nd rfl (.inl rfl) (pe_call GL hr1 (by rfl) DL.g DL.F.kp DL.b .nil pass0 (pa_cons (pe_op op_sub (pe_call GT hr1 (by rfl) DT.g DT.F.kp DT.b .nil pass0 (pa_cons (pv 0) (pa_cons pe_int pa_nil))) pe_int)
        (pa_cons (pe_op op_add pe_int (pe_call GT hr1 (by rfl) DT.g DT.F.kp DT.b .nil pass0 (pa_cons (pv 0) (pa_cons pe_int pa_nil)))) pa_nil))))
      (pss_cons (ps_set (i := 2) sc30.nd rfl (.inl rfl) (pe_call GL hr1 (by rfl) DL.g DL.F.kp DL.b .nil pass0 (pa_cons (pe_op op_add pe_int (pe_call GT hr1 (by rfl) DT.g DT.F.kp DT.b .nil pass0 (pa_cons (pv 0) (pa_cons pe_int pa_nil))))
        (pa_cons (pe_call GO hr2 (by rfl) DO.g DO.F.kp DO.b .nil pass0 (pa_cons (pv 0) (pa_cons (pe_lst (pa_cons pe_int (pa_cons pe_int (pa_cons pe_int (pa_cons pe_int (pa_cons pe_int (pa_cons pe_int (pa_cons pe_int (pa_cons pe_int (pa_cons pe_int pa_nil)))))))))) pa_nil))) pa_nil))))
      (pss_cons (ps_set (i := 3) sc30.nd rfl (.inl rfl) (pe_call GA hr2 (by rfl) DA.g DA.F.kp DA.b .nil pass0 (pa_cons (pv 1) (pa_cons (pv 2) pa_nil))))
      (pss_cons (ps_set (i := 4) sc30.nd rfl (.inl rfl) (pe_lst (pa_cons (pe_call GH hr (by rfl) DH.g DH.F.kp DH.b .nil pass0 (pa_cons (pv 3) (pa_cons (pv 1) pa_nil))) (pa_cons (pe_call GH hr (by rfl) DH.g DH.F.kp DH.b .nil pass0 (pa_cons (pv 1) (pa_cons (pv 1) pa_nil))) pa_nil))))
      (pss_one (ps_ret (pe_and (pe_call GE hr3 (by rfl) DE.g DE.F.kp DE.b .nil pass0 (pa_cons (pv 4) (pa_cons (pe_op op_rep (pe_lst (pa_cons (pe_lst (pa_cons pe_str (pa_cons pe_bl pa_nil))) pa_nil)) pe_int) pa_nil)))
        (pe_one (pe_call GC hr (by rfl) DC.g DC.F.kp DC.b .nil pass0 (pa_cons (pv 1) (pa_cons (pv 3) pa_nil)))))))))), ?_⟩
    -- left
    refine ⟨_, rfl, u, 121, a0, b0, 0, rfl, by decide, by decide, hu, by decide, by decide, fun r1 A1 C1 r10 r11 c10 c11 => ?_⟩
    refine ⟨_, _, rfl, rfl, ?_⟩
    refine ⟨_, rfl, u, 12, A1, b0, C1, rfl, by decide, by decide, upd_same, c10, by omega, fun r2 A2 C2 r20 r21 c20 c21 => ?_⟩
    rw [upd_upd]
    refine ⟨_, _, rfl, rfl, ?_⟩
    have B1 : But u H (upd H u (.lst [.int A2, .int b0, .int C2])) := But.upd But.refl
    have hu1 : (upd H u (.lst [.int A2, .int b0, .int C2])) u = some (.lst [.int A2, .int b0, .int C2]) := upd_same
    generalize upd H u (.lst [.int A2, .int b0, .int C2]) = H1 at *
    refine ⟨_, _, rfl, by omega, small8 (by omega), ?_⟩
    intro H2 pl s2 n2 hpl
    have B2 := B1.same s2
    have hu2 := s2 _ _ hu1
    -- gap
    refine ⟨_, rfl, u, 5, A2, b0, C2, rfl, by decide, by decide, hu2, c20, by omega, fun r3 A3 C3 r30 r31 c30 c31 => ?_⟩
    refine ⟨_, _, rfl, rfl, ?_⟩
    have npl : pl ≠ u := ne_of hpl hu2 (by intro z; cases z)
    have hpl3 : (upd H2 u (.lst [.int A3, .int b0, .int C3])) pl = some (pairO (rt (r1 - 60) (1 + r2)) (rb (r1 - 60) (1 + r2))) := by rw [upd_ne npl]; exact hpl
    have B3 : But u H (upd H2 u (.lst [.int A3, .int b0, .int C3])) := B2.upd
    have hu3 : (upd H2 u (.lst [.int A3, .int b0, .int C3])) u = some (.lst [.int A3, .int b0, .int C3]) := upd_same
    generalize upd H2 u (.lst [.int A3, .int b0, .int C3]) = H3 at *
    refine ⟨_, rfl, by show 9 ≤ sizeLine; decide, fun l hl => ?_⟩
    have s4 := same_upd (o := .lst [.int 1, .int 2, .int 3, .int 7, .int 20, .int 60, .int 60, .int 59, .int 31]) hl
    have hl4 : (upd H3 l (.lst [.int 1, .int 2, .int 3, .int 7, .int 20, .int 60, .int 60, .int 59, .int 31])) l = some (.lst (([1, 2, 3, 7, 20, 60, 60, 59, 31] : List Int).map V.int)) := upd_same
    have hu4 := s4 _ _ hu3
    have hpl4 := s4 _ _ hpl3
    have B4 := B3.same s4
    have nlu : l ≠ u := (ne_of_none hu3 hl).symm
    refine ⟨u, l, [1, 2, 3, 7, 20, 60, 60, 59, 31], A3, b0, C3, rfl, hl4, nlu, by decide, by decide, hu4, c30, by omega, fun z A4 C4 hz c40 c41 => ?_⟩
    obtain ⟨z0, z60⟩ := menu_in hz
    have B5 : But u H (upd (upd H3 l (.lst [.int 1, .int 2, .int 3, .int 7, .int 20, .int 60, .int 60, .int 59, .int 31])) u (.lst [.int A4, .int b0, .int C4])) := B4.upd
    have hpl5 : (upd (upd H3 l (.lst [.int 1, .int 2, .int 3, .int 7, .int 20, .int 60, .int 60, .int 59, .int 31])) u (.lst [.int A4, .int b0, .int C4])) pl = some (pairO (rt (r1 - 60) (1 + r2)) (rb (r1 - 60) (1 + r2))) := by rw [upd_ne npl]; exact hpl4
    generalize upd (upd H3 l (.lst [.int 1, .int 2, .int 3, .int 7, .int 20, .int 60, .int 60, .int 59, .int 31])) u (.lst [.int A4, .int b0, .int C4]) = H5 at *
    refine ⟨_, _, rfl, z0, small8 (by omega), ?_⟩
    intro H6 pg s6 n6 hpg
    have hpl6 := s6 _ _ hpl5
    obtain ⟨cs, hh, g5, g0, h60⟩ := case_of (t := r1 - 60) (e := 1 + r2) (u := 1 + r3) (z := z) (by omega) (by omega) (by omega) (by omega) (by omega) z0 z60
    generalize rt (r1 - 60) (1 + r2) = a at *
    generalize rb (r1 - 60) (1 + r2) = b at *
    generalize rt (1 + r3) z = g at *
    generalize rb (1 + r3) z = h at *
    have hb := cs.w.b0
    have bS := cs.bS
    -- right
    refine ⟨_, rfl, _, rfl, a, b, g, h, ⟨⟨_, _, rfl, Pr.tup hpl6, Pr.tup hpg⟩, red_bd cs.aS, red_bd (by omega), red_bd (by omega), red_bd (by omega)⟩, hb, hh, ?_⟩
    intro H7 pr s7 n7 hpr
    generalize rt (a * h + g * b) (b * h) = c at *
    generalize rb (a * h + g * b) (b * h) = d at *
    have hpl7 : Rep H7 (.ref pl) (.pr a b) := ⟨pl, rfl, s7 _ _ hpl6⟩
    have hpr7 : Rep H7 (.ref pr) (.pr c d) := ⟨pr, rfl, hpr⟩
    have B7 : But u H H7 := B5.same (s6.trans s7)
    have hd := cs.w.d0
    have dS := cs.dS
    have ord := cs.w.ord
    have ba := red_bd cs.aS
    have bb : Bd b := red_bd (by omega)
    have bc := red_bd cs.cS
    have bd : Bd d := red_bd (by omega)
    -- got
    refine seq_asg ((Y.lst (H0 := H7) (Same.refl _) (ds := [.un, .un]) (YA.cons (Y.heard (Y.pt rfl hpr7) (Y.pt rfl hpl7) bc bd ba bb (by omega)) (YA.cons (Y.heard (Y.pt rfl hpl7) (Y.pt rfl hpl7) ba bb ba bb (by omega)) YA.nil)) (by decide)) H7 (Same.refl _) _ fun v H8 s8 got => ?_)
    -- the end
    refine Y.same (H0 := H7) (Hb := H8) (Same.refl _) (Y.var rfl (fun _ q => got.mono q)) (Y.rep (n := 2) s8 (Y.lst s8 (ds := [.un]) (YA.cons Y.un YA.nil) (by decide)) (by decide)) (by decide) fun H9 s9 => ?_
    refine ⟨true, rfl, iteT ?_⟩
    exact ⟨_, rfl, _, rfl, _, _, a, b, c, d, rfl, hpl7.mono (s8.trans s9), hpr7.mono (s8.trans s9), cs, fun H10 s10 => k _ (B7.same (s8.trans (s9.trans s10)))⟩
/-! ### the law -/
def spLaw (K : PySem.W.Frag) : Sp := fun vs H Q _ => ∃ (a : Addr) (ns : List Int), vs = [.ref a] ∧ SqL K H a (ns.map V.int) ∧ ns.length ≤ 63 ∧ ∀ H', Q (.bl true) H'
theorem sc31 : FnScope ["_law_script", "_law_cells_so", "_law_k"] ["_law_script"] (defScope (topS 31)) := ⟨rfl, rfl, rfl, by decide +kernel, rfl, by decide +kernel, by decide +kernel⟩
theorem ok_law (F : Fun K "law" "law" (topS 31) f fd) (T : Tx K mg C) : FnOk P w K mg base CX0 6 f fd ["_law_script"] (spLaw K) := by
  obtain ⟨fH, fdH, DH⟩ := T.hand
  obtain ⟨fC, fdC, DC⟩ := T.cells
  obtain ⟨fB, fdB, DB⟩ := T.box
  obtain ⟨fR, fdR, DR⟩ := T.right
  have GH : FnOk P w K mg base CX0 5 fH fdH [] spHand := ok_hand DH T
  have GC : FnOk P w K mg base CX0 1 fC fdC ["_law_script", "_law_top"] (spCells K) := ok_cells DC T
  have GB : FnOk P w K mg base CX0 1 fB fdB ["_law_script", "_law_k"] (spBox K) := ok_box DB T
  have GR : FnOk P w K mg base CX0 5 fR fdR ["_law_urn"] spRight := ok_right DR T
  refine F.ok sc31 (fun vs H Q E h => ?_) (fun cdv A outer s H vs Q E hr h => ?_)
  · obtain ⟨a, ns, rfl, _⟩ := h
    rfl
  · obtain ⟨a, ns, rfl, hS, hlen, k⟩ := h
    have hr1 : Room 1 _ := hr.mono (by decide)
    refine ⟨_, pss_cons (ps_if (pt_not (pt_val (pe_call0 GH hr (by rfl) DH.g DH.F.kp DH.b .nil pass0))) (pss_one (ps_ret pe_bl)) pss_nil)
      (pss_cons (ps_set (i := 1) sc31.nd rfl (.inr rfl) (pe_call GC hr1 (by rfl) DC.g DC.F.kp DC.b .nil pass0 (pa_cons (pv 0) (pa_cons pe_int pa_nil))))
      (pss_one (ps_ret (pe_callB (cr_all rfl) (by rfl) (T.nb "all" (by decide +kernel)) (by decide +kernel) (pa_cons
        (pe_lc (own := [("_law_k", 2)]) (g := gName 2) (tt := tYes) rfl sc31.nd (pi_range1 (by rfl) (T.nb "range" (by decide +kernel)) (pa_cons (pe_callB call_len_seq (by rfl) (T.nb "len" (by decide +kernel)) PySem.boot_len (pa_cons (pv 1) pa_nil)) pa_nil))
          (blkOk_by (N := ["_law_script", "_law_cells_so", "_law_k"]) (sc := defScope (topS 31)) (by decide +kernel)) (fun _ _ _ _ _ => pg_name (i := 2) sc31.nd rfl (Or.inl rfl)) (fun _ _ _ _ _ => pts_nil)
          (fun _ _ _ _ _ => pe_call GR hr (by rfl) DR.g DR.F.kp DR.b .nil pass0 (pa_cons (pe_call GB hr1 (by rfl) DB.g DB.F.kp DB.b .nil pass0 (pa_cons (pv 1) (pa_cons (pv 2) pa_nil))) pa_nil))) pa_nil))))), ?_⟩
    refine ⟨rfl, fun H1 s1 => ⟨true, rfl, iteF ?_⟩⟩
    refine ⟨_, rfl, a, ns, rfl, s1.seq hS, hlen, fun ms h1 h2 => ?_⟩
    intro H2 cl s2 n2 hcl
    refine ⟨_, rfl, cl, _, rfl, .inl (SqL.of hcl), _, rfl, by omega, by rw [List.length_map]; omega, fun D' hD => ?_⟩
    have ncD : cl ≠ D' := ne_of_none hcl hD
    have el : (((ms.map V.int).length : Nat) : Int).toNat = ms.length := by rw [Int.toNat_natCast, List.length_map]
    rw [el]
    refine lc_range (lo := 0) (n := ms.length) (fun i H' => i ≤ ms.length ∧ H' cl = some (.lst (ms.map V.int)) ∧ H' D' = some (.lst ((List.replicate i true).map V.bl))) ⟨Nat.zero_le _, by rw [upd_ne ncD]; exact hcl, upd_same⟩ (fun i H3 hi h => ?_) (fun H3 h => ?_)
    · obtain ⟨_, hc3, hd3⟩ := h
      refine ⟨rfl, _, rfl, _, rfl, cl, ms, i, by rw [Int.zero_add]; rfl, SqL.of hc3, hi, fun A B p hp => ?_⟩
      have ncp : cl ≠ p := ne_of_none hc3 hp
      have nDp : D' ≠ p := ne_of_none hd3 hp
      refine ⟨p, A, B, rfl, upd_same, fun H4 b4 => ?_⟩
      have hc4 := b4 _ _ ncp (by rw [upd_ne ncp]; exact hc3)
      have hd4 := b4 _ _ nDp (by rw [upd_ne nDp]; exact hd3)
      refine ⟨_, hd4, by rw [List.length_map, List.length_replicate]; exact small3 (by omega), hi, by rw [upd_ne ncD]; exact hc4, ?_⟩
      rw [upd_same, rep_snoc]
    · obtain ⟨_, hc3, hd3⟩ := h
      refine ⟨D', _, rfl, SqL.of hd3, ?_⟩
      rw [rep_all]
      exact k _
end
end KW
/-! What the top has written; the head and the end. (Printed by gen_head.py.) -/
namespace KW
open PySem PySem.Spec PyProof.Rows L2
theorem def_mk {K : PySem.W.Frag} {h : Heap} {mg : Str → Option Value} {x : Str} {st : Stmt} {ps : List Str} {f : Addr} (X : K.In h) (G : h.Ns mainGlobals mg) {od an : Option Addr} {sl : Array (Option Value)} {oc kV dc pm cd ct : Value}
    (a : PySem.W.nsIn K mainGlobals x = some (some (.ref f))) (l : K.lookup f = some ⟨oc, od, .func (PySem.W.fnOf x x (defArgs st) (defBody st) (defScope st) .none kV dc pm an cd ct), sl⟩) (c : PySem.W.codeIn K cd x = true) (k : PySem.W.keepIn K (.ref f) = true)
    (h : ∀ (kV doc pm : Value) (an : Option Addr) (cdv ct : Value) (us : List Value), us.length = ps.length → bindArgs (PySem.W.fnOf x x (defArgs st) (defBody st) (defScope st) .none kV doc pm an cdv ct) ⟨us, []⟩ = pure (ps.zip us)) :
    Def K mg x st ps f (PySem.W.fnOf x x (defArgs st) (defBody st) (defScope st) .none kV dc pm an cd ct) :=
  ⟨fun_mk (st := st) l c k, (fun_mk (st := st) l c k).binds h, PySem.W.mg_of X G a⟩
/-- simplest_between(high=.., low=..) -/
theorem kb_simplest {K : PySem.W.Frag} {kV dc pm cd ct : Value} {an : Option Addr} : KBinds K (PySem.W.fnOf "simplest_between" "simplest_between" (defArgs (topS 16)) (defBody (topS 16)) (defScope (topS 16)) .none kV dc pm an cd ct) ["low", "high"] ["high", "low"] (fun us ws => us ++ ws.reverse) (fun vs zs => vs ++ zs.reverse) where
  to := fun s us ws _ hl => by
    rw [List.length_append, List.length_reverse] at hl
    match us, ws, hl with
    | [], [_, _], _ => exact .of_eq rfl
    | [_], [_], _ => exact .of_eq rfl
    | [_, _], [], _ => exact .of_eq rfl
    | [], [], hl => simp at hl
    | [], [_], hl => simp at hl
    | [], _ :: _ :: _ :: _, hl => simp at hl
    | [_], [], hl => simp at hl
    | [_], _ :: _ :: _, hl => simp at hl; omega
    | [_, _], _ :: _, hl => simp at hl
    | _ :: _ :: _ :: _, _, hl => simp at hl; omega
  rel := fun r s => r.append s.reverse
theorem kit_ve {K : PySem.W.Frag} {C : Addr} (h : PySem.W.subIn K (.ref C) (.type "ValueError") = some true) : PySem.W.kitOne K (.ref C) (.type "ValueError") = some true := by
  show (if (Value.ref C == Value.type "ValueError") = true then some true else if PySem.W.kitMeta "ValueError" = true then PySem.W.subIn K (.ref C) (.type "ValueError") else none) = some true
  rw [if_neg (fun q => by cases beq_iff_eq.mp q), if_pos (by decide +kernel)]
  exact h
theorem all_mk {l : PySem.W.OpenLaw} {w : World} {K : PySem.W.Frag} {h : Heap} {mg : Str → Option Value} {fa : Addr} (X : K.In h) (G : h.Ns mainGlobals mg) (hfa : mg "law" = some (.ref fa))
    {f4 : Addr} {od4 an4 : Option Addr} {sl4 : Array (Option Value)} {oc4 kV4 dc4 pm4 cd4 ct4 : Value} (a4 : PySem.W.nsIn K mainGlobals "tuple_of" = some (some (.ref f4))) (l4 : K.lookup f4 = some ⟨oc4, od4, .func (PySem.W.fnOf "tuple_of" "tuple_of" (defArgs (topS 4)) (defBody (topS 4)) (defScope (topS 4)) .none kV4 dc4 pm4 an4 cd4 ct4), sl4⟩) (c4 : PySem.W.codeIn K cd4 "tuple_of" = true) (k4 : PySem.W.keepIn K (.ref f4) = true)
    {f7 : Addr} {od7 an7 : Option Addr} {sl7 : Array (Option Value)} {oc7 kV7 dc7 pm7 cd7 ct7 : Value} (a7 : PySem.W.nsIn K mainGlobals "fraction" = some (some (.ref f7))) (l7 : K.lookup f7 = some ⟨oc7, od7, .func (PySem.W.fnOf "fraction" "fraction" (defArgs (topS 7)) (defBody (topS 7)) (defScope (topS 7)) .none kV7 dc7 pm7 an7 cd7 ct7), sl7⟩) (c7 : PySem.W.codeIn K cd7 "fraction" = true) (k7 : PySem.W.keepIn K (.ref f7) = true)
    {f8 : Addr} {od8 an8 : Option Addr} {sl8 : Array (Option Value)} {oc8 kV8 dc8 pm8 cd8 ct8 : Value} (a8 : PySem.W.nsIn K mainGlobals "whole" = some (some (.ref f8))) (l8 : K.lookup f8 = some ⟨oc8, od8, .func (PySem.W.fnOf "whole" "whole" (defArgs (topS 8)) (defBody (topS 8)) (defScope (topS 8)) .none kV8 dc8 pm8 an8 cd8 ct8), sl8⟩) (c8 : PySem.W.codeIn K cd8 "whole" = true) (k8 : PySem.W.keepIn K (.ref f8) = true)
    {f9 : Addr} {od9 an9 : Option Addr} {sl9 : Array (Option Value)} {oc9 kV9 dc9 pm9 cd9 ct9 : Value} (a9 : PySem.W.nsIn K mainGlobals "plus" = some (some (.ref f9))) (l9 : K.lookup f9 = some ⟨oc9, od9, .func (PySem.W.fnOf "plus" "plus" (defArgs (topS 9)) (defBody (topS 9)) (defScope (topS 9)) .none kV9 dc9 pm9 an9 cd9 ct9), sl9⟩) (c9 : PySem.W.codeIn K cd9 "plus" = true) (k9 : PySem.W.keepIn K (.ref f9) = true)
    {f10 : Addr} {od10 an10 : Option Addr} {sl10 : Array (Option Value)} {oc10 kV10 dc10 pm10 cd10 ct10 : Value} (a10 : PySem.W.nsIn K mainGlobals "minus" = some (some (.ref f10))) (l10 : K.lookup f10 = some ⟨oc10, od10, .func (PySem.W.fnOf "minus" "minus" (defArgs (topS 10)) (defBody (topS 10)) (defScope (topS 10)) .none kV10 dc10 pm10 an10 cd10 ct10), sl10⟩) (c10 : PySem.W.codeIn K cd10 "minus" = true) (k10 : PySem.W.keepIn K (.ref f10) = true)
    {f11 : Addr} {od11 an11 : Option Addr} {sl11 : Array (Option Value)} {oc11 kV11 dc11 pm11 cd11 ct11 : Value} (a11 : PySem.W.nsIn K mainGlobals "over" = some (some (.ref f11))) (l11 : K.lookup f11 = some ⟨oc11, od11, .func (PySem.W.fnOf "over" "over" (defArgs (topS 11)) (defBody (topS 11)) (defScope (topS 11)) .none kV11 dc11 pm11 an11 cd11 ct11), sl11⟩) (c11 : PySem.W.codeIn K cd11 "over" = true) (k11 : PySem.W.keepIn K (.ref f11) = true)
    {f12 : Addr} {od12 an12 : Option Addr} {sl12 : Array (Option Value)} {oc12 kV12 dc12 pm12 cd12 ct12 : Value} (a12 : PySem.W.nsIn K mainGlobals "is_less" = some (some (.ref f12))) (l12 : K.lookup f12 = some ⟨oc12, od12, .func (PySem.W.fnOf "is_less" "is_less" (defArgs (topS 12)) (defBody (topS 12)) (defScope (topS 12)) .none kV12 dc12 pm12 an12 cd12 ct12), sl12⟩) (c12 : PySem.W.codeIn K cd12 "is_less" = true) (k12 : PySem.W.keepIn K (.ref f12) = true)
    {f13 : Addr} {od13 an13 : Option Addr} {sl13 : Array (Option Value)} {oc13 kV13 dc13 pm13 cd13 ct13 : Value} (a13 : PySem.W.nsIn K mainGlobals "floor_of" = some (some (.ref f13))) (l13 : K.lookup f13 = some ⟨oc13, od13, .func (PySem.W.fnOf "floor_of" "floor_of" (defArgs (topS 13)) (defBody (topS 13)) (defScope (topS 13)) .none kV13 dc13 pm13 an13 cd13 ct13), sl13⟩) (c13 : PySem.W.codeIn K cd13 "floor_of" = true) (k13 : PySem.W.keepIn K (.ref f13) = true)
    {f14 : Addr} {od14 an14 : Option Addr} {sl14 : Array (Option Value)} {oc14 kV14 dc14 pm14 cd14 ct14 : Value} (a14 : PySem.W.nsIn K mainGlobals "ceiling_of" = some (some (.ref f14))) (l14 : K.lookup f14 = some ⟨oc14, od14, .func (PySem.W.fnOf "ceiling_of" "ceiling_of" (defArgs (topS 14)) (defBody (topS 14)) (defScope (topS 14)) .none kV14 dc14 pm14 an14 cd14 ct14), sl14⟩) (c14 : PySem.W.codeIn K cd14 "ceiling_of" = true) (k14 : PySem.W.keepIn K (.ref f14) = true)
    {f15 : Addr} {od15 an15 : Option Addr} {sl15 : Array (Option Value)} {oc15 kV15 dc15 pm15 cd15 ct15 : Value} (a15 : PySem.W.nsIn K mainGlobals "_least_whole" = some (some (.ref f15))) (l15 : K.lookup f15 = some ⟨oc15, od15, .func (PySem.W.fnOf "_least_whole" "_least_whole" (defArgs (topS 15)) (defBody (topS 15)) (defScope (topS 15)) .none kV15 dc15 pm15 an15 cd15 ct15), sl15⟩) (c15 : PySem.W.codeIn K cd15 "_least_whole" = true) (k15 : PySem.W.keepIn K (.ref f15) = true)
    {f16 : Addr} {od16 an16 : Option Addr} {sl16 : Array (Option Value)} {oc16 kV16 dc16 pm16 cd16 ct16 : Value} (a16 : PySem.W.nsIn K mainGlobals "simplest_between" = some (some (.ref f16))) (l16 : K.lookup f16 = some ⟨oc16, od16, .func (PySem.W.fnOf "simplest_between" "simplest_between" (defArgs (topS 16)) (defBody (topS 16)) (defScope (topS 16)) .none kV16 dc16 pm16 an16 cd16 ct16), sl16⟩) (c16 : PySem.W.codeIn K cd16 "simplest_between" = true) (k16 : PySem.W.keepIn K (.ref f16) = true)
    {f18 : Addr} {od18 an18 : Option Addr} {sl18 : Array (Option Value)} {oc18 kV18 dc18 pm18 cd18 ct18 : Value} (a18 : PySem.W.nsIn K mainGlobals "_law_box" = some (some (.ref f18))) (l18 : K.lookup f18 = some ⟨oc18, od18, .func (PySem.W.fnOf "_law_box" "_law_box" (defArgs (topS 18)) (defBody (topS 18)) (defScope (topS 18)) .none kV18 dc18 pm18 an18 cd18 ct18), sl18⟩) (c18 : PySem.W.codeIn K cd18 "_law_box" = true) (k18 : PySem.W.keepIn K (.ref f18) = true)
    {f19 : Addr} {od19 an19 : Option Addr} {sl19 : Array (Option Value)} {oc19 kV19 dc19 pm19 cd19 ct19 : Value} (a19 : PySem.W.nsIn K mainGlobals "_law_take" = some (some (.ref f19))) (l19 : K.lookup f19 = some ⟨oc19, od19, .func (PySem.W.fnOf "_law_take" "_law_take" (defArgs (topS 19)) (defBody (topS 19)) (defScope (topS 19)) .none kV19 dc19 pm19 an19 cd19 ct19), sl19⟩) (c19 : PySem.W.codeIn K cd19 "_law_take" = true) (k19 : PySem.W.keepIn K (.ref f19) = true)
    {f20 : Addr} {od20 an20 : Option Addr} {sl20 : Array (Option Value)} {oc20 kV20 dc20 pm20 cd20 ct20 : Value} (a20 : PySem.W.nsIn K mainGlobals "_law_cells" = some (some (.ref f20))) (l20 : K.lookup f20 = some ⟨oc20, od20, .func (PySem.W.fnOf "_law_cells" "_law_cells" (defArgs (topS 20)) (defBody (topS 20)) (defScope (topS 20)) .none kV20 dc20 pm20 an20 cd20 ct20), sl20⟩) (c20 : PySem.W.codeIn K cd20 "_law_cells" = true) (k20 : PySem.W.keepIn K (.ref f20) = true)
    {f21 : Addr} {od21 an21 : Option Addr} {sl21 : Array (Option Value)} {oc21 kV21 dc21 pm21 cd21 ct21 : Value} (a21 : PySem.W.nsIn K mainGlobals "_law_of" = some (some (.ref f21))) (l21 : K.lookup f21 = some ⟨oc21, od21, .func (PySem.W.fnOf "_law_of" "_law_of" (defArgs (topS 21)) (defBody (topS 21)) (defScope (topS 21)) .none kV21 dc21 pm21 an21 cd21 ct21), sl21⟩) (c21 : PySem.W.codeIn K cd21 "_law_of" = true) (k21 : PySem.W.keepIn K (.ref f21) = true)
    {f22 : Addr} {od22 an22 : Option Addr} {sl22 : Array (Option Value)} {oc22 kV22 dc22 pm22 cd22 ct22 : Value} (a22 : PySem.W.nsIn K mainGlobals "_law_same" = some (some (.ref f22))) (l22 : K.lookup f22 = some ⟨oc22, od22, .func (PySem.W.fnOf "_law_same" "_law_same" (defArgs (topS 22)) (defBody (topS 22)) (defScope (topS 22)) .none kV22 dc22 pm22 an22 cd22 ct22), sl22⟩) (c22 : PySem.W.codeIn K cd22 "_law_same" = true) (k22 : PySem.W.keepIn K (.ref f22) = true)
    {f23 : Addr} {od23 an23 : Option Addr} {sl23 : Array (Option Value)} {oc23 kV23 dc23 pm23 cd23 ct23 : Value} (a23 : PySem.W.nsIn K mainGlobals "_law_low" = some (some (.ref f23))) (l23 : K.lookup f23 = some ⟨oc23, od23, .func (PySem.W.fnOf "_law_low" "_law_low" (defArgs (topS 23)) (defBody (topS 23)) (defScope (topS 23)) .none kV23 dc23 pm23 an23 cd23 ct23), sl23⟩) (c23 : PySem.W.codeIn K cd23 "_law_low" = true) (k23 : PySem.W.keepIn K (.ref f23) = true)
    {f24 : Addr} {od24 an24 : Option Addr} {sl24 : Array (Option Value)} {oc24 kV24 dc24 pm24 cd24 ct24 : Value} (a24 : PySem.W.nsIn K mainGlobals "_law_add" = some (some (.ref f24))) (l24 : K.lookup f24 = some ⟨oc24, od24, .func (PySem.W.fnOf "_law_add" "_law_add" (defArgs (topS 24)) (defBody (topS 24)) (defScope (topS 24)) .none kV24 dc24 pm24 an24 cd24 ct24), sl24⟩) (c24 : PySem.W.codeIn K cd24 "_law_add" = true) (k24 : PySem.W.keepIn K (.ref f24) = true)
    {f25 : Addr} {od25 an25 : Option Addr} {sl25 : Array (Option Value)} {oc25 kV25 dc25 pm25 cd25 ct25 : Value} (a25 : PySem.W.nsIn K mainGlobals "_law_heard" = some (some (.ref f25))) (l25 : K.lookup f25 = some ⟨oc25, od25, .func (PySem.W.fnOf "_law_heard" "_law_heard" (defArgs (topS 25)) (defBody (topS 25)) (defScope (topS 25)) .none kV25 dc25 pm25 an25 cd25 ct25), sl25⟩) (c25 : PySem.W.codeIn K cd25 "_law_heard" = true) (k25 : PySem.W.keepIn K (.ref f25) = true)
    {f26 : Addr} {od26 an26 : Option Addr} {sl26 : Array (Option Value)} {oc26 kV26 dc26 pm26 cd26 ct26 : Value} (a26 : PySem.W.nsIn K mainGlobals "_law_by_hand_right" = some (some (.ref f26))) (l26 : K.lookup f26 = some ⟨oc26, od26, .func (PySem.W.fnOf "_law_by_hand_right" "_law_by_hand_right" (defArgs (topS 26)) (defBody (topS 26)) (defScope (topS 26)) .none kV26 dc26 pm26 an26 cd26 ct26), sl26⟩) (c26 : PySem.W.codeIn K cd26 "_law_by_hand_right" = true) (k26 : PySem.W.keepIn K (.ref f26) = true)
    {f27 : Addr} {od27 an27 : Option Addr} {sl27 : Array (Option Value)} {oc27 kV27 dc27 pm27 cd27 ct27 : Value} (a27 : PySem.W.nsIn K mainGlobals "_law_tops" = some (some (.ref f27))) (l27 : K.lookup f27 = some ⟨oc27, od27, .func (PySem.W.fnOf "_law_tops" "_law_tops" (defArgs (topS 27)) (defBody (topS 27)) (defScope (topS 27)) .none kV27 dc27 pm27 an27 cd27 ct27), sl27⟩) (c27 : PySem.W.codeIn K cd27 "_law_tops" = true) (k27 : PySem.W.keepIn K (.ref f27) = true)
    {f28 : Addr} {od28 an28 : Option Addr} {sl28 : Array (Option Value)} {oc28 kV28 dc28 pm28 cd28 ct28 : Value} (a28 : PySem.W.nsIn K mainGlobals "_law_least" = some (some (.ref f28))) (l28 : K.lookup f28 = some ⟨oc28, od28, .func (PySem.W.fnOf "_law_least" "_law_least" (defArgs (topS 28)) (defBody (topS 28)) (defScope (topS 28)) .none kV28 dc28 pm28 an28 cd28 ct28), sl28⟩) (c28 : PySem.W.codeIn K cd28 "_law_least" = true) (k28 : PySem.W.keepIn K (.ref f28) = true)
    {f29 : Addr} {od29 an29 : Option Addr} {sl29 : Array (Option Value)} {oc29 kV29 dc29 pm29 cd29 ct29 : Value} (a29 : PySem.W.nsIn K mainGlobals "_law_case_right" = some (some (.ref f29))) (l29 : K.lookup f29 = some ⟨oc29, od29, .func (PySem.W.fnOf "_law_case_right" "_law_case_right" (defArgs (topS 29)) (defBody (topS 29)) (defScope (topS 29)) .none kV29 dc29 pm29 an29 cd29 ct29), sl29⟩) (c29 : PySem.W.codeIn K cd29 "_law_case_right" = true) (k29 : PySem.W.keepIn K (.ref f29) = true)
    {f30 : Addr} {od30 an30 : Option Addr} {sl30 : Array (Option Value)} {oc30 kV30 dc30 pm30 cd30 ct30 : Value} (a30 : PySem.W.nsIn K mainGlobals "_law_right" = some (some (.ref f30))) (l30 : K.lookup f30 = some ⟨oc30, od30, .func (PySem.W.fnOf "_law_right" "_law_right" (defArgs (topS 30)) (defBody (topS 30)) (defScope (topS 30)) .none kV30 dc30 pm30 an30 cd30 ct30), sl30⟩) (c30 : PySem.W.codeIn K cd30 "_law_right" = true) (k30 : PySem.W.keepIn K (.ref f30) = true)
    {f31 : Addr} {od31 an31 : Option Addr} {sl31 : Array (Option Value)} {oc31 kV31 dc31 pm31 cd31 ct31 : Value} (a31 : PySem.W.nsIn K mainGlobals "law" = some (some (.ref f31))) (l31 : K.lookup f31 = some ⟨oc31, od31, .func (PySem.W.fnOf "law" "law" (defArgs (topS 31)) (defBody (topS 31)) (defScope (topS 31)) .none kV31 dc31 pm31 an31 cd31 ct31), sl31⟩) (c31 : PySem.W.codeIn K cd31 "law" = true) (k31 : PySem.W.keepIn K (.ref f31) = true)
    (z0 : PySem.W.nsIn K mainGlobals "list" = some none)
    (z1 : PySem.W.nsIn K mainGlobals "tuple" = some none)
    (z2 : PySem.W.nsIn K mainGlobals "isinstance" = some none)
    (z3 : PySem.W.nsIn K mainGlobals "max" = some none)
    (z4 : PySem.W.nsIn K mainGlobals "min" = some none)
    (z5 : PySem.W.nsIn K mainGlobals "reversed" = some none)
    (z6 : PySem.W.nsIn K mainGlobals "len" = some none)
    (z7 : PySem.W.nsIn K mainGlobals "abs" = some none)
    (z8 : PySem.W.nsIn K mainGlobals "int" = some none)
    (z9 : PySem.W.nsIn K mainGlobals "enumerate" = some none)
    (z10 : PySem.W.nsIn K mainGlobals "all" = some none)
    (z11 : PySem.W.nsIn K mainGlobals "zip" = some none)
    (z12 : PySem.W.nsIn K mainGlobals "bool" = some none)
    (z13 : PySem.W.nsIn K mainGlobals "str" = some none)
    (z14 : PySem.W.nsIn K mainGlobals "range" = some none)
    (z15 : PySem.W.nsIn K mainGlobals "ValueError" = some none)
    (gg : PySem.W.nsIn K mainGlobals "gcd" = some (some (.builtin "math.gcd")))
    {aO : Addr} {dO : Option Addr} {t1 t2 : Tok} {nO : Nat} {sO : Array (Option Value)} (gO : PySem.W.nsIn K mainGlobals "ONE" = some (some (.ref aO))) (lO : K.lookup aO = some ⟨.type "tuple", dO, .seq #[.int 1 t1, .int 1 t2] nO, sO⟩)
    {C : Addr} (gC : PySem.W.nsIn K mainGlobals "Unfit" = some (some (.ref C))) (xC : PySem.W.excIn K C [.type "ValueError", .type "Exception", .type "BaseException", .type "object"] "ValueError.__new__" = true) (kC : PySem.W.keepIn K (.ref C) = true)
    (bC : PySem.W.subIn K (.ref C) (.type "BaseException") = some true) (tC : PySem.W.typeIn K (.ref C) = some (.type "type")) (sC : PySem.W.subIn K (.ref C) (.ref C) = some true) (vC : PySem.W.subIn K (.ref C) (.type "ValueError") = some true)
    (e1 : PySem.W.findIn K (.ref C) "__getattribute__" = some (some (.builtin "BaseException.__getattribute__"))) (e2 : PySem.W.findIn K (.ref C) "__getattr__" = some none) (e3 : PySem.W.hasDictIn K C = true) (e4 : PySem.W.findIn K (.ref C) "__class__" = some (some (.builtin "object.__class__")))
    (e5 : PySem.W.specialIn K (.builtin "object.__class__") "__get__" = some (some (.builtin "getset_descriptor.__get__"))) (e6 : PySem.W.takesIn K (.builtin "object.__class__") = some true) (e7 : PySem.W.mroIn K C (.type "object") = some true) :
    ∃ fd : FuncData, (∀ (s : Shared) (v : Value), BindsTo s fd ⟨[v], []⟩ [("_law_script", v)]) ∧ ∀ base : Heap, K.In base → base.Ns mainGlobals mg → FnOk l.prog w K mg base CX0 6 fa fd ["_law_script"] (spLaw K) := by
  have e := hfa.symm.trans (PySem.W.mg_of X G a31)
  cases e
  have T : Tx K mg C := {
    gcd := PySem.W.mg_of X G gg
    nb := fun x hx => by
      simp only [List.mem_cons, List.not_mem_nil, or_false] at hx
      rcases hx with rfl | rfl | rfl | rfl | rfl | rfl | rfl | rfl | rfl | rfl | rfl | rfl | rfl | rfl | rfl | rfl
      · exact PySem.W.mg_none_of X G z0
      · exact PySem.W.mg_none_of X G z1
      · exact PySem.W.mg_none_of X G z2
      · exact PySem.W.mg_none_of X G z3
      · exact PySem.W.mg_none_of X G z4
      · exact PySem.W.mg_none_of X G z5
      · exact PySem.W.mg_none_of X G z6
      · exact PySem.W.mg_none_of X G z7
      · exact PySem.W.mg_none_of X G z8
      · exact PySem.W.mg_none_of X G z9
      · exact PySem.W.mg_none_of X G z10
      · exact PySem.W.mg_none_of X G z11
      · exact PySem.W.mg_none_of X G z12
      · exact PySem.W.mg_none_of X G z13
      · exact PySem.W.mg_none_of X G z14
      · exact PySem.W.mg_none_of X G z15
    one := ⟨aO, PySem.W.mg_of X G gO, fun H => .inr ⟨_, _, _, lO, rfl, rfl, by show 2 ≤ sizeLine; decide, .cons ⟨_, rfl⟩ (.cons ⟨_, rfl⟩ .nil)⟩⟩
    tuple_of := ⟨_, _, def_mk (st := topS 4) X G a4 l4 c4 k4 fun _ _ _ _ _ _ us hl => match us, hl with | [_], _ => rfl⟩
    fraction := ⟨_, _, def_mk (st := topS 7) X G a7 l7 c7 k7 fun _ _ _ _ _ _ us hl => match us, hl with | [_, _], _ => rfl⟩
    whole := ⟨_, _, def_mk (st := topS 8) X G a8 l8 c8 k8 fun _ _ _ _ _ _ us hl => match us, hl with | [_], _ => rfl⟩
    plus := ⟨_, _, def_mk (st := topS 9) X G a9 l9 c9 k9 fun _ _ _ _ _ _ us hl => match us, hl with | [_, _], _ => rfl⟩
    minus := ⟨_, _, def_mk (st := topS 10) X G a10 l10 c10 k10 fun _ _ _ _ _ _ us hl => match us, hl with | [_, _], _ => rfl⟩
    over := ⟨_, _, def_mk (st := topS 11) X G a11 l11 c11 k11 fun _ _ _ _ _ _ us hl => match us, hl with | [_, _], _ => rfl⟩
    is_less := ⟨_, _, def_mk (st := topS 12) X G a12 l12 c12 k12 fun _ _ _ _ _ _ us hl => match us, hl with | [_, _], _ => rfl⟩
    floor_of := ⟨_, _, def_mk (st := topS 13) X G a13 l13 c13 k13 fun _ _ _ _ _ _ us hl => match us, hl with | [_], _ => rfl⟩
    ceiling_of := ⟨_, _, def_mk (st := topS 14) X G a14 l14 c14 k14 fun _ _ _ _ _ _ us hl => match us, hl with | [_], _ => rfl⟩
    least_whole := ⟨_, _, def_mk (st := topS 15) X G a15 l15 c15 k15 fun _ _ _ _ _ _ us hl => match us, hl with | [_, _], _ => rfl⟩
    simplest := ⟨_, _, def_mk (st := topS 16) X G a16 l16 c16 k16 fun _ _ _ _ _ _ us hl => match us, hl with | [_, _], _ => rfl, kb_simplest⟩
    box := ⟨_, _, def_mk (st := topS 18) X G a18 l18 c18 k18 fun _ _ _ _ _ _ us hl => match us, hl with | [_, _], _ => rfl⟩
    take := ⟨_, _, def_mk (st := topS 19) X G a19 l19 c19 k19 fun _ _ _ _ _ _ us hl => match us, hl with | [_, _], _ => rfl⟩
    cells := ⟨_, _, def_mk (st := topS 20) X G a20 l20 c20 k20 fun _ _ _ _ _ _ us hl => match us, hl with | [_, _], _ => rfl⟩
    of := ⟨_, _, def_mk (st := topS 21) X G a21 l21 c21 k21 fun _ _ _ _ _ _ us hl => match us, hl with | [_, _], _ => rfl⟩
    same := ⟨_, _, def_mk (st := topS 22) X G a22 l22 c22 k22 fun _ _ _ _ _ _ us hl => match us, hl with | [_, _], _ => rfl⟩
    low := ⟨_, _, def_mk (st := topS 23) X G a23 l23 c23 k23 fun _ _ _ _ _ _ us hl => match us, hl with | [_, _], _ => rfl⟩
    add := ⟨_, _, def_mk (st := topS 24) X G a24 l24 c24 k24 fun _ _ _ _ _ _ us hl => match us, hl with | [_, _], _ => rfl⟩
    heard := ⟨_, _, def_mk (st := topS 25) X G a25 l25 c25 k25 fun _ _ _ _ _ _ us hl => match us, hl with | [_, _], _ => rfl⟩
    hand := ⟨_, _, def_mk (st := topS 26) X G a26 l26 c26 k26 fun _ _ _ _ _ _ us hl => match us, hl with | [], _ => rfl⟩
    tops := ⟨_, _, def_mk (st := topS 27) X G a27 l27 c27 k27 fun _ _ _ _ _ _ us hl => match us, hl with | [_, _, _], _ => rfl⟩
    least := ⟨_, _, def_mk (st := topS 28) X G a28 l28 c28 k28 fun _ _ _ _ _ _ us hl => match us, hl with | [_, _], _ => rfl⟩
    case := ⟨_, _, def_mk (st := topS 29) X G a29 l29 c29 k29 fun _ _ _ _ _ _ us hl => match us, hl with | [_, _], _ => rfl⟩
    right := ⟨_, _, def_mk (st := topS 30) X G a30 l30 c30 k30 fun _ _ _ _ _ _ us hl => match us, hl with | [_], _ => rfl⟩
    gC := PySem.W.mg_of X G gC
    xC := xC
    kC := kC
    bC := bC
    tC := tC
    eC := PySem.W.exm_ref bC e3 tC sC
    xc := ⟨e1, e2, bC, e3, e4, e5, e6, e7⟩
    vC := kit_ve vC }
  exact ⟨_, fun s v => .of_eq rfl, fun base _ _ => ok_law (fun_mk (st := topS 31) l31 c31 k31) T⟩
end KW
open PySem PySem.W PyProof.Rows
set_option maxRecDepth 100000 in
set_option maxHeartbeats 0 in
theorem PySem.Challenge.cw_everyformat_k10_whole_least_bottoms_betw_holds : PySem.Challenge.rw_everyformat_k10_whole_least_bottoms_betw.Holds := by
  w_on; o_law; k_head; (case hw => w_witness2)
  k_fill
  refine L2.walk_of (l := PySem.Challenge.rw_everyformat_k10_whole_least_bottoms_betw) (n := 63) (k := 6) (x := "_law_script") (CX := fun _ => L2.CX0) (sp := fun w => KW.spLaw _) rfl (by decide) rfl ⟨rfl, by decide, by decide⟩ (fun w h Y => PySem.W.kIn_of Y) ?F (fun _ _ a ns hl _ hS => ⟨a, ns, rfl, hS, hl, fun _ => rfl⟩) (fun _ _ _ _ _ h => h)
  case F =>
    intro w mg fa h KX G hmg
    refine' KW.all_mk KX G hmg ?a4 ?l4 ?c4 ?k4 ?a7 ?l7 ?c7 ?k7 ?a8 ?l8 ?c8 ?k8 ?a9 ?l9 ?c9 ?k9 ?a10 ?l10 ?c10 ?k10 ?a11 ?l11 ?c11 ?k11 ?a12 ?l12 ?c12 ?k12 ?a13 ?l13 ?c13 ?k13 ?a14 ?l14 ?c14 ?k14 ?a15 ?l15 ?c15 ?k15 ?a16 ?l16 ?c16 ?k16 ?a18 ?l18 ?c18 ?k18 ?a19 ?l19 ?c19 ?k19 ?a20 ?l20 ?c20 ?k20 ?a21 ?l21 ?c21 ?k21 ?a22 ?l22 ?c22 ?k22 ?a23 ?l23 ?c23 ?k23 ?a24 ?l24 ?c24 ?k24 ?a25 ?l25 ?c25 ?k25 ?a26 ?l26 ?c26 ?k26 ?a27 ?l27 ?c27 ?k27 ?a28 ?l28 ?c28 ?k28 ?a29 ?l29 ?c29 ?k29 ?a30 ?l30 ?c30 ?k30 ?a31 ?l31 ?c31 ?k31 ?z0 ?z1 ?z2 ?z3 ?z4 ?z5 ?z6 ?z7 ?z8 ?z9 ?z10 ?z11 ?z12 ?z13 ?z14 ?z15 ?gg ?gO ?lO ?gC ?xC ?kC ?bC ?tC ?sC ?vC ?e1 ?e2 ?e3 ?e4 ?e5 ?e6 ?e7
    (case a4 => k_is)
    (case l4 => k_is)
    (case c4 => k_is)
    (case k4 => k_is)
    (case a7 => k_is)
    (case l7 => k_is)
    (case c7 => k_is)
    (case k7 => k_is)
    (case a8 => k_is)
    (case l8 => k_is)
    (case c8 => k_is)
    (case k8 => k_is)
    (case a9 => k_is)
    (case l9 => k_is)
    (case c9 => k_is)
    (case k9 => k_is)
    (case a10 => k_is)
    (case l10 => k_is)
    (case c10 => k_is)
    (case k10 => k_is)
    (case a11 => k_is)
    (case l11 => k_is)
    (case c11 => k_is)
    (case k11 => k_is)
    (case a12 => k_is)
    (case l12 => k_is)
    (case c12 => k_is)
    (case k12 => k_is)
    (case a13 => k_is)
    (case l13 => k_is)
    (case c13 => k_is)
    (case k13 => k_is)
    (case a14 => k_is)
    (case l14 => k_is)
    (case c14 => k_is)
    (case k14 => k_is)
    (case a15 => k_is)
    (case l15 => k_is)
    (case c15 => k_is)
    (case k15 => k_is)
    (case a16 => k_is)
    (case l16 => k_is)
    (case c16 => k_is)
    (case k16 => k_is)
    (case a18 => k_is)
    (case l18 => k_is)
    (case c18 => k_is)
    (case k18 => k_is)
    (case a19 => k_is)
    (case l19 => k_is)
    (case c19 => k_is)
    (case k19 => k_is)
    (case a20 => k_is)
    (case l20 => k_is)
    (case c20 => k_is)
    (case k20 => k_is)
    (case a21 => k_is)
    (case l21 => k_is)
    (case c21 => k_is)
    (case k21 => k_is)
    (case a22 => k_is)
    (case l22 => k_is)
    (case c22 => k_is)
    (case k22 => k_is)
    (case a23 => k_is)
    (case l23 => k_is)
    (case c23 => k_is)
    (case k23 => k_is)
    (case a24 => k_is)
    (case l24 => k_is)
    (case c24 => k_is)
    (case k24 => k_is)
    (case a25 => k_is)
    (case l25 => k_is)
    (case c25 => k_is)
    (case k25 => k_is)
    (case a26 => k_is)
    (case l26 => k_is)
    (case c26 => k_is)
    (case k26 => k_is)
    (case a27 => k_is)
    (case l27 => k_is)
    (case c27 => k_is)
    (case k27 => k_is)
    (case a28 => k_is)
    (case l28 => k_is)
    (case c28 => k_is)
    (case k28 => k_is)
    (case a29 => k_is)
    (case l29 => k_is)
    (case c29 => k_is)
    (case k29 => k_is)
    (case a30 => k_is)
    (case l30 => k_is)
    (case c30 => k_is)
    (case k30 => k_is)
    (case a31 => k_is)
    (case l31 => k_is)
    (case c31 => k_is)
    (case k31 => k_is)
    (case z0 => k_is)
    (case z1 => k_is)
    (case z2 => k_is)
    (case z3 => k_is)
    (case z4 => k_is)
    (case z5 => k_is)
    (case z6 => k_is)
    (case z7 => k_is)
    (case z8 => k_is)
    (case z9 => k_is)
    (case z10 => k_is)
    (case z11 => k_is)
    (case z12 => k_is)
    (case z13 => k_is)
    (case z14 => k_is)
    (case z15 => k_is)
    (case gg => k_is)
    (case gO => k_is)
    (case lO => k_is)
    (case gC => k_is)
    (case xC => k_exc)
    (case kC => k_is)
    (case bC => k_is)
    (case tC => k_is)
    (case sC => first | rfl | k_is)
    (case vC => k_is)
    (case e1 => k_is)
    (case e2 => k_is)
    (case e3 => k_is)
    (case e4 => k_is)
    (case e5 => k_is)
    (case e6 => k_is)
    (case e7 => k_is)
