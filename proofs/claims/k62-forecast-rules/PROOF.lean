import PyProof.Rows.All
import Wide.All
import OpenK.AllK
import Wide.FinOn
import HandS.Codes
import HandS.Base
import HandS.List
import HandS.IsInst
import HandS.Text
import HandS.Call
import HandS.Comp
import HandS.Ends
import HandS.Iter
import HandS.Words
import HandS.WordsList
import HandS.Exc
import HandS.ExcOwn
import HandS.ExcCtx
import HandS.ExcInit
import HandS.ExcField
import HandS.ExcIs
import HandS.HotCalls
import KE.KExcIs
import HandS.Dict
import HandS.DictComp
import HandS.Flt
import HandS.TryOnly
import HandS.Gcd
import HandS.Wide
import HandS.Walk
import PySem.Challenge.RW_wholecables_k62_forecast_rules
set_option Elab.async false
set_option linter.all false
set_option maxRecDepth 100000
set_option maxHeartbeats 4000000
/-! Plans, their names, what a forecast tells of them. -/
namespace P62
open PySem SX

inductive Plan where
  | take (n : List Nat)
  | join (a b : Plan)
  | scale (p q : Nat) (a : Plan)
  | spare (a : Plan)
  | base (a : Plan)
  | thin (k : Nat) (a : Plan)
namespace Plan
def height : Plan → Nat
  | take _ => 1
  | join a b => max a.height b.height + 1
  | scale _ _ a => a.height + 1
  | spare a => a.height + 1
  | base a => a.height + 1
  | thin _ a => a.height + 1
def count : Plan → Nat
  | take _ => 1
  | join a b => 1 + a.count + b.count
  | scale _ _ a => 1 + a.count
  | spare a => 1 + a.count
  | base a => 1 + a.count
  | thin _ a => 1 + a.count
def names : Plan → List (List Nat)
  | take n => [n]
  | join a b => a.names ++ b.names
  | scale _ _ a => a.names
  | spare a => a.names
  | base a => a.names
  | thin _ a => a.names
def Good : Plan → Prop
  | take n => 1 ≤ n.length ∧ n.length ≤ 100
  | join a b => Good a ∧ Good b
  | scale _ _ a => Good a
  | spare a => Good a
  | base a => Good a
  | thin k a => (2 ≤ k ∧ k ≤ 10) ∧ Good a
end Plan
theorem count_pos : ∀ a : Plan, 1 ≤ a.count
  | .take _ => Nat.le_refl 1
  | .join a b => by simp only [Plan.count]; omega
  | .scale _ _ a => by simp only [Plan.count]; omega
  | .spare a => by simp only [Plan.count]; omega
  | .base a => by simp only [Plan.count]; omega
  | .thin _ a => by simp only [Plan.count]; omega
theorem height_pos : ∀ a : Plan, 1 ≤ a.height
  | .take _ => Nat.le_refl 1
  | .join a b => by simp only [Plan.height]; omega
  | .scale _ _ a => by simp only [Plan.height]; omega
  | .spare a => by simp only [Plan.height]; omega
  | .base a => by simp only [Plan.height]; omega
  | .thin _ a => by simp only [Plan.height]; omega
theorem names_pos : ∀ a : Plan, 1 ≤ a.names.length
  | .take _ => Nat.le_refl 1
  | .join a b => by
    have := names_pos a
    simp only [Plan.names, List.length_append]
    omega
  | .scale _ _ a => names_pos a
  | .spare a => names_pos a
  | .base a => names_pos a
  | .thin _ a => names_pos a
theorem names_le : ∀ a : Plan, a.names.length ≤ a.count
  | .take _ => Nat.le_refl 1
  | .join a b => by
    have := names_le a
    have := names_le b
    simp only [Plan.names, Plan.count, List.length_append]
    omega
  | .scale _ _ a => by have := names_le a; simp only [Plan.names, Plan.count]; omega
  | .spare a => by have := names_le a; simp only [Plan.names, Plan.count]; omega
  | .base a => by have := names_le a; simp only [Plan.names, Plan.count]; omega
  | .thin _ a => by have := names_le a; simp only [Plan.names, Plan.count]; omega

/-! ### fractions in lowest terms -/
structure Low (t b : Int) : Prop where
  tp : 0 < t
  bp : 0 < b
  co : Nat.gcd t.natAbs b.natAbs = 1
def gI (t b : Int) : Int := ((Nat.gcd t.natAbs b.natAbs : Nat) : Int)
theorem gI_pos {t b : Int} (hb : 0 < b) : 0 < gI t b := by
  have : 0 < Nat.gcd t.natAbs b.natAbs := Nat.gcd_pos_of_pos_right _ (by omega)
  unfold gI
  omega
theorem low_of {t b : Int} (ht : 0 < t) (hb : 0 < b) : Low (t / gI t b) (b / gI t b) := by
  obtain ⟨m, rfl⟩ : ∃ m : Nat, t = (m : Int) := ⟨t.toNat, by omega⟩
  obtain ⟨n, rfl⟩ : ∃ n : Nat, b = (n : Int) := ⟨b.toNat, by omega⟩
  have hg : 0 < Nat.gcd m n := Nat.gcd_pos_of_pos_right _ (by omega)
  have e1 : ((m : Int) / gI m n) = ((m / Nat.gcd m n : Nat) : Int) := rfl
  have e2 : ((n : Int) / gI m n) = ((n / Nat.gcd m n : Nat) : Int) := rfl
  rw [e1, e2]
  refine ⟨?_, ?_, ?_⟩
  · have := Nat.div_pos (Nat.le_of_dvd (by omega) (Nat.gcd_dvd_left m n)) hg
    omega
  · have := Nat.div_pos (Nat.le_of_dvd (by omega) (Nat.gcd_dvd_right m n)) hg
    omega
  · show Nat.gcd (m / Nat.gcd m n) (n / Nat.gcd m n) = 1
    rw [Nat.gcd_div (Nat.gcd_dvd_left m n) (Nat.gcd_dvd_right m n), Nat.div_self hg]
theorem low_one : Low 1 1 := ⟨by decide, by decide, by decide⟩
/-- equal values, equal terms -/
theorem low_uniq {t b t' b' : Int} (h : Low t b) (h' : Low t' b') (e : t * b' = t' * b) : t = t' ∧ b = b' := by
  obtain ⟨m, rfl⟩ : ∃ m : Nat, t = (m : Int) := ⟨t.toNat, by have := h.tp; omega⟩
  obtain ⟨n, rfl⟩ : ∃ n : Nat, b = (n : Int) := ⟨b.toNat, by have := h.bp; omega⟩
  obtain ⟨m', rfl⟩ : ∃ m : Nat, t' = (m : Int) := ⟨t'.toNat, by have := h'.tp; omega⟩
  obtain ⟨n', rfl⟩ : ∃ n : Nat, b' = (n : Int) := ⟨b'.toNat, by have := h'.bp; omega⟩
  have e1 : m * n' = m' * n := by
    have : ((m * n' : Nat) : Int) = ((m' * n : Nat) : Int) := e
    omega
  have c : Nat.Coprime m n := h.co
  have c' : Nat.Coprime m' n' := h'.co
  have d1 : m ∣ m' := c.dvd_of_dvd_mul_right (by rw [← e1]; exact Nat.dvd_mul_right m n')
  have d2 : m' ∣ m := c'.dvd_of_dvd_mul_right (by rw [e1]; exact Nat.dvd_mul_right m' n)
  have em : m = m' := Nat.dvd_antisymm d1 d2
  subst em
  have hm : 0 < m := by have := h.tp; omega
  have en : n' = n := Nat.eq_of_mul_eq_mul_left hm e1
  rw [en]
  exact ⟨rfl, rfl⟩
/-- below 2 ^ n -/
abbrev B (n : Nat) (x : Int) : Prop := x.natAbs < 2 ^ n
theorem B.mono {m n : Nat} {x : Int} (h : B m x) (hl : m ≤ n) : B n x := Nat.lt_of_lt_of_le h (Nat.pow_le_pow_right (by decide) hl)
theorem B.mul {m n : Nat} {x y : Int} (hx : B m x) (hy : B n y) : B (m + n) (x * y) := by
  show (x * y).natAbs < 2 ^ (m + n)
  rw [Int.natAbs_mul, Nat.pow_add]
  exact Nat.mul_lt_mul'' hx hy
theorem B.le {n : Nat} {x y : Int} (h0 : 0 ≤ x) (h : x ≤ y) (hy : B n y) : B n x := Nat.lt_of_le_of_lt (by omega) hy
theorem B.div {n : Nat} {x g : Int} (h0 : 0 ≤ x) (hg : 0 < g) (hx : B n x) : B n (x / g) := B.le (Int.ediv_nonneg h0 (by omega)) (Int.ediv_le_self g h0) hx
theorem B.gcd {n : Nat} {t b : Int} (hb : 0 < b) (h : B n b) : B n (gI t b) := by
  refine B.le (by have := gI_pos (t := t) hb; omega) ?_ h
  have : Nat.gcd t.natAbs b.natAbs ≤ b.natAbs := Nat.le_of_dvd (by omega) (Nat.gcd_dvd_right _ _)
  unfold gI
  omega

/-! ### the forecast -/
structure Fc where
  most : Int
  peak : Int
  top : Int
  bot : Int
def imax (i j : Int) : Int := if j > i then j else i
def imin (i j : Int) : Int := if j < i then j else i
def wl (most hi : Int) : List Int := (List.range (hi + 1).toNat).map fun (i : Nat) => 1 + 2 * (0 + (i : Int)) * (most - (0 + (i : Int)))
def maxL (l : List Int) : Int := l.foldl max 0
def fTake (c : Int) : Fc := ⟨c, c, 1, 1⟩
def fJoin (a b : Fc) : Fc :=
  if a.top * b.bot - b.top * a.bot > 0 then ⟨a.most + b.most, imax (imax (a.most + b.most) a.peak) b.peak, a.top, a.bot⟩
  else ⟨a.most + b.most, imax (imax (a.most + b.most) a.peak) b.peak, b.top, b.bot⟩
def fTimes (t b : Int) (a : Fc) (m : Int) : Fc := ⟨m, a.peak, a.top * t / gI (a.top * t) (a.bot * b), a.bot * b / gI (a.top * t) (a.bot * b)⟩
def gradeT (k : Int) : Int := (k + 1) * (9 * (k - 1) * (k + 1) + k)
def gradeB (k : Int) : Int := 9 * (k - 1) * (k - 1) * (k - 1)
def fThin (k size : Int) (a : Fc) : Fc := fTimes (gradeT k / gI (gradeT k) (gradeB k)) (gradeB k / gI (gradeT k) (gradeB k)) a (imin a.most (k * k * imin size a.most))
def fSpare (size : Int) (a : Fc) : Fc := ⟨imin a.most (imin size a.most * (imin size a.most + 1) / 2), a.peak, a.top, a.bot⟩
def fBase (size : Int) (a : Fc) : Fc := fTimes (maxL (wl a.most (imin size a.most))) 1 a (imin size a.most)
def fc (kn : List Nat → Int) (size : Int) : Plan → Fc
  | .take n => fTake (kn n)
  | .join a b => fJoin (fc kn size a) (fc kn size b)
  | .scale _ _ a => fc kn size a
  | .thin k a => fThin k size (fc kn size a)
  | .spare a => fSpare size (fc kn size a)
  | .base a => fBase size (fc kn size a)
/-- how large its numbers are -/
structure Fb (h : Nat) (a : Fc) : Prop where
  m0 : 0 ≤ a.most
  m1 : B (402 + h) a.most
  low : Low a.top a.bot
  t1 : B (450 * h) a.top
  b1 : B (450 * h) a.bot
theorem Fb.mono {m n : Nat} {a : Fc} (h : Fb m a) (hl : m ≤ n) : Fb n a := ⟨h.m0, h.m1.mono (by omega), h.low, h.t1.mono (by omega), h.b1.mono (by omega)⟩
theorem take_b {c : Int} (h0 : 0 ≤ c) (h : B 402 c) : Fb 1 (fTake c) := ⟨h0, B.mono h (by decide), low_one, (by show 1 < 2 ^ 450; decide +kernel), (by show 1 < 2 ^ 450; decide +kernel)⟩
theorem join_b {h : Nat} {a b : Fc} (x : Fb h a) (y : Fb h b) : Fb (h + 1) (fJoin a b) := by
  have s0 : 0 ≤ a.most + b.most := by have := x.m0; have := y.m0; omega
  have s1 : B (402 + (h + 1)) (a.most + b.most) := by
    have h1 : a.most.natAbs < 2 ^ (402 + h) := x.m1
    have h2 : b.most.natAbs < 2 ^ (402 + h) := y.m1
    have := x.m0
    have := y.m0
    show (a.most + b.most).natAbs < 2 ^ (402 + h + 1)
    rw [Nat.pow_succ]
    omega
  unfold fJoin
  split
  · exact ⟨s0, s1, x.low, x.t1.mono (by omega), x.b1.mono (by omega)⟩
  · exact ⟨s0, s1, y.low, y.t1.mono (by omega), y.b1.mono (by omega)⟩
theorem times_b {h : Nat} {a : Fc} {t b m : Int} (x : Fb h a) (ht : 0 < t) (hb : 0 < b) (bt : B 450 t) (bb : B 450 b) (m0 : 0 ≤ m) (m1 : B (402 + (h + 1)) m) : Fb (h + 1) (fTimes t b a m) := by
  have p1 : 0 < a.top * t := Int.mul_pos x.low.tp ht
  have p2 : 0 < a.bot * b := Int.mul_pos x.low.bp hb
  have g := gI_pos (t := a.top * t) p2
  exact ⟨m0, m1, low_of p1 p2, ((x.t1.mul bt).mono (by omega)).div (Int.le_of_lt p1) g, ((x.b1.mul bb).mono (by omega)).div (Int.le_of_lt p2) g⟩
theorem imin_le {i j : Int} : imin i j ≤ j := by unfold imin; split <;> omega
theorem imin_le' {i j : Int} : imin i j ≤ i := by unfold imin; split <;> omega
theorem imin_nn {i j : Int} (h1 : 0 ≤ i) (h2 : 0 ≤ j) : 0 ≤ imin i j := by unfold imin; split <;> omega
theorem grade_ok {k : Int} (h2 : 2 ≤ k) (h10 : k ≤ 10) : 0 < gradeT k ∧ 0 < gradeB k ∧ gradeT k < 65536 ∧ gradeB k < 65536 := by
  have : k = 2 ∨ k = 3 ∨ k = 4 ∨ k = 5 ∨ k = 6 ∨ k = 7 ∨ k = 8 ∨ k = 9 ∨ k = 10 := by omega
  rcases this with rfl | rfl | rfl | rfl | rfl | rfl | rfl | rfl | rfl <;> decide
theorem B_small {x : Int} (h0 : 0 ≤ x) (h : x < 65536) : B 450 x := B.mono (m := 16) (by show x.natAbs < 65536; omega) (by decide)
theorem thin_b {h : Nat} {a : Fc} {k size : Int} (x : Fb h a) (h2 : 2 ≤ k) (h10 : k ≤ 10) (hs : 0 ≤ size) : Fb (h + 1) (fThin k size a) := by
  obtain ⟨p1, p2, q1, q2⟩ := grade_ok h2 h10
  have l := low_of p1 p2
  have g := gI_pos (t := gradeT k) p2
  have nn := imin_nn x.m0 (Int.mul_nonneg (Int.mul_nonneg (show 0 ≤ k by omega) (show 0 ≤ k by omega)) (imin_nn hs x.m0))
  exact times_b x l.tp l.bp ((B_small (by omega) q1).div (by omega) g) ((B_small (by omega) q2).div (by omega) g) nn (B.le nn imin_le' (x.m1.mono (by omega)))
theorem spare_b {h : Nat} {a : Fc} {size : Int} (x : Fb h a) (hs : 0 ≤ size) : Fb (h + 1) (fSpare size a) := by
  have i0 := imin_nn hs x.m0
  have nn : 0 ≤ imin a.most (imin size a.most * (imin size a.most + 1) / 2) := imin_nn x.m0 (Int.ediv_nonneg (Int.mul_nonneg i0 (by omega)) (by decide))
  exact ⟨nn, B.le nn imin_le' (x.m1.mono (by omega)), x.low, x.t1.mono (by omega), x.b1.mono (by omega)⟩
theorem foldl_max (l : List Int) : ∀ z : Int, z ≤ l.foldl max z ∧ (∀ y ∈ l, y ≤ l.foldl max z) ∧ (l.foldl max z = z ∨ l.foldl max z ∈ l) := by
  induction l with
  | nil => exact fun z => ⟨Int.le_refl z, (fun y h => nomatch h), .inl rfl⟩
  | cons x l ih =>
    intro z
    obtain ⟨h1, h2, h3⟩ := ih (max z x)
    rw [List.foldl_cons]
    refine ⟨by omega, fun y hy => ?_, ?_⟩
    · rcases List.mem_cons.mp hy with rfl | hy
      · omega
      · exact h2 y hy
    · rcases h3 with h3 | h3
      · rw [h3]
        rcases Int.le_total z x with h | h
        · exact .inr (by rw [Int.max_eq_right h]; exact List.mem_cons_self)
        · exact .inl (Int.max_eq_left h)
      · exact .inr (List.mem_cons_of_mem _ h3)
theorem maxL_is {l : List Int} {m : Int} (h1 : m ∈ l) (h2 : ∀ y ∈ l, y ≤ m) (h0 : 0 ≤ m) : m = maxL l := by
  obtain ⟨_, a, b⟩ := foldl_max l 0
  have c := a m h1
  unfold maxL
  rcases b with b | b
  · omega
  · have := h2 _ b
    omega
theorem worst_b {most hi : Int} (h0 : 0 ≤ hi) (h10 : hi ≤ 10) (hm : hi ≤ most) : 1 ≤ maxL (wl most hi) ∧ maxL (wl most hi) ≤ 1 + 20 * most := by
  obtain ⟨_, a, b⟩ := foldl_max (wl most hi) 0
  have one : (1 : Int) ∈ wl most hi := by
    unfold wl
    refine List.mem_map.mpr ⟨(0 : Nat), List.mem_range.mpr (by omega), ?_⟩
    show 1 + 2 * (0 + 0) * (most - (0 + 0)) = (1 : Int)
    omega
  have c := a 1 one
  refine ⟨c, ?_⟩
  unfold maxL at *
  rcases b with b | b
  · omega
  · unfold wl at b
    obtain ⟨i, hi1, e⟩ := List.mem_map.mp b
    have hr := List.mem_range.mp hi1
    rw [← wl] at e
    rw [← e]
    have hi2 : (i : Int) ≤ 10 := by omega
    have p1 : 2 * (0 + (i : Int)) * (most - (0 + (i : Int))) ≤ 20 * (most - (0 + (i : Int))) := Int.mul_le_mul_of_nonneg_right (by omega) (by omega)
    omega
theorem base_b {h : Nat} {a : Fc} {size : Int} (x : Fb h a) (h12 : h ≤ 12) (hs : 0 ≤ size) (hs10 : size ≤ 10) : Fb (h + 1) (fBase size a) := by
  have i0 := imin_nn hs x.m0
  obtain ⟨w1, w2⟩ := worst_b i0 (Int.le_trans imin_le' hs10) (imin_le (i := size) (j := a.most))
  refine times_b x (by omega) (by decide) ?_ (B_small (by decide) (by decide)) i0 (B.le i0 imin_le (x.m1.mono (by omega)))
  have hm : a.most.natAbs < 2 ^ (402 + h) := x.m1
  have hm2 : a.most.natAbs < 2 ^ 414 := Nat.lt_of_lt_of_le hm (Nat.pow_le_pow_right (by decide) (by omega))
  refine B.mono (m := 419) ?_ (by decide)
  show (maxL (wl a.most (imin size a.most))).natAbs < 2 ^ 419
  rw [show (2 : Nat) ^ 419 = 2 ^ 414 * 32 from rfl]
  have := x.m0
  omega
theorem fc_b {kn : List Nat → Int} {size : Int} (hs : 0 ≤ size) (hs10 : size ≤ 10) (hk : ∀ n, 0 ≤ kn n ∧ B 402 (kn n)) : ∀ {pl : Plan}, pl.Good → pl.height ≤ 12 → Fb pl.height (fc kn size pl)
  | .take n, _, _ => take_b (hk n).1 (hk n).2
  | .join a b, g, h => by
    simp only [Plan.height] at h
    have x := fc_b hs hs10 hk g.1 (by omega)
    have y := fc_b hs hs10 hk g.2 (by omega)
    exact join_b (x.mono (Nat.le_max_left _ _)) (y.mono (Nat.le_max_right _ _))
  | .scale _ _ a, g, h => by
    simp only [Plan.height] at h
    exact (fc_b hs hs10 hk (pl := a) g (by omega)).mono (Nat.le_succ _)
  | .spare a, g, h => by
    simp only [Plan.height] at h
    exact spare_b (fc_b hs hs10 hk (pl := a) g (by omega)) hs
  | .base a, g, h => by
    simp only [Plan.height] at h
    exact base_b (fc_b hs hs10 hk (pl := a) g (by omega)) (by omega) hs hs10
  | .thin k a, g, h => by
    simp only [Plan.height] at h
    exact thin_b (fc_b hs hs10 hk (pl := a) g.2 (by omega)) (by have := g.1; omega) (by have := g.1; omega) hs
/-! ### the steps of the greatest common divisor -/
/-- behind i steps from (a0, b0): (a, b) -/
def Eu (a0 b0 : Nat) (i a b : Nat) : Prop := Nat.gcd a b = Nat.gcd a0 b0 ∧ ((i = 0 ∧ a = a0 ∧ b = b0) ∨ (1 ≤ i ∧ b < a ∧ a * b * 2 ^ (i - 1) ≤ 2 ^ 13000))
theorem eu_start {a0 b0 : Nat} : Eu a0 b0 0 a0 b0 := ⟨rfl, .inl ⟨rfl, rfl, rfl⟩⟩
theorem eu_step {a0 b0 i a b : Nat} (hb0 : b0 < 2 ^ 6500) (h : Eu a0 b0 i a b) (hb : b ≠ 0) : Eu a0 b0 (i + 1) b (a % b) := by
  obtain ⟨g, h⟩ := h
  have hlt : a % b < b := Nat.mod_lt _ (by omega)
  refine ⟨by rw [← g, Nat.gcd_comm b, ← Nat.gcd_rec b a, Nat.gcd_comm], .inr ⟨by omega, hlt, ?_⟩⟩
  rw [show i + 1 - 1 = i by omega]
  rcases h with ⟨rfl, rfl, rfl⟩ | ⟨hi, hab, hm⟩
  · have h1 : b * (a % b) ≤ b * b := Nat.mul_le_mul_left b (by omega)
    have h2 : b * b ≤ 2 ^ 6500 * 2 ^ 6500 := Nat.mul_le_mul (by omega) (by omega)
    rw [← Nat.pow_add] at h2
    rw [Nat.pow_zero, Nat.mul_one]
    exact Nat.le_trans h1 h2
  · have h1 : 2 * (a % b) ≤ a := by
      have e := Nat.div_add_mod a b
      have q : 1 ≤ a / b := Nat.div_pos (by omega) (by omega)
      have := Nat.mul_le_mul_left b q
      omega
    have h2 : b * (a % b) * 2 ≤ a * b := by
      rw [Nat.mul_assoc, Nat.mul_comm a b, Nat.mul_comm (a % b) 2]
      exact Nat.mul_le_mul_left b h1
    have e : 2 ^ i = 2 * 2 ^ (i - 1) := by
      rw [← Nat.pow_succ', Nat.succ_eq_add_one, show i - 1 + 1 = i by omega]
    rw [e, ← Nat.mul_assoc]
    exact Nat.le_trans (Nat.mul_le_mul_right _ h2) hm
theorem eu_end {a0 b0 a b : Nat} (h : Eu a0 b0 100000 a b) : b = 0 := by
  obtain ⟨_, h⟩ := h
  rcases h with ⟨h, _⟩ | ⟨_, hab, hm⟩
  · exact absurd h (by decide)
  · rcases Nat.eq_zero_or_pos b with h | h
    · exact h
    · exfalso
      have h1 : 1 ≤ a * b := Nat.mul_pos (by omega) h
      have h2 : 2 ^ (100000 - 1) ≤ a * b * 2 ^ (100000 - 1) := Nat.le_mul_of_pos_left _ h1
      have h3 : (2 : Nat) ^ 13000 < 2 ^ (100000 - 1) := Nat.pow_lt_pow_right (by decide) (by decide)
      omega
theorem eu_gcd {a0 b0 i a : Nat} (h : Eu a0 b0 i a 0) : a = Nat.gcd a0 b0 := by
  rw [← h.1, Nat.gcd_zero_right]
end P62
/-! A rule for «match e: case 'a': .. case _: ..» over a text. -/
namespace L2
open PySem PySem.Spec PyProof.Rows
/-- the cases of a match, of a value -/
structure PM (X : Cx) (cs : List MatchCase) (t : V → TS) : Prop where
  run : ∀ (pins : List (Addr × Obj)) (s : Shared) (σ : St) (H : Hp) (D : Ends) (v : V) (u : Value) (first : Bool), Inv X pins σ H s → RelV v u → t v D σ H → wpAny (model X.prog X.w) X.A (matchCases cs X.env u first) (SP X pins D) X.xe s
section
variable {X : Cx}
def tMNil : V → TS := fun _ D σ H => D.nx σ H
def tMStr (x : Str) (tb : TS) (tr : V → TS) : V → TS := fun v D σ H => ∃ y, v = .str y ∧ if decide (y = x) = true then tb D σ H else tr (.str y) D σ H
def tMAny (tb : TS) : V → TS := fun _ D σ H => tb D σ H
theorem pm_nil : PM X [] tMNil := ⟨fun pins s σ H D v u first I r h => wpAny_matchCases_nil ⟨σ, H, I, h⟩⟩
theorem pm_str {x : Str} {j p1 p2} {body : List Stmt} {rest : List MatchCase} {tb : TS} {tr : V → TS} (hb : PSs X body tb) (hr : PM X rest tr) :
    PM X (⟨.MatchValue (.Constant (.str x) j p1) p2, none, body⟩ :: rest) (tMStr x tb tr) := by
  refine ⟨fun pins s σ H D v u first I r h => ?_⟩
  obtain ⟨y, rfl, q⟩ := h
  obtain ⟨t, rfl⟩ := r
  refine wpAny_matchCases_cons (wpAny_matchPattern_Value (Calls.Constant_str ?_))
  refine eq_str ?_
  refine wpAny_truthy_bool ?_
  by_cases e : y = x
  · have e1 : (y == x) = true := by rw [e]; exact beq_self_eq_true x
    rw [if_pos (decide_eq_true e)] at q
    first
      | rw [e1]
      | (rw [decide_eq_true e])
    show wpAny _ X.A (assignInOrder [] []) _ _ _
    exact wpAny_assignInOrder_none (hb.run pins _ σ H D (I.tok _) q)
  · have e1 : (y == x) = false := beq_eq_false_iff_ne.mpr e
    rw [if_neg (by rw [decide_eq_false e]; exact Bool.false_ne_true)] at q
    first
      | rw [e1]
      | (rw [decide_eq_false e])
    exact hr.run pins _ σ H D (.str y) _ false (I.tok _) ⟨t, rfl⟩ q
theorem pm_any {p2} {body : List Stmt} {tb : TS} (hb : PSs X body tb) : PM X [⟨.MatchAs none none p2, none, body⟩] (tMAny tb) := by
  refine ⟨fun pins s σ H D v u first I r h => ?_⟩
  refine wpAny_matchCases_cons (wpAny_matchPattern_Capture ?_)
  show wpAny _ X.A (assignInOrder [] []) _ _ _
  exact wpAny_assignInOrder_none (hb.run pins _ σ H D I h)
def tMatch (te : TE) (t : V → TS) : TS := fun D σ H => te σ H fun v H1 => t v D σ H1
theorem ps_match {e : Expr} {cs : List MatchCase} {pos : Pos} {te : TE} {t : V → TS} (he : PE X e te) (hc : PM X cs t) : PS X (.Match e cs pos) (tMatch te t) := by
  refine ⟨fun pins s σ H D I h => ?_⟩
  refine wpAny_Match (thn (he.run pins s σ H _ I h) fun u s1 ⟨v, H1, I1, r1, q1⟩ => ?_)
  exact hc.run pins s1 σ H1 D v u true I1 r1 q1
/-! the rules that speak of the written part, with K said outright: for a comprehension's block, where the context is bound -/
section
variable {X : Cx}
theorem ix_tupK {K : PySem.W.Frag} (h : X.K = K) : IxR X (rIxT K) := by subst h; exact ix_tup
theorem ix_listK {K : PySem.W.Frag} (h : X.K = K) : IxR X (rIxL K) := by subst h; exact ix_list
theorem sl_listK {K : PySem.W.Frag} (h : X.K = K) : SlR X (rSlL K) := by subst h; exact sl_list
theorem sl_tupK {K : PySem.W.Frag} (h : X.K = K) : SlR X (rSlT K) := by subst h; exact sl_tup
theorem op_in_seqK {K : PySem.W.Frag} (h : X.K = K) : OpR X (compareOp .In) (rIn K false) := by subst h; exact op_in_seq
theorem op_notIn_seqK {K : PySem.W.Frag} (h : X.K = K) : OpR X (compareOp .NotIn) (rIn K true) := by subst h; exact op_notIn_seq
theorem call_len_seqK {K : PySem.W.Frag} (h : X.K = K) : CallR X (.builtin "len") (fun xs H Q => ∃ p ys, xs = [.ref p] ∧ (SqL K H p ys ∨ SqT K H p ys) ∧ Q (.int ys.length) H) := by subst h; exact call_len_seq
theorem call_isiK1 {K : PySem.W.Frag} (h : X.K = K) : CallR X (.builtin "isinstance") (rIsi K) := by subst h; exact call_isi
theorem cr_allK {K : PySem.W.Frag} (h : X.K = K) (hc : X.calm = true) : CallR X (.builtin "all") (rAll K) := by subst h; exact cr_all hc
theorem cr_anyK {K : PySem.W.Frag} (h : X.K = K) (hc : X.calm = true) : CallR X (.builtin "any") (rAny K) := by subst h; exact cr_any hc
theorem cr_sumK {K : PySem.W.Frag} (h : X.K = K) (hc : X.calm = true) : CallR X (.builtin "sum") (rSum K) := by subst h; exact cr_sum hc
end
end
end L2
/-! Own errors: made, raised, caught, asked of; defs that raise; defs that are called in a suite. All over the errors whose context is None. -/
namespace EX
open PySem PySem.Spec PyProof.Rows L2
/-- a def that may raise, by its body -/
theorem okR {P : Program} {w : World} {K : PySem.W.Frag} {mg : Str → Option Value} {base : Heap} {x qual : Str} {st : Stmt} {f : Addr} {fd : FuncData} {N ps : List Str} {k : Nat} {sp : Sp} (F : Fun K x qual st f fd) (S : FnScope N ps (defScope st))
    (len : ∀ vs H Q E, sp vs H Q E → vs.length = ps.length)
    (body : ∀ (cdv : Value) (A : Around) (outer : List Env) (s : Shared) (H : Hp) (vs : List V) (Q : VK) (E : XK), Room k (A.deeper (envOfC qual (defScope st) s.heap.objs.size f cdv)) → sp vs H Q E →
      ∃ t, PSs (cxOf (L2N.CX P w) P w K mg base N qual (defScope st) f cdv A outer s H E) (defBody st) t ∧ t { nx := fun _ H' => Q .non H', rt := Q } (start N vs) H) :
    FnOk P w K mg base (L2N.CX P w) (k + 1) f fd ps sp := by
  obtain ⟨oc, od, kV, doc, pm, an, cdv, ct, osl, rfl, lk, hcd⟩ := F.ex
  exact fn_of lk hcd S len fun A outer s H vs Q E hr hsp => body cdv A outer s H vs Q E hr hsp
/-- a def that does not raise, called while an error is handled, by its body -/
theorem okH {P : Program} {w : World} {K : PySem.W.Frag} {mg : Str → Option Value} {base : Heap} {x qual : Str} {st : Stmt} {f : Addr} {fd : FuncData} {N ps : List Str} {k : Nat} {sp : Sp} (F : Fun K x qual st f fd) (S : FnScope N ps (defScope st))
    (len : ∀ vs H Q E, sp vs H Q E → vs.length = ps.length)
    (body : ∀ (cdv : Value) (A : Around) (outer : List Env) (s : Shared) (H : Hp) (vs : List V) (Q : VK) (E : XK) (p : Addr × Obj), L2H.RoomH k (A.deeper (envOfC qual (defScope st) s.heap.objs.size f cdv)) → L2H.Hot1 A p → sp vs H Q E →
      ∃ t, PSs (L2H.cxH CX0 P w K mg base N qual (defScope st) f cdv A outer s H E p).nox (defBody st) t ∧ t { nx := fun _ H' => Q .non H', rt := Q } (start N vs) H) :
    L2H.FnH P w K mg base CX0 (k + 1) f fd ps sp := by
  obtain ⟨oc, od, kV, doc, pm, an, cdv, ct, osl, rfl, lk, hcd⟩ := F.ex
  refine L2H.fn_ofH lk hcd S len fun A outer s H vs Q E p hot hr hsp => ?_
  obtain ⟨t, h, q⟩ := body cdv A outer s H vs Q E p hr hot hsp
  exact ⟨t, h.nox, q⟩
/-- defs as their callers see them: one that may raise; one that is called in a suite -/
def CalX (P : Program) (w : World) (K : PySem.W.Frag) (mg : Str → Option Value) (base : Heap) (k : Nat) (x : Str) (ps : List Str) (sp : Sp) : Prop :=
  ∃ (f : Addr) (fd : FuncData), FnOk P w K mg base (L2N.CX P w) k f fd ps sp ∧ mg x = some (.ref f) ∧ PySem.W.keepIn K (.ref f) = true ∧ Binds K fd ps []
def CalH (P : Program) (w : World) (K : PySem.W.Frag) (mg : Str → Option Value) (base : Heap) (k : Nat) (x : Str) (ps : List Str) (sp : Sp) : Prop :=
  ∃ (f : Addr) (fd : FuncData), L2H.FnH P w K mg base CX0 k f fd ps sp ∧ mg x = some (.ref f) ∧ PySem.W.keepIn K (.ref f) = true ∧ Binds K fd ps []
section
variable {X : Cx} {k : Nat} {x : Str} {ps : List Str} {sp : Sp} {p pos : Pos} {e : Expr} {es : List Expr} {t : TA} {W : WX}
/-- f(..) that may raise; W: what is wished of what is raised -/
theorem pe_calX (C : CalX X.prog X.w X.K X.mg X.base k x ps sp) (hr : Room k X.A) (hg : Gl X x) (tk : L2N.Takes X W) (ha : PA X (e :: es) t)
    (hdb : (x == ("__debug__" : Str)) = false := by decide) (he : starEach (e :: es) X.env = (false, eval e X.env) :: starEach es X.env := by rfl) (hpl : (backTo pos (starEach es X.env)).any (·.1) = false := by rfl) :
    PE X (.Call (.Name x p) (e :: es) [] pos) (tCallS sp (WE W) t) := by
  obtain ⟨f, fd, G, m, kp, b⟩ := C
  exact pe_callS G hr hg m kp b (L2N.passAt tk) ha hdb he hpl
theorem passH {X : Cx} {σ : L2.St} : PassesAt CX0 X σ E0 := fun _ _ _ _ _ _ h => h.elim
/-- f(..) in a suite -/
theorem pe_calH (C : CalH X.prog X.w X.K X.mg X.base k x ps sp) (hr : L2H.RoomH k X.A) (hc : L2H.HotC X) (hg : Gl X x) (ha : PA X (e :: es) t)
    (hdb : (x == ("__debug__" : Str)) = false := by decide) (he : starEach (e :: es) X.env = (false, eval e X.env) :: starEach es X.env := by rfl) (hpl : (backTo pos (starEach es X.env)).any (·.1) = false := by rfl) :
    PE X (.Call (.Name x p) (e :: es) [] pos) (tCallS sp (fun _ => E0) t) := by
  obtain ⟨f, fd, G, m, kp, b⟩ := C
  exact L2H.pe_callH G hr hc hg m kp b (fun _ => passH) ha hdb he hpl
/-- the suite of an error whose context is None bears it -/
theorem hot_of {X : Cx} {a : Addr} {oe : Obj} {cls : Value} {d : Option Addr} {pn : List (Addr × Obj)} (hz : L2N.Zn cls d oe) (hf : ∃ vs, oe.data = .fields vs) : L2H.HotC (X.suite a ((a, oe) :: pn)) := by
  obtain ⟨vs, e⟩ := hf
  exact ⟨(a, oe), ⟨rfl, vs, e, hz.2.2 vs e⟩, List.mem_cons_self⟩
theorem roomS {X : Cx} {k : Nat} {a : Addr} {pn : List (Addr × Obj)} (hr : Room k X.A) : L2H.RoomH k (X.suite a pn).A := ⟨hr.dp, hr.un⟩
/-- nothing is let out -/
theorem takesN {X : Cx} : L2N.Takes X (fun _ _ _ _ => False) := fun _ _ h => by
  obtain ⟨_, _, _, _, _, _, _, _, _, _, _, _, _, _, _, _, z⟩ := h
  exact z.elim
theorem passN {X : Cx} {E : XK} : Passes CX0 X E := fun _ _ _ _ _ _ _ h => h.elim
end
/-! ### making -/
section
variable {X : Cx} {C : Addr} {bmB : List Value} {B newId initId : String}
/-- X(), an own class without an __init__ -/
theorem pmk0 {x : Str} {p pos : Pos} (F : ExcBaseFacts B newId initId bmB) (q : PySem.W.excIn X.K C bmB newId = true) (gC : X.mg x = some (.ref C)) (kC : PySem.W.keepIn X.K (.ref C) = true) (r : Raises X (.ref C)) (hg : Gl X x)
    (hdb : (x == ("__debug__" : Str)) = false := by decide) : L2N.PMk X (.Call (.Name x p) [] [] pos) (fun _ H Q => Q (.ref C) none H) := by
  intro pins s σ H Q I h
  refine wpAny_Call_Name_kw (ld_glob I hg gC (PySem.W.callWith_K0 I.kIn kC ?_) hdb)
  obtain ⟨bm, N, nm, qn, bs, hdct, sn, sub, ab, col, dd, k0, k1, k2, k3, k5, mN, hC, hN, hni, T⟩ := exc_obj I.kIn q
  exact wpAny_call_exc_subT F T hC hN hni (fun h' e hm => L2N.mk_of I hm r h (I.hok.gone hm.new)) (Nat.zero_le _)
/-- X(..), an own class with an __init__ -/
theorem pmkI {CX : CXT} {x : Str} {fI : Addr} {k : Nat} {fd : FuncData} {ps : List Str} {sp : Sp} {e : Expr} {es : List Expr} {ta : TA} {p pos : Pos} (T : OexC X.K C) (iC : PySem.W.findIn X.K (.ref C) "__init__" = some (some (.ref fI)))
    (tI : PySem.W.typeIn X.K (.ref fI) = some (.type "function")) (F1 : FnOk X.prog X.w X.K X.mg X.base CX k fI fd ps sp) (hr : Room (k + 1) X.A) (hb : Binds X.K fd ps []) (hx : Passes CX X (fun _ _ _ => False)) (hg : Gl X x) (hm : X.mg x = some (.ref C)) (ha : PA X (e :: es) ta)
    (hdb : (x == ("__debug__" : Str)) = false := by decide) (he : starEach (e :: es) X.env = (false, eval e X.env) :: starEach es X.env := by rfl) (hpl : (backTo pos (starEach es X.env)).any (·.1) = false := by rfl) :
    L2N.PMk X (.Call (.Name x p) (e :: es) [] pos) (tMkO C sp [] ta) := by
  intro pins s σ H Q I h
  obtain ⟨nm, q, N, bs, bm, sn, sub, ab, col, dd, k0, k1, k2, k3, k5, hC, hbm⟩ := T.cls
  refine wpAny_Call_Name_kw (ld_glob I hg hm (PySem.W.callWith_K (h₀ := X.base) I.ok.mod.kin T.kC (thn (ha.run pos pins s σ H _ I h) fun us s1 hh => ?_) he hpl) hdb)
  obtain ⟨vs, H1, I1, r1, hz, q1⟩ := hh
  refine ⟨I1.kIn, ?_⟩
  show wpAny _ _ (call (.ref C) us) _ _ _
  obtain ⟨hp, g, dr, tk, os⟩ := s1
  have fresh := I1.hok.fresh (Nat.le_succ hp.objs.size)
  have hq := q1 (hp.objs.size + 1) fresh
  rw [List.append_nil] at hq
  generalize eh : (hp.push (PySem.W.kdv_tup us)).push (PySem.HandSPX.excO C hp.objs.size) = hn
  have kk : ∀ b o, hp.get? b = some o → hn.get? b = some o := fun b o z => by
    rw [← eh]
    exact Heap.get?_push_of_some _ (Heap.get?_push_of_some _ z)
  have hget : hn.get? (hp.objs.size + 1) = some (PySem.HandSPX.excO C hp.objs.size) := by
    rw [← eh]
    heap_get
  have I2 : Inv X pins σ (upd H1 (hp.objs.size + 1) (exo (hp.objs.size + 1) C none)) ⟨hn, g, dr, tk, os⟩ := I1.laid (t' := tk) kk (Nat.le_succ _) (exo_ok hget)
  have r2 : Vals (V.ref (hp.objs.size + 1) :: vs) (Value.ref (hp.objs.size + 1) :: us) := .cons rfl r1
  have hl : (Value.ref (hp.objs.size + 1) :: us).length = ps.length := r2.length.symm.trans (F1.len _ _ _ _ hq)
  have hb' := hb _ (Value.ref (hp.objs.size + 1) :: us) I2.kIn (by rw [List.append_nil]; exact hl)
  rw [List.append_nil] at hb'
  have hus : us.length ≤ sizeLine := by
    rw [← Vals.length r1]
    exact Nat.le_trans hz (by rw [sizeLine_eq]; decide)
  have run := F1.run _ X.stack _ _ ⟨Value.ref (hp.objs.size + 1) :: us, []⟩ _ _ _ (fun _ _ _ => False) (hr.make C us []) (I2.env0.make C us []) hb' r2 hq
  rw [← eh] at run
  refine wpAny_call (PySem.HandSPX.call_own F.excBase_ValueError (fun Y => PySem.HandSPX.refsVE_contains Y bm hbm) (I1.kIn _ _ hC) (PySem.W.looks_findIn I1.kIn iC) (fun self => PySem.W.bind_fn I1.kIn self tI) hus (codeAny_mono run fun r s' hq' => ?_))
  rw [eh] at hq'
  cases r with
  | error er => exact hx pins σ _ _ er s' I2 hq'
  | ok fl =>
    cases fl with
    | next => exact hq'.elim
    | brk => exact hq'.elim
    | cont => exact hq'.elim
    | ret u =>
      obtain ⟨v, H2, os2, bare2, un2, hok2, rv, ev, d, fs, ea, ed, hd1, q2⟩ := hq'
      subst ev
      obtain ⟨h2, g2, d2, t2, os'⟩ := s'
      obtain ⟨t0, G, J, kG, ge, hoe, na⟩ := mk_end0 (d2 := d2) (t2 := t2) I1 (Nat.le_succ _) kk un2 hok2 os2 bare2 ea ed hd1
      exact ⟨rv, hp.objs.size + 1, _, _, ⟨G, g2, d2, t2, os'⟩, _, .ref C, some d, rfl, J, kG, ge, hoe, ⟨rfl, rfl, fun vs z => by cases z; rfl⟩, rfl, rfl, na, rfl, bare2, raises_own T.exC T.tyC, q2⟩
end
/-! ### asking of a caught error -/
/-- what the class at C must say for its instances to be asked of -/
structure XCls (K : PySem.W.Frag) (C : Addr) : Prop where
  cl : (PySem.W.clsIn K C).isSome = true
  ga : PySem.W.findIn K (.ref C) "__getattribute__" = some (some (.builtin "BaseException.__getattribute__"))
  gg : PySem.W.findIn K (.ref C) "__getattr__" = some none
  su : PySem.W.subIn K (.ref C) (.type "BaseException") = some true
  ca : PySem.W.findIn K (.ref C) "__class__" = some (some (.builtin "object.__class__"))
  cn : PySem.W.specialIn K (.builtin "object.__class__") "__get__" = some (some (.builtin "getset_descriptor.__get__"))
  ct : PySem.W.takesIn K (.builtin "object.__class__") = some true
  cm : PySem.W.mroIn K C (.type "object") = some true
  hd : PySem.W.hasDictIn K C = true
  ty : PySem.W.typeIn K (.ref C) = some (.type "type")
  kp : PySem.W.keepIn K (.ref C) = true
def xclsB (K : PySem.W.Frag) (C : Addr) : Bool :=
  (PySem.W.clsIn K C).isSome && decide (PySem.W.findIn K (.ref C) "__getattribute__" = some (some (.builtin "BaseException.__getattribute__"))) && decide (PySem.W.findIn K (.ref C) "__getattr__" = some none) &&
  decide (PySem.W.subIn K (.ref C) (.type "BaseException") = some true) && decide (PySem.W.findIn K (.ref C) "__class__" = some (some (.builtin "object.__class__"))) &&
  decide (PySem.W.specialIn K (.builtin "object.__class__") "__get__" = some (some (.builtin "getset_descriptor.__get__"))) && decide (PySem.W.takesIn K (.builtin "object.__class__") = some true) &&
  decide (PySem.W.mroIn K C (.type "object") = some true) && PySem.W.hasDictIn K C && decide (PySem.W.typeIn K (.ref C) = some (.type "type")) && PySem.W.keepIn K (.ref C)
theorem xcls_of {K : PySem.W.Frag} {C : Addr} (h : xclsB K C = true) : XCls K C := by
  unfold xclsB at h
  simp only [Bool.and_eq_true, decide_eq_true_eq] at h
  obtain ⟨⟨⟨⟨⟨⟨⟨⟨⟨⟨a, b⟩, c⟩, d⟩, e⟩, f⟩, g⟩, h⟩, i⟩, j⟩, k⟩ := h
  exact ⟨a, b, c, d, e, f, g, h, i, j, k⟩
theorem XCls.xf {K : PySem.W.Frag} {C : Addr} (T : XCls K C) : XfC K C := ⟨T.ga, T.gg, T.su, T.hd⟩
theorem XCls.raises {X : Cx} {C : Addr} (T : XCls X.K C) : Raises X (.ref C) := raises_own T.su T.ty
theorem XCls.kit {K : PySem.W.Frag} {C x : Addr} {ox : Obj} {od : Option Obj} (T : XCls K C) : PySem.W.KitX K (.ref x) (.ref C) (fun h => PySem.W.InstAt h x ox C od) := PySem.W.kitx_exc T.cl T.ga T.gg T.su T.ca T.cn T.ct T.cm
/-- the class at C beside the class at D, as isinstance and except see them: b tells whether C is D or stands below it -/
structure Below (K : PySem.W.Frag) (C D : Addr) (b : Bool) : Prop where
  one : PySem.W.kitOne K (.ref C) (.ref D) = some b
  exm : PySem.W.exmOne K (.ref C) (.ref D) = some b
theorem exm_kit {K : PySem.W.Frag} {C D : Addr} {b : Bool} (T : XCls K C) (hs : PySem.W.subIn K (.ref C) (.ref D) = some b) (U : XCls K D) (hne : (Value.ref C == Value.ref D) = true → b = true) : Below K C D b := by
  have h2 : ((PySem.W.clsIn K D).isSome && PySem.W.typeIn K (.ref D) == some (.type "type")) = true := by
    rw [U.cl, U.ty]
    rfl
  have h3 : PySem.W.kitCls K (.ref C) (.ref D) = some b := by
    show (if _ then _ else _) = _
    rw [if_pos h2]
    exact hs
  refine ⟨?_, ?_⟩
  · show (if _ then _ else _) = _
    by_cases e : (Value.ref C == Value.ref D) = true
    · rw [if_pos e, hne e]
    · rw [if_neg e]
      exact h3
  · show (if _ then _ else _) = _
    have e : (PySem.W.subIn K (.ref D) (.type "BaseException") == some true) = true := by rw [U.su]; rfl
    rw [if_pos e]
    exact h3
/-- isinstance and except, from what the written part says of two classes -/
theorem kit_sub {K : PySem.W.Frag} {C D : Addr} {b : Bool} (i : PySem.W.isClsIn K D = true) (t : PySem.W.typeIn K (.ref D) = some (.type "type")) (s : PySem.W.subIn K (.ref C) (.ref D) = some b) (r : PySem.W.subIn K (.ref C) (.ref C) = some true) : PySem.W.kitOne K (.ref C) (.ref D) = some b := by
  have h2 : ((PySem.W.clsIn K D).isSome && PySem.W.typeIn K (.ref D) == some (.type "type")) = true := by
    have i' : (PySem.W.clsIn K D).isSome = true := i
    rw [i', t]
    rfl
  show (if _ then _ else _) = _
  by_cases e : (Value.ref C == Value.ref D) = true
  · rw [if_pos e]
    have e' : Value.ref C = Value.ref D := eq_of_beq e
    rw [← e', r] at s
    exact s
  · rw [if_neg e]
    show (if _ then _ else _) = _
    rw [if_pos h2]
    exact s
theorem kit_blt {K : PySem.W.Frag} {C : Addr} {T : String} {b : Bool} (m : PySem.W.kitMeta T = true) (s : PySem.W.subIn K (.ref C) (.type T) = some b) : PySem.W.kitOne K (.ref C) (.type T) = some b := by
  show (if _ then _ else _) = _
  rw [if_neg (by exact Bool.false_ne_true)]
  show (if _ then _ else _) = _
  rw [if_pos m]
  exact s
theorem exm_sub {K : PySem.W.Frag} {C D : Addr} {b : Bool} (i : PySem.W.isClsIn K D = true) (t : PySem.W.typeIn K (.ref D) = some (.type "type")) (e : PySem.W.subIn K (.ref D) (.type "BaseException") = some true) (s : PySem.W.subIn K (.ref C) (.ref D) = some b) : PySem.W.exmOne K (.ref C) (.ref D) = some b := by
  have h2 : ((PySem.W.clsIn K D).isSome && PySem.W.typeIn K (.ref D) == some (.type "type")) = true := by
    have i' : (PySem.W.clsIn K D).isSome = true := i
    rw [i', t]
    rfl
  have h1 : (PySem.W.subIn K (.ref D) (.type "BaseException") == some true) = true := by
    rw [e]
    rfl
  show (if _ then _ else _) = _
  rw [if_pos h1]
  show (if _ then _ else _) = _
  rw [if_pos h2]
  exact s
/-- where the error's own dict stands -/
def DictAt (H : Hp) (d : Option Addr) : Prop := d = none ∨ ∃ (dd : Addr) (fs : List (Str × V)), d = some dd ∧ H dd = some (.xd fs)
theorem inst_of {X : Cx} {pins : List (Addr × Obj)} {σ : L2.St} {H : Hp} {s : Shared} {a D : Addr} {oe : Obj} {d : Option Addr} {pn : List (Addr × Obj)} (I : Inv (X.suite a ((a, oe) :: pn)) pins σ H s) (hz : Zc (.ref D) d oe) (hf : ∃ vs, oe.data = .fields vs) (hd : DictAt H d) :
    ∃ od, PySem.W.InstAt s.heap a oe D od := by
  obtain ⟨hget, _⟩ := I.pin (a, oe) (List.mem_append_left _ List.mem_cons_self)
  obtain ⟨vs, hv⟩ := hf
  have no : PySem.W.notCls oe = true := by unfold PySem.W.notCls; rw [hv]
  rcases hd with rfl | ⟨dd, fs, rfl, hx⟩
  · exact ⟨none, hget, hz.1, no, by rw [hz.2]; trivial⟩
  · have hx : ObjOk X.prog X.w H s.heap dd (.xd fs) := I.hok dd _ hx
    obtain ⟨mA, hns, _⟩ := hx
    obtain ⟨od, ho, _⟩ := lookIn_ns hns
    exact ⟨some od, hget, hz.1, no, by rw [hz.2]; exact ho⟩
/-- isinstance(e, c) -/
def rIsX (K : PySem.W.Frag) (a : Addr) (cls : Value) (d : Option Addr) : List V → Hp → VK → Prop := fun xs H Q => ∃ (D : Addr) (c : V) (cv : Value) (b : Bool), xs = [.ref a, c] ∧ ClsV c cv ∧ cls = .ref D ∧ XCls K D ∧ DictAt H d ∧ PySem.W.kitOne K (.ref D) cv = some b ∧ Q (.bl b) H
/-- isinstance(e, (c, ..)) -/
def rIsXT (K : PySem.W.Frag) (a : Addr) (cls : Value) (d : Option Addr) : List V → Hp → VK → Prop := fun xs H Q => ∃ (D tp : Addr) (cs : List V) (us : List Value) (b : Bool), xs = [.ref a, .ref tp] ∧ H tp = some (.tup cs) ∧ Paired ClsV cs us ∧ cls = .ref D ∧ XCls K D ∧ DictAt H d ∧
  PySem.W.kitAny K (.ref D) us = some b ∧ Q (.bl b) H
section
variable {X : Cx} {a : Addr} {oe : Obj} {cls : Value} {d : Option Addr} {pn : List (Addr × Obj)}
theorem call_isX {K : PySem.W.Frag} (hK : X.K = K) (hz : Zc cls d oe) (hf : ∃ vs, oe.data = .fields vs) : CallR (X.suite a ((a, oe) :: pn)) (.builtin "isinstance") (rIsX K a cls d) := by
  subst hK
  intro pins s σ H xs us Q I r h
  obtain ⟨D, c, cv, b, rfl, k, rfl, T, hd, e, q⟩ := h
  obtain ⟨u1, u2, rfl, r1, r2⟩ := vals2 r
  cases (show u1 = Value.ref a from r1)
  have e2 := k.eq r2
  subst e2
  obtain ⟨od, J⟩ := inst_of I hz hf hd
  exact PySem.W.kia_one T.kit I.kIn J e (fun z => nomatch z) fun tk => ⟨.bl b, H, I.tok tk, rfl, q⟩
theorem call_isXT {K : PySem.W.Frag} (hK : X.K = K) (hz : Zc cls d oe) (hf : ∃ vs, oe.data = .fields vs) : CallR (X.suite a ((a, oe) :: pn)) (.builtin "isinstance") (rIsXT K a cls d) := by
  subst hK
  intro pins s σ H xs us Q I r h
  obtain ⟨D, tp, cs, ws, b, rfl, hT, k, rfl, T, hd, e, q⟩ := h
  obtain ⟨u1, u2, rfl, r1, r2⟩ := vals2 r
  cases (show u1 = Value.ref a from r1)
  cases (show u2 = Value.ref tp from r2)
  obtain ⟨_, its, rv, o, h1, h2, n, h3⟩ := (show ObjOk X.prog X.w H s.heap tp (.tup cs) from I.hok tp _ hT)
  have e3 := ClsV.all k rv
  subst e3
  obtain ⟨oc, od', dt, sl⟩ := o
  simp only at h2 h3
  subst h2 h3
  obtain ⟨od, J⟩ := inst_of I hz hf hd
  exact PySem.W.kia_tup T.kit I.kIn J h1 e (fun z => nomatch z) fun tk => ⟨.bl b, H, I.tok tk, rfl, q⟩
end
end EX
/-! Rules for «one or the other», max of three ints, the written part's letter said outright. -/
namespace L2
open PySem PySem.Spec PyProof.Rows
section
variable {X : Cx}
theorem pi_or {tg iter : Expr} {w1 w2 : TI} (h1 : PI X tg iter w1) (h2 : PI X tg iter w2) : PI X tg iter (fun σ H R => w1 σ H R ∨ w2 σ H R) :=
  ⟨fun pins s σ H R I h => h.elim (h1.run pins s σ H R I) (h2.run pins s σ H R I)⟩
theorem pg_or {tg : Expr} {g1 g2 : TG} (h1 : PG X tg g1) (h2 : PG X tg g2) : PG X tg (fun v σ H Q => g1 v σ H Q ∨ g2 v σ H Q) :=
  ⟨fun pins s σ H v u Q I r h => h.elim (h1.run pins s σ H v u Q I r) (h2.run pins s σ H v u Q I r)⟩
theorem ix_or : IxR X (fun x y H Q => rIxL X.K x y H Q ∨ rIxT X.K x y H Q) := ix_list.or ix_tup
theorem ix_orK {K : PySem.W.Frag} (h : X.K = K) : IxR X (fun x y H Q => rIxL K x y H Q ∨ rIxT K x y H Q) := by subst h; exact ix_or
theorem call_max3I (hc : X.calm = true) : CallR X (.builtin "max") (fun xs H Q => ∃ i j k : Int, xs = [.int i, .int j, .int k] ∧ Q (.int (if k > (if j > i then j else i) then k else (if j > i then j else i))) H) := by
  intro pins s σ H xs us Q I r h
  obtain ⟨i, j, k, rfl, q⟩ := h
  have e : nuMax3 (.int i) (.int j) (.int k) = some (.int (if k > (if j > i then j else i) then k else (if j > i then j else i))) := by
    have two : ∀ a b : Int, nuMax2 (.int a) (.int b) = some (.int (if b > a then b else a)) := fun a b => by
      show some (if decide (a < b) = true then V.int b else V.int a) = _
      by_cases h : b > a
      · rw [if_pos (decide_eq_true (show a < b from h)), if_pos h]
      · rw [if_neg (by rw [decide_eq_false (show ¬ a < b from h)]; exact Bool.false_ne_true), if_neg h]
    unfold nuMax3
    rw [two i j]
    exact two _ k
  exact call_max3Nu hc pins s σ H _ us Q I r ⟨_, _, _, _, rfl, e, q⟩
theorem call_list_ofK {K : PySem.W.Frag} (h : X.K = K) : CallR X (.type "list") (fun xs H Q => ∃ p ys, xs = [.ref p] ∧ (SqL K H p ys ∨ SqT K H p ys) ∧ ∀ l, H l = none → Q (.ref l) (upd H l (.lst ys))) := by subst h; exact call_list_of
theorem call_tuple_ofK {K : PySem.W.Frag} (h : X.K = K) : CallR X (.type "tuple") (fun xs H Q => ∃ p ys, xs = [.ref p] ∧ ((SqL K H p ys ∧ ∀ l, H l = none → Q (.ref l) (upd H l (.tup ys))) ∨ (SqT K H p ys ∧ Q (.ref p) H))) := by subst h; exact call_tuple_of
theorem pg_tupK {K : PySem.W.Frag} {es : List Expr} {k : Nat} {t : TGs} {n : Nat} {pos : Pos} (hK : X.K = K) (hc : X.calm = true) (h : PGs X es t)
    (hn : (assignEach es X.env).length = n := by rfl) (hst : (assignEach es X.env).findIdx? (·.1) = none := by rfl) : PG X (.Tuple es k pos) (gTup K n t) := by subst hK; exact pg_tup hc h hn hst
theorem pg_lstK {K : PySem.W.Frag} {es : List Expr} {k : Nat} {t : TGs} {n : Nat} {pos : Pos} (hK : X.K = K) (hc : X.calm = true) (h : PGs X es t)
    (hn : (assignEach es X.env).length = n := by rfl) (hst : (assignEach es X.env).findIdx? (·.1) = none := by rfl) : PG X (.Tuple es k pos) (gLst K n t) := by subst hK; exact pg_lst hc h hn hst
end
section
variable {X : Cx}
/-- y = {..}, a dict comprehension stored in its own statement -/
theorem ps_setDc {i : Nat} {y : Str} {py : Pos} {kx vx tg iter : Expr} {ifs : List Expr} {scope : Scope} {own : List (Str × Nat)} {pos spos : Pos} {wi : TI} {g : TG} {tt : TT} {tk tv : TE} (hc : X.calm = true) (hN : X.N.Nodup) (hy : X.N[i]? = some y) (hyl : X.env.scope.names.lookup y = some .local)
    (hsw : swapsWith (.DictComp kx vx [⟨tg, iter, ifs, 0⟩] scope pos) (some (.Name y py)) spos.line X.env = pure true) (hi : PI X tg iter wi) (ok : BlkOk X.N X.env.scope scope own)
    (hg : ∀ (s : Shared) (H : Hp) (C : Addr) (cl : List (Str × Addr)) (fp : List Addr), PG (X.blk s H scope (compEnvC scope cl C X.env) fp) tg g) (ht : ∀ (s : Shared) (H : Hp) (C : Addr) (cl : List (Str × Addr)) (fp : List Addr), PTs (X.blk s H scope (compEnvC scope cl C X.env) fp) ifs tt)
    (hk : ∀ (s : Shared) (H : Hp) (C : Addr) (cl : List (Str × Addr)) (fp : List Addr), PE (X.blk s H scope (compEnvC scope cl C X.env) fp) kx tk)
    (he : ∀ (s : Shared) (H : Hp) (C : Addr) (cl : List (Str × Addr)) (fp : List Addr), PE (X.blk s H scope (compEnvC scope cl C X.env) fp) vx tv) (hs : ∀ x, foldedSetIterable iter X.env x = pure x := by intro _; rfl) :
    PS X (.Assign [.Name y py] (.DictComp kx vx [⟨tg, iter, ifs, 0⟩] scope pos) spos) (tAsg (tDc wi g tt tk tv (own.map (·.2))) (gName i)) := by
  refine ⟨fun pins s σ H D I h => ?_⟩
  rw [exec_Assign_Name_used _ _ _ _ hsw]
  refine wpAny_bind (wpAny_standAt (wpAny_bind ?_))
  show wpAny _ X.A (do let _ ← comprehension (.DictComp kx vx [⟨tg, iter, ifs, 0⟩] scope pos) scope X.env (firstIterPos [⟨tg, iter, ifs, 0⟩] pos) newDict false (eval iter X.env) (some (assign (.Name y py) X.env))) _ _ s
  have h : tDc wi g tt tk tv (own.map (·.2)) σ H (fun x H1 => gName i x σ H1 D.nx) := h
  refine wpAny_bind (thn (dc_core (Qf := fun _ s' => SP X pins D .next s') hc hN I hi ok hg ht hk he hs h fun L C s' m H' I' q hn f => ?_) fun _ s' hq => wpAny_pure (wpAny_pure hq))
  show wpAny _ _ (assign (.Name y py) X.env (.ref L)) _ _ _
  refine wpAny_assign_Name (store_ok2 (v := V.ref L) I' hN hy (.inl hyl) rfl (fun s2 I2 hex => ?_) (.inr hyl))
  obtain ⟨a, sb, ha⟩ := hex
  obtain ⟨f0, f1, f2, f3, f4, f5⟩ := f
  have haC : C ≠ a := ha.elim (fun z => by rw [z]; exact f1) fun z e => f4 y a z e.symm
  exact ⟨m, hn.sameBut sb haC, fun h3 sb3 => ⟨_, H', I2.turned (t' := s2.toks) (fun b o hb e => (sb3.2 b hb).trans e) f0 f1 f3 f4 f5, q⟩⟩
theorem sw_trueD {kx vx : Expr} {gs : List Comprehension} {scope : Scope} {pos py : Pos} {y : Str} {l : Nat} {env : Env} (hk : env.scope.kind = .function) (hy : env.scope.names.lookup y = some .local) (hl : (py.line == pos.line) = true)
    (ha : (scope.names.any fun (n, k) => n == y && (k == .local || k == .cell)) = false) : swapsWith (.DictComp kx vx gs scope pos) (some (.Name y py)) l env = pure true := by
  have ky : env.kindOf y = some .local := hy
  have hb : env.blockKind = .function := by
    unfold Env.blockKind
    rw [hk]
    rfl
  unfold swapsWith
  simp only [hb, ky, ha, Expr.pos, hl]
  rfl
end
/-- a dict comprehension over a list that stays -/
theorem dc_list {K : PySem.W.Frag} {a : Addr} {xs : List V} {g : TG} {tt : TT} {tk tv : TE} {vs : List Nat} {σ : St} {H1 : Hp} {D : Addr} {Qd : Hp → Prop} (Pv : Nat → Hp → Prop) (h0 : Pv 0 (upd H1 D (.dK []))) (hl : ∀ i H, i ≤ xs.length → Pv i H → SqL K H a xs)
    (hs : ∀ i x H, xs[i]? = some x → Pv i H → g x (wipe σ vs) H fun σ2 H2 => wipe σ2 vs = wipe σ vs ∧ tt σ2 H2 fun b H3 =>
      if b = true then tk σ2 H3 fun y H4 => tv σ2 H4 fun z H5 => ∃ kvs k, y = kV k ∧ H5 D = some (.dK kvs) ∧ kvs.length < sizeLine ∧ Pv (i + 1) (upd H5 D (.dK (putK kvs k z))) else Pv (i + 1) H3) (hd : ∀ H, Pv xs.length H → Qd H) :
    ∃ W : Nat → Nat → Hp → Prop, (∃ m, W 0 m (upd H1 D (.dK []))) ∧ ∀ i m H, W i m H →
      ((Itl K a).stop i H ∧ Qd H) ∨ ((Itl K a).go i H ∧ ∃ Nx : Hp → Prop, (∀ H', Nx H' → ∃ m', m' < m ∧ W (i + 1) m' H') ∧ ∀ x H', (Itl K a).yld i H x H' → g x (wipe σ vs) H' fun σ2 H2 => wipe σ2 vs = wipe σ vs ∧ tt σ2 H2 fun b H3 =>
        if b = true then tk σ2 H3 fun y H4 => tv σ2 H4 fun z H5 => ∃ kvs k, y = kV k ∧ H5 D = some (.dK kvs) ∧ kvs.length < sizeLine ∧ Nx (upd H5 D (.dK (putK kvs k z))) else Nx H3) := by
  refine ⟨fun i m H => m = xs.length - i ∧ i ≤ xs.length ∧ Pv i H, ⟨xs.length, by simp, Nat.zero_le _, h0⟩, ?_⟩
  rintro i m H ⟨rfl, hi, p⟩
  have q := hl i H hi p
  rcases Nat.lt_or_ge i xs.length with hlt | hge
  · refine .inr ⟨⟨xs, xs[i], q, by simp [hlt]⟩, Pv (i + 1), fun H' p' => ⟨xs.length - (i + 1), by omega, rfl, hlt, p'⟩, ?_⟩
    rintro x H' ⟨rfl, y⟩
    exact hs i x _ (y xs q) p
  · obtain rfl : i = xs.length := Nat.le_antisymm hi hge
    exact .inl ⟨⟨xs, q, Nat.le_refl _⟩, hd H p⟩
/-- a dict comprehension over the list or the tuple in slot i, which stays -/
theorem tDc_or {K : PySem.W.Frag} {a : Addr} {xs : List V} {i : Nat} {g : TG} {tt : TT} {tk tv : TE} {vs : List Nat} {σ : St} {H : Hp} {Q : VK} (hi : σ[i]? = some (some (V.ref a))) (hx : H a = some (.lst xs) ∨ H a = some (.tup xs)) (Pv : Addr → Nat → Hp → Prop)
    (h0 : ∀ D, H D = none → Pv D 0 (upd H D (.dK []))) (hl : ∀ D, H D = none → ∀ j H', Pv D j H' → ∀ u, H a = some u → H' a = some u)
    (hs : ∀ D, H D = none → ∀ j x H', xs[j]? = some x → Pv D j H' → g x (wipe σ vs) H' fun σ2 H2 => wipe σ2 vs = wipe σ vs ∧ tt σ2 H2 fun b H3 =>
      if b = true then tk σ2 H3 fun y H4 => tv σ2 H4 fun z H5 => ∃ kvs k, y = kV k ∧ H5 D = some (.dK kvs) ∧ kvs.length < sizeLine ∧ Pv D (j + 1) (upd H5 D (.dK (putK kvs k z))) else Pv D (j + 1) H3)
    (hd : ∀ D, H D = none → ∀ H', Pv D xs.length H' → Q (.ref D) H') : tDc (fun σ H R => iList K (tVar i) σ H R ∨ iTup K (tVar i) σ H R) g tt tk tv vs σ H Q := by
  rcases hx with hx | hx
  · exact .inl ⟨_, hi, a, rfl, ⟨_, SqL.of hx⟩, fun D hD => dc_list (K := K) (a := a) (xs := xs) (Pv D) (h0 D hD) (fun j H' _ p => SqL.of (hl D hD j H' p _ hx)) (hs D hD) (hd D hD)⟩
  · exact .inr ⟨_, hi, a, rfl, ⟨_, SqT.of hx⟩, fun D hD => dc_tup (K := K) (a := a) (xs := xs) (Pv D) (h0 D hD) (fun j H' _ p => SqT.of (hl D hD j H' p _ hx)) (hs D hD) (hd D hD)⟩
/-- a loop over the list or the tuple in slot i, which stays -/
theorem tFor_or {K : PySem.W.Frag} {a : Addr} {xs : List V} {i : Nat} {g : TG} {tb : TS} {D : Ends} {σ : St} {H : Hp} (hi : σ[i]? = some (some (V.ref a))) (hx : H a = some (.lst xs) ∨ H a = some (.tup xs)) (Pv : Nat → St → Hp → Prop)
    (h0 : Pv 0 σ H) (hl : ∀ j σ' H', Pv j σ' H' → ∀ u, H a = some u → H' a = some u)
    (hs : ∀ j x σ' H', xs[j]? = some x → Pv j σ' H' → g x σ' H' fun σ2 H2 => tb { D with nx := Pv (j + 1), ct := Pv (j + 1), bk := D.nx } σ2 H2)
    (hd : ∀ σ' H', Pv xs.length σ' H' → D.nx σ' H') : tFor (fun σ H R => iList K (tVar i) σ H R ∨ iTup K (tVar i) σ H R) g tb D σ H := by
  rcases hx with hx | hx
  · exact .inl ⟨_, hi, a, rfl, ⟨_, SqL.of hx⟩, for_list (K := K) (a := a) (xs := xs) Pv h0 (fun j σ' H' _ p => SqL.of (hl j σ' H' p _ hx)) hs hd⟩
  · exact .inr ⟨_, hi, a, rfl, ⟨_, SqT.of hx⟩, for_tup (K := K) (a := a) (xs := xs) Pv h0 (fun j σ' H' _ p => SqT.of (hl j σ' H' p _ hx)) hs hd⟩
/-- a comprehension over the list or the tuple in slot i, which stays -/
theorem tLc_or {K : PySem.W.Frag} {a : Addr} {xs : List V} {i : Nat} {g : TG} {tt : TT} {te : TE} {vs : List Nat} {σ : St} {H : Hp} {Q : VK} (hi : σ[i]? = some (some (V.ref a))) (hx : H a = some (.lst xs) ∨ H a = some (.tup xs)) (Pv : Addr → Nat → Hp → Prop)
    (h0 : ∀ D, H D = none → Pv D 0 (upd H D (.lst []))) (hl : ∀ D, H D = none → ∀ j H', Pv D j H' → ∀ u, H a = some u → H' a = some u)
    (hs : ∀ D, H D = none → ∀ j x H', xs[j]? = some x → Pv D j H' → g x (wipe σ vs) H' fun σ2 H2 => wipe σ2 vs = wipe σ vs ∧ tt σ2 H2 fun b H3 =>
      if b = true then te σ2 H3 fun y H4 => ∃ acc, H4 D = some (.lst acc) ∧ acc.length < sizeLine ∧ Pv D (j + 1) (upd H4 D (.lst (acc ++ [y]))) else Pv D (j + 1) H3)
    (hd : ∀ D, H D = none → ∀ H', Pv D xs.length H' → Q (.ref D) H') : tLc (fun σ H R => iList K (tVar i) σ H R ∨ iTup K (tVar i) σ H R) g tt te vs σ H Q := by
  rcases hx with hx | hx
  · exact .inl ⟨_, hi, a, rfl, ⟨_, SqL.of hx⟩, fun D hD => lc_list (K := K) (a := a) (xs := xs) (Pv D) (h0 D hD) (fun j H' _ p => SqL.of (hl D hD j H' p _ hx)) (hs D hD) (hd D hD)⟩
  · exact .inr ⟨_, hi, a, rfl, ⟨_, SqT.of hx⟩, fun D hD => lc_tup (K := K) (a := a) (xs := xs) (Pv D) (h0 D hD) (fun j H' _ p => SqT.of (hl D hD j H' p _ hx)) (hs D hD) (hd D hD)⟩
end L2
/-! What the walks share: the facts of the top, plans in the heap. -/
namespace P62
open PySem PySem.Spec PyProof.Rows L2 SX EX
def top (i : Nat) : Stmt := PySem.Challenge.pw_wholecables_k62_forecast_rules.main.body.getD i (.Pass ⟨0, 0, 0, 0⟩)
def clsBody : Stmt → List Stmt
  | .ClassDef _ _ _ b _ _ _ _ _ _ _ => b
  | _ => []

/-- a def as its callers see it -/
def Cal (P : Program) (w : World) (K : PySem.W.Frag) (mg : Str → Option Value) (base : Heap) (k : Nat) (x : Str) (ps : List Str) (sp : Sp) : Prop :=
  ∃ (f : Addr) (fd : FuncData), FnOk P w K mg base CX0 k f fd ps sp ∧ mg x = some (.ref f) ∧ PySem.W.keepIn K (.ref f) = true ∧ Binds K fd ps []
theorem Cal.mono {P : Program} {w : World} {K : PySem.W.Frag} {mg : Str → Option Value} {base : Heap} {j k : Nat} {x : Str} {ps : List Str} {sp : Sp} (C : Cal P w K mg base j x ps sp) (h : j ≤ k) : Cal P w K mg base k x ps sp := by
  obtain ⟨f, fd, G, m, kp, b⟩ := C
  exact ⟨f, fd, G.mono h, m, kp, b⟩
theorem pe_cal {X : Cx} {k : Nat} {x : Str} {ps : List Str} {sp : Sp} {p pos : Pos} {e : Expr} {es : List Expr} {t : TA} (C : Cal X.prog X.w X.K X.mg X.base k x ps sp) (hr : Room k X.A) (hg : Gl X x) (ha : PA X (e :: es) t)
    (hdb : (x == ("__debug__" : Str)) = false := by decide) (he : starEach (e :: es) X.env = (false, eval e X.env) :: starEach es X.env := by rfl) (hpl : (backTo pos (starEach es X.env)).any (·.1) = false := by rfl) :
    PE X (.Call (.Name x p) (e :: es) [] pos) (tCall sp [] E0 t) := by
  obtain ⟨f, fd, G, m, kp, b⟩ := C
  exact pe_call G hr hg m kp b .nil pass0 ha hdb he hpl

/-- the built-in names that the text asks for are the built-in ones -/
structure Txt (mg : Str → Option Value) : Prop where
  b_len : mg "len" = none
  b_int : mg "int" = none
  b_str : mg "str" = none
  b_tuple : mg "tuple" = none
  b_list : mg "list" = none
  b_bool : mg "bool" = none
  b_isinstance : mg "isinstance" = none
  b_range : mg "range" = none
  b_all : mg "all" = none
  b_max : mg "max" = none
  b_min : mg "min" = none
  b_abs : mg "abs" = none
  b_ValueError : mg "ValueError" = none
  g_gcd : mg "gcd" = some (.builtin "math.gcd")
/-- the errors of the text -/
structure Err (K : PySem.W.Frag) (mg : Str → Option Value) (cU cC cN cP fU : Addr) : Prop where
  g_UnknownName : mg "UnknownName" = some (.ref cU)
  g_CableError : mg "CableError" = some (.ref cC)
  g_BadNotation : mg "BadNotation" = some (.ref cN)
  g_BadPlan : mg "BadPlan" = some (.ref cP)
  o_UnknownName : OexC K cU
  i_UnknownName : PySem.W.findIn K (.ref cU) "__init__" = some (some (.ref fU))
  t_UnknownName : PySem.W.typeIn K (.ref fU) = some (.type "function")
  x : XCls K cU
  no_UnknownName_name : PySem.W.findIn K (.ref cU) "name" = some none
  eC : PySem.W.exmOne K (.ref cU) (.ref cC) = some true
  kU : PySem.W.kitOne K (.ref cU) (.ref cU) = some true
  kP : PySem.W.kitOne K (.ref cU) (.ref cP) = some false
  kN : PySem.W.kitOne K (.ref cU) (.ref cN) = some false
  kV : PySem.W.kitOne K (.ref cU) (.type "ValueError") = some true
theorem Err.x_UnknownName {K : PySem.W.Frag} {mg : Str → Option Value} {cU cC cN cP fU : Addr} (U : Err K mg cU cC cN cP fU) : XfC K cU := U.x.xf

/-- a plan in the heap -/
def PlanAt (H : Hp) : Plan → Addr → Prop
  | .take n, p => H p = some (.tup [.str "take", .str (S n)])
  | .join a b, p => ∃ pa pb, H p = some (.tup [.str "join", .ref pa, .ref pb]) ∧ PlanAt H a pa ∧ PlanAt H b pb
  | .scale i j a, p => ∃ pa, H p = some (.tup [.str "scale", .int i, .int j, .ref pa]) ∧ PlanAt H a pa
  | .spare a, p => ∃ pa, H p = some (.tup [.str "spare", .ref pa]) ∧ PlanAt H a pa
  | .base a, p => ∃ pa, H p = some (.tup [.str "base", .ref pa]) ∧ PlanAt H a pa
  | .thin k a, p => ∃ pa, H p = some (.tup [.str "thin", .int k, .ref pa]) ∧ PlanAt H a pa
theorem PlanAt.same {H H' : Hp} (e : Same H H') : ∀ {a : Plan} {p : Addr}, PlanAt H a p → PlanAt H' a p
  | .take _, _, h => e _ _ h
  | .join _ _, _, ⟨pa, pb, h, ha, hb⟩ => ⟨pa, pb, e _ _ h, PlanAt.same e ha, PlanAt.same e hb⟩
  | .scale _ _ _, _, ⟨pa, h, ha⟩ => ⟨pa, e _ _ h, PlanAt.same e ha⟩
  | .spare _, _, ⟨pa, h, ha⟩ => ⟨pa, e _ _ h, PlanAt.same e ha⟩
  | .base _, _, ⟨pa, h, ha⟩ => ⟨pa, e _ _ h, PlanAt.same e ha⟩
  | .thin _ _, _, ⟨pa, h, ha⟩ => ⟨pa, e _ _ h, PlanAt.same e ha⟩
theorem same_new {H : Hp} {p : Addr} (h : H p = none) (o : HO) : Same H (upd H p o) := fun b u q => by rw [upd_ne (ne_of_none q h)]; exact q
theorem line_ge {n : Nat} (h : n ≤ 100000) : n ≤ sizeLine := Nat.le_trans h (by rw [sizeLine_eq]; decide)
theorem slen (l : List Nat) : (S l).length = l.length := S_len l
theorem sline {l : List Nat} (h : l.length ≤ 100000) : (S l).length ≤ sizeLine := by rw [slen]; exact line_ge h
theorem at_pos {α : Type} {xs : List α} {z : Int} {v : α} (h0 : 0 ≤ z) (h : xs[z.toNat]? = some v) : atI xs z = some v := by
  have e : z = ((z.toNat : Nat) : Int) := by omega
  rw [e]
  exact atI_nat h
theorem two_line : 2 ≤ sizeLine := line_ge (by omega)
theorem three_line : 3 ≤ sizeLine := line_ge (by omega)
theorem lc_yes {σ : L2.St} {H : Hp} {A B : Hp → Prop} (h : A H) : tYes σ H (fun b H3 => if b = true then A H3 else B H3) := by
  show (if true = true then A H else B H)
  exact iteT h
theorem ifT {c : Bool} {A B : Prop} (hc : c = true) (h : A) : if c = true then A else B := by rw [if_pos hc]; exact h
theorem ifF {c : Bool} {A B : Prop} (hc : c = false) (h : B) : if c = true then A else B := by rw [hc, if_neg Bool.false_ne_true]; exact h
theorem dec_ne {a b : V} (h : a ≠ b) : decide (a = b) = false := decide_eq_false h
theorem same_at {H H' : Hp} {D : Addr} {o : HO} (e : Same H H') (h : H D = none) : Same H (upd H' D o) := fun b u q => by
  have hne : b ≠ D := fun z => by
    rw [z, h] at q
    cases q
  rw [upd_ne hne]
  exact e _ _ q
theorem dec_lt {a b : Int} (h : decide (a < b) = true) : a < b := of_decide_eq_true h
theorem not_lt {a b : Int} (h : ¬ decide (a < b) = true) : ¬ a < b := of_decide_eq_false (Bool.eq_false_iff.mpr h)
theorem ifs_of {c : TT} {t u : TS} {D : Ends} {σ : L2.St} {H : Hp} (b : Bool) (hb : ∀ Q : Bool → Hp → Prop, Q b H → c σ H Q) (ht : b = true → t D σ H) (hu : b = false → u D σ H) : tIfS c t u D σ H := by
  refine hb _ ?_
  cases b with
  | true => exact ifT rfl (ht rfl)
  | false => exact ifF rfl (hu rfl)
theorem ifs_seq {c : TT} {t u r : TS} {D : Ends} {σ : L2.St} {H : Hp} (b : Bool) (hb : ∀ Q : Bool → Hp → Prop, Q b H → c σ H Q) (ht : b = true → t { D with nx := r D } σ H) (hu : b = false → u { D with nx := r D } σ H) : tSeq (tIfS c t u) r D σ H := ifs_of b hb ht hu
theorem ifs_seqN {c : TT} {t r : TS} {D : Ends} {σ : L2.St} {H : Hp} (b : Bool) (hb : ∀ Q : Bool → Hp → Prop, Q b H → c σ H Q) (ht : b = true → t { D with nx := r D } σ H) (hu : b = false → r D σ H) : tSeq (tIfS c t tNext) r D σ H := ifs_of b hb ht hu
theorem seq_asg {te : TE} {i : Nat} {u : TS} {D : Ends} {σ : L2.St} {H : Hp} (h : te σ H fun x H1 => u D (σ.set i (some x)) H1) : tSeq (tAsg te (gName i)) u D σ H := h
/-- a pair of ints -/
def FrAt (H : Hp) (a : Addr) (t b : Int) : Prop := H a = some (.tup [.int t, .int b])
theorem FrAt.same {H H' : Hp} {a : Addr} {t b : Int} (e : Same H H') (h : FrAt H a t b) : FrAt H' a t b := e _ _ h
/-- a forecast in the heap, as a tuple -/
def FcAt (H : Hp) (p : Addr) (a : Fc) : Prop := ∃ f, H p = some (.tup [.int a.most, .int a.peak, .ref f]) ∧ FrAt H f a.top a.bot
theorem FcAt.same {H H' : Hp} {p : Addr} {a : Fc} (e : Same H H') (h : FcAt H p a) : FcAt H' p a := let ⟨f, h1, h2⟩ := h; ⟨f, e _ _ h1, e _ _ h2⟩
end P62
namespace P62
open PySem PySem.Spec PyProof.Rows L2 SX EX
theorem wmul {m n : Nat} {x y : Int} (hx : B m x) (hy : B n y) (h0 : 0 < m) (h1 : 0 < n) (h : m + n ≤ 1000000) : CMulW x y := wide_mul hx hy h0 h1 h
theorem wdiv {n : Nat} {x g : Int} (hg : 0 < g) (h : B n g) (h0 : 0 < n) (h9 : n ≤ 9000) : CDivW x g := wide_div hg h h0 h9
def spFraction : Sp := fun vs H Q _ => ∃ t b : Int, vs = [.int t, .int b] ∧ 0 < b ∧ B 9000 b ∧ ∀ r H', Same H H' → FrAt H' r (t / gI t b) (b / gI t b) → Q (.ref r) H'
abbrev s_fraction : Stmt := top 8
abbrev N_fraction : List Str := ["top", "bottom", "shared"]
theorem sc_fraction : FnScope N_fraction ["top", "bottom"] (defScope s_fraction) := ⟨rfl, rfl, rfl, by decide +kernel, rfl, by decide +kernel, by decide +kernel⟩
section
variable {P : Program} {w : World} {K : PySem.W.Frag} {mg : Str → Option Value} {base : Heap} {f : Addr} {fd : FuncData}
theorem ok_fraction (F : Fun K "fraction" "fraction" s_fraction f fd) (T : Txt mg) : FnOk P w K mg base CX0 1 f fd ["top", "bottom"] spFraction := by
  refine F.ok sc_fraction (fun vs H Q E h => ?_) (fun cdv A outer s H vs Q E hr h => ?_)
  · obtain ⟨t, b, rfl, _⟩ := h
    rfl
  obtain ⟨t, b, rfl, hb, hB, q⟩ := h
  refine ⟨_, (pss_cons (ps_if (pt_cmpR op_eq (pv 1) pe_int (nomark _)) (pss_one ps_never) pss_nil)
  (pss_cons (ps_set (i := 2) sc_fraction.nd rfl (Or.inl rfl) (pe_callBfun cr_gcd rfl T.g_gcd (pa_cons (pv 0) (pa_cons (pv 1) pa_nil))))
  (pss_cons (ps_if (pt_cmpR op_lt (pv 1) pe_int (nomark _)) (pss_one (ps_set (i := 2) sc_fraction.nd rfl (Or.inl rfl) (pe_un un_neg (pv 2)))) pss_nil)
  (pss_one (ps_ret (pe_tup (pa_cons (pe_op op_fdivW (pv 0) (pv 2)) (pa_cons (pe_op op_fdivW (pv 1) (pv 2)) pa_nil)))))))), ?_⟩
  refine ⟨_, rfl, rfl, _, rfl, ifF (dec_ne fun e => by have := V.int.inj e; omega) ?_⟩
  refine ⟨_, rfl, _, rfl, t, b, rfl, ?_⟩
  refine ⟨_, rfl, _, _, rfl, rfl, _, rfl, ifF (decide_eq_false (by omega)) ?_⟩
  have g := gI_pos (t := t) hb
  have gB := B.gcd (t := t) hb hB
  refine ⟨_, rfl, _, rfl, _, _, rfl, rfl, wdiv g gB (by decide) (by decide), _, rfl, _, rfl, _, _, rfl, rfl, wdiv g gB (by decide) (by decide), two_line, fun r hr' => q r _ (same_new hr' _) upd_same⟩
/-! ### multiplied -/
def spTimes : Sp := fun vs H Q _ => ∃ (p q : Addr) (t1 b1 t2 b2 : Int), vs = [.ref p, .ref q] ∧ FrAt H p t1 b1 ∧ FrAt H q t2 b2 ∧ 0 < t1 ∧ 0 < b1 ∧ 0 < t2 ∧ 0 < b2 ∧ B 6000 t1 ∧ B 6000 b1 ∧ B 450 t2 ∧ B 450 b2 ∧
  ∀ r H', Same H H' → FrAt H' r (t1 * t2 / gI (t1 * t2) (b1 * b2)) (b1 * b2 / gI (t1 * t2) (b1 * b2)) → Q (.ref r) H'
abbrev s_multiplied : Stmt := top 9
abbrev N_multiplied : List Str := ["one", "two"]
theorem sc_multiplied : FnScope N_multiplied ["one", "two"] (defScope s_multiplied) := ⟨rfl, rfl, rfl, by decide +kernel, rfl, by decide +kernel, by decide +kernel⟩
theorem ok_multiplied (F : Fun K "multiplied" "multiplied" s_multiplied f fd) (T : Txt mg) (C_fraction : Cal P w K mg base 1 "fraction" ["top", "bottom"] spFraction) : FnOk P w K mg base CX0 2 f fd ["one", "two"] spTimes := by
  refine F.ok sc_multiplied (fun vs H Q E h => ?_) (fun cdv A outer s H vs Q E hr h => ?_)
  · obtain ⟨p, q, t1, b1, t2, b2, rfl, _⟩ := h
    rfl
  obtain ⟨p, r, t1, b1, t2, b2, rfl, hp, hr1, pt1, pb1, pt2, pb2, ht1, hb1, ht2, hb2, q⟩ := h
  refine ⟨_, (pss_one (ps_ret (pe_cal C_fraction (hr.mono (by omega)) rfl (pa_cons (pe_op op_mulW (pe_ix ix_tup (pv 0) pe_int (fun _ _ => rfl)) (pe_ix ix_tup (pv 1) pe_int (fun _ _ => rfl))) (pa_cons (pe_op op_mulW (pe_ix ix_tup (pv 0) pe_int (fun _ _ => rfl)) (pe_ix ix_tup (pv 1) pe_int (fun _ _ => rfl))) pa_nil))))), ?_⟩
  refine ⟨_, rfl, p, _, 0, _, rfl, rfl, SqT.of hp, at_pos (by decide) rfl, _, rfl, r, _, 0, _, rfl, rfl, SqT.of hr1, at_pos (by decide) rfl, _, _, rfl, rfl, wmul ht1 ht2 (by decide) (by decide) (by decide), ?_⟩
  refine ⟨_, rfl, p, _, 1, _, rfl, rfl, SqT.of hp, at_pos (by decide) rfl, _, rfl, r, _, 1, _, rfl, rfl, SqT.of hr1, at_pos (by decide) rfl, _, _, rfl, rfl, wmul hb1 hb2 (by decide) (by decide) (by decide), ?_⟩
  exact ⟨_, _, rfl, Int.mul_pos pb1 pb2, (hb1.mul hb2).mono (by decide), q⟩
/-! ### compared -/
def spCompared : Sp := fun vs H Q _ => ∃ (p q : Addr) (t1 b1 t2 b2 : Int), vs = [.ref p, .ref q] ∧ FrAt H p t1 b1 ∧ FrAt H q t2 b2 ∧ B 6000 t1 ∧ B 6000 b1 ∧ B 6000 t2 ∧ B 6000 b2 ∧
  ∀ c : Int, (0 < c ↔ t1 * b2 - t2 * b1 > 0) → Q (.int c) H
abbrev s_compared : Stmt := top 10
abbrev N_compared : List Str := ["one", "two", "difference"]
theorem sc_compared : FnScope N_compared ["one", "two"] (defScope s_compared) := ⟨rfl, rfl, rfl, by decide +kernel, rfl, by decide +kernel, by decide +kernel⟩
theorem ok_compared (F : Fun K "compared" "compared" s_compared f fd) (T : Txt mg) : FnOk P w K mg base CX0 1 f fd ["one", "two"] spCompared := by
  refine F.ok sc_compared (fun vs H Q E h => ?_) (fun cdv A outer s H vs Q E hr h => ?_)
  · obtain ⟨p, q, t1, b1, t2, b2, rfl, _⟩ := h
    rfl
  obtain ⟨p, r, t1, b1, t2, b2, rfl, hp, hr1, ht1, hb1, ht2, hb2, q⟩ := h
  refine ⟨_, (pss_cons (ps_set (i := 2) sc_compared.nd rfl (Or.inl rfl) (pe_op op_sub (pe_op op_mulW (pe_ix ix_tup (pv 0) pe_int (fun _ _ => rfl)) (pe_ix ix_tup (pv 1) pe_int (fun _ _ => rfl))) (pe_op op_mulW (pe_ix ix_tup (pv 1) pe_int (fun _ _ => rfl)) (pe_ix ix_tup (pv 0) pe_int (fun _ _ => rfl)))))
  (pss_cons (ps_if (pt_cmpR op_lt (pv 2) pe_int (nomark _)) (pss_one (ps_ret (pe_un un_neg pe_int))) pss_nil)
  (pss_cons (ps_if (pt_cmpR op_gt (pv 2) pe_int (nomark _)) (pss_one (ps_ret pe_int)) pss_nil)
  (pss_one (ps_ret pe_int))))), ?_⟩
  refine ⟨_, rfl, p, _, 0, _, rfl, rfl, SqT.of hp, at_pos (by decide) rfl, _, rfl, r, _, 1, _, rfl, rfl, SqT.of hr1, at_pos (by decide) rfl, _, _, rfl, rfl, wmul ht1 hb2 (by decide) (by decide) (by decide), ?_⟩
  refine ⟨_, rfl, r, _, 0, _, rfl, rfl, SqT.of hr1, at_pos (by decide) rfl, _, rfl, p, _, 1, _, rfl, rfl, SqT.of hp, at_pos (by decide) rfl, _, _, rfl, rfl, wmul ht2 hb1 (by decide) (by decide) (by decide), _, _, rfl, rfl, ?_⟩
  refine ⟨_, rfl, _, _, rfl, rfl, _, rfl, ?_⟩
  refine ite2 (fun c => ?_) (fun c => ?_)
  · have c1 := dec_lt c
    exact ⟨_, rfl, q (-1) ⟨fun z => by omega, fun z => by omega⟩⟩
  have c1 := not_lt c
  refine ⟨_, rfl, _, _, rfl, rfl, _, rfl, ?_⟩
  refine ite2 (fun c => ?_) (fun c => ?_)
  · have c2 := dec_lt c
    exact q 1 ⟨fun _ => c2, fun _ => by decide⟩
  · have c2 := not_lt c
    exact q 0 ⟨fun z => absurd z (by decide), fun z => absurd z c2⟩
/-! ### grade_unit, grade_factor -/
def spUnit : Sp := fun vs H Q _ => ∃ k : Int, vs = [.int k] ∧ Q (.int (9 * k - 8)) H
abbrev s_grade_unit : Stmt := top 12
abbrev N_grade_unit : List Str := ["grade"]
theorem sc_grade_unit : FnScope N_grade_unit ["grade"] (defScope s_grade_unit) := ⟨rfl, rfl, rfl, by decide +kernel, rfl, by decide +kernel, by decide +kernel⟩
theorem ok_grade_unit (F : Fun K "grade_unit" "grade_unit" s_grade_unit f fd) (T : Txt mg) : FnOk P w K mg base CX0 1 f fd ["grade"] spUnit := by
  refine F.ok sc_grade_unit (fun vs H Q E h => ?_) (fun cdv A outer s H vs Q E hr h => ?_)
  · obtain ⟨k, rfl, _⟩ := h
    rfl
  obtain ⟨k, rfl, q⟩ := h
  refine ⟨_, (pss_one (ps_ret (pe_op op_sub (pe_op op_mul pe_int (pv 0)) pe_int))), ?_⟩
  exact ⟨_, rfl, _, _, rfl, rfl, .inl ⟨by decide, by decide⟩, _, _, rfl, rfl, q⟩
def spGrade : Sp := fun vs H Q _ => ∃ k : Int, vs = [.int k] ∧ 2 ≤ k ∧ k ≤ 10 ∧ ∀ r H', Same H H' → FrAt H' r (gradeT k / gI (gradeT k) (gradeB k)) (gradeB k / gI (gradeT k) (gradeB k)) → Q (.ref r) H'
abbrev s_grade_factor : Stmt := top 13
abbrev N_grade_factor : List Str := ["grade", "less"]
theorem sc_grade_factor : FnScope N_grade_factor ["grade"] (defScope s_grade_factor) := ⟨rfl, rfl, rfl, by decide +kernel, rfl, by decide +kernel, by decide +kernel⟩
theorem small_mul {a b : Int} (h0 : -1000000 < a) (h : a < 1000000) : CMul a b := .inl ⟨by omega, by omega⟩
theorem ok_grade_factor (F : Fun K "grade_factor" "grade_factor" s_grade_factor f fd) (T : Txt mg) (C_fraction : Cal P w K mg base 1 "fraction" ["top", "bottom"] spFraction) (C_grade_unit : Cal P w K mg base 1 "grade_unit" ["grade"] spUnit) : FnOk P w K mg base CX0 2 f fd ["grade"] spGrade := by
  refine F.ok sc_grade_factor (fun vs H Q E h => ?_) (fun cdv A outer s H vs Q E hr h => ?_)
  · obtain ⟨k, rfl, _⟩ := h
    rfl
  obtain ⟨k, rfl, h2, h10, q⟩ := h
  refine ⟨_, (pss_cons (ps_set (i := 1) sc_grade_factor.nd rfl (Or.inl rfl) (pe_op op_sub (pe_cal C_grade_unit (hr.mono (by omega)) rfl (pa_cons (pv 0) pa_nil)) pe_int))
  (pss_one (ps_ret (pe_cal C_fraction (hr.mono (by omega)) rfl (pa_cons (pe_op op_mul (pe_op op_add (pv 0) pe_int) (pe_op op_add (pe_op op_mul (pv 1) (pe_op op_add (pv 0) pe_int)) (pv 0))) (pa_cons (pe_op op_mul (pe_op op_mul (pv 1) (pe_op op_sub (pv 0) pe_int)) (pe_op op_sub (pv 0) pe_int)) pa_nil)))))), ?_⟩
  obtain ⟨p1, p2, q1, q2⟩ := grade_ok h2 h10
  have e : 9 * k - 8 - 1 = 9 * (k - 1) := by omega
  refine ⟨_, rfl, k, rfl, _, _, rfl, rfl, ?_⟩
  have m1 : 9 * (k - 1) * (k - 1) < 1000000 ∧ -1000000 < 9 * (k - 1) * (k - 1) := by
    have : k = 2 ∨ k = 3 ∨ k = 4 ∨ k = 5 ∨ k = 6 ∨ k = 7 ∨ k = 8 ∨ k = 9 ∨ k = 10 := by omega
    rcases this with rfl | rfl | rfl | rfl | rfl | rfl | rfl | rfl | rfl <;> decide
  show gName 1 (V.int (9 * k - 8 - 1)) _ _ _
  rw [e]
  refine ⟨_, rfl, _, _, rfl, rfl, _, rfl, _, rfl, _, _, rfl, rfl, _, _, rfl, rfl, small_mul (by omega) (by omega), _, rfl, _, _, rfl, rfl, _, _, rfl, rfl, small_mul (by omega) (by omega), ?_⟩
  refine ⟨_, rfl, _, rfl, _, _, rfl, rfl, _, _, rfl, rfl, small_mul (by omega) (by omega), _, rfl, _, _, rfl, rfl, _, _, rfl, rfl, small_mul m1.2 m1.1, ?_⟩
  exact ⟨_, _, rfl, p2, (show B 9000 (gradeB k) from B.mono (B_small (Int.le_of_lt p2) q2) (by decide)), q⟩
end
end P62
namespace P62
open PySem PySem.Spec PyProof.Rows L2 SX EX
theorem fc_is {H : Hp} {p f : Addr} {m k t b : Int} (h : H p = some (.tup [.int m, .int k, .ref f])) (hf : FrAt H f t b) : FcAt H p ⟨m, k, t, b⟩ := ⟨f, h, hf⟩
section
variable {P : Program} {w : World} {K : PySem.W.Frag} {mg : Str → Option Value} {base : Heap} {f : Addr} {fd : FuncData}
def spJoin : Sp := fun vs H Q _ => ∃ (p q : Addr) (a b : Fc), vs = [.ref p, .ref q] ∧ FcAt H p a ∧ FcAt H q b ∧ Fb 12 a ∧ Fb 12 b ∧ ∀ r H', Same H H' → FcAt H' r (fJoin a b) → Q (.ref r) H'
abbrev s_join_step : Stmt := top 18
abbrev N_join_step : List Str := ["one", "two", "most", "factor"]
theorem sc_join_step : FnScope N_join_step ["one", "two"] (defScope s_join_step) := ⟨rfl, rfl, rfl, by decide +kernel, rfl, by decide +kernel, by decide +kernel⟩
theorem ok_join_step (F : Fun K "join_step" "join_step" s_join_step f fd) (T : Txt mg) (C_compared : Cal P w K mg base 1 "compared" ["one", "two"] spCompared) : FnOk P w K mg base CX0 2 f fd ["one", "two"] spJoin := by
  refine F.ok sc_join_step (fun vs H Q E h => ?_) (fun cdv A outer s H vs Q E hr h => ?_)
  · obtain ⟨p, q, a, b, rfl, _⟩ := h
    rfl
  obtain ⟨p, r, a, b, rfl, ⟨fa, hp, hfa⟩, ⟨fb, hr1, hfb⟩, ba, bb, q⟩ := h
  refine ⟨_, (pss_cons (ps_set (i := 2) sc_join_step.nd rfl (Or.inl rfl) (pe_op op_add (pe_ix ix_tup (pv 0) pe_int (fun _ _ => rfl)) (pe_ix ix_tup (pv 1) pe_int (fun _ _ => rfl))))
  (pss_cons (ps_set (i := 3) sc_join_step.nd rfl (Or.inl rfl) (pe_ifExp (pt_cmpR op_gt (pe_cal C_compared (hr.mono (by omega)) rfl (pa_cons (pe_ix ix_tup (pv 0) pe_int (fun _ _ => rfl)) (pa_cons (pe_ix ix_tup (pv 1) pe_int (fun _ _ => rfl)) pa_nil))) pe_int (nomark _)) (pe_ix ix_tup (pv 0) pe_int (fun _ _ => rfl)) (pe_ix ix_tup (pv 1) pe_int (fun _ _ => rfl))))
  (pss_one (ps_ret (pe_tup (pa_cons (pv 2) (pa_cons (pe_callB (call_max3I rfl) (by rfl) T.b_max (by decide +kernel) (pa_cons (pv 2) (pa_cons (pe_ix ix_tup (pv 0) pe_int (fun _ _ => rfl)) (pa_cons (pe_ix ix_tup (pv 1) pe_int (fun _ _ => rfl)) pa_nil)))) (pa_cons (pv 3) pa_nil)))))))), ?_⟩
  refine ⟨_, rfl, p, _, 0, _, rfl, rfl, SqT.of hp, at_pos (by decide) rfl, _, rfl, r, _, 0, _, rfl, rfl, SqT.of hr1, at_pos (by decide) rfl, _, _, rfl, rfl, ?_⟩
  refine ⟨_, rfl, p, _, 2, _, rfl, rfl, SqT.of hp, at_pos (by decide) rfl, _, rfl, r, _, 2, _, rfl, rfl, SqT.of hr1, at_pos (by decide) rfl, fa, fb, a.top, a.bot, b.top, b.bot, rfl, hfa, hfb, ba.t1.mono (by decide), ba.b1.mono (by decide), bb.t1.mono (by decide), bb.b1.mono (by decide), fun c hc => ?_⟩
  refine ⟨_, _, rfl, rfl, _, rfl, ?_⟩
  refine ite2 (fun c1 => ?_) (fun c1 => ?_)
  · have c2 := hc.mp (dec_lt c1)
    refine ⟨_, rfl, p, _, 2, _, rfl, rfl, SqT.of hp, at_pos (by decide) rfl, ?_⟩
    refine ⟨_, rfl, _, rfl, _, rfl, p, _, 1, _, rfl, rfl, SqT.of hp, at_pos (by decide) rfl, _, rfl, r, _, 1, _, rfl, rfl, SqT.of hr1, at_pos (by decide) rfl, _, _, _, rfl, _, rfl, three_line, fun u hu => q u _ (same_new hu _) ?_⟩
    unfold fJoin
    rw [if_pos c2]
    exact fc_is upd_same (hfa.same (same_new hu _))
  · have c2 : ¬ a.top * b.bot - b.top * a.bot > 0 := fun z => not_lt c1 (hc.mpr z)
    refine ⟨_, rfl, r, _, 2, _, rfl, rfl, SqT.of hr1, at_pos (by decide) rfl, ?_⟩
    refine ⟨_, rfl, _, rfl, _, rfl, p, _, 1, _, rfl, rfl, SqT.of hp, at_pos (by decide) rfl, _, rfl, r, _, 1, _, rfl, rfl, SqT.of hr1, at_pos (by decide) rfl, _, _, _, rfl, _, rfl, three_line, fun u hu => q u _ (same_new hu _) ?_⟩
    unfold fJoin
    rw [if_neg c2]
    exact fc_is upd_same (hfb.same (same_new hu _))
/-! ### thin_step -/
def spThin : Sp := fun vs H Q _ => ∃ (k size : Int) (p : Addr) (a : Fc), vs = [.int k, .int size, .ref p] ∧ 2 ≤ k ∧ k ≤ 10 ∧ FcAt H p a ∧ Fb 12 a ∧ ∀ r H', Same H H' → FcAt H' r (fThin k size a) → Q (.ref r) H'
abbrev s_thin_step : Stmt := top 19
abbrev N_thin_step : List Str := ["grade", "size", "inner", "most", "peak", "factor", "kept"]
theorem sc_thin_step : FnScope N_thin_step ["grade", "size", "inner"] (defScope s_thin_step) := ⟨rfl, rfl, rfl, by decide +kernel, rfl, by decide +kernel, by decide +kernel⟩
theorem kk_small {k : Int} (h2 : 2 ≤ k) (h10 : k ≤ 10) : -1000000 < k * k ∧ k * k < 1000000 := by
  have : k = 2 ∨ k = 3 ∨ k = 4 ∨ k = 5 ∨ k = 6 ∨ k = 7 ∨ k = 8 ∨ k = 9 ∨ k = 10 := by omega
  rcases this with rfl | rfl | rfl | rfl | rfl | rfl | rfl | rfl | rfl <;> decide
theorem ok_thin_step (F : Fun K "thin_step" "thin_step" s_thin_step f fd) (T : Txt mg) (C_multiplied : Cal P w K mg base 2 "multiplied" ["one", "two"] spTimes) (C_grade_factor : Cal P w K mg base 2 "grade_factor" ["grade"] spGrade) : FnOk P w K mg base CX0 3 f fd ["grade", "size", "inner"] spThin := by
  refine F.ok sc_thin_step (fun vs H Q E h => ?_) (fun cdv A outer s H vs Q E hr h => ?_)
  · obtain ⟨k, size, p, a, rfl, _⟩ := h
    rfl
  obtain ⟨k, size, p, a, rfl, h2, h10, ⟨fa, hp, hfa⟩, ba, q⟩ := h
  refine ⟨_, (pss_cons (ps_asg (pv 2) (pg_tup rfl (pgs_cons (pg_name (i := 3) sc_thin_step.nd rfl (Or.inl rfl)) (pgs_cons (pg_name (i := 4) sc_thin_step.nd rfl (Or.inl rfl)) (pgs_cons (pg_name (i := 5) sc_thin_step.nd rfl (Or.inl rfl)) pgs_nil)))))
  (pss_cons (ps_set (i := 6) sc_thin_step.nd rfl (Or.inl rfl) (pe_callB (call_min2 rfl) (by rfl) T.b_min (by decide +kernel) (pa_cons (pv 3) (pa_cons (pe_op op_mul (pe_op op_mul (pv 0) (pv 0)) (pe_callB (call_min2 rfl) (by rfl) T.b_min (by decide +kernel) (pa_cons (pv 1) (pa_cons (pv 3) pa_nil)))) pa_nil))))
  (pss_one (ps_ret (pe_tup (pa_cons (pv 6) (pa_cons (pv 4) (pa_cons (pe_cal C_multiplied (hr.mono (by omega)) rfl (pa_cons (pv 5) (pa_cons (pe_cal C_grade_factor (hr.mono (by omega)) rfl (pa_cons (pv 0) pa_nil)) pa_nil))) pa_nil)))))))), ?_⟩
  obtain ⟨s1, s2⟩ := kk_small h2 h10
  obtain ⟨p1, p2, q1, q2⟩ := grade_ok h2 h10
  have l := low_of p1 p2
  have g := gI_pos (t := gradeT k) p2
  refine ⟨_, rfl, p, _, rfl, SqT.of hp, rfl, _, _, rfl, _, _, rfl, _, _, rfl, rfl, ?_⟩
  refine ⟨_, rfl, _, rfl, _, rfl, _, _, rfl, rfl, small_mul (by omega) (by omega), _, rfl, _, rfl, _, _, rfl, _, _, rfl, rfl, small_mul s1 s2, _, _, rfl, ?_⟩
  refine ⟨_, rfl, _, rfl, _, rfl, _, rfl, k, rfl, h2, h10, fun r1 H1 g1 hr1 => ?_⟩
  refine ⟨fa, r1, a.top, a.bot, _, _, rfl, hfa.same g1, hr1, ba.low.tp, ba.low.bp, l.tp, l.bp, ba.t1.mono (by decide), ba.b1.mono (by decide), (B_small (by omega) q1).div (by omega) g, (B_small (by omega) q2).div (by omega) g, fun r2 H2 g2 hr2 => ?_⟩
  refine ⟨three_line, fun u hu => q u _ (g1.trans (g2.trans (same_new hu _))) (fc_is upd_same (hr2.same (same_new hu _)))⟩
/-! ### spare_step -/
def spSpare : Sp := fun vs H Q _ => ∃ (size : Int) (p : Addr) (a : Fc), vs = [.int size, .ref p] ∧ 0 ≤ size ∧ size ≤ 10 ∧ FcAt H p a ∧ Fb 12 a ∧ ∀ r H', Same H H' → FcAt H' r (fSpare size a) → Q (.ref r) H'
abbrev s_spare_step : Stmt := top 20
abbrev N_spare_step : List Str := ["size", "inner", "most", "peak", "factor", "highest"]
theorem sc_spare_step : FnScope N_spare_step ["size", "inner"] (defScope s_spare_step) := ⟨rfl, rfl, rfl, by decide +kernel, rfl, by decide +kernel, by decide +kernel⟩
theorem ok_spare_step (F : Fun K "spare_step" "spare_step" s_spare_step f fd) (T : Txt mg) : FnOk P w K mg base CX0 1 f fd ["size", "inner"] spSpare := by
  refine F.ok sc_spare_step (fun vs H Q E h => ?_) (fun cdv A outer s H vs Q E hr h => ?_)
  · obtain ⟨size, p, a, rfl, _⟩ := h
    rfl
  obtain ⟨size, p, a, rfl, h0, h10, ⟨fa, hp, hfa⟩, ba, q⟩ := h
  refine ⟨_, (pss_cons (ps_asg (pv 1) (pg_tup rfl (pgs_cons (pg_name (i := 2) sc_spare_step.nd rfl (Or.inl rfl)) (pgs_cons (pg_name (i := 3) sc_spare_step.nd rfl (Or.inl rfl)) (pgs_cons (pg_name (i := 4) sc_spare_step.nd rfl (Or.inl rfl)) pgs_nil)))))
  (pss_cons (ps_set (i := 5) sc_spare_step.nd rfl (Or.inl rfl) (pe_callB (call_min2 rfl) (by rfl) T.b_min (by decide +kernel) (pa_cons (pv 0) (pa_cons (pv 2) pa_nil))))
  (pss_one (ps_ret (pe_tup (pa_cons (pe_callB (call_min2 rfl) (by rfl) T.b_min (by decide +kernel) (pa_cons (pv 2) (pa_cons (pe_op op_fdiv (pe_op op_mul (pv 5) (pe_op op_add (pv 5) pe_int)) pe_int) pa_nil))) (pa_cons (pv 3) (pa_cons (pv 4) pa_nil)))))))), ?_⟩
  have i0 := imin_nn h0 ba.m0
  have i1 : imin size a.most ≤ 10 := Int.le_trans imin_le' h10
  refine ⟨_, rfl, p, _, rfl, SqT.of hp, rfl, _, _, rfl, _, _, rfl, _, _, rfl, rfl, ?_⟩
  refine ⟨_, rfl, _, rfl, _, _, rfl, ?_⟩
  show gName 5 (V.int (imin size a.most)) _ _ _
  refine ⟨_, rfl, _, rfl, _, rfl, _, _, rfl, rfl, _, _, rfl, rfl, small_mul (by omega) (by omega), _, _, rfl, rfl, ⟨by decide, by decide⟩, _, _, rfl, _, rfl, _, rfl, three_line, fun u hu => ?_⟩
  exact q u _ (same_new hu _) (fc_is upd_same (hfa.same (same_new hu _)))
/-! ### base_step -/
def spBase : Sp := fun vs H Q _ => ∃ (size : Int) (p : Addr) (a : Fc), vs = [.int size, .ref p] ∧ 0 ≤ size ∧ size ≤ 10 ∧ FcAt H p a ∧ Fb 12 a ∧ ∀ r H', Same H H' → FcAt H' r (fBase size a) → Q (.ref r) H'
abbrev s_base_step : Stmt := top 21
abbrev N_base_step : List Str := ["size", "inner", "most", "peak", "factor", "highest", "worst", "rank"]
theorem sc_base_step : FnScope N_base_step ["size", "inner"] (defScope s_base_step) := ⟨rfl, rfl, rfl, by decide +kernel, rfl, by decide +kernel, by decide +kernel⟩
theorem worst_450 {a : Fc} {size : Int} (ba : Fb 12 a) (h0 : 0 ≤ size) (h10 : size ≤ 10) : 0 < maxL (wl a.most (imin size a.most)) ∧ B 450 (maxL (wl a.most (imin size a.most))) := by
  obtain ⟨w1, w2⟩ := worst_b (imin_nn h0 ba.m0) (Int.le_trans imin_le' h10) (imin_le (i := size) (j := a.most))
  refine ⟨by omega, B.mono (m := 419) ?_ (by decide)⟩
  have hm : a.most.natAbs < 2 ^ 414 := ba.m1
  show (maxL (wl a.most (imin size a.most))).natAbs < 2 ^ 419
  rw [show (2 : Nat) ^ 419 = 2 ^ 414 * 32 from rfl]
  have := ba.m0
  omega
theorem wl_take {most hi : Int} {i : Nat} (h : i < (hi + 1).toNat) : (wl most hi).take (i + 1) = (wl most hi).take i ++ [1 + 2 * (0 + (i : Int)) * (most - (0 + (i : Int)))] := by
  have e : (wl most hi)[i]? = some (1 + 2 * (0 + (i : Int)) * (most - (0 + (i : Int)))) := by
    unfold wl
    rw [List.getElem?_map, List.getElem?_range h]
    rfl
  rw [List.take_add_one, e]
  rfl
theorem wl_len {most hi : Int} : (wl most hi).length = (hi + 1).toNat := by
  unfold wl
  rw [List.length_map, List.length_range]
theorem ok_base_step (F : Fun K "base_step" "base_step" s_base_step f fd) (T : Txt mg) (C_multiplied : Cal P w K mg base 2 "multiplied" ["one", "two"] spTimes) : FnOk P w K mg base CX0 3 f fd ["size", "inner"] spBase := by
  refine F.ok sc_base_step (fun vs H Q E h => ?_) (fun cdv A outer s H vs Q E hr h => ?_)
  · obtain ⟨size, p, a, rfl, _⟩ := h
    rfl
  obtain ⟨size, p, a, rfl, h0, h10, ⟨fa, hp, hfa⟩, ba, q⟩ := h
  refine ⟨_, (pss_cons (ps_asg (pv 1) (pg_tup rfl (pgs_cons (pg_name (i := 2) sc_base_step.nd rfl (Or.inr rfl)) (pgs_cons (pg_name (i := 3) sc_base_step.nd rfl (Or.inl rfl)) (pgs_cons (pg_name (i := 4) sc_base_step.nd rfl (Or.inl rfl)) pgs_nil)))))
  (pss_cons (ps_set (i := 5) sc_base_step.nd rfl (Or.inl rfl) (pe_callB (call_min2 rfl) (by rfl) T.b_min (by decide +kernel) (pa_cons (pv 0) (pa_cons (pv 2) pa_nil))))
  (pss_cons (ps_set (i := 6) sc_base_step.nd rfl (Or.inl rfl) (pe_callB (cr_max rfl) (by rfl) T.b_max (by decide +kernel) (pa_cons (pe_lc (own := [("rank", 7)]) (g := gName 7) (tt := tYes) (by rfl) sc_base_step.nd (pi_range1 (by rfl) T.b_range (pa_cons (pe_op op_add (pv 5) pe_int) pa_nil)) (blkOk_by (N := N_base_step) (sc := defScope s_base_step) (by decide +kernel)) (fun _ _ _ _ _ => (pg_name (i := 7) sc_base_step.nd rfl (Or.inl rfl))) (fun _ _ _ _ _ => pts_nil) (fun _ _ _ _ _ => (pe_op op_add pe_int (pe_op op_mul (pe_op op_mul pe_int (pv 7)) (pe_op op_sub (pv 2) (pv 7)))))) pa_nil)))
  (pss_one (ps_ret (pe_tup (pa_cons (pv 5) (pa_cons (pv 3) (pa_cons (pe_cal C_multiplied (hr.mono (by omega)) rfl (pa_cons (pv 4) (pa_cons (pe_tup (pa_cons (pv 6) (pa_cons pe_int pa_nil))) pa_nil))) pa_nil))))))))), ?_⟩
  have i0 := imin_nn h0 ba.m0
  have i1 : imin size a.most ≤ 10 := Int.le_trans imin_le' h10
  obtain ⟨w0, wB⟩ := worst_450 ba h0 h10
  refine ⟨_, rfl, p, _, rfl, SqT.of hp, rfl, _, _, rfl, _, _, rfl, _, _, rfl, rfl, ?_⟩
  refine ⟨_, rfl, _, rfl, _, _, rfl, ?_⟩
  show gName 5 (V.int (imin size a.most)) _ _ _
  generalize hhi : imin size a.most = hi at i0 i1 w0 wB
  refine ⟨_, rfl, _, _, rfl, rfl, hi + 1, rfl, by omega, by omega, fun D hD => ?_⟩
  refine lc_range (lo := 0) (n := (hi + 1).toNat) (fun i H' => Same H H' ∧ H' D = some (.lst (((wl a.most hi).take i).map V.int))) ⟨same_new hD _, upd_same⟩ ?_ ?_
  · rintro i H1 hlt ⟨g1, hd1⟩
    refine ⟨rfl, lc_yes ?_⟩
    refine ⟨_, rfl, _, _, rfl, rfl, small_mul (by decide) (by decide), _, rfl, _, rfl, _, _, rfl, rfl, _, _, rfl, rfl, small_mul (by omega) (by omega), _, _, rfl, rfl, ?_⟩
    refine ⟨_, hd1, by rw [List.length_map]; exact small1000 (by rw [List.length_take]; omega), same_at g1 hD, ?_⟩
    rw [upd_same, wl_take hlt, List.map_append]
    rfl
  rintro H1 ⟨g1, hd1⟩
  rw [← wl_len (most := a.most), List.take_length] at hd1
  refine ⟨D, _, rfl, SqL.of hd1, by rw [wl_len]; omega, fun m hm hall => ?_⟩
  have em : m = maxL (wl a.most hi) := maxL_is hm hall (by
    have := hall 1 (List.mem_map.mpr ⟨(0 : Nat), List.mem_range.mpr (by omega), by show 1 + 2 * (0 + 0) * (a.most - (0 + 0)) = (1 : Int); omega⟩)
    omega)
  subst em
  have hp1 := g1 _ _ hp
  refine ⟨_, rfl, _, rfl, _, rfl, _, rfl, two_line, fun v hv => ?_⟩
  have g2 := g1.trans (same_new hv (.tup [V.int (maxL (wl a.most hi)), V.int 1]))
  refine ⟨fa, v, a.top, a.bot, _, 1, rfl, hfa.same g2, upd_same, ba.low.tp, ba.low.bp, w0, by decide, ba.t1.mono (by decide), ba.b1.mono (by decide), wB, B_small (by decide) (by decide), fun r2 H2 g3 hr2 => ?_⟩
  refine ⟨three_line, fun u hu => q u _ (g2.trans (g3.trans (same_new hu _))) ?_⟩
  subst hhi
  exact fc_is upd_same (hr2.same (same_new hu _))
end
end P62
namespace P62
open PySem PySem.Spec PyProof.Rows L2 SX EX
theorem Paired.at {α β : Type} {F : α → β → Prop} : ∀ {as : List α} {bs : List β} {i : Nat} {b : β}, Paired F as bs → bs[i]? = some b → ∃ a, as[i]? = some a ∧ F a b
  | _, _, _, _, .nil, e => by simp at e
  | _, _, 0, _, .cons r _, e => by cases e; exact ⟨_, rfl, r⟩
  | _, _, i + 1, b, .cons _ t, e => by
    obtain ⟨a, h1, h2⟩ := Paired.at (i := i) (b := b) t (by simpa using e)
    exact ⟨a, by simpa using h1, h2⟩
theorem Paired.len {α β : Type} {F : α → β → Prop} : ∀ {as : List α} {bs : List β}, Paired F as bs → as.length = bs.length
  | _, _, .nil => rfl
  | _, _, .cons _ t => by rw [List.length_cons, List.length_cons, Paired.len t]
theorem take_snoc {α : Type} {l : List α} {i : Nat} {x : α} (h : l[i]? = some x) : l.take (i + 1) = l.take i ++ [x] := by
  rw [List.take_add_one, h]
  rfl
/-! ### counts, the dict of them -/
abbrev nK (n : List Nat) : Key := Sum.inr (S n)
/-- a pair of a name and a count, as a tuple or a list -/
def PairAt (H : Hp) (b : Addr) (c : List Nat × Int) : Prop := H b = some (.lst [.str (S c.1), .int c.2]) ∨ H b = some (.tup [.str (S c.1), .int c.2])
def CntAt (H : Hp) (a : Addr) (cs : List (List Nat × Int)) : Prop := ∃ bs : List Addr, (H a = some (.lst (bs.map V.ref)) ∨ H a = some (.tup (bs.map V.ref))) ∧ Paired (PairAt H) bs cs
theorem CntAt.same {H H' : Hp} {a : Addr} {cs : List (List Nat × Int)} (e : Same H H') (h : CntAt H a cs) : CntAt H' a cs := by
  obtain ⟨bs, h1, h2⟩ := h
  exact ⟨bs, h1.imp (e _ _) (e _ _), L2.Paired.mapP h2 fun b c => Or.imp (e _ _) (e _ _)⟩
def kvsOf (cs : List (List Nat × Int)) : List (Key × V) := cs.foldl (fun acc c => putK acc (nK c.1) (.int c.2)) []
theorem kvs_snoc {cs : List (List Nat × Int)} {i : Nat} {c : List Nat × Int} (h : cs[i]? = some c) : kvsOf (cs.take (i + 1)) = putK (kvsOf (cs.take i)) (nK c.1) (.int c.2) := by
  rw [take_snoc h]
  unfold kvsOf
  rw [List.foldl_append]
  rfl
theorem kvs_len (cs : List (List Nat × Int)) : (kvsOf cs).length ≤ cs.length := by
  have go : ∀ (cs : List (List Nat × Int)) (acc : List (Key × V)), (cs.foldl (fun acc c => putK acc (nK c.1) (.int c.2)) acc).length ≤ acc.length + cs.length := fun cs => by
    induction cs with
    | nil => exact fun acc => Nat.le_refl _
    | cons c cs ih =>
      intro acc
      have h1 := ih (putK acc (nK c.1) (.int c.2))
      have h2 := length_putK acc (nK c.1) (.int c.2)
      rw [List.foldl_cons, List.length_cons]
      omega
  have := go cs []
  rw [List.length_nil, Nat.zero_add] at this
  exact this
/-- every value is a count -/
def KvOk (kvs : List (Key × V)) : Prop := ∀ k v, valV kvs k = some v → ∃ c : Int, v = .int c ∧ 0 ≤ c ∧ B 402 c
def CntOk (cs : List (List Nat × Int)) : Prop := ∀ c ∈ cs, 0 ≤ c.2 ∧ B 402 c.2
theorem kv_ok {cs : List (List Nat × Int)} (h : CntOk cs) : KvOk (kvsOf cs) := by
  have go : ∀ (cs : List (List Nat × Int)) (acc : List (Key × V)), CntOk cs → KvOk acc → KvOk (cs.foldl (fun acc c => putK acc (nK c.1) (.int c.2)) acc) := fun cs => by
    induction cs with
    | nil => exact fun acc _ h => h
    | cons c cs ih =>
      intro acc hc ha
      rw [List.foldl_cons]
      refine ih _ (fun x hx => hc x (List.mem_cons_of_mem _ hx)) fun k v e => ?_
      rw [valV_put] at e
      by_cases hk : k = nK c.1
      · rw [if_pos hk] at e
        cases e
        exact ⟨c.2, rfl, hc c List.mem_cons_self⟩
      · rw [if_neg hk] at e
        exact ha k v e
  exact go cs [] h fun k v e => by cases e
def kn (kvs : List (Key × V)) (n : List Nat) : Int := match valV kvs (nK n) with | some (.int c) => c | _ => 0
theorem kn_ok {kvs : List (Key × V)} (h : KvOk kvs) (n : List Nat) : 0 ≤ kn kvs n ∧ B 402 (kn kvs n) := by
  unfold kn
  cases e : valV kvs (nK n) with
  | none => exact ⟨Int.le_refl 0, (by show 0 < 2 ^ 402; exact Nat.pow_pos (by decide))⟩
  | some v =>
    obtain ⟨c, rfl, h1, h2⟩ := h _ _ e
    exact ⟨h1, h2⟩
theorem kn_is {kvs : List (Key × V)} (h : KvOk kvs) {n : List Nat} (hs : (valV kvs (nK n)).isSome = true) : valV kvs (nK n) = some (.int (kn kvs n)) := by
  unfold kn
  cases e : valV kvs (nK n) with
  | none => rw [e] at hs; cases hs
  | some v =>
    obtain ⟨c, rfl, _⟩ := h _ _ e
    rfl
/-- the first strange name -/
def odd (kvs : List (Key × V)) (n : List Nat) : Bool := !(valV kvs (nK n)).isSome
def first (kvs : List (Key × V)) (l : List (List Nat)) : Option (List Nat) := l.find? (odd kvs)
theorem first_at {kvs : List (Key × V)} {l : List (List Nat)} {i : Nat} {n : List Nat} (hn : l[i]? = some n) (hp : ∀ m ∈ l.take i, odd kvs m = false) (ho : odd kvs n = true) : first kvs l = some n := by
  induction l generalizing i with
  | nil => simp at hn
  | cons x l ih =>
    cases i with
    | zero =>
      cases hn
      unfold first
      rw [List.find?_cons, ho]
    | succ i =>
      have hx := hp x (by simp)
      unfold first
      rw [List.find?_cons, hx]
      exact ih (by simpa using hn) (fun m hm => hp m (by rw [List.take_succ_cons]; exact List.mem_cons_of_mem _ hm))
theorem first_none {kvs : List (Key × V)} {l : List (List Nat)} (h : ∀ m ∈ l, odd kvs m = false) : first kvs l = none := List.find?_eq_none.mpr fun m hm => by rw [h m hm]; exact Bool.false_ne_true
theorem known_of {kvs : List (Key × V)} {l : List (List Nat)} (h : first kvs l = none) : ∀ n ∈ l, (valV kvs (nK n)).isSome = true := fun n hn => by
  have := List.find?_eq_none.mp h n hn
  unfold odd at this
  cases e : (valV kvs (nK n)).isSome with
  | true => rfl
  | false => rw [e] at this; exact absurd rfl this
section
variable {P : Program} {w : World} {K : PySem.W.Frag} {mg : Str → Option Value} {base : Heap} {f : Addr} {fd : FuncData}
/-! ### names_of -/
def nmV (l : List (List Nat)) : List V := l.map fun n => V.str (S n)
theorem nm_ne {a : Plan} : nmV a.names ≠ [] := fun e => by
  have h := congrArg List.length e
  have h1 := names_pos a
  have h2 : (nmV a.names).length = a.names.length := List.length_map ..
  have h3 : ([] : List V).length = 0 := rfl
  omega
def spNames (h : Nat) : Sp := fun vs H Q _ => ∃ (pl : Plan) (p : Addr), vs = [.ref p] ∧ PlanAt H pl p ∧ pl.height ≤ h ∧ pl.count ≤ 1000 ∧ ∀ r H', Same H H' → H' r = some (.tup (nmV pl.names)) → Q (.ref r) H'
abbrev s_names_of : Stmt := top 15
abbrev N_names_of : List Str := ["plan"]
theorem sc_names_of : FnScope N_names_of ["plan"] (defScope s_names_of) := ⟨rfl, rfl, rfl, by decide +kernel, rfl, by decide +kernel, by decide +kernel⟩
theorem lit_tag {a b : Str} (h : a ≠ b) : decide (a = b) = false := decide_eq_false h
theorem ok_names_of {h : Nat} (F : Fun K "names_of" "names_of" s_names_of f fd) (T : Txt mg) (C_names_of : Cal P w K mg base h "names_of" ["plan"] (spNames h)) : FnOk P w K mg base CX0 (h + 1) f fd ["plan"] (spNames (h + 1)) := by
  refine F.ok sc_names_of (fun vs H Q E h => ?_) (fun cdv A outer s H vs Q E hr h => ?_)
  · obtain ⟨pl, p, rfl, _⟩ := h
    rfl
  obtain ⟨pl, p, rfl, hp, hh, hc, q⟩ := h
  refine ⟨_, (pss_one (ps_match (pe_ix ix_tup (pv 0) pe_int (fun _ _ => rfl)) (pm_str (pss_one (ps_ret (pe_tup (pa_cons (pe_ix ix_tup (pv 0) pe_int (fun _ _ => rfl)) pa_nil))))
    (pm_str (pss_one (ps_ret (pe_op op_catT (pe_cal C_names_of (hr.mono (by omega)) rfl (pa_cons (pe_ix ix_tup (pv 0) pe_int (fun _ _ => rfl)) pa_nil)) (pe_cal C_names_of (hr.mono (by omega)) rfl (pa_cons (pe_ix ix_tup (pv 0) pe_int (fun _ _ => rfl)) pa_nil)))))
    (pm_any (pss_one (ps_ret (pe_cal C_names_of (hr.mono (by omega)) rfl (pa_cons (pe_ix ix_tup (pv 0) (pe_un un_neg pe_int) (fun _ _ => rfl)) pa_nil))))))))), ?_⟩
  cases pl with
  | take n =>
    refine ⟨_, rfl, p, _, 0, _, rfl, rfl, SqT.of hp, at_pos (by decide) rfl, _, rfl, ifT (by decide +kernel) ?_⟩
    exact ⟨_, rfl, p, _, 1, _, rfl, rfl, SqT.of hp, at_pos (by decide) rfl, line_ge (by show 1 ≤ _; omega), fun u hu => q u _ (same_new hu _) upd_same⟩
  | join x y =>
    obtain ⟨pa, pb, ho, ha, hb⟩ := hp
    simp only [Plan.height] at hh
    simp only [Plan.count] at hc
    refine ⟨_, rfl, p, _, 0, _, rfl, rfl, SqT.of ho, at_pos (by decide) rfl, _, rfl, ifF (by decide +kernel) ⟨_, rfl, ifT (by decide +kernel) ?_⟩⟩
    refine ⟨_, rfl, p, _, 1, _, rfl, rfl, SqT.of ho, at_pos (by decide) rfl, x, pa, rfl, ha, by omega, by omega, fun r1 H1 g1 hr1 => ?_⟩
    refine ⟨_, rfl, p, _, 2, _, rfl, rfl, SqT.of (g1 _ _ ho), at_pos (by decide) rfl, y, pb, rfl, hb.same g1, by omega, by omega, fun r2 H2 g2 hr2 => ?_⟩
    have l1 := names_le x
    have l2 := names_le y
    refine ⟨r1, r2, _, _, rfl, rfl, SqT.of (g2 _ _ hr1), SqT.of hr2, nm_ne, line_ge (by unfold nmV; rw [List.length_map, List.length_map]; omega), fun e => absurd e nm_ne, fun _ u hu => ?_⟩
    refine q u _ (g1.trans (g2.trans (same_new hu _))) ?_
    rw [upd_same]
    simp only [nmV, Plan.names, List.map_append]
  | scale m n x =>
    obtain ⟨pa, ho, ha⟩ := hp
    simp only [Plan.height] at hh
    simp only [Plan.count] at hc
    refine ⟨_, rfl, p, _, 0, _, rfl, rfl, SqT.of ho, at_pos (by decide) rfl, _, rfl, ifF (by decide +kernel) ⟨_, rfl, ifF (by decide +kernel) ?_⟩⟩
    exact ⟨_, rfl, _, rfl, p, _, -1, _, rfl, rfl, SqT.of ho, atI_last [_, _, _] _, x, pa, rfl, ha, by omega, by omega, q⟩
  | spare x =>
    obtain ⟨pa, ho, ha⟩ := hp
    simp only [Plan.height] at hh
    simp only [Plan.count] at hc
    refine ⟨_, rfl, p, _, 0, _, rfl, rfl, SqT.of ho, at_pos (by decide) rfl, _, rfl, ifF (by decide +kernel) ⟨_, rfl, ifF (by decide +kernel) ?_⟩⟩
    exact ⟨_, rfl, _, rfl, p, _, -1, _, rfl, rfl, SqT.of ho, atI_last [_] _, x, pa, rfl, ha, by omega, by omega, q⟩
  | base x =>
    obtain ⟨pa, ho, ha⟩ := hp
    simp only [Plan.height] at hh
    simp only [Plan.count] at hc
    refine ⟨_, rfl, p, _, 0, _, rfl, rfl, SqT.of ho, at_pos (by decide) rfl, _, rfl, ifF (by decide +kernel) ⟨_, rfl, ifF (by decide +kernel) ?_⟩⟩
    exact ⟨_, rfl, _, rfl, p, _, -1, _, rfl, rfl, SqT.of ho, atI_last [_] _, x, pa, rfl, ha, by omega, by omega, q⟩
  | thin k x =>
    obtain ⟨pa, ho, ha⟩ := hp
    simp only [Plan.height] at hh
    simp only [Plan.count] at hc
    refine ⟨_, rfl, p, _, 0, _, rfl, rfl, SqT.of ho, at_pos (by decide) rfl, _, rfl, ifF (by decide +kernel) ⟨_, rfl, ifF (by decide +kernel) ?_⟩⟩
    exact ⟨_, rfl, _, rfl, p, _, -1, _, rfl, rfl, SqT.of ho, atI_last [_, _] _, x, pa, rfl, ha, by omega, by omega, q⟩
theorem none_names {k : Nat} : FnOk P w K mg base CX0 k f fd ["plan"] (spNames 0) := by
  have no : ∀ vs H Q E, ¬ spNames 0 vs H Q E := fun vs H Q E h => by
    obtain ⟨pl, p, _, _, hh, _⟩ := h
    have := height_pos pl
    omega
  exact ⟨fun vs H Q E h => absurd h (no vs H Q E), fun A outer s H args us vs Q E _ _ _ _ h => absurd h (no vs H Q E)⟩
theorem all_names (T : Txt mg) (F : Fun K "names_of" "names_of" s_names_of f fd) (m : mg "names_of" = some (.ref f)) (b : Binds K fd ["plan"] []) : ∀ h : Nat, Cal P w K mg base h "names_of" ["plan"] (spNames h)
  | 0 => ⟨f, fd, none_names, m, F.kp, b⟩
  | h + 1 => ⟨f, fd, ok_names_of F T (all_names T F m b h), m, F.kp, b⟩
/-! ### UnknownName(name) -/
def spInit (C : Addr) : Sp := fun vs H Q _ => ∃ (a : Addr) (v : V), vs = [.ref a, v] ∧ H a = some (exo a C none) ∧ ∀ dx, H dx = none → dx ≠ a → Q .non (upd (upd H dx (exd dx [("name", v)])) a (exo a C (some dx)))
abbrev s_iU : Stmt := (clsBody (top 5)).getD 0 (.Pass ⟨0, 0, 0, 0⟩)
abbrev N_iU : List Str := ["self", "name"]
theorem sc_iU : FnScope N_iU ["self", "name"] (defScope s_iU) := ⟨rfl, rfl, rfl, by decide +kernel, rfl, by decide +kernel, by decide +kernel⟩
theorem ok_iU {cU cC cN cP fU : Addr} (F : Fun K "__init__" "UnknownName.__init__" s_iU f fd) (U : Err K mg cU cC cN cP fU) : FnOk P w K mg base CX0 1 f fd ["self", "name"] (spInit cU) := by
  refine F.ok sc_iU (fun vs H Q E h => ?_) (fun cdv A outer s H vs Q E hr h => ?_)
  · obtain ⟨a, v, rfl, _⟩ := h
    rfl
  obtain ⟨a, v, rfl, ha, q⟩ := h
  refine ⟨_, (pss_one (ps_ost (pv 0) (pv 1))), ?_⟩
  exact ⟨_, rfl, _, rfl, a, cU, rfl, U.o_UnknownName, U.no_UnknownName_name, .inl ⟨ha, q⟩⟩
end
end P62
namespace P62
open PySem PySem.Spec PyProof.Rows L2 SX EX
section
variable {P : Program} {w : World} {K : PySem.W.Frag} {mg : Str → Option Value} {base : Heap} {f : Addr} {fd : FuncData} {cU cC cN cP fU : Addr} {fdU : FuncData}
/-! ### check_names -/
/-- the error of a strange name, and what stands behind it -/
def Strange (cU : Addr) (n : List Nat) (H : Hp) (E : XK) : Prop := ∀ d H', Same H H' → H' d = some (.xd [("name", .str (S n))]) → E (.ref cU) (some d) H'
def spCheck (cU : Addr) : Sp := fun vs H Q E => ∃ (pl : Plan) (p k : Addr) (kvs : List (Key × V)), vs = [.ref p, .ref k] ∧ PlanAt H pl p ∧ pl.height ≤ 12 ∧ pl.count ≤ 1000 ∧ H k = some (.dK kvs) ∧
  (first kvs pl.names = none → ∀ H', Same H H' → Q .non H') ∧ ∀ n, first kvs pl.names = some n → Strange cU n H E
abbrev s_check_names : Stmt := top 16
abbrev N_check_names : List Str := ["plan", "known", "name"]
theorem sc_check_names : FnScope N_check_names ["plan", "known"] (defScope s_check_names) := ⟨rfl, rfl, rfl, by decide +kernel, rfl, by decide +kernel, by decide +kernel⟩
theorem ok_check_names (F : Fun K "check_names" "check_names" s_check_names f fd) (T : Txt mg) (U : Err K mg cU cC cN cP fU) (IN_UnknownName : FnOk P w K mg base CX0 1 fU fdU ["self", "name"] (spInit cU)) (B_UnknownName : Binds K fdU ["self", "name"] [])
    (C_names_of : Cal P w K mg base 12 "names_of" ["plan"] (spNames 12)) : FnOk P w K mg base (L2N.CX P w) 13 f fd ["plan", "known"] (spCheck cU) := by
  refine okR F sc_check_names (fun vs H Q E h => ?_) (fun cdv A outer s H vs Q E hr h => ?_)
  · obtain ⟨pl, p, k, kvs, rfl, _⟩ := h
    rfl
  obtain ⟨pl, p, k, kvs, rfl, hp, hh, hc, hk, q0, q1⟩ := h
  refine ⟨_, (pss_one (ps_for (passes_of rfl) rfl (pi_tup (pe_cal C_names_of (hr.mono (by omega)) rfl (pa_cons (pv 0) pa_nil))) (pg_name (i := 2) sc_check_names.nd rfl (Or.inl rfl)) (pss_one (ps_if (pt_cmp (pc_dnotin (hu_of hr) (pv 2) (pv 1))) (pss_one (L2N.ps_raise rfl (L2N.takes_of rfl rfl rfl rfl) (pmkI U.o_UnknownName U.i_UnknownName U.t_UnknownName IN_UnknownName (hr.mono (by omega)) B_UnknownName passN rfl U.g_UnknownName (pa_cons (pv 2) pa_nil)))) pss_nil)))), ?_⟩
  refine ⟨_, rfl, pl, p, rfl, hp, hh, hc, fun r H1 g1 hr1 => ?_⟩
  have hl := names_le pl
  refine ⟨r, rfl, ⟨_, SqT.of hr1⟩, for_tup (K := K) (a := r) (xs := nmV pl.names) (fun i σ H' => ∃ v : Option V, σ = [some (.ref p), some (.ref k), v] ∧ Same H H' ∧ H' r = some (.tup (nmV pl.names)) ∧ ∀ m ∈ pl.names.take i, odd kvs m = false)
    ⟨none, rfl, g1, hr1, (fun m hm => nomatch hm)⟩ (fun i σ H' _ ⟨_, _, _, e, _⟩ => SqT.of e) ?_ ?_⟩
  · rintro i y σ H' hi ⟨v, rfl, g, hr', hall⟩
    obtain ⟨n, hn, rfl⟩ : ∃ n, pl.names[i]? = some n ∧ y = V.str (S n) := by
      unfold nmV at hi
      rw [List.getElem?_map] at hi
      cases e : pl.names[i]? with
      | none => rw [e] at hi; cases hi
      | some n => rw [e] at hi; exact ⟨n, rfl, (Option.some.inj hi).symm⟩
    refine ⟨_, rfl, _, rfl, k, _, rfl, DGet.k (k := nK n) (g _ _ hk), _, rfl, ?_⟩
    refine ite2 (fun c => ?_) (fun c => ?_)
    · have ho : odd kvs n = true := c
      refine ⟨_, rfl, by show 1 ≤ 1000; decide, fun a ha => ?_⟩
      refine ⟨a, .str (S n), rfl, upd_same, fun dx hdx hne => ⟨rfl, dx, [("name", .str (S n))], upd_same, ?_, ?_, ?_⟩⟩
      · rw [upd_ne hne, upd_same]
      · have := hdx
        rw [upd_ne hne] at this
        exact this
      · refine q1 n (first_at hn hall ho) dx _ (fun b o e => ?_) ?_
        · have e' := g _ _ e
          have h1 : b ≠ a := fun z => by rw [z, ha] at e'; cases e'
          have h2 : b ≠ dx := fun z => by
            have := hdx
            rw [upd_ne hne] at this
            rw [z, this] at e'
            cases e'
          rw [upd_ne h2, del_ne h1, upd_ne h1, upd_ne h2, upd_ne h1]
          exact e'
        · exact upd_same
    · have ho : odd kvs n = false := Bool.eq_false_iff.mpr c
      refine ⟨_, rfl, g, hr', fun m hm => ?_⟩
      rw [take_snoc hn] at hm
      rcases List.mem_append.mp hm with hm | hm
      · exact hall m hm
      · rw [List.mem_singleton.mp hm]
        exact ho
  · rintro σ H' ⟨v, rfl, g, hr', hall⟩
    have e : (nmV pl.names).length = pl.names.length := List.length_map ..
    rw [e, List.take_length] at hall
    exact q0 (first_none hall) H' g
/-! ### forecasted -/
def spFc (h : Nat) : Sp := fun vs H Q _ => ∃ (pl : Plan) (p k : Addr) (size : Int) (kvs : List (Key × V)), vs = [.ref p, .int size, .ref k] ∧ PlanAt H pl p ∧ pl.Good ∧ pl.height ≤ h ∧ pl.height ≤ 12 ∧ 0 ≤ size ∧ size ≤ 10 ∧ H k = some (.dK kvs) ∧ KvOk kvs ∧
  (∀ n ∈ pl.names, (valV kvs (nK n)).isSome = true) ∧ ∀ r H', Same H H' → FcAt H' r (fc (kn kvs) size pl) → Q (.ref r) H'
abbrev s_forecasted : Stmt := top 22
abbrev N_forecasted : List Str := ["plan", "size", "known"]
theorem sc_forecasted : FnScope N_forecasted ["plan", "size", "known"] (defScope s_forecasted) := ⟨rfl, rfl, rfl, by decide +kernel, rfl, by decide +kernel, by decide +kernel⟩
theorem ok_forecasted {h : Nat} (F : Fun K "forecasted" "forecasted" s_forecasted f fd) (T : Txt mg) (C_forecasted : Cal P w K mg base (h + 3) "forecasted" ["plan", "size", "known"] (spFc h))
    (C_join_step : Cal P w K mg base 3 "join_step" ["one", "two"] spJoin) (C_thin_step : Cal P w K mg base 3 "thin_step" ["grade", "size", "inner"] spThin) (C_spare_step : Cal P w K mg base 3 "spare_step" ["size", "inner"] spSpare) (C_base_step : Cal P w K mg base 3 "base_step" ["size", "inner"] spBase) :
    FnOk P w K mg base CX0 (h + 4) f fd ["plan", "size", "known"] (spFc (h + 1)) := by
  refine F.ok sc_forecasted (fun vs H Q E h => ?_) (fun cdv A outer s H vs Q E hr h => ?_)
  · obtain ⟨pl, p, k, size, kvs, rfl, _⟩ := h
    rfl
  obtain ⟨pl, p, k, size, kvs, rfl, hp, hg, hh, h12, s0, s10, hk, ok, hn, q⟩ := h
  refine ⟨_, (pss_one (ps_match (pe_ix ix_tup (pv 0) pe_int (fun _ _ => rfl)) (pm_str (pss_one (ps_ret (pe_tup (pa_cons (pe_dget (hu_of hr) (pv 2) (pe_ix ix_tup (pv 0) pe_int (fun _ _ => rfl)) (fun _ _ => rfl)) (pa_cons (pe_dget (hu_of hr) (pv 2) (pe_ix ix_tup (pv 0) pe_int (fun _ _ => rfl)) (fun _ _ => rfl)) (pa_cons (pe_tup (pa_cons pe_int (pa_cons pe_int pa_nil))) pa_nil))))))
    (pm_str (pss_one (ps_ret (pe_cal C_join_step (hr.mono (by omega)) rfl (pa_cons (pe_cal C_forecasted (hr.mono (by omega)) rfl (pa_cons (pe_ix ix_tup (pv 0) pe_int (fun _ _ => rfl)) (pa_cons (pv 1) (pa_cons (pv 2) pa_nil)))) (pa_cons (pe_cal C_forecasted (hr.mono (by omega)) rfl (pa_cons (pe_ix ix_tup (pv 0) pe_int (fun _ _ => rfl)) (pa_cons (pv 1) (pa_cons (pv 2) pa_nil)))) pa_nil)))))
    (pm_str (pss_one (ps_ret (pe_cal C_forecasted (hr.mono (by omega)) rfl (pa_cons (pe_ix ix_tup (pv 0) pe_int (fun _ _ => rfl)) (pa_cons (pv 1) (pa_cons (pv 2) pa_nil))))))
    (pm_str (pss_one (ps_ret (pe_cal C_thin_step (hr.mono (by omega)) rfl (pa_cons (pe_ix ix_tup (pv 0) pe_int (fun _ _ => rfl)) (pa_cons (pv 1) (pa_cons (pe_cal C_forecasted (hr.mono (by omega)) rfl (pa_cons (pe_ix ix_tup (pv 0) pe_int (fun _ _ => rfl)) (pa_cons (pv 1) (pa_cons (pv 2) pa_nil)))) pa_nil))))))
    (pm_str (pss_one (ps_ret (pe_cal C_spare_step (hr.mono (by omega)) rfl (pa_cons (pv 1) (pa_cons (pe_cal C_forecasted (hr.mono (by omega)) rfl (pa_cons (pe_ix ix_tup (pv 0) pe_int (fun _ _ => rfl)) (pa_cons (pv 1) (pa_cons (pv 2) pa_nil)))) pa_nil)))))
    (pm_any (pss_one (ps_ret (pe_cal C_base_step (hr.mono (by omega)) rfl (pa_cons (pv 1) (pa_cons (pe_cal C_forecasted (hr.mono (by omega)) rfl (pa_cons (pe_ix ix_tup (pv 0) pe_int (fun _ _ => rfl)) (pa_cons (pv 1) (pa_cons (pv 2) pa_nil)))) pa_nil))))))))))))), ?_⟩
  have bnd : ∀ {x : Plan}, x.Good → x.height ≤ 12 → Fb 12 (fc (kn kvs) size x) := fun g h => (fc_b s0 s10 (kn_ok ok) g h).mono h
  cases pl with
  | take n =>
    have hv := kn_is ok (hn n (List.mem_singleton.mpr rfl))
    have d : DGet H k (.str (S n)) (some (.int (kn kvs n))) := by
      have := DGet.k (k := nK n) hk
      rw [hv] at this
      exact this
    refine ⟨_, rfl, p, _, 0, _, rfl, rfl, SqT.of hp, at_pos (by decide) rfl, _, rfl, ifT (by decide +kernel) ?_⟩
    refine ⟨_, rfl, _, rfl, p, _, 1, _, rfl, rfl, SqT.of hp, at_pos (by decide) rfl, k, _, rfl, d, ?_⟩
    refine ⟨_, rfl, _, rfl, p, _, 1, _, rfl, rfl, SqT.of hp, at_pos (by decide) rfl, k, _, rfl, d, ?_⟩
    refine ⟨two_line, fun v hv => ⟨three_line, fun u hu => q u _ ((same_new hv _).trans (same_new hu _)) ?_⟩⟩
    exact fc_is upd_same ((show FrAt _ v 1 1 from upd_same).same (same_new hu _))
  | join x y =>
    obtain ⟨pa, pb, ho, ha, hb⟩ := hp
    simp only [Plan.height] at hh h12
    refine ⟨_, rfl, p, _, 0, _, rfl, rfl, SqT.of ho, at_pos (by decide) rfl, _, rfl, ifF (by decide +kernel) ⟨_, rfl, ifT (by decide +kernel) ?_⟩⟩
    refine ⟨_, rfl, p, _, 1, _, rfl, rfl, SqT.of ho, at_pos (by decide) rfl, _, rfl, _, rfl, x, pa, k, size, kvs, rfl, ha, hg.1, by omega, by omega, s0, s10, hk, ok, fun n h => hn n (List.mem_append_left _ h), fun r1 H1 g1 hr1 => ?_⟩
    refine ⟨_, rfl, p, _, 2, _, rfl, rfl, SqT.of (g1 _ _ ho), at_pos (by decide) rfl, _, rfl, _, rfl, y, pb, k, size, kvs, rfl, hb.same g1, hg.2, by omega, by omega, s0, s10, g1 _ _ hk, ok, fun n h => hn n (List.mem_append_right _ h), fun r2 H2 g2 hr2 => ?_⟩
    exact ⟨r1, r2, _, _, rfl, hr1.same g2, hr2, bnd hg.1 (by omega), bnd hg.2 (by omega), fun r H' g hr' => q r H' (g1.trans (g2.trans g)) hr'⟩
  | scale m n x =>
    obtain ⟨pa, ho, ha⟩ := hp
    simp only [Plan.height] at hh h12
    refine ⟨_, rfl, p, _, 0, _, rfl, rfl, SqT.of ho, at_pos (by decide) rfl, _, rfl, ifF (by decide +kernel) ⟨_, rfl, ifF (by decide +kernel) ⟨_, rfl, ifT (by decide +kernel) ?_⟩⟩⟩
    exact ⟨_, rfl, p, _, 3, _, rfl, rfl, SqT.of ho, at_pos (by decide) rfl, _, rfl, _, rfl, x, pa, k, size, kvs, rfl, ha, hg, by omega, by omega, s0, s10, hk, ok, hn, q⟩
  | thin m x =>
    obtain ⟨pa, ho, ha⟩ := hp
    simp only [Plan.height] at hh h12
    refine ⟨_, rfl, p, _, 0, _, rfl, rfl, SqT.of ho, at_pos (by decide) rfl, _, rfl, ifF (by decide +kernel) ⟨_, rfl, ifF (by decide +kernel) ⟨_, rfl, ifF (by decide +kernel) ⟨_, rfl, ifT (by decide +kernel) ?_⟩⟩⟩⟩
    refine ⟨_, rfl, p, _, 1, _, rfl, rfl, SqT.of ho, at_pos (by decide) rfl, _, rfl, _, rfl, p, _, 2, _, rfl, rfl, SqT.of ho, at_pos (by decide) rfl, _, rfl, _, rfl, x, pa, k, size, kvs, rfl, ha, hg.2, by omega, by omega, s0, s10, hk, ok, hn, fun r1 H1 g1 hr1 => ?_⟩
    exact ⟨_, _, r1, _, rfl, by have := hg.1; omega, by have := hg.1; omega, hr1, bnd hg.2 (by omega), fun r H' g hr' => q r H' (g1.trans g) hr'⟩
  | spare x =>
    obtain ⟨pa, ho, ha⟩ := hp
    simp only [Plan.height] at hh h12
    refine ⟨_, rfl, p, _, 0, _, rfl, rfl, SqT.of ho, at_pos (by decide) rfl, _, rfl, ifF (by decide +kernel) ⟨_, rfl, ifF (by decide +kernel) ⟨_, rfl, ifF (by decide +kernel) ⟨_, rfl, ifF (by decide +kernel) ⟨_, rfl, ifT (by decide +kernel) ?_⟩⟩⟩⟩⟩
    refine ⟨_, rfl, _, rfl, p, _, 1, _, rfl, rfl, SqT.of ho, at_pos (by decide) rfl, _, rfl, _, rfl, x, pa, k, size, kvs, rfl, ha, hg, by omega, by omega, s0, s10, hk, ok, hn, fun r1 H1 g1 hr1 => ?_⟩
    exact ⟨_, r1, _, rfl, s0, s10, hr1, bnd (x := x) hg (by omega), fun r H' g hr' => q r H' (g1.trans g) hr'⟩
  | base x =>
    obtain ⟨pa, ho, ha⟩ := hp
    simp only [Plan.height] at hh h12
    refine ⟨_, rfl, p, _, 0, _, rfl, rfl, SqT.of ho, at_pos (by decide) rfl, _, rfl, ifF (by decide +kernel) ⟨_, rfl, ifF (by decide +kernel) ⟨_, rfl, ifF (by decide +kernel) ⟨_, rfl, ifF (by decide +kernel) ⟨_, rfl, ifF (by decide +kernel) ?_⟩⟩⟩⟩⟩
    refine ⟨_, rfl, _, rfl, p, _, 1, _, rfl, rfl, SqT.of ho, at_pos (by decide) rfl, _, rfl, _, rfl, x, pa, k, size, kvs, rfl, ha, hg, by omega, by omega, s0, s10, hk, ok, hn, fun r1 H1 g1 hr1 => ?_⟩
    exact ⟨_, r1, _, rfl, s0, s10, hr1, bnd (x := x) hg (by omega), fun r H' g hr' => q r H' (g1.trans g) hr'⟩
theorem none_fc {k : Nat} : FnOk P w K mg base CX0 k f fd ["plan", "size", "known"] (spFc 0) := by
  have no : ∀ vs H Q E, ¬ spFc 0 vs H Q E := fun vs H Q E h => by
    obtain ⟨pl, p, _, _, _, _, _, _, hh, _⟩ := h
    have := height_pos pl
    omega
  exact ⟨fun vs H Q E h => absurd h (no vs H Q E), fun A outer s H args us vs Q E _ _ _ _ h => absurd h (no vs H Q E)⟩
theorem all_fc (T : Txt mg) (F : Fun K "forecasted" "forecasted" s_forecasted f fd) (m : mg "forecasted" = some (.ref f)) (b : Binds K fd ["plan", "size", "known"] [])
    (C_join_step : Cal P w K mg base 3 "join_step" ["one", "two"] spJoin) (C_thin_step : Cal P w K mg base 3 "thin_step" ["grade", "size", "inner"] spThin) (C_spare_step : Cal P w K mg base 3 "spare_step" ["size", "inner"] spSpare) (C_base_step : Cal P w K mg base 3 "base_step" ["size", "inner"] spBase) : ∀ h : Nat, Cal P w K mg base (h + 3) "forecasted" ["plan", "size", "known"] (spFc h)
  | 0 => ⟨f, fd, none_fc, m, F.kp, b⟩
  | h + 1 => ⟨f, fd, ok_forecasted F T (all_fc T F m b C_join_step C_thin_step C_spare_step C_base_step h) C_join_step C_thin_step C_spare_step C_base_step, m, F.kp, b⟩
/-! ### forecast -/
def spForecast (cU : Addr) : Sp := fun vs H Q E => ∃ (pl : Plan) (p a : Addr) (size : Int) (cs : List (List Nat × Int)), vs = [.ref p, .int size, .ref a] ∧ PlanAt H pl p ∧ pl.Good ∧ pl.height ≤ 12 ∧ pl.count ≤ 1000 ∧ 0 ≤ size ∧ size ≤ 10 ∧ CntAt H a cs ∧ cs.length ≤ 1000 ∧ CntOk cs ∧
  (first (kvsOf cs) pl.names = none → ∀ r H', Same H H' → FcAt H' r (fc (kn (kvsOf cs)) size pl) → Q (.ref r) H') ∧ ∀ n, first (kvsOf cs) pl.names = some n → Strange cU n H E
abbrev s_forecast : Stmt := top 23
abbrev N_forecast : List Str := ["plan", "size", "counts", "known", "name", "count"]
theorem sc_forecast : FnScope N_forecast ["plan", "size", "counts"] (defScope s_forecast) := ⟨rfl, rfl, rfl, by decide +kernel, rfl, by decide +kernel, by decide +kernel⟩
theorem ok_forecast (F : Fun K "forecast" "forecast" s_forecast f fd) (T : Txt mg) (C_check_names : CalX P w K mg base 13 "check_names" ["plan", "known"] (spCheck cU)) (C_forecasted : Cal P w K mg base 15 "forecasted" ["plan", "size", "known"] (spFc 12)) :
    FnOk P w K mg base (L2N.CX P w) 16 f fd ["plan", "size", "counts"] (spForecast cU) := by
  refine okR F sc_forecast (fun vs H Q E h => ?_) (fun cdv A outer s H vs Q E hr h => ?_)
  · obtain ⟨pl, p, a, size, cs, rfl, _⟩ := h
    rfl
  obtain ⟨pl, p, a, size, cs, rfl, hp, hg, hh, hc, s0, s10, ⟨bs, hbs, hpr⟩, hlen, hok, q0, q1⟩ := h
  refine ⟨_, (pss_cons (ps_setDc (i := 3) (own := [("name", 4), ("count", 5)]) (tt := tYes) (by rfl) sc_forecast.nd rfl rfl (sw_trueD rfl rfl rfl (by decide +kernel)) (pi_or (pi_list (pv 2)) (pi_tup (pv 2))) (blkOk_by (N := N_forecast) (sc := defScope s_forecast) (by decide +kernel)) (fun _ _ _ _ _ => (pg_or (pg_lstK (K := K) (n := 2) rfl rfl (pgs_cons (pg_name (i := 4) sc_forecast.nd rfl (Or.inl rfl)) (pgs_cons (pg_name (i := 5) sc_forecast.nd rfl (Or.inl rfl)) pgs_nil))) (pg_tupK (K := K) (n := 2) rfl rfl (pgs_cons (pg_name (i := 4) sc_forecast.nd rfl (Or.inl rfl)) (pgs_cons (pg_name (i := 5) sc_forecast.nd rfl (Or.inl rfl)) pgs_nil))))) (fun _ _ _ _ _ => pts_nil) (fun _ _ _ _ _ => (pv 4)) (fun _ _ _ _ _ => (pv 5)))
  (pss_cons (ps_expr (pe_calX C_check_names (hr.mono (by omega)) rfl (L2N.takes_of rfl rfl rfl rfl) (pa_cons (pv 0) (pa_cons (pv 3) pa_nil))))
  (pss_one (ps_ret (pe_cal C_forecasted (hr.mono (by omega)) rfl (pa_cons (pv 0) (pa_cons (pv 1) (pa_cons (pv 3) pa_nil)))))))), ?_⟩
  refine seq_asg ?_
  refine tDc_or (K := K) (i := 2) (a := a) (xs := bs.map V.ref) rfl hbs (fun D i H' => Same H H' ∧ H' D = some (.dK (kvsOf (cs.take i)))) (fun D hD => ⟨same_new hD _, upd_same⟩) (fun D hD j H' z u hu => z.1 _ _ hu) ?_ ?_
  · rintro D hD i x H1 hx ⟨g1, hd1⟩
    obtain ⟨b, hb, rfl⟩ : ∃ b, bs[i]? = some b ∧ x = V.ref b := by
      rw [List.getElem?_map] at hx
      cases e : bs[i]? with
      | none => rw [e] at hx; cases hx
      | some b => rw [e] at hx; exact ⟨b, rfl, (Option.some.inj hx).symm⟩
    have hi : i < cs.length := by
      have := (List.getElem?_eq_some_iff.mp hb).1
      rw [← Paired.len hpr]
      exact this
    have hcs : cs[i]? = some cs[i] := List.getElem?_eq_getElem hi
    obtain ⟨b', hb', hpa⟩ := Paired.at hpr hcs
    rw [hb] at hb'
    cases hb'
    generalize hci : cs[i] = c at hcs hpa
    have fin : ∀ H2, Same H1 H2 → H2 D = some (.dK (kvsOf (cs.take i))) → Same H (upd H2 D (.dK (putK (kvsOf (cs.take i)) (nK c.1) (.int c.2)))) ∧ upd H2 D (.dK (putK (kvsOf (cs.take i)) (nK c.1) (.int c.2))) D = some (.dK (kvsOf (cs.take (i + 1)))) := fun H2 g2 h2 =>
      ⟨same_at (g1.trans g2) hD, by rw [upd_same, kvs_snoc hcs]⟩
    have hsz : (kvsOf (cs.take i)).length < sizeLine := by
      have h1 := kvs_len (cs.take i)
      rw [List.length_take] at h1
      exact small1000 (by omega)
    rcases hpa with hpa | hpa
    · refine .inl ⟨b, _, rfl, SqL.of (g1 _ _ hpa), rfl, _, _, rfl, _, _, rfl, rfl, rfl, lc_yes ?_⟩
      exact ⟨_, rfl, _, rfl, _, nK c.1, rfl, hd1, hsz, fin H1 (Same.refl H1) hd1⟩
    · refine .inr ⟨b, _, rfl, SqT.of (g1 _ _ hpa), rfl, _, _, rfl, _, _, rfl, rfl, rfl, lc_yes ?_⟩
      exact ⟨_, rfl, _, rfl, _, nK c.1, rfl, hd1, hsz, fin H1 (Same.refl H1) hd1⟩
  rintro D hD H1 ⟨g1, hd1⟩
  have e : (bs.map V.ref).length = cs.length := by rw [List.length_map, Paired.len hpr]
  rw [e, List.take_length] at hd1
  refine ⟨_, rfl, _, rfl, pl, p, D, kvsOf cs, rfl, hp.same g1, hh, hc, hd1, fun hf H2 g2 => ?_, fun n hn d H2 g2 hd2 => q1 n hn d H2 (g1.trans g2) hd2⟩
  exact ⟨_, rfl, _, rfl, _, rfl, pl, p, D, size, kvsOf cs, rfl, hp.same (g1.trans g2), hg, hh, hh, s0, s10, g2 _ _ hd1, kv_ok hok, known_of hf, fun r H3 g3 hr3 => q0 hf r H3 (g1.trans (g2.trans g3)) hr3⟩
end
end P62
namespace P62
open PySem PySem.Spec PyProof.Rows L2 SX EX
section
variable {P : Program} {w : World} {K : PySem.W.Frag} {mg : Str → Option Value} {base : Heap} {f : Addr} {fd : FuncData}
def spGcd : Sp := fun vs H Q _ => ∃ a b : Int, vs = [.int a, .int b] ∧ B 6500 b ∧ Q (.int (gI a b)) H
abbrev s__law_gcd : Stmt := top 28
abbrev N__law_gcd : List Str := ["one", "two", "turn", "rest"]
theorem sc__law_gcd : FnScope N__law_gcd ["one", "two"] (defScope s__law_gcd) := ⟨rfl, rfl, rfl, by decide +kernel, rfl, by decide +kernel, by decide +kernel⟩
theorem abs_nat (a : Int) : (if a < 0 then -a else a) = ((a.natAbs : Nat) : Int) := by
  split <;> omega
theorem ok__law_gcd (F : Fun K "_law_gcd" "_law_gcd" s__law_gcd f fd) (T : Txt mg) : FnOk P w K mg base CX0 1 f fd ["one", "two"] spGcd := by
  refine F.ok sc__law_gcd (fun vs H Q E h => ?_) (fun cdv A outer s H vs Q E hr h => ?_)
  · obtain ⟨a, b, rfl, _⟩ := h
    rfl
  obtain ⟨a, b, rfl, hB, q⟩ := h
  refine ⟨_, (pss_cons (ps_set (i := 0) sc__law_gcd.nd rfl (Or.inl rfl) (pe_callB call_abs (by rfl) T.b_abs (by decide +kernel) (pa_cons (pv 0) pa_nil)))
  (pss_cons (ps_set (i := 1) sc__law_gcd.nd rfl (Or.inl rfl) (pe_callB call_abs (by rfl) T.b_abs (by decide +kernel) (pa_cons (pv 1) pa_nil)))
  (pss_cons (ps_for PassesOwn.never rfl (pi_range1 (by rfl) T.b_range (pa_cons pe_int pa_nil)) (pg_name (i := 2) sc__law_gcd.nd rfl (Or.inl rfl)) (pss_cons (ps_if (pt_cmpR op_eq (pv 1) pe_int (nomark _)) (pss_one ps_break) pss_nil)
  (pss_cons (ps_set (i := 3) sc__law_gcd.nd rfl (Or.inl rfl) (pe_op op_mod (pe_callTy call_int1 (by rfl) T.b_int (by decide +kernel) (pa_cons (pv 0) pa_nil)) (pv 1)))
  (pss_cons (ps_set (i := 0) sc__law_gcd.nd rfl (Or.inl rfl) (pv 1))
  (pss_one (ps_set (i := 1) sc__law_gcd.nd rfl (Or.inl rfl) (pv 3)))))))
  (pss_one (ps_ret (pv 0)))))), ?_⟩
  refine seq_asg ⟨_, rfl, _, rfl, ?_⟩
  rw [abs_nat a]
  refine seq_asg ⟨_, rfl, _, rfl, ?_⟩
  rw [abs_nat b]
  refine ⟨100000, rfl, by decide, by decide, for_range (lo := 0) (n := (100000 : Int).toNat) (fun i σ H' => ∃ (x y : Nat) (v2 v3 : Option V), σ = [some (.int (x : Nat)), some (.int (y : Nat)), v2, v3] ∧ H' = H ∧ Eu a.natAbs b.natAbs i x y) ⟨a.natAbs, b.natAbs, none, none, rfl, rfl, eu_start⟩ ?_ ?_⟩
  · rintro i σ H' hi ⟨x, y, v2, v3, rfl, rfl, e⟩
    refine ⟨_, rfl, rfl, _, rfl, ?_⟩
    refine ite2 (fun c => ?_) (fun c => ?_)
    · have hy : y = 0 := by
        have := V.int.inj (of_decide_eq_true c)
        omega
      subst hy
      refine ⟨_, rfl, ?_⟩
      rw [eu_gcd e]
      exact q
    · have hy : y ≠ 0 := fun z => c (by subst z; exact decide_eq_true rfl)
      refine ⟨_, rfl, .inl ⟨_, rfl, _, rfl, _, _, rfl, rfl, by omega, ?_⟩⟩
      refine ⟨_, rfl, _, rfl, ?_⟩
      exact ⟨y, x % y, _, _, rfl, rfl, eu_step hB e hy⟩
  · rintro σ H' ⟨x, y, v2, v3, rfl, rfl, e⟩
    have hy := eu_end e
    subst hy
    refine ⟨_, rfl, ?_⟩
    rw [eu_gcd e]
    exact q
/-! ### _law_least, _law_times, _law_below -/
def spLeast : Sp := fun vs H Q _ => ∃ t b : Int, vs = [.int t, .int b] ∧ 0 < b ∧ B 6500 b ∧ ∀ r H', Same H H' → FrAt H' r (t / gI t b) (b / gI t b) → Q (.ref r) H'
abbrev s__law_least : Stmt := top 29
abbrev N__law_least : List Str := ["top", "under", "shared"]
theorem sc__law_least : FnScope N__law_least ["top", "under"] (defScope s__law_least) := ⟨rfl, rfl, rfl, by decide +kernel, rfl, by decide +kernel, by decide +kernel⟩
theorem ok__law_least (F : Fun K "_law_least" "_law_least" s__law_least f fd) (T : Txt mg) (C__law_gcd : Cal P w K mg base 1 "_law_gcd" ["one", "two"] spGcd) : FnOk P w K mg base CX0 2 f fd ["top", "under"] spLeast := by
  refine F.ok sc__law_least (fun vs H Q E h => ?_) (fun cdv A outer s H vs Q E hr h => ?_)
  · obtain ⟨t, b, rfl, _⟩ := h
    rfl
  obtain ⟨t, b, rfl, hb, hB, q⟩ := h
  refine ⟨_, (pss_cons (ps_if (pt_cmpR op_lt (pv 1) pe_int (nomark _)) (pss_cons (ps_set (i := 0) sc__law_least.nd rfl (Or.inl rfl) (pe_un un_neg (pv 0)))
  (pss_one (ps_set (i := 1) sc__law_least.nd rfl (Or.inl rfl) (pe_un un_neg (pv 1))))) pss_nil)
  (pss_cons (ps_set (i := 2) sc__law_least.nd rfl (Or.inl rfl) (pe_cal C__law_gcd (hr.mono (by omega)) rfl (pa_cons (pv 0) (pa_cons (pv 1) pa_nil))))
  (pss_one (ps_ret (pe_tup (pa_cons (pe_op op_fdivW (pv 0) (pv 2)) (pa_cons (pe_op op_fdivW (pv 1) (pv 2)) pa_nil))))))), ?_⟩
  refine ⟨_, rfl, _, _, rfl, rfl, _, rfl, ifF (decide_eq_false (by omega)) ?_⟩
  refine ⟨_, rfl, _, rfl, t, b, rfl, hB, ?_⟩
  have g := gI_pos (t := t) hb
  have gB := B.gcd (t := t) hb hB
  exact ⟨_, rfl, _, rfl, _, _, rfl, rfl, wdiv g gB (by decide) (by decide), _, rfl, _, rfl, _, _, rfl, rfl, wdiv g gB (by decide) (by decide), two_line, fun r hr' => q r _ (same_new hr' _) upd_same⟩
abbrev s__law_times : Stmt := top 30
abbrev N__law_times : List Str := ["one", "two"]
theorem sc__law_times : FnScope N__law_times ["one", "two"] (defScope s__law_times) := ⟨rfl, rfl, rfl, by decide +kernel, rfl, by decide +kernel, by decide +kernel⟩
theorem ok__law_times (F : Fun K "_law_times" "_law_times" s__law_times f fd) (T : Txt mg) (C__law_least : Cal P w K mg base 2 "_law_least" ["top", "under"] spLeast) : FnOk P w K mg base CX0 3 f fd ["one", "two"] spTimes := by
  refine F.ok sc__law_times (fun vs H Q E h => ?_) (fun cdv A outer s H vs Q E hr h => ?_)
  · obtain ⟨p, q, t1, b1, t2, b2, rfl, _⟩ := h
    rfl
  obtain ⟨p, r, t1, b1, t2, b2, rfl, hp, hr1, pt1, pb1, pt2, pb2, ht1, hb1, ht2, hb2, q⟩ := h
  refine ⟨_, (pss_one (ps_ret (pe_cal C__law_least (hr.mono (by omega)) rfl (pa_cons (pe_op op_mulW (pe_ix ix_tup (pv 0) pe_int (fun _ _ => rfl)) (pe_ix ix_tup (pv 1) pe_int (fun _ _ => rfl))) (pa_cons (pe_op op_mulW (pe_ix ix_tup (pv 0) pe_int (fun _ _ => rfl)) (pe_ix ix_tup (pv 1) pe_int (fun _ _ => rfl))) pa_nil))))), ?_⟩
  refine ⟨_, rfl, p, _, 0, _, rfl, rfl, SqT.of hp, at_pos (by decide) rfl, _, rfl, r, _, 0, _, rfl, rfl, SqT.of hr1, at_pos (by decide) rfl, _, _, rfl, rfl, wmul ht1 ht2 (by decide) (by decide) (by decide), ?_⟩
  refine ⟨_, rfl, p, _, 1, _, rfl, rfl, SqT.of hp, at_pos (by decide) rfl, _, rfl, r, _, 1, _, rfl, rfl, SqT.of hr1, at_pos (by decide) rfl, _, _, rfl, rfl, wmul hb1 hb2 (by decide) (by decide) (by decide), ?_⟩
  exact ⟨_, _, rfl, Int.mul_pos pb1 pb2, (hb1.mul hb2).mono (by decide), q⟩
def spBelow : Sp := fun vs H Q _ => ∃ (p q : Addr) (t1 b1 t2 b2 : Int), vs = [.ref p, .ref q] ∧ FrAt H p t1 b1 ∧ FrAt H q t2 b2 ∧ B 6000 t1 ∧ B 6000 b1 ∧ B 6000 t2 ∧ B 6000 b2 ∧ Q (.bl (decide (t1 * b2 < t2 * b1))) H
abbrev s__law_below : Stmt := top 31
abbrev N__law_below : List Str := ["one", "two"]
theorem sc__law_below : FnScope N__law_below ["one", "two"] (defScope s__law_below) := ⟨rfl, rfl, rfl, by decide +kernel, rfl, by decide +kernel, by decide +kernel⟩
theorem ok__law_below (F : Fun K "_law_below" "_law_below" s__law_below f fd) (T : Txt mg) : FnOk P w K mg base CX0 1 f fd ["one", "two"] spBelow := by
  refine F.ok sc__law_below (fun vs H Q E h => ?_) (fun cdv A outer s H vs Q E hr h => ?_)
  · obtain ⟨p, q, t1, b1, t2, b2, rfl, _⟩ := h
    rfl
  obtain ⟨p, r, t1, b1, t2, b2, rfl, hp, hr1, ht1, hb1, ht2, hb2, q⟩ := h
  refine ⟨_, (pss_one (ps_ret (pe_cmpR op_lt (pe_op op_mulW (pe_ix ix_tup (pv 0) pe_int (fun _ _ => rfl)) (pe_ix ix_tup (pv 1) pe_int (fun _ _ => rfl))) (pe_op op_mulW (pe_ix ix_tup (pv 1) pe_int (fun _ _ => rfl)) (pe_ix ix_tup (pv 0) pe_int (fun _ _ => rfl))) (nomark _)))), ?_⟩
  refine ⟨_, rfl, p, _, 0, _, rfl, rfl, SqT.of hp, at_pos (by decide) rfl, _, rfl, r, _, 1, _, rfl, rfl, SqT.of hr1, at_pos (by decide) rfl, _, _, rfl, rfl, wmul ht1 hb2 (by decide) (by decide) (by decide), ?_⟩
  exact ⟨_, rfl, r, _, 0, _, rfl, rfl, SqT.of hr1, at_pos (by decide) rfl, _, rfl, p, _, 1, _, rfl, rfl, SqT.of hp, at_pos (by decide) rfl, _, _, rfl, rfl, wmul ht2 hb1 (by decide) (by decide) (by decide), _, _, rfl, rfl, q⟩
abbrev s__law_grade_factor : Stmt := top 37
abbrev N__law_grade_factor : List Str := ["k", "n"]
theorem sc__law_grade_factor : FnScope N__law_grade_factor ["k"] (defScope s__law_grade_factor) := ⟨rfl, rfl, rfl, by decide +kernel, rfl, by decide +kernel, by decide +kernel⟩
theorem ok__law_grade_factor (F : Fun K "_law_grade_factor" "_law_grade_factor" s__law_grade_factor f fd) (T : Txt mg) (C__law_least : Cal P w K mg base 2 "_law_least" ["top", "under"] spLeast) : FnOk P w K mg base CX0 3 f fd ["k"] spGrade := by
  refine F.ok sc__law_grade_factor (fun vs H Q E h => ?_) (fun cdv A outer s H vs Q E hr h => ?_)
  · obtain ⟨k, rfl, _⟩ := h
    rfl
  obtain ⟨k, rfl, h2, h10, q⟩ := h
  refine ⟨_, (pss_cons (ps_set (i := 1) sc__law_grade_factor.nd rfl (Or.inl rfl) (pe_op op_mul pe_int (pe_op op_sub (pv 0) pe_int)))
  (pss_one (ps_ret (pe_cal C__law_least (hr.mono (by omega)) rfl (pa_cons (pe_op op_mul (pe_op op_add (pv 0) pe_int) (pe_op op_add (pe_op op_mul (pv 1) (pe_op op_add (pv 0) pe_int)) (pv 0))) (pa_cons (pe_op op_mul (pe_op op_mul (pv 1) (pe_op op_sub (pv 0) pe_int)) (pe_op op_sub (pv 0) pe_int)) pa_nil)))))), ?_⟩
  obtain ⟨p1, p2, q1, q2⟩ := grade_ok h2 h10
  have m1 : 9 * (k - 1) * (k - 1) < 1000000 ∧ -1000000 < 9 * (k - 1) * (k - 1) := by
    have : k = 2 ∨ k = 3 ∨ k = 4 ∨ k = 5 ∨ k = 6 ∨ k = 7 ∨ k = 8 ∨ k = 9 ∨ k = 10 := by omega
    rcases this with rfl | rfl | rfl | rfl | rfl | rfl | rfl | rfl | rfl <;> decide
  refine ⟨_, rfl, _, _, rfl, rfl, _, _, rfl, rfl, small_mul (by decide) (by decide), ?_⟩
  refine ⟨_, rfl, _, _, rfl, rfl, _, rfl, _, rfl, _, _, rfl, rfl, _, _, rfl, rfl, small_mul (by omega) (by omega), _, rfl, _, _, rfl, rfl, _, _, rfl, rfl, small_mul (by omega) (by omega), ?_⟩
  refine ⟨_, rfl, _, rfl, _, _, rfl, rfl, _, _, rfl, rfl, small_mul (by omega) (by omega), _, rfl, _, _, rfl, rfl, _, _, rfl, rfl, small_mul m1.2 m1.1, ?_⟩
  exact ⟨_, _, rfl, p2, (show B 6500 (gradeB k) from B.mono (B_small (Int.le_of_lt p2) q2) (by decide)), q⟩
/-! ### _law_names -/
def spNamesL (h : Nat) : Sp := fun vs H Q _ => ∃ (pl : Plan) (p : Addr), vs = [.ref p] ∧ PlanAt H pl p ∧ pl.height ≤ h ∧ pl.count ≤ 1000 ∧ ∀ r H', Same H H' → H' r = some (.lst (nmV pl.names)) → Q (.ref r) H'
abbrev s__law_names : Stmt := top 36
abbrev N__law_names : List Str := ["plan"]
theorem sc__law_names : FnScope N__law_names ["plan"] (defScope s__law_names) := ⟨rfl, rfl, rfl, by decide +kernel, rfl, by decide +kernel, by decide +kernel⟩
/-- the last item of a plan that has one -/
structure Arm (H : Hp) (p : Addr) (tag : Str) (x : Plan) (pa : Addr) (ys : List V) : Prop where
  at_ : H p = some (.tup (V.str tag :: ys))
  last : atI (V.str tag :: ys) (((V.str tag :: ys).length : Nat) - 1) = some (.ref pa)
  sub : PlanAt H x pa
/-- which plan has a last item -/
inductive Kd (H : Hp) (p : Addr) : Plan → Str → Plan → Addr → List V → Prop where
  | scale (m n : Nat) (x : Plan) (pa : Addr) : Kd H p (.scale m n x) "scale" x pa [.int m, .int n, .ref pa]
  | spare (x : Plan) (pa : Addr) : Kd H p (.spare x) "spare" x pa [.ref pa]
  | base (x : Plan) (pa : Addr) : Kd H p (.base x) "base" x pa [.ref pa]
  | thin (k : Nat) (x : Plan) (pa : Addr) : Kd H p (.thin k x) "thin" x pa [.int k, .ref pa]
theorem plan_cases {H : Hp} {pl : Plan} {p : Addr} (hp : PlanAt H pl p) : (∃ n, pl = .take n) ∨ (∃ x y, pl = .join x y) ∨ ∃ (tag : Str) (x : Plan) (pa : Addr) (ys : List V), tag ≠ "take" ∧ tag ≠ "join" ∧ Arm H p tag x pa ys ∧ x.height + 1 = pl.height ∧ x.count + 1 = pl.count ∧ x.names = pl.names ∧ (pl.Good → x.Good) ∧ Kd H p pl tag x pa ys := by
  cases pl with
  | take n => exact .inl ⟨n, rfl⟩
  | join x y => exact .inr (.inl ⟨x, y, rfl⟩)
  | scale m n x =>
    obtain ⟨pa, ho, ha⟩ := hp
    exact .inr (.inr ⟨"scale", x, pa, _, by decide +kernel, by decide +kernel, ⟨ho, at_pos (by simp only [List.length_cons, List.length_nil]; omega) rfl, ha⟩, rfl, by simp only [Plan.count]; omega, rfl, fun g => g, .scale m n x pa⟩)
  | spare x =>
    obtain ⟨pa, ho, ha⟩ := hp
    exact .inr (.inr ⟨"spare", x, pa, _, by decide +kernel, by decide +kernel, ⟨ho, at_pos (by simp only [List.length_cons, List.length_nil]; omega) rfl, ha⟩, rfl, by simp only [Plan.count]; omega, rfl, fun g => g, .spare x pa⟩)
  | base x =>
    obtain ⟨pa, ho, ha⟩ := hp
    exact .inr (.inr ⟨"base", x, pa, _, by decide +kernel, by decide +kernel, ⟨ho, at_pos (by simp only [List.length_cons, List.length_nil]; omega) rfl, ha⟩, rfl, by simp only [Plan.count]; omega, rfl, fun g => g, .base x pa⟩)
  | thin k x =>
    obtain ⟨pa, ho, ha⟩ := hp
    exact .inr (.inr ⟨"thin", x, pa, _, by decide +kernel, by decide +kernel, ⟨ho, at_pos (by simp only [List.length_cons, List.length_nil]; omega) rfl, ha⟩, rfl, by simp only [Plan.count]; omega, rfl, fun g => g.2, .thin k x pa⟩)
theorem ok__law_names {h : Nat} (F : Fun K "_law_names" "_law_names" s__law_names f fd) (T : Txt mg) (C__law_names : Cal P w K mg base h "_law_names" ["plan"] (spNamesL h)) : FnOk P w K mg base CX0 (h + 1) f fd ["plan"] (spNamesL (h + 1)) := by
  refine F.ok sc__law_names (fun vs H Q E h => ?_) (fun cdv A outer s H vs Q E hr h => ?_)
  · obtain ⟨pl, p, rfl, _⟩ := h
    rfl
  obtain ⟨pl, p, rfl, hp, hh, hc, q⟩ := h
  refine ⟨_, (pss_cons (ps_if (pt_cmpR op_eq (pe_ix ix_tup (pv 0) pe_int (fun _ _ => rfl)) pe_str (nomark _)) (pss_one (ps_ret (pe_lst (pa_cons (pe_ix ix_tup (pv 0) pe_int (fun _ _ => rfl)) pa_nil)))) pss_nil)
  (pss_cons (ps_if (pt_cmpR op_eq (pe_ix ix_tup (pv 0) pe_int (fun _ _ => rfl)) pe_str (nomark _)) (pss_one (ps_ret (pe_op op_cat (pe_cal C__law_names (hr.mono (by omega)) rfl (pa_cons (pe_ix ix_tup (pv 0) pe_int (fun _ _ => rfl)) pa_nil)) (pe_cal C__law_names (hr.mono (by omega)) rfl (pa_cons (pe_ix ix_tup (pv 0) pe_int (fun _ _ => rfl)) pa_nil))))) pss_nil)
  (pss_one (ps_ret (pe_cal C__law_names (hr.mono (by omega)) rfl (pa_cons (pe_ix ix_tup (pv 0) (pe_op op_sub (pe_callB call_len_seq (by rfl) T.b_len PySem.boot_len (pa_cons (pv 0) pa_nil)) pe_int) (fun _ _ => rfl)) pa_nil)))))), ?_⟩
  rcases plan_cases hp with ⟨n, rfl⟩ | ⟨x, y, rfl⟩ | ⟨tag, x, pa, ys, n1, n2, a, h1, h2, e, _, _⟩
  · refine ⟨_, rfl, p, _, 0, _, rfl, rfl, SqT.of hp, at_pos (by decide) rfl, rfl, _, rfl, ifT (by decide +kernel) ?_⟩
    exact ⟨_, rfl, p, _, 1, _, rfl, rfl, SqT.of hp, at_pos (by decide) rfl, line_ge (by show 1 ≤ _; omega), fun u hu => q u _ (same_new hu _) upd_same⟩
  · obtain ⟨pa, pb, ho, ha, hb⟩ := hp
    simp only [Plan.height] at hh
    simp only [Plan.count] at hc
    refine ⟨_, rfl, p, _, 0, _, rfl, rfl, SqT.of ho, at_pos (by decide) rfl, rfl, _, rfl, ifF (by decide +kernel) ?_⟩
    refine ⟨_, rfl, p, _, 0, _, rfl, rfl, SqT.of ho, at_pos (by decide) rfl, rfl, _, rfl, ifT (by decide +kernel) ?_⟩
    refine ⟨_, rfl, p, _, 1, _, rfl, rfl, SqT.of ho, at_pos (by decide) rfl, x, pa, rfl, ha, by omega, by omega, fun r1 H1 g1 hr1 => ?_⟩
    refine ⟨_, rfl, p, _, 2, _, rfl, rfl, SqT.of (g1 _ _ ho), at_pos (by decide) rfl, y, pb, rfl, hb.same g1, by omega, by omega, fun r2 H2 g2 hr2 => ?_⟩
    have l1 := names_le x
    have l2 := names_le y
    refine ⟨r1, r2, _, _, rfl, rfl, g2 _ _ hr1, hr2, line_ge (by unfold nmV; rw [List.length_map, List.length_map]; omega), fun u hu => ?_⟩
    refine q u _ (g1.trans (g2.trans (same_new hu _))) ?_
    rw [upd_same]
    simp only [nmV, Plan.names, List.map_append]
  · refine ⟨_, rfl, p, _, 0, _, rfl, rfl, SqT.of a.at_, at_pos (by decide) rfl, rfl, _, rfl, ifF (dec_ne fun z => n1 (V.str.inj z)) ?_⟩
    refine ⟨_, rfl, p, _, 0, _, rfl, rfl, SqT.of a.at_, at_pos (by decide) rfl, rfl, _, rfl, ifF (dec_ne fun z => n2 (V.str.inj z)) ?_⟩
    exact ⟨_, rfl, _, rfl, p, _, rfl, .inr (SqT.of a.at_), _, _, rfl, rfl, p, _, _, _, rfl, rfl, SqT.of a.at_, a.last, x, pa, rfl, a.sub, by omega, by omega, by rw [e]; exact q⟩
theorem none_namesL {k : Nat} : FnOk P w K mg base CX0 k f fd ["plan"] (spNamesL 0) := by
  have no : ∀ vs H Q E, ¬ spNamesL 0 vs H Q E := fun vs H Q E h => by
    obtain ⟨pl, p, _, _, hh, _⟩ := h
    have := height_pos pl
    omega
  exact ⟨fun vs H Q E h => absurd h (no vs H Q E), fun A outer s H args us vs Q E _ _ _ _ h => absurd h (no vs H Q E)⟩
theorem all_namesL (T : Txt mg) (F : Fun K "_law_names" "_law_names" s__law_names f fd) (m : mg "_law_names" = some (.ref f)) (b : Binds K fd ["plan"] []) : ∀ h : Nat, Cal P w K mg base h "_law_names" ["plan"] (spNamesL h)
  | 0 => ⟨f, fd, none_namesL, m, F.kp, b⟩
  | h + 1 => ⟨f, fd, ok__law_names F T (all_namesL T F m b h), m, F.kp, b⟩
end
end P62
namespace P62
open PySem PySem.Spec PyProof.Rows L2 SX EX
/-- a forecast in the heap, as a list -/
def FcL (H : Hp) (p : Addr) (a : Fc) : Prop := ∃ f, H p = some (.lst [.int a.most, .int a.peak, .ref f]) ∧ FrAt H f a.top a.bot
theorem FcL.same {H H' : Hp} {p : Addr} {a : Fc} (e : Same H H') (h : FcL H p a) : FcL H' p a := let ⟨f, h1, h2⟩ := h; ⟨f, e _ _ h1, e _ _ h2⟩
theorem fcl_is {H : Hp} {p f : Addr} {m k t b : Int} (h : H p = some (.lst [.int m, .int k, .ref f])) (hf : FrAt H f t b) : FcL H p ⟨m, k, t, b⟩ := ⟨f, h, hf⟩
theorem join_a {a b : Fc} (x : Fb 12 a) (y : Fb 12 b) (h : ¬ a.top * b.bot < b.top * a.bot) : fJoin a b = ⟨a.most + b.most, imax (imax (a.most + b.most) a.peak) b.peak, a.top, a.bot⟩ := by
  unfold fJoin
  by_cases c : a.top * b.bot - b.top * a.bot > 0
  · rw [if_pos c]
  · rw [if_neg c]
    have e : a.top * b.bot = b.top * a.bot := by omega
    obtain ⟨e1, e2⟩ := low_uniq x.low y.low e
    rw [e1, e2]
theorem join_b' {a b : Fc} (h : a.top * b.bot < b.top * a.bot) : fJoin a b = ⟨a.most + b.most, imax (imax (a.most + b.most) a.peak) b.peak, b.top, b.bot⟩ := by
  unfold fJoin
  rw [if_neg (by omega)]
section
variable {P : Program} {w : World} {K : PySem.W.Frag} {mg : Str → Option Value} {base : Heap} {f : Addr} {fd : FuncData}
def spFcL (h : Nat) : Sp := fun vs H Q _ => ∃ (pl : Plan) (p k : Addr) (size : Int) (kvs : List (Key × V)), vs = [.ref p, .int size, .ref k] ∧ PlanAt H pl p ∧ pl.Good ∧ pl.height ≤ h ∧ pl.height ≤ 12 ∧ 0 ≤ size ∧ size ≤ 10 ∧ H k = some (.dK kvs) ∧ KvOk kvs ∧
  (∀ n ∈ pl.names, (valV kvs (nK n)).isSome = true) ∧ ∀ r H', Same H H' → FcL H' r (fc (kn kvs) size pl) → Q (.ref r) H'
abbrev s__law_forecast : Stmt := top 38
abbrev N__law_forecast : List Str := ["plan", "size", "known", "one", "two", "factor", "inner", "lesser", "number", "worst", "t"]
theorem sc__law_forecast : FnScope N__law_forecast ["plan", "size", "known"] (defScope s__law_forecast) := ⟨rfl, rfl, rfl, by decide +kernel, rfl, by decide +kernel, by decide +kernel⟩
theorem ok__law_forecast {h : Nat} (F : Fun K "_law_forecast" "_law_forecast" s__law_forecast f fd) (T : Txt mg) (C__law_forecast : Cal P w K mg base (h + 3) "_law_forecast" ["plan", "size", "known"] (spFcL h))
    (C__law_below : Cal P w K mg base 1 "_law_below" ["one", "two"] spBelow) (C__law_times : Cal P w K mg base 3 "_law_times" ["one", "two"] spTimes) (C__law_grade_factor : Cal P w K mg base 3 "_law_grade_factor" ["k"] spGrade) :
    FnOk P w K mg base CX0 (h + 4) f fd ["plan", "size", "known"] (spFcL (h + 1)) := by
  refine F.ok sc__law_forecast (fun vs H Q E h => ?_) (fun cdv A outer s H vs Q E hr h => ?_)
  · obtain ⟨pl, p, k, size, kvs, rfl, _⟩ := h
    rfl
  obtain ⟨pl, p, k, size, kvs, rfl, hp, hg, hh, h12, s0, s10, hk, ok, hn, q⟩ := h
  refine ⟨_, (pss_cons (ps_if (pt_cmpR op_eq (pe_ix ix_tup (pv 0) pe_int (fun _ _ => rfl)) pe_str (nomark _)) (pss_one (ps_ret (pe_lst (pa_cons (pe_dget (hu_of hr) (pv 2) (pe_ix ix_tup (pv 0) pe_int (fun _ _ => rfl)) (fun _ _ => rfl)) (pa_cons (pe_dget (hu_of hr) (pv 2) (pe_ix ix_tup (pv 0) pe_int (fun _ _ => rfl)) (fun _ _ => rfl)) (pa_cons (pe_tup (pa_cons pe_int (pa_cons pe_int pa_nil))) pa_nil)))))) pss_nil)
  (pss_cons (ps_if (pt_cmpR op_eq (pe_ix ix_tup (pv 0) pe_int (fun _ _ => rfl)) pe_str (nomark _)) (pss_cons (ps_set (i := 3) sc__law_forecast.nd rfl (Or.inl rfl) (pe_cal C__law_forecast (hr.mono (by omega)) rfl (pa_cons (pe_ix ix_tup (pv 0) pe_int (fun _ _ => rfl)) (pa_cons (pv 1) (pa_cons (pv 2) pa_nil)))))
  (pss_cons (ps_set (i := 4) sc__law_forecast.nd rfl (Or.inl rfl) (pe_cal C__law_forecast (hr.mono (by omega)) rfl (pa_cons (pe_ix ix_tup (pv 0) pe_int (fun _ _ => rfl)) (pa_cons (pv 1) (pa_cons (pv 2) pa_nil)))))
  (pss_cons (ps_set (i := 5) sc__law_forecast.nd rfl (Or.inl rfl) (pe_ix ix_list (pv 3) pe_int (fun _ _ => rfl)))
  (pss_cons (ps_if (pt_val (pe_cal C__law_below (hr.mono (by omega)) rfl (pa_cons (pv 5) (pa_cons (pe_ix ix_list (pv 4) pe_int (fun _ _ => rfl)) pa_nil)))) (pss_one (ps_set (i := 5) sc__law_forecast.nd rfl (Or.inl rfl) (pe_ix ix_list (pv 4) pe_int (fun _ _ => rfl)))) pss_nil)
  (pss_one (ps_ret (pe_lst (pa_cons (pe_op op_add (pe_ix ix_list (pv 3) pe_int (fun _ _ => rfl)) (pe_ix ix_list (pv 4) pe_int (fun _ _ => rfl))) (pa_cons (pe_callB (call_max3I rfl) (by rfl) T.b_max (by decide +kernel) (pa_cons (pe_op op_add (pe_ix ix_list (pv 3) pe_int (fun _ _ => rfl)) (pe_ix ix_list (pv 4) pe_int (fun _ _ => rfl))) (pa_cons (pe_ix ix_list (pv 3) pe_int (fun _ _ => rfl)) (pa_cons (pe_ix ix_list (pv 4) pe_int (fun _ _ => rfl)) pa_nil)))) (pa_cons (pv 5) pa_nil)))))))))) pss_nil)
  (pss_cons (ps_set (i := 6) sc__law_forecast.nd rfl (Or.inr rfl) (pe_cal C__law_forecast (hr.mono (by omega)) rfl (pa_cons (pe_ix ix_tup (pv 0) (pe_op op_sub (pe_callB call_len_seq (by rfl) T.b_len PySem.boot_len (pa_cons (pv 0) pa_nil)) pe_int) (fun _ _ => rfl)) (pa_cons (pv 1) (pa_cons (pv 2) pa_nil)))))
  (pss_cons (ps_set (i := 7) sc__law_forecast.nd rfl (Or.inl rfl) (pe_callB (call_min2 rfl) (by rfl) T.b_min (by decide +kernel) (pa_cons (pv 1) (pa_cons (pe_ix ix_list (pv 6) pe_int (fun _ _ => rfl)) pa_nil))))
  (pss_cons (ps_if (pt_cmpR op_eq (pe_ix ix_tup (pv 0) pe_int (fun _ _ => rfl)) pe_str (nomark _)) (pss_cons (ps_set (i := 8) sc__law_forecast.nd rfl (Or.inl rfl) (pe_callB (call_min2 rfl) (by rfl) T.b_min (by decide +kernel) (pa_cons (pe_ix ix_list (pv 6) pe_int (fun _ _ => rfl)) (pa_cons (pe_op op_mul (pe_op op_mul (pe_ix ix_tup (pv 0) pe_int (fun _ _ => rfl)) (pe_ix ix_tup (pv 0) pe_int (fun _ _ => rfl))) (pv 7)) pa_nil))))
  (pss_one (ps_ret (pe_lst (pa_cons (pv 8) (pa_cons (pe_ix ix_list (pv 6) pe_int (fun _ _ => rfl)) (pa_cons (pe_cal C__law_times (hr.mono (by omega)) rfl (pa_cons (pe_ix ix_list (pv 6) pe_int (fun _ _ => rfl)) (pa_cons (pe_cal C__law_grade_factor (hr.mono (by omega)) rfl (pa_cons (pe_ix ix_tup (pv 0) pe_int (fun _ _ => rfl)) pa_nil)) pa_nil))) pa_nil))))))) pss_nil)
  (pss_cons (ps_if (pt_cmpR op_eq (pe_ix ix_tup (pv 0) pe_int (fun _ _ => rfl)) pe_str (nomark _)) (pss_one (ps_ret (pe_lst (pa_cons (pe_callB (call_min2 rfl) (by rfl) T.b_min (by decide +kernel) (pa_cons (pe_ix ix_list (pv 6) pe_int (fun _ _ => rfl)) (pa_cons (pe_op op_fdiv (pe_op op_mul (pv 7) (pe_op op_add (pv 7) pe_int)) pe_int) pa_nil))) (pa_cons (pe_ix ix_list (pv 6) pe_int (fun _ _ => rfl)) (pa_cons (pe_ix ix_list (pv 6) pe_int (fun _ _ => rfl)) pa_nil)))))) pss_nil)
  (pss_cons (ps_if (pt_cmpR op_eq (pe_ix ix_tup (pv 0) pe_int (fun _ _ => rfl)) pe_str (nomark _)) (pss_cons (ps_set (i := 9) sc__law_forecast.nd rfl (Or.inl rfl) (pe_callB (cr_max rfl) (by rfl) T.b_max (by decide +kernel) (pa_cons (pe_lc (own := [("t", 10)]) (g := gName 10) (tt := tYes) (by rfl) sc__law_forecast.nd (pi_range1 (by rfl) T.b_range (pa_cons (pe_op op_add (pv 7) pe_int) pa_nil)) (blkOk_by (N := N__law_forecast) (sc := defScope s__law_forecast) (by decide +kernel)) (fun _ _ _ _ _ => (pg_name (i := 10) sc__law_forecast.nd rfl (Or.inl rfl))) (fun _ _ _ _ _ => pts_nil) (fun _ _ _ _ _ => (pe_op op_add pe_int (pe_op op_mul (pe_op op_mul pe_int (pv 10)) (pe_op op_sub (pe_ix (ix_listK (K := K) rfl) (pv 6) pe_int (fun _ _ => rfl)) (pv 10)))))) pa_nil)))
  (pss_one (ps_ret (pe_lst (pa_cons (pv 7) (pa_cons (pe_ix ix_list (pv 6) pe_int (fun _ _ => rfl)) (pa_cons (pe_cal C__law_times (hr.mono (by omega)) rfl (pa_cons (pe_ix ix_list (pv 6) pe_int (fun _ _ => rfl)) (pa_cons (pe_tup (pa_cons (pv 9) (pa_cons pe_int pa_nil))) pa_nil))) pa_nil))))))) pss_nil)
  (pss_one (ps_ret (pv 6)))))))))), ?_⟩
  have bnd : ∀ {x : Plan}, x.Good → x.height ≤ 12 → Fb 12 (fc (kn kvs) size x) := fun g h => (fc_b s0 s10 (kn_ok ok) g h).mono h
  rcases plan_cases hp with ⟨n, rfl⟩ | ⟨x, y, rfl⟩ | ⟨tag, x, pa, ys, n1, n2, a, hj1, hj2, en, gd, kd⟩
  · have hv := kn_is ok (hn n (List.mem_singleton.mpr rfl))
    have d : DGet H k (.str (S n)) (some (.int (kn kvs n))) := by
      have := DGet.k (k := nK n) hk
      rw [hv] at this
      exact this
    refine ⟨_, rfl, p, _, 0, _, rfl, rfl, SqT.of hp, at_pos (by decide) rfl, rfl, _, rfl, ifT (by decide +kernel) ?_⟩
    refine ⟨_, rfl, _, rfl, p, _, 1, _, rfl, rfl, SqT.of hp, at_pos (by decide) rfl, k, _, rfl, d, ?_⟩
    refine ⟨_, rfl, _, rfl, p, _, 1, _, rfl, rfl, SqT.of hp, at_pos (by decide) rfl, k, _, rfl, d, ?_⟩
    refine ⟨two_line, fun v hv => ⟨three_line, fun u hu => q u _ ((same_new hv _).trans (same_new hu _)) ?_⟩⟩
    exact fcl_is upd_same ((show FrAt _ v 1 1 from upd_same).same (same_new hu _))
  · obtain ⟨pa, pb, ho, ha, hb⟩ := hp
    simp only [Plan.height] at hh h12
    refine ⟨_, rfl, p, _, 0, _, rfl, rfl, SqT.of ho, at_pos (by decide) rfl, rfl, _, rfl, ifF (by decide +kernel) ?_⟩
    refine ⟨_, rfl, p, _, 0, _, rfl, rfl, SqT.of ho, at_pos (by decide) rfl, rfl, _, rfl, ifT (by decide +kernel) ?_⟩
    refine ⟨_, rfl, p, _, 1, _, rfl, rfl, SqT.of ho, at_pos (by decide) rfl, _, rfl, _, rfl, x, pa, k, size, kvs, rfl, ha, hg.1, by omega, by omega, s0, s10, hk, ok, fun n h => hn n (List.mem_append_left _ h), fun r1 H1 g1 hr1 => ?_⟩
    refine ⟨_, rfl, p, _, 2, _, rfl, rfl, SqT.of (g1 _ _ ho), at_pos (by decide) rfl, _, rfl, _, rfl, y, pb, k, size, kvs, rfl, hb.same g1, hg.2, by omega, by omega, s0, s10, g1 _ _ hk, ok, fun n h => hn n (List.mem_append_right _ h), fun r2 H2 g2 hr2 => ?_⟩
    have bx := bnd hg.1 (by omega)
    have by' := bnd hg.2 (by omega)
    have hr1 := hr1.same g2
    have q := fun r H' e (z : FcL H' r (fJoin (fc (kn kvs) size x) (fc (kn kvs) size y))) => q r H' (g1.trans (g2.trans e)) z
    generalize fc (kn kvs) size x = a at bx hr1 q
    generalize fc (kn kvs) size y = b at by' hr2 q
    obtain ⟨fa, h1, h1f⟩ := hr1
    obtain ⟨fb, h2, h2f⟩ := hr2
    refine ⟨_, rfl, r1, _, 2, _, rfl, rfl, SqL.of h1, at_pos (by decide) rfl, ?_⟩
    refine ⟨_, rfl, _, rfl, r2, _, 2, _, rfl, rfl, SqL.of h2, at_pos (by decide) rfl, fa, fb, _, _, _, _, rfl, h1f, h2f, bx.t1.mono (by decide), bx.b1.mono (by decide), by'.t1.mono (by decide), by'.b1.mono (by decide), ?_⟩
    refine ⟨_, rfl, ?_⟩
    refine ite2 (fun c => ?_) (fun c => ?_)
    · have e := join_b' (dec_lt c)
      refine ⟨_, rfl, r2, _, 2, _, rfl, rfl, SqL.of h2, at_pos (by decide) rfl, ?_⟩
      refine ⟨_, rfl, r1, _, 0, _, rfl, rfl, SqL.of h1, at_pos (by decide) rfl, _, rfl, r2, _, 0, _, rfl, rfl, SqL.of h2, at_pos (by decide) rfl, _, _, rfl, rfl, ?_⟩
      refine ⟨_, rfl, r1, _, 0, _, rfl, rfl, SqL.of h1, at_pos (by decide) rfl, _, rfl, r2, _, 0, _, rfl, rfl, SqL.of h2, at_pos (by decide) rfl, _, _, rfl, rfl, ?_⟩
      refine ⟨_, rfl, r1, _, 1, _, rfl, rfl, SqL.of h1, at_pos (by decide) rfl, _, rfl, r2, _, 1, _, rfl, rfl, SqL.of h2, at_pos (by decide) rfl, _, _, _, rfl, _, rfl, three_line, fun u hu => q u _ (same_new hu _) ?_⟩
      rw [e]
      exact fcl_is upd_same (h2f.same (same_new hu _))
    · have e := join_a bx by' (not_lt c)
      refine ⟨_, rfl, r1, _, 0, _, rfl, rfl, SqL.of h1, at_pos (by decide) rfl, _, rfl, r2, _, 0, _, rfl, rfl, SqL.of h2, at_pos (by decide) rfl, _, _, rfl, rfl, ?_⟩
      refine ⟨_, rfl, r1, _, 0, _, rfl, rfl, SqL.of h1, at_pos (by decide) rfl, _, rfl, r2, _, 0, _, rfl, rfl, SqL.of h2, at_pos (by decide) rfl, _, _, rfl, rfl, ?_⟩
      refine ⟨_, rfl, r1, _, 1, _, rfl, rfl, SqL.of h1, at_pos (by decide) rfl, _, rfl, r2, _, 1, _, rfl, rfl, SqL.of h2, at_pos (by decide) rfl, _, _, _, rfl, _, rfl, three_line, fun u hu => q u _ (same_new hu _) ?_⟩
      rw [e]
      exact fcl_is upd_same (h1f.same (same_new hu _))
  · refine ⟨_, rfl, p, _, 0, _, rfl, rfl, SqT.of a.at_, at_pos (by decide) rfl, rfl, _, rfl, ifF (dec_ne fun z => n1 (V.str.inj z)) ?_⟩
    refine ⟨_, rfl, p, _, 0, _, rfl, rfl, SqT.of a.at_, at_pos (by decide) rfl, rfl, _, rfl, ifF (dec_ne fun z => n2 (V.str.inj z)) ?_⟩
    refine ⟨_, rfl, _, rfl, p, _, rfl, .inr (SqT.of a.at_), _, _, rfl, rfl, p, _, _, _, rfl, rfl, SqT.of a.at_, a.last, _, rfl, _, rfl, x, pa, k, size, kvs, rfl, a.sub, gd hg, by omega, by omega, s0, s10, hk, ok, by rw [en]; exact hn, fun r1 H1 g1 hr1 => ?_⟩
    have bx := bnd (gd hg) (by omega)
    have ho := g1 _ _ a.at_
    obtain ⟨fa, h1, h1f⟩ := id hr1
    refine ⟨_, rfl, _, rfl, r1, _, 0, _, rfl, rfl, SqL.of h1, at_pos (by decide) rfl, _, _, rfl, ?_⟩
    have i0 := imin_nn s0 bx.m0
    have i1 : imin size (fc (kn kvs) size x).most ≤ 10 := Int.le_trans imin_le' s10
    show gName 7 (V.int (imin size (fc (kn kvs) size x).most)) _ _ _
    cases kd with
    | scale m n =>
      refine ⟨_, rfl, p, _, 0, _, rfl, rfl, SqT.of ho, at_pos (by decide) rfl, rfl, _, rfl, ifF (by decide +kernel) ?_⟩
      refine ⟨_, rfl, p, _, 0, _, rfl, rfl, SqT.of ho, at_pos (by decide) rfl, rfl, _, rfl, ifF (by decide +kernel) ?_⟩
      refine ⟨_, rfl, p, _, 0, _, rfl, rfl, SqT.of ho, at_pos (by decide) rfl, rfl, _, rfl, ifF (by decide +kernel) ?_⟩
      exact ⟨_, rfl, q r1 H1 g1 hr1⟩
    | thin m =>
      have k2 : (2 : Int) ≤ (m : Int) := by have := hg.1; omega
      have k10 : (m : Int) ≤ 10 := by have := hg.1; omega
      obtain ⟨s1, s2⟩ := kk_small k2 k10
      obtain ⟨p1, p2, q1, q2⟩ := grade_ok k2 k10
      have l := low_of p1 p2
      have g := gI_pos (t := gradeT (m : Int)) p2
      have q := fun r H' e (z : FcL H' r (fThin m size (fc (kn kvs) size x))) => q r H' (g1.trans e) z
      generalize fc (kn kvs) size x = b at bx i0 i1 h1 h1f q
      refine ⟨_, rfl, p, _, 0, _, rfl, rfl, SqT.of ho, at_pos (by decide) rfl, rfl, _, rfl, ifT (by decide +kernel) ?_⟩
      refine ⟨_, rfl, r1, _, 0, _, rfl, rfl, SqL.of h1, at_pos (by decide) rfl, _, rfl, p, _, 1, _, rfl, rfl, SqT.of ho, at_pos (by decide) rfl, _, rfl, p, _, 1, _, rfl, rfl, SqT.of ho, at_pos (by decide) rfl, _, _, rfl, rfl, small_mul (by omega) (by omega), _, rfl, _, _, rfl, rfl, small_mul s1 s2, _, _, rfl, ?_⟩
      refine ⟨_, rfl, _, rfl, r1, _, 1, _, rfl, rfl, SqL.of h1, at_pos (by decide) rfl, _, rfl, r1, _, 2, _, rfl, rfl, SqL.of h1, at_pos (by decide) rfl, _, rfl, p, _, 1, _, rfl, rfl, SqT.of ho, at_pos (by decide) rfl, (m : Int), rfl, k2, k10, fun r2 H2 g2 hr2 => ?_⟩
      refine ⟨fa, r2, b.top, b.bot, _, _, rfl, h1f.same g2, hr2, bx.low.tp, bx.low.bp, l.tp, l.bp, bx.t1.mono (by decide), bx.b1.mono (by decide), (B_small (by omega) q1).div (by omega) g, (B_small (by omega) q2).div (by omega) g, fun r3 H3 g3 hr3 => ?_⟩
      exact ⟨three_line, fun u hu => q u _ (g2.trans (g3.trans (same_new hu _))) (fcl_is upd_same (hr3.same (same_new hu _)))⟩
    | spare =>
      have q := fun r H' e (z : FcL H' r (fSpare size (fc (kn kvs) size x))) => q r H' (g1.trans e) z
      generalize fc (kn kvs) size x = b at bx i0 i1 h1 h1f q
      refine ⟨_, rfl, p, _, 0, _, rfl, rfl, SqT.of ho, at_pos (by decide) rfl, rfl, _, rfl, ifF (by decide +kernel) ?_⟩
      refine ⟨_, rfl, p, _, 0, _, rfl, rfl, SqT.of ho, at_pos (by decide) rfl, rfl, _, rfl, ifT (by decide +kernel) ?_⟩
      refine ⟨_, rfl, r1, _, 0, _, rfl, rfl, SqL.of h1, at_pos (by decide) rfl, _, rfl, _, rfl, _, _, rfl, rfl, _, _, rfl, rfl, small_mul (by omega) (by omega), _, _, rfl, rfl, ⟨by decide, by decide⟩, _, _, rfl, ?_⟩
      refine ⟨_, rfl, r1, _, 1, _, rfl, rfl, SqL.of h1, at_pos (by decide) rfl, _, rfl, r1, _, 2, _, rfl, rfl, SqL.of h1, at_pos (by decide) rfl, three_line, fun u hu => q u _ (same_new hu _) ?_⟩
      exact fcl_is upd_same (h1f.same (same_new hu _))
    | base =>
      have q := fun r H' e (z : FcL H' r (fBase size (fc (kn kvs) size x))) => q r H' (g1.trans e) z
      generalize fc (kn kvs) size x = b at bx i0 i1 h1 h1f q
      obtain ⟨w0, wB⟩ := worst_450 bx s0 s10
      refine ⟨_, rfl, p, _, 0, _, rfl, rfl, SqT.of ho, at_pos (by decide) rfl, rfl, _, rfl, ifF (by decide +kernel) ?_⟩
      refine ⟨_, rfl, p, _, 0, _, rfl, rfl, SqT.of ho, at_pos (by decide) rfl, rfl, _, rfl, ifF (by decide +kernel) ?_⟩
      refine ⟨_, rfl, p, _, 0, _, rfl, rfl, SqT.of ho, at_pos (by decide) rfl, rfl, _, rfl, ifT (by decide +kernel) ?_⟩
      generalize hhi : imin size b.most = hi at i0 i1 w0 wB
      refine ⟨_, rfl, _, _, rfl, rfl, hi + 1, rfl, by omega, by omega, fun D hD => ?_⟩
      refine lc_range (lo := 0) (n := (hi + 1).toNat) (fun i H' => Same H1 H' ∧ H' D = some (.lst (((wl b.most hi).take i).map V.int))) ⟨same_new hD _, upd_same⟩ ?_ ?_
      · rintro i H2 hlt ⟨g2, hd1⟩
        refine ⟨rfl, lc_yes ?_⟩
        refine ⟨_, rfl, _, _, rfl, rfl, small_mul (by decide) (by decide), _, rfl, r1, _, 0, _, rfl, rfl, SqL.of (g2 _ _ h1), at_pos (by decide) rfl, _, rfl, _, _, rfl, rfl, _, _, rfl, rfl, small_mul (by omega) (by omega), _, _, rfl, rfl, ?_⟩
        refine ⟨_, hd1, by rw [List.length_map]; exact small1000 (by rw [List.length_take]; omega), same_at g2 hD, ?_⟩
        rw [upd_same, wl_take hlt, List.map_append]
        rfl
      rintro H2 ⟨g2, hd1⟩
      rw [← wl_len (most := b.most), List.take_length] at hd1
      refine ⟨D, _, rfl, SqL.of hd1, by rw [wl_len]; omega, fun m hm hall => ?_⟩
      have em : m = maxL (wl b.most hi) := maxL_is hm hall (by
        have := hall 1 (List.mem_map.mpr ⟨(0 : Nat), List.mem_range.mpr (by omega), by show 1 + 2 * (0 + 0) * (b.most - (0 + 0)) = (1 : Int); omega⟩)
        omega)
      subst em
      have h2 := g2 _ _ h1
      refine ⟨_, rfl, _, rfl, r1, _, 1, _, rfl, rfl, SqL.of h2, at_pos (by decide) rfl, _, rfl, r1, _, 2, _, rfl, rfl, SqL.of h2, at_pos (by decide) rfl, _, rfl, two_line, fun v hv => ?_⟩
      have g3 := g2.trans (same_new hv (.tup [V.int (maxL (wl b.most hi)), V.int 1]))
      refine ⟨fa, v, b.top, b.bot, _, 1, rfl, h1f.same g3, upd_same, bx.low.tp, bx.low.bp, w0, by decide, bx.t1.mono (by decide), bx.b1.mono (by decide), wB, B_small (by decide) (by decide), fun r2 H3 g4 hr2 => ?_⟩
      refine ⟨three_line, fun u hu => q u _ (g3.trans (g4.trans (same_new hu _))) ?_⟩
      subst hhi
      exact fcl_is upd_same (hr2.same (same_new hu _))
theorem none_fcL {k : Nat} : FnOk P w K mg base CX0 k f fd ["plan", "size", "known"] (spFcL 0) := by
  have no : ∀ vs H Q E, ¬ spFcL 0 vs H Q E := fun vs H Q E h => by
    obtain ⟨pl, p, _, _, _, _, _, _, hh, _⟩ := h
    have := height_pos pl
    omega
  exact ⟨fun vs H Q E h => absurd h (no vs H Q E), fun A outer s H args us vs Q E _ _ _ _ h => absurd h (no vs H Q E)⟩
theorem all_fcL (T : Txt mg) (F : Fun K "_law_forecast" "_law_forecast" s__law_forecast f fd) (m : mg "_law_forecast" = some (.ref f)) (b : Binds K fd ["plan", "size", "known"] [])
    (C__law_below : Cal P w K mg base 1 "_law_below" ["one", "two"] spBelow) (C__law_times : Cal P w K mg base 3 "_law_times" ["one", "two"] spTimes) (C__law_grade_factor : Cal P w K mg base 3 "_law_grade_factor" ["k"] spGrade) : ∀ h : Nat, Cal P w K mg base (h + 3) "_law_forecast" ["plan", "size", "known"] (spFcL h)
  | 0 => ⟨f, fd, none_fcL, m, F.kp, b⟩
  | h + 1 => ⟨f, fd, ok__law_forecast F T (all_fcL T F m b C__law_below C__law_times C__law_grade_factor h) C__law_below C__law_times C__law_grade_factor, m, F.kp, b⟩
end
end P62
namespace P62
open PySem PySem.Spec PyProof.Rows L2 SX EX
theorem kit1 {K : PySem.W.Frag} : PySem.W.kitOne K (.type "int") (.type "int") = some true := kit_ty (by decide +kernel)
theorem kit2 {K : PySem.W.Frag} : PySem.W.kitOne K (.type "int") (.type "bool") = some false := kit_ty (by decide +kernel)
theorem kit3 {K : PySem.W.Frag} : PySem.W.kitOne K (.type "str") (.type "str") = some true := kit_ty (by decide +kernel)
theorem kit4 {K : PySem.W.Frag} : PySem.W.kitOne K (.type "int") (.type "str") = some false := kit_ty (by decide +kernel)
theorem kit5 {K : PySem.W.Frag} : PySem.W.kitOne K (.type "tuple") (.type "str") = some false := kit_ty (by decide +kernel)
theorem kit6 {K : PySem.W.Frag} : PySem.W.kitOne K (.type "tuple") (.type "tuple") = some true := kit_ty (by decide +kernel)
theorem kit7 {K : PySem.W.Frag} : PySem.W.kitOne K (.type "int") (.type "tuple") = some false := kit_ty (by decide +kernel)
def spLaw_whole : Sp := fun vs H Q _ => ∃ i : Int, vs = [.int i] ∧ Q (.bl true) H
abbrev s__law_whole : Stmt := top 25
abbrev N__law_whole : List Str := ["value"]
theorem sc__law_whole : FnScope N__law_whole ["value"] (defScope s__law_whole) := ⟨rfl, rfl, rfl, by decide +kernel, rfl, by decide +kernel, by decide +kernel⟩
/-- told and due are the same data, at most n deep -/
inductive SameD (H : Hp) : Nat → V → V → Prop where
  | str (n : Nat) (x : Str) : SameD H n (.str x) (.str x)
  | int (n : Nat) (i : Int) : SameD H n (.int i) (.int i)
  | tup (n : Nat) (p q : Addr) (xs ys : List V) (hp : H p = some (.tup xs)) (hq : H q = some (.tup ys)) (hl : xs.length = ys.length) (h9 : xs.length ≤ 100)
      (h : ∀ (i : Nat) (x y : V), xs[i]? = some x → ys[i]? = some y → SameD H n x y) : SameD H (n + 1) (.ref p) (.ref q)
theorem SameD.same {H H' : Hp} (e : Same H H') {n : Nat} {x y : V} (h : SameD H n x y) : SameD H' n x y := by
  induction h with
  | str n x => exact .str n x
  | int n i => exact .int n i
  | tup n p q xs ys hp hq hl h9 h ih => exact .tup n p q xs ys (e _ _ hp) (e _ _ hq) hl h9 ih
theorem two_items {H : Hp} {n : Nat} {a b c d : V} (h1 : SameD H n a c) (h2 : SameD H n b d) : ∀ (i : Nat) (x y : V), [a, b][i]? = some x → [c, d][i]? = some y → SameD H n x y
  | 0, _, _, e1, e2 => by cases e1; cases e2; exact h1
  | 1, _, _, e1, e2 => by cases e1; cases e2; exact h2
  | i + 2, _, _, e1, _ => by simp at e1
theorem three_items {H : Hp} {n : Nat} {a b c d e f : V} (h1 : SameD H n a d) (h2 : SameD H n b e) (h3 : SameD H n c f) : ∀ (i : Nat) (x y : V), [a, b, c][i]? = some x → [d, e, f][i]? = some y → SameD H n x y
  | 0, _, _, e1, e2 => by cases e1; cases e2; exact h1
  | 1, _, _, e1, e2 => by cases e1; cases e2; exact h2
  | 2, _, _, e1, e2 => by cases e1; cases e2; exact h3
  | i + 3, _, _, e1, _ => by simp at e1
theorem four_items {H : Hp} {n : Nat} {a b c d a' b' c' d' : V} (h1 : SameD H n a a') (h2 : SameD H n b b') (h3 : SameD H n c c') (h4 : SameD H n d d') : ∀ (i : Nat) (x y : V), [a, b, c, d][i]? = some x → [a', b', c', d'][i]? = some y → SameD H n x y
  | 0, _, _, e1, e2 => by cases e1; cases e2; exact h1
  | 1, _, _, e1, e2 => by cases e1; cases e2; exact h2
  | 2, _, _, e1, e2 => by cases e1; cases e2; exact h3
  | 3, _, _, e1, e2 => by cases e1; cases e2; exact h4
  | i + 4, _, _, e1, _ => by simp at e1
def spSame (n : Nat) : Sp := fun vs H Q _ => ∃ told due : V, vs = [told, due] ∧ SameD H n told due ∧ ∀ H', Same H H' → Q (.bl true) H'
abbrev s__law_same : Stmt := top 32
abbrev N__law_same : List Str := ["told", "due", "k"]
theorem sc__law_same : FnScope N__law_same ["told", "due"] (defScope s__law_same) := ⟨rfl, rfl, rfl, by decide +kernel, rfl, by decide +kernel, by decide +kernel⟩
section
variable {P : Program} {w : World} {K : PySem.W.Frag} {mg : Str → Option Value} {base : Heap} {f : Addr} {fd : FuncData}
theorem ok__law_whole (F : Fun K "_law_whole" "_law_whole" s__law_whole f fd) (T : Txt mg) : FnOk P w K mg base CX0 1 f fd ["value"] spLaw_whole := by
  refine F.ok sc__law_whole (fun vs H Q E h => ?_) (fun cdv A outer s H vs Q E hr h => ?_)
  · obtain ⟨i, rfl, _⟩ := h
    rfl
  obtain ⟨i, rfl, q⟩ := h
  refine ⟨_, (pss_one (ps_ret (pe_and (pe_callB call_isi (by rfl) T.b_isinstance (by decide +kernel) (pa_cons (pv 0) (pa_cons (pe_bltn (v := .ty "int") (by rfl) T.b_int (by decide +kernel) rfl) pa_nil))) (pe_one (pe_not (pe_callB call_isi (by rfl) T.b_isinstance (by decide +kernel) (pa_cons (pv 0) (pa_cons (pe_bltn (v := .ty "bool") (by rfl) T.b_bool (by decide +kernel) rfl) pa_nil)))))))), ?_⟩
  refine ⟨_, rfl, _, _, _, _, true, rfl, .ty _, .base (.int i), kit1, true, rfl, ifT rfl ?_⟩
  exact ⟨_, rfl, _, _, _, _, false, rfl, .ty _, .base (.int i), kit2, false, rfl, q⟩
def spSub (n : Nat) : Sp := fun vs H Q E => ∃ m, n = m + 1 ∧ spSame m vs H Q E
theorem ok__law_same {n : Nat} (F : Fun K "_law_same" "_law_same" s__law_same f fd) (T : Txt mg) (C__law_whole : Cal P w K mg base 1 "_law_whole" ["value"] spLaw_whole)
    (C__law_same : Cal P w K mg base (n + 1) "_law_same" ["told", "due"] (spSub n)) : FnOk P w K mg base CX0 (n + 2) f fd ["told", "due"] (spSame n) := by
  refine F.ok sc__law_same (fun vs H Q E h => ?_) (fun cdv A outer s H vs Q E hr h => ?_)
  · obtain ⟨told, due, rfl, _⟩ := h
    rfl
  obtain ⟨told, due, rfl, hs, q⟩ := h
  refine ⟨_, (pss_cons (ps_if (pt_val (pe_callB call_isi (by rfl) T.b_isinstance (by decide +kernel) (pa_cons (pv 1) (pa_cons (pe_bltn (v := .ty "str") (by rfl) T.b_str (by decide +kernel) rfl) pa_nil)))) (pss_one (ps_ret (pe_and (pe_callB call_isi (by rfl) T.b_isinstance (by decide +kernel) (pa_cons (pv 0) (pa_cons (pe_bltn (v := .ty "str") (by rfl) T.b_str (by decide +kernel) rfl) pa_nil))) (pe_one (pe_cmpR op_eq (pv 0) (pv 1) (nomark _)))))) pss_nil)
  (pss_cons (ps_if (pt_not (pt_val (pe_callB call_isi (by rfl) T.b_isinstance (by decide +kernel) (pa_cons (pv 1) (pa_cons (pe_bltn (v := .ty "tuple") (by rfl) T.b_tuple (by decide +kernel) rfl) pa_nil))))) (pss_one (ps_ret (pe_and (pe_cal C__law_whole (hr.mono (by omega)) rfl (pa_cons (pv 0) pa_nil)) (pe_one (pe_cmpR op_eq (pv 0) (pv 1) (nomark _)))))) pss_nil)
  (pss_cons (ps_if (PW.pt (pw_or (pt_not (pt_val (pe_callB call_isi (by rfl) T.b_isinstance (by decide +kernel) (pa_cons (pv 0) (pa_cons (pe_bltn (v := .ty "tuple") (by rfl) T.b_tuple (by decide +kernel) rfl) pa_nil))))) (pw_or1 (pt_cmpR op_ne (pe_callB call_len_seq (by rfl) T.b_len PySem.boot_len (pa_cons (pv 0) pa_nil)) (pe_callB call_len_seq (by rfl) T.b_len PySem.boot_len (pa_cons (pv 1) pa_nil)) (nomark _))))) (pss_one (ps_ret pe_bl)) pss_nil)
  (pss_one (ps_ret (pe_callB (cr_all rfl) (by rfl) T.b_all (by decide +kernel) (pa_cons (pe_lc (own := [("k", 2)]) (g := gName 2) (tt := tYes) (by rfl) sc__law_same.nd (pi_range1 (by rfl) T.b_range (pa_cons (pe_callB call_len_seq (by rfl) T.b_len PySem.boot_len (pa_cons (pv 1) pa_nil)) pa_nil)) (blkOk_by (N := N__law_same) (sc := defScope s__law_same) (by decide +kernel)) (fun _ _ _ _ _ => pg_name (i := 2) sc__law_same.nd rfl (Or.inl rfl)) (fun _ _ _ _ _ => pts_nil) (fun _ _ _ _ _ => (pe_cal C__law_same (hr.mono (by omega)) rfl (pa_cons (pe_ix (ix_tupK (K := K) rfl) (pv 0) (pv 2) (fun _ _ => rfl)) (pa_cons (pe_ix (ix_tupK (K := K) rfl) (pv 1) (pv 2) (fun _ _ => rfl)) pa_nil))))) pa_nil))))))), ?_⟩
  cases hs with
  | str _ x =>
    refine ⟨_, rfl, _, _, _, _, true, rfl, .ty _, .base (.str x), kit3, true, rfl, ifT rfl ?_⟩
    refine ⟨_, rfl, _, _, _, _, true, rfl, .ty _, .base (.str x), kit3, true, rfl, ifT rfl ?_⟩
    refine ⟨_, rfl, _, rfl, rfl, ?_⟩
    rw [decide_eq_true rfl]
    exact q H (Same.refl H)
  | int _ i =>
    refine ⟨_, rfl, _, _, _, _, false, rfl, .ty _, .base (.int i), kit4, false, rfl, ifF rfl ?_⟩
    refine ⟨_, rfl, _, _, _, _, false, rfl, .ty _, .base (.int i), kit7, false, rfl, ifT rfl ?_⟩
    refine ⟨_, rfl, i, rfl, true, rfl, ifT rfl ?_⟩
    refine ⟨_, rfl, _, rfl, rfl, ?_⟩
    rw [decide_eq_true rfl]
    exact q H (Same.refl H)
  | tup m p r xs ys hp hq hl h9 hi =>
    refine ⟨_, rfl, _, _, _, _, false, rfl, .ty _, .base (.tup hq), kit5, false, rfl, ifF rfl ?_⟩
    refine ⟨_, rfl, _, _, _, _, true, rfl, .ty _, .base (.tup hq), kit6, true, rfl, ifF rfl ?_⟩
    refine ⟨_, rfl, _, _, _, _, true, rfl, .ty _, .base (.tup hp), kit6, true, rfl, ifF rfl ?_⟩
    refine ⟨_, rfl, p, xs, rfl, .inr (SqT.of hp), _, rfl, r, ys, rfl, .inr (SqT.of hq), rfl, _, rfl, ifF (by rw [hl, decide_eq_true rfl]; rfl) ?_⟩
    refine ⟨_, rfl, r, ys, rfl, .inr (SqT.of hq), _, rfl, by omega, by omega, fun D hD => ?_⟩
    refine lc_range (lo := 0) (n := ys.length) (fun i H' => Same H H' ∧ H' D = some (.lst (List.replicate i (V.bl true)))) ⟨same_new hD _, upd_same⟩ ?_ ?_
    · rintro i H1 hlt ⟨g1, hd1⟩
      refine ⟨rfl, lc_yes ?_⟩
      obtain ⟨x, hx⟩ : ∃ x, xs[i]? = some x := ⟨xs[i]'(by omega), List.getElem?_eq_getElem (by omega)⟩
      obtain ⟨y, hy⟩ : ∃ y, ys[i]? = some y := ⟨ys[i], List.getElem?_eq_getElem (by omega)⟩
      have ei : ((0 : Int) + (i : Nat)).toNat = i := by omega
      refine ⟨_, rfl, _, rfl, p, xs, _, x, rfl, rfl, SqT.of (g1 _ _ hp), at_pos (by omega) (by rw [ei]; exact hx), ?_⟩
      refine ⟨_, rfl, _, rfl, r, ys, _, y, rfl, rfl, SqT.of (g1 _ _ hq), at_pos (by omega) (by rw [ei]; exact hy), ?_⟩
      refine ⟨m, rfl, x, y, rfl, (hi i x y hx hy).same g1, fun H2 g2 => ?_⟩
      refine ⟨_, g2 _ _ hd1, by rw [List.length_replicate]; exact small1000 (by omega), ?_, ?_⟩
      · intro b o hb
        have hne : b ≠ D := fun e => by
          rw [e, hD] at hb
          cases hb
        rw [upd_ne hne]
        exact g2 _ _ (g1 _ _ hb)
      · rw [upd_same, List.replicate_succ']
    · rintro H1 ⟨g1, hd1⟩
      refine ⟨D, List.replicate ys.length true, rfl, SqL.of (by rw [hd1, List.map_replicate]), ?_⟩
      have ha : (List.replicate ys.length true).all id = true := by
        rw [List.all_eq_true]
        intro x hx
        rw [List.eq_of_mem_replicate hx]
        rfl
      rw [ha]
      exact q H1 g1
theorem all_same (T : Txt mg) (F : Fun K "_law_same" "_law_same" s__law_same f fd) (m : mg "_law_same" = some (.ref f)) (b : Binds K fd ["told", "due"] []) (C__law_whole : Cal P w K mg base 1 "_law_whole" ["value"] spLaw_whole) :
    ∀ n : Nat, Cal P w K mg base (n + 2) "_law_same" ["told", "due"] (spSame n)
  | 0 => by
    have no : ∀ vs H Q E, ¬ spSub 0 vs H Q E := fun vs H Q E ⟨k, e, _⟩ => by omega
    exact ⟨f, fd, ok__law_same F T C__law_whole ⟨f, fd, ⟨fun vs H Q E h => absurd h (no vs H Q E), fun A outer s H args us vs Q E _ _ _ _ h => absurd h (no vs H Q E)⟩, m, F.kp, b⟩, m, F.kp, b⟩
  | n + 1 => by
    obtain ⟨f', fd', G, m', kp', b'⟩ := all_same T F m b C__law_whole n
    exact ⟨f, fd, ok__law_same F T C__law_whole ⟨f', fd', G.imp (fun vs H Q E ⟨k, e, h⟩ => by
      have : n = k := by omega
      subst this
      exact h), m', kp', b'⟩, m, F.kp, b⟩
end
end P62
namespace P62
open PySem PySem.Spec PyProof.Rows L2 SX EX
/-! ### _law_cell: some int -/
def spCell (K : PySem.W.Frag) : Sp := fun vs H Q _ => ∃ (a : Addr) (ns : List Int) (k : Int), vs = [.ref a, .int k] ∧ SqL K H a (ns.map V.int) ∧ 0 ≤ k ∧ k ≤ 1000 ∧ ∀ i : Int, Q (.int i) H
abbrev s__law_cell : Stmt := top 26
abbrev N__law_cell : List Str := ["script", "k", "seed", "cell"]
theorem sc__law_cell : FnScope N__law_cell ["script", "k"] (defScope s__law_cell) := ⟨rfl, rfl, rfl, by decide +kernel, rfl, by decide +kernel, by decide +kernel⟩
/-- digits: each is below its size -/
abbrev Dig (ns zs : List Int) : Prop := Paired (fun n z => 0 ≤ n ∧ n < z) ns zs
theorem Dig.snoc : ∀ {ns zs : List Int} {n z : Int}, Dig ns zs → 0 ≤ n → n < z → Dig (ns ++ [n]) (zs ++ [z])
  | _, _, _, _, .nil, h1, h2 => .cons ⟨h1, h2⟩ .nil
  | _, _, _, _, .cons r t, h1, h2 => .cons r (Dig.snoc t h1 h2)
theorem Dig.get : ∀ {ns zs : List Int} {i : Nat} {z : Int}, Dig ns zs → zs[i]? = some z → ∃ n, ns[i]? = some n ∧ 0 ≤ n ∧ n < z
  | _, _, _, _, .nil, e => by simp at e
  | _, _, 0, _, .cons r _, e => by cases e; exact ⟨_, rfl, r.1, r.2⟩
  | _, _, i + 1, z, .cons _ t, e => by
    obtain ⟨n, h1, h2⟩ := Dig.get (i := i) (z := z) t (by simpa using e)
    exact ⟨n, by simpa using h1, h2⟩
theorem Dig.len {ns zs : List Int} (d : Dig ns zs) : ns.length = zs.length := Paired.length d
theorem map_int {ns : List Int} {i : Nat} {x : V} (h : (ns.map V.int)[i]? = some x) : ∃ z, ns[i]? = some z ∧ x = .int z := by
  rw [List.getElem?_map] at h
  cases e : ns[i]? with
  | none => rw [e] at h; cases h
  | some z => rw [e] at h; exact ⟨z, rfl, (Option.some.inj h).symm⟩
theorem int_at {ns : List Int} {i : Nat} {z : Int} (h : ns[i]? = some z) : (ns.map V.int)[i]? = some (.int z) := by
  rw [List.getElem?_map, h]
  rfl
theorem snoc_int (ns : List Int) (n : Int) : ns.map V.int ++ [V.int n] = (ns ++ [n]).map V.int := by
  rw [List.map_append]
  rfl
/-! ### _law_digits: one digit for each size -/
def spDigits (K : PySem.W.Frag) : Sp := fun vs H Q _ => ∃ (c : Int) (a : Addr) (zs : List Int), vs = [.int c, .ref a] ∧ SqL K H a (zs.map V.int) ∧ zs.length ≤ 1000 ∧ (∀ z ∈ zs, 0 < z ∧ z.natAbs < 2 ^ 2000) ∧
  ∀ p ns, H p = none → Dig ns zs → Q (.ref p) (upd H p (.lst (ns.map V.int)))
abbrev s__law_digits : Stmt := top 27
abbrev N__law_digits : List Str := ["cell", "sizes", "row", "rest", "size", "seed", "k", "twice"]
theorem sc__law_digits : FnScope N__law_digits ["cell", "sizes"] (defScope s__law_digits) := ⟨rfl, rfl, rfl, by decide +kernel, rfl, by decide +kernel, by decide +kernel⟩
section
variable {P : Program} {w : World} {K : PySem.W.Frag} {mg : Str → Option Value} {base : Heap} {f : Addr} {fd : FuncData}
theorem ok__law_cell (F : Fun K "_law_cell" "_law_cell" s__law_cell f fd) (T : Txt mg) : FnOk P w K mg base CX0 1 f fd ["script", "k"] (spCell K) := by
  refine F.ok sc__law_cell (fun vs H Q E h => ?_) (fun cdv A outer s H vs Q E hr h => ?_)
  · obtain ⟨a, ns, k, rfl, _⟩ := h
    rfl
  obtain ⟨a, ns, k, rfl, hs, h0, h1, q⟩ := h
  refine ⟨_, (pss_cons (ps_if (pt_cmpR op_lt (pv 1) (pe_callB call_len_seq (by rfl) T.b_len PySem.boot_len (pa_cons (pv 0) pa_nil)) (nomark _)) (pss_one (ps_ret (pe_ix ix_list (pv 0) (pv 1) (fun _ _ => rfl)))) pss_nil)
  (pss_cons (ps_set (i := 2) sc__law_cell.nd rfl (Or.inl rfl) pe_int)
  (pss_cons (ps_for PassesOwn.never rfl (pi_list (pv 0)) (pg_name (i := 3) sc__law_cell.nd rfl (Or.inl rfl)) (pss_one (ps_set (i := 2) sc__law_cell.nd rfl (Or.inl rfl) (pe_op op_mod (pe_callTy call_int1 (by rfl) T.b_int (by decide +kernel) (pa_cons (pe_op op_add (pe_op op_mul (pv 2) pe_int) (pe_op op_mod (pe_callTy call_int1 (by rfl) T.b_int (by decide +kernel) (pa_cons (pv 3) pa_nil)) pe_int)) pa_nil)) pe_int))))
  (pss_one (ps_ret (pe_op op_mod (pe_callTy call_int1 (by rfl) T.b_int (by decide +kernel) (pa_cons (pe_op op_mul (pe_op op_mul (pe_op op_add (pv 2) pe_int) (pe_op op_add (pv 1) pe_int)) pe_int) pa_nil)) pe_int)))))), ?_⟩
  refine ⟨_, rfl, _, rfl, a, _, rfl, .inl hs, _, _, rfl, rfl, _, rfl, ?_⟩
  refine ite2 (fun c => ?_) (fun c => ?_)
  · have c' : k < (((ns.map V.int).length : Nat) : Int) := of_decide_eq_true c
    rw [List.length_map] at c'
    obtain ⟨z, hz⟩ : ∃ z, ns[k.toNat]? = some z := ⟨ns[k.toNat]'(by omega), List.getElem?_eq_getElem (by omega)⟩
    exact ⟨_, rfl, _, rfl, a, _, k, _, rfl, rfl, hs, at_pos h0 (int_at hz), q z⟩
  · refine ⟨_, rfl, a, rfl, ⟨_, hs⟩, for_list (K := K) (a := a) (xs := ns.map V.int) (fun i σ H' => ∃ (z : Int) (v : Option V), σ = [some (.ref a), some (.int k), some (.int z), v] ∧ H' = H)
      ⟨17, none, rfl, rfl⟩ (fun i σ H' _ ⟨_, _, _, e⟩ => by rw [e]; exact hs) ?_ ?_⟩
    · rintro i y σ H' hi ⟨z, v, rfl, rfl⟩
      obtain ⟨x, hx, rfl⟩ := map_int hi
      refine ⟨_, rfl, _, _, rfl, rfl, .inr (by decide), _, rfl, .inl ⟨_, rfl, _, _, rfl, rfl, (by show (0 : Int) < 1000003; decide), _, _, rfl, rfl, .inl ⟨_, rfl, _, _, rfl, rfl, (by show (0 : Int) < 1000003; decide), ?_⟩⟩⟩
      exact ⟨_, _, rfl, rfl⟩
    · rintro σ H' ⟨z, v, rfl, rfl⟩
      refine ⟨_, rfl, _, _, rfl, rfl, _, rfl, _, _, rfl, rfl, _, _, rfl, rfl, .inr (by omega), _, _, rfl, rfl, .inr (by decide), .inl ⟨_, rfl, _, _, rfl, rfl, (by show (0 : Int) < 2147483647; decide), ?_⟩⟩
      exact q _
theorem ok__law_digits (F : Fun K "_law_digits" "_law_digits" s__law_digits f fd) (T : Txt mg) : FnOk P w K mg base CX0 1 f fd ["cell", "sizes"] (spDigits K) := by
  refine F.ok sc__law_digits (fun vs H Q E h => ?_) (fun cdv A outer s H vs Q E hr h => ?_)
  · obtain ⟨c, a, zs, rfl, _⟩ := h
    rfl
  obtain ⟨c, a, zs, rfl, hs, hz9, hz, q⟩ := h
  refine ⟨_, (pss_cons (ps_set (i := 2) sc__law_digits.nd rfl (Or.inl rfl) (pe_lst pa_nil))
  (pss_cons (ps_set (i := 3) sc__law_digits.nd rfl (Or.inl rfl) (pe_callTy call_int1 (by rfl) T.b_int (by decide +kernel) (pa_cons (pv 0) pa_nil)))
  (pss_cons (ps_if (pt_cmpR op_ge (pv 3) (pe_op op_pow pe_int pe_int) (nomark _)) (pss_cons (ps_set (i := 3) sc__law_digits.nd rfl (Or.inl rfl) (pe_op op_sub (pv 3) (pe_op op_pow pe_int pe_int)))
  (pss_cons (ps_for PassesOwn.never rfl (pi_list (pv 1)) (pg_name (i := 4) sc__law_digits.nd rfl (Or.inl rfl)) (pss_cons (ps_expr (pe_bm PySem.F.plainAttrs_list PySem.F.slot_list_append PySem.F.type_list_append mt_append (pv 2) (pa_cons (pe_op op_mod (pe_callTy call_int1 (by rfl) T.b_int (by decide +kernel) (pa_cons (pv 3) pa_nil)) (pv 4)) pa_nil)))
  (pss_one (ps_set (i := 3) sc__law_digits.nd rfl (Or.inl rfl) (pe_op op_fdivW (pe_callTy call_int1 (by rfl) T.b_int (by decide +kernel) (pa_cons (pv 3) pa_nil)) (pv 4))))))
  (pss_one (ps_ret (pv 2))))) pss_nil)
  (pss_cons (ps_set (i := 5) sc__law_digits.nd rfl (Or.inl rfl) (pe_op op_mod (pe_callTy call_int1 (by rfl) T.b_int (by decide +kernel) (pa_cons (pv 3) pa_nil)) pe_int))
  (pss_cons (ps_for PassesOwn.never rfl (pi_range1 (by rfl) T.b_range (pa_cons (pe_callB call_len_seq (by rfl) T.b_len PySem.boot_len (pa_cons (pv 1) pa_nil)) pa_nil)) (pg_name (i := 6) sc__law_digits.nd rfl (Or.inl rfl)) (pss_cons (ps_set (i := 5) sc__law_digits.nd rfl (Or.inl rfl) (pe_op op_mod (pe_callTy call_int1 (by rfl) T.b_int (by decide +kernel) (pa_cons (pe_op op_add (pe_op op_add (pe_op op_mul (pv 5) pe_int) (pe_op op_mul pe_int (pv 6))) pe_int) pa_nil)) pe_int))
  (pss_cons (ps_set (i := 7) sc__law_digits.nd rfl (Or.inl rfl) (pe_op op_mod (pe_callTy call_int1 (by rfl) T.b_int (by decide +kernel) (pa_cons (pe_op op_mul (pv 5) (pe_op op_add (pe_op op_fdiv (pv 5) pe_int) pe_int)) pa_nil)) pe_int))
  (pss_one (ps_expr (pe_bm PySem.F.plainAttrs_list PySem.F.slot_list_append PySem.F.type_list_append mt_append (pv 2) (pa_cons (pe_op op_mod (pe_op op_fdiv (pv 7) pe_int) (pe_ix ix_list (pv 1) (pv 6) (fun _ _ => rfl))) pa_nil)))))))
  (pss_one (ps_ret (pv 2)))))))), ?_⟩
  have keep : ∀ {p : Addr} {o : HO}, H p = none → SqL K (upd H p o) a (zs.map V.int) := fun hp => (same_new hp _).seq hs
  refine ⟨(by show 0 ≤ sizeLine; exact Nat.zero_le _), fun p hp => ?_⟩
  refine ⟨_, rfl, .inl ⟨_, rfl, ?_⟩⟩
  refine ⟨_, rfl, _, _, rfl, rfl, ⟨by decide, by decide, by decide⟩, _, _, rfl, rfl, _, rfl, ?_⟩
  refine ite2 (fun _ => ?_) (fun _ => ?_)
  · refine ⟨_, rfl, _, _, rfl, rfl, ⟨by decide, by decide, by decide⟩, _, _, rfl, rfl, ?_⟩
    refine ⟨_, rfl, a, rfl, ⟨_, keep hp⟩, for_list (K := K) (a := a) (xs := zs.map V.int) (fun i σ H' => ∃ (z : Int) (v : Option V) (ns : List Int), σ = [some (.int c), some (.ref a), some (.ref p), some (.int z), v, none, none, none] ∧ H' = upd H p (.lst (ns.map V.int)) ∧ Dig ns (zs.take i))
      ⟨_, none, [], rfl, rfl, .nil⟩ (fun i σ H' _ ⟨_, _, _, _, e, _⟩ => by rw [e]; exact keep hp) ?_ ?_⟩
    · rintro i y σ H' hi ⟨z, v, ns, rfl, rfl, hd⟩
      obtain ⟨x, hx, rfl⟩ := map_int hi
      have hx2 := hz x (List.mem_of_getElem? hx)
      have hlen : ns.length ≤ 1000 := by
        have := hd.len
        rw [List.length_take] at this
        omega
      refine ⟨_, rfl, .inl ⟨rfl, _, SqL.of upd_same⟩, _, rfl, .inl ⟨_, rfl, _, rfl, _, _, rfl, rfl, hx2.1, p, _, _, rfl, rfl, upd_same, by rw [List.length_map]; exact small1000 hlen, ?_⟩⟩
      refine ⟨_, rfl, .inl ⟨_, rfl, _, rfl, _, _, rfl, rfl, wide_div hx2.1 hx2.2 (by decide) (by decide), ?_⟩⟩
      exact ⟨_, _, ns ++ [z % x], rfl, by rw [upd_upd, snoc_int], by rw [take_snoc hx]; exact hd.snoc (Int.emod_nonneg _ (by omega)) (Int.emod_lt_of_pos _ hx2.1)⟩
    · rintro σ H' ⟨z, v, ns, rfl, rfl, hd⟩
      rw [List.length_map, List.take_length] at hd
      exact ⟨_, rfl, q p ns hp hd⟩
  · refine ⟨_, rfl, .inl ⟨_, rfl, _, _, rfl, rfl, (by show (0 : Int) < 2147483629; decide), ?_⟩⟩
    refine ⟨_, rfl, a, _, rfl, .inl (keep hp), _, rfl, by rw [List.length_map]; omega, by rw [List.length_map]; omega, for_range (lo := 0) (n := (((zs.map V.int).length : Nat) : Int).toNat)
      (fun i σ H' => ∃ (sd : Int) (v6 v7 : Option V) (r : Int) (ns : List Int), σ = [some (.int c), some (.ref a), some (.ref p), some (.int r), none, some (.int sd), v6, v7] ∧ 0 ≤ sd ∧ sd < 2147483648 ∧ H' = upd H p (.lst (ns.map V.int)) ∧ Dig ns (zs.take i))
      ⟨_, none, none, _, [], rfl, Int.emod_nonneg _ (by decide), Int.lt_trans (Int.emod_lt_of_pos _ (by decide)) (by decide), rfl, .nil⟩ ?_ ?_⟩
    · rintro i σ H' hi ⟨sd, v6, v7, r, ns, rfl, hs0, hs1, rfl, hd⟩
      rw [Int.toNat_natCast, List.length_map] at hi
      obtain ⟨x, hx⟩ : ∃ x, zs[i]? = some x := ⟨zs[i], List.getElem?_eq_getElem hi⟩
      have hx2 := hz x (List.mem_of_getElem? hx)
      have hlen : ns.length ≤ 1000 := by
        have := hd.len
        rw [List.length_take] at this
        omega
      refine ⟨_, rfl, _, _, rfl, rfl, .inr (by decide), _, rfl, _, _, rfl, rfl, .inl (by decide), _, _, rfl, rfl, _, _, rfl, rfl, .inl ⟨_, rfl, _, _, rfl, rfl, (by show (0 : Int) < 2147483647; decide), ?_⟩⟩
      have b0 : 0 ≤ (sd * 48271 + 974711 * (0 + (i : Int)) + 12345) % 2147483647 := Int.emod_nonneg _ (by decide)
      have b1 : (sd * 48271 + 974711 * (0 + (i : Int)) + 12345) % 2147483647 < 2147483648 := Int.lt_trans (Int.emod_lt_of_pos _ (by decide)) (by decide)
      refine ⟨_, rfl, _, rfl, _, _, rfl, rfl, ⟨by decide, by decide⟩, _, _, rfl, rfl, _, _, rfl, rfl, .inl ⟨Int.lt_of_lt_of_le (by decide) b0, Int.lt_trans b1 (by decide)⟩, .inl ⟨_, rfl, _, _, rfl, rfl, (by show (0 : Int) < 2147483629; decide), ?_⟩⟩
      refine ⟨_, rfl, .inl ⟨rfl, _, SqL.of upd_same⟩, _, rfl, _, _, rfl, rfl, ⟨by decide, by decide⟩, _, rfl, _, rfl, a, _, _, _, rfl, rfl, keep hp, at_pos (by omega) (int_at (by rw [show ((0 : Int) + (i : Nat)).toNat = i by omega]; exact hx)), _, _, rfl, rfl, hx2.1, p, _, _, rfl, rfl, upd_same, by rw [List.length_map]; exact small1000 hlen, ?_⟩
      exact ⟨_, _, _, r, _, rfl, b0, b1, by rw [upd_upd, snoc_int], by rw [take_snoc hx]; exact hd.snoc (Int.emod_nonneg _ (by omega)) (Int.emod_lt_of_pos _ hx2.1)⟩
    · rintro σ H' ⟨sd, v6, v7, r, ns, rfl, hs0, hs1, rfl, hd⟩
      rw [Int.toNat_natCast, List.length_map, List.take_length] at hd
      exact ⟨_, rfl, q p ns hp hd⟩
end
end P62
namespace P62
open PySem PySem.Spec PyProof.Rows L2 SX EX
/-! ### _law_same in a suite -/
def spSameH : Sp := fun vs H Q _ => ∃ x : Str, vs = [.str x, .str x] ∧ Q (.bl true) H
section
variable {P : Program} {w : World} {K : PySem.W.Frag} {mg : Str → Option Value} {base : Heap} {f : Addr} {fd : FuncData}
theorem okH__law_same (F : Fun K "_law_same" "_law_same" s__law_same f fd) (T : Txt mg) : L2H.FnH P w K mg base CX0 1 f fd ["told", "due"] spSameH := by
  refine okH F sc__law_same (fun vs H Q E h => ?_) (fun cdv A outer s H vs Q E p hr hot h => ?_)
  · obtain ⟨x, rfl, _⟩ := h
    rfl
  obtain ⟨x, rfl, q⟩ := h
  refine ⟨_, (pss_cons (ps_if (pt_val (pe_callB call_isi (by rfl) T.b_isinstance (by decide +kernel) (pa_cons (pv 1) (pa_cons (pe_bltn (v := .ty "str") (by rfl) T.b_str (by decide +kernel) rfl) pa_nil)))) (pss_one (ps_ret (pe_and (pe_callB call_isi (by rfl) T.b_isinstance (by decide +kernel) (pa_cons (pv 0) (pa_cons (pe_bltn (v := .ty "str") (by rfl) T.b_str (by decide +kernel) rfl) pa_nil))) (pe_one (pe_cmpR op_eq (pv 0) (pv 1) (nomark _)))))) pss_nil) pss_never), ?_⟩
  refine ⟨_, rfl, _, _, _, _, true, rfl, .ty _, .base (.str x), kit3, true, rfl, ifT rfl ?_⟩
  refine ⟨_, rfl, _, _, _, _, true, rfl, .ty _, .base (.str x), kit3, true, rfl, ifT rfl ?_⟩
  refine ⟨_, rfl, _, rfl, rfl, ?_⟩
  rw [decide_eq_true rfl]
  exact q
end
/-! ### names -/
def Nm (n : List Nat) : Prop := (1 ≤ n.length ∧ n.length ≤ 8) ∧ ∀ c ∈ n, c < 1000
theorem mem_app {x y : List Nat} (hx : ∀ c ∈ x, c < 1000) (hy : ∀ c ∈ y, c < 1000) : ∀ c ∈ x ++ y, c < 1000 := fun c h => (List.mem_append.mp h).elim (hx c) (hy c)
theorem mem_one {d : Nat} (h : d < 1000) : ∀ c ∈ [d], c < 1000 := fun c e => by rw [List.mem_singleton.mp e]; exact h
abbrev letters : List Nat := [97, 98, 99, 100, 101, 102, 103, 104, 105, 106, 107, 108, 109, 110, 111, 112, 113, 114, 115, 116, 117, 118, 119, 120, 121, 122]
theorem lit_letters : ("abcdefghijklmnopqrstuvwxyz" : Str) = S letters := by decide +kernel
theorem lit_empty : ("" : Str) = S [] := by decide +kernel
theorem cut_to (l : List Nat) {b : Int} (hb : 0 ≤ b) : cutS (S l) none (some b) = S (l.take b.toNat) := by
  have e1 : HT.sIx (S l).length 0 none = 0 := rfl
  have e2 : HT.sIx (S l).length (S l).length (some b) = min b.toNat l.length := by rw [slen]; show (if b < 0 then _ else _) = _; rw [if_neg (by omega)]
  unfold cutS
  rw [e1, e2]
  show (⟨((l.drop 0).take (min b.toNat l.length - 0)).toArray⟩ : Str) = _
  refine congrArg S ?_
  rw [List.drop_zero, Nat.sub_zero]
  rcases Nat.le_total b.toNat l.length with h | h
  · rw [Nat.min_eq_left h]
  · rw [Nat.min_eq_right h, List.take_of_length_le (Nat.le_refl _), List.take_of_length_le h]
theorem cut_from (l : List Nat) {a : Int} (ha : 0 ≤ a) : cutS (S l) (some a) none = S (l.drop a.toNat) := by
  have e1 : HT.sIx (S l).length 0 (some a) = min a.toNat l.length := by rw [slen]; show (if a < 0 then _ else _) = _; rw [if_neg (by omega)]
  have e2 : HT.sIx (S l).length (S l).length none = l.length := slen l
  unfold cutS
  rw [e1, e2]
  show (⟨((l.drop (min a.toNat l.length)).take (l.length - min a.toNat l.length)).toArray⟩ : Str) = _
  refine congrArg S ?_
  rcases Nat.le_total a.toNat l.length with h | h
  · rw [Nat.min_eq_left h, List.take_of_length_le (by rw [List.length_drop]; omega)]
  · rw [Nat.min_eq_right h, List.drop_of_length_le (Nat.le_refl _), List.drop_of_length_le h, List.take_nil]
def nearL : List (List Nat) := [[116, 104, 105], [116, 104, 105, 110, 115], [116, 104, 105, 110, 120], [115, 112, 97, 114], [115, 112, 97, 114, 101, 115], [98, 97, 115], [98, 97, 115, 101, 115], [98, 97, 115, 101, 97], [104, 105, 110], [97, 98, 97, 115, 101], [97, 116, 104, 105, 110], [101]]
theorem near_is : (["thi", "thins", "thinx", "spar", "spares", "bas", "bases", "basea", "hin", "abase", "athin", "e"] : List Str) = nearL.map S := by decide +kernel
theorem near_word : ∀ n ∈ nearL, (1 ≤ n.length ∧ n.length ≤ 8) ∧ ∀ c ∈ n, c < 1000 := by decide +kernel
theorem letters_ok : ∀ c ∈ letters, c < 1000 := by decide +kernel
theorem near_at {j : Int} (h0 : 0 ≤ j) (h : j < 12) : ∃ n, atI [V.str "thi", V.str "thins", V.str "thinx", V.str "spar", V.str "spares", V.str "bas", V.str "bases", V.str "basea", V.str "hin", V.str "abase", V.str "athin", V.str "e"] j = some (.str (S n)) ∧ Nm n := by
  have hl : j.toNat < nearL.length := by show j.toNat < 12; omega
  refine ⟨nearL[j.toNat], at_pos h0 ?_, near_word _ (List.getElem_mem hl)⟩
  show ((["thi", "thins", "thinx", "spar", "spares", "bas", "bases", "basea", "hin", "abase", "athin", "e"] : List Str).map V.str)[j.toNat]? = _
  rw [near_is, List.getElem?_map, List.getElem?_map, List.getElem?_eq_getElem hl]
  rfl
theorem letter_at {j : Int} (h0 : 0 ≤ j) (h : j < 26) : ∃ c, atI (S letters).cps.toList j = some c ∧ c < 1000 := by
  have hl : j.toNat < letters.length := by show j.toNat < 26; omega
  exact ⟨letters[j.toNat], at_pos h0 (List.getElem?_eq_getElem hl), letters_ok _ (List.getElem_mem hl)⟩
theorem join_signs : ∀ cs : List Nat, PySem.Txt.join (S []) (cs.map fun c => S [c]) = S cs := by
  have go : ∀ cs : List Nat, TL.joinL [] (cs.map fun c => [c]) = cs := fun cs => by
    induction cs with
    | nil => rfl
    | cons c cs ih =>
      cases cs with
      | nil => rfl
      | cons d ds => exact congrArg (fun z => c :: z) ih
  intro cs
  rw [TL.join_eq]
  refine TL.ext_tl ?_
  rw [TL.tl_join]
  have e : (cs.map fun c => S [c]).map TL.tl = cs.map fun c => [c] := by rw [List.map_map]; rfl
  rw [e]
  exact go cs
def nameSizes : List Int := [8, 12, 26, 26, 26, 26, 26, 26, 26, 26]
theorem nm_flat (ts : List (List Nat)) : (nmV ts).all flatV = true := by
  unfold nmV
  rw [List.all_eq_true]
  intro x hx
  obtain ⟨n, _, rfl⟩ := List.mem_map.mp hx
  rfl
def spName : Sp := fun vs H Q _ => ∃ (r t : Addr) (ds zs : List Int) (ts : List (List Nat)), vs = [.ref r, .ref t] ∧ H r = some (.lst (ds.map V.int)) ∧ Dig ds zs ∧ zs.take 10 = nameSizes ∧ H t = some (.lst (nmV ts)) ∧ (∀ n ∈ ts, Nm n) ∧ ts.length ≤ 1000 ∧ ∀ n H', Same H H' → Nm n → Q (.str (S n)) H'
abbrev s__law_name : Stmt := top 33
abbrev N__law_name : List Str := ["row", "taken", "letters", "near", "name", "mate", "place", "turn", "k"]
theorem sc__law_name : FnScope N__law_name ["row", "taken"] (defScope s__law_name) := ⟨rfl, rfl, rfl, by decide +kernel, rfl, by decide +kernel, by decide +kernel⟩
section
variable {P : Program} {w : World} {K : PySem.W.Frag} {mg : Str → Option Value} {base : Heap} {f : Addr} {fd : FuncData}
theorem ok__law_name (F : Fun K "_law_name" "_law_name" s__law_name f fd) (T : Txt mg) : FnOk P w K mg base CX0 1 f fd ["row", "taken"] spName := by
  refine F.ok sc__law_name (fun vs H Q E h => ?_) (fun cdv A outer s H vs Q E hr h => ?_)
  · obtain ⟨r, t, ds, zs, ts, rfl, _⟩ := h
    rfl
  obtain ⟨r, t, ds, zs, ts, rfl, hrow, hd, hz, ht, hts, hts9, q⟩ := h
  refine ⟨_, (pss_cons (ps_set (i := 2) sc__law_name.nd rfl (Or.inr rfl) pe_str)
  (pss_cons (ps_set (i := 3) sc__law_name.nd rfl (Or.inl rfl) (pe_lst (pa_cons pe_str (pa_cons pe_str (pa_cons pe_str (pa_cons pe_str (pa_cons pe_str (pa_cons pe_str (pa_cons pe_str (pa_cons pe_str (pa_cons pe_str (pa_cons pe_str (pa_cons pe_str (pa_cons pe_str pa_nil))))))))))))))
  (pss_cons (ps_set (i := 4) sc__law_name.nd rfl (Or.inl rfl) (pe_join pe_str (pe_lc (own := [("k", 8)]) (g := gName 8) (tt := tYes) (by rfl) sc__law_name.nd (pi_range1 (by rfl) T.b_range (pa_cons (pe_op op_add pe_int (pe_ix ix_list (pv 0) pe_int (fun _ _ => rfl))) pa_nil)) (blkOk_by (N := N__law_name) (sc := defScope s__law_name) (by decide +kernel)) (fun _ _ _ _ _ => (pg_name (i := 8) sc__law_name.nd rfl (Or.inl rfl))) (fun _ _ _ _ _ => pts_nil) (fun _ _ _ _ _ => (pe_ix ix_str (pv 2) (pe_ix (ix_listK (K := K) rfl) (pv 0) (pe_op op_add pe_int (pv 8)) (fun _ _ => rfl)) (fun _ _ => rfl))))))
  (C8.pss_cut (ps_if (pt_cmpR op_ge (pe_ix ix_list (pv 0) pe_int (fun _ _ => rfl)) pe_int (nomark _)) (pss_one (ps_set (i := 4) sc__law_name.nd rfl (Or.inl rfl) (pe_ix ix_list (pv 3) (pe_op op_mod (pe_callTy call_int1 (by rfl) T.b_int (by decide +kernel) (pa_cons (pe_ix ix_list (pv 0) pe_int (fun _ _ => rfl)) pa_nil)) pe_int) (fun _ _ => rfl)))) pss_nil)
  (C8.pss_cut (ps_if (PW.pt (pw_and (pt_chain op_le op_lt pe_int (pe_ix ix_list (pv 0) pe_int (fun _ _ => rfl)) pe_int) (pw_and1 (pt_cmpR op_gt (pe_callB call_len_seq (by rfl) T.b_len PySem.boot_len (pa_cons (pv 1) pa_nil)) pe_int (nomark _))))) (pss_cons (ps_set (i := 5) sc__law_name.nd rfl (Or.inl rfl) (pe_ix ix_list (pv 1) (pe_op op_mod (pe_callTy call_int1 (by rfl) T.b_int (by decide +kernel) (pa_cons (pe_ix ix_list (pv 0) pe_int (fun _ _ => rfl)) pa_nil)) (pe_callB call_len_seq (by rfl) T.b_len PySem.boot_len (pa_cons (pv 1) pa_nil))) (fun _ _ => rfl)))
  (pss_cons (ps_set (i := 6) sc__law_name.nd rfl (Or.inl rfl) (pe_op op_mod (pe_callTy call_int1 (by rfl) T.b_int (by decide +kernel) (pa_cons (pe_ix ix_list (pv 0) pe_int (fun _ _ => rfl)) pa_nil)) (pe_callB call_len_str (by rfl) T.b_len PySem.boot_len (pa_cons (pv 5) pa_nil))))
  (C8.pss_cut (ps_if (pt_cmpR op_eq (pe_ix ix_list (pv 0) pe_int (fun _ _ => rfl)) pe_int (nomark _)) (pss_one (ps_set (i := 4) sc__law_name.nd rfl (Or.inl rfl) (pe_slice sl_str (pe_op op_add_str (pv 5) (pe_ix ix_str (pv 2) (pe_ix ix_list (pv 0) pe_int (fun _ _ => rfl)) (fun _ _ => rfl))) po_none (po_some pe_int)))) pss_nil)
  (C8.pss_cut (ps_if (PW.pt (pw_and (pt_cmpR op_eq (pe_ix ix_list (pv 0) pe_int (fun _ _ => rfl)) pe_int (nomark _)) (pw_and1 (pt_cmpR op_gt (pe_callB call_len_str (by rfl) T.b_len PySem.boot_len (pa_cons (pv 5) pa_nil)) pe_int (nomark _))))) (pss_one (ps_set (i := 4) sc__law_name.nd rfl (Or.inl rfl) (pe_slice sl_str (pv 5) po_none (po_some (pe_op op_sub (pe_callB call_len_str (by rfl) T.b_len PySem.boot_len (pa_cons (pv 5) pa_nil)) pe_int))))) pss_nil)
  (pss_one (ps_if (pt_cmpR op_eq (pe_ix ix_list (pv 0) pe_int (fun _ _ => rfl)) pe_int (nomark _)) (pss_one (ps_set (i := 4) sc__law_name.nd rfl (Or.inl rfl) (pe_op op_add_str (pe_op op_add_str (pe_slice sl_str (pv 5) po_none (po_some (pv 6))) (pe_ix ix_str (pv 2) (pe_ix ix_list (pv 0) pe_int (fun _ _ => rfl)) (fun _ _ => rfl))) (pe_slice sl_str (pv 5) (po_some (pe_op op_add (pv 6) pe_int)) po_none)))) pss_nil)))))) pss_nil)
  (pss_cons (ps_for PassesOwn.never rfl (pi_range1 (by rfl) T.b_range (pa_cons pe_int pa_nil)) (pg_name (i := 7) sc__law_name.nd rfl (Or.inl rfl)) (pss_one (ps_if (PW.pt (pw_or (pt_cmpR op_in_seq (pv 4) (pv 1) (by rfl)) (pw_or1 (pt_cmpR op_in_seq (pv 4) (pe_lst (pa_cons pe_str (pa_cons pe_str (pa_cons pe_str pa_nil)))) (by rfl))))) (pss_one (ps_set (i := 4) sc__law_name.nd rfl (Or.inl rfl) (pe_ix ix_str (pv 2) (pe_op op_mod (pe_callTy call_int1 (by rfl) T.b_int (by decide +kernel) (pa_cons (pe_op op_add (pe_ix ix_list (pv 0) pe_int (fun _ _ => rfl)) (pv 7)) pa_nil)) pe_int) (fun _ _ => rfl)))) pss_nil)))
  (pss_one (ps_ret (pv 4))))))))), ?_⟩
  have dig : ∀ (i : Nat) (z : Int), nameSizes[i]? = some z → ∃ n, (ds.map V.int)[i]? = some (.int n) ∧ 0 ≤ n ∧ n < z := fun i z h => by
    have h' : zs[i]? = some z := by
      rw [← hz, List.getElem?_take] at h
      split at h
      · exact h
      · cases h
    obtain ⟨n, h1, h2, h3⟩ := hd.get h'
    exact ⟨n, int_at h1, h2, h3⟩
  obtain ⟨d0, e0, a0, b0⟩ := dig 0 8 rfl
  obtain ⟨d1, e1, a1, b1⟩ := dig 1 12 rfl
  obtain ⟨d2, e2, a2, b2⟩ := dig 2 26 rfl
  obtain ⟨d3, e3, a3, b3⟩ := dig 3 26 rfl
  obtain ⟨d4, e4, a4, b4⟩ := dig 4 26 rfl
  refine ⟨line_ge (by show 12 ≤ _; omega), fun pn hpn => ?_⟩
  have g1 := same_new hpn (.lst [V.str "thi", V.str "thins", V.str "thinx", V.str "spar", V.str "spares", V.str "bas", V.str "bases", V.str "basea", V.str "hin", V.str "abase", V.str "athin", V.str "e"])
  refine ⟨⟨_, rfl⟩, ?_⟩
  refine ⟨_, rfl, r, _, 0, _, rfl, rfl, SqL.of (g1 _ _ hrow), at_pos (by decide) e0, _, _, rfl, rfl, 1 + d0, rfl, by omega, by omega, fun D hD => ?_⟩
  have hn0 : (1 + d0).toNat ≤ 8 := by omega
  refine lc_range (lo := 0) (n := (1 + d0).toNat) (fun i H' => ∃ cs : List Nat, cs.length = i ∧ (∀ c ∈ cs, c < 1000) ∧ Same (upd H pn (.lst [V.str "thi", V.str "thins", V.str "thinx", V.str "spar", V.str "spares", V.str "bas", V.str "bases", V.str "basea", V.str "hin", V.str "abase", V.str "athin", V.str "e"])) H' ∧ H' D = some (.lst (cs.map fun c => V.str (S [c]))))
    ⟨[], rfl, (fun c hc => nomatch hc), same_new hD _, upd_same⟩ ?_ ?_
  · rintro i H1 hlt ⟨cs, hcs, hall, g2, hd1⟩
    refine ⟨rfl, lc_yes ?_⟩
    obtain ⟨d, ed, ad, bd⟩ := dig (2 + i) 26 (by
      have : i < 8 := by omega
      match i, this with
      | 0, _ => rfl
      | 1, _ => rfl
      | 2, _ => rfl
      | 3, _ => rfl
      | 4, _ => rfl
      | 5, _ => rfl
      | 6, _ => rfl
      | 7, _ => rfl)
    obtain ⟨c, hc, hlc⟩ := letter_at ad bd
    refine ⟨_, rfl, _, rfl, _, rfl, _, _, rfl, rfl, r, _, _, _, rfl, rfl, SqL.of (g2 _ _ (g1 _ _ hrow)), at_pos (by omega) (by rw [show ((2 : Int) + (0 + (i : Nat))).toNat = 2 + i by omega]; exact ed), ?_⟩
    refine ⟨_, d, c, rfl, rfl, line_ge (by rw [lit_letters]; decide), by rw [lit_letters]; exact hc, ?_⟩
    refine ⟨_, hd1, by rw [List.length_map]; exact small1000 (by omega), cs ++ [c], by rw [List.length_append, hcs]; rfl, mem_app hall (mem_one hlc), same_at g2 hD, ?_⟩
    rw [upd_same, List.map_append]
    rfl
  rintro H1 ⟨cs, hcs, hall, g2, hd1⟩
  have hlen : ((cs.map fun c => S [c]).map (·.length)).sum + (cs.map fun c => S [c]).length * (S []).length ≤ 16777216 := by
    have h1 : (S []).length = 0 := rfl
    have h2 : ∀ cs : List Nat, ((cs.map fun c => S [c]).map (·.length)).sum = cs.length := fun cs => by
      induction cs with
      | nil => rfl
      | cons c cs ih =>
        rw [List.map_cons, List.map_cons, List.sum_cons, ih, List.length_cons]
        show 1 + cs.length = cs.length + 1
        omega
    rw [h1, h2, hcs]
    omega
  have hlist : (cs.map fun c => V.str (S [c])) = ((cs.map fun c => S [c])).map V.str := by rw [List.map_map]; rfl
  refine ⟨S [], D, cs.map fun c => S [c], congrArg V.str lit_empty, rfl, .inl (SqL.of (by rw [hd1, hlist])), hlen, ?_⟩
  rw [join_signs]
  have hw0 : Nm cs := ⟨⟨by omega, by omega⟩, hall⟩
  have g3 : Same H H1 := g1.trans g2
  have hn1 := g2 _ _ (upd_same (H := H) (a := pn) (o := .lst [V.str "thi", V.str "thins", V.str "thinx", V.str "spar", V.str "spares", V.str "bas", V.str "bases", V.str "basea", V.str "hin", V.str "abase", V.str "athin", V.str "e"]))
  have hrow1 := g3 _ _ hrow
  have ht1 := g3 _ _ ht
  refine ⟨fun σ H' => ∃ n, σ = [some (.ref r), some (.ref t), some (.str "abcdefghijklmnopqrstuvwxyz"), some (.ref pn), some (.str (S n)), none, none, none, none] ∧ Nm n ∧ H' = H1, ?_, ?_⟩
  · refine ⟨_, rfl, r, _, 1, _, rfl, rfl, SqL.of hrow1, at_pos (by decide) e1, _, _, rfl, rfl, _, rfl, ?_⟩
    refine ite2 (fun _ => ?_) (fun _ => ?_)
    · obtain ⟨n, hn, hw⟩ := near_at (j := d2 % 12) (Int.emod_nonneg _ (by decide)) (Int.emod_lt_of_pos _ (by decide))
      refine ⟨_, rfl, _, rfl, r, _, 2, _, rfl, rfl, SqL.of hrow1, at_pos (by decide) e2, .inl ⟨_, rfl, _, _, rfl, rfl, (by show (0 : Int) < 12; decide), pn, _, _, _, rfl, rfl, SqL.of hn1, hn, ?_⟩⟩
      exact ⟨n, rfl, hw, rfl⟩
    · exact ⟨cs, rfl, hw0, rfl⟩
  rintro σ H2 ⟨n, rfl, hw, rfl⟩
  refine ⟨fun σ H' => ∃ n v5 v6, σ = [some (.ref r), some (.ref t), some (.str "abcdefghijklmnopqrstuvwxyz"), some (.ref pn), some (.str (S n)), v5, v6, none, none] ∧ Nm n ∧ H' = H2, ?_, ?_⟩
  · refine ⟨_, rfl, r, _, 1, _, rfl, rfl, SqL.of hrow1, at_pos (by decide) e1, _, _, rfl, rfl, _, rfl, ?_⟩
    refine ite2 (fun _ => ?_) (fun _ => ?_)
    · refine ⟨_, _, rfl, rfl, _, rfl, ?_⟩
      refine ite2 (fun _ => ?_) (fun _ => ?_)
      · refine ⟨_, rfl, t, _, rfl, .inl (SqL.of ht1), _, _, rfl, rfl, _, rfl, ?_⟩
        refine ite2 (fun c => ?_) (fun _ => ⟨n, none, none, rfl, hw, rfl⟩)
        have c1 : (0 : Int) < (((nmV ts).length : Nat) : Int) := dec_lt c
        have hlts : (nmV ts).length = ts.length := List.length_map ..
        rw [hlts] at c1
        have j0 : 0 ≤ d2 % (ts.length : Int) := Int.emod_nonneg _ (by omega)
        have j1 : d2 % (ts.length : Int) < ts.length := Int.emod_lt_of_pos _ c1
        obtain ⟨m, hm⟩ : ∃ m, ts[(d2 % (ts.length : Int)).toNat]? = some m := ⟨ts[(d2 % (ts.length : Int)).toNat]'(by omega), List.getElem?_eq_getElem _⟩
        obtain ⟨⟨m1, m8⟩, mc⟩ := hts m (List.mem_of_getElem? hm)
        have hmv : (nmV ts)[(d2 % (ts.length : Int)).toNat]? = some (.str (S m)) := by
          unfold nmV
          rw [List.getElem?_map, hm]
          rfl
        have hml : ((S m).length : Nat) = m.length := slen m
        refine ⟨_, rfl, _, rfl, r, _, 2, _, rfl, rfl, SqL.of hrow1, at_pos (by decide) e2, .inl ⟨_, rfl, _, rfl, t, _, rfl, .inl (SqL.of ht1), _, _, rfl, rfl, by rw [hlts]; exact c1, ?_⟩⟩
        rw [hlts]
        refine ⟨t, _, _, _, rfl, rfl, SqL.of ht1, at_pos j0 hmv, ?_⟩
        refine ⟨_, rfl, r, _, 4, _, rfl, rfl, SqL.of hrow1, at_pos (by decide) e4, .inl ⟨_, rfl, _, rfl, _, rfl, sline (by omega), _, _, rfl, rfl, by rw [hml]; omega, ?_⟩⟩
        rw [hml]
        have p0 : 0 ≤ d4 % (m.length : Int) := Int.emod_nonneg _ (by omega)
        have p1 : d4 % (m.length : Int) < m.length := Int.emod_lt_of_pos _ (by omega)
        obtain ⟨c3, hc3, hl3⟩ := letter_at a3 b3
        refine ⟨fun σ H' => ∃ n, σ = [some (.ref r), some (.ref t), some (.str "abcdefghijklmnopqrstuvwxyz"), some (.ref pn), some (.str (S n)), some (.str (S m)), some (.int (d4 % (m.length : Int))), none, none] ∧ Nm n ∧ H' = H2, ?_, ?_⟩
        · refine ⟨_, rfl, r, _, 1, _, rfl, rfl, SqL.of hrow1, at_pos (by decide) e1, rfl, _, rfl, ?_⟩
          refine ite2 (fun _ => ?_) (fun _ => ⟨n, rfl, hw, rfl⟩)
          refine ⟨_, rfl, _, rfl, _, rfl, r, _, 3, _, rfl, rfl, SqL.of hrow1, at_pos (by decide) e3, _, d3, c3, rfl, rfl, line_ge (by rw [lit_letters]; decide), by rw [lit_letters]; exact hc3, ?_⟩
          refine ⟨_, _, rfl, rfl, line_ge (by rw [slen]; show m.length + 1 ≤ _; omega), _, rfl, _, rfl, by rw [S_cat]; exact sline (by rw [List.length_append, List.length_singleton]; omega), ?_⟩
          rw [S_cat, cut_to _ (by decide)]
          exact ⟨_, rfl, ⟨⟨by rw [List.length_take, List.length_append, List.length_singleton]; show 1 ≤ min 8 _; omega, by rw [List.length_take]; show min 8 _ ≤ 8; omega⟩, fun c hc => mem_app mc (mem_one hl3) c (List.mem_of_mem_take hc)⟩, rfl⟩
        rintro σ H3 ⟨n, rfl, hw, rfl⟩
        refine ⟨fun σ H' => ∃ n, σ = [some (.ref r), some (.ref t), some (.str "abcdefghijklmnopqrstuvwxyz"), some (.ref pn), some (.str (S n)), some (.str (S m)), some (.int (d4 % (m.length : Int))), none, none] ∧ Nm n ∧ H' = H3, ?_, ?_⟩
        · refine ⟨_, rfl, r, _, 1, _, rfl, rfl, SqL.of hrow1, at_pos (by decide) e1, rfl, _, rfl, ?_⟩
          refine ite2 (fun _ => ?_) (fun _ => ⟨n, rfl, hw, rfl⟩)
          refine ⟨_, rfl, _, rfl, sline (by omega), _, _, rfl, rfl, _, rfl, ?_⟩
          refine ite2 (fun c => ?_) (fun _ => ⟨n, rfl, hw, rfl⟩)
          have c2 := dec_lt c
          rw [hml] at c2
          refine ⟨_, rfl, _, rfl, _, rfl, sline (by omega), _, _, rfl, rfl, _, rfl, _, rfl, sline (by omega), ?_⟩
          rw [hml, cut_to _ (by omega)]
          exact ⟨_, rfl, ⟨⟨by rw [List.length_take]; omega, by rw [List.length_take]; omega⟩, fun c hc => mc c (List.mem_of_mem_take hc)⟩, rfl⟩
        rintro σ H4 ⟨n, rfl, hw, rfl⟩
        refine ⟨_, rfl, r, _, 1, _, rfl, rfl, SqL.of hrow1, at_pos (by decide) e1, rfl, _, rfl, ?_⟩
        refine ite2 (fun _ => ?_) (fun _ => ⟨n, _, _, rfl, hw, rfl⟩)
        refine ⟨_, rfl, _, rfl, _, rfl, _, rfl, sline (by omega), _, rfl, _, rfl, r, _, 3, _, rfl, rfl, SqL.of hrow1, at_pos (by decide) e3, _, d3, c3, rfl, rfl, line_ge (by rw [lit_letters]; decide), by rw [lit_letters]; exact hc3, ?_⟩
        rw [cut_to _ p0]
        refine ⟨_, _, rfl, rfl, line_ge (by rw [slen, List.length_take]; show _ + 1 ≤ _; omega), _, rfl, _, rfl, _, _, rfl, rfl, _, rfl, _, rfl, sline (by omega), ?_⟩
        rw [cut_from _ (by omega), S_cat]
        refine ⟨_, _, rfl, rfl, line_ge (by rw [slen, slen, List.length_append, List.length_take, List.length_drop, List.length_singleton]; omega), ?_⟩
        rw [S_cat]
        exact ⟨_, _, _, rfl, ⟨⟨by rw [List.length_append, List.length_append, List.length_take, List.length_drop, List.length_singleton]; omega, by rw [List.length_append, List.length_append, List.length_take, List.length_drop, List.length_singleton]; omega⟩, mem_app (mem_app (fun c hc => mc c (List.mem_of_mem_take hc)) (mem_one hl3)) (fun c hc => mc c (List.mem_of_mem_drop hc))⟩, rfl⟩
      · exact ⟨n, none, none, rfl, hw, rfl⟩
    · exact ⟨_, rfl, ifF rfl ⟨n, none, none, rfl, hw, rfl⟩⟩
  rintro σ H3 ⟨n, v5, v6, rfl, hw, rfl⟩
  refine ⟨26, rfl, by decide, by decide, for_range (lo := 0) (n := 26)
    (fun i σ H' => ∃ (n : List Nat) (v : Option V), σ = [some (.ref r), some (.ref t), some (.str "abcdefghijklmnopqrstuvwxyz"), some (.ref pn), some (.str (S n)), v5, v6, v, none] ∧ Nm n ∧ Same H3 H')
    ⟨n, none, rfl, hw, Same.refl _⟩ ?_ ?_⟩
  · rintro i σ H4 hi ⟨m, v, rfl, hm, g4⟩
    obtain ⟨x, hx, hlx⟩ := letter_at (j := (d2 + (0 + (i : Nat))) % 26) (Int.emod_nonneg _ (by decide)) (Int.emod_lt_of_pos _ (by decide))
    refine ⟨_, rfl, _, rfl, t, nmV ts, rfl, .inl (SqL.of (g4 _ _ ht1)), rfl, nm_flat ts, _, rfl, ?_⟩
    refine ite2 (fun _ => ?_) (fun _ => ?_)
    · refine ⟨_, rfl, _, rfl, r, _, 2, _, rfl, rfl, SqL.of (g4 _ _ hrow1), at_pos (by decide) e2, _, rfl, _, _, rfl, rfl, .inl ⟨_, rfl, _, _, rfl, rfl, (by show (0 : Int) < 26; decide), ?_⟩⟩
      refine ⟨_, _, x, rfl, rfl, line_ge (by rw [lit_letters]; decide), by rw [lit_letters]; exact hx, ?_⟩
      exact ⟨[x], _, rfl, ⟨⟨Nat.le_refl 1, by show 1 ≤ 8; decide⟩, mem_one hlx⟩, g4⟩
    refine ⟨_, rfl, three_line, fun z hz => ?_⟩
    have g5 := g4.trans (same_new hz (.lst [V.str "thin", V.str "spare", V.str "base"]))
    refine ⟨z, _, rfl, .inl (SqL.of upd_same), rfl, rfl, _, rfl, ?_⟩
    refine ite2 (fun _ => ?_) (fun _ => ?_)
    · refine ⟨_, rfl, _, rfl, r, _, 2, _, rfl, rfl, SqL.of (g5 _ _ hrow1), at_pos (by decide) e2, _, rfl, _, _, rfl, rfl, .inl ⟨_, rfl, _, _, rfl, rfl, (by show (0 : Int) < 26; decide), ?_⟩⟩
      refine ⟨_, _, x, rfl, rfl, line_ge (by rw [lit_letters]; decide), by rw [lit_letters]; exact hx, ?_⟩
      exact ⟨[x], _, rfl, ⟨⟨Nat.le_refl 1, by show 1 ≤ 8; decide⟩, mem_one hlx⟩, g5⟩
    · exact ⟨m, _, rfl, hm, g5⟩
  · rintro σ H4 ⟨m, v, rfl, hm, g4⟩
    exact ⟨_, rfl, q m H4 (g3.trans g4) hm⟩
end
end P62
namespace P62
open PySem PySem.Spec PyProof.Rows L2 SX EX
def cntSizes : List Int := [8, 12, 26, 26, 26, 26, 26, 26, 26, 26, 11, 12, 121, 10 ^ 60, 10 ^ 60]
section
variable {P : Program} {w : World} {K : PySem.W.Frag} {mg : Str → Option Value} {base : Heap} {f : Addr} {fd : FuncData}
def spCount : Sp := fun vs H Q _ => ∃ (r : Addr) (size : Int) (ds : List Int), vs = [.ref r, .int size] ∧ H r = some (.lst (ds.map V.int)) ∧ Dig ds cntSizes ∧ 0 ≤ size ∧ size ≤ 10 ∧ ∀ c H', Same H H' → 0 ≤ c → B 402 c → Q (.int c) H'
theorem ten60 : (10 : Int) ^ 60 < 2 ^ 200 := by decide +kernel
theorem ten110 : (10 : Int) ^ 60 * 10 ^ 50 < 2 ^ 366 := by decide +kernel
theorem B_of {n : Nat} {x y : Int} (h0 : 0 ≤ x) (h : x ≤ y) (hy : y < 2 ^ n) : B n x := by
  have e : ((2 ^ n : Nat) : Int) = (2 : Int) ^ n := by
    rw [Int.natCast_pow]
    rfl
  show x.natAbs < 2 ^ n
  have h1 : ((x.natAbs : Nat) : Int) < ((2 ^ n : Nat) : Int) := by
    rw [e, Int.natAbs_of_nonneg h0]
    omega
  exact Int.ofNat_lt.mp h1
theorem B_tiny {x : Int} (h0 : 0 ≤ x) (h : x < 65536) : B 402 x := B.mono (m := 16) (by show x.natAbs < 65536; omega) (by decide)
theorem B_add {n : Nat} {x y : Int} (h0 : 0 ≤ x) (h1 : 0 ≤ y) (hx : B n x) (hy : B n y) : B (n + 1) (x + y) := by
  have h1 : x.natAbs < 2 ^ n := hx
  have h2 : y.natAbs < 2 ^ n := hy
  show (x + y).natAbs < 2 ^ (n + 1)
  rw [Nat.pow_succ]
  omega
abbrev s__law_count : Stmt := top 34
abbrev N__law_count : List Str := ["row", "size", "around"]
theorem sc__law_count : FnScope N__law_count ["row", "size"] (defScope s__law_count) := ⟨rfl, rfl, rfl, by decide +kernel, rfl, by decide +kernel, by decide +kernel⟩
theorem pow_at {j : Int} (h0 : 0 ≤ j) (h : j < 4) : ∃ z : Int, atI [V.int (10 ^ (9 : Int).toNat), V.int (10 ^ (18 : Int).toNat), V.int (10 ^ (40 : Int).toNat), V.int (10 ^ (60 : Int).toNat * 10 ^ (50 : Int).toNat)] j = some (.int z) ∧ 0 ≤ z ∧ z ≤ 10 ^ 60 * 10 ^ 50 := by
  have : j = 0 ∨ j = 1 ∨ j = 2 ∨ j = 3 := by omega
  rcases this with rfl | rfl | rfl | rfl
  · exact ⟨_, at_pos (by decide) rfl, by decide +kernel, by decide +kernel⟩
  · exact ⟨_, at_pos (by decide) rfl, by decide +kernel, by decide +kernel⟩
  · exact ⟨_, at_pos (by decide) rfl, by decide +kernel, by decide +kernel⟩
  · exact ⟨_, at_pos (by decide) rfl, by decide +kernel, by decide +kernel⟩
theorem sq_small {s : Int} (h0 : 0 ≤ s) (h : s ≤ 10) : 0 ≤ s * (s + 1) / 2 ∧ s * (s + 1) / 2 ≤ 55 := by
  have : s = 0 ∨ s = 1 ∨ s = 2 ∨ s = 3 ∨ s = 4 ∨ s = 5 ∨ s = 6 ∨ s = 7 ∨ s = 8 ∨ s = 9 ∨ s = 10 := by omega
  rcases this with rfl | rfl | rfl | rfl | rfl | rfl | rfl | rfl | rfl | rfl | rfl <;> decide
theorem around_at {s j : Int} (h0 : 0 ≤ s) (h : s ≤ 10) (j0 : 0 ≤ j) (j7 : j < 7) : ∃ z : Int, atI [V.int s, V.int (s + 1), V.int (4 * s), V.int (4 * s + 1), V.int (9 * s - 1), V.int (s * (s + 1) / 2), V.int (s * (s + 1) / 2 + 1)] j = some (.int z) ∧ z < 1000 := by
  have q := sq_small h0 h
  have : j = 0 ∨ j = 1 ∨ j = 2 ∨ j = 3 ∨ j = 4 ∨ j = 5 ∨ j = 6 := by omega
  rcases this with rfl | rfl | rfl | rfl | rfl | rfl | rfl
  all_goals exact ⟨_, at_pos (by decide) rfl, by omega⟩
theorem ok__law_count (F : Fun K "_law_count" "_law_count" s__law_count f fd) (T : Txt mg) : FnOk P w K mg base CX0 1 f fd ["row", "size"] spCount := by
  refine F.ok sc__law_count (fun vs H Q E h => ?_) (fun cdv A outer s H vs Q E hr h => ?_)
  · obtain ⟨r, size, ds, rfl, _⟩ := h
    rfl
  obtain ⟨r, size, ds, rfl, hrow, hd, s0, s10, q⟩ := h
  refine ⟨_, (pss_cons (ps_set (i := 2) sc__law_count.nd rfl (Or.inl rfl) (pe_lst (pa_cons (pv 1) (pa_cons (pe_op op_add (pv 1) pe_int) (pa_cons (pe_op op_mul pe_int (pv 1)) (pa_cons (pe_op op_add (pe_op op_mul pe_int (pv 1)) pe_int) (pa_cons (pe_op op_sub (pe_op op_mul pe_int (pv 1)) pe_int) (pa_cons (pe_op op_fdiv (pe_op op_mul (pv 1) (pe_op op_add (pv 1) pe_int)) pe_int) (pa_cons (pe_op op_add (pe_op op_fdiv (pe_op op_mul (pv 1) (pe_op op_add (pv 1) pe_int)) pe_int) pe_int) pa_nil)))))))))
  (pss_cons (ps_if (pt_cmpR op_lt (pe_ix ix_list (pv 0) pe_int (fun _ _ => rfl)) pe_int (nomark _)) (pss_one (ps_ret (pe_ix ix_list (pv 0) pe_int (fun _ _ => rfl)))) pss_nil)
  (pss_cons (ps_if (pt_cmpR op_lt (pe_ix ix_list (pv 0) pe_int (fun _ _ => rfl)) pe_int (nomark _)) (pss_one (ps_ret (pe_ix ix_list (pv 0) pe_int (fun _ _ => rfl)))) pss_nil)
  (pss_cons (ps_if (pt_cmpR op_eq (pe_ix ix_list (pv 0) pe_int (fun _ _ => rfl)) pe_int (nomark _)) (pss_one (ps_ret (pe_op op_add (pe_ix ix_list (pv 0) pe_int (fun _ _ => rfl)) (pe_op op_mulW (pe_op op_pow pe_int pe_int) (pe_ix ix_list (pv 0) pe_int (fun _ _ => rfl)))))) pss_nil)
  (pss_cons (ps_if (pt_cmpR op_eq (pe_ix ix_list (pv 0) pe_int (fun _ _ => rfl)) pe_int (nomark _)) (pss_one (ps_ret (pe_op op_add (pe_op op_mul (pe_op op_add pe_int (pe_ix ix_list (pv 0) pe_int (fun _ _ => rfl))) (pe_ix ix_list (pe_lst (pa_cons (pe_op op_pow pe_int pe_int) (pa_cons (pe_op op_pow pe_int pe_int) (pa_cons (pe_op op_pow pe_int pe_int) (pa_cons (pe_op op_mulW (pe_op op_pow pe_int pe_int) (pe_op op_pow pe_int pe_int)) pa_nil))))) (pe_op op_mod (pe_callTy call_int1 (by rfl) T.b_int (by decide +kernel) (pa_cons (pe_ix ix_list (pv 0) pe_int (fun _ _ => rfl)) pa_nil)) pe_int) (fun _ _ => rfl))) (pe_ix ix_list (pv 0) pe_int (fun _ _ => rfl))))) pss_nil)
  (pss_one (ps_ret (pe_callB (call_max2 rfl) (by rfl) T.b_max (by decide +kernel) (pa_cons pe_int (pa_cons (pe_ix ix_list (pv 2) (pe_op op_mod (pe_callTy call_int1 (by rfl) T.b_int (by decide +kernel) (pa_cons (pe_ix ix_list (pv 0) pe_int (fun _ _ => rfl)) pa_nil)) pe_int) (fun _ _ => rfl)) pa_nil)))))))))), ?_⟩
  have dig : ∀ (i : Nat) (z : Int), cntSizes[i]? = some z → ∃ n, (ds.map V.int)[i]? = some (.int n) ∧ 0 ≤ n ∧ n < z := fun i z h => by
    obtain ⟨n, h1, h2, h3⟩ := hd.get h
    exact ⟨n, int_at h1, h2, h3⟩
  obtain ⟨d10, e10, a10, b10⟩ := dig 10 11 rfl
  obtain ⟨d11, e11, a11, b11⟩ := dig 11 12 rfl
  obtain ⟨d12, e12, a12, b12⟩ := dig 12 121 rfl
  obtain ⟨d13, e13, a13, b13⟩ := dig 13 (10 ^ 60) rfl
  obtain ⟨d14, e14, a14, b14⟩ := dig 14 (10 ^ 60) rfl
  refine ⟨_, rfl, _, rfl, _, _, rfl, rfl, _, rfl, _, _, rfl, rfl, small_mul (by decide) (by decide), _, rfl, _, _, rfl, rfl, small_mul (by decide) (by decide), _, _, rfl, rfl, _, rfl, _, _, rfl, rfl, small_mul (by decide) (by decide), _, _, rfl, rfl, ?_⟩
  refine ⟨_, rfl, _, rfl, _, _, rfl, rfl, _, _, rfl, rfl, small_mul (by omega) (by omega), _, _, rfl, rfl, ⟨by decide, by decide⟩, _, rfl, _, rfl, _, _, rfl, rfl, _, _, rfl, rfl, small_mul (by omega) (by omega), _, _, rfl, rfl, ⟨by decide, by decide⟩, _, _, rfl, rfl, line_ge (by show 7 ≤ _; omega), fun p hp => ?_⟩
  have g1 := same_new hp (.lst [V.int size, V.int (size + 1), V.int (4 * size), V.int (4 * size + 1), V.int (9 * size - 1), V.int (size * (size + 1) / 2), V.int (size * (size + 1) / 2 + 1)])
  have har := upd_same (H := H) (a := p) (o := .lst [V.int size, V.int (size + 1), V.int (4 * size), V.int (4 * size + 1), V.int (9 * size - 1), V.int (size * (size + 1) / 2), V.int (size * (size + 1) / 2 + 1)])
  have hrow1 := g1 _ _ hrow
  refine ⟨_, rfl, r, _, 10, _, rfl, rfl, SqL.of hrow1, at_pos (by decide) e10, _, _, rfl, rfl, _, rfl, ?_⟩
  refine ite2 (fun _ => ?_) (fun _ => ?_)
  · exact ⟨_, rfl, r, _, 11, _, rfl, rfl, SqL.of hrow1, at_pos (by decide) e11, q d11 _ g1 a11 (B_tiny a11 (by omega))⟩
  refine ⟨_, rfl, r, _, 10, _, rfl, rfl, SqL.of hrow1, at_pos (by decide) e10, _, _, rfl, rfl, _, rfl, ?_⟩
  refine ite2 (fun _ => ?_) (fun _ => ?_)
  · exact ⟨_, rfl, r, _, 12, _, rfl, rfl, SqL.of hrow1, at_pos (by decide) e12, q d12 _ g1 a12 (B_tiny a12 (by omega))⟩
  refine ⟨_, rfl, r, _, 10, _, rfl, rfl, SqL.of hrow1, at_pos (by decide) e10, rfl, _, rfl, ?_⟩
  refine ite2 (fun _ => ?_) (fun _ => ?_)
  · have k1 : B 200 ((10 : Int) ^ (60 : Int).toNat) := B_of (by decide +kernel) (Int.le_refl _) ten60
    have k2 : B 200 d14 := B_of a14 (Int.le_of_lt b14) ten60
    have k3 : B 200 d13 := B_of a13 (Int.le_of_lt b13) ten60
    refine ⟨_, rfl, r, _, 13, _, rfl, rfl, SqL.of hrow1, at_pos (by decide) e13, _, _, rfl, rfl, ⟨by decide, by decide, by decide⟩, _, rfl, r, _, 14, _, rfl, rfl, SqL.of hrow1, at_pos (by decide) e14, _, _, rfl, rfl, wmul k1 k2 (by decide) (by decide) (by decide), _, _, rfl, rfl, ?_⟩
    have p0 : 0 ≤ (10 : Int) ^ (60 : Int).toNat * d14 := Int.mul_nonneg (by decide +kernel) a14
    exact q _ _ g1 (by omega) ((B_add (n := 400) a13 p0 (k3.mono (by decide)) ((k1.mul k2).mono (by decide))).mono (by decide))
  refine ⟨_, rfl, r, _, 10, _, rfl, rfl, SqL.of hrow1, at_pos (by decide) e10, rfl, _, rfl, ?_⟩
  refine ite2 (fun _ => ?_) (fun _ => ?_)
  · have k1 : B 200 ((10 : Int) ^ (60 : Int).toNat) := B_of (by decide +kernel) (Int.le_refl _) ten60
    have k2 : B 200 ((10 : Int) ^ (50 : Int).toNat) := B_of (by decide +kernel) (show (10 : Int) ^ 50 ≤ 10 ^ 60 by decide +kernel) ten60
    obtain ⟨z, hz, z0, z1⟩ := pow_at (j := d11 % 4) (Int.emod_nonneg _ (by decide)) (Int.emod_lt_of_pos _ (by decide))
    have kz : B 366 z := B_of z0 z1 ten110
    refine ⟨_, rfl, r, _, 12, _, rfl, rfl, SqL.of hrow1, at_pos (by decide) e12, _, _, rfl, rfl, ?_⟩
    refine ⟨_, _, rfl, rfl, ⟨by decide, by decide, by decide⟩, _, _, rfl, rfl, ⟨by decide, by decide, by decide⟩, _, _, rfl, rfl, ⟨by decide, by decide, by decide⟩, _, _, rfl, rfl, ⟨by decide, by decide, by decide⟩, _, _, rfl, rfl, ⟨by decide, by decide, by decide⟩, _, _, rfl, rfl, wmul k1 k2 (by decide) (by decide) (by decide), line_ge (by show 4 ≤ _; omega), fun p4 hp4 => ?_⟩
    have g2 := g1.trans (same_new hp4 (.lst [V.int (10 ^ (9 : Int).toNat), V.int (10 ^ (18 : Int).toNat), V.int (10 ^ (40 : Int).toNat), V.int (10 ^ (60 : Int).toNat * 10 ^ (50 : Int).toNat)]))
    have hrow2 := g2 _ _ hrow
    refine ⟨_, rfl, r, _, 11, _, rfl, rfl, SqL.of hrow2, at_pos (by decide) e11, .inl ⟨_, rfl, _, _, rfl, rfl, (by show (0 : Int) < 4; decide), p4, _, _, _, rfl, rfl, SqL.of upd_same, hz, ?_⟩⟩
    refine ⟨_, _, rfl, rfl, small_mul (by omega) (by omega), _, rfl, r, _, 11, _, rfl, rfl, SqL.of hrow2, at_pos (by decide) e11, _, _, rfl, rfl, ?_⟩
    have p0 : 0 ≤ (1 + d12) * z := Int.mul_nonneg (by omega) z0
    have k5 : B 30 (1 + d12) := by show (1 + d12).natAbs < 2 ^ 30; omega
    exact q _ _ g2 (by omega) ((B_add (n := 400) p0 a11 ((k5.mul kz).mono (by decide)) (B.mono (m := 16) (by show d11.natAbs < 65536; omega) (by decide))).mono (by decide))
  obtain ⟨z, hz, z1⟩ := around_at (j := d12 % 7) s0 s10 (Int.emod_nonneg _ (by decide)) (Int.emod_lt_of_pos _ (by decide))
  refine ⟨_, rfl, _, rfl, r, _, 12, _, rfl, rfl, SqL.of hrow1, at_pos (by decide) e12, .inl ⟨_, rfl, _, _, rfl, rfl, (by show (0 : Int) < 7; decide), p, _, _, _, rfl, rfl, SqL.of har, hz, ?_⟩⟩
  refine ⟨_, _, rfl, ?_⟩
  have m0 : 0 ≤ (if z > 0 then z else 0) ∧ (if z > 0 then z else 0) < 65536 := by
    split <;> omega
  exact q _ _ g1 m0.1 (B_tiny m0.1 m0.2)
end
end P62
namespace P62
open PySem PySem.Spec PyProof.Rows L2 SX EX
def growSizes : List Int := [10, 40, 999, 999, 9, 120]
/-- rows of digits -/
def RowsAt (H : Hp) (a : Addr) (as : List Addr) : Prop := H a = some (.lst (as.map V.ref)) ∧ ∀ b ∈ as, ∃ ds : List Int, H b = some (.lst (ds.map V.int)) ∧ Dig ds growSizes
theorem RowsAt.same {H H' : Hp} {a : Addr} {as : List Addr} (e : Same H H') (r : RowsAt H a as) : RowsAt H' a as := ⟨e _ _ r.1, fun b hb => let ⟨ds, h1, h2⟩ := r.2 b hb; ⟨ds, e _ _ h1, h2⟩⟩
def NmsAt (H : Hp) (a : Addr) (ts : List (List Nat)) : Prop := H a = some (.lst (nmV ts)) ∧ (∀ n ∈ ts, Nm n) ∧ 1 ≤ ts.length ∧ ts.length ≤ 1000
theorem NmsAt.same {H H' : Hp} {a : Addr} {ts : List (List Nat)} (e : Same H H') (h : NmsAt H a ts) : NmsAt H' a ts := ⟨e _ _ h.1, h.2⟩
def spGrow (n : Nat) : Sp := fun vs H Q _ => ∃ (a t : Addr) (as : List Addr) (ts : List (List Nat)) (at_ many deep mode : Int), vs = [.ref a, .int at_, .int many, .int deep, .ref t, .int mode] ∧ RowsAt H a as ∧ NmsAt H t ts ∧ 0 ≤ at_ ∧ at_ + many ≤ as.length ∧ at_ + 1 ≤ as.length ∧ deep ≤ n + 1 ∧
  ∀ pl p H', Same H H' → PlanAt H' pl p → pl.Good → (pl.height ≤ 1 ∨ (pl.height : Int) ≤ deep) → (pl.count ≤ 1 ∨ (pl.count : Int) ≤ many) → Q (.ref p) H'
def spGSub (n : Nat) : Sp := fun vs H Q E => ∃ m, n = m + 1 ∧ spGrow m vs H Q E
abbrev s__law_grow : Stmt := top 35
abbrev N__law_grow : List Str := ["rows", "at", "many", "deep", "names", "mode", "row", "share", "one", "two", "inner", "kind"]
theorem sc__law_grow : FnScope N__law_grow ["rows", "at", "many", "deep", "names", "mode"] (defScope s__law_grow) := ⟨rfl, rfl, rfl, by decide +kernel, rfl, by decide +kernel, by decide +kernel⟩
section
variable {P : Program} {w : World} {K : PySem.W.Frag} {mg : Str → Option Value} {base : Heap} {f : Addr} {fd : FuncData}
theorem ok__law_grow {n : Nat} (F : Fun K "_law_grow" "_law_grow" s__law_grow f fd) (T : Txt mg)
    (C__law_grow : Cal P w K mg base (n + 1) "_law_grow" ["rows", "at", "many", "deep", "names", "mode"] (spGSub n)) : FnOk P w K mg base CX0 (n + 2) f fd ["rows", "at", "many", "deep", "names", "mode"] (spGrow n) := by
  refine F.ok sc__law_grow (fun vs H Q E h => ?_) (fun cdv A outer s H vs Q E hr h => ?_)
  · obtain ⟨a, t, as, ts, at_, many, deep, mode, rfl, _⟩ := h
    rfl
  obtain ⟨a, t, as, ts, at_, many, deep, mode, rfl, hR, hN, h0, hm, hm1, hdeep, q⟩ := h
  refine ⟨_, (pss_cons (ps_set (i := 6) sc__law_grow.nd rfl (Or.inl rfl) (pe_ix ix_list (pv 0) (pv 1) (fun _ _ => rfl)))
  (pss_cons (ps_if (PW.pt (pw_or (pt_cmpR op_le (pv 2) pe_int (nomark _)) (pw_or1 (pt_cmpR op_le (pv 3) pe_int (nomark _))))) (pss_one (ps_ret (pe_tup (pa_cons pe_str (pa_cons (pe_ix ix_list (pv 4) (pe_op op_mod (pe_callTy call_int1 (by rfl) T.b_int (by decide +kernel) (pa_cons (pe_ix ix_list (pv 6) pe_int (fun _ _ => rfl)) pa_nil)) (pe_callB call_len_seq (by rfl) T.b_len PySem.boot_len (pa_cons (pv 4) pa_nil))) (fun _ _ => rfl)) pa_nil))))) pss_nil)
  (pss_cons (ps_if (PW.pt (pw_and (pt_cmpR op_ge (pv 2) pe_int (nomark _)) (pw_and1 (PW.pt (pw_or (pt_cmpR op_eq (pv 5) pe_int (nomark _)) (pw_or1 (PW.pt (pw_and (pt_cmpR op_eq (pv 5) pe_int (nomark _)) (pw_and1 (pt_cmpR op_lt (pe_ix ix_list (pv 6) pe_int (fun _ _ => rfl)) pe_int (nomark _))))))))))) (pss_cons (ps_set (i := 7) sc__law_grow.nd rfl (Or.inl rfl) (pe_op op_add pe_int (pe_op op_mod (pe_callTy call_int1 (by rfl) T.b_int (by decide +kernel) (pa_cons (pe_ix ix_list (pv 6) pe_int (fun _ _ => rfl)) pa_nil)) (pe_op op_sub (pv 2) pe_int))))
  (C8.pss_cut (ps_if (pt_cmpR op_eq (pv 5) pe_int (nomark _)) (pss_one (ps_set (i := 7) sc__law_grow.nd rfl (Or.inl rfl) (pe_op op_fdiv (pe_op op_sub (pv 2) pe_int) pe_int))) pss_nil)
  (pss_cons (ps_set (i := 8) sc__law_grow.nd rfl (Or.inl rfl) (pe_cal C__law_grow (hr.mono (by omega)) rfl (pa_cons (pv 0) (pa_cons (pe_op op_add (pv 1) pe_int) (pa_cons (pv 7) (pa_cons (pe_op op_sub (pv 3) pe_int) (pa_cons (pv 4) (pa_cons (pv 5) pa_nil))))))))
  (pss_cons (ps_set (i := 9) sc__law_grow.nd rfl (Or.inl rfl) (pe_cal C__law_grow (hr.mono (by omega)) rfl (pa_cons (pv 0) (pa_cons (pe_op op_add (pe_op op_add (pv 1) pe_int) (pv 7)) (pa_cons (pe_op op_sub (pe_op op_sub (pv 2) pe_int) (pv 7)) (pa_cons (pe_op op_sub (pv 3) pe_int) (pa_cons (pv 4) (pa_cons (pv 5) pa_nil))))))))
  (pss_one (ps_ret (pe_tup (pa_cons pe_str (pa_cons (pv 8) (pa_cons (pv 9) pa_nil)))))))))) pss_nil)
  (pss_cons (ps_set (i := 10) sc__law_grow.nd rfl (Or.inl rfl) (pe_cal C__law_grow (hr.mono (by omega)) rfl (pa_cons (pv 0) (pa_cons (pe_op op_add (pv 1) pe_int) (pa_cons (pe_op op_sub (pv 2) pe_int) (pa_cons (pe_op op_sub (pv 3) pe_int) (pa_cons (pv 4) (pa_cons (pv 5) pa_nil))))))))
  (pss_cons (ps_set (i := 11) sc__law_grow.nd rfl (Or.inl rfl) (pe_op op_mod (pe_callTy call_int1 (by rfl) T.b_int (by decide +kernel) (pa_cons (pe_ix ix_list (pv 6) pe_int (fun _ _ => rfl)) pa_nil)) pe_int))
  (pss_cons (ps_if (pt_cmpR op_eq (pv 11) pe_int (nomark _)) (pss_one (ps_ret (pe_tup (pa_cons pe_str (pa_cons (pe_op op_add pe_int (pe_ix ix_list (pv 6) pe_int (fun _ _ => rfl))) (pa_cons (pe_op op_add pe_int (pe_ix ix_list (pv 6) pe_int (fun _ _ => rfl))) (pa_cons (pv 10) pa_nil))))))) pss_nil)
  (pss_cons (ps_if (pt_cmpR op_eq (pv 11) pe_int (nomark _)) (pss_one (ps_ret (pe_tup (pa_cons pe_str (pa_cons (pv 10) pa_nil))))) pss_nil)
  (pss_cons (ps_if (pt_cmpR op_eq (pv 11) pe_int (nomark _)) (pss_one (ps_ret (pe_tup (pa_cons pe_str (pa_cons (pv 10) pa_nil))))) pss_nil)
  (pss_one (ps_ret (pe_tup (pa_cons pe_str (pa_cons (pe_op op_add pe_int (pe_ix ix_list (pv 6) pe_int (fun _ _ => rfl))) (pa_cons (pv 10) pa_nil)))))))))))))), ?_⟩
  have hat : at_.toNat < as.length := by omega
  obtain ⟨b, hb⟩ : ∃ b, as[at_.toNat]? = some b := ⟨as[at_.toNat], List.getElem?_eq_getElem hat⟩
  have hbv : (as.map V.ref)[at_.toNat]? = some (.ref b) := by rw [List.getElem?_map, hb]; rfl
  obtain ⟨ds, hrow, hdig⟩ := hR.2 b (List.mem_of_getElem? hb)
  have dig : ∀ (i : Nat) (z : Int), growSizes[i]? = some z → ∃ n, (ds.map V.int)[i]? = some (.int n) ∧ 0 ≤ n ∧ n < z := fun i z h => by
    obtain ⟨n, h1, h2, h3⟩ := hdig.get h
    exact ⟨n, int_at h1, h2, h3⟩
  obtain ⟨d0, e0, a0, b0⟩ := dig 0 10 rfl
  obtain ⟨d1, e1, a1, b1⟩ := dig 1 40 rfl
  obtain ⟨d2, e2, a2, b2⟩ := dig 2 999 rfl
  obtain ⟨d3, e3, a3, b3⟩ := dig 3 999 rfl
  obtain ⟨d4, e4, a4, b4⟩ := dig 4 9 rfl
  refine seq_asg ?_
  refine ⟨_, rfl, _, rfl, a, _, _, _, rfl, rfl, SqL.of hR.1, at_pos h0 hbv, ?_⟩
  refine ifs_seqN (decide (many ≤ 1) || decide (deep ≤ 1)) (fun Q hq => ?_) (fun hbt => ?_) (fun hbt => ?_)
  · refine ⟨_, rfl, _, _, rfl, rfl, _, rfl, ?_⟩
    refine ite2 (fun c => ?_) (fun c => ?_)
    · rw [show (decide (many ≤ 1)) = true from c] at hq
      exact hq
    · rw [show (decide (many ≤ 1)) = false from Bool.eq_false_iff.mpr c, Bool.false_or] at hq
      exact ⟨_, rfl, _, _, rfl, rfl, _, rfl, hq⟩
  · obtain ⟨ht, hts, t1, t9⟩ := hN
    obtain ⟨d5, e5, a5, b5⟩ := dig 5 120 rfl
    have hlts : (nmV ts).length = ts.length := List.length_map ..
    have j0 : 0 ≤ d5 % (ts.length : Int) := Int.emod_nonneg _ (by omega)
    have j1 : d5 % (ts.length : Int) < ts.length := Int.emod_lt_of_pos _ (by omega)
    obtain ⟨m, hm⟩ : ∃ m, ts[(d5 % (ts.length : Int)).toNat]? = some m := ⟨ts[(d5 % (ts.length : Int)).toNat]'(by omega), List.getElem?_eq_getElem _⟩
    obtain ⟨⟨m1, m8⟩, _⟩ := hts m (List.mem_of_getElem? hm)
    have hmv : (nmV ts)[(d5 % (ts.length : Int)).toNat]? = some (.str (S m)) := by
      unfold nmV
      rw [List.getElem?_map, hm]
      rfl
    refine ⟨_, rfl, _, rfl, b, _, 5, _, rfl, rfl, SqL.of hrow, at_pos (by decide) e5, .inl ⟨_, rfl, _, rfl, t, _, rfl, .inl (SqL.of ht), _, _, rfl, rfl, by rw [hlts]; omega, ?_⟩⟩
    rw [hlts]
    refine ⟨t, _, _, _, rfl, rfl, SqL.of ht, at_pos j0 hmv, ?_⟩
    refine ⟨two_line, fun u hu => ?_⟩
    exact q (.take m) u _ (same_new hu _) upd_same ⟨m1, by omega⟩ (.inl (Nat.le_refl 1)) (.inl (Nat.le_refl 1))
  rw [Bool.or_eq_false_iff, decide_eq_false_iff_not, decide_eq_false_iff_not] at hbt
  obtain ⟨hm2, hd2⟩ := hbt
  obtain ⟨m, rfl⟩ : ∃ m, n = m + 1 := ⟨n - 1, by omega⟩
  refine ifs_seqN (decide (many ≥ 3) && (decide (mode = 1) || (decide (mode = 0) && decide (d0 < 5)))) (fun Q hq => ?_) (fun hbt => ?_) (fun _ => ?_)
  · refine ⟨_, rfl, _, _, rfl, rfl, _, rfl, ?_⟩
    refine ite2 (fun c => ?_) (fun c => ?_)
    · rw [show (decide (many ≥ 3)) = true from c, Bool.true_and] at hq
      refine ⟨_, rfl, rfl, _, rfl, ?_⟩
      rw [dec_int]
      refine ite2 (fun c => ?_) (fun c => ?_)
      · have e : mode = 1 := eq_of_beq c
        rw [decide_eq_true e, Bool.true_or] at hq
        exact hq
      · have e : ¬ mode = 1 := fun e => c (by rw [e]; rfl)
        rw [decide_eq_false e, Bool.false_or] at hq
        refine ⟨_, rfl, rfl, _, rfl, ?_⟩
        rw [dec_int]
        refine ite2 (fun c => ?_) (fun c => ?_)
        · have e : mode = 0 := eq_of_beq c
          rw [decide_eq_true e, Bool.true_and] at hq
          exact ⟨_, rfl, b, _, 0, _, rfl, rfl, SqL.of hrow, at_pos (by decide) e0, _, _, rfl, rfl, _, rfl, hq⟩
        · have e : ¬ mode = 0 := fun e => c (by rw [e]; rfl)
          rw [decide_eq_false e, Bool.false_and] at hq
          exact hq
    · rw [show (decide (many ≥ 3)) = false from Bool.eq_false_iff.mpr c, Bool.false_and] at hq
      exact hq
  · rw [Bool.and_eq_true] at hbt
    have hm3 : many ≥ 3 := of_decide_eq_true hbt.1
    refine seq_asg ?_
    refine ⟨_, rfl, b, _, 1, _, rfl, rfl, SqL.of hrow, at_pos (by decide) e1, .inl ⟨_, rfl, _, rfl, _, _, rfl, rfl, _, _, rfl, rfl, (by show (0 : Int) < many - 2; omega), _, _, rfl, rfl, ?_⟩⟩
    have s0 : 0 ≤ d1 % (many - 2) := Int.emod_nonneg _ (by omega)
    have s1 : d1 % (many - 2) < many - 2 := Int.emod_lt_of_pos _ (by omega)
    refine ⟨fun σ H' => ∃ share : Int, σ = [some (.ref a), some (.int at_), some (.int many), some (.int deep), some (.ref t), some (.int mode), some (.ref b), some (.int share), none, none, none, none] ∧ 1 ≤ share ∧ share ≤ many - 2 ∧ H' = H, ?_, ?_⟩
    · refine ifs_of (decide (mode = 1)) (fun Q hq => ?_) (fun _ => ?_) (fun _ => ?_)
      · refine ⟨_, rfl, rfl, _, rfl, ?_⟩
        rw [dec_int, Bool.beq_eq_decide_eq]
        exact hq
      · refine ⟨_, rfl, _, _, rfl, rfl, _, _, rfl, rfl, ⟨by decide, by decide⟩, ?_⟩
        exact ⟨_, rfl, by omega, by omega, rfl⟩
      · exact ⟨_, rfl, by omega, by omega, rfl⟩
    rintro σ H' ⟨share, rfl, h1, h2, rfl⟩
    refine ⟨_, rfl, _, rfl, _, _, rfl, rfl, _, rfl, _, rfl, _, _, rfl, rfl, _, rfl, _, rfl, m, rfl, a, t, as, ts, at_ + 1, share, deep - 1, mode, rfl, hR, hN, by omega, by omega, by omega, by omega, fun pl1 p1 H1 g1 hp1 hg1 hh1 hc1 => ?_⟩
    refine ⟨_, rfl, _, rfl, _, _, rfl, rfl, _, rfl, _, _, rfl, rfl, _, rfl, _, _, rfl, rfl, _, rfl, _, _, rfl, rfl, _, rfl, _, _, rfl, rfl, _, rfl, _, rfl, m, rfl, a, t, as, ts, at_ + 1 + share, many - 1 - share, deep - 1, mode, rfl, hR.same g1, hN.same g1, by omega, by omega, by omega, by omega, fun pl2 p2 H2 g2 hp2 hg2 hh2 hc2 => ?_⟩
    refine ⟨_, rfl, _, rfl, three_line, fun u hu => ?_⟩
    refine q (.join pl1 pl2) u _ (g1.trans (g2.trans (same_new hu _))) ⟨p1, p2, upd_same, hp1.same (g2.trans (same_new hu _)), hp2.same (same_new hu _)⟩ ⟨hg1, hg2⟩ (.inr ?_) (.inr ?_)
    · simp only [Plan.height]
      omega
    · simp only [Plan.count]
      omega
  · refine ⟨_, rfl, _, rfl, _, _, rfl, rfl, _, rfl, _, _, rfl, rfl, _, rfl, _, _, rfl, rfl, _, rfl, _, rfl, m, rfl, a, t, as, ts, at_ + 1, many - 1, deep - 1, mode, rfl, hR, hN, by omega, by omega, by omega, by omega, fun x p1 H1 g1 hp1 hg1 hh1 hc1 => ?_⟩
    have hrow1 := g1 _ _ hrow
    have hx : (x.height : Int) + 1 ≤ deep := by omega
    have hy : (x.count : Int) + 1 ≤ many := by omega
    refine ⟨_, rfl, b, _, 0, _, rfl, rfl, SqL.of hrow1, at_pos (by decide) e0, .inl ⟨_, rfl, _, _, rfl, rfl, (by show (0 : Int) < 5; decide), ?_⟩⟩
    refine ⟨_, rfl, rfl, _, rfl, ?_⟩
    refine ite2 (fun _ => ?_) (fun _ => ?_)
    · refine ⟨_, rfl, b, _, 2, _, rfl, rfl, SqL.of hrow1, at_pos (by decide) e2, _, _, rfl, rfl, _, rfl, b, _, 3, _, rfl, rfl, SqL.of hrow1, at_pos (by decide) e3, _, _, rfl, rfl, _, rfl, (by show 4 ≤ sizeLine; exact line_ge (by omega)), fun u hu => ?_⟩
      refine q (.scale (1 + d2).toNat (1 + d3).toNat x) u _ (g1.trans (same_new hu _)) ⟨p1, ?_, hp1.same (same_new hu _)⟩ hg1 (.inr ?_) (.inr ?_)
      · rw [upd_same, Int.toNat_of_nonneg (by omega), Int.toNat_of_nonneg (by omega)]
      · simp only [Plan.height]
        omega
      · simp only [Plan.count]
        omega
    refine ⟨_, rfl, rfl, _, rfl, ?_⟩
    refine ite2 (fun _ => ?_) (fun _ => ?_)
    · refine ⟨_, rfl, two_line, fun u hu => ?_⟩
      refine q (.spare x) u _ (g1.trans (same_new hu _)) ⟨p1, upd_same, hp1.same (same_new hu _)⟩ hg1 (.inr ?_) (.inr ?_)
      · simp only [Plan.height]
        omega
      · simp only [Plan.count]
        omega
    refine ⟨_, rfl, rfl, _, rfl, ?_⟩
    refine ite2 (fun _ => ?_) (fun _ => ?_)
    · refine ⟨_, rfl, two_line, fun u hu => ?_⟩
      refine q (.base x) u _ (g1.trans (same_new hu _)) ⟨p1, upd_same, hp1.same (same_new hu _)⟩ hg1 (.inr ?_) (.inr ?_)
      · simp only [Plan.height]
        omega
      · simp only [Plan.count]
        omega
    refine ⟨_, rfl, b, _, 4, _, rfl, rfl, SqL.of hrow1, at_pos (by decide) e4, _, _, rfl, rfl, _, rfl, three_line, fun u hu => ?_⟩
    refine q (.thin (2 + d4).toNat x) u _ (g1.trans (same_new hu _)) ⟨p1, ?_, hp1.same (same_new hu _)⟩ ⟨by omega, hg1⟩ (.inr ?_) (.inr ?_)
    · rw [upd_same, Int.toNat_of_nonneg (by omega)]
    · simp only [Plan.height]
      omega
    · simp only [Plan.count]
      omega
theorem all_grow (T : Txt mg) (F : Fun K "_law_grow" "_law_grow" s__law_grow f fd) (m : mg "_law_grow" = some (.ref f)) (b : Binds K fd ["rows", "at", "many", "deep", "names", "mode"] []) :
    ∀ n : Nat, Cal P w K mg base (n + 2) "_law_grow" ["rows", "at", "many", "deep", "names", "mode"] (spGrow n)
  | 0 => by
    have no : ∀ vs H Q E, ¬ spGSub 0 vs H Q E := fun vs H Q E ⟨k, e, _⟩ => by omega
    exact ⟨f, fd, ok__law_grow F T ⟨f, fd, ⟨fun vs H Q E h => absurd h (no vs H Q E), fun A outer s H args us vs Q E _ _ _ _ h => absurd h (no vs H Q E)⟩, m, F.kp, b⟩, m, F.kp, b⟩
  | n + 1 => by
    obtain ⟨f', fd', G, m', kp', b'⟩ := all_grow T F m b n
    exact ⟨f, fd, ok__law_grow F T ⟨f', fd', G.imp (fun vs H Q E ⟨k, e, h⟩ => by
      have : n = k := by omega
      subst this
      exact h), m', kp', b'⟩, m, F.kp, b⟩
end
end P62
namespace P62
open PySem PySem.Spec PyProof.Rows L2 SX EX
theorem first_head {kvs : List (Key × V)} {l : List (List Nat)} {n : List Nat} (h : first kvs l = some n) : ∃ r, l.filter (odd kvs) = n :: r := by
  have e : (l.filter (odd kvs)).head? = some n := by rw [List.head?_filter]; exact h
  cases hl : l.filter (odd kvs) with
  | nil => rw [hl] at e; cases e
  | cons x r => rw [hl] at e; cases e; exact ⟨r, rfl⟩
theorem first_nil {kvs : List (Key × V)} {l : List (List Nat)} (h : first kvs l = none) : l.filter (odd kvs) = [] := List.filter_eq_nil_iff.mpr (List.find?_eq_none.mp h)
/-- a told forecast and the due one -/
theorem FcAt.sameD {H : Hp} {p q : Addr} {a : Fc} (h : FcAt H p a) (f : Addr) (hq : H q = some (.tup [.int a.most, .int a.peak, .ref f])) (hf : FrAt H f a.top a.bot) : SameD H 2 (.ref p) (.ref q) := by
  obtain ⟨g, hp, hg⟩ := h
  exact .tup 1 p q _ _ hp hq rfl (by simp) (three_items (.int 1 _) (.int 1 _) (.tup 0 g f _ _ hg hf rfl (by simp) (two_items (.int 0 _) (.int 0 _))))
section
variable {P : Program} {w : World} {K : PySem.W.Frag} {mg : Str → Option Value} {base : Heap} {f : Addr} {fd : FuncData} {cU cC cN cP fU : Addr}
def spRight : Sp := fun vs H Q _ => ∃ (pl : Plan) (p a : Addr) (size : Int) (cs : List (List Nat × Int)), vs = [.ref p, .int size, .ref a] ∧ PlanAt H pl p ∧ pl.Good ∧ pl.height ≤ 12 ∧ pl.count ≤ 1000 ∧ 0 ≤ size ∧ size ≤ 10 ∧ CntAt H a cs ∧ cs.length ≤ 1000 ∧ CntOk cs ∧ ∀ H', Same H H' → Q (.bl true) H'
abbrev s__law_right : Stmt := top 39
abbrev N__law_right : List Str := ["plan", "size", "counts", "known", "pair", "strange", "told", "e", "name"]
theorem sc__law_right : FnScope N__law_right ["plan", "size", "counts"] (defScope s__law_right) := ⟨rfl, rfl, rfl, by decide +kernel, rfl, by decide +kernel, by decide +kernel⟩
theorem ok__law_right (F : Fun K "_law_right" "_law_right" s__law_right f fd) (T : Txt mg) (U : Err K mg cU cC cN cP fU) (C_forecast : CalX P w K mg base 16 "forecast" ["plan", "size", "counts"] (spForecast cU)) (C__law_same : Cal P w K mg base 4 "_law_same" ["told", "due"] (spSame 2)) (CH__law_same : CalH P w K mg base 1 "_law_same" ["told", "due"] spSameH)
    (C__law_names : Cal P w K mg base 12 "_law_names" ["plan"] (spNamesL 12)) (C__law_forecast : Cal P w K mg base 15 "_law_forecast" ["plan", "size", "known"] (spFcL 12)) : FnOk P w K mg base CX0 17 f fd ["plan", "size", "counts"] spRight := by
  refine F.ok sc__law_right (fun vs H Q E h => ?_) (fun cdv A outer s H vs Q E hr h => ?_)
  · obtain ⟨pl, p, a, size, cs, rfl, _⟩ := h
    rfl
  obtain ⟨pl, p, a, size, cs, rfl, hp, hg, hh, hc, s0, s10, hcnt, hlen, hok, q⟩ := h
  obtain ⟨bs, hbs, hpr⟩ := id hcnt
  refine ⟨_, (pss_cons (ps_set (i := 3) sc__law_right.nd rfl (Or.inr rfl) pe_dnewK)
  (pss_cons (ps_for PassesOwn.never rfl (pi_or (pi_list (pv 2)) (pi_tup (pv 2))) (pg_name (i := 4) sc__law_right.nd rfl (Or.inl rfl)) (pss_one (ps_dput (hu_of hr) (pv 3) (pe_ix ix_or (pv 4) pe_int (fun _ _ => rfl)) (pe_ix ix_or (pv 4) pe_int (fun _ _ => rfl)) rfl)))
  (pss_cons (ps_setLc (i := 5) (own := [("name", 8)]) (g := gName 8) (by rfl) sc__law_right.nd rfl rfl (sw_true rfl rfl rfl (by decide +kernel)) (pi_list (pe_cal C__law_names (hr.mono (by omega)) rfl (pa_cons (pv 0) pa_nil))) (blkOk_by (N := N__law_right) (sc := defScope s__law_right) (by decide +kernel)) (fun _ _ _ _ _ => (pg_name (i := 8) sc__law_right.nd rfl (Or.inl rfl))) (fun _ _ _ _ _ => (pts_one (pt_cmp (pc_dnotin (hu_of hr) (pv 8) (pv 3))))) (fun _ _ _ _ _ => (pv 8)))
  (pss_cons (L2N.ps_try_as (i := 7) rfl rfl sc__law_right.nd rfl rfl ⟨rfl, by decide, Or.inl U.g_CableError⟩ takesN (fun W pn xe tk _ => (pss_one (ps_set (i := 6) sc__law_right.nd rfl (Or.inl rfl) (pe_calX C_forecast (hr.mono (by omega)) rfl tk (pa_cons (pv 0) (pa_cons (pv 1) (pa_cons (pv 2) pa_nil))))))) (fun a oe cls d pn hz hf => (pss_cons (ps_if (PW.pt (pw_or (pt_cmpR op_eq (pe_callB (call_len_seqK (K := K) rfl) (by rfl) T.b_len PySem.boot_len (pa_cons (pv 5) pa_nil)) pe_int (nomark _)) (pw_or (pt_not (pt_val (pe_callB (call_isX (K := K) rfl hz.zc hf) (by rfl) T.b_isinstance (by decide +kernel) (pa_cons (pv 7) (pa_cons (pe_glob (v := .ref _) rfl U.g_UnknownName rfl) pa_nil))))) (pw_or1 (pt_not (pt_val (pe_callB (call_isX (K := K) rfl hz.zc hf) (by rfl) T.b_isinstance (by decide +kernel) (pa_cons (pv 7) (pa_cons (pe_bltn (v := .ty "ValueError") (by rfl) T.b_ValueError (by decide +kernel) rfl) pa_nil))))))))) (pss_one (ps_ret pe_bl)) pss_nil)
  (pss_one (ps_ret (pe_and (pe_not (pe_callB (call_isX (K := K) rfl hz.zc hf) (by rfl) T.b_isinstance (by decide +kernel) (pa_cons (pv 7) (pa_cons (pe_glob (v := .ref _) rfl U.g_BadPlan rfl) pa_nil)))) (pe_and (pe_not (pe_callB (call_isX (K := K) rfl hz.zc hf) (by rfl) T.b_isinstance (by decide +kernel) (pa_cons (pv 7) (pa_cons (pe_glob (v := .ref _) rfl U.g_BadNotation rfl) pa_nil)))) (pe_one (pe_calH CH__law_same ((roomS hr).mono (by omega)) (hot_of hz hf) rfl (pa_cons (pe_xf U.x_UnknownName U.no_UnknownName_name hz.zc hf (pv 7)) (pa_cons (pe_ix (ix_listK (K := K) rfl) (pv 5) pe_int (fun _ _ => rfl)) pa_nil)))))))))))
  (pss_one (ps_ret (pe_and (pe_cmpR op_eq (pe_callB call_len_seq (by rfl) T.b_len PySem.boot_len (pa_cons (pv 5) pa_nil)) pe_int (nomark _)) (pe_one (pe_cal C__law_same (hr.mono (by omega)) rfl (pa_cons (pv 6) (pa_cons (pe_callTy call_tuple_of (by rfl) T.b_tuple (by decide +kernel) (pa_cons (pe_cal C__law_forecast (hr.mono (by omega)) rfl (pa_cons (pv 0) (pa_cons (pv 1) (pa_cons (pv 3) pa_nil)))) pa_nil)) pa_nil))))))))))), ?_⟩
  intro D hD
  have gD := same_new hD (.dK [])
  have hbs' : upd H D (.dK []) a = some (.lst (bs.map V.ref)) ∨ upd H D (.dK []) a = some (.tup (bs.map V.ref)) := hbs.imp (gD _ _) (gD _ _)
  refine tFor_or (K := K) (i := 2) (a := a) (xs := bs.map V.ref) rfl hbs' (fun i σ H' => ∃ v4 : Option V, σ = [some (.ref p), some (.int size), some (.ref a), some (.ref D), v4, none, none, none, none] ∧ Same H H' ∧ H' D = some (.dK (kvsOf (cs.take i))))
    ⟨none, rfl, gD, upd_same⟩ (fun j σ' H' z u hu => ?_) ?_ ?_
  · obtain ⟨_, _, g, _⟩ := z
    have hne : a ≠ D := fun e => by
      rcases hbs with h | h <;> (rw [e, hD] at h; cases h)
    rw [upd_ne hne] at hu
    exact g _ _ hu
  · rintro i x σ' H1 hx ⟨v4, rfl, g1, hd1⟩
    obtain ⟨b, hb, rfl⟩ : ∃ b, bs[i]? = some b ∧ x = V.ref b := by
      rw [List.getElem?_map] at hx
      cases e : bs[i]? with
      | none => rw [e] at hx; cases hx
      | some b => rw [e] at hx; exact ⟨b, rfl, (Option.some.inj hx).symm⟩
    have hi : i < cs.length := by
      have := (List.getElem?_eq_some_iff.mp hb).1
      rw [← Paired.len hpr]
      exact this
    have hcs : cs[i]? = some cs[i] := List.getElem?_eq_getElem hi
    obtain ⟨b', hb', hpa⟩ := Paired.at hpr hcs
    rw [hb] at hb'
    cases hb'
    generalize hci : cs[i] = c at hcs hpa
    have hsz : (kvsOf (cs.take i)).length < sizeLine := by
      have h1 := kvs_len (cs.take i)
      rw [List.length_take] at h1
      exact small1000 (by omega)
    have fin : ∃ v4 : Option V, [some (V.ref p), some (V.int size), some (V.ref a), some (V.ref D), some (V.ref b), none, none, none, none] = [some (V.ref p), some (V.int size), some (V.ref a), some (V.ref D), v4, none, none, none, none] ∧ Same H (upd H1 D (.dK (putK (kvsOf (cs.take i)) (nK c.1) (.int c.2)))) ∧ upd H1 D (.dK (putK (kvsOf (cs.take i)) (nK c.1) (.int c.2))) D = some (.dK (kvsOf (cs.take (i + 1)))) :=
      ⟨_, rfl, same_at g1 hD, by rw [upd_same, kvs_snoc hcs]⟩
    rcases hpa with hpa | hpa
    · exact ⟨_, rfl, .inl ⟨b, _, 1, _, rfl, rfl, SqL.of (g1 _ _ hpa), at_pos (by decide) rfl, _, rfl, _, rfl, .inl ⟨b, _, 0, _, rfl, rfl, SqL.of (g1 _ _ hpa), at_pos (by decide) rfl, D, _, rfl, DPut.k (k := nK c.1) hd1 hsz, fin⟩⟩⟩
    · exact ⟨_, rfl, .inr ⟨b, _, 1, _, rfl, rfl, SqT.of (g1 _ _ hpa), at_pos (by decide) rfl, _, rfl, _, rfl, .inr ⟨b, _, 0, _, rfl, rfl, SqT.of (g1 _ _ hpa), at_pos (by decide) rfl, D, _, rfl, DPut.k (k := nK c.1) hd1 hsz, fin⟩⟩⟩
  rintro σ' H1 ⟨v4, rfl, g1, hd1⟩
  have eb : (bs.map V.ref).length = cs.length := by rw [List.length_map, Paired.len hpr]
  rw [eb, List.take_length] at hd1
  generalize hkv : kvsOf cs = kvs at hd1
  refine ⟨_, rfl, pl, p, rfl, hp.same g1, hh, hc, fun r H2 g2 hr2 => ?_⟩
  refine ⟨r, rfl, ⟨_, SqL.of hr2⟩, fun D2 hD2 => ?_⟩
  have hln := names_le pl
  refine lc_list (K := K) (a := r) (xs := nmV pl.names) (fun i H' => Same H2 H' ∧ H' D2 = some (.lst (nmV ((pl.names.take i).filter (odd kvs))))) ⟨same_new hD2 _, upd_same⟩ (fun i H' _ z => SqL.of (z.1 _ _ hr2)) ?_ ?_
  · rintro i x H3 hx ⟨g3, hd3⟩
    obtain ⟨n, hn, rfl⟩ : ∃ n, pl.names[i]? = some n ∧ x = V.str (S n) := by
      unfold nmV at hx
      rw [List.getElem?_map] at hx
      cases e : pl.names[i]? with
      | none => rw [e] at hx; cases hx
      | some n => rw [e] at hx; exact ⟨n, rfl, (Option.some.inj hx).symm⟩
    have hd1' := g3 _ _ (g2 _ _ hd1)
    have hsz : (nmV ((pl.names.take i).filter (odd kvs))).length < sizeLine := by
      have h1 : (nmV ((pl.names.take i).filter (odd kvs))).length = ((pl.names.take i).filter (odd kvs)).length := List.length_map ..
      have h2 := List.length_filter_le (odd kvs) (pl.names.take i)
      rw [List.length_take] at h2
      exact small1000 (by omega)
    refine ⟨rfl, ⟨_, rfl, _, rfl, D, _, rfl, DGet.k (k := nK n) hd1', _, rfl, ?_⟩⟩
    refine ite2 (fun c => ?_) (fun c => ?_)
    · have ho : odd kvs n = true := c
      refine ⟨_, rfl, _, hd3, hsz, same_at g3 hD2, ?_⟩
      rw [upd_same, take_snoc hn, List.filter_append, List.filter_cons, if_pos ho]
      simp only [nmV, List.map_append]
      rfl
    · have ho : odd kvs n = false := Bool.eq_false_iff.mpr c
      refine ⟨g3, ?_⟩
      rw [hd3, take_snoc hn, List.filter_append, List.filter_cons, if_neg (by rw [ho]; exact Bool.false_ne_true), List.filter_nil, List.append_nil]
  rintro H3 ⟨g3, hd3⟩
  have en : (nmV pl.names).length = pl.names.length := List.length_map ..
  rw [en, List.take_length] at hd3
  have g03 : Same H H3 := g1.trans (g2.trans g3)
  have hD3 := g3 _ _ (g2 _ _ hd1)
  refine ⟨_, rfl, _, rfl, _, rfl, pl, p, a, size, cs, rfl, hp.same g03, hg, hh, hc, s0, s10, hcnt.same g03, hlen, hok, fun hf r4 H4 g4 hr4 => ?_, fun n hn d H4 g4 hd4 => ?_⟩
  · rw [hkv] at hf hr4
    have hnil := first_nil hf
    have hS := g4 _ _ hd3
    rw [hnil] at hS
    refine ⟨_, rfl, D2, _, rfl, .inl (SqL.of hS), rfl, _, rfl, ifT rfl ?_⟩
    have okv : KvOk kvs := by rw [← hkv]; exact kv_ok hok
    refine ⟨_, rfl, _, rfl, _, rfl, _, rfl, pl, p, D, size, kvs, rfl, hp.same (g03.trans g4), hg, hh, hh, s0, s10, g4 _ _ hD3, okv, known_of hf, fun r5 H5 g5 hr5 => ?_⟩
    obtain ⟨f5, h5, h5f⟩ := hr5
    refine ⟨r5, _, rfl, .inl ⟨SqL.of h5, fun u hu => ?_⟩⟩
    refine ⟨_, _, rfl, (hr4.same (g5.trans (same_new hu _))).sameD f5 upd_same (h5f.same (same_new hu _)), fun H6 g6 => ?_⟩
    exact q H6 (g03.trans (g4.trans (g5.trans ((same_new hu _).trans g6))))
  · rw [hkv] at hn
    obtain ⟨rest, hfl⟩ := first_head hn
    have hS := g4 _ _ hd3
    rw [hfl] at hS
    refine ⟨true, U.eC, fun _ e _ => ?_, fun z => Bool.noConfusion z⟩
    refine ⟨_, rfl, D2, _, rfl, .inl (SqL.of hS), rfl, _, rfl, ifF (dec_ne fun z => by have := V.int.inj z; simp [nmV] at this; omega) ?_⟩
    refine ⟨_, rfl, cU, _, _, true, rfl, .own _, rfl, U.x, .inr ⟨d, _, rfl, hd4⟩, U.kU, _, rfl, ifF rfl ?_⟩
    refine ⟨_, rfl, cU, _, _, true, rfl, .ty _, rfl, U.x, .inr ⟨d, _, rfl, hd4⟩, U.kV, _, rfl, ifF rfl ?_⟩
    refine ⟨_, rfl, cU, _, _, false, rfl, .own _, rfl, U.x, .inr ⟨d, _, rfl, hd4⟩, U.kP, false, rfl, true, rfl, ifT rfl ?_⟩
    refine ⟨_, rfl, cU, _, _, false, rfl, .own _, rfl, U.x, .inr ⟨d, _, rfl, hd4⟩, U.kN, false, rfl, true, rfl, ifT rfl ?_⟩
    refine ⟨_, rfl, rfl, rfl, d, _, .str (S n), rfl, hd4, by simp [List.lookup], _, rfl, D2, _, 0, _, rfl, rfl, SqL.of hS, at_pos (by decide) rfl, S n, rfl, ?_⟩
    exact q H4 (g03.trans g4)
end
end P62
namespace P62
open PySem PySem.Spec PyProof.Rows L2 SX EX
def spLaw (K : PySem.W.Frag) : Sp := fun vs H Q _ => ∃ (a : Addr) (ns : List Int), vs = [.ref a] ∧ SqL K H a (ns.map V.int) ∧ ns.length ≤ 63 ∧ ∀ H', Q (.bl true) H'
abbrev s_law : Stmt := top 40
abbrev N_law : List Str := ["script", "shape", "counts", "names", "k", "row", "takes", "rows", "many", "deep", "plan", "left", "less", "passed", "pair"]
theorem sc_law : FnScope N_law ["script"] (defScope s_law) := ⟨rfl, rfl, rfl, by decide +kernel, rfl, by decide +kernel, by decide +kernel⟩
theorem cnt_bounds : ∀ z ∈ cntSizes, 0 < z ∧ z.natAbs < 2 ^ 2000 := by decide +kernel
theorem name_bounds : ∀ z ∈ nameSizes, 0 < z ∧ z.natAbs < 2 ^ 2000 := by decide +kernel
theorem grow_bounds : ∀ z ∈ growSizes, 0 < z ∧ z.natAbs < 2 ^ 2000 := by decide +kernel
theorem many_at {d0 d1 : Int} (a0 : 0 ≤ d0) (b0 : d0 < 8) (a1 : 0 ≤ d1) (b1 : d1 < 40) : ∃ many : Int, atI [V.int (1 + d1 % 14), V.int (1 + d1), V.int 40, V.int 12] (if d0 - 4 > 0 then d0 - 4 else 0) = some (.int many) ∧ 1 ≤ many ∧ many ≤ 40 := by
  have h14 : 0 ≤ d1 % 14 := Int.emod_nonneg _ (by decide)
  have h15 : d1 % 14 < 14 := Int.emod_lt_of_pos _ (by decide)
  by_cases c : d0 - 4 > 0
  · rw [if_pos c]
    have h : d0 = 5 ∨ d0 = 6 ∨ d0 = 7 := by omega
    rcases h with rfl | rfl | rfl
    · exact ⟨_, at_pos (by decide) rfl, by omega, by omega⟩
    · exact ⟨_, at_pos (by decide) rfl, by omega, by omega⟩
    · exact ⟨_, at_pos (by decide) rfl, by omega, by omega⟩
  · rw [if_neg c]
    exact ⟨_, at_pos (by decide) rfl, by omega, by omega⟩
theorem cutV_to (xs : List V) {k : Int} (h0 : 0 ≤ k) : cutV xs none (some k) = xs.take k.toNat := by
  have e1 : HT.sIx xs.length 0 none = 0 := rfl
  have e2 : HT.sIx xs.length xs.length (some k) = min k.toNat xs.length := by show (if k < 0 then _ else _) = _; rw [if_neg (by omega)]
  unfold cutV
  rw [e1, e2, List.drop_zero, Nat.sub_zero]
  rcases Nat.le_total k.toNat xs.length with h | h
  · rw [Nat.min_eq_left h]
  · rw [Nat.min_eq_right h, List.take_of_length_le (Nat.le_refl _), List.take_of_length_le h]
theorem cutV_from (xs : List V) {k : Int} (h0 : 0 ≤ k) : cutV xs (some k) none = xs.drop k.toNat := by
  have e1 : HT.sIx xs.length 0 (some k) = min k.toNat xs.length := by show (if k < 0 then _ else _) = _; rw [if_neg (by omega)]
  have e2 : HT.sIx xs.length xs.length none = xs.length := rfl
  unfold cutV
  rw [e1, e2]
  rcases Nat.le_total k.toNat xs.length with h | h
  · rw [Nat.min_eq_left h]
    exact List.take_of_length_le (by rw [List.length_drop]; omega)
  · rw [Nat.min_eq_right h, List.drop_eq_nil_of_le (Nat.le_refl _), List.drop_eq_nil_of_le h, List.take_nil]
theorem no_ref (bs : List Addr) (x : Str) (i : Int) : bs.map V.ref ≠ [V.str x, V.int i] := fun h => by
  cases bs with
  | nil => cases h
  | cons b bs => cases (List.cons.inj h).1
/-- a plan that is no take ends in a plan -/
theorem last_of {H : Hp} {pl : Plan} {p : Addr} (hp : PlanAt H pl p) (hg : pl.Good) : (∃ n, pl = .take n) ∨ ∃ (tag : Str) (x : Plan) (pa : Addr) (ys : List V), tag ≠ "take" ∧ Arm H p tag x pa ys ∧ x.height ≤ pl.height ∧ x.count ≤ pl.count ∧ x.Good := by
  rcases plan_cases hp with ⟨n, rfl⟩ | ⟨x, y, rfl⟩ | ⟨tag, x, pa, ys, n1, n2, a, h1, h2, e, gd, _⟩
  · exact .inl ⟨n, rfl⟩
  · obtain ⟨pa, pb, ho, ha, hb⟩ := hp
    exact .inr ⟨"join", y, pb, _, by decide +kernel, ⟨ho, at_pos (by simp only [List.length_cons, List.length_nil]; omega) rfl, hb⟩, by simp only [Plan.height]; omega, by simp only [Plan.count]; omega, hg.2⟩
  · exact .inr ⟨tag, x, pa, ys, n1, a, by omega, by omega, gd hg⟩
/-- the pairs as data -/
def dat (cs : List (List Nat × Int)) : PyData := .list (cs.map fun c => .tuple [.str (S c.1), .int c.2])
theorem dat_lay : ∀ {cs : List (List Nat × Int)}, (∀ x ∈ cs, Nm x.1) → PyData.canLayAll0 (cs.map fun c => .tuple [.str (S c.1), .int c.2]) = true
  | [], _ => rfl
  | c :: cs, h => by
    have h1 : PyData.strOk (S c.1) = true := by
      unfold PyData.strOk
      rw [← Array.all_toList, List.all_eq_true]
      intro d hd
      have := (h c List.mem_cons_self).2 d hd
      exact decide_eq_true (by omega)
    have h2 := dat_lay (cs := cs) fun x hx => h x (List.mem_cons_of_mem _ hx)
    rw [List.map_cons, PyData.canLayAll0, h2]
    simp [PyData.canLay0, PyData.canLayAll0, h1]
theorem dat_flat : ∀ cs : List (List Nat × Int), PyData.depthAll (cs.map fun c => PyData.tuple [.str (S c.1), .int c.2]) ≤ 1
  | [] => Nat.zero_le _
  | c :: cs => by
    have h := dat_flat cs
    rw [List.map_cons]
    simp only [PyData.depthAll, PyData.depth]
    omega
theorem dat_shaped {cs : List (List Nat × Int)} (h : ∀ x ∈ cs, Nm x.1) : SeqAt.shaped (dat cs) = true := by
  have h1 : (dat cs).canLay0 = true := by
    unfold dat
    rw [PyData.canLay0]
    exact dat_lay h
  have h2 : (dat cs).depth ≤ 64 := by
    have := dat_flat cs
    unfold dat
    simp only [PyData.depth]
    omega
  unfold SeqAt.shaped
  rw [h1, decide_eq_true h2]
  rfl
/-- the pairs as tuples -/
def TupAt (H : Hp) (b : Addr) (c : List Nat × Int) : Prop := H b = some (.tup [.str (S c.1), .int c.2])
theorem TupAt.same {H H' : Hp} (e : Same H H') {bs : List Addr} {cs : List (List Nat × Int)} (h : Paired (TupAt H) bs cs) : Paired (TupAt H') bs cs := L2.Paired.mapP h fun _ _ h => e _ _ h
theorem dat_all {K : PySem.W.Frag} {H : Hp} : ∀ {bs : List Addr} {cs : List (List Nat × Int)}, Paired (TupAt H) bs cs → DpAll K H (bs.map V.ref) (cs.map fun c => .tuple [.str (S c.1), .int c.2])
  | _, _, .nil => .nil
  | _, _, .cons h t => .cons (.tup (SqT.of h) (.cons (.str _) (.cons (.int _) .nil))) (dat_all t)
theorem PairAt.same {H H' : Hp} (e : Same H H') {bs : List Addr} {cs : List (List Nat × Int)} (h : Paired (PairAt H) bs cs) : Paired (PairAt H') bs cs := L2.Paired.mapP h fun _ _ h => h.imp (e _ _) (e _ _)
theorem TupAt.pair {H : Hp} {bs : List Addr} {cs : List (List Nat × Int)} (h : Paired (TupAt H) bs cs) : Paired (PairAt H) bs cs := L2.Paired.mapP h fun _ _ h => .inr h
theorem Paired.snoc {α β : Type} {F : α → β → Prop} : ∀ {as : List α} {bs : List β} {a : α} {b : β}, Paired F as bs → F a b → Paired F (as ++ [a]) (bs ++ [b])
  | _, _, _, _, .nil, h => .cons h .nil
  | _, _, _, _, .cons r t, h => .cons r (Paired.snoc t h)
theorem Paired.app {α β : Type} {F : α → β → Prop} : ∀ {as as' : List α} {bs bs' : List β}, Paired F as bs → Paired F as' bs' → Paired F (as ++ as') (bs ++ bs')
  | _, _, _, _, .nil, h => h
  | _, _, _, _, .cons r t, h => .cons r (Paired.app t h)
theorem Paired.take' {α β : Type} {F : α → β → Prop} : ∀ {as : List α} {bs : List β} (k : Nat), Paired F as bs → Paired F (as.take k) (bs.take k)
  | _, _, 0, _ => .nil
  | _, _, _ + 1, .nil => .nil
  | _, _, k + 1, .cons r t => .cons r (Paired.take' k t)
theorem Paired.drop' {α β : Type} {F : α → β → Prop} : ∀ {as : List α} {bs : List β} (k : Nat), Paired F as bs → Paired F (as.drop k) (bs.drop k)
  | _, _, 0, h => h
  | _, _, _ + 1, .nil => .nil
  | _, _, k + 1, .cons _ t => Paired.drop' k t
/-- counts and names as they are drawn -/
structure Cn (H1 H : Hp) (pc pn : Addr) (bs : List Addr) (cs : List (List Nat × Int)) : Prop where
  same : Same H1 H
  c : H pc = some (.lst (bs.map V.ref))
  n : H pn = some (.lst (nmV (cs.map (·.1))))
  p : Paired (TupAt H) bs cs
  ok : CntOk cs
  nm : ∀ x ∈ cs, Nm x.1
theorem Cn.keep {H1 H H' : Hp} {pc pn : Addr} {bs : List Addr} {cs : List (List Nat × Int)} (e : Same H H') (h : Cn H1 H pc pn bs cs) : Cn H1 H' pc pn bs cs := ⟨h.same.trans e, e _ _ h.c, e _ _ h.n, TupAt.same e h.p, h.ok, h.nm⟩
section
variable {P : Program} {w : World} {K : PySem.W.Frag} {mg : Str → Option Value} {base : Heap} {f : Addr} {fd : FuncData}
theorem ok_law (F : Fun K "law" "law" s_law f fd) (T : Txt mg) (C__law_cell : Cal P w K mg base 1 "_law_cell" ["script", "k"] (spCell K)) (C__law_digits : Cal P w K mg base 1 "_law_digits" ["cell", "sizes"] (spDigits K))
    (C__law_name : Cal P w K mg base 1 "_law_name" ["row", "taken"] spName) (C__law_count : Cal P w K mg base 1 "_law_count" ["row", "size"] spCount) (C__law_grow : Cal P w K mg base 13 "_law_grow" ["rows", "at", "many", "deep", "names", "mode"] (spGrow 11))
    (C__law_right : Cal P w K mg base 17 "_law_right" ["plan", "size", "counts"] spRight) : FnOk P w K mg base CX0 18 f fd ["script"] (spLaw K) := by
  refine F.ok sc_law (fun vs H Q E h => ?_) (fun cdv A outer s H vs Q E hr h => ?_)
  · obtain ⟨a, ns, rfl, _⟩ := h
    rfl
  obtain ⟨a, ns, rfl, hS, h63, q⟩ := h
  refine ⟨_, (pss_cons (ps_set (i := 1) sc_law.nd rfl (Or.inl rfl) (pe_cal C__law_digits (hr.mono (by omega)) rfl (pa_cons (pe_cal C__law_cell (hr.mono (by omega)) rfl (pa_cons (pv 0) (pa_cons pe_int pa_nil))) (pa_cons (pe_lst (pa_cons pe_int (pa_cons pe_int (pa_cons pe_int (pa_cons pe_int (pa_cons pe_int (pa_cons pe_int (pa_cons pe_int (pa_cons pe_int pa_nil))))))))) pa_nil))))
  (pss_cons (ps_set (i := 2) sc_law.nd rfl (Or.inl rfl) (pe_lst pa_nil))
  (pss_cons (ps_set (i := 3) sc_law.nd rfl (Or.inl rfl) (pe_lst pa_nil))
  (pss_cons (ps_for PassesOwn.never rfl (pi_range1 (by rfl) T.b_range (pa_cons (pe_op op_add pe_int (pe_ix ix_list (pv 1) pe_int (fun _ _ => rfl))) pa_nil)) (pg_name (i := 4) sc_law.nd rfl (Or.inl rfl)) (pss_cons (ps_set (i := 5) sc_law.nd rfl (Or.inl rfl) (pe_cal C__law_digits (hr.mono (by omega)) rfl (pa_cons (pe_cal C__law_cell (hr.mono (by omega)) rfl (pa_cons (pv 0) (pa_cons (pe_op op_add pe_int (pv 4)) pa_nil))) (pa_cons (pe_op op_cat (pe_op op_cat (pe_lst (pa_cons pe_int (pa_cons pe_int pa_nil))) (pe_op op_rep (pe_lst (pa_cons pe_int pa_nil)) pe_int)) (pe_lst (pa_cons pe_int (pa_cons pe_int (pa_cons pe_int (pa_cons (pe_op op_pow pe_int pe_int) (pa_cons (pe_op op_pow pe_int pe_int) pa_nil))))))) pa_nil))))
  (pss_cons (ps_expr (pe_bm PySem.F.plainAttrs_list PySem.F.slot_list_append PySem.F.type_list_append mt_append (pv 3) (pa_cons (pe_cal C__law_name (hr.mono (by omega)) rfl (pa_cons (pv 5) (pa_cons (pv 3) pa_nil))) pa_nil)))
  (pss_one (ps_expr (pe_bm PySem.F.plainAttrs_list PySem.F.slot_list_append PySem.F.type_list_append mt_append (pv 2) (pa_cons (pe_tup (pa_cons (pe_ix ix_list (pv 3) (pv 4) (fun _ _ => rfl)) (pa_cons (pe_cal C__law_count (hr.mono (by omega)) rfl (pa_cons (pv 5) (pa_cons (pe_ix ix_list (pv 1) pe_int (fun _ _ => rfl)) pa_nil))) pa_nil))) pa_nil)))))))
  (pss_cons (ps_set (i := 6) sc_law.nd rfl (Or.inl rfl) (pe_callTy call_list_of (by rfl) T.b_list (by decide +kernel) (pa_cons (pv 3) pa_nil)))
  (C8.pss_cut (ps_if (pt_cmpR op_eq (pe_ix ix_list (pv 1) pe_int (fun _ _ => rfl)) pe_int (nomark _)) (pss_one (ps_for PassesOwn.never rfl (pi_range1 (by rfl) T.b_range (pa_cons pe_int pa_nil)) (pg_name (i := 4) sc_law.nd rfl (Or.inl rfl)) (pss_cons (ps_set (i := 5) sc_law.nd rfl (Or.inl rfl) (pe_cal C__law_digits (hr.mono (by omega)) rfl (pa_cons (pe_cal C__law_cell (hr.mono (by omega)) rfl (pa_cons (pv 0) (pa_cons (pe_op op_add pe_int (pv 4)) pa_nil))) (pa_cons (pe_op op_cat (pe_lst (pa_cons pe_int (pa_cons pe_int pa_nil))) (pe_op op_rep (pe_lst (pa_cons pe_int pa_nil)) pe_int)) pa_nil))))
  (pss_one (ps_expr (pe_bm PySem.F.plainAttrs_list PySem.F.slot_list_append PySem.F.type_list_append mt_append (pv 6) (pa_cons (pe_cal C__law_name (hr.mono (by omega)) rfl (pa_cons (pv 5) (pa_cons (pv 6) pa_nil))) pa_nil))))))) pss_nil)
  (pss_cons (ps_setLc (i := 7) (own := [("k", 4)]) (g := gName 4) (tt := tYes) (by rfl) sc_law.nd rfl rfl (sw_true rfl rfl rfl (by decide +kernel)) (pi_range1 (by rfl) T.b_range (pa_cons pe_int pa_nil)) (blkOk_by (N := N_law) (sc := defScope s_law) (by decide +kernel)) (fun _ _ _ _ _ => (pg_name (i := 4) sc_law.nd rfl (Or.inl rfl))) (fun _ _ _ _ _ => pts_nil) (fun _ _ _ _ _ => (pe_cal C__law_digits (hr.mono (by omega)) rfl (pa_cons (pe_cal C__law_cell (hr.mono (by omega)) rfl (pa_cons (pv 0) (pa_cons (pe_op op_add pe_int (pv 4)) pa_nil))) (pa_cons (pe_lst (pa_cons pe_int (pa_cons pe_int (pa_cons pe_int (pa_cons pe_int (pa_cons pe_int (pa_cons pe_int pa_nil))))))) pa_nil)))))
  (pss_cons (ps_set (i := 8) sc_law.nd rfl (Or.inl rfl) (pe_ix ix_list (pe_lst (pa_cons (pe_op op_add pe_int (pe_op op_mod (pe_callTy call_int1 (by rfl) T.b_int (by decide +kernel) (pa_cons (pe_ix ix_list (pv 1) pe_int (fun _ _ => rfl)) pa_nil)) pe_int)) (pa_cons (pe_op op_add pe_int (pe_ix ix_list (pv 1) pe_int (fun _ _ => rfl))) (pa_cons pe_int (pa_cons pe_int pa_nil))))) (pe_callB (call_max2 rfl) (by rfl) T.b_max (by decide +kernel) (pa_cons pe_int (pa_cons (pe_op op_sub (pe_ix ix_list (pv 1) pe_int (fun _ _ => rfl)) pe_int) pa_nil))) (fun _ _ => rfl)))
  (pss_cons (ps_set (i := 9) sc_law.nd rfl (Or.inl rfl) pe_int)
  (C8.pss_cut (ps_if (pt_cmpR op_lt (pe_ix ix_list (pv 1) pe_int (fun _ _ => rfl)) pe_int (nomark _)) (pss_one (ps_set (i := 9) sc_law.nd rfl (Or.inl rfl) (pe_op op_sub pe_int (pe_op op_mod (pe_callTy call_int1 (by rfl) T.b_int (by decide +kernel) (pa_cons (pe_ix ix_list (pv 1) pe_int (fun _ _ => rfl)) pa_nil)) pe_int)))) pss_nil)
  (pss_cons (ps_set (i := 10) sc_law.nd rfl (Or.inl rfl) (pe_cal C__law_grow (hr.mono (by omega)) rfl (pa_cons (pv 7) (pa_cons pe_int (pa_cons (pv 8) (pa_cons (pv 9) (pa_cons (pv 6) (pa_cons (pe_callB (call_max2 rfl) (by rfl) T.b_max (by decide +kernel) (pa_cons pe_int (pa_cons (pe_op op_sub (pe_ix ix_list (pv 1) pe_int (fun _ _ => rfl)) pe_int) pa_nil))) pa_nil))))))))
  (pss_cons (ps_set (i := 11) sc_law.nd rfl (Or.inl rfl) (pe_op op_mod (pe_callTy call_int1 (by rfl) T.b_int (by decide +kernel) (pa_cons (pe_ix ix_list (pv 1) pe_int (fun _ _ => rfl)) pa_nil)) (pe_callB call_len_seq (by rfl) T.b_len PySem.boot_len (pa_cons (pv 2) pa_nil))))
  (pss_cons (ps_set (i := 12) sc_law.nd rfl (Or.inl rfl) (pe_op op_cat (pe_slice sl_list (pv 2) po_none (po_some (pv 11))) (pe_slice sl_list (pv 2) (po_some (pe_op op_add (pv 11) pe_int)) po_none)))
  (pss_cons (ps_set (i := 13) sc_law.nd rfl (Or.inl rfl) (pe_callTy call_list_of (by rfl) T.b_list (by decide +kernel) (pa_cons (pv 2) pa_nil)))
  (C8.pss_cut (ps_if (pt_cmpR op_eq (pe_ix ix_list (pv 1) pe_int (fun _ _ => rfl)) pe_int (nomark _)) (pss_one (ps_setLc (i := 13) (own := [("pair", 14)]) (g := gName 14) (tt := tYes) (by rfl) sc_law.nd rfl rfl (sw_true rfl rfl rfl (by decide +kernel)) (pi_list (pv 2)) (blkOk_by (N := N_law) (sc := defScope s_law) (by decide +kernel)) (fun _ _ _ _ _ => (pg_name (i := 14) sc_law.nd rfl (Or.inl rfl))) (fun _ _ _ _ _ => pts_nil) (fun _ _ _ _ _ => (pe_callTy (call_list_ofK (K := K) rfl) (by rfl) T.b_list (by decide +kernel) (pa_cons (pv 14) pa_nil))))) pss_nil)
  (pss_cons (ps_if (PW.pt (pw_or (pt_not (pt_val (pe_cal C__law_right (hr.mono (by omega)) rfl (pa_cons (pv 10) (pa_cons (pe_ix ix_list (pv 1) pe_int (fun _ _ => rfl)) (pa_cons (pv 13) pa_nil)))))) (pw_or1 (pt_not (pt_val (pe_cal C__law_right (hr.mono (by omega)) rfl (pa_cons (pv 10) (pa_cons (pe_ix ix_list (pv 1) pe_int (fun _ _ => rfl)) (pa_cons (pv 12) pa_nil))))))))) (pss_one (ps_ret pe_bl)) pss_nil)
  (pss_cons (ps_if (pt_not (pt_val (pe_cal C__law_right (hr.mono (by omega)) rfl (pa_cons (pv 10) (pa_cons (pe_ix ix_list (pv 1) pe_int (fun _ _ => rfl)) (pa_cons (pe_lst pa_nil) pa_nil)))))) (pss_one (ps_ret pe_bl)) pss_nil)
  (C8.pss_cut (ps_if (PW.pt (pw_and (pt_cmpR op_ne (pe_ix ix_tup (pv 10) pe_int (fun _ _ => rfl)) pe_str (nomark _)) (pw_and1 (pt_not (pt_val (pe_cal C__law_right (hr.mono (by omega)) rfl (pa_cons (pe_ix ix_tup (pv 10) (pe_op op_sub (pe_callB call_len_seq (by rfl) T.b_len PySem.boot_len (pa_cons (pv 10) pa_nil)) pe_int) (fun _ _ => rfl)) (pa_cons (pe_ix ix_list (pv 1) pe_int (fun _ _ => rfl)) (pa_cons (pv 13) pa_nil))))))))) (pss_one (ps_ret pe_bl)) pss_nil)
  (pss_cons (ps_if (pt_not (pt_val (pe_cal C__law_right (hr.mono (by omega)) rfl (pa_cons (pv 10) (pa_cons (pe_ix ix_list (pv 1) pe_int (fun _ _ => rfl)) (pa_cons (pe_callTy call_tuple_of (by rfl) T.b_tuple (by decide +kernel) (pa_cons (pv 13) pa_nil)) pa_nil)))))) (pss_one (ps_ret pe_bl)) pss_nil)
  (pss_one (ps_ret (pe_cmpR (op_eqD hr.units) (pe_lc (own := [("pair", 14)]) (g := gName 14) (tt := tYes) (by rfl) sc_law.nd (pi_list (pv 13)) (blkOk_by (N := N_law) (sc := defScope s_law) (by decide +kernel)) (fun _ _ _ _ _ => (pg_name (i := 14) sc_law.nd rfl (Or.inl rfl))) (fun _ _ _ _ _ => pts_nil) (fun _ _ _ _ _ => (pe_callTy (call_tuple_ofK (K := K) rfl) (by rfl) T.b_tuple (by decide +kernel) (pa_cons (pv 14) pa_nil)))) (pv 2) (nomark _))))))))))))))))))))))), ?_⟩
  -- shape
  refine ⟨_, rfl, a, ns, 0, rfl, hS, by decide, by decide, fun c0 => ?_⟩
  refine ⟨line_ge (by show 8 ≤ _; omega), fun p1 hp1 => ?_⟩
  refine ⟨c0, p1, [11, 12, 8, 40, 12, 4, 3, 12], rfl, SqL.of upd_same, by decide, by decide +kernel, fun ps ds hps hdig => ?_⟩
  have g1 := (same_new hp1 (.lst [V.int 11, V.int 12, V.int 8, V.int 40, V.int 12, V.int 4, V.int 3, V.int 12])).trans (same_new hps (.lst (ds.map V.int)))
  have hshape : upd (upd H p1 (.lst [V.int 11, V.int 12, V.int 8, V.int 40, V.int 12, V.int 4, V.int 3, V.int 12])) ps (.lst (ds.map V.int)) ps = some (.lst (ds.map V.int)) := upd_same
  generalize upd (upd H p1 (.lst [V.int 11, V.int 12, V.int 8, V.int 40, V.int 12, V.int 4, V.int 3, V.int 12])) ps (.lst (ds.map V.int)) = H1 at g1 hshape
  have dig : ∀ (i : Nat) (z : Int), ([11, 12, 8, 40, 12, 4, 3, 12] : List Int)[i]? = some z → ∃ n, (ds.map V.int)[i]? = some (.int n) ∧ 0 ≤ n ∧ n < z := fun i z h => by
    obtain ⟨n, h1, h2, h3⟩ := hdig.get h
    exact ⟨n, int_at h1, h2, h3⟩
  obtain ⟨d0, e0, a0, b0⟩ := dig 0 11 rfl
  obtain ⟨d1, e1, a1, b1⟩ := dig 1 12 rfl
  obtain ⟨d2, e2, a2, b2⟩ := dig 2 8 rfl
  obtain ⟨d3, e3, a3, b3⟩ := dig 3 40 rfl
  obtain ⟨d4, e4, a4, b4⟩ := dig 4 12 rfl
  obtain ⟨d5, e5, a5, b5⟩ := dig 5 4 rfl
  obtain ⟨d6, e6, a6, b6⟩ := dig 6 3 rfl
  obtain ⟨d7, e7, a7, b7⟩ := dig 7 12 rfl
  -- counts, names
  refine ⟨Nat.zero_le _, fun pc hpc => ?_⟩
  refine ⟨Nat.zero_le _, fun pn hpn => ?_⟩
  have hnc : pc ≠ pn := ne_of_none upd_same hpn
  have hpn1 : H1 pn = none := (same_new hpc _).free hpn
  have g12 := (same_new hpc (.lst [])).trans (same_new hpn (.lst []))
  refine ⟨_, rfl, ps, _, 1, _, rfl, rfl, SqL.of (g12 _ _ hshape), at_pos (by decide) e1, _, _, rfl, rfl, 1 + d1, rfl, by omega, by omega, for_range (lo := 0) (n := (1 + d1).toNat) (fun i σ H' => ∃ (v4 v5 : Option V) (bs : List Addr) (cs : List (List Nat × Int)), σ = [some (.ref a), some (.ref ps), some (.ref pc), some (.ref pn), v4, v5, none, none, none, none, none, none, none, none, none] ∧ Cn H1 H' pc pn bs cs ∧ cs.length = i)
    ⟨none, none, [], [], rfl, ⟨g12, same_new hpn _ _ _ upd_same, upd_same, .nil, (fun c hc => nomatch hc), (fun c hc => nomatch hc)⟩, rfl⟩ ?_ ?_⟩
  · rintro i σ H2 hi ⟨v4, v5, bs, cs, rfl, cn, hlen⟩
    have hi12 : i < 12 := by omega
    refine ⟨_, rfl, _, rfl, _, _, rfl, rfl, a, ns, _, rfl, cn.same.seq (g1.seq hS), by omega, by omega, fun c => ?_⟩
    refine ⟨two_line, fun q1 h1 => ⟨line_ge (by show 1 ≤ _; omega), fun q2 h2 => ⟨q2, 8, _, rfl, rfl, upd_same, by decide, by decide, line_ge (by show 1 * 8 ≤ _; omega), fun q3 h3 => ?_⟩⟩⟩
    refine ⟨q1, q3, _, _, rfl, rfl, same_new h3 _ _ _ (same_new h2 _ _ _ upd_same), upd_same, line_ge (by show 2 + 8 ≤ _; omega), fun q4 h4 => ?_⟩
    refine ⟨_, _, rfl, rfl, ⟨by decide, by decide, by decide⟩, _, _, rfl, rfl, ⟨by decide, by decide, by decide⟩, line_ge (by show 5 ≤ _; omega), fun q5 h5 => ?_⟩
    refine ⟨q4, q5, _, _, rfl, rfl, same_new h5 _ _ _ upd_same, upd_same, line_ge (by show 10 + 5 ≤ _; omega), fun q6 h6 => ?_⟩
    refine ⟨c, q6, cntSizes, rfl, SqL.of upd_same, by decide, cnt_bounds, fun pr es hpr hes => ?_⟩
    have gx := (same_new h1 _).trans ((same_new h2 _).trans ((same_new h3 _).trans ((same_new h4 _).trans ((same_new h5 _).trans ((same_new h6 _).trans (same_new hpr (.lst (es.map V.int))))))))
    have hn3 := gx _ _ cn.n
    have hcs9 : cs.length ≤ 12 := by omega
    have hnl : (nmV (cs.map (·.1))).length = cs.length := by unfold nmV; rw [List.length_map, List.length_map]
    refine ⟨_, rfl, .inl ⟨rfl, _, SqL.of hn3⟩, _, rfl, _, rfl, pr, pn, es, cntSizes, cs.map (·.1), rfl, upd_same, hes, rfl, hn3, (fun n hn => by obtain ⟨x, hx, rfl⟩ := List.mem_map.mp hn; exact cn.nm x hx), by rw [List.length_map]; omega, fun n H4 g4 hnm => ?_⟩
    have hn4 := g4 _ _ hn3
    refine ⟨pn, _, _, rfl, rfl, hn4, by rw [hnl]; exact small1000 (by omega), ?_⟩
    have s4 : Same H1 H4 := cn.same.trans (gx.trans g4)
    have s5 : Same H1 (upd H4 pn (.lst (nmV (cs.map (·.1)) ++ [.str (S n)]))) := same_at s4 hpn1
    have hc4 := g4 _ _ (gx _ _ cn.c)
    have hc5 : (upd H4 pn (.lst (nmV (cs.map (·.1)) ++ [.str (S n)]))) pc = some (.lst (bs.map V.ref)) := by rw [upd_ne hnc]; exact hc4
    have hr4 : H4 pr = some (.lst (es.map V.int)) := g4 _ _ upd_same
    have hprn : pr ≠ pn := Ne.symm (ne_of_none ((same_new h1 _).trans ((same_new h2 _).trans ((same_new h3 _).trans ((same_new h4 _).trans ((same_new h5 _).trans (same_new h6 _))))) _ _ cn.n) hpr)
    have hr5 : (upd H4 pn (.lst (nmV (cs.map (·.1)) ++ [.str (S n)]))) pr = some (.lst (es.map V.int)) := by rw [upd_ne hprn]; exact hr4
    refine ⟨_, rfl, .inl ⟨rfl, _, SqL.of hc5⟩, ?_⟩
    refine ⟨_, rfl, _, rfl, pn, _, _, .str (S n), rfl, rfl, SqL.of upd_same, at_pos (by omega) ?_, ?_⟩
    · rw [show ((0 : Int) + (i : Nat)).toNat = i by omega, List.getElem?_append_right (by omega), hnl, hlen, Nat.sub_self]
      rfl
    refine ⟨_, rfl, _, rfl, ps, _, 0, _, rfl, rfl, SqL.of (s5 _ _ hshape), at_pos (by decide) e0, pr, d0, es, rfl, hr5, hes, a0, by omega, fun cv H6 g6 cv0 cvB => ?_⟩
    refine ⟨two_line, fun u hu => ?_⟩
    have s7 := (s5.trans g6).trans (same_new hu (.tup [.str (S n), .int cv]))
    have hc6 := g6 _ _ hc5
    have hc7 : (upd H6 u (.tup [.str (S n), .int cv])) pc = some (.lst (bs.map V.ref)) := same_new hu _ _ _ hc6
    have hbl : bs.length = cs.length := Paired.len cn.p
    refine ⟨pc, _, _, rfl, rfl, hc7, by rw [List.length_map]; exact small1000 (by omega), ?_⟩
    have huc : u ≠ pc := Ne.symm (ne_of_none hc6 hu)
    refine ⟨_, _, bs ++ [u], cs ++ [(n, cv)], rfl, ⟨same_at s7 hpc, ?_, ?_, Paired.snoc (L2.Paired.mapP cn.p fun b c h => ?_) ?_, ?_, ?_⟩, by rw [List.length_append, hlen]; rfl⟩
    · rw [upd_same, List.map_append]
      rfl
    · rw [upd_ne (Ne.symm hnc)]
      refine same_new hu _ _ _ (g6 _ _ ?_)
      rw [upd_same]
      simp only [nmV, List.map_append]
      rfl
    · have h4 := g4 _ _ (gx _ _ h)
      have n1 : b ≠ pn := fun e => by rw [e, hn4] at h4; cases h4
      have h5 : (upd H4 pn (.lst (nmV (cs.map (·.1)) ++ [.str (S n)]))) b = some (.tup [.str (S c.1), .int c.2]) := by rw [upd_ne n1]; exact h4
      have h6 := g6 _ _ h5
      have n2 : b ≠ pc := fun e => by rw [e, hc6] at h6; cases h6
      show upd _ pc _ b = _
      rw [upd_ne n2]
      exact same_new hu _ _ _ h6
    · show upd _ pc _ u = _
      rw [upd_ne huc]
      exact upd_same
    · intro x hx
      rcases List.mem_append.mp hx with hx | hx
      · exact cn.ok x hx
      · rw [List.mem_singleton.mp hx]
        exact ⟨cv0, cvB⟩
    · intro x hx
      rcases List.mem_append.mp hx with hx | hx
      · exact cn.nm x hx
      · rw [List.mem_singleton.mp hx]
        exact hnm
  rintro σ H2 ⟨v4, v5, bs, cs, rfl, cn, hlen⟩
  have hc12 : 1 ≤ cs.length ∧ cs.length ≤ 12 := by omega
  have hbl : bs.length = cs.length := Paired.len cn.p
  -- takes
  refine ⟨_, rfl, pn, _, rfl, .inl (SqL.of cn.n), fun pt hpt => ?_⟩
  have hnmn : ∀ n ∈ cs.map (·.1), Nm n := fun n hn => by
    obtain ⟨x, hx, rfl⟩ := List.mem_map.mp hn
    exact cn.nm x hx
  have gt := same_new hpt (.lst (nmV (cs.map (·.1))))
  have hsh2 := cn.same _ _ hshape
  refine ⟨fun σ H' => ∃ (v4 v5 : Option V) (ts : List (List Nat)), σ = [some (.ref a), some (.ref ps), some (.ref pc), some (.ref pn), v4, v5, some (.ref pt), none, none, none, none, none, none, none, none] ∧ Same H2 H' ∧ NmsAt H' pt ts, ?_, ?_⟩
  · refine ⟨_, rfl, ps, _, 5, _, rfl, rfl, SqL.of (gt _ _ hsh2), at_pos (by decide) e5, rfl, _, rfl, ?_⟩
    refine ite2 (fun _ => ?_) (fun _ => ⟨v4, v5, cs.map (·.1), rfl, gt, upd_same, hnmn, by rw [List.length_map]; omega, by rw [List.length_map]; omega⟩)
    refine ⟨2, rfl, by decide, by decide, for_range (lo := 0) (n := (2 : Int).toNat) (fun i σ H' => ∃ (v4 v5 : Option V) (ts : List (List Nat)), σ = [some (.ref a), some (.ref ps), some (.ref pc), some (.ref pn), v4, v5, some (.ref pt), none, none, none, none, none, none, none, none] ∧ Same H2 H' ∧ H' pt = some (.lst (nmV ts)) ∧ (∀ n ∈ ts, Nm n) ∧ ts.length = cs.length + i)
      ⟨v4, v5, cs.map (·.1), rfl, gt, upd_same, hnmn, by rw [List.length_map]; rfl⟩ ?_ ?_⟩
    · rintro i σ H3 hi ⟨w4, w5, ts, rfl, g3, ht3, hts, hl3⟩
      have hi2 : i < 2 := hi
      refine ⟨_, rfl, _, rfl, _, _, rfl, rfl, a, ns, _, rfl, (cn.same.trans g3).seq (g1.seq hS), by omega, by omega, fun c => ?_⟩
      refine ⟨two_line, fun q1 h1 => ⟨line_ge (by show 1 ≤ _; omega), fun q2 h2 => ⟨q2, 8, _, rfl, rfl, upd_same, by decide, by decide, line_ge (by show 1 * 8 ≤ _; omega), fun q3 h3 => ?_⟩⟩⟩
      refine ⟨q1, q3, _, _, rfl, rfl, same_new h3 _ _ _ (same_new h2 _ _ _ upd_same), upd_same, line_ge (by show 2 + 8 ≤ _; omega), fun q4 h4 => ?_⟩
      refine ⟨c, q4, nameSizes, rfl, SqL.of upd_same, by decide, name_bounds, fun pr es hpr hes => ?_⟩
      have gx := (same_new h1 _).trans ((same_new h2 _).trans ((same_new h3 _).trans ((same_new h4 _).trans (same_new hpr (.lst (es.map V.int))))))
      have ht4 := gx _ _ ht3
      refine ⟨_, rfl, .inl ⟨rfl, _, SqL.of ht4⟩, _, rfl, _, rfl, pr, pt, es, nameSizes, ts, rfl, upd_same, hes, rfl, ht4, hts, by omega, fun n H4 g4 hnm => ?_⟩
      have ht5 := g4 _ _ ht4
      have hnl : (nmV ts).length = ts.length := List.length_map ..
      refine ⟨pt, _, _, rfl, rfl, ht5, by rw [hnl]; exact small1000 (by omega), ?_⟩
      refine ⟨_, _, ts ++ [n], rfl, same_at (g3.trans (gx.trans g4)) hpt, ?_, ?_, by rw [List.length_append, hl3]; rfl⟩
      · rw [upd_same]
        simp only [nmV, List.map_append]
        rfl
      · intro x hx
        rcases List.mem_append.mp hx with hx | hx
        · exact hts x hx
        · rw [List.mem_singleton.mp hx]
          exact hnm
    · rintro σ H3 ⟨w4, w5, ts, rfl, g3, ht3, hts, hl3⟩
      have e2 : (2 : Int).toNat = 2 := rfl
      exact ⟨w4, w5, ts, rfl, g3, ht3, hts, by omega, by omega⟩
  rintro σ H3 ⟨w4, w5, ts, rfl, g3, hN⟩
  -- rows
  refine ⟨40, rfl, by decide, by decide, fun D hD => ?_⟩
  refine lc_range (lo := 0) (n := (40 : Int).toNat) (fun i H' => Same H3 H' ∧ ∃ as : List Addr, as.length = i ∧ H' D = some (.lst (as.map V.ref)) ∧ ∀ b ∈ as, b ≠ D ∧ ∃ ds : List Int, H' b = some (.lst (ds.map V.int)) ∧ Dig ds growSizes)
    ⟨same_new hD _, [], rfl, upd_same, (fun b hb => nomatch hb)⟩ ?_ ?_
  · rintro i H4 hlt ⟨g4, as, has, hd4, hall⟩
    have hi40 : i < 40 := hlt
    refine ⟨rfl, lc_yes ?_⟩
    refine ⟨_, rfl, _, rfl, _, _, rfl, rfl, a, ns, _, rfl, (cn.same.trans (g3.trans g4)).seq (g1.seq hS), by omega, by omega, fun c => ?_⟩
    refine ⟨line_ge (by show 6 ≤ _; omega), fun q1 h1 => ?_⟩
    refine ⟨c, q1, growSizes, rfl, SqL.of upd_same, by decide, grow_bounds, fun p es hp hes => ?_⟩
    have gx := (same_new h1 _).trans (same_new hp (.lst (es.map V.int)))
    have hd5 := gx _ _ hd4
    have hpD : p ≠ D := Ne.symm (ne_of_none (same_new h1 _ _ _ hd4) hp)
    refine ⟨_, hd5, by rw [List.length_map, has]; exact small1000 (by omega), same_at (g4.trans gx) hD, as ++ [p], by rw [List.length_append, has]; rfl, by rw [upd_same, List.map_append]; rfl, fun b hb => ?_⟩
    rcases List.mem_append.mp hb with hb | hb
    · obtain ⟨hbD, es', hb1, hb2⟩ := hall b hb
      exact ⟨hbD, es', by rw [upd_ne hbD]; exact gx _ _ hb1, hb2⟩
    · rw [List.mem_singleton.mp hb]
      exact ⟨hpD, es, by rw [upd_ne hpD]; exact upd_same, hes⟩
  rintro H4 ⟨g4, as, has, hd4, hall⟩
  have has40 : as.length = 40 := has
  have hR : RowsAt H4 D as := ⟨hd4, fun b hb => (hall b hb).2⟩
  have hN4 := hN.same g4
  have cn4 := cn.keep (g3.trans g4)
  have hsh4 := cn4.same _ _ hshape
  -- many
  refine ⟨_, rfl, ps, _, 3, _, rfl, rfl, SqL.of hsh4, at_pos (by decide) e3, .inl ⟨_, rfl, _, _, rfl, rfl, (by show (0 : Int) < 14; decide), _, _, rfl, rfl, ?_⟩⟩
  refine ⟨_, rfl, ps, _, 3, _, rfl, rfl, SqL.of hsh4, at_pos (by decide) e3, _, _, rfl, rfl, line_ge (by show 4 ≤ _; omega), fun p7 hp7 => ?_⟩
  have g5 := same_new hp7 (.lst [V.int (1 + d3 % 14), V.int (1 + d3), V.int 40, V.int 12])
  obtain ⟨many, hmany, hm1, hm40⟩ := many_at a2 b2 a3 b3
  refine ⟨_, rfl, ps, _, 2, _, rfl, rfl, SqL.of (g5 _ _ hsh4), at_pos (by decide) e2, _, _, rfl, rfl, _, _, rfl, p7, _, _, _, rfl, rfl, SqL.of upd_same, hmany, ?_⟩
  have hR5 := hR.same g5
  have hN5 := hN4.same g5
  have cn5 := cn4.keep g5
  have hsh5 := g5 _ _ hsh4
  generalize upd H4 p7 (.lst [V.int (1 + d3 % 14), V.int (1 + d3), V.int 40, V.int 12]) = H5 at hR5 hN5 cn5 hsh5
  -- deep
  refine ⟨fun σ H' => ∃ deep : Int, σ = [some (.ref a), some (.ref ps), some (.ref pc), some (.ref pn), w4, w5, some (.ref pt), some (.ref D), some (.int many), some (.int deep), none, none, none, none, none] ∧ deep ≤ 12 ∧ H' = H5, ?_, ?_⟩
  · refine ⟨_, rfl, ps, _, 2, _, rfl, rfl, SqL.of hsh5, at_pos (by decide) e2, _, _, rfl, rfl, _, rfl, ?_⟩
    refine ite2 (fun _ => ?_) (fun _ => ⟨12, rfl, Int.le_refl 12, rfl⟩)
    have n9 : 0 ≤ d4 % 9 := Int.emod_nonneg _ (by decide)
    refine ⟨_, rfl, ps, _, 4, _, rfl, rfl, SqL.of hsh5, at_pos (by decide) e4, .inl ⟨_, rfl, _, _, rfl, rfl, (by show (0 : Int) < 9; decide), _, _, rfl, rfl, ?_⟩⟩
    exact ⟨12 - d4 % 9, rfl, by omega, rfl⟩
  rintro σ H6 ⟨deep, rfl, hdeep, rfl⟩
  refine ⟨_, rfl, _, rfl, _, rfl, _, rfl, _, rfl, ps, _, 2, _, rfl, rfl, SqL.of hsh5, at_pos (by decide) e2, _, _, rfl, rfl, _, _, rfl, ?_⟩
  refine ⟨D, pt, as, ts, 0, many, deep, _, rfl, hR5, hN5, by decide, by omega, by omega, by omega, fun pl p H7 g7 hp hg hh hc => ?_⟩
  have hh12 : pl.height ≤ 12 := by omega
  have hc40 : pl.count ≤ 40 := by omega
  have cn7 := cn5.keep g7
  have hsh7 := g7 _ _ hsh5
  -- left, less
  have hbr : (bs.map V.ref).length = cs.length := by rw [List.length_map, hbl]
  refine ⟨_, rfl, ps, _, 7, _, rfl, rfl, SqL.of hsh7, at_pos (by decide) e7, .inl ⟨_, rfl, _, rfl, pc, _, rfl, .inl (SqL.of cn7.c), _, _, rfl, rfl, by rw [hbr]; omega, ?_⟩⟩
  rw [hbr]
  have l0 : 0 ≤ d7 % (cs.length : Int) := Int.emod_nonneg _ (by omega)
  refine ⟨_, rfl, _, rfl, _, rfl, pc, _, rfl, SqL.of cn7.c, fun q1 h1 => ?_⟩
  rw [cutV_to _ l0]
  refine ⟨_, rfl, _, rfl, _, _, rfl, rfl, _, rfl, pc, _, rfl, SqL.of (same_new h1 _ _ _ cn7.c), fun q2 h2 => ?_⟩
  rw [cutV_from _ (by omega)]
  refine ⟨q1, q2, _, _, rfl, rfl, same_new h2 _ _ _ upd_same, upd_same, line_ge (by rw [List.length_take, List.length_drop, hbr]; omega), fun q3 h3 => ?_⟩
  have g8 := (same_new h1 _).trans ((same_new h2 _).trans (same_new h3 (.lst ((bs.map V.ref).take (d7 % (cs.length : Int)).toNat ++ (bs.map V.ref).drop (d7 % (cs.length : Int) + 1).toNat))))
  have cn8 := cn7.keep g8
  have hless := upd_same (H := upd (upd H7 q1 (.lst ((bs.map V.ref).take (d7 % (cs.length : Int)).toNat))) q2 (.lst ((bs.map V.ref).drop (d7 % (cs.length : Int) + 1).toNat))) (a := q3) (o := .lst ((bs.map V.ref).take (d7 % (cs.length : Int)).toNat ++ (bs.map V.ref).drop (d7 % (cs.length : Int) + 1).toNat))
  have hp8 := hp.same g8
  have hsh8 := g8 _ _ hsh7
  generalize upd (upd (upd H7 q1 (.lst ((bs.map V.ref).take (d7 % (cs.length : Int)).toNat))) q2 (.lst ((bs.map V.ref).drop (d7 % (cs.length : Int) + 1).toNat))) q3 (.lst ((bs.map V.ref).take (d7 % (cs.length : Int)).toNat ++ (bs.map V.ref).drop (d7 % (cs.length : Int) + 1).toNat)) = H8 at cn8 hless hp8 hsh8
  have cless : CntAt H8 q3 (cs.take (d7 % (cs.length : Int)).toNat ++ cs.drop (d7 % (cs.length : Int) + 1).toNat) :=
    ⟨bs.take (d7 % (cs.length : Int)).toNat ++ bs.drop (d7 % (cs.length : Int) + 1).toNat, .inl (by rw [hless, List.map_append, List.map_take, List.map_drop]), (Paired.app (Paired.take' _ (TupAt.pair cn8.p)) (Paired.drop' _ (TupAt.pair cn8.p)))⟩
  have okless : CntOk (cs.take (d7 % (cs.length : Int)).toNat ++ cs.drop (d7 % (cs.length : Int) + 1).toNat) := fun c hc => by
    rcases List.mem_append.mp hc with hc | hc
    · exact cn8.ok c (List.mem_of_mem_take hc)
    · exact cn8.ok c (List.mem_of_mem_drop hc)
  have lenless : (cs.take (d7 % (cs.length : Int)).toNat ++ cs.drop (d7 % (cs.length : Int) + 1).toNat).length ≤ 1000 := by
    rw [List.length_append, List.length_take, List.length_drop]
    omega
  generalize cs.take (d7 % (cs.length : Int)).toNat ++ cs.drop (d7 % (cs.length : Int) + 1).toNat = less at cless okless lenless
  -- passed
  refine ⟨_, rfl, pc, _, rfl, .inl (SqL.of cn8.c), fun pp hpp => ?_⟩
  have g9 := same_new hpp (.lst (bs.map V.ref))
  refine ⟨fun σ H' => ∃ (pp : Addr) (bs2 : List Addr), σ = [some (.ref a), some (.ref ps), some (.ref pc), some (.ref pn), w4, w5, some (.ref pt), some (.ref D), some (.int many), some (.int deep), some (.ref p), some (.int (d7 % (cs.length : Int))), some (.ref q3), some (.ref pp), none] ∧ Same H8 H' ∧ H' pp = some (.lst (bs2.map V.ref)) ∧ Paired (PairAt H') bs2 cs, ?_, ?_⟩
  · refine ⟨_, rfl, ps, _, 6, _, rfl, rfl, SqL.of (g9 _ _ hsh8), at_pos (by decide) e6, rfl, _, rfl, ?_⟩
    refine ite2 (fun _ => ?_) (fun _ => ⟨pp, bs, rfl, g9, upd_same, TupAt.pair (TupAt.same g9 cn8.p)⟩)
    refine ⟨_, rfl, pc, rfl, ⟨_, SqL.of (g9 _ _ cn8.c)⟩, fun D3 hD3 => ?_⟩
    refine lc_list (K := K) (a := pc) (xs := bs.map V.ref) (fun i H' => Same H8 H' ∧ ∃ bs2 : List Addr, H' D3 = some (.lst (bs2.map V.ref)) ∧ Paired (PairAt H') bs2 (cs.take i)) ⟨g9.trans (same_new hD3 _), [], upd_same, .nil⟩ (fun i H' _ z => SqL.of (z.1 _ _ cn8.c)) ?_ ?_
    · rintro i x H9 hx ⟨g10, bs2, hd9, hp9⟩
      obtain ⟨b, hb, rfl⟩ : ∃ b, bs[i]? = some b ∧ x = V.ref b := by
        rw [List.getElem?_map] at hx
        cases e : bs[i]? with
        | none => rw [e] at hx; cases hx
        | some b => rw [e] at hx; exact ⟨b, rfl, (Option.some.inj hx).symm⟩
      have hi : i < cs.length := by
        have := (List.getElem?_eq_some_iff.mp hb).1
        omega
      have hcs : cs[i]? = some cs[i] := List.getElem?_eq_getElem hi
      obtain ⟨b', hb', hpa⟩ := Paired.at cn8.p hcs
      rw [hb] at hb'
      cases hb'
      generalize hci : cs[i] = c at hcs hpa
      refine ⟨rfl, lc_yes ?_⟩
      refine ⟨_, rfl, b, _, rfl, .inr (SqT.of (g10 _ _ hpa)), fun l hl => ?_⟩
      have hb2 : bs2.length ≤ 12 := by
        have := Paired.len hp9
        rw [List.length_take] at this
        omega
      have hd10 := same_new hl (.lst [V.str (S c.1), V.int c.2]) _ _ hd9
      have hlD : l ≠ D3 := Ne.symm (ne_of_none hd9 hl)
      have hD8 : H8 D3 = none := g9.free hD3
      refine ⟨_, hd10, by rw [List.length_map]; exact small1000 (by omega), same_at (g10.trans (same_new hl _)) hD8, bs2 ++ [l], by rw [upd_same, List.map_append]; rfl, ?_⟩
      rw [take_snoc hcs]
      refine Paired.snoc (L2.Paired.mapP hp9 fun x y hxy => ?_) (.inl ?_)
      · have hx1 : H9 x = some (.lst [.str (S y.1), .int y.2]) ∨ H9 x = some (.tup [.str (S y.1), .int y.2]) := hxy
        have hxD : x ≠ D3 := fun e => by
          rcases hx1 with z | z
          · rw [e, hd9] at z
            exact no_ref bs2 _ _ (HO.lst.inj (Option.some.inj z))
          · rw [e, hd9] at z
            cases z
        exact hx1.imp (fun z => by rw [upd_ne hxD]; exact same_new hl _ _ _ z) (fun z => by rw [upd_ne hxD]; exact same_new hl _ _ _ z)
      · rw [upd_ne hlD]
        exact upd_same
    · rintro H9 ⟨g10, bs2, hd9, hp9⟩
      rw [hbr, List.take_length] at hp9
      exact ⟨D3, bs2, rfl, g10, hd9, hp9⟩
  rintro σ H9 ⟨pp', bs2, rfl, g10, hpp9, hp9⟩
  have hp9' := hp8.same g10
  have hsh9 := g10 _ _ hsh8
  have cn9 := cn8.keep g10
  have hcp9 : CntAt H9 pp' cs := ⟨bs2, .inl hpp9, hp9⟩
  have less9 := cless.same g10
  have len9 : cs.length ≤ 1000 := by omega
  -- passed and less
  refine ⟨_, rfl, _, rfl, ps, _, 0, _, rfl, rfl, SqL.of hsh9, at_pos (by decide) e0, _, rfl, pl, p, pp', d0, cs, rfl, hp9', hg, hh12, by omega, a0, by omega, hcp9, len9, cn9.ok, fun H10 g11 => ?_⟩
  refine ⟨_, rfl, ifF rfl ?_⟩
  refine ⟨_, rfl, _, rfl, ps, _, 0, _, rfl, rfl, SqL.of (g11 _ _ hsh9), at_pos (by decide) e0, _, rfl, pl, p, q3, d0, less, rfl, hp9'.same g11, hg, hh12, by omega, a0, by omega, less9.same g11, lenless, okless, fun H11 g12 => ?_⟩
  refine ⟨_, rfl, ifF rfl ?_⟩
  have k11 := g11.trans g12
  -- nothing
  refine ⟨_, rfl, _, rfl, ps, _, 0, _, rfl, rfl, SqL.of (k11 _ _ hsh9), at_pos (by decide) e0, Nat.zero_le _, fun p0 hp0 => ?_⟩
  refine ⟨pl, p, p0, d0, [], rfl, hp9'.same (k11.trans (same_new hp0 _)), hg, hh12, by omega, a0, by omega, ⟨[], .inl upd_same, .nil⟩, by decide, (fun c hc => nomatch hc), fun H12 g13 => ?_⟩
  refine ⟨_, rfl, ifF rfl ?_⟩
  have k12 := (k11.trans (same_new hp0 _)).trans g13
  -- the last plan in it
  refine ⟨fun σ H' => σ = [some (.ref a), some (.ref ps), some (.ref pc), some (.ref pn), w4, w5, some (.ref pt), some (.ref D), some (.int many), some (.int deep), some (.ref p), some (.int (d7 % (cs.length : Int))), some (.ref q3), some (.ref pp'), none] ∧ Same H9 H', ?_, ?_⟩
  · rcases last_of hp9' hg with ⟨n, rfl⟩ | ⟨tag, x, pa, ys, n1, ar, hx1, hx2, gx⟩
    · have ho := k12 _ _ (hp9' : H9 p = _)
      refine ⟨_, rfl, p, _, 0, _, rfl, rfl, SqT.of ho, at_pos (by decide) rfl, rfl, _, rfl, ifF (by decide +kernel) ?_⟩
      exact ⟨rfl, k12⟩
    · have ho := k12 _ _ ar.at_
      refine ⟨_, rfl, p, _, 0, _, rfl, rfl, SqT.of ho, at_pos (by decide) rfl, rfl, _, rfl, ifT (by rw [dec_ne (fun e => n1 (V.str.inj e))]; rfl) ?_⟩
      refine ⟨_, rfl, _, rfl, p, _, rfl, .inr (SqT.of ho), _, _, rfl, rfl, p, _, _, _, rfl, rfl, SqT.of ho, ar.last, ?_⟩
      refine ⟨_, rfl, ps, _, 0, _, rfl, rfl, SqL.of (k12 _ _ hsh9), at_pos (by decide) e0, _, rfl, x, pa, pp', d0, cs, rfl, ar.sub.same k12, gx, by omega, by omega, a0, by omega, hcp9.same k12, len9, cn9.ok, fun H13 g14 => ?_⟩
      exact ⟨_, rfl, ifF rfl ⟨rfl, k12.trans g14⟩⟩
  rintro σ H13 ⟨rfl, k13⟩
  -- as a tuple
  refine ⟨_, rfl, _, rfl, ps, _, 0, _, rfl, rfl, SqL.of (k13 _ _ hsh9), at_pos (by decide) e0, _, rfl, pp', _, rfl, .inl ⟨SqL.of (k13 _ _ hpp9), fun pq hpq => ?_⟩⟩
  have gq := k13.trans (same_new hpq (.tup (bs2.map V.ref)))
  refine ⟨pl, p, pq, d0, cs, rfl, hp9'.same gq, hg, hh12, by omega, a0, by omega, ⟨bs2, .inr upd_same, PairAt.same gq hp9⟩, len9, cn9.ok, fun H14 g15 => ?_⟩
  refine ⟨_, rfl, ifF rfl ?_⟩
  have k14 := gq.trans g15
  have hpp14 := k14 _ _ hpp9
  have hp14 := PairAt.same k14 hp9
  have cn14 := cn9.keep k14
  have hb2 : bs2.length = cs.length := Paired.len hp9
  refine ⟨_, rfl, pp', rfl, ⟨_, SqL.of hpp14⟩, fun D4 hD4 => ?_⟩
  refine lc_list (K := K) (a := pp') (xs := bs2.map V.ref) (fun i H' => Same H14 H' ∧ ∃ bs4 : List Addr, H' D4 = some (.lst (bs4.map V.ref)) ∧ Paired (TupAt H') bs4 (cs.take i)) ⟨same_new hD4 _, [], upd_same, .nil⟩ (fun i H' _ z => SqL.of (z.1 _ _ hpp14)) ?_ ?_
  · rintro i x H15 hx ⟨g16, bs4, hd15, hp15⟩
    obtain ⟨b, hb, rfl⟩ : ∃ b, bs2[i]? = some b ∧ x = V.ref b := by
      rw [List.getElem?_map] at hx
      cases e : bs2[i]? with
      | none => rw [e] at hx; cases hx
      | some b => rw [e] at hx; exact ⟨b, rfl, (Option.some.inj hx).symm⟩
    have hi : i < cs.length := by
      have := (List.getElem?_eq_some_iff.mp hb).1
      omega
    have hcs : cs[i]? = some cs[i] := List.getElem?_eq_getElem hi
    obtain ⟨b', hb', hpa⟩ := Paired.at hp14 hcs
    rw [hb] at hb'
    cases hb'
    generalize hci : cs[i] = c at hcs hpa
    have hl4 : bs4.length ≤ 12 := by
      have := Paired.len hp15
      rw [List.length_take] at this
      omega
    have fin : ∀ (l : Addr) (H16 : Hp), Same H15 H16 → TupAt H16 l c → Same H14 (upd H16 D4 (.lst (bs4.map V.ref ++ [V.ref l]))) ∧ ∃ bs5 : List Addr, upd H16 D4 (.lst (bs4.map V.ref ++ [V.ref l])) D4 = some (.lst (bs5.map V.ref)) ∧ Paired (TupAt (upd H16 D4 (.lst (bs4.map V.ref ++ [V.ref l])))) bs5 (cs.take (i + 1)) := fun l H16 g17 hl => by
      refine ⟨same_at (g16.trans g17) hD4, bs4 ++ [l], by rw [upd_same, List.map_append]; rfl, ?_⟩
      rw [take_snoc hcs]
      have out : ∀ (x : Addr) (y : List Nat × Int), TupAt H16 x y → TupAt (upd H16 D4 (.lst (bs4.map V.ref ++ [V.ref l]))) x y := fun x y h => by
        have h' : H16 x = some (.tup [.str (S y.1), .int y.2]) := h
        have hne : x ≠ D4 := fun e => by
          rw [e, g17 _ _ hd15] at h'
          cases h'
        show upd _ D4 _ x = _
        rw [upd_ne hne]
        exact h'
      exact Paired.snoc (L2.Paired.mapP (TupAt.same g17 hp15) out) (out _ _ hl)
    refine ⟨rfl, lc_yes ?_⟩
    rcases hpa with hpa | hpa
    · refine ⟨_, rfl, b, _, rfl, .inl ⟨SqL.of (g16 _ _ hpa), fun l hl => ?_⟩⟩
      exact ⟨_, same_new hl _ _ _ hd15, by rw [List.length_map]; exact small1000 (by omega), fin l _ (same_new hl _) upd_same⟩
    · refine ⟨_, rfl, b, _, rfl, .inr ⟨SqT.of (g16 _ _ hpa), ?_⟩⟩
      exact ⟨_, hd15, by rw [List.length_map]; exact small1000 (by omega), fin b _ (Same.refl _) (g16 _ _ hpa)⟩
  rintro H15 ⟨g16, bs4, hd15, hp15⟩
  have eb2 : (bs2.map V.ref).length = cs.length := by rw [List.length_map, hb2]
  rw [eb2, List.take_length] at hp15
  have cn15 := cn14.keep g16
  have sh := dat_shaped cn15.nm
  refine ⟨_, rfl, dat cs, dat cs, .lst (SqL.of hd15) (dat_all hp15), .lst (SqL.of cn15.c) (dat_all cn15.p), sh, sh, ?_⟩
  rw [SeqAt.eqv_refl _ (SeqAt.canLay_of_shaped sh)]
  exact q H15
end
end P62
namespace P62
open PySem PySem.Spec PyProof.Rows L2 SX EX
theorem all_mk {l : PySem.W.OpenLaw} {w : World} {K : PySem.W.Frag} {h : Heap} {mg : Str → Option Value} {fa f1 f2 f3 f4 f5 f6 f7 f8 f9 f10 f11 f12 f13 f14 f15 f16 f17 f18 f19 f20 f21 f22 f23 f24 f25 f26 f27 f28 f29 c_CableError c_BadNotation c_BadPlan c_UnknownName : Addr} (X : K.In h) (G : h.Ns mainGlobals mg) (hfa : mg "law" = some (.ref fa))
    {od1 an1 od2 an2 od3 an3 od4 an4 od5 an5 od6 an6 od7 an7 od8 an8 od9 an9 od10 an10 od11 an11 od12 an12 od13 an13 od14 an14 od15 an15 od16 an16 od17 an17 od18 an18 od19 an19 od20 an20 od21 an21 od22 an22 od23 an23 od24 an24 od25 an25 od26 an26 od27 an27 od28 an28 od29 an29 : Option Addr}
    {sl1 sl2 sl3 sl4 sl5 sl6 sl7 sl8 sl9 sl10 sl11 sl12 sl13 sl14 sl15 sl16 sl17 sl18 sl19 sl20 sl21 sl22 sl23 sl24 sl25 sl26 sl27 sl28 sl29 : Array (Option Value)} {oc1 kV1 dc1 pm1 cd1 ct1 oc2 kV2 dc2 pm2 cd2 ct2 oc3 kV3 dc3 pm3 cd3 ct3 oc4 kV4 dc4 pm4 cd4 ct4 oc5 kV5 dc5 pm5 cd5 ct5 oc6 kV6 dc6 pm6 cd6 ct6 oc7 kV7 dc7 pm7 cd7 ct7 oc8 kV8 dc8 pm8 cd8 ct8 oc9 kV9 dc9 pm9 cd9 ct9 oc10 kV10 dc10 pm10 cd10 ct10 oc11 kV11 dc11 pm11 cd11 ct11 oc12 kV12 dc12 pm12 cd12 ct12 oc13 kV13 dc13 pm13 cd13 ct13 oc14 kV14 dc14 pm14 cd14 ct14 oc15 kV15 dc15 pm15 cd15 ct15 oc16 kV16 dc16 pm16 cd16 ct16 oc17 kV17 dc17 pm17 cd17 ct17 oc18 kV18 dc18 pm18 cd18 ct18 oc19 kV19 dc19 pm19 cd19 ct19 oc20 kV20 dc20 pm20 cd20 ct20 oc21 kV21 dc21 pm21 cd21 ct21 oc22 kV22 dc22 pm22 cd22 ct22 oc23 kV23 dc23 pm23 cd23 ct23 oc24 kV24 dc24 pm24 cd24 ct24 oc25 kV25 dc25 pm25 cd25 ct25 oc26 kV26 dc26 pm26 cd26 ct26 oc27 kV27 dc27 pm27 cd27 ct27 oc28 kV28 dc28 pm28 cd28 ct28 oc29 kV29 dc29 pm29 cd29 ct29 : Value}
    {nm_UnknownName q_UnknownName : Str} {N_UnknownName : Addr} {bs_UnknownName sub_UnknownName : List Value} {sn_UnknownName : List Str} {ab_UnknownName : Bool} {col_UnknownName : Option Bool} {dd_UnknownName : Option Addr} {m0_UnknownName m1_UnknownName m2_UnknownName m3_UnknownName m5_UnknownName : Option Value}
    {f_UnknownName : Addr} {odi_UnknownName ani_UnknownName : Option Addr} {sli_UnknownName : Array (Option Value)} {oci_UnknownName kVi_UnknownName dci_UnknownName pmi_UnknownName cdi_UnknownName cti_UnknownName : Value}
    (a1 : PySem.W.nsIn K mainGlobals "fraction" = some (some (.ref f1))) (l1 : K.lookup f1 = some ⟨oc1, od1, .func (PySem.W.fnOf "fraction" "fraction" (defArgs s_fraction) (defBody s_fraction) (defScope s_fraction) .none kV1 dc1 pm1 an1 cd1 ct1), sl1⟩) (c1 : PySem.W.codeIn K cd1 "fraction" = true) (k1 : PySem.W.keepIn K (.ref f1) = true)
    (a2 : PySem.W.nsIn K mainGlobals "multiplied" = some (some (.ref f2))) (l2 : K.lookup f2 = some ⟨oc2, od2, .func (PySem.W.fnOf "multiplied" "multiplied" (defArgs s_multiplied) (defBody s_multiplied) (defScope s_multiplied) .none kV2 dc2 pm2 an2 cd2 ct2), sl2⟩) (c2 : PySem.W.codeIn K cd2 "multiplied" = true) (k2 : PySem.W.keepIn K (.ref f2) = true)
    (a3 : PySem.W.nsIn K mainGlobals "compared" = some (some (.ref f3))) (l3 : K.lookup f3 = some ⟨oc3, od3, .func (PySem.W.fnOf "compared" "compared" (defArgs s_compared) (defBody s_compared) (defScope s_compared) .none kV3 dc3 pm3 an3 cd3 ct3), sl3⟩) (c3 : PySem.W.codeIn K cd3 "compared" = true) (k3 : PySem.W.keepIn K (.ref f3) = true)
    (a4 : PySem.W.nsIn K mainGlobals "grade_unit" = some (some (.ref f4))) (l4 : K.lookup f4 = some ⟨oc4, od4, .func (PySem.W.fnOf "grade_unit" "grade_unit" (defArgs s_grade_unit) (defBody s_grade_unit) (defScope s_grade_unit) .none kV4 dc4 pm4 an4 cd4 ct4), sl4⟩) (c4 : PySem.W.codeIn K cd4 "grade_unit" = true) (k4 : PySem.W.keepIn K (.ref f4) = true)
    (a5 : PySem.W.nsIn K mainGlobals "grade_factor" = some (some (.ref f5))) (l5 : K.lookup f5 = some ⟨oc5, od5, .func (PySem.W.fnOf "grade_factor" "grade_factor" (defArgs s_grade_factor) (defBody s_grade_factor) (defScope s_grade_factor) .none kV5 dc5 pm5 an5 cd5 ct5), sl5⟩) (c5 : PySem.W.codeIn K cd5 "grade_factor" = true) (k5 : PySem.W.keepIn K (.ref f5) = true)
    (a6 : PySem.W.nsIn K mainGlobals "names_of" = some (some (.ref f6))) (l6 : K.lookup f6 = some ⟨oc6, od6, .func (PySem.W.fnOf "names_of" "names_of" (defArgs s_names_of) (defBody s_names_of) (defScope s_names_of) .none kV6 dc6 pm6 an6 cd6 ct6), sl6⟩) (c6 : PySem.W.codeIn K cd6 "names_of" = true) (k6 : PySem.W.keepIn K (.ref f6) = true)
    (a7 : PySem.W.nsIn K mainGlobals "check_names" = some (some (.ref f7))) (l7 : K.lookup f7 = some ⟨oc7, od7, .func (PySem.W.fnOf "check_names" "check_names" (defArgs s_check_names) (defBody s_check_names) (defScope s_check_names) .none kV7 dc7 pm7 an7 cd7 ct7), sl7⟩) (c7 : PySem.W.codeIn K cd7 "check_names" = true) (k7 : PySem.W.keepIn K (.ref f7) = true)
    (a8 : PySem.W.nsIn K mainGlobals "join_step" = some (some (.ref f8))) (l8 : K.lookup f8 = some ⟨oc8, od8, .func (PySem.W.fnOf "join_step" "join_step" (defArgs s_join_step) (defBody s_join_step) (defScope s_join_step) .none kV8 dc8 pm8 an8 cd8 ct8), sl8⟩) (c8 : PySem.W.codeIn K cd8 "join_step" = true) (k8 : PySem.W.keepIn K (.ref f8) = true)
    (a9 : PySem.W.nsIn K mainGlobals "thin_step" = some (some (.ref f9))) (l9 : K.lookup f9 = some ⟨oc9, od9, .func (PySem.W.fnOf "thin_step" "thin_step" (defArgs s_thin_step) (defBody s_thin_step) (defScope s_thin_step) .none kV9 dc9 pm9 an9 cd9 ct9), sl9⟩) (c9 : PySem.W.codeIn K cd9 "thin_step" = true) (k9 : PySem.W.keepIn K (.ref f9) = true)
    (a10 : PySem.W.nsIn K mainGlobals "spare_step" = some (some (.ref f10))) (l10 : K.lookup f10 = some ⟨oc10, od10, .func (PySem.W.fnOf "spare_step" "spare_step" (defArgs s_spare_step) (defBody s_spare_step) (defScope s_spare_step) .none kV10 dc10 pm10 an10 cd10 ct10), sl10⟩) (c10 : PySem.W.codeIn K cd10 "spare_step" = true) (k10 : PySem.W.keepIn K (.ref f10) = true)
    (a11 : PySem.W.nsIn K mainGlobals "base_step" = some (some (.ref f11))) (l11 : K.lookup f11 = some ⟨oc11, od11, .func (PySem.W.fnOf "base_step" "base_step" (defArgs s_base_step) (defBody s_base_step) (defScope s_base_step) .none kV11 dc11 pm11 an11 cd11 ct11), sl11⟩) (c11 : PySem.W.codeIn K cd11 "base_step" = true) (k11 : PySem.W.keepIn K (.ref f11) = true)
    (a12 : PySem.W.nsIn K mainGlobals "forecasted" = some (some (.ref f12))) (l12 : K.lookup f12 = some ⟨oc12, od12, .func (PySem.W.fnOf "forecasted" "forecasted" (defArgs s_forecasted) (defBody s_forecasted) (defScope s_forecasted) .none kV12 dc12 pm12 an12 cd12 ct12), sl12⟩) (c12 : PySem.W.codeIn K cd12 "forecasted" = true) (k12 : PySem.W.keepIn K (.ref f12) = true)
    (a13 : PySem.W.nsIn K mainGlobals "forecast" = some (some (.ref f13))) (l13 : K.lookup f13 = some ⟨oc13, od13, .func (PySem.W.fnOf "forecast" "forecast" (defArgs s_forecast) (defBody s_forecast) (defScope s_forecast) .none kV13 dc13 pm13 an13 cd13 ct13), sl13⟩) (c13 : PySem.W.codeIn K cd13 "forecast" = true) (k13 : PySem.W.keepIn K (.ref f13) = true)
    (a14 : PySem.W.nsIn K mainGlobals "_law_whole" = some (some (.ref f14))) (l14 : K.lookup f14 = some ⟨oc14, od14, .func (PySem.W.fnOf "_law_whole" "_law_whole" (defArgs s__law_whole) (defBody s__law_whole) (defScope s__law_whole) .none kV14 dc14 pm14 an14 cd14 ct14), sl14⟩) (c14 : PySem.W.codeIn K cd14 "_law_whole" = true) (k14 : PySem.W.keepIn K (.ref f14) = true)
    (a15 : PySem.W.nsIn K mainGlobals "_law_cell" = some (some (.ref f15))) (l15 : K.lookup f15 = some ⟨oc15, od15, .func (PySem.W.fnOf "_law_cell" "_law_cell" (defArgs s__law_cell) (defBody s__law_cell) (defScope s__law_cell) .none kV15 dc15 pm15 an15 cd15 ct15), sl15⟩) (c15 : PySem.W.codeIn K cd15 "_law_cell" = true) (k15 : PySem.W.keepIn K (.ref f15) = true)
    (a16 : PySem.W.nsIn K mainGlobals "_law_digits" = some (some (.ref f16))) (l16 : K.lookup f16 = some ⟨oc16, od16, .func (PySem.W.fnOf "_law_digits" "_law_digits" (defArgs s__law_digits) (defBody s__law_digits) (defScope s__law_digits) .none kV16 dc16 pm16 an16 cd16 ct16), sl16⟩) (c16 : PySem.W.codeIn K cd16 "_law_digits" = true) (k16 : PySem.W.keepIn K (.ref f16) = true)
    (a17 : PySem.W.nsIn K mainGlobals "_law_gcd" = some (some (.ref f17))) (l17 : K.lookup f17 = some ⟨oc17, od17, .func (PySem.W.fnOf "_law_gcd" "_law_gcd" (defArgs s__law_gcd) (defBody s__law_gcd) (defScope s__law_gcd) .none kV17 dc17 pm17 an17 cd17 ct17), sl17⟩) (c17 : PySem.W.codeIn K cd17 "_law_gcd" = true) (k17 : PySem.W.keepIn K (.ref f17) = true)
    (a18 : PySem.W.nsIn K mainGlobals "_law_least" = some (some (.ref f18))) (l18 : K.lookup f18 = some ⟨oc18, od18, .func (PySem.W.fnOf "_law_least" "_law_least" (defArgs s__law_least) (defBody s__law_least) (defScope s__law_least) .none kV18 dc18 pm18 an18 cd18 ct18), sl18⟩) (c18 : PySem.W.codeIn K cd18 "_law_least" = true) (k18 : PySem.W.keepIn K (.ref f18) = true)
    (a19 : PySem.W.nsIn K mainGlobals "_law_times" = some (some (.ref f19))) (l19 : K.lookup f19 = some ⟨oc19, od19, .func (PySem.W.fnOf "_law_times" "_law_times" (defArgs s__law_times) (defBody s__law_times) (defScope s__law_times) .none kV19 dc19 pm19 an19 cd19 ct19), sl19⟩) (c19 : PySem.W.codeIn K cd19 "_law_times" = true) (k19 : PySem.W.keepIn K (.ref f19) = true)
    (a20 : PySem.W.nsIn K mainGlobals "_law_below" = some (some (.ref f20))) (l20 : K.lookup f20 = some ⟨oc20, od20, .func (PySem.W.fnOf "_law_below" "_law_below" (defArgs s__law_below) (defBody s__law_below) (defScope s__law_below) .none kV20 dc20 pm20 an20 cd20 ct20), sl20⟩) (c20 : PySem.W.codeIn K cd20 "_law_below" = true) (k20 : PySem.W.keepIn K (.ref f20) = true)
    (a21 : PySem.W.nsIn K mainGlobals "_law_same" = some (some (.ref f21))) (l21 : K.lookup f21 = some ⟨oc21, od21, .func (PySem.W.fnOf "_law_same" "_law_same" (defArgs s__law_same) (defBody s__law_same) (defScope s__law_same) .none kV21 dc21 pm21 an21 cd21 ct21), sl21⟩) (c21 : PySem.W.codeIn K cd21 "_law_same" = true) (k21 : PySem.W.keepIn K (.ref f21) = true)
    (a22 : PySem.W.nsIn K mainGlobals "_law_name" = some (some (.ref f22))) (l22 : K.lookup f22 = some ⟨oc22, od22, .func (PySem.W.fnOf "_law_name" "_law_name" (defArgs s__law_name) (defBody s__law_name) (defScope s__law_name) .none kV22 dc22 pm22 an22 cd22 ct22), sl22⟩) (c22 : PySem.W.codeIn K cd22 "_law_name" = true) (k22 : PySem.W.keepIn K (.ref f22) = true)
    (a23 : PySem.W.nsIn K mainGlobals "_law_count" = some (some (.ref f23))) (l23 : K.lookup f23 = some ⟨oc23, od23, .func (PySem.W.fnOf "_law_count" "_law_count" (defArgs s__law_count) (defBody s__law_count) (defScope s__law_count) .none kV23 dc23 pm23 an23 cd23 ct23), sl23⟩) (c23 : PySem.W.codeIn K cd23 "_law_count" = true) (k23 : PySem.W.keepIn K (.ref f23) = true)
    (a24 : PySem.W.nsIn K mainGlobals "_law_grow" = some (some (.ref f24))) (l24 : K.lookup f24 = some ⟨oc24, od24, .func (PySem.W.fnOf "_law_grow" "_law_grow" (defArgs s__law_grow) (defBody s__law_grow) (defScope s__law_grow) .none kV24 dc24 pm24 an24 cd24 ct24), sl24⟩) (c24 : PySem.W.codeIn K cd24 "_law_grow" = true) (k24 : PySem.W.keepIn K (.ref f24) = true)
    (a25 : PySem.W.nsIn K mainGlobals "_law_names" = some (some (.ref f25))) (l25 : K.lookup f25 = some ⟨oc25, od25, .func (PySem.W.fnOf "_law_names" "_law_names" (defArgs s__law_names) (defBody s__law_names) (defScope s__law_names) .none kV25 dc25 pm25 an25 cd25 ct25), sl25⟩) (c25 : PySem.W.codeIn K cd25 "_law_names" = true) (k25 : PySem.W.keepIn K (.ref f25) = true)
    (a26 : PySem.W.nsIn K mainGlobals "_law_grade_factor" = some (some (.ref f26))) (l26 : K.lookup f26 = some ⟨oc26, od26, .func (PySem.W.fnOf "_law_grade_factor" "_law_grade_factor" (defArgs s__law_grade_factor) (defBody s__law_grade_factor) (defScope s__law_grade_factor) .none kV26 dc26 pm26 an26 cd26 ct26), sl26⟩) (c26 : PySem.W.codeIn K cd26 "_law_grade_factor" = true) (k26 : PySem.W.keepIn K (.ref f26) = true)
    (a27 : PySem.W.nsIn K mainGlobals "_law_forecast" = some (some (.ref f27))) (l27 : K.lookup f27 = some ⟨oc27, od27, .func (PySem.W.fnOf "_law_forecast" "_law_forecast" (defArgs s__law_forecast) (defBody s__law_forecast) (defScope s__law_forecast) .none kV27 dc27 pm27 an27 cd27 ct27), sl27⟩) (c27 : PySem.W.codeIn K cd27 "_law_forecast" = true) (k27 : PySem.W.keepIn K (.ref f27) = true)
    (a28 : PySem.W.nsIn K mainGlobals "_law_right" = some (some (.ref f28))) (l28 : K.lookup f28 = some ⟨oc28, od28, .func (PySem.W.fnOf "_law_right" "_law_right" (defArgs s__law_right) (defBody s__law_right) (defScope s__law_right) .none kV28 dc28 pm28 an28 cd28 ct28), sl28⟩) (c28 : PySem.W.codeIn K cd28 "_law_right" = true) (k28 : PySem.W.keepIn K (.ref f28) = true)
    (a29 : PySem.W.nsIn K mainGlobals "law" = some (some (.ref f29))) (l29 : K.lookup f29 = some ⟨oc29, od29, .func (PySem.W.fnOf "law" "law" (defArgs s_law) (defBody s_law) (defScope s_law) .none kV29 dc29 pm29 an29 cd29 ct29), sl29⟩) (c29 : PySem.W.codeIn K cd29 "law" = true) (k29 : PySem.W.keepIn K (.ref f29) = true)
    (z0 : PySem.W.nsIn K mainGlobals "len" = some none)
    (z1 : PySem.W.nsIn K mainGlobals "int" = some none)
    (z2 : PySem.W.nsIn K mainGlobals "str" = some none)
    (z3 : PySem.W.nsIn K mainGlobals "tuple" = some none)
    (z4 : PySem.W.nsIn K mainGlobals "list" = some none)
    (z5 : PySem.W.nsIn K mainGlobals "bool" = some none)
    (z6 : PySem.W.nsIn K mainGlobals "isinstance" = some none)
    (z7 : PySem.W.nsIn K mainGlobals "range" = some none)
    (z8 : PySem.W.nsIn K mainGlobals "all" = some none)
    (z9 : PySem.W.nsIn K mainGlobals "max" = some none)
    (z10 : PySem.W.nsIn K mainGlobals "min" = some none)
    (z11 : PySem.W.nsIn K mainGlobals "abs" = some none)
    (z12 : PySem.W.nsIn K mainGlobals "ValueError" = some none)
    (g_gcd : PySem.W.nsIn K mainGlobals "gcd" = some (some (.builtin "math.gcd")))
    (a_CableError : PySem.W.nsIn K mainGlobals "CableError" = some (some (.ref c_CableError)))
    (a_BadNotation : PySem.W.nsIn K mainGlobals "BadNotation" = some (some (.ref c_BadNotation)))
    (a_BadPlan : PySem.W.nsIn K mainGlobals "BadPlan" = some (some (.ref c_BadPlan)))
    (a_UnknownName : PySem.W.nsIn K mainGlobals "UnknownName" = some (some (.ref c_UnknownName)))
    (i_CableError : PySem.W.isClsIn K c_CableError = true)
    (y_CableError : PySem.W.typeIn K (.ref c_CableError) = some (.type "type"))
    (i_BadNotation : PySem.W.isClsIn K c_BadNotation = true)
    (y_BadNotation : PySem.W.typeIn K (.ref c_BadNotation) = some (.type "type"))
    (i_BadPlan : PySem.W.isClsIn K c_BadPlan = true)
    (y_BadPlan : PySem.W.typeIn K (.ref c_BadPlan) = some (.type "type"))
    (i_UnknownName : PySem.W.isClsIn K c_UnknownName = true)
    (y_UnknownName : PySem.W.typeIn K (.ref c_UnknownName) = some (.type "type"))
    (b_CableError : PySem.W.subIn K (.ref c_CableError) (.type "BaseException") = some true)
    (b_UnknownName : PySem.W.subIn K (.ref c_UnknownName) (.type "BaseException") = some true)
    (xl_UnknownName : K.lookup c_UnknownName = some (excClassObj nm_UnknownName q_UnknownName c_UnknownName N_UnknownName bs_UnknownName [.ref c_CableError, .type "ValueError", .type "Exception", .type "BaseException", .type "object"] true sn_UnknownName sub_UnknownName ab_UnknownName col_UnknownName dd_UnknownName m0_UnknownName m1_UnknownName m2_UnknownName m3_UnknownName m5_UnknownName "ValueError.__new__"))
    (sa_UnknownName : PySem.W.findIn K (.ref c_UnknownName) "__setattr__" = some (some (.builtin "object.__setattr__")))
    (ga_UnknownName : PySem.W.findIn K (.ref c_UnknownName) "__getattribute__" = some (some (.builtin "BaseException.__getattribute__")))
    (gg_UnknownName : PySem.W.findIn K (.ref c_UnknownName) "__getattr__" = some none)
    (ca_UnknownName : PySem.W.findIn K (.ref c_UnknownName) "__class__" = some (some (.builtin "object.__class__")))
    (cm_UnknownName : PySem.W.mroIn K c_UnknownName (.type "object") = some true)
    (hd_UnknownName : PySem.W.hasDictIn K c_UnknownName = true)
    (kp_UnknownName : PySem.W.keepIn K (.ref c_UnknownName) = true)
    (no_UnknownName_name : PySem.W.findIn K (.ref c_UnknownName) "name" = some none)
    (in_UnknownName : PySem.W.findIn K (.ref c_UnknownName) "__init__" = some (some (.ref f_UnknownName)))
    (tf_UnknownName : PySem.W.typeIn K (.ref f_UnknownName) = some (.type "function"))
    (lf_UnknownName : K.lookup f_UnknownName = some ⟨oci_UnknownName, odi_UnknownName, .func (PySem.W.fnOf "__init__" "UnknownName.__init__" (defArgs s_iU) (defBody s_iU) (defScope s_iU) .none kVi_UnknownName dci_UnknownName pmi_UnknownName ani_UnknownName cdi_UnknownName cti_UnknownName), sli_UnknownName⟩)
    (cf_UnknownName : PySem.W.codeIn K cdi_UnknownName "UnknownName.__init__" = true)
    (kf_UnknownName : PySem.W.keepIn K (.ref f_UnknownName) = true)
    (cn0 : PySem.W.specialIn K (.builtin "object.__class__") "__get__" = some (some (.builtin "getset_descriptor.__get__")))
    (ct0 : PySem.W.takesIn K (.builtin "object.__class__") = some true)
    (s_UnknownName_UnknownName : PySem.W.subIn K (.ref c_UnknownName) (.ref c_UnknownName) = some true)
    (s_UnknownName_CableError : PySem.W.subIn K (.ref c_UnknownName) (.ref c_CableError) = some true)
    (s_UnknownName_BadPlan : PySem.W.subIn K (.ref c_UnknownName) (.ref c_BadPlan) = some false)
    (s_UnknownName_BadNotation : PySem.W.subIn K (.ref c_UnknownName) (.ref c_BadNotation) = some false)
    (sb_UnknownName_ValueError : PySem.W.subIn K (.ref c_UnknownName) (.type "ValueError") = some true)
    : ∃ fd : FuncData, (∀ (s : Shared) (v : Value), BindsTo s fd ⟨[v], []⟩ [("script", v)]) ∧ ∀ base : Heap, K.In base → base.Ns mainGlobals mg → FnOk l.prog w K mg base CX0 18 fa fd ["script"] (spLaw K) := by
  have e := hfa.symm.trans (PySem.W.mg_of X G a29)
  cases e
  have T : Txt mg := { b_len := PySem.W.mg_none_of X G z0, b_int := PySem.W.mg_none_of X G z1, b_str := PySem.W.mg_none_of X G z2, b_tuple := PySem.W.mg_none_of X G z3, b_list := PySem.W.mg_none_of X G z4, b_bool := PySem.W.mg_none_of X G z5, b_isinstance := PySem.W.mg_none_of X G z6, b_range := PySem.W.mg_none_of X G z7, b_all := PySem.W.mg_none_of X G z8, b_max := PySem.W.mg_none_of X G z9, b_min := PySem.W.mg_none_of X G z10, b_abs := PySem.W.mg_none_of X G z11, b_ValueError := PySem.W.mg_none_of X G z12, g_gcd := PySem.W.mg_of X G g_gcd }
  have G_CableError := PySem.W.mg_of X G a_CableError
  have G_BadNotation := PySem.W.mg_of X G a_BadNotation
  have G_BadPlan := PySem.W.mg_of X G a_BadPlan
  have G_UnknownName := PySem.W.mg_of X G a_UnknownName
  have X_UnknownName : EX.XCls K c_UnknownName := ⟨i_UnknownName, ga_UnknownName, gg_UnknownName, b_UnknownName, ca_UnknownName, cn0, ct0, cm_UnknownName, hd_UnknownName, y_UnknownName, kp_UnknownName⟩
  have O_UnknownName : OexC K c_UnknownName := ⟨⟨nm_UnknownName, q_UnknownName, N_UnknownName, bs_UnknownName, _, sn_UnknownName, sub_UnknownName, ab_UnknownName, col_UnknownName, dd_UnknownName, m0_UnknownName, m1_UnknownName, m2_UnknownName, m3_UnknownName, m5_UnknownName, xl_UnknownName, by rfl⟩, sa_UnknownName, b_UnknownName, y_UnknownName, kp_UnknownName⟩
  have FI_UnknownName := fun_mk (st := s_iU) lf_UnknownName cf_UnknownName kf_UnknownName
  have BI_UnknownName := FI_UnknownName.binds (ps := ["self", "name"]) fun _ _ _ _ _ _ us hl => match us, hl with | [_, _], _ => rfl
  have F_fraction := fun_mk (st := s_fraction) l1 c1 k1
  have m_fraction := PySem.W.mg_of X G a1
  have b_fraction := F_fraction.binds (ps := ["top", "bottom"]) fun _ _ _ _ _ _ us hl => match us, hl with | [_, _], _ => rfl
  have F_multiplied := fun_mk (st := s_multiplied) l2 c2 k2
  have m_multiplied := PySem.W.mg_of X G a2
  have b_multiplied := F_multiplied.binds (ps := ["one", "two"]) fun _ _ _ _ _ _ us hl => match us, hl with | [_, _], _ => rfl
  have F_compared := fun_mk (st := s_compared) l3 c3 k3
  have m_compared := PySem.W.mg_of X G a3
  have b_compared := F_compared.binds (ps := ["one", "two"]) fun _ _ _ _ _ _ us hl => match us, hl with | [_, _], _ => rfl
  have F_grade_unit := fun_mk (st := s_grade_unit) l4 c4 k4
  have m_grade_unit := PySem.W.mg_of X G a4
  have b_grade_unit := F_grade_unit.binds (ps := ["grade"]) fun _ _ _ _ _ _ us hl => match us, hl with | [_], _ => rfl
  have F_grade_factor := fun_mk (st := s_grade_factor) l5 c5 k5
  have m_grade_factor := PySem.W.mg_of X G a5
  have b_grade_factor := F_grade_factor.binds (ps := ["grade"]) fun _ _ _ _ _ _ us hl => match us, hl with | [_], _ => rfl
  have F_names_of := fun_mk (st := s_names_of) l6 c6 k6
  have m_names_of := PySem.W.mg_of X G a6
  have b_names_of := F_names_of.binds (ps := ["plan"]) fun _ _ _ _ _ _ us hl => match us, hl with | [_], _ => rfl
  have F_check_names := fun_mk (st := s_check_names) l7 c7 k7
  have m_check_names := PySem.W.mg_of X G a7
  have b_check_names := F_check_names.binds (ps := ["plan", "known"]) fun _ _ _ _ _ _ us hl => match us, hl with | [_, _], _ => rfl
  have F_join_step := fun_mk (st := s_join_step) l8 c8 k8
  have m_join_step := PySem.W.mg_of X G a8
  have b_join_step := F_join_step.binds (ps := ["one", "two"]) fun _ _ _ _ _ _ us hl => match us, hl with | [_, _], _ => rfl
  have F_thin_step := fun_mk (st := s_thin_step) l9 c9 k9
  have m_thin_step := PySem.W.mg_of X G a9
  have b_thin_step := F_thin_step.binds (ps := ["grade", "size", "inner"]) fun _ _ _ _ _ _ us hl => match us, hl with | [_, _, _], _ => rfl
  have F_spare_step := fun_mk (st := s_spare_step) l10 c10 k10
  have m_spare_step := PySem.W.mg_of X G a10
  have b_spare_step := F_spare_step.binds (ps := ["size", "inner"]) fun _ _ _ _ _ _ us hl => match us, hl with | [_, _], _ => rfl
  have F_base_step := fun_mk (st := s_base_step) l11 c11 k11
  have m_base_step := PySem.W.mg_of X G a11
  have b_base_step := F_base_step.binds (ps := ["size", "inner"]) fun _ _ _ _ _ _ us hl => match us, hl with | [_, _], _ => rfl
  have F_forecasted := fun_mk (st := s_forecasted) l12 c12 k12
  have m_forecasted := PySem.W.mg_of X G a12
  have b_forecasted := F_forecasted.binds (ps := ["plan", "size", "known"]) fun _ _ _ _ _ _ us hl => match us, hl with | [_, _, _], _ => rfl
  have F_forecast := fun_mk (st := s_forecast) l13 c13 k13
  have m_forecast := PySem.W.mg_of X G a13
  have b_forecast := F_forecast.binds (ps := ["plan", "size", "counts"]) fun _ _ _ _ _ _ us hl => match us, hl with | [_, _, _], _ => rfl
  have F__law_whole := fun_mk (st := s__law_whole) l14 c14 k14
  have m__law_whole := PySem.W.mg_of X G a14
  have b__law_whole := F__law_whole.binds (ps := ["value"]) fun _ _ _ _ _ _ us hl => match us, hl with | [_], _ => rfl
  have F__law_cell := fun_mk (st := s__law_cell) l15 c15 k15
  have m__law_cell := PySem.W.mg_of X G a15
  have b__law_cell := F__law_cell.binds (ps := ["script", "k"]) fun _ _ _ _ _ _ us hl => match us, hl with | [_, _], _ => rfl
  have F__law_digits := fun_mk (st := s__law_digits) l16 c16 k16
  have m__law_digits := PySem.W.mg_of X G a16
  have b__law_digits := F__law_digits.binds (ps := ["cell", "sizes"]) fun _ _ _ _ _ _ us hl => match us, hl with | [_, _], _ => rfl
  have F__law_gcd := fun_mk (st := s__law_gcd) l17 c17 k17
  have m__law_gcd := PySem.W.mg_of X G a17
  have b__law_gcd := F__law_gcd.binds (ps := ["one", "two"]) fun _ _ _ _ _ _ us hl => match us, hl with | [_, _], _ => rfl
  have F__law_least := fun_mk (st := s__law_least) l18 c18 k18
  have m__law_least := PySem.W.mg_of X G a18
  have b__law_least := F__law_least.binds (ps := ["top", "under"]) fun _ _ _ _ _ _ us hl => match us, hl with | [_, _], _ => rfl
  have F__law_times := fun_mk (st := s__law_times) l19 c19 k19
  have m__law_times := PySem.W.mg_of X G a19
  have b__law_times := F__law_times.binds (ps := ["one", "two"]) fun _ _ _ _ _ _ us hl => match us, hl with | [_, _], _ => rfl
  have F__law_below := fun_mk (st := s__law_below) l20 c20 k20
  have m__law_below := PySem.W.mg_of X G a20
  have b__law_below := F__law_below.binds (ps := ["one", "two"]) fun _ _ _ _ _ _ us hl => match us, hl with | [_, _], _ => rfl
  have F__law_same := fun_mk (st := s__law_same) l21 c21 k21
  have m__law_same := PySem.W.mg_of X G a21
  have b__law_same := F__law_same.binds (ps := ["told", "due"]) fun _ _ _ _ _ _ us hl => match us, hl with | [_, _], _ => rfl
  have F__law_name := fun_mk (st := s__law_name) l22 c22 k22
  have m__law_name := PySem.W.mg_of X G a22
  have b__law_name := F__law_name.binds (ps := ["row", "taken"]) fun _ _ _ _ _ _ us hl => match us, hl with | [_, _], _ => rfl
  have F__law_count := fun_mk (st := s__law_count) l23 c23 k23
  have m__law_count := PySem.W.mg_of X G a23
  have b__law_count := F__law_count.binds (ps := ["row", "size"]) fun _ _ _ _ _ _ us hl => match us, hl with | [_, _], _ => rfl
  have F__law_grow := fun_mk (st := s__law_grow) l24 c24 k24
  have m__law_grow := PySem.W.mg_of X G a24
  have b__law_grow := F__law_grow.binds (ps := ["rows", "at", "many", "deep", "names", "mode"]) fun _ _ _ _ _ _ us hl => match us, hl with | [_, _, _, _, _, _], _ => rfl
  have F__law_names := fun_mk (st := s__law_names) l25 c25 k25
  have m__law_names := PySem.W.mg_of X G a25
  have b__law_names := F__law_names.binds (ps := ["plan"]) fun _ _ _ _ _ _ us hl => match us, hl with | [_], _ => rfl
  have F__law_grade_factor := fun_mk (st := s__law_grade_factor) l26 c26 k26
  have m__law_grade_factor := PySem.W.mg_of X G a26
  have b__law_grade_factor := F__law_grade_factor.binds (ps := ["k"]) fun _ _ _ _ _ _ us hl => match us, hl with | [_], _ => rfl
  have F__law_forecast := fun_mk (st := s__law_forecast) l27 c27 k27
  have m__law_forecast := PySem.W.mg_of X G a27
  have b__law_forecast := F__law_forecast.binds (ps := ["plan", "size", "known"]) fun _ _ _ _ _ _ us hl => match us, hl with | [_, _, _], _ => rfl
  have F__law_right := fun_mk (st := s__law_right) l28 c28 k28
  have m__law_right := PySem.W.mg_of X G a28
  have b__law_right := F__law_right.binds (ps := ["plan", "size", "counts"]) fun _ _ _ _ _ _ us hl => match us, hl with | [_, _, _], _ => rfl
  have F_law := fun_mk (st := s_law) l29 c29 k29
  have m_law := PySem.W.mg_of X G a29
  refine ⟨PySem.W.fnOf "law" "law" (defArgs s_law) (defBody s_law) (defScope s_law) .none kV29 dc29 pm29 an29 cd29 ct29, fun s v => .of_eq rfl, fun base _ _ => ?_⟩
  have U : Err K mg c_UnknownName c_CableError c_BadNotation c_BadPlan f_UnknownName := { g_UnknownName := G_UnknownName, g_CableError := G_CableError, g_BadNotation := G_BadNotation, g_BadPlan := G_BadPlan, o_UnknownName := O_UnknownName, i_UnknownName := in_UnknownName, t_UnknownName := tf_UnknownName, x := X_UnknownName, no_UnknownName_name := no_UnknownName_name, eC := EX.exm_sub i_CableError y_CableError b_CableError s_UnknownName_CableError, kU := EX.kit_sub i_UnknownName y_UnknownName s_UnknownName_UnknownName s_UnknownName_UnknownName, kP := EX.kit_sub i_BadPlan y_BadPlan s_UnknownName_BadPlan s_UnknownName_UnknownName, kN := EX.kit_sub i_BadNotation y_BadNotation s_UnknownName_BadNotation s_UnknownName_UnknownName, kV := EX.kit_blt (by decide +kernel) sb_UnknownName_ValueError }
  have Cfraction : Cal l.prog w K mg base 1 "fraction" ["top", "bottom"] spFraction := ⟨_, _, ok_fraction F_fraction T, m_fraction, F_fraction.kp, b_fraction⟩
  have Cmultiplied : Cal l.prog w K mg base 2 "multiplied" ["one", "two"] spTimes := ⟨_, _, ok_multiplied F_multiplied T Cfraction, m_multiplied, F_multiplied.kp, b_multiplied⟩
  have Ccompared : Cal l.prog w K mg base 1 "compared" ["one", "two"] spCompared := ⟨_, _, ok_compared F_compared T, m_compared, F_compared.kp, b_compared⟩
  have Cgrade_unit : Cal l.prog w K mg base 1 "grade_unit" ["grade"] spUnit := ⟨_, _, ok_grade_unit F_grade_unit T, m_grade_unit, F_grade_unit.kp, b_grade_unit⟩
  have Cgrade_factor : Cal l.prog w K mg base 2 "grade_factor" ["grade"] spGrade := ⟨_, _, ok_grade_factor F_grade_factor T Cfraction Cgrade_unit, m_grade_factor, F_grade_factor.kp, b_grade_factor⟩
  have Cjoin_step : Cal l.prog w K mg base 2 "join_step" ["one", "two"] spJoin := ⟨_, _, ok_join_step F_join_step T Ccompared, m_join_step, F_join_step.kp, b_join_step⟩
  have Cthin_step : Cal l.prog w K mg base 3 "thin_step" ["grade", "size", "inner"] spThin := ⟨_, _, ok_thin_step F_thin_step T Cmultiplied Cgrade_factor, m_thin_step, F_thin_step.kp, b_thin_step⟩
  have Cspare_step : Cal l.prog w K mg base 1 "spare_step" ["size", "inner"] spSpare := ⟨_, _, ok_spare_step F_spare_step T, m_spare_step, F_spare_step.kp, b_spare_step⟩
  have Cbase_step : Cal l.prog w K mg base 3 "base_step" ["size", "inner"] spBase := ⟨_, _, ok_base_step F_base_step T Cmultiplied, m_base_step, F_base_step.kp, b_base_step⟩
  have Cnames_of : Cal l.prog w K mg base 12 "names_of" ["plan"] (spNames 12) := all_names T F_names_of m_names_of b_names_of 12
  have IN := ok_iU (P := l.prog) (w := w) (base := base) FI_UnknownName U
  have Ccheck : EX.CalX l.prog w K mg base 13 "check_names" ["plan", "known"] (spCheck c_UnknownName) := ⟨_, _, ok_check_names F_check_names T U IN BI_UnknownName Cnames_of, m_check_names, F_check_names.kp, b_check_names⟩
  have Cfc : Cal l.prog w K mg base 15 "forecasted" ["plan", "size", "known"] (spFc 12) := all_fc T F_forecasted m_forecasted b_forecasted (Cjoin_step.mono (by omega)) Cthin_step (Cspare_step.mono (by omega)) Cbase_step 12
  have Cforecast : EX.CalX l.prog w K mg base 16 "forecast" ["plan", "size", "counts"] (spForecast c_UnknownName) := ⟨_, _, ok_forecast F_forecast T Ccheck Cfc, m_forecast, F_forecast.kp, b_forecast⟩
  have Cwhole : Cal l.prog w K mg base 1 "_law_whole" ["value"] spLaw_whole := ⟨_, _, ok__law_whole F__law_whole T, m__law_whole, F__law_whole.kp, b__law_whole⟩
  have Csame : Cal l.prog w K mg base 4 "_law_same" ["told", "due"] (spSame 2) := all_same T F__law_same m__law_same b__law_same Cwhole 2
  have CHsame : EX.CalH l.prog w K mg base 1 "_law_same" ["told", "due"] spSameH := ⟨_, _, okH__law_same F__law_same T, m__law_same, F__law_same.kp, b__law_same⟩
  have Ccell : Cal l.prog w K mg base 1 "_law_cell" ["script", "k"] (spCell K) := ⟨_, _, ok__law_cell F__law_cell T, m__law_cell, F__law_cell.kp, b__law_cell⟩
  have Cdigits : Cal l.prog w K mg base 1 "_law_digits" ["cell", "sizes"] (spDigits K) := ⟨_, _, ok__law_digits F__law_digits T, m__law_digits, F__law_digits.kp, b__law_digits⟩
  have Cgcd : Cal l.prog w K mg base 1 "_law_gcd" ["one", "two"] spGcd := ⟨_, _, ok__law_gcd F__law_gcd T, m__law_gcd, F__law_gcd.kp, b__law_gcd⟩
  have Cleast : Cal l.prog w K mg base 2 "_law_least" ["top", "under"] spLeast := ⟨_, _, ok__law_least F__law_least T Cgcd, m__law_least, F__law_least.kp, b__law_least⟩
  have Ctimes : Cal l.prog w K mg base 3 "_law_times" ["one", "two"] spTimes := ⟨_, _, ok__law_times F__law_times T Cleast, m__law_times, F__law_times.kp, b__law_times⟩
  have Cbelow : Cal l.prog w K mg base 1 "_law_below" ["one", "two"] spBelow := ⟨_, _, ok__law_below F__law_below T, m__law_below, F__law_below.kp, b__law_below⟩
  have Cgf : Cal l.prog w K mg base 3 "_law_grade_factor" ["k"] spGrade := ⟨_, _, ok__law_grade_factor F__law_grade_factor T Cleast, m__law_grade_factor, F__law_grade_factor.kp, b__law_grade_factor⟩
  have Cnames : Cal l.prog w K mg base 12 "_law_names" ["plan"] (spNamesL 12) := all_namesL T F__law_names m__law_names b__law_names 12
  have CfcL : Cal l.prog w K mg base 15 "_law_forecast" ["plan", "size", "known"] (spFcL 12) := all_fcL T F__law_forecast m__law_forecast b__law_forecast Cbelow Ctimes Cgf 12
  have Cname : Cal l.prog w K mg base 1 "_law_name" ["row", "taken"] spName := ⟨_, _, ok__law_name F__law_name T, m__law_name, F__law_name.kp, b__law_name⟩
  have Ccount : Cal l.prog w K mg base 1 "_law_count" ["row", "size"] spCount := ⟨_, _, ok__law_count F__law_count T, m__law_count, F__law_count.kp, b__law_count⟩
  have Cgrow : Cal l.prog w K mg base 13 "_law_grow" ["rows", "at", "many", "deep", "names", "mode"] (spGrow 11) := all_grow T F__law_grow m__law_grow b__law_grow 11
  have Cright : Cal l.prog w K mg base 17 "_law_right" ["plan", "size", "counts"] spRight := ⟨_, _, ok__law_right F__law_right T U Cforecast Csame CHsame Cnames CfcL, m__law_right, F__law_right.kp, b__law_right⟩
  exact ok_law F_law T Ccell Cdigits Cname Ccount Cgrow Cright
theorem walk {l : PySem.W.OpenLaw} {q : Program} {loose : List Str} {XP : (Str → Option Value) → Heap → Prop} {YP : World → Heap → Prop} {d : DefRec} {K : Params → PySem.W.Frag} (hn : l.most = some 63) (hdf : d.params.defaults = [])
    (hY : ∀ (w : World) (h : Heap), YP w h → (K w.params).In h)
    (F : ∀ (w : World) (mg : Str → Option Value) (fa : Addr) (h : Heap), (K w.params).In h → h.Ns mainGlobals mg → mg d.name = some (.ref fa) →
      ∃ fd : FuncData, (∀ (s : Shared) (u : Value), BindsTo s fd ⟨[u], []⟩ [("script", u)]) ∧ ∀ base : Heap, (K w.params).In base → base.Ns mainGlobals mg → FnOk l.prog w (K w.params) mg base CX0 18 fa fd ["script"] (spLaw (K w.params))) :
    PySem.W.WalkO q loose XP YP l.row.toRowW d [] (fun f vs => PySem.call f vs) :=
  L2.walk_of (n := 63) (k := 18) (x := "script") (CX := fun _ => CX0) (sp := fun w => spLaw (K w.params)) hn (by decide) hdf ⟨rfl, by decide, by decide⟩ hY F (fun _ _ a ns hl _ hS => ⟨a, ns, rfl, hS, hl, fun _ => rfl⟩) fun _ _ _ _ _ z => z
end P62
open PySem PySem.W PyProof.Rows
set_option maxRecDepth 100000 in
set_option maxHeartbeats 0 in
theorem PySem.Challenge.cw_wholecables_k62_forecast_rules_holds : PySem.Challenge.rw_wholecables_k62_forecast_rules.Holds := by
  w_on; o_law; k_head; (case hw => w_witness2)
  k_fill
  refine P62.walk (l := PySem.Challenge.rw_wholecables_k62_forecast_rules) rfl rfl (fun w h Y => PySem.W.kIn_of Y) ?F
  case F =>
    intro w mg fa h KX G hmg
    refine' P62.all_mk KX G hmg ?a1 ?l1 ?c1 ?k1 ?a2 ?l2 ?c2 ?k2 ?a3 ?l3 ?c3 ?k3 ?a4 ?l4 ?c4 ?k4 ?a5 ?l5 ?c5 ?k5 ?a6 ?l6 ?c6 ?k6 ?a7 ?l7 ?c7 ?k7 ?a8 ?l8 ?c8 ?k8 ?a9 ?l9 ?c9 ?k9 ?a10 ?l10 ?c10 ?k10 ?a11 ?l11 ?c11 ?k11 ?a12 ?l12 ?c12 ?k12 ?a13 ?l13 ?c13 ?k13 ?a14 ?l14 ?c14 ?k14 ?a15 ?l15 ?c15 ?k15 ?a16 ?l16 ?c16 ?k16 ?a17 ?l17 ?c17 ?k17 ?a18 ?l18 ?c18 ?k18 ?a19 ?l19 ?c19 ?k19 ?a20 ?l20 ?c20 ?k20 ?a21 ?l21 ?c21 ?k21 ?a22 ?l22 ?c22 ?k22 ?a23 ?l23 ?c23 ?k23 ?a24 ?l24 ?c24 ?k24 ?a25 ?l25 ?c25 ?k25 ?a26 ?l26 ?c26 ?k26 ?a27 ?l27 ?c27 ?k27 ?a28 ?l28 ?c28 ?k28 ?a29 ?l29 ?c29 ?k29 ?z0 ?z1 ?z2 ?z3 ?z4 ?z5 ?z6 ?z7 ?z8 ?z9 ?z10 ?z11 ?z12 ?g_gcd ?a_CableError ?a_BadNotation ?a_BadPlan ?a_UnknownName ?i_CableError ?y_CableError ?i_BadNotation ?y_BadNotation ?i_BadPlan ?y_BadPlan ?i_UnknownName ?y_UnknownName ?b_CableError ?b_UnknownName ?xl_UnknownName ?sa_UnknownName ?ga_UnknownName ?gg_UnknownName ?ca_UnknownName ?cm_UnknownName ?hd_UnknownName ?kp_UnknownName ?no_UnknownName_name ?in_UnknownName ?tf_UnknownName ?lf_UnknownName ?cf_UnknownName ?kf_UnknownName ?cn0 ?ct0 ?s_UnknownName_UnknownName ?s_UnknownName_CableError ?s_UnknownName_BadPlan ?s_UnknownName_BadNotation ?sb_UnknownName_ValueError
    (case a1 => k_is)
    (case l1 => k_is)
    (case c1 => k_is)
    (case k1 => k_is)
    (case a2 => k_is)
    (case l2 => k_is)
    (case c2 => k_is)
    (case k2 => k_is)
    (case a3 => k_is)
    (case l3 => k_is)
    (case c3 => k_is)
    (case k3 => k_is)
    (case a4 => k_is)
    (case l4 => k_is)
    (case c4 => k_is)
    (case k4 => k_is)
    (case a5 => k_is)
    (case l5 => k_is)
    (case c5 => k_is)
    (case k5 => k_is)
    (case a6 => k_is)
    (case l6 => k_is)
    (case c6 => k_is)
    (case k6 => k_is)
    (case a7 => k_is)
    (case l7 => k_is)
    (case c7 => k_is)
    (case k7 => k_is)
    (case a8 => k_is)
    (case l8 => k_is)
    (case c8 => k_is)
    (case k8 => k_is)
    (case a9 => k_is)
    (case l9 => k_is)
    (case c9 => k_is)
    (case k9 => k_is)
    (case a10 => k_is)
    (case l10 => k_is)
    (case c10 => k_is)
    (case k10 => k_is)
    (case a11 => k_is)
    (case l11 => k_is)
    (case c11 => k_is)
    (case k11 => k_is)
    (case a12 => k_is)
    (case l12 => k_is)
    (case c12 => k_is)
    (case k12 => k_is)
    (case a13 => k_is)
    (case l13 => k_is)
    (case c13 => k_is)
    (case k13 => k_is)
    (case a14 => k_is)
    (case l14 => k_is)
    (case c14 => k_is)
    (case k14 => k_is)
    (case a15 => k_is)
    (case l15 => k_is)
    (case c15 => k_is)
    (case k15 => k_is)
    (case a16 => k_is)
    (case l16 => k_is)
    (case c16 => k_is)
    (case k16 => k_is)
    (case a17 => k_is)
    (case l17 => k_is)
    (case c17 => k_is)
    (case k17 => k_is)
    (case a18 => k_is)
    (case l18 => k_is)
    (case c18 => k_is)
    (case k18 => k_is)
    (case a19 => k_is)
    (case l19 => k_is)
    (case c19 => k_is)
    (case k19 => k_is)
    (case a20 => k_is)
    (case l20 => k_is)
    (case c20 => k_is)
    (case k20 => k_is)
    (case a21 => k_is)
    (case l21 => k_is)
    (case c21 => k_is)
    (case k21 => k_is)
    (case a22 => k_is)
    (case l22 => k_is)
    (case c22 => k_is)
    (case k22 => k_is)
    (case a23 => k_is)
    (case l23 => k_is)
    (case c23 => k_is)
    (case k23 => k_is)
    (case a24 => k_is)
    (case l24 => k_is)
    (case c24 => k_is)
    (case k24 => k_is)
    (case a25 => k_is)
    (case l25 => k_is)
    (case c25 => k_is)
    (case k25 => k_is)
    (case a26 => k_is)
    (case l26 => k_is)
    (case c26 => k_is)
    (case k26 => k_is)
    (case a27 => k_is)
    (case l27 => k_is)
    (case c27 => k_is)
    (case k27 => k_is)
    (case a28 => k_is)
    (case l28 => k_is)
    (case c28 => k_is)
    (case k28 => k_is)
    (case a29 => k_is)
    (case l29 => k_is)
    (case c29 => k_is)
    (case k29 => k_is)
    (case z0 => k_is)
    (case z1 => k_is)
    (case z2 => k_is)
    (case z3 => k_is)
    (case z4 => k_is)
    (case z5 => k_is)
    (case z6 => k_is)
    (case z7 => k_is)
    (case z8 => k_is)
    (case z9 => k_is)
    (case z10 => k_is)
    (case z11 => k_is)
    (case z12 => k_is)
    (case g_gcd => k_is)
    (case a_CableError => k_is)
    (case a_BadNotation => k_is)
    (case a_BadPlan => k_is)
    (case a_UnknownName => k_is)
    (case i_CableError => k_is)
    (case y_CableError => k_is)
    (case i_BadNotation => k_is)
    (case y_BadNotation => k_is)
    (case i_BadPlan => k_is)
    (case y_BadPlan => k_is)
    (case i_UnknownName => k_is)
    (case y_UnknownName => k_is)
    (case b_CableError => k_is)
    (case b_UnknownName => k_is)
    (case xl_UnknownName => k_is)
    (case sa_UnknownName => k_is)
    (case ga_UnknownName => k_is)
    (case gg_UnknownName => k_is)
    (case ca_UnknownName => k_is)
    (case cm_UnknownName => k_is)
    (case hd_UnknownName => k_is)
    (case kp_UnknownName => k_is)
    (case no_UnknownName_name => k_is)
    (case in_UnknownName => k_is)
    (case tf_UnknownName => k_is)
    (case lf_UnknownName => k_is)
    (case cf_UnknownName => k_is)
    (case kf_UnknownName => k_is)
    (case cn0 => k_is)
    (case ct0 => k_is)
    (case s_UnknownName_UnknownName => k_is)
    (case s_UnknownName_CableError => k_is)
    (case s_UnknownName_BadPlan => k_is)
    (case s_UnknownName_BadNotation => k_is)
    (case sb_UnknownName_ValueError => k_is)
