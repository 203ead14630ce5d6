import PyProof.Rows.All
import HandS.ForMost
import HandS.Deep
import HandS.Zip
import HandS.Walk
import HandS.Gcd
import HandS.Wide
import HandS.IsInst
import HandS.Lambda
import HandS.SortRule
import HandS.Style
import Flt.RightSqrt
import PySem.Challenge.RW_lampsaloft_k45_whole_what_is_multiplied
import HandS.Nested
import KE.GoesEnum
import KE.SortCalls
import HandS.TryOnly
import HandS.EndOwn
set_option linter.all false
set_option Elab.async false
/-! the program's fractions and legs as plain functions -/
namespace Lp
abbrev Fq := Int × Int
abbrev Leg := (Int × Int) × (Int × Int)
def gk (n d : Int) : Int := if 0 < d then ((Nat.gcd n.natAbs d.natAbs : Nat) : Int) else -((Nat.gcd n.natAbs d.natAbs : Nat) : Int)
def red (n d : Int) : Fq := (n.fdiv (gk n d), d.fdiv (gk n d))
def add (a b : Fq) : Fq := red (a.1 * b.2 + b.1 * a.2) (a.2 * b.2)
def sub (a b : Fq) : Fq := red (a.1 * b.2 - b.1 * a.2) (a.2 * b.2)
def mul (a b : Fq) : Fq := red (a.1 * b.1) (a.2 * b.2)
def div (a b : Fq) : Fq := red (a.1 * b.2) (a.2 * b.1)
def cmp (a b : Fq) : Int := (if b.1 * a.2 < a.1 * b.2 then 1 else 0) - (if a.1 * b.2 < b.1 * a.2 then 1 else 0)
def placeOn (l : Leg) (s : Fq) : Fq × Fq := (add (l.1.1, 1) (mul s (l.2.1 - l.1.1, 1)), add (l.1.2, 1) (mul s (l.2.2 - l.1.2, 1)))
def parting (l o : Leg) (s t : Fq) : Fq × Fq := (sub (placeOn o t).1 (placeOn l s).1, sub (placeOn o t).2 (placeOn l s).2)
def dot (u v : Fq × Fq) : Fq := add (mul u.1 v.1) (mul u.2 v.2)
def sqAt (l o : Leg) (s t : Fq) : Fq := dot (parting l o s t) (parting l o s t)
def rest (rho : Fq) : Fq := sub (1, 1) rho
def ring (rho : Fq) : List (Fq × Fq) := [((0, 1), (0, 1)), ((0, 1), rho), (rest rho, (1, 1)), ((1, 1), (1, 1)), ((1, 1), rest rho), (rho, (0, 1))]
def far (rho : Fq) : List (Fq × Fq) := [((0, 1), rho), (rest rho, (1, 1)), ((1, 1), (1, 1)), ((1, 1), rest rho), (rho, (0, 1)), ((0, 1), (0, 1))]
abbrev Tri := Fq × Fq × Fq
def byTri (a b : Tri) : Int := if cmp a.1 b.1 ≠ 0 then cmp a.1 b.1 else if cmp a.2.1 b.2.1 ≠ 0 then cmp a.2.1 b.2.1 else if cmp a.2.2 b.2.2 ≠ 0 then cmp a.2.2 b.2.2 else 0
def along (l o : Leg) (one far : Fq × Fq) : Fq × Fq :=
  (sub (parting l o far.1 far.2).1 (parting l o one.1 one.2).1, sub (parting l o far.1 far.2).2 (parting l o one.1 one.2).2)
def share (l o : Leg) (one far : Fq × Fq) : Fq :=
  div (mul (-1, 1) (dot (parting l o one.1 one.2) (along l o one far))) (dot (along l o one far) (along l o one far))
def mix (q a b : Fq) : Fq := add a (mul q (sub b a))
def onSide (l o : Leg) (one far : Fq × Fq) : Fq × Fq :=
  if along l o one far = ((0, 1), (0, 1)) then one
  else if (share l o one far).1 ≤ 0 then one
  else if (share l o one far).2 ≤ (share l o one far).1 then far
  else (mix (share l o one far) one.1 far.1, mix (share l o one far) one.2 far.2)
def whole (l o : Leg) : Int := (l.2.1 - l.1.1) * (o.2.2 - o.1.2) - (l.2.2 - l.1.2) * (o.2.1 - o.1.1)
def crS (l o : Leg) : Int := (o.1.1 - l.1.1) * (o.2.2 - o.1.2) - (o.1.2 - l.1.2) * (o.2.1 - o.1.1)
def crT (l o : Leg) : Int := (o.1.1 - l.1.1) * (l.2.2 - l.1.2) - (o.1.2 - l.1.2) * (l.2.1 - l.1.1)
def crossing (l o : Leg) : Option (Fq × Fq) :=
  if whole l o = 0 then none else some (div (crS l o, 1) (whole l o, 1), div (crT l o, 1) (whole l o, 1))
def absF (q : Fq) : Fq := (if q.1 < 0 then -q.1 else q.1, q.2)
def isPart (s : Fq) : Bool := decide (cmp (0, 1) s ≤ 0) && decide (0 ≤ cmp (1, 1) s)
def isWithin (s t rho : Fq) : Bool := (isPart s && isPart t) && decide (cmp (absF (sub s t)) rho ≤ 0)
def sides (l o : Leg) (rho : Fq) : List (Fq × Fq) := List.zipWith (onSide l o) (ring rho) (far rho)
def met (l o : Leg) (rho : Fq) : List (Fq × Fq) :=
  match crossing l o with
  | none => []
  | some m => if isWithin m.1 m.2 rho = true then [m] else []
def cands (l o : Leg) (rho : Fq) : List (Fq × Fq) := ring rho ++ sides l o rho ++ met l o rho
def cand (l o : Leg) (c : Fq × Fq) : Tri := (sqAt l o c.1 c.2, c.1, c.2)
def better (l o : Leg) (m : Option Tri) (c : Fq × Fq) : Option Tri :=
  match m with
  | none => some (cand l o c)
  | some m => if byTri (cand l o c) m < 0 then some (cand l o c) else some m
def nearO (l o : Leg) (rho : Fq) : Option Tri := (cands l o rho).foldl (better l o) none
def nearest (l o : Leg) (rho : Fq) : Tri := (nearO l o rho).getD ((0, 1), (0, 1), (0, 1))

/-! ### what they are worth -/
def val (q : Fq) : Rat := (q.1 : Rat) / (q.2 : Rat)
structure Ok (q : Fq) : Prop where
  pos : 0 < q.2
  low : Nat.gcd q.1.natAbs q.2.natAbs = 1
theorem Ok.ne {q : Fq} (h : Ok q) : (q.2 : Rat) ≠ 0 := by
  have := h.pos
  have h2 : ((q.2 : Int) : Rat) ≠ ((0 : Int) : Rat) := fun e => by
    have := Rat.intCast_inj.mp e
    omega
  simpa using h2
theorem gk_ne {n d : Int} (h : d ≠ 0) : gk n d ≠ 0 := by
  have : 0 < Nat.gcd n.natAbs d.natAbs := Nat.gcd_pos_of_pos_right _ (by omega)
  unfold gk
  split <;> omega
theorem gk_dvd (n d : Int) : gk n d ∣ n ∧ gk n d ∣ d := by
  have h1 : ((Nat.gcd n.natAbs d.natAbs : Nat) : Int) ∣ n := Int.ofNat_dvd_left.mpr (Nat.gcd_dvd_left _ _)
  have h2 : ((Nat.gcd n.natAbs d.natAbs : Nat) : Int) ∣ d := Int.ofNat_dvd_left.mpr (Nat.gcd_dvd_right _ _)
  unfold gk
  split
  · exact ⟨h1, h2⟩
  · exact ⟨Int.neg_dvd.mpr h1, Int.neg_dvd.mpr h2⟩
theorem gk_abs (n d : Int) : (gk n d).natAbs = Nat.gcd n.natAbs d.natAbs := by
  unfold gk
  split <;> simp
theorem red_mul {n d : Int} (h : d ≠ 0) : n = gk n d * (red n d).1 ∧ d = gk n d * (red n d).2 := by
  obtain ⟨h1, h2⟩ := gk_dvd n d
  unfold red
  dsimp only
  exact ⟨(Int.mul_fdiv_cancel' h1).symm, (Int.mul_fdiv_cancel' h2).symm⟩
theorem pos_of {g x : Int} (h : 0 < g) (h2 : 0 < g * x) : 0 < x := by
  by_cases hx : 0 < x
  · exact hx
  · have := Int.mul_le_mul_of_nonneg_left (show x ≤ 0 by omega) (show 0 ≤ g by omega)
    rw [Int.mul_zero] at this
    omega
theorem red_pos {n d : Int} (h : d ≠ 0) : 0 < (red n d).2 := by
  obtain ⟨_, h2⟩ := red_mul (n := n) h
  have hg : 0 < Nat.gcd n.natAbs d.natAbs := Nat.gcd_pos_of_pos_right _ (by omega)
  by_cases hd : 0 < d
  · have g0 : 0 < gk n d := by unfold gk; rw [if_pos hd]; omega
    have : 0 < gk n d * (red n d).2 := by omega
    exact pos_of g0 this
  · have g0 : 0 < -gk n d := by unfold gk; rw [if_neg hd]; omega
    have : 0 < (-gk n d) * (red n d).2 := by rw [Int.neg_mul]; omega
    exact pos_of g0 this
theorem red_ok {n d : Int} (h : d ≠ 0) : Ok (red n d) := by
  refine ⟨red_pos h, ?_⟩
  obtain ⟨h1, h2⟩ := red_mul (n := n) h
  have hg : 0 < Nat.gcd n.natAbs d.natAbs := Nat.gcd_pos_of_pos_right _ (by omega)
  have e1 : n.natAbs = Nat.gcd n.natAbs d.natAbs * (red n d).1.natAbs := by
    rw [← gk_abs, ← Int.natAbs_mul, ← h1]
  have e2 : d.natAbs = Nat.gcd n.natAbs d.natAbs * (red n d).2.natAbs := by
    rw [← gk_abs, ← Int.natAbs_mul, ← h2]
  have e3 : Nat.gcd n.natAbs d.natAbs = Nat.gcd n.natAbs d.natAbs * Nat.gcd (red n d).1.natAbs (red n d).2.natAbs := by
    rw [← Nat.gcd_mul_left, ← e1, ← e2]
  have e4 : Nat.gcd n.natAbs d.natAbs * 1 = Nat.gcd n.natAbs d.natAbs * Nat.gcd (red n d).1.natAbs (red n d).2.natAbs := by omega
  exact (Nat.eq_of_mul_eq_mul_left hg e4).symm
theorem cast_ne {d : Int} (h : d ≠ 0) : (d : Rat) ≠ 0 := fun e => by
  have e : (d : Rat) = ((0 : Int) : Rat) := by simpa using e
  exact h (Rat.intCast_inj.mp e)
theorem red_val {n d : Int} (h : d ≠ 0) : val (red n d) = (n : Rat) / (d : Rat) := by
  obtain ⟨h1, h2⟩ := red_mul (n := n) h
  have hg := cast_ne (gk_ne (n := n) h)
  have hd := cast_ne h
  have hr := (red_ok (n := n) h).ne
  have e1 : (n : Rat) = (gk n d : Rat) * ((red n d).1 : Rat) := by rw [← Rat.intCast_mul, ← h1]
  have e2 : (d : Rat) = (gk n d : Rat) * ((red n d).2 : Rat) := by rw [← Rat.intCast_mul, ← h2]
  unfold val
  grind
theorem red_self {q : Fq} (h : Ok q) : red q.1 q.2 = q := by
  have e : gk q.1 q.2 = 1 := by unfold gk; rw [if_pos h.pos, h.low]; rfl
  unfold red
  rw [e, Int.fdiv_one, Int.fdiv_one]
theorem Ok.ext {a b : Fq} (ha : Ok a) (hb : Ok b) (h : val a = val b) : a = b := by
  have h1 : a.1 * b.2 = b.1 * a.2 := by
    have ea := ha.ne
    have eb := hb.ne
    have e : (a.1 : Rat) * (b.2 : Rat) = (b.1 : Rat) * (a.2 : Rat) := by unfold val at h; grind
    rw [← Rat.intCast_mul, ← Rat.intCast_mul] at e
    exact Rat.intCast_inj.mp e
  have h2 : a.1.natAbs * b.2.natAbs = b.1.natAbs * a.2.natAbs := by rw [← Int.natAbs_mul, ← Int.natAbs_mul, h1]
  have c1 : b.2.natAbs ∣ a.2.natAbs := by
    have : b.2.natAbs ∣ b.1.natAbs * a.2.natAbs := ⟨a.1.natAbs, by rw [← h2, Nat.mul_comm]⟩
    exact (Nat.Coprime.dvd_of_dvd_mul_left (show Nat.Coprime b.2.natAbs b.1.natAbs by rw [Nat.Coprime, Nat.gcd_comm]; exact hb.low) this)
  have c2 : a.2.natAbs ∣ b.2.natAbs := by
    have : a.2.natAbs ∣ a.1.natAbs * b.2.natAbs := ⟨b.1.natAbs, by rw [h2, Nat.mul_comm]⟩
    exact (Nat.Coprime.dvd_of_dvd_mul_left (show Nat.Coprime a.2.natAbs a.1.natAbs by rw [Nat.Coprime, Nat.gcd_comm]; exact ha.low) this)
  have e2 : a.2 = b.2 := by
    have := Nat.dvd_antisymm c2 c1
    have := ha.pos
    have := hb.pos
    omega
  have e1 : a.1 = b.1 := by
    rw [e2] at h1
    exact Int.eq_of_mul_eq_mul_right (by have := hb.pos; omega) h1
  exact Prod.ext e1 e2
theorem ok_int (x : Int) : Ok (x, 1) := ⟨Int.one_pos, by simp⟩
theorem val_int (x : Int) : val (x, 1) = (x : Rat) := by unfold val; simp [Rat.div_def]; grind
section
variable {a b : Fq} (ha : Ok a) (hb : Ok b)
include ha hb
theorem den_ne : a.2 * b.2 ≠ 0 := Int.mul_ne_zero (by have := ha.pos; omega) (by have := hb.pos; omega)
theorem ok_add : Ok (add a b) := red_ok (den_ne ha hb)
theorem ok_sub : Ok (sub a b) := red_ok (den_ne ha hb)
theorem ok_mul : Ok (mul a b) := red_ok (den_ne ha hb)
theorem val_add : val (add a b) = val a + val b := by
  unfold add
  rw [red_val (den_ne ha hb), Rat.intCast_mul, Rat.intCast_add, Rat.intCast_mul, Rat.intCast_mul]
  have := ha.ne
  have := hb.ne
  unfold val
  grind
theorem val_sub : val (sub a b) = val a - val b := by
  unfold sub
  rw [red_val (den_ne ha hb), Rat.intCast_mul, Rat.intCast_sub, Rat.intCast_mul, Rat.intCast_mul]
  have := ha.ne
  have := hb.ne
  unfold val
  grind
theorem val_mul : val (mul a b) = val a * val b := by
  unfold mul
  rw [red_val (den_ne ha hb), Rat.intCast_mul, Rat.intCast_mul]
  have := ha.ne
  have := hb.ne
  unfold val
  grind
theorem div_ne (h : b.1 ≠ 0) : a.2 * b.1 ≠ 0 := Int.mul_ne_zero (by have := ha.pos; omega) h
theorem ok_div (h : b.1 ≠ 0) : Ok (div a b) := red_ok (div_ne ha hb h)
theorem val_div (h : b.1 ≠ 0) : val (div a b) = val a / val b := by
  unfold div
  rw [red_val (div_ne ha hb h), Rat.intCast_mul, Rat.intCast_mul]
  have := ha.ne
  have := hb.ne
  have := cast_ne h
  unfold val
  grind
theorem lt_iff : a.1 * b.2 < b.1 * a.2 ↔ val a < val b := by
  have pa : (0 : Rat) < (a.2 : Rat) := by simpa using Rat.intCast_lt_intCast.mpr ha.pos
  have pb : (0 : Rat) < (b.2 : Rat) := by simpa using Rat.intCast_lt_intCast.mpr hb.pos
  unfold val
  rw [Rat.div_lt_iff pa, ← Rat.intCast_lt_intCast, Rat.intCast_mul, Rat.intCast_mul]
  have e : (b.1 : Rat) / (b.2 : Rat) * (a.2 : Rat) = ((b.1 : Rat) * (a.2 : Rat)) / (b.2 : Rat) := by grind
  rw [e, Rat.lt_div_iff pb]
theorem cmp_neg : cmp a b < 0 ↔ val a < val b := by
  have h1 := lt_iff ha hb
  have h2 := lt_iff hb ha
  unfold cmp
  rw [← h1]
  split <;> split <;> omega
theorem cmp_pos : 0 < cmp a b ↔ val b < val a := by
  have h1 := lt_iff ha hb
  have h2 := lt_iff hb ha
  unfold cmp
  rw [← h2]
  split <;> split <;> omega
theorem cmp_le : cmp a b ≤ 0 ↔ val a ≤ val b := by
  have := cmp_pos ha hb
  rw [← Rat.not_lt, ← this]
  omega
theorem cmp_ge : 0 ≤ cmp a b ↔ val b ≤ val a := by
  have := cmp_neg ha hb
  rw [← Rat.not_lt, ← this]
  omega
theorem cmp_eq : cmp a b = 0 ↔ val a = val b := by
  have h1 := cmp_le ha hb
  have h2 := cmp_ge ha hb
  constructor
  · intro h
    exact Rat.le_antisymm (h1.mp (by omega)) (h2.mp (by omega))
  · intro h
    have := h1.mpr (by rw [h]; exact Rat.le_refl)
    have := h2.mpr (by rw [h]; exact Rat.le_refl)
    omega
end
theorem val_zero {a : Fq} (ha : Ok a) : val a = 0 ↔ a.1 = 0 := by
  have := ha.ne
  unfold val
  constructor
  · intro h
    have : (a.1 : Rat) = ((0 : Int) : Rat) := by
      have : (a.1 : Rat) = 0 := by grind
      simpa using this
    exact Rat.intCast_inj.mp this
  · intro h
    rw [h]
    simp [Rat.div_def]
theorem val_eq_zero {a : Fq} (ha : Ok a) (h : val a = 0) : a = (0, 1) := ha.ext (ok_int 0) (by rw [h, val_int]; rfl)
end Lp
set_option linter.all false
set_option Elab.async false
/-! sizes; parts; the nearest couple -/
namespace Lp
theorem rat_sq (x : Rat) : 0 ≤ x * x := by
  by_cases h : 0 ≤ x
  · exact Rat.mul_nonneg h h
  · have : 0 ≤ -x := by grind
    have := Rat.mul_nonneg this this
    grind
/-! ### sizes -/
structure B (q : Fq) (i j : Nat) : Prop where
  n : q.1.natAbs < 2 ^ i
  d : q.2.natAbs < 2 ^ j
theorem p2_le {i j : Nat} (h : i ≤ j) : 2 ^ i ≤ 2 ^ j := Nat.pow_le_pow_right (by decide) h
theorem lt_p2 {x i j : Nat} (h : x < 2 ^ i) (e : i ≤ j) : x < 2 ^ j := Nat.lt_of_lt_of_le h (p2_le e)
theorem B.mono {q : Fq} {i j k l : Nat} (h : B q i j) (h1 : i ≤ k) (h2 : j ≤ l) : B q k l := ⟨lt_p2 h.n h1, lt_p2 h.d h2⟩
theorem mul_lt {x y : Int} {i j : Nat} (hx : x.natAbs < 2 ^ i) (hy : y.natAbs < 2 ^ j) : (x * y).natAbs < 2 ^ (i + j) := by
  rw [Int.natAbs_mul, Nat.pow_add]
  exact Nat.mul_lt_mul'' hx hy
theorem add_lt {x y : Int} {i : Nat} (hx : x.natAbs < 2 ^ i) (hy : y.natAbs < 2 ^ i) : (x + y).natAbs < 2 ^ (i + 1) := by
  have := Int.natAbs_add_le x y
  rw [Nat.pow_succ]
  omega
theorem sub_lt {x y : Int} {i : Nat} (hx : x.natAbs < 2 ^ i) (hy : y.natAbs < 2 ^ i) : (x - y).natAbs < 2 ^ (i + 1) := by
  have h : (x - y).natAbs ≤ x.natAbs + y.natAbs := by omega
  rw [Nat.pow_succ]
  omega
theorem red_le {n d : Int} (h : d ≠ 0) : (red n d).1.natAbs ≤ n.natAbs ∧ (red n d).2.natAbs ≤ d.natAbs := by
  obtain ⟨h1, h2⟩ := red_mul (n := n) h
  have g : 0 < (gk n d).natAbs := by have := gk_ne (n := n) h; omega
  have e1 : n.natAbs = (gk n d).natAbs * (red n d).1.natAbs := by rw [← Int.natAbs_mul, ← h1]
  have e2 : d.natAbs = (gk n d).natAbs * (red n d).2.natAbs := by rw [← Int.natAbs_mul, ← h2]
  have f1 := Nat.le_mul_of_pos_left (red n d).1.natAbs g
  have f2 := Nat.le_mul_of_pos_left (red n d).2.natAbs g
  exact ⟨by omega, by omega⟩
theorem B_red {n d : Int} {i j : Nat} (h : d ≠ 0) (hn : n.natAbs < 2 ^ i) (hd : d.natAbs < 2 ^ j) : B (red n d) i j :=
  ⟨Nat.lt_of_le_of_lt (red_le h).1 hn, Nat.lt_of_le_of_lt (red_le h).2 hd⟩
section
variable {a b : Fq} {i j k l p : Nat} (ha : Ok a) (hb : Ok b) (xa : B a i j) (xb : B b k l)
include ha hb xa xb
theorem B_add (h1 : i + l ≤ p) (h2 : k + j ≤ p) : B (add a b) (p + 1) (j + l) :=
  B_red (den_ne ha hb) (add_lt (lt_p2 (mul_lt xa.n xb.d) h1) (lt_p2 (mul_lt xb.n xa.d) h2)) (mul_lt xa.d xb.d)
theorem B_sub (h1 : i + l ≤ p) (h2 : k + j ≤ p) : B (sub a b) (p + 1) (j + l) :=
  B_red (den_ne ha hb) (sub_lt (lt_p2 (mul_lt xa.n xb.d) h1) (lt_p2 (mul_lt xb.n xa.d) h2)) (mul_lt xa.d xb.d)
theorem B_mul : B (mul a b) (i + k) (j + l) := B_red (den_ne ha hb) (mul_lt xa.n xb.n) (mul_lt xa.d xb.d)
theorem B_div (h : b.1 ≠ 0) : B (div a b) (i + l) (j + k) := B_red (div_ne ha hb h) (mul_lt xa.n xb.d) (mul_lt xa.d xb.n)
end
theorem B_int {x : Int} {i : Nat} (h : x.natAbs < 2 ^ i) : B (x, 1) i 1 := ⟨h, by show 1 < 2 ^ 1; decide⟩
/-- a fraction that is fit for every operation -/
structure Fit (q : Fq) : Prop where
  ok : Ok q
  b : B q 4000 4000
/-- .. for comparisons -/
structure FitC (q : Fq) : Prop where
  ok : Ok q
  b : B q 9000 9000
theorem Fit.c {q : Fq} (h : Fit q) : FitC q := ⟨h.ok, h.b.mono (by omega) (by omega)⟩
structure Fit2 (u : Fq × Fq) : Prop where
  x : Ok u.1
  y : Ok u.2
  bx : B u.1 1990 1990
  by_ : B u.2 1990 1990
/-- a leg's numbers -/
structure LegOk (l : Leg) : Prop where
  a : l.1.1.natAbs < 2 ^ 66
  b : l.1.2.natAbs < 2 ^ 66
  c : l.2.1.natAbs < 2 ^ 66
  d : l.2.2.natAbs < 2 ^ 66
/-- a part, of any size told -/
structure Pt (s : Fq) (j : Nat) : Prop where
  ok : Ok s
  b : B s j j
theorem Pt.mono {s : Fq} {i j : Nat} (h : Pt s i) (e : i ≤ j) : Pt s j := ⟨h.ok, h.b.mono e e⟩
section
variable {l o : Leg} {s t : Fq} {j : Nat} (hl : LegOk l) (ho : LegOk o) (hs : Pt s j) (ht : Pt t j)
include hl hs
theorem place_mul : Ok (mul s (l.2.1 - l.1.1, 1)) ∧ Ok (mul s (l.2.2 - l.1.2, 1)) ∧ B (mul s (l.2.1 - l.1.1, 1)) (j + 67) (j + 1) ∧ B (mul s (l.2.2 - l.1.2, 1)) (j + 67) (j + 1) :=
  ⟨ok_mul hs.ok (ok_int _), ok_mul hs.ok (ok_int _), B_mul hs.ok (ok_int _) hs.b (B_int (sub_lt hl.c hl.a)), B_mul hs.ok (ok_int _) hs.b (B_int (sub_lt hl.d hl.b))⟩
theorem place_ok : Ok (placeOn l s).1 ∧ Ok (placeOn l s).2 ∧ B (placeOn l s).1 (j + 69) (j + 2) ∧ B (placeOn l s).2 (j + 69) (j + 2) := by
  obtain ⟨h1, h2, h3, h4⟩ := place_mul hl hs
  refine ⟨ok_add (ok_int _) h1, ok_add (ok_int _) h2, ?_, ?_⟩
  · exact (B_add (p := j + 68) (ok_int _) h1 (B_int hl.a) h3 (by omega) (by omega)).mono (by omega) (by omega)
  · exact (B_add (p := j + 68) (ok_int _) h2 (B_int hl.b) h4 (by omega) (by omega)).mono (by omega) (by omega)
theorem place_val : val (placeOn l s).1 = (l.1.1 : Rat) + val s * ((l.2.1 : Rat) - (l.1.1 : Rat)) ∧ val (placeOn l s).2 = (l.1.2 : Rat) + val s * ((l.2.2 : Rat) - (l.1.2 : Rat)) := by
  obtain ⟨h1, h2, _⟩ := place_mul hl hs
  unfold placeOn
  dsimp only
  rw [val_add (ok_int _) h1, val_add (ok_int _) h2, val_mul hs.ok (ok_int _), val_mul hs.ok (ok_int _), val_int, val_int, val_int, val_int, Rat.intCast_sub, Rat.intCast_sub]
  exact ⟨rfl, rfl⟩
include ho ht
theorem parting_ok : Ok (parting l o s t).1 ∧ Ok (parting l o s t).2 ∧ B (parting l o s t).1 (2 * j + 72) (2 * j + 4) ∧ B (parting l o s t).2 (2 * j + 72) (2 * j + 4) := by
  obtain ⟨h1, h2, h3, h4⟩ := place_ok hl hs
  obtain ⟨k1, k2, k3, k4⟩ := place_ok ho ht
  refine ⟨ok_sub k1 h1, ok_sub k2 h2, ?_, ?_⟩
  · exact (B_sub (p := 2 * j + 71) k1 h1 k3 h3 (by omega) (by omega)).mono (by omega) (by omega)
  · exact (B_sub (p := 2 * j + 71) k2 h2 k4 h4 (by omega) (by omega)).mono (by omega) (by omega)
theorem parting_val : val (parting l o s t).1 = ((o.1.1 : Rat) + val t * ((o.2.1 : Rat) - (o.1.1 : Rat))) - ((l.1.1 : Rat) + val s * ((l.2.1 : Rat) - (l.1.1 : Rat))) ∧
    val (parting l o s t).2 = ((o.1.2 : Rat) + val t * ((o.2.2 : Rat) - (o.1.2 : Rat))) - ((l.1.2 : Rat) + val s * ((l.2.2 : Rat) - (l.1.2 : Rat))) := by
  obtain ⟨h1, h2, _⟩ := place_ok hl hs
  obtain ⟨k1, k2, _⟩ := place_ok ho ht
  unfold parting
  dsimp only
  rw [val_sub k1 h1, val_sub k2 h2, (place_val hl hs).1, (place_val hl hs).2, (place_val ho ht).1, (place_val ho ht).2]
  exact ⟨rfl, rfl⟩
theorem parting_fit (hj : j ≤ 900) : Fit2 (parting l o s t) := by
  obtain ⟨h1, h2, h3, h4⟩ := parting_ok hl ho hs ht
  exact ⟨h1, h2, h3.mono (by omega) (by omega), h4.mono (by omega) (by omega)⟩
end
section
variable {u v : Fq × Fq} {i j k l : Nat} (h1 : Ok u.1) (h2 : Ok u.2) (k1 : Ok v.1) (k2 : Ok v.2)
include h1 h2 k1 k2
theorem dot_ok : Ok (dot u v) := ok_add (ok_mul h1 k1) (ok_mul h2 k2)
theorem dot_val : val (dot u v) = val u.1 * val v.1 + val u.2 * val v.2 := by
  unfold dot
  rw [val_add (ok_mul h1 k1) (ok_mul h2 k2), val_mul h1 k1, val_mul h2 k2]
theorem dot_B (b1 : B u.1 i j) (b2 : B u.2 i j) (c1 : B v.1 k l) (c2 : B v.2 k l) : B (dot u v) (i + k + j + l + 1) (2 * j + 2 * l) :=
  (B_add (p := i + k + j + l) (ok_mul h1 k1) (ok_mul h2 k2) (B_mul h1 k1 b1 c1) (B_mul h2 k2 b2 c2) (by omega) (by omega)).mono (by omega) (by omega)
end
theorem dot_fit {u v : Fq × Fq} (a : Fit2 u) (b : Fit2 v) : Ok (dot u v) := dot_ok a.x a.y b.x b.y
section
variable {l o : Leg} {s t : Fq} {j : Nat} (hl : LegOk l) (ho : LegOk o) (hs : Pt s j) (ht : Pt t j)
include hl hs ho ht
theorem sqAt_ok : Ok (sqAt l o s t) := by
  obtain ⟨h1, h2, _⟩ := parting_ok hl ho hs ht
  exact dot_ok h1 h2 h1 h2
theorem sqAt_fit (hj : j ≤ 600) : FitC (sqAt l o s t) := by
  obtain ⟨h1, h2, h3, h4⟩ := parting_ok hl ho hs ht
  exact ⟨dot_ok h1 h2 h1 h2, (dot_B h1 h2 h1 h2 h3 h4 h3 h4).mono (by omega) (by omega)⟩
theorem sqAt_val : val (sqAt l o s t) = val (parting l o s t).1 * val (parting l o s t).1 + val (parting l o s t).2 * val (parting l o s t).2 := by
  obtain ⟨h1, h2, _⟩ := parting_ok hl ho hs ht
  exact dot_val h1 h2 h1 h2
end
/-! ### parts within rho -/
structure Part (s : Fq) : Prop where
  ok : Ok s
  lo : 0 ≤ val s
  hi : val s ≤ 1
structure Pair (rho : Fq) (c : Fq × Fq) : Prop where
  s : Part c.1
  t : Part c.2
  st : val c.1 - val c.2 ≤ val rho
  ts : val c.2 - val c.1 ≤ val rho
/-- rho itself: of few digits -/
structure Rho (rho : Fq) : Prop where
  part : Part rho
  b : B rho 10 10
theorem val_zero' : val (0, 1) = 0 := by rw [val_int]; rfl
theorem val_one' : val (1, 1) = 1 := by rw [val_int]; rfl
theorem part0 : Part (0, 1) := ⟨ok_int 0, by rw [val_zero']; decide, by rw [val_zero']; decide⟩
theorem part1 : Part (1, 1) := ⟨ok_int 1, by rw [val_one']; decide, by rw [val_one']; decide⟩
section
variable {rho : Fq} (hr : Rho rho)
include hr
theorem rest_val : val (rest rho) = 1 - val rho := by unfold rest; rw [val_sub (ok_int 1) hr.part.ok, val_one']
theorem rest_part : Part (rest rho) := by
  have h := hr.part.lo
  have h2 := hr.part.hi
  refine ⟨ok_sub (ok_int 1) hr.part.ok, ?_, ?_⟩
  · rw [rest_val hr]; grind
  · rw [rest_val hr]; grind
theorem rest_B : B (rest rho) 12 11 := (B_sub (p := 11) (ok_int 1) hr.part.ok (B_int (i := 1) (by decide)) hr.b (by omega) (by omega)).mono (by omega) (by omega)
theorem pt_rho : Pt rho 12 := ⟨hr.part.ok, hr.b.mono (by omega) (by omega)⟩
theorem pt_rest : Pt (rest rho) 12 := ⟨(rest_part hr).ok, (rest_B hr).mono (by omega) (by omega)⟩
end
theorem pt0 : Pt (0, 1) 12 := ⟨ok_int 0, B.mono (B_int (i := 1) (by decide)) (by omega) (by omega)⟩
theorem pt1 : Pt (1, 1) 12 := ⟨ok_int 1, B.mono (B_int (i := 1) (by decide)) (by omega) (by omega)⟩
/-- a corner: a pair of few digits -/
structure Corner (rho : Fq) (c : Fq × Fq) : Prop where
  pair : Pair rho c
  s : Pt c.1 12
  t : Pt c.2 12
theorem ring_corner {rho : Fq} (hr : Rho rho) : ∀ c ∈ ring rho, Corner rho c := by
  have h1 := hr.part.lo
  have h2 := hr.part.hi
  have e := rest_val hr
  have z := val_zero'
  have o := val_one'
  intro c hc
  simp only [ring, List.mem_cons, List.not_mem_nil, or_false] at hc
  rcases hc with rfl | rfl | rfl | rfl | rfl | rfl
  · exact ⟨⟨part0, part0, by dsimp only; grind, by dsimp only; grind⟩, pt0, pt0⟩
  · exact ⟨⟨part0, hr.part, by dsimp only; grind, by dsimp only; grind⟩, pt0, pt_rho hr⟩
  · exact ⟨⟨rest_part hr, part1, by dsimp only; grind, by dsimp only; grind⟩, pt_rest hr, pt1⟩
  · exact ⟨⟨part1, part1, by dsimp only; grind, by dsimp only; grind⟩, pt1, pt1⟩
  · exact ⟨⟨part1, rest_part hr, by dsimp only; grind, by dsimp only; grind⟩, pt1, pt_rest hr⟩
  · exact ⟨⟨hr.part, part0, by dsimp only; grind, by dsimp only; grind⟩, pt_rho hr, pt0⟩
theorem far_corner {rho : Fq} (hr : Rho rho) : ∀ c ∈ far rho, Corner rho c := by
  intro c hc
  refine ring_corner hr c ?_
  simp only [far, ring, List.mem_cons, List.not_mem_nil, or_false] at hc ⊢
  rcases hc with rfl | rfl | rfl | rfl | rfl | rfl <;> simp
/-- a candidate: a pair of parts of not too many digits -/
structure Cand (rho : Fq) (c : Fq × Fq) : Prop where
  pair : Pair rho c
  s : Pt c.1 600
  t : Pt c.2 600
theorem Corner.cand {rho : Fq} {c : Fq × Fq} (h : Corner rho c) : Cand rho c := ⟨h.pair, h.s.mono (by omega), h.t.mono (by omega)⟩
/-! ### a side -/
section
variable {l o : Leg} {rho : Fq} {one far : Fq × Fq} (hl : LegOk l) (ho : LegOk o) (h1 : Corner rho one) (h2 : Corner rho far)
include hl ho h1 h2
theorem along_ok : Ok (along l o one far).1 ∧ Ok (along l o one far).2 ∧ B (along l o one far).1 125 56 ∧ B (along l o one far).2 125 56 := by
  obtain ⟨a1, a2, a3, a4⟩ := parting_ok hl ho h1.s h1.t
  obtain ⟨b1, b2, b3, b4⟩ := parting_ok hl ho h2.s h2.t
  refine ⟨ok_sub b1 a1, ok_sub b2 a2, ?_, ?_⟩
  · exact (B_sub (p := 124) b1 a1 b3 a3 (by omega) (by omega)).mono (by omega) (by omega)
  · exact (B_sub (p := 124) b2 a2 b4 a4 (by omega) (by omega)).mono (by omega) (by omega)
theorem along_fit : Fit2 (along l o one far) := by
  obtain ⟨a1, a2, a3, a4⟩ := along_ok hl ho h1 h2
  exact ⟨a1, a2, a3.mono (by omega) (by omega), a4.mono (by omega) (by omega)⟩
theorem ad_ok : Ok (dot (along l o one far) (along l o one far)) ∧ B (dot (along l o one far) (along l o one far)) 363 224 := by
  obtain ⟨a1, a2, a3, a4⟩ := along_ok hl ho h1 h2
  exact ⟨dot_ok a1 a2 a1 a2, (dot_B a1 a2 a1 a2 a3 a4 a3 a4).mono (by omega) (by omega)⟩
theorem bd_ok : Ok (dot (parting l o one.1 one.2) (along l o one far)) ∧ B (dot (parting l o one.1 one.2) (along l o one far)) 306 168 := by
  obtain ⟨a1, a2, a3, a4⟩ := along_ok hl ho h1 h2
  obtain ⟨b1, b2, b3, b4⟩ := parting_ok hl ho h1.s h1.t
  exact ⟨dot_ok b1 b2 a1 a2, (dot_B b1 b2 a1 a2 b3 b4 a3 a4).mono (by omega) (by omega)⟩
theorem neg_ok : Ok (mul (-1, 1) (dot (parting l o one.1 one.2) (along l o one far))) ∧ B (mul (-1, 1) (dot (parting l o one.1 one.2) (along l o one far))) 307 169 := by
  obtain ⟨h, b⟩ := bd_ok hl ho h1 h2
  exact ⟨ok_mul (ok_int _) h, (B_mul (ok_int _) h (B_int (x := -1) (i := 1) (by decide)) b).mono (by omega) (by omega)⟩
theorem ad_ne (h : along l o one far ≠ ((0, 1), (0, 1))) : (dot (along l o one far) (along l o one far)).1 ≠ 0 := by
  obtain ⟨a1, a2, _⟩ := along_ok hl ho h1 h2
  intro e
  have e2 := (val_zero (ad_ok hl ho h1 h2).1).mpr e
  rw [dot_val a1 a2 a1 a2] at e2
  have n1 := rat_sq (val (along l o one far).1)
  have n2 := rat_sq (val (along l o one far).2)
  have z1 : val (along l o one far).1 * val (along l o one far).1 = 0 := by grind
  have z2 : val (along l o one far).2 * val (along l o one far).2 = 0 := by grind
  have y1 : val (along l o one far).1 = 0 := by grind
  have y2 : val (along l o one far).2 = 0 := by grind
  exact h (Prod.ext (val_eq_zero a1 y1) (val_eq_zero a2 y2))
theorem share_ok (h : along l o one far ≠ ((0, 1), (0, 1))) : Ok (share l o one far) ∧ B (share l o one far) 531 532 := by
  obtain ⟨a, b⟩ := neg_ok hl ho h1 h2
  obtain ⟨c, d⟩ := ad_ok hl ho h1 h2
  exact ⟨ok_div a c (ad_ne hl ho h1 h2 h), (B_div a c b d (ad_ne hl ho h1 h2 h)).mono (by omega) (by omega)⟩
end
end Lp
set_option linter.all false
set_option Elab.async false
/-! candidates; the nearest one -/
namespace Lp
section
variable {q a b : Fq}
theorem mix_ok (hq : Ok q) (ha : Ok a) (hb : Ok b) : Ok (sub b a) ∧ Ok (mul q (sub b a)) ∧ Ok (mix q a b) :=
  ⟨ok_sub hb ha, ok_mul hq (ok_sub hb ha), ok_add ha (ok_mul hq (ok_sub hb ha))⟩
theorem mix_val (hq : Ok q) (ha : Ok a) (hb : Ok b) : val (mix q a b) = val a + val q * (val b - val a) := by
  obtain ⟨h1, h2, _⟩ := mix_ok hq ha hb
  unfold mix
  rw [val_add ha h2, val_mul hq h1, val_sub hb ha]
theorem mix_B (hq : Ok q) (bq : B q 531 532) (ha : Pt a 12) (hb : Pt b 12) : B (sub b a) 25 24 ∧ B (mul q (sub b a)) 556 556 ∧ B (mix q a b) 600 600 := by
  obtain ⟨h1, h2, _⟩ := mix_ok hq ha.ok hb.ok
  have b1 : B (sub b a) 25 24 := B_sub (p := 24) hb.ok ha.ok hb.b ha.b (by omega) (by omega)
  have b2 : B (mul q (sub b a)) 556 556 := (B_mul hq h1 bq b1).mono (by omega) (by omega)
  exact ⟨b1, b2, (B_add (p := 568) ha.ok h2 ha.b b2 (by omega) (by omega)).mono (by omega) (by omega)⟩
end
theorem convex {x a b m : Rat} (h0 : 0 ≤ x) (h1 : x ≤ 1) (ha : a ≤ m) (hb : b ≤ m) : a + x * (b - a) ≤ m := by
  have k1 : 0 ≤ (1 - x) * (m - a) := Rat.mul_nonneg (by grind) (by grind)
  have k2 : 0 ≤ x * (m - b) := Rat.mul_nonneg h0 (by grind)
  grind
theorem convex0 {x a b : Rat} (h0 : 0 ≤ x) (h1 : x ≤ 1) (ha : 0 ≤ a) (hb : 0 ≤ b) : 0 ≤ a + x * (b - a) := by
  have k1 : 0 ≤ (1 - x) * a := Rat.mul_nonneg (by grind) ha
  have k2 : 0 ≤ x * b := Rat.mul_nonneg h0 hb
  grind
theorem mix_pair {rho q : Fq} {one far : Fq × Fq} (hq : Ok q) (h0 : 0 ≤ val q) (h1 : val q ≤ 1) (p1 : Pair rho one) (p2 : Pair rho far) : Pair rho (mix q one.1 far.1, mix q one.2 far.2) := by
  have e1 := mix_val hq p1.s.ok p2.s.ok
  have e2 := mix_val hq p1.t.ok p2.t.ok
  have c1 := convex h0 h1 p1.st p2.st
  have c2 := convex h0 h1 p1.ts p2.ts
  refine ⟨⟨(mix_ok hq p1.s.ok p2.s.ok).2.2, ?_, ?_⟩, ⟨(mix_ok hq p1.t.ok p2.t.ok).2.2, ?_, ?_⟩, ?_, ?_⟩
  · rw [e1]; exact convex0 h0 h1 p1.s.lo p2.s.lo
  · rw [e1]; exact convex h0 h1 p1.s.hi p2.s.hi
  · rw [e2]; exact convex0 h0 h1 p1.t.lo p2.t.lo
  · rw [e2]; exact convex h0 h1 p1.t.hi p2.t.hi
  · dsimp only; rw [e1, e2]; grind
  · dsimp only; rw [e1, e2]; grind
theorem num_le {q : Fq} (h : Ok q) : q.1 ≤ 0 ↔ val q ≤ 0 := by
  have := cmp_le h (ok_int 0)
  rw [val_zero'] at this
  rw [← this]
  unfold cmp
  dsimp only
  rw [Int.mul_one, Int.zero_mul]
  split <;> split <;> omega
theorem num_ge {q : Fq} (h : Ok q) : q.2 ≤ q.1 ↔ 1 ≤ val q := by
  have := cmp_ge h (ok_int 1)
  rw [val_one'] at this
  rw [← this]
  unfold cmp
  dsimp only
  rw [Int.mul_one, Int.one_mul]
  split <;> split <;> omega
section
variable {l o : Leg} {rho : Fq} {one far : Fq × Fq} (hl : LegOk l) (ho : LegOk o) (h1 : Corner rho one) (h2 : Corner rho far)
include hl ho h1 h2
theorem side_cand : Cand rho (onSide l o one far) := by
  unfold onSide
  split
  · exact h1.cand
  · rename_i hne
    obtain ⟨hs, bs⟩ := share_ok hl ho h1 h2 hne
    split
    · exact h1.cand
    · rename_i h0
      split
      · exact h2.cand
      · rename_i h3
        have g0 : 0 ≤ val (share l o one far) := by
          rw [num_le hs] at h0
          exact Rat.le_of_lt (Rat.not_le.mp h0)
        have g1 : val (share l o one far) ≤ 1 := by
          rw [num_ge hs] at h3
          exact Rat.le_of_lt (Rat.not_le.mp h3)
        exact ⟨mix_pair hs g0 g1 h1.pair h2.pair, ⟨(mix_ok hs h1.s.ok h2.s.ok).2.2, (mix_B hs bs h1.s h2.s).2.2⟩, ⟨(mix_ok hs h1.t.ok h2.t.ok).2.2, (mix_B hs bs h1.t h2.t).2.2⟩⟩
end
theorem sides_cand {l o : Leg} {rho : Fq} (hl : LegOk l) (ho : LegOk o) (hr : Rho rho) : ∀ c ∈ sides l o rho, Cand rho c := by
  intro c hc
  have r := ring_corner hr
  have f := far_corner hr
  simp only [sides, ring, far, List.zipWith, List.mem_cons, List.not_mem_nil, or_false] at hc
  simp only [ring, List.mem_cons, List.not_mem_nil, or_false, forall_eq_or_imp, forall_eq] at r
  obtain ⟨r1, r2, r3, r4, r5, r6⟩ := r
  rcases hc with rfl | rfl | rfl | rfl | rfl | rfl
  · exact side_cand hl ho r1 r2
  · exact side_cand hl ho r2 r3
  · exact side_cand hl ho r3 r4
  · exact side_cand hl ho r4 r5
  · exact side_cand hl ho r5 r6
  · exact side_cand hl ho r6 r1
/-! ### where the lines meet -/
theorem absF_ok {q : Fq} (h : Ok q) : Ok (absF q) := by
  refine ⟨h.pos, ?_⟩
  have := h.low
  unfold absF
  dsimp only
  split
  · rw [Int.natAbs_neg]; exact this
  · exact this
theorem absF_B {q : Fq} {i j : Nat} (h : B q i j) : B (absF q) i j := by
  refine ⟨?_, h.d⟩
  have := h.n
  unfold absF
  dsimp only
  split
  · rw [Int.natAbs_neg]; exact this
  · exact this
theorem absF_val {q : Fq} (h : Ok q) : val q ≤ val (absF q) ∧ -val q ≤ val (absF q) ∧ (val (absF q) = val q ∨ val (absF q) = -val q) := by
  have hz : 0 ≤ q.1 → 0 ≤ val q := fun e => by
    have := (cmp_ge h (ok_int 0)).mp (by
      unfold cmp
      dsimp only
      rw [Int.mul_one, Int.zero_mul]
      split <;> split <;> omega)
    rwa [val_zero'] at this
  have hn := (num_le h).mp
  have ne := h.ne
  unfold absF
  split
  · rename_i e
    have e2 : val (-q.1, q.2) = -val q := by
      unfold val
      dsimp only
      rw [Rat.intCast_neg]
      grind
    have := hn (by omega)
    rw [e2]
    exact ⟨by grind, by grind, .inr rfl⟩
  · rename_i e
    have := hz (by omega)
    exact ⟨Rat.le_refl, by show -val q ≤ val q; grind, .inl rfl⟩
theorem isPart_iff {s : Fq} (h : Ok s) : isPart s = true ↔ 0 ≤ val s ∧ val s ≤ 1 := by
  unfold isPart
  rw [Bool.and_eq_true, decide_eq_true_iff, decide_eq_true_iff, cmp_le (ok_int 0) h, cmp_ge (ok_int 1) h, val_zero', val_one']
theorem isWithin_iff {s t rho : Fq} (hs : Ok s) (ht : Ok t) (hr : Ok rho) : isWithin s t rho = true ↔ (0 ≤ val s ∧ val s ≤ 1) ∧ (0 ≤ val t ∧ val t ≤ 1) ∧ val s - val t ≤ val rho ∧ val t - val s ≤ val rho := by
  obtain ⟨a1, a2, a3⟩ := absF_val (ok_sub hs ht)
  have e := val_sub hs ht
  unfold isWithin
  rw [Bool.and_eq_true, Bool.and_eq_true, isPart_iff hs, isPart_iff ht, decide_eq_true_iff, cmp_le (absF_ok (ok_sub hs ht)) hr]
  constructor
  · rintro ⟨⟨h1, h2⟩, h3⟩
    exact ⟨h1, h2, by grind, by grind⟩
  · rintro ⟨h1, h2, h3, h4⟩
    exact ⟨⟨h1, h2⟩, by rcases a3 with a3 | a3 <;> grind⟩
section
variable {l o : Leg} (hl : LegOk l) (ho : LegOk o)
include hl ho
theorem whole_lt : (whole l o).natAbs < 2 ^ 135 := sub_lt (mul_lt (sub_lt hl.c hl.a) (sub_lt ho.d ho.b)) (mul_lt (sub_lt hl.d hl.b) (sub_lt ho.c ho.a))
theorem crS_lt : (crS l o).natAbs < 2 ^ 135 := sub_lt (mul_lt (sub_lt ho.a hl.a) (sub_lt ho.d ho.b)) (mul_lt (sub_lt ho.b hl.b) (sub_lt ho.c ho.a))
theorem crT_lt : (crT l o).natAbs < 2 ^ 135 := sub_lt (mul_lt (sub_lt ho.a hl.a) (sub_lt hl.d hl.b)) (mul_lt (sub_lt ho.b hl.b) (sub_lt hl.c hl.a))
theorem cross_pt (h : whole l o ≠ 0) : Pt (div (crS l o, 1) (whole l o, 1)) 140 ∧ Pt (div (crT l o, 1) (whole l o, 1)) 140 :=
  ⟨⟨ok_div (ok_int _) (ok_int _) h, (B_div (ok_int _) (ok_int _) (B_int (crS_lt hl ho)) (B_int (whole_lt hl ho)) h).mono (by omega) (by omega)⟩,
   ⟨ok_div (ok_int _) (ok_int _) h, (B_div (ok_int _) (ok_int _) (B_int (crT_lt hl ho)) (B_int (whole_lt hl ho)) h).mono (by omega) (by omega)⟩⟩
theorem met_cand {rho : Fq} (hr : Rho rho) : ∀ c ∈ met l o rho, Cand rho c := by
  intro c hc
  unfold met crossing at hc
  by_cases h : whole l o = 0
  · rw [if_pos h] at hc
    simp at hc
  · rw [if_neg h] at hc
    obtain ⟨p1, p2⟩ := cross_pt hl ho h
    dsimp only at hc
    split at hc
    · rename_i e
      rw [List.mem_singleton] at hc
      subst hc
      obtain ⟨g1, g2, g3, g4⟩ := (isWithin_iff p1.ok p2.ok hr.part.ok).mp e
      exact ⟨⟨⟨p1.ok, g1.1, g1.2⟩, ⟨p2.ok, g2.1, g2.2⟩, g3, g4⟩, p1.mono (by omega), p2.mono (by omega)⟩
    · simp at hc
theorem cands_cand {rho : Fq} (hr : Rho rho) : ∀ c ∈ cands l o rho, Cand rho c := by
  intro c hc
  unfold cands at hc
  rw [List.mem_append, List.mem_append] at hc
  rcases hc with (h | h) | h
  · exact (ring_corner hr c h).cand
  · exact sides_cand hl ho hr c h
  · exact met_cand hl ho hr c h
end
/-! ### the nearest -/
structure TriOk (m : Tri) : Prop where
  a : FitC m.1
  b : FitC m.2.1
  c : FitC m.2.2
theorem byTri_lt {m k : Tri} (hm : TriOk m) (hk : TriOk k) : (byTri m k < 0 → val m.1 ≤ val k.1) ∧ (¬byTri m k < 0 → val k.1 ≤ val m.1) := by
  have e := cmp_eq hm.a.ok hk.a.ok
  have e1 := cmp_le hm.a.ok hk.a.ok
  have e2 := cmp_ge hm.a.ok hk.a.ok
  unfold byTri
  split
  · exact ⟨fun h => e1.mp (by omega), fun h => e2.mp (by omega)⟩
  · rename_i h
    have h : cmp m.1 k.1 = 0 := by omega
    have := e.mp h
    constructor
    · intro _; rw [this]; exact Rat.le_refl
    · intro _; rw [this]; exact Rat.le_refl
section
variable {l o : Leg} (hl : LegOk l) (ho : LegOk o) {rho : Fq}
include hl ho
theorem cand_tri {c : Fq × Fq} (h : Cand rho c) : TriOk (cand l o c) :=
  ⟨sqAt_fit hl ho h.s h.t (by omega), ⟨h.s.ok, h.s.b.mono (by omega) (by omega)⟩, ⟨h.t.ok, h.t.b.mono (by omega) (by omega)⟩⟩
/-- what the walk over the candidates keeps -/
def NearInv (l o : Leg) (rho : Fq) (seen : List (Fq × Fq)) : Option Tri → Prop
  | none => seen = []
  | some m => (∃ c ∈ seen, Cand rho c ∧ m = cand l o c) ∧ ∀ c ∈ seen, val m.1 ≤ val (sqAt l o c.1 c.2)
theorem near_step {seen : List (Fq × Fq)} {m : Option Tri} {c : Fq × Fq} (hc : Cand rho c) (hs : ∀ c ∈ seen, Cand rho c) (h : NearInv l o rho seen m) : NearInv l o rho (seen ++ [c]) (better l o m c) := by
  cases m with
  | none =>
    have h : seen = [] := h
    subst h
    refine ⟨⟨c, by simp, hc, rfl⟩, fun d hd => ?_⟩
    simp at hd
    subst hd
    exact Rat.le_refl
  | some m =>
    obtain ⟨⟨d, hd, kd, e⟩, hle⟩ := h
    have t1 : TriOk m := by rw [e]; exact cand_tri hl ho kd
    obtain ⟨b1, b2⟩ := byTri_lt (cand_tri hl ho hc) t1
    unfold better
    dsimp only
    split
    · rename_i hlt
      refine ⟨⟨c, by simp, hc, rfl⟩, fun x hx => ?_⟩
      rcases List.mem_append.mp hx with hx | hx
      · exact Rat.le_trans (b1 hlt) (hle x hx)
      · rw [List.mem_singleton.mp hx]
        exact Rat.le_refl
    · rename_i hlt
      refine ⟨⟨d, by simp [hd], kd, e⟩, fun x hx => ?_⟩
      rcases List.mem_append.mp hx with hx | hx
      · exact hle x hx
      · rw [List.mem_singleton.mp hx]
        exact b2 hlt
theorem near_fold : ∀ (cs seen : List (Fq × Fq)) (m : Option Tri), (∀ c ∈ cs, Cand rho c) → (∀ c ∈ seen, Cand rho c) → NearInv l o rho seen m → NearInv l o rho (seen ++ cs) (cs.foldl (better l o) m)
  | [], seen, m, _, _, h => by simpa using h
  | c :: cs, seen, m, h1, h2, h => by
    have k := near_fold cs (seen ++ [c]) (better l o m c) (fun x hx => h1 x (by simp [hx])) (fun x hx => by
      rcases List.mem_append.mp hx with hx | hx
      · exact h2 x hx
      · rw [List.mem_singleton.mp hx]; exact h1 c (by simp)) (near_step hl ho (h1 c (by simp)) h2 h)
    simpa using k
theorem nearest_spec (hr : Rho rho) : nearO l o rho = some (nearest l o rho) ∧ (∃ c ∈ cands l o rho, Cand rho c ∧ nearest l o rho = cand l o c) ∧ ∀ c ∈ cands l o rho, val (nearest l o rho).1 ≤ val (sqAt l o c.1 c.2) := by
  have h := near_fold (rho := rho) hl ho (cands l o rho) [] none (cands_cand hl ho hr) (by simp) rfl
  rw [List.nil_append] at h
  have h : NearInv l o rho (cands l o rho) (nearO l o rho) := h
  unfold nearest
  cases e : nearO l o rho with
  | none =>
    rw [e] at h
    have h : cands l o rho = [] := h
    simp [cands, ring] at h
  | some m =>
    rw [e] at h
    exact ⟨rfl, h⟩
end
end Lp
set_option linter.all false
set_option Elab.async false
/-! whether a spacing is enough; the worst couple's legs -/
namespace Lp
/-! ### the inequality -/
/-- over a = half, b = 2 r r d d, c = reach -/
def ineq (a b c : Int) : Bool := decide (0 ≤ a - b - c) && decide (4 * b * c ≤ (a - b - c) * (a - b - c))
/-- the law's own form -/
def ineqL (a b c : Int) : Bool := !decide (a < b) && (decide (0 ≤ a + b - c) && decide (4 * a * b ≤ (a + b - c) * (a + b - c)))
theorem ineq_eq {a b c : Int} (ha : 0 ≤ a) (hb : 0 ≤ b) (hc : 0 ≤ c) : ineq a b c = ineqL a b c := by
  have key : (a - b - c) * (a - b - c) - 4 * b * c = (a + b - c) * (a + b - c) - 4 * a * b := by grind
  rw [Bool.eq_iff_iff]
  unfold ineq ineqL
  simp only [Bool.and_eq_true, decide_eq_true_iff, Bool.not_eq_true', decide_eq_false_iff_not]
  constructor
  · rintro ⟨h1, h2⟩
    exact ⟨by omega, by omega, by omega⟩
  · rintro ⟨h1, h2, h3⟩
    refine ⟨?_, by omega⟩
    by_cases h : 0 ≤ a - b - c
    · exact h
    · exfalso
      have g1 : a + b - c < 2 * b := by omega
      -- (a+b-c)^2 < (2b)^2 unless ..
      have g2 : (a + b - c) * (a + b - c) ≤ (a + b - c) * (2 * b) := Int.mul_le_mul_of_nonneg_left (by omega) h2
      have g3 : b ≤ a := by omega
      have g4 : b * b ≤ a * b := Int.mul_le_mul_of_nonneg_right g3 hb
      have g5 : (a + b - c) * (2 * b) ≤ (2 * b - 1) * (2 * b) := Int.mul_le_mul_of_nonneg_right (by omega) (by omega)
      have g6 : (2 * b - 1) * (2 * b) = 4 * (b * b) - 2 * b := by grind
      have g7 : 4 * a * b = 4 * (a * b) := by grind
      by_cases hb0 : b = 0
      · omega
      · omega
theorem dec_scale {k x y : Int} (hk : 0 < k) (h : y = k * x) : decide (0 ≤ y) = decide (0 ≤ x) := by
  subst h
  rw [decide_eq_decide]
  constructor
  · intro h
    by_cases hx : 0 ≤ x
    · exact hx
    · have := Int.mul_le_mul_of_nonneg_left (show x ≤ -1 by omega) (show 0 ≤ k by omega)
      omega
  · intro h
    exact Int.mul_nonneg (by omega) h
theorem ineqL_scale {k a b c : Int} (hk : 0 < k) : ineqL (k * a) (k * b) (k * c) = ineqL a b c := by
  unfold ineqL
  have e1 : decide (k * a < k * b) = decide (a < b) := by
    rw [decide_eq_decide]
    exact Int.mul_lt_mul_left hk
  have e2 : decide (0 ≤ k * a + k * b - k * c) = decide (0 ≤ a + b - c) := dec_scale hk (by grind)
  have e3 : decide (4 * (k * a) * (k * b) ≤ (k * a + k * b - k * c) * (k * a + k * b - k * c)) = decide (4 * a * b ≤ (a + b - c) * (a + b - c)) := by
    have q1 : decide (4 * (k * a) * (k * b) ≤ (k * a + k * b - k * c) * (k * a + k * b - k * c)) = decide (0 ≤ (k * a + k * b - k * c) * (k * a + k * b - k * c) - 4 * (k * a) * (k * b)) := by
      rw [decide_eq_decide]; omega
    have q2 : decide (4 * a * b ≤ (a + b - c) * (a + b - c)) = decide (0 ≤ (a + b - c) * (a + b - c) - 4 * a * b) := by
      rw [decide_eq_decide]; omega
    rw [q1, q2]
    exact dec_scale (k := k * k) (Int.mul_pos hk hk) (by grind)
  rw [e1, e2, e3]
/-- the law's inequality of spacing, R, way, LAG and ticks -/
def lawA (S T : Int) : Int := S * S * T * T
def enough (S R way L T : Int) : Bool := ineqL (S * S * T * T) (2 * R * R * T * T) (L * L * (2 * way * way - S * S))
theorem reach_nn {S way : Int} (h0 : 0 ≤ S) (h : S ≤ way) : 0 ≤ 2 * way * way - S * S := by
  have h1 : S * S ≤ way * way := Int.mul_le_mul h h h0 (by omega)
  have h2 : 2 * way * way = 2 * (way * way) := by grind
  have := Int.mul_nonneg h0 h0
  omega
/-- the program's, of RHO's numbers, in BOUNDS multiplied by m -/
theorem enough_prog {S R way L T n d g m : Int} (hS : 0 ≤ S) (hR : 0 ≤ R) (hw : S ≤ way) (hg : 0 < g) (hm : 0 < m) (eL : L = g * n) (eT : T = g * d) :
    ineq (m * S * (m * S) * d * d) (2 * (m * R) * (m * R) * d * d) (n * n * (2 * (m * way) * (m * way) - m * S * (m * S))) = enough S R way L T := by
  have hr := reach_nn hS hw
  have nn : ∀ x : Int, 0 ≤ x * x := fun x => by
    rcases Int.le_total 0 x with h | h
    · exact Int.mul_nonneg h h
    · have := Int.mul_nonneg (show 0 ≤ -x by omega) (show 0 ≤ -x by omega)
      grind
  have a0 : m * S * (m * S) * d * d = m * m * (S * S * (d * d)) := by grind
  have b0 : 2 * (m * R) * (m * R) * d * d = m * m * (2 * (R * R * (d * d))) := by grind
  have c0 : n * n * (2 * (m * way) * (m * way) - m * S * (m * S)) = m * m * (n * n * (2 * way * way - S * S)) := by grind
  have p1 := Int.mul_nonneg (nn S) (nn d)
  have p2 := Int.mul_nonneg (nn R) (nn d)
  have p3 := Int.mul_nonneg (nn n) hr
  rw [a0, b0, c0, ineq_eq (Int.mul_nonneg (nn m) p1) (Int.mul_nonneg (nn m) (by omega)) (Int.mul_nonneg (nn m) p3), ineqL_scale (Int.mul_pos hm hm)]
  unfold enough
  rw [← ineqL_scale (k := g * g) (Int.mul_pos hg hg)]
  have e1 : g * g * (S * S * (d * d)) = S * S * T * T := by subst eT; grind
  have e2 : g * g * (2 * (R * R * (d * d))) = 2 * R * R * T * T := by subst eT; grind
  have e3 : g * g * (n * n * (2 * way * way - S * S)) = L * L * (2 * way * way - S * S) := by subst eL; grind
  rw [e1, e2, e3]
/-! ### more ticks -/
theorem sq_nn (x : Int) : 0 ≤ x * x := by
  rcases Int.le_total 0 x with h | h
  · exact Int.mul_nonneg h h
  · have := Int.mul_nonneg (show 0 ≤ -x by omega) (show 0 ≤ -x by omega)
    grind
theorem le_of_mul {k x : Int} (hk : 0 < k) (h : 0 ≤ k * x) : 0 ≤ x := by
  by_cases hx : 0 ≤ x
  · exact hx
  · have := Int.mul_le_mul_of_nonneg_left (show x ≤ -1 by omega) (show 0 ≤ k by omega)
    omega
theorem sq_mono {x y : Int} (h0 : 0 ≤ x) (h : x ≤ y) : x * x ≤ y * y := Int.mul_le_mul h h h0 (by omega)
/-- enough, in the plain form -/
theorem enough_iff {S R way L T : Int} : enough S R way L T = true ↔ 2 * R * R * T * T ≤ S * S * T * T ∧ 0 ≤ S * S * T * T + 2 * R * R * T * T - L * L * (2 * way * way - S * S) ∧
    4 * (S * S * T * T) * (2 * R * R * T * T) ≤ (S * S * T * T + 2 * R * R * T * T - L * L * (2 * way * way - S * S)) * (S * S * T * T + 2 * R * R * T * T - L * L * (2 * way * way - S * S)) := by
  unfold enough ineqL
  simp only [Bool.and_eq_true, decide_eq_true_iff, Bool.not_eq_true', decide_eq_false_iff_not, Int.not_lt]
theorem enough_mono {S R way L T T' : Int} (hS : 0 ≤ S) (hw : S ≤ way) (hT : 0 < T) (hT' : T ≤ T') (h : enough S R way L T = true) : enough S R way L T' = true := by
  rw [enough_iff] at h ⊢
  obtain ⟨h1, h2, h3⟩ := h
  have hc : 0 ≤ L * L * (2 * way * way - S * S) := Int.mul_nonneg (sq_nn L) (reach_nn hS hw)
  generalize L * L * (2 * way * way - S * S) = c at *
  have f : ∀ X Y Z : Int, X * Y * Z * Z = X * Y * (Z * Z) := fun X Y Z => by grind
  have f2 : ∀ X Y Z : Int, 2 * X * Y * Z * Z = 2 * X * Y * (Z * Z) := fun X Y Z => by grind
  rw [f S S, f2 R R] at *
  have tp : 0 < T * T := Int.mul_pos hT hT
  have tt : T * T ≤ T' * T' := sq_mono (by omega) hT'
  generalize T * T = t at *
  generalize T' * T' = u at *
  generalize 2 * R * R = b at *
  generalize S * S = a at *
  have ba : b ≤ a := by
    have := le_of_mul (k := t) (x := a - b) tp (by rw [Int.mul_sub, Int.mul_comm t a, Int.mul_comm t b]; omega)
    omega
  have x1 : 0 ≤ (a * t + b * t - c) * u := Int.mul_nonneg h2 (by omega)
  have x2 : t * (a * u + b * u - c) = (a * t + b * t - c) * u + c * (u - t) := by grind
  have x3 : 0 ≤ c * (u - t) := Int.mul_nonneg hc (by omega)
  refine ⟨Int.mul_le_mul_of_nonneg_right ba (by omega), le_of_mul tp (by omega), ?_⟩
  have y1 : (a * t + b * t - c) * u ≤ t * (a * u + b * u - c) := by omega
  have y2 := sq_mono x1 y1
  have y3 : 4 * (a * t) * (b * t) * (u * u) ≤ (a * t + b * t - c) * (a * t + b * t - c) * (u * u) := Int.mul_le_mul_of_nonneg_right h3 (sq_nn u)
  have e1 : 4 * (a * t) * (b * t) * (u * u) = t * t * (4 * (a * u) * (b * u)) := by grind
  have e2 : (a * t + b * t - c) * (a * t + b * t - c) * (u * u) = (a * t + b * t - c) * u * ((a * t + b * t - c) * u) := by grind
  have e3 : t * (a * u + b * u - c) * (t * (a * u + b * u - c)) = t * t * ((a * u + b * u - c) * (a * u + b * u - c)) := by grind
  have := le_of_mul (k := t * t) (x := (a * u + b * u - c) * (a * u + b * u - c) - 4 * (a * u) * (b * u)) (Int.mul_pos tp tp) (by rw [Int.mul_sub]; omega)
  omega
/-- far enough ticks are enough -/
theorem enough_far {S R way L : Int} (hS : 0 ≤ S) (hS1 : S ≤ 100) (hw : S ≤ way) (hw1 : way ≤ 600) (hL : 0 ≤ L) (hL1 : L ≤ 30) (h : 2 * R * R < S * S ∨ (2 * R * R = S * S ∧ L = 0)) : enough S R way L 1000000000000 = true := by
  rw [enough_iff]
  have hc : 0 ≤ L * L * (2 * way * way - S * S) := Int.mul_nonneg (sq_nn L) (reach_nn hS hw)
  have hr := sq_nn R
  have rr : 2 * R * R = 2 * (R * R) := by grind
  have cb : L * L * (2 * way * way - S * S) ≤ 900 * 720000 := by
    have l2 : L * L ≤ 30 * 30 := sq_mono hL hL1
    have w2 : way * way ≤ 600 * 600 := sq_mono (by omega) hw1
    have w3 : 2 * way * way = 2 * (way * way) := by grind
    have := sq_nn S
    exact Int.mul_le_mul (by omega) (by omega) (reach_nn hS hw) (by omega)
  have s2 : S * S ≤ 100 * 100 := sq_mono hS hS1
  have L0 : L = 0 → L * L * (2 * way * way - S * S) = 0 := fun e => by rw [e]; simp
  generalize L * L * (2 * way * way - S * S) = c at *
  have f : ∀ X Y Z : Int, X * Y * Z * Z = X * Y * (Z * Z) := fun X Y Z => by grind
  rw [show S * S * 1000000000000 * 1000000000000 = S * S * 1000000000000000000000000 by omega, show 2 * R * R * 1000000000000 * 1000000000000 = 2 * R * R * 1000000000000000000000000 by omega]
  generalize 2 * R * R = b at *
  generalize S * S = a at *
  have a0 : 0 ≤ b := by omega
  rcases h with h | ⟨h, hl⟩
  · refine ⟨by omega, by omega, ?_⟩
    -- X^2 - 4ab t^2 = (a-b)^2 t^2 - 2(a+b)ct + c^2
    have e : (a * 1000000000000000000000000 + b * 1000000000000000000000000 - c) * (a * 1000000000000000000000000 + b * 1000000000000000000000000 - c) - 4 * (a * 1000000000000000000000000) * (b * 1000000000000000000000000)
        = 1000000000000000000000000 * ((a - b) * (a - b) * 1000000000000000000000000 - 2 * ((a + b) * c)) + c * c := by grind
    have k1 : 1 ≤ (a - b) * (a - b) := by
      have := sq_mono (x := 1) (y := a - b) (by omega) (by omega)
      omega
    have k2 : (a + b) * c ≤ 20000 * (900 * 720000) := Int.mul_le_mul (by omega) cb hc (by omega)
    have k3 := sq_nn c
    omega
  · have := L0 hl
    subst this
    refine ⟨by omega, by omega, ?_⟩
    subst h
    grind
end Lp
set_option linter.all false
set_option Elab.async false
/-! the worst couple is found -/
namespace Lp
theorem mul_mono {a b c d : Int} (h1 : a ≤ c) (h2 : b ≤ d) (h3 : 0 ≤ b) (h4 : 0 ≤ c) : a * b ≤ c * d := Int.mul_le_mul h1 h2 h3 h4
/-- x, u, y: 2 h d, 2 (h d - n b), 2 n (b + 1); A, B, C: the squares -/
theorem slack {M a n u y B C : Int} (hM : 0 < M) (ha : 0 ≤ a) (hn : 0 ≤ n) (hu : 0 ≤ u) (hy : 0 ≤ y) (hB : 0 ≤ B) (hC : 0 ≤ C) (hx : M * a + 2 * n = u + y)
    (y2 : M * M * C ≤ y * y) (hno : ineq (a * a) B C = false) (hbig : 2 * (a * a) * (4 * n * a + 4 * n * n) + (4 * n * a + 4 * n * n) * (4 * n * a + 4 * n * n) + (4 * n * a + 4 * n * n) < M) : u * u < M * M * B := by
  by_cases hlt : u * u < M * M * B
  · exact hlt
  · exfalso
    have u2 : M * M * B ≤ u * u := by omega
    have na : 0 ≤ n * a := Int.mul_nonneg hn ha
    have nn := sq_nn n
    have aa := sq_nn a
    have hk : 0 ≤ 4 * n * a + 4 * n * n := by
      have e1 : 4 * n * a = 4 * (n * a) := by grind
      have e2 : 4 * n * n = 4 * (n * n) := by grind
      omega
    -- (x + 2n)^2 <= x^2 + k M
    have q1 : (M * a + 2 * n) * (M * a + 2 * n) ≤ M * M * (a * a) + (4 * n * a + 4 * n * n) * M := by
      have e1 : (M * a + 2 * n) * (M * a + 2 * n) = M * M * (a * a) + (4 * n * a) * M + 4 * (n * n) := by grind
      have e2 : (4 * n * a + 4 * n * n) * M = 4 * n * a * M + 4 * ((n * n) * M) := by grind
      have e3 : n * n * 1 ≤ n * n * M := Int.mul_le_mul_of_nonneg_left (by omega) nn
      omega
    have q2 : (u + y) * (u + y) = u * u + y * y + 2 * (u * y) := by grind
    have uy : 0 ≤ u * y := Int.mul_nonneg hu hy
    have k2 := sq_nn (4 * n * a + 4 * n * n)
    have e0 := Int.mul_nonneg aa hk
    rw [hx] at q1
    generalize 4 * n * a + 4 * n * n = k at *
    unfold ineq at hno
    by_cases hc : 0 ≤ a * a - B - C
    · -- e = a a - B - C
      have hd : (a * a - B - C) * (a * a - B - C) + 1 ≤ 4 * B * C := by
        rw [decide_eq_true hc, Bool.true_and, decide_eq_false_iff_not] at hno
        omega
      have he : a * a - B - C ≤ a * a := by omega
      have ed : a * a = (a * a - B - C) + B + C := by omega
      generalize hE : a * a - B - C = e at *
      -- z = 2 u y, z^2 >= M^4 (e e + 1)
      have z1 : 2 * (u * y) ≤ M * (M * e + k) := by
        have f1 : M * (M * e + k) = M * M * (a * a) - M * M * B - M * M * C + k * M := by rw [ed]; grind
        omega
      have z2 : M * M * B * (M * M * C) ≤ u * u * (y * y) := mul_mono u2 y2 (Int.mul_nonneg (sq_nn M) hC) (sq_nn u)
      have z3 : (2 * (u * y)) * (2 * (u * y)) ≤ (M * (M * e + k)) * (M * (M * e + k)) := sq_mono (by omega) z1
      have z4 : (2 * (u * y)) * (2 * (u * y)) = 4 * (u * u * (y * y)) := by grind
      have z5 : M * M * B * (M * M * C) = M * M * (M * M * (B * C)) := by grind
      have z6 : (M * (M * e + k)) * (M * (M * e + k)) = M * M * (M * M * (e * e) + 2 * (e * k) * M + k * k) := by grind
      have mm : 0 < M * M := Int.mul_pos hM hM
      have z7 : 0 ≤ M * M * ((M * M * (e * e) + 2 * (e * k) * M + k * k) - 4 * (M * M * (B * C))) := by
        rw [Int.mul_sub, show M * M * (4 * (M * M * (B * C))) = 4 * (M * M * (M * M * (B * C))) by grind]
        omega
      have z8 := le_of_mul mm z7
      have z9 : M * M * (e * e + 1) ≤ M * M * (4 * B * C) := Int.mul_le_mul_of_nonneg_left hd (by omega)
      have z10 : M * M * (4 * B * C) = 4 * (M * M * (B * C)) := by grind
      have z11 : M * M * (e * e + 1) = M * M * (e * e) + M * M := by grind
      have z12 : M * M ≤ 2 * (e * k) * M + k * k := by omega
      -- M > 2 e k + k k
      have w1 : e * k ≤ a * a * k := Int.mul_le_mul_of_nonneg_right he hk
      have w1' : 2 * (a * a) * k = 2 * (a * a * k) := by grind
      have w2 : (2 * (e * k) + k * k + 1) * M ≤ M * M := Int.mul_le_mul_of_nonneg_right (by omega) (by omega)
      have w3 : (2 * (e * k) + k * k + 1) * M = 2 * (e * k) * M + k * k * M + M := by grind
      have w4 : k * k * 1 ≤ k * k * M := Int.mul_le_mul_of_nonneg_left (by omega) k2
      omega
    · have h1 : a * a + 1 ≤ B + C := by omega
      have h2 : M * M * (a * a + 1) ≤ M * M * (B + C) := Int.mul_le_mul_of_nonneg_left h1 (sq_nn M)
      have h3 : M * M * (a * a + 1) = M * M * (a * a) + M * M := by grind
      have h4 : M * M * (B + C) = M * M * B + M * M * C := by grind
      have h5 : M * M ≤ k * M := by omega
      have h6 : (k + 1) * M ≤ M * M := Int.mul_le_mul_of_nonneg_right (by
        have w1' : 2 * (a * a) * k = 2 * (a * a * k) := by grind
        omega) (by omega)
      have h7 : (k + 1) * M = k * M + M := by grind
      omega
/-! ### the couple that is tried -/
def legA (h b : Int) : Leg := ((0, 0), (h - b, -h - b))
def legB (h b : Int) : Leg := ((2 * h, 0), (h - b, h - b))
section
variable {h b : Int} {s t : Fq} {j : Nat} (hl : LegOk (legA h b)) (ho : LegOk (legB h b)) (hs : Pt s j) (ht : Pt t j)
include hl ho hs ht
theorem try_val : val (parting (legA h b) (legB h b) s t).1 = 2 * (h : Rat) - val t * ((h : Rat) + (b : Rat)) - val s * ((h : Rat) - (b : Rat)) ∧
    val (parting (legA h b) (legB h b) s t).2 = val t * ((h : Rat) - (b : Rat)) + val s * ((h : Rat) + (b : Rat)) := by
  obtain ⟨e1, e2⟩ := parting_val hl ho hs ht
  rw [e1, e2]
  unfold legA legB
  dsimp only
  have c1 : ((2 * h : Int) : Rat) = 2 * (h : Rat) := by rw [Rat.intCast_mul]; rfl
  have c2 : ((h - b : Int) : Rat) = (h : Rat) - (b : Rat) := Rat.intCast_sub ..
  have c3 : ((-h - b : Int) : Rat) = -(h : Rat) - (b : Rat) := by rw [Rat.intCast_sub, Rat.intCast_neg]
  have c0 : ((0 : Int) : Rat) = 0 := rfl
  rw [c1, c2, c3, c0]
  constructor <;> grind
end
section
variable {h b : Int} {rho : Fq} (hl : LegOk (legA h b)) (ho : LegOk (legB h b)) (hr : Rho rho) (hh : 0 < h)
include hl ho hr hh
/-- the side on which the parts differ by rho -/
theorem side2_val : val (sqAt (legA h b) (legB h b) (onSide (legA h b) (legB h b) ((0, 1), rho) (rest rho, (1, 1))).1 (onSide (legA h b) (legB h b) ((0, 1), rho) (rest rho, (1, 1))).2) =
    2 * (((h : Rat) - val rho * (b : Rat)) * ((h : Rat) - val rho * (b : Rat))) := by
  have r := ring_corner hr
  simp only [ring, List.mem_cons, List.not_mem_nil, or_false, forall_eq_or_imp, forall_eq] at r
  obtain ⟨_, c1, c2, _⟩ := r
  have sc := side_cand hl ho c1 c2
  have hne : (h : Rat) ≠ 0 := cast_ne (by omega)
  have zr := rest_val hr
  have z0 := val_zero'
  have z1 := val_one'
  obtain ⟨a1, a2, _⟩ := along_ok hl ho c1 c2
  obtain ⟨p1, p2, _⟩ := parting_ok hl ho c1.s c1.t
  obtain ⟨q1, q2, _⟩ := parting_ok hl ho c2.s c2.t
  obtain ⟨u1, u2⟩ := try_val hl ho c1.s c1.t
  obtain ⟨v1, v2⟩ := try_val hl ho c2.s c2.t
  have al1 : val (along (legA h b) (legB h b) ((0, 1), rho) (rest rho, (1, 1))).1 = -(2 * (h : Rat) * (1 - val rho)) := by
    unfold along
    dsimp only at *
    rw [val_sub q1 p1, u1, v1, zr, z0, z1]
    grind
  have al2 : val (along (legA h b) (legB h b) ((0, 1), rho) (rest rho, (1, 1))).2 = 2 * (h : Rat) * (1 - val rho) := by
    unfold along
    dsimp only at *
    rw [val_sub q2 p2, u2, v2, zr, z0, z1]
    grind
  rw [sqAt_val hl ho sc.s sc.t]
  obtain ⟨w1, w2⟩ := try_val hl ho sc.s sc.t
  rw [w1, w2]
  by_cases e : along (legA h b) (legB h b) ((0, 1), rho) (rest rho, (1, 1)) = ((0, 1), (0, 1))
  · have r1 : val rho = 1 := by
      rw [e] at al2
      dsimp only at al2
      rw [z0] at al2
      grind
    have eo : onSide (legA h b) (legB h b) ((0, 1), rho) (rest rho, (1, 1)) = ((0, 1), rho) := by unfold onSide; rw [if_pos e]
    rw [eo]
    dsimp only
    rw [z0, r1]
    grind
  · obtain ⟨so, _⟩ := share_ok hl ho c1 c2 e
    have nr : 1 - val rho ≠ 0 := fun z => by
      refine e (Prod.ext (val_eq_zero a1 ?_) (val_eq_zero a2 ?_))
      · rw [al1, z]; grind
      · rw [al2, z]; grind
    have sv : val (share (legA h b) (legB h b) ((0, 1), rho) (rest rho, (1, 1))) = 1 / 2 := by
      obtain ⟨b1, _⟩ := bd_ok hl ho c1 c2
      unfold share
      rw [val_div (neg_ok hl ho c1 c2).1 (ad_ok hl ho c1 c2).1 (ad_ne hl ho c1 c2 e), val_mul (ok_int _) b1, dot_val p1 p2 a1 a2, dot_val a1 a2 a1 a2, val_int, u1, u2, al1, al2]
      dsimp only
      rw [z0]
      have cm : ((-1 : Int) : Rat) = -1 := rfl
      rw [cm]
      have n1 : 2 * (h : Rat) * (1 - val rho) ≠ 0 := by
        intro z
        grind
      generalize val rho = x at *
      have e1 : 2 * (h : Rat) * (1 - x) * (2 * (h : Rat) * (1 - x)) + 2 * (h : Rat) * (1 - x) * (2 * (h : Rat) * (1 - x)) ≠ 0 := by grind
      grind
    have h0 : ¬(share (legA h b) (legB h b) ((0, 1), rho) (rest rho, (1, 1))).1 ≤ 0 := by
      rw [num_le so, sv]; grind
    have h1 : ¬(share (legA h b) (legB h b) ((0, 1), rho) (rest rho, (1, 1))).2 ≤ (share (legA h b) (legB h b) ((0, 1), rho) (rest rho, (1, 1))).1 := by
      rw [num_ge so, sv]; grind
    have eo : onSide (legA h b) (legB h b) ((0, 1), rho) (rest rho, (1, 1)) = (mix (share (legA h b) (legB h b) ((0, 1), rho) (rest rho, (1, 1))) (0, 1) (rest rho), mix (share (legA h b) (legB h b) ((0, 1), rho) (rest rho, (1, 1))) rho (1, 1)) := by
      unfold onSide
      rw [if_neg e, if_neg h0, if_neg h1]
    rw [eo]
    dsimp only
    rw [mix_val so c1.pair.s.ok c2.pair.s.ok, mix_val so c1.pair.t.ok c2.pair.t.ok, sv]
    dsimp only
    rw [zr, z0, z1]
    generalize val rho = x at *
    grind
/-- where the lines meet, if that is within rho -/
theorem met_val (hb : (h : Rat) < val rho * (b : Rat)) : ∃ c ∈ met (legA h b) (legB h b) rho, val (sqAt (legA h b) (legB h b) c.1 c.2) = 0 := by
  have r0 := hr.part.lo
  have r1 := hr.part.hi
  have hh' : (0 : Rat) < (h : Rat) := by simpa using Rat.intCast_lt_intCast.mpr hh
  have b0 : (0 : Rat) < (b : Rat) := by
    by_cases hb0 : 0 < (b : Rat)
    · exact hb0
    · have := Rat.mul_nonneg r0 (show 0 ≤ -(b : Rat) by grind)
      grind
  have hb1 : (h : Rat) < (b : Rat) := by
    have := Rat.mul_nonneg (show 0 ≤ 1 - val rho by grind) (Rat.le_of_lt b0)
    grind
  have bi : 0 < b := by
    have : ((0 : Int) : Rat) < (b : Rat) := by simpa using b0
    exact Rat.intCast_lt_intCast.mp this
  have ew : whole (legA h b) (legB h b) = -(4 * (h * b)) := by unfold whole legA legB; dsimp only; grind
  have hw : whole (legA h b) (legB h b) ≠ 0 := by
    have := Int.mul_pos hh bi
    omega
  obtain ⟨p1, p2⟩ := cross_pt hl ho hw
  have es : crS (legA h b) (legB h b) = 2 * h * (h - b) := by unfold crS legA legB; dsimp only; grind
  have et : crT (legA h b) (legB h b) = -(2 * h * (h + b)) := by unfold crT legA legB; dsimp only; grind
  have hne : (h : Rat) ≠ 0 := cast_ne (by omega)
  have bne : (b : Rat) ≠ 0 := cast_ne (by omega)
  have c2 : ((2 : Int) : Rat) = 2 := rfl
  have c4 : ((4 : Int) : Rat) = 4 := rfl
  have sv : val (div (crS (legA h b) (legB h b), 1) (whole (legA h b) (legB h b), 1)) * (2 * (b : Rat)) = (b : Rat) - (h : Rat) := by
    rw [val_div (a := (crS (legA h b) (legB h b), 1)) (b := (whole (legA h b) (legB h b), 1)) (ok_int _) (ok_int _) hw, val_int, val_int, es, ew, Rat.intCast_neg, Rat.intCast_mul, Rat.intCast_mul, Rat.intCast_mul, Rat.intCast_mul, Rat.intCast_sub, c2, c4]
    grind
  have tv : val (div (crT (legA h b) (legB h b), 1) (whole (legA h b) (legB h b), 1)) * (2 * (b : Rat)) = (b : Rat) + (h : Rat) := by
    rw [val_div (a := (crT (legA h b) (legB h b), 1)) (b := (whole (legA h b) (legB h b), 1)) (ok_int _) (ok_int _) hw, val_int, val_int, et, ew, Rat.intCast_neg, Rat.intCast_neg, Rat.intCast_mul, Rat.intCast_mul, Rat.intCast_mul, Rat.intCast_mul, Rat.intCast_add, c2, c4]
    grind
  have vs := try_val hl ho p1 p2
  have sq := sqAt_val hl ho p1 p2
  refine ⟨(div (crS (legA h b) (legB h b), 1) (whole (legA h b) (legB h b), 1), div (crT (legA h b) (legB h b), 1) (whole (legA h b) (legB h b), 1)), ?_, ?_⟩
  · unfold met crossing
    rw [if_neg hw]
    have hi : isWithin (div (crS (legA h b) (legB h b), 1) (whole (legA h b) (legB h b), 1)) (div (crT (legA h b) (legB h b), 1) (whole (legA h b) (legB h b), 1)) rho = true := by
      rw [isWithin_iff p1.ok p2.ok hr.part.ok]
      generalize val (div (crS (legA h b) (legB h b), 1) (whole (legA h b) (legB h b), 1)) = x at *
      generalize val (div (crT (legA h b) (legB h b), 1) (whole (legA h b) (legB h b), 1)) = y at *
      have i2 : 0 < 2 * (b : Rat) := by grind
      have lem : ∀ z : Rat, 0 ≤ z * (2 * (b : Rat)) → 0 ≤ z := fun z hz => by
        by_cases h0 : 0 ≤ z
        · exact h0
        · have := Rat.mul_pos (show 0 < -z by grind) i2
          grind
      refine ⟨⟨lem _ (by grind), ?_⟩, ⟨lem _ (by grind), ?_⟩, ?_, ?_⟩
      · have := lem (1 - x) (by grind)
        grind
      · have := lem (1 - y) (by grind)
        grind
      · have := lem (val rho - (x - y)) (by grind)
        grind
      · have := lem (val rho - (y - x)) (by grind)
        grind
    dsimp only
    rw [if_pos hi]
    exact List.mem_singleton.mpr rfl
  · rw [sq, vs.1, vs.2]
    generalize val (div (crS (legA h b) (legB h b), 1) (whole (legA h b) (legB h b), 1)) = x at *
    generalize val (div (crT (legA h b) (legB h b), 1) (whole (legA h b) (legB h b), 1)) = y at *
    have ex : x = ((b : Rat) - (h : Rat)) / (2 * (b : Rat)) := by grind
    have ey : y = ((b : Rat) + (h : Rat)) / (2 * (b : Rat)) := by grind
    subst ex
    subst ey
    grind
end
end Lp
set_option Elab.async false
set_option linter.all false
set_option maxRecDepth 100000
set_option maxHeartbeats 4000000
/-! what values stand for; short rules -/
namespace Lp
open PySem PySem.Spec PyProof.Rows L2
/-- the statements of the text's top -/
def topS (i : Nat) : Stmt := PySem.Challenge.pw_lampsaloft_k45_whole_what_is_multiplied.main.body.getD i (.Pass ⟨0, 0, 0, 0⟩)
/-! ### what a value stands for -/
abbrev Rep (α : Type) := PySem.W.Frag → Hp → V → α → Prop
theorem Same.sqt {K : PySem.W.Frag} {H H' : Hp} {a : Addr} {xs : List V} (e : Same H H') (h : SqT K H a xs) : SqT K H' a xs := by
  rcases h with (h | ⟨o, h⟩) | h
  · exact .inl (.inl (e _ _ h))
  · exact .inl (.inr ⟨o, e _ _ h⟩)
  · exact .inr h
class Up {α : Type} (r : Rep α) : Prop where
  up : ∀ {K : PySem.W.Frag} {H H' : Hp} {v : V} {a : α}, Same H H' → r K H v a → r K H' v a
def RI : Rep Int := fun _ _ v i => v = .int i
def RB : Rep Bool := fun _ _ v b => v = .bl b
def RP {α β : Type} (ra : Rep α) (rb : Rep β) : Rep (α × β) := fun K H v c => ∃ p x y, v = .ref p ∧ SqT K H p [x, y] ∧ ra K H x c.1 ∧ rb K H y c.2
def RT {α β γ : Type} (ra : Rep α) (rb : Rep β) (rc : Rep γ) : Rep (α × β × γ) := fun K H v c => ∃ p x y z, v = .ref p ∧ SqT K H p [x, y, z] ∧ ra K H x c.1 ∧ rb K H y c.2.1 ∧ rc K H z c.2.2
def RO {α : Type} (ra : Rep α) : Rep (Option α) := fun K H v o => match o with
  | none => v = .non
  | some a => ra K H v a
def AllR {α : Type} (ra : Rep α) (K : PySem.W.Frag) (H : Hp) (vs : List V) (cs : List α) : Prop := vs.length = cs.length ∧ ∀ (i : Nat) (v : V) (c : α), vs[i]? = some v → cs[i]? = some c → ra K H v c
/-- a list; a tuple of any length -/
def RL {α : Type} (ra : Rep α) : Rep (List α) := fun K H v cs => ∃ p vs, v = .ref p ∧ H p = some (.lst vs) ∧ AllR ra K H vs cs
def RU {α : Type} (ra : Rep α) : Rep (List α) := fun K H v cs => ∃ p vs, v = .ref p ∧ SqT K H p vs ∧ AllR ra K H vs cs
instance : Up RI := ⟨fun _ h => h⟩
instance : Up RB := ⟨fun _ h => h⟩
instance {α β : Type} {ra : Rep α} {rb : Rep β} [Up ra] [Up rb] : Up (RP ra rb) := ⟨fun s ⟨p, x, y, e, h, h1, h2⟩ => ⟨p, x, y, e, Same.sqt s h, Up.up s h1, Up.up s h2⟩⟩
instance {α β γ : Type} {ra : Rep α} {rb : Rep β} {rc : Rep γ} [Up ra] [Up rb] [Up rc] : Up (RT ra rb rc) := ⟨fun s ⟨p, x, y, z, e, h, h1, h2, h3⟩ => ⟨p, x, y, z, e, Same.sqt s h, Up.up s h1, Up.up s h2, Up.up s h3⟩⟩
instance {α : Type} {ra : Rep α} [Up ra] : Up (RO ra) := ⟨fun {_ _ _ _ a} s h => match a, h with
  | none, h => h
  | some _, h => Up.up (r := ra) s h⟩
theorem AllR.up {α : Type} {ra : Rep α} [Up ra] {K : PySem.W.Frag} {H H' : Hp} {vs : List V} {cs : List α} (s : Same H H') (h : AllR ra K H vs cs) : AllR ra K H' vs cs := ⟨h.1, fun i v c h1 h2 => Up.up s (h.2 i v c h1 h2)⟩
instance {α : Type} {ra : Rep α} [Up ra] : Up (RL ra) := ⟨fun s ⟨p, vs, e, h, h1⟩ => ⟨p, vs, e, s _ _ h, h1.up s⟩⟩
instance {α : Type} {ra : Rep α} [Up ra] : Up (RU ra) := ⟨fun s ⟨p, vs, e, h, h1⟩ => ⟨p, vs, e, Same.sqt s h, h1.up s⟩⟩
theorem up {α : Type} {r : Rep α} [Up r] {K : PySem.W.Frag} {H H' : Hp} {v : V} {a : α} (s : Same H H') (h : r K H v a) : r K H' v a := Up.up s h
abbrev F2 : Rep (Int × Int) := RP RI RI
abbrev P2 : Rep ((Int × Int) × (Int × Int)) := RP F2 F2
abbrev T3 : Rep Tri := RT F2 F2 F2
theorem same_upd {H : Hp} {p : Addr} {o : HO} (h : H p = none) : Same H (upd H p o) := fun b x e => by
  rw [upd_ne (ne_of_none e h)]
  exact e
/-! ### promises of functions that change nothing -/
section
variable {α β γ δ ε : Type}
def Sp1 (K : PySem.W.Frag) (ra : Rep α) (rc : Rep γ) (pre : α → Prop) (f : α → γ) : Sp := fun vs H Q _ => ∃ x a, vs = [x] ∧ ra K H x a ∧ pre a ∧ ∀ v H', Same H H' → rc K H' v (f a) → Q v H'
def Sp2 (K : PySem.W.Frag) (ra : Rep α) (rb : Rep β) (rc : Rep γ) (pre : α → β → Prop) (f : α → β → γ) : Sp := fun vs H Q _ => ∃ x y a b, vs = [x, y] ∧ ra K H x a ∧ rb K H y b ∧ pre a b ∧ ∀ v H', Same H H' → rc K H' v (f a b) → Q v H'
def Sp3 (K : PySem.W.Frag) (ra : Rep α) (rb : Rep β) (rd : Rep δ) (rc : Rep γ) (pre : α → β → δ → Prop) (f : α → β → δ → γ) : Sp := fun vs H Q _ => ∃ x y z a b d, vs = [x, y, z] ∧ ra K H x a ∧ rb K H y b ∧ rd K H z d ∧ pre a b d ∧ ∀ v H', Same H H' → rc K H' v (f a b d) → Q v H'
def Sp4 (K : PySem.W.Frag) (ra : Rep α) (rb : Rep β) (rd : Rep δ) (re : Rep ε) (rc : Rep γ) (pre : α → β → δ → ε → Prop) (f : α → β → δ → ε → γ) : Sp := fun vs H Q _ => ∃ x y z u a b d e, vs = [x, y, z, u] ∧ ra K H x a ∧ rb K H y b ∧ rd K H z d ∧ re K H u e ∧ pre a b d e ∧ ∀ v H', Same H H' → rc K H' v (f a b d e) → Q v H'
variable {K : PySem.W.Frag} {ra : Rep α} {rb : Rep β} {rd : Rep δ} {re : Rep ε} {rc : Rep γ} {H : Hp} {Q : VK} {E : XK} {x y z u : V} {a : α} {b : β} {d : δ} {e : ε}
theorem sp1 {pre : α → Prop} {f : α → γ} (h1 : ra K H x a) (hp : pre a) (q : ∀ v H', Same H H' → rc K H' v (f a) → Q v H') : Sp1 K ra rc pre f [x] H Q E := ⟨x, a, rfl, h1, hp, q⟩
theorem sp2 {pre : α → β → Prop} {f : α → β → γ} (h1 : ra K H x a) (h2 : rb K H y b) (hp : pre a b) (q : ∀ v H', Same H H' → rc K H' v (f a b) → Q v H') : Sp2 K ra rb rc pre f [x, y] H Q E := ⟨x, y, a, b, rfl, h1, h2, hp, q⟩
theorem sp3 {pre : α → β → δ → Prop} {f : α → β → δ → γ} (h1 : ra K H x a) (h2 : rb K H y b) (h3 : rd K H z d) (hp : pre a b d) (q : ∀ v H', Same H H' → rc K H' v (f a b d) → Q v H') : Sp3 K ra rb rd rc pre f [x, y, z] H Q E := ⟨x, y, z, a, b, d, rfl, h1, h2, h3, hp, q⟩
theorem sp4 {pre : α → β → δ → ε → Prop} {f : α → β → δ → ε → γ} (h1 : ra K H x a) (h2 : rb K H y b) (h3 : rd K H z d) (h4 : re K H u e) (hp : pre a b d e) (q : ∀ v H', Same H H' → rc K H' v (f a b d e) → Q v H') : Sp4 K ra rb rd re rc pre f [x, y, z, u] H Q E := ⟨x, y, z, u, a, b, d, e, rfl, h1, h2, h3, h4, hp, q⟩
theorem sp1I {pre : α → Prop} {f : α → Int} (h1 : ra K H x a) (hp : pre a) (q : ∀ H', Same H H' → Q (.int (f a)) H') : Sp1 K ra RI pre f [x] H Q E := sp1 h1 hp fun v H' s e => by rw [show v = .int (f a) from e]; exact q H' s
theorem sp2I {pre : α → β → Prop} {f : α → β → Int} (h1 : ra K H x a) (h2 : rb K H y b) (hp : pre a b) (q : ∀ H', Same H H' → Q (.int (f a b)) H') : Sp2 K ra rb RI pre f [x, y] H Q E := sp2 h1 h2 hp fun v H' s e => by rw [show v = .int (f a b) from e]; exact q H' s
theorem sp1B {pre : α → Prop} {f : α → Bool} (h1 : ra K H x a) (hp : pre a) (q : ∀ H', Same H H' → Q (.bl (f a)) H') : Sp1 K ra RB pre f [x] H Q E := sp1 h1 hp fun v H' s e => by rw [show v = .bl (f a) from e]; exact q H' s
theorem sp2B {pre : α → β → Prop} {f : α → β → Bool} (h1 : ra K H x a) (h2 : rb K H y b) (hp : pre a b) (q : ∀ H', Same H H' → Q (.bl (f a b)) H') : Sp2 K ra rb RB pre f [x, y] H Q E := sp2 h1 h2 hp fun v H' s e => by rw [show v = .bl (f a b) from e]; exact q H' s
theorem sp3B {pre : α → β → δ → Prop} {f : α → β → δ → Bool} (h1 : ra K H x a) (h2 : rb K H y b) (h3 : rd K H z d) (hp : pre a b d) (q : ∀ H', Same H H' → Q (.bl (f a b d)) H') : Sp3 K ra rb rd RB pre f [x, y, z] H Q E := sp3 h1 h2 h3 hp fun v H' s e => by rw [show v = .bl (f a b d) from e]; exact q H' s
theorem sp4B {pre : α → β → δ → ε → Prop} {f : α → β → δ → ε → Bool} (h1 : ra K H x a) (h2 : rb K H y b) (h3 : rd K H z d) (h4 : re K H u e) (hp : pre a b d e) (q : ∀ H', Same H H' → Q (.bl (f a b d e)) H') : Sp4 K ra rb rd re RB pre f [x, y, z, u] H Q E := sp4 h1 h2 h3 h4 hp fun v H' s e' => by rw [show v = .bl (f a b d e) from e']; exact q H' s
theorem len1 {ps : List Str} (h : ps.length = 1) {pre : α → Prop} {f : α → γ} : ∀ vs H Q E, Sp1 K ra rc pre f vs H Q E → vs.length = ps.length := fun vs H Q E ⟨_, _, e, _⟩ => by rw [e, h]; rfl
theorem len2 {ps : List Str} (h : ps.length = 2) {pre : α → β → Prop} {f : α → β → γ} : ∀ vs H Q E, Sp2 K ra rb rc pre f vs H Q E → vs.length = ps.length := fun vs H Q E ⟨_, _, _, _, e, _⟩ => by rw [e, h]; rfl
theorem len3 {ps : List Str} (h : ps.length = 3) {pre : α → β → δ → Prop} {f : α → β → δ → γ} : ∀ vs H Q E, Sp3 K ra rb rd rc pre f vs H Q E → vs.length = ps.length := fun vs H Q E ⟨_, _, _, _, _, _, e, _⟩ => by rw [e, h]; rfl
theorem len4 {ps : List Str} (h : ps.length = 4) {pre : α → β → δ → ε → Prop} {f : α → β → δ → ε → γ} : ∀ vs H Q E, Sp4 K ra rb rd re rc pre f vs H Q E → vs.length = ps.length := fun vs H Q E ⟨_, _, _, _, _, _, _, _, e, _⟩ => by rw [e, h]; rfl
end
/-! ### defs -/
/-- a def of the text as it stands behind the top -/
structure Txt (K : PySem.W.Frag) (mg : Str → Option Value) (x : Str) (st : Stmt) : Prop where
  ex : ∃ f fd, mg x = some (.ref f) ∧ Fun K x x st f fd
/-- a mark: which written part is meant -/
structure KM (K : PySem.W.Frag) : Prop where
  mk ::
structure Def (P : Program) (w : World) (K : PySem.W.Frag) (mg : Str → Option Value) (base : Heap) (x : Str) (k : Nat) (ps : List Str) (sp : Sp) : Prop where
  ex : ∃ f fd, mg x = some (.ref f) ∧ PySem.W.keepIn K (.ref f) = true ∧ L2.Binds K fd ps [] ∧ FnOk P w K mg base CX0 k f fd ps sp
def BindsBy (x : Str) (st : Stmt) (ps : List Str) : Prop := ∀ (kV doc pm : Value) (an : Option Addr) (cdv ct : Value) (us : List Value), us.length = ps.length → bindArgs (PySem.W.fnOf x x (defArgs st) (defBody st) (defScope st) .none kV doc pm an cdv ct) ⟨us, []⟩ = pure (ps.zip us)
section
variable {P : Program} {w : World} {K : PySem.W.Frag} {mg : Str → Option Value} {base : Heap}
theorem mkDef {x : Str} {st : Stmt} {N ps : List Str} {k : Nat} {sp : Sp} (T : Txt K mg x st) (S : FnScope N ps (defScope st)) (hb : BindsBy x st ps) (len : ∀ vs H Q E, sp vs H Q E → vs.length = ps.length)
    (hbody : ∀ (f : Addr) (cdv : Value) (A : Around) (outer : List Env) (s : Shared) (H : Hp) (vs : List V) (Q : VK) (E : XK), Room k (A.deeper (envOfC x (defScope st) s.heap.objs.size f cdv)) → KM K → sp vs H Q E →
      ∃ t, PSs (cxOf CX0 P w K mg base N x (defScope st) f cdv A outer s H E).nox (defBody st) t ∧ t { nx := fun _ H' => Q .non H', rt := Q } (start N vs) H) : Def P w K mg base x (k + 1) ps sp := by
  obtain ⟨f, fd, hm, F⟩ := T.ex
  exact ⟨f, fd, hm, F.kp, F.binds hb, F.ok S len (fun cdv A outer s H vs Q E hr h => hbody f cdv A outer s H vs Q E hr .mk h)⟩
theorem Def.imp {x : Str} {ps : List Str} {k : Nat} {sp sp' : Sp} (D : Def P w K mg base x k ps sp) (h : ∀ vs H Q E, sp' vs H Q E → sp vs H Q E) : Def P w K mg base x k ps sp' := by
  obtain ⟨f, fd, h1, h2, h3, h4⟩ := D.ex
  exact ⟨f, fd, h1, h2, h3, h4.imp h⟩
end
section
variable {X : Cx}
def tCal (sp : Sp) (t : TA) : TE := fun σ H Q => t σ H fun vs H1 => sp vs H1 Q E0
theorem pcall {x : Str} {ps : List Str} {sp : Sp} {j k : Nat} {e : Expr} {es : List Expr} {t : TA} {p pos : Pos} (D : Def X.prog X.w X.K X.mg X.base x j ps sp) (hr : Room k X.A) (ha : PA X (e :: es) t) (hk : j ≤ k := by decide) (hg : Gl X x := by rfl)
    (hdb : (x == ("__debug__" : Str)) = false := by decide) (he : starEach (e :: es) X.env = (false, eval e X.env) :: starEach es X.env := by rfl) (hpl : (backTo pos (starEach es X.env)).any (·.1) = false := by rfl) :
    PE X (.Call (.Name x p) (e :: es) [] pos) (tCal sp t) := by
  obtain ⟨f, fd, h1, h2, h3, h4⟩ := D.ex
  have ez : tCal sp t = tCall sp [] E0 t := by
    funext σ H Q
    unfold tCal tCall
    simp only [List.append_nil]
  rw [ez]
  exact pe_call h4 (hr.mono hk) hg h1 h2 h3 .nil pass0 ha hdb he hpl
/-- // by any divisor that is not 0, of less than 9,000 bits -/
theorem op_fdivZ : OpR X (binaryOp .FloorDiv) (rI (fun _ j => j ≠ 0 ∧ j.natAbs < 2 ^ 9000) fun i j => .int (i.fdiv j)) := opI fun _ j _ _ _ _ _ hc q =>
  floordiv_int hc.1 q (.inl (PyProof.noPylong_of_log2 (PySem.Flt.log2_lt_of (by decide) hc.2)))
def rInt : List V → Hp → VK → Prop := fun xs H Q => (∃ i, xs = [.int i] ∧ Q (.int i) H) ∨ ∃ k, xs = [.bl k] ∧ Q (.int (if k then 1 else 0)) H
theorem int1 : CallR X (.type "int") rInt := call_int1
def rAbs : List V → Hp → VK → Prop := fun xs H Q => ∃ i, xs = [.int i] ∧ Q (.int (if i < 0 then -i else i)) H
theorem abs1 : CallR X (.builtin "abs") rAbs := call_abs
def rMax : List V → Hp → VK → Prop := fun xs H Q => ∃ i j, xs = [.int i, .int j] ∧ Q (.int (if j > i then j else i)) H
theorem max2 (hc : X.calm = true) : CallR X (.builtin "max") rMax := call_max2 hc
def rSqrt : List V → Hp → VK → Prop := fun vs H Q => ∃ a : Int, vs = [.int a] ∧ 0 ≤ a ∧ a.natAbs < 2 ^ 200 ∧ Q (.int ((Float64.isqrt a.toNat : Nat) : Int)) H
def rNone (n : Bool) : R2 := fun x y H Q => y = .non ∧ Q (.bl (n ^^ decide (x = .non))) H
theorem isN : OpR X (compareOp .Is) (rNone false) := by
  have e : rNone false = fun x y H Q => y = .non ∧ Q (.bl (decide (x = .non))) H := by
    funext x y H Q
    unfold rNone
    rw [Bool.false_xor]
  rw [e]
  exact op_isN
theorem notN : OpR X (compareOp .IsNot) (rNone true) := by
  have e : rNone true = fun x y H Q => y = .non ∧ Q (.bl (!decide (x = .non))) H := by
    funext x y H Q
    unfold rNone
    rw [Bool.true_xor]
  rw [e]
  exact op_notN
theorem cr_isqrt : CallR X (.builtin "math.isqrt") rSqrt := by
  intro pins s σ H vs us Q I r h
  obtain ⟨a, rfl, h0, h1, q⟩ := h
  obtain ⟨u, rfl, ru⟩ := vals1 r
  obtain ⟨t, rfl⟩ := ru
  have hl : a.toNat.log2 < 200 := by
    have e : a.toNat = a.natAbs := by omega
    rw [e]
    exact PySem.Flt.log2_lt_of (by decide) h1
  exact call_function_meets PySem.W.MGF.kind_isqrt PySem.W.MGF.plain_isqrt PySem.W.MGF.entry_isqrt (PySem.W.MGF.args_isqrt _) (PySem.W.mg_run_isqrt a t (by omega) (by omega) (by omega)).meets ⟨.int _, H, I.tok _, ⟨_, rfl⟩, q⟩
end
section
variable {X : Cx} (K : PySem.W.Frag)
theorem ixT (h : X.K = K := by rfl) : IxR X (rIxT K) := by subst h; exact ix_tup
theorem ixL (h : X.K = K := by rfl) : IxR X (rIxL K) := by subst h; exact ix_list
theorem slT (h : X.K = K := by rfl) : SlR X (rSlT K) := by subst h; exact sl_tup
theorem slL (h : X.K = K := by rfl) : SlR X (rSlL K) := by subst h; exact sl_list
theorem catT (h : X.K = K := by rfl) : OpR X (binaryOp .Add) (rCatT K) := by subst h; exact op_catT
theorem eqD {k : Nat} (hr : Room k X.A) (h : X.K = K := by rfl) : OpR X (compareOp .Eq) (rEqD K) := by subst h; exact op_eqD hr.units
theorem neD {k : Nat} (hr : Room k X.A) (h : X.K = K := by rfl) : OpR X (compareOp .NotEq) (rNeD K) := by subst h; exact op_neD hr.units
theorem pgT {es : List Expr} {k : Nat} {pos : Pos} {t : TGs} {n : Nat} (hc : X.calm = true) (g : PGs X es t) (h : X.K = K := by rfl) (hn : (assignEach es X.env).length = n := by rfl) (hst : (assignEach es X.env).findIdx? (·.1) = none := by rfl) : PG X (.Tuple es k pos) (gTup K n t) := by
  subst h
  exact pg_tup hc g hn hst
theorem piT {tg l : Expr} {tl : TE} (hl : PE X l tl) (h : X.K = K := by rfl) : PI X tg l (iTup K tl) := by subst h; exact pi_tup hl
theorem piL {tg l : Expr} {tl : TE} (hl : PE X l tl) (h : X.K = K := by rfl) : PI X tg l (iList K tl) := by subst h; exact pi_list hl
def rLenS (K : PySem.W.Frag) : List V → Hp → VK → Prop := fun xs H Q => ∃ p ys, xs = [V.ref p] ∧ (SqL K H p ys ∨ SqT K H p ys) ∧ Q (.int ys.length) H
theorem lenS (h : X.K = K := by rfl) : CallR X (.builtin "len") (rLenS K) := by subst h; exact call_len_seq
def rTupOf (K : PySem.W.Frag) : List V → Hp → VK → Prop := fun xs H Q => ∃ p ys, xs = [V.ref p] ∧ ((SqL K H p ys ∧ ∀ l, H l = none → Q (.ref l) (upd H l (.tup ys))) ∨ (SqT K H p ys ∧ Q (.ref p) H))
theorem tupOf (h : X.K = K := by rfl) : CallR X (.type "tuple") (rTupOf K) := by subst h; exact call_tuple_of
theorem allS (hc : X.calm = true) (h : X.K = K := by rfl) : CallR X (.builtin "all") (rAll K) := by subst h; exact cr_all hc
theorem isi (h : X.K = K := by rfl) : CallR X (.builtin "isinstance") (rIsi K) := by subst h; exact call_isi
end
/-! ### reading, step by step -/
section
variable {σ : L2.St} {H : Hp} {Q : VK} {D : Ends}
theorem r_seq {t u : TS} (h : t { D with nx := u D } σ H) : tSeq t u D σ H := h
theorem r_asg {te : TE} {g : TG} (h : te σ H fun x H1 => g x σ H1 D.nx) : tAsg te g D σ H := h
theorem r_ret {te : TE} (h : te σ H D.rt) : tRet te D σ H := h
theorem r_drop {te : TE} (h : te σ H fun _ H1 => D.nx σ H1) : tDrop te D σ H := h
theorem r_if {c : TT} {t u : TS} (h : c σ H fun b H1 => if b = true then t D σ H1 else u D σ H1) : tIfS c t u D σ H := h
theorem r_var {i : Nat} {v : V} (e : σ[i]? = some (some v)) (q : Q v H) : tVar i σ H Q := ⟨v, e, q⟩
theorem r_c {v : V} (q : Q v H) : tC v σ H Q := q
theorem r_op {r : R2} {ta tb : TE} (h : ta σ H fun x H1 => tb σ H1 fun y H2 => r x y H2 Q) : tOp r ta tb σ H Q := h
theorem r_un {r : V → Hp → VK → Prop} {ta : TE} (h : ta σ H fun x H1 => r x H1 Q) : tUn r ta σ H Q := h
theorem r_rI0 {g : Int → Int → V} {i j : Int} (q : Q (g i j) H) : rI0 g (.int i) (.int j) H Q := ⟨i, j, rfl, rfl, q⟩
theorem r_rI {C : Int → Int → Prop} {g : Int → Int → V} {i j : Int} (c : C i j) (q : Q (g i j) H) : rI C g (.int i) (.int j) H Q := ⟨i, j, rfl, rfl, c, q⟩
theorem r_rU {g : Int → V} {i : Int} (q : Q (g i) H) : rU g (.int i) H Q := ⟨i, rfl, q⟩
theorem r_cons {ta : TE} {tr : TA} {Q : List V → Hp → Prop} (h : ta σ H fun x H1 => tr σ H1 fun xs H2 => Q (x :: xs) H2) : tCons ta tr σ H Q := h
theorem r_nil {Q : List V → Hp → Prop} (h : Q [] H) : L2.tNil σ H Q := h
theorem r_call {sp : Sp} {t : TA} (h : t σ H fun vs H1 => sp vs H1 Q E0) : tCal sp t σ H Q := h
theorem r_cb {r : List V → Hp → VK → Prop} {t : TA} (h : t σ H fun vs H1 => r vs H1 Q) : tCB r t σ H Q := h
def NewT (xs : List V) (H : Hp) (Q : VK) : Prop := xs.length ≤ sizeLine ∧ ∀ p, H p = none → Q (.ref p) (upd H p (.tup xs))
def NewL (xs : List V) (H : Hp) (Q : VK) : Prop := xs.length ≤ sizeLine ∧ ∀ p, H p = none → Q (.ref p) (upd H p (.lst xs))
theorem r_tup {t : TA} (h : t σ H fun xs H1 => NewT xs H1 Q) : tTup t σ H Q := h
theorem r_lst {t : TA} (h : t σ H fun xs H1 => NewL xs H1 Q) : tLst t σ H Q := h
theorem r_test {t : TE} {Q : Bool → Hp → Prop} (h : t σ H fun x H' => ∃ k, x = .bl k ∧ Q k H') : tTest t σ H Q := h
theorem r_tB {t : TE} {Q : Bool → Hp → Prop} (h : t σ H fun x H' => ∃ k, x = .bl k ∧ Q k H') : tB t σ H Q := h
theorem r_bl {b : Bool} {Q : Bool → Prop} (q : Q b) : ∃ k, V.bl b = .bl k ∧ Q k := ⟨b, rfl, q⟩
theorem r_ifE {c : TT} {ta tb : TE} (h : c σ H fun b H1 => if b = true then ta σ H1 Q else tb σ H1 Q) : tIf c ta tb σ H Q := h
theorem r_gname {i : Nat} {v : V} {Q : L2.St → Hp → Prop} {σ' : L2.St} (e : σ.set i (some v) = σ') (q : Q σ' H) : gName i v σ H Q := by
  subst e
  exact q
theorem r_gtup {K : PySem.W.Frag} {n : Nat} {t : TGs} {a : Addr} {xs : List V} {Q : L2.St → Hp → Prop} (h : SqT K H a xs) (hn : xs.length = n) (q : t xs σ H Q) : gTup K n t (.ref a) σ H Q := ⟨a, xs, rfl, h, hn, q⟩
theorem r_gcons {t : TG} {u : TGs} {v : V} {r : List V} {Q : L2.St → Hp → Prop} (q : t v σ H fun σ' H' => u r σ' H' Q) : gCons t u (v :: r) σ H Q := ⟨v, r, rfl, q⟩
theorem r_gnil {Q : L2.St → Hp → Prop} (q : Q σ H) : gNil [] σ H Q := ⟨rfl, q⟩
/-- a new tuple -/
theorem new_tup {K : PySem.W.Frag} {xs : List V} (hl : xs.length ≤ 100) (q : ∀ p H', Same H H' → SqT K H' p xs → Q (.ref p) H') : NewT xs H Q :=
  ⟨Nat.le_trans hl (by decide), fun p hp => q p _ (same_upd hp) (.inl (.inl upd_same))⟩
theorem r_next (h : D.nx σ H) : tNext D σ H := h
theorem r_eqI {i j : Int} (q : Q (.bl (decide (i = j))) H) : rEq (.int i) (.int j) H Q := ⟨rfl, by rw [show decide (V.int i = V.int j) = decide (i = j) by rw [decide_eq_decide]; exact ⟨fun e => V.int.inj e, fun e => by rw [e]⟩]; exact q⟩
theorem r_neI {i j : Int} (q : Q (.bl (!decide (i = j))) H) : rNe (.int i) (.int j) H Q := ⟨rfl, by rw [show decide (V.int i = V.int j) = decide (i = j) by rw [decide_eq_decide]; exact ⟨fun e => V.int.inj e, fun e => by rw [e]⟩]; exact q⟩
theorem r_intI {i : Int} (q : Q (.int i) H) : rInt [.int i] H Q := .inl ⟨i, rfl, q⟩
theorem r_intB {b : Bool} (q : Q (.int (if b then 1 else 0)) H) : rInt [.bl b] H Q := .inr ⟨b, rfl, q⟩
theorem r_abs {i : Int} (q : Q (.int (if i < 0 then -i else i)) H) : rAbs [.int i] H Q := ⟨i, rfl, q⟩
theorem r_max {i j : Int} (q : Q (.int (if j > i then j else i)) H) : rMax [.int i, .int j] H Q := ⟨i, j, rfl, q⟩
theorem r_none {n : Bool} {x : V} (q : Q (.bl (n ^^ decide (x = .non))) H) : rNone n x .non H Q := ⟨rfl, q⟩
theorem r_tupU {α : Type} {K : PySem.W.Frag} {ra : Rep α} [Up ra] {v : V} {cs : List α} (h : RL ra K H v cs) (q : ∀ u H', Same H H' → RU ra K H' u cs → Q u H') : rTupOf K [v] H Q := by
  obtain ⟨p, vs, rfl, hs, ha⟩ := h
  exact ⟨p, vs, rfl, .inl ⟨.inl (.inl hs), fun l hl => q _ _ (same_upd hl) ⟨l, vs, rfl, .inl (.inl upd_same), ha.up (same_upd hl)⟩⟩⟩
theorem r_and {a b : TE} (h : a σ H fun x H1 => ∃ c, x = .bl c ∧ if c = true then b σ H1 Q else Q (.bl false) H1) : tAndV a b σ H Q := h
theorem r_or {a b : TE} (h : a σ H fun x H1 => ∃ c, x = .bl c ∧ if c = true then Q (.bl true) H1 else b σ H1 Q) : tOrV a b σ H Q := h
theorem r_not {a : TE} (h : a σ H fun x H1 => ∃ c, x = .bl c ∧ Q (.bl (!c)) H1) : tNotV a σ H Q := h
theorem r_andT {a b : TT} {Q : Bool → Hp → Prop} (h : a σ H fun c H1 => if c = true then b σ H1 Q else Q false H1) : tAnd a b σ H Q := h
theorem r_orT {a b : TT} {Q : Bool → Hp → Prop} (h : a σ H fun c H1 => if c = true then Q true H1 else b σ H1 Q) : tOr a b σ H Q := h
theorem r_notT {a : TT} {Q : Bool → Hp → Prop} (h : a σ H fun c H1 => Q (!c) H1) : L2.tNot a σ H Q := h
theorem r_gcd {a b : Int} (q : Q (.int ((Nat.gcd a.natAbs b.natAbs : Nat) : Int)) H) : rGcd [.int a, .int b] H Q := ⟨a, b, rfl, q⟩
theorem new_pair {α β : Type} {K : PySem.W.Frag} {ra : Rep α} {rb : Rep β} [Up ra] [Up rb] {x y : V} {a : α} {b : β} (h1 : ra K H x a) (h2 : rb K H y b) (q : ∀ v H', Same H H' → RP ra rb K H' v (a, b) → Q v H') : NewT [x, y] H Q :=
  new_tup (K := K) (by simp) fun p H' s h => q _ _ s ⟨p, x, y, rfl, h, up s h1, up s h2⟩
theorem new_frac {K : PySem.W.Frag} {i j : Int} (kk : KM K) (q : ∀ v H', Same H H' → F2 K H' v (i, j) → Q v H') : NewT [V.int i, V.int j] H Q :=
  new_pair (ra := RI) (rb := RI) rfl rfl q
theorem new_any {K : PySem.W.Frag} {xs : List V} (kk : KM K) (hl : xs.length ≤ 100) (q : ∀ p H', Same H H' → SqT K H' p xs → Q (.ref p) H') : NewT xs H Q := new_tup hl q
theorem r_chain {r r' : R2} {ta tb tc : TE} (h : ta σ H fun x H1 => tb σ H1 fun y H2 => r x y H2 fun z H3 => ∃ k, z = .bl k ∧ (if k = true then tc σ H3 fun w' H4 => r' y w' H4 Q else Q (.bl false) H3)) : tChain r r' ta tb tc σ H Q := h
theorem new_tri {α β γ : Type} {K : PySem.W.Frag} {ra : Rep α} {rb : Rep β} {rc : Rep γ} [Up ra] [Up rb] [Up rc] {x y z : V} {a : α} {b : β} {c : γ} (h1 : ra K H x a) (h2 : rb K H y b) (h3 : rc K H z c) (q : ∀ v H', Same H H' → RT ra rb rc K H' v (a, b, c) → Q v H') :
    NewT [x, y, z] H Q :=
  new_tup (K := K) (by simp) fun p H' s h => q _ _ s ⟨p, x, y, z, rfl, h, up s h1, up s h2, up s h3⟩
theorem r_ixT {K : PySem.W.Frag} {p : Addr} {xs : List V} {i : Int} {v : V} (h : SqT K H p xs) (e : atI xs i = some v) (q : Q v H) : rIxT K (.ref p) (.int i) H Q := ⟨p, xs, i, v, rfl, rfl, h, e, q⟩
theorem r_ixL {K : PySem.W.Frag} {p : Addr} {xs : List V} {i : Int} {v : V} (h : SqL K H p xs) (e : atI xs i = some v) (q : Q v H) : rIxL K (.ref p) (.int i) H Q := ⟨p, xs, i, v, rfl, rfl, h, e, q⟩
theorem r_ix0 {α β : Type} {K : PySem.W.Frag} {ra : Rep α} {rb : Rep β} {v : V} {c : α × β} (h : RP ra rb K H v c) (q : ∀ x, ra K H x c.1 → Q x H) : rIxT K v (.int 0) H Q := by
  obtain ⟨p, x, y, rfl, h, h1, h2⟩ := h
  exact r_ixT h rfl (q x h1)
theorem r_ix1 {α β : Type} {K : PySem.W.Frag} {ra : Rep α} {rb : Rep β} {v : V} {c : α × β} (h : RP ra rb K H v c) (q : ∀ x, rb K H x c.2 → Q x H) : rIxT K v (.int 1) H Q := by
  obtain ⟨p, x, y, rfl, h, h1, h2⟩ := h
  exact r_ixT h rfl (q y h2)
theorem r_fx0 {K : PySem.W.Frag} {v : V} {c : Int × Int} (h : F2 K H v c) (q : Q (.int c.1) H) : rIxT K v (.int 0) H Q := r_ix0 h fun x e => by
  have e : x = .int c.1 := e
  rw [e]
  exact q
theorem r_fx1 {K : PySem.W.Frag} {v : V} {c : Int × Int} (h : F2 K H v c) (q : Q (.int c.2) H) : rIxT K v (.int 1) H Q := r_ix1 h fun x e => by
  have e : x = .int c.2 := e
  rw [e]
  exact q
/-- (a, b) = v: v a pair -/
theorem r_gpair {α β : Type} {K : PySem.W.Frag} {ra : Rep α} {rb : Rep β} {t : TGs} {v : V} {c : α × β} {Q : L2.St → Hp → Prop} (h : RP ra rb K H v c) (q : ∀ x y, ra K H x c.1 → rb K H y c.2 → t [x, y] σ H Q) : gTup K 2 t v σ H Q := by
  obtain ⟨p, x, y, rfl, h, h1, h2⟩ := h
  exact r_gtup h rfl (q x y h1 h2)
theorem r_gfrac {K : PySem.W.Frag} {t : TGs} {v : V} {c : Int × Int} {Q : L2.St → Hp → Prop} (h : F2 K H v c) (q : t [.int c.1, .int c.2] σ H Q) : gTup K 2 t v σ H Q := by
  obtain ⟨p, x, y, rfl, h, h1, h2⟩ := h
  have e1 : x = .int c.1 := h1
  have e2 : y = .int c.2 := h2
  subst e1 e2
  exact r_gtup h rfl q
end
theorem BI.mk (i : Int) (K : PySem.W.Frag) (H : Hp) : RI K H (.int i) i := rfl
theorem mw {i j : Int} (ha : i.natAbs < 2 ^ 9000) (hb : j.natAbs < 2 ^ 9000) : CMulW i j := wide_mul ha hb (by decide) (by decide) (by decide)
theorem r_mul {i j : Int} {g : Int → Int → V} {H : Hp} {Q : VK} (ha : i.natAbs < 2 ^ 9000) (hb : j.natAbs < 2 ^ 9000) (q : Q (g i j) H) : rI CMulW g (.int i) (.int j) H Q := r_rI (mw ha hb) q
def ParK (i j : Nat) (σ : L2.St) (N : L2.St → Hp → Prop) (vs : List V) (H : Hp) : Prop := ∃ v w, vs = [v, w] ∧ N ((σ.set i (some v)).set j (some w)) H
theorem r_par {i j : Nat} {ta : TA} {D : Ends} {σ : L2.St} {H : Hp} (h : ta σ H fun vs H1 => ParK i j σ D.nx vs H1) : tPar i j ta D σ H := h
theorem r_two {v w : V} {i j : Nat} {σ σ' : L2.St} {H : Hp} {N : L2.St → Hp → Prop} (e : (σ.set i (some v)).set j (some w) = σ') (q : N σ' H) : ParK i j σ N [v, w] H := by
  subst e
  exact ⟨v, w, rfl, q⟩
/-- the names that the defs ask the module for -/
structure Nm (K : PySem.W.Frag) (mg : Str → Option Value) : Prop where
  len : mg "len" = none
  abs : mg "abs" = none
  max : mg "max" = none
  int : mg "int" = none
  tuple : mg "tuple" = none
  sorted : mg "sorted" = none
  all : mg "all" = none
  isinstance : mg "isinstance" = none
  bool : mg "bool" = none
  zip : mg "zip" = none
  enumerate : mg "enumerate" = none
  range : mg "range" = none
  gcd : mg "gcd" = some (.builtin "math.gcd")
  isqrt : mg "isqrt" = some (.builtin "math.isqrt")
  nought : ∃ p, mg "NOUGHT" = some (.ref p) ∧ ∀ H, F2 K H (.ref p) (0, 1)
  one : ∃ p, mg "ONE" = some (.ref p) ∧ ∀ H, F2 K H (.ref p) (1, 1)
end Lp
set_option Elab.async false
set_option linter.all false
set_option maxRecDepth 100000
set_option maxHeartbeats 4000000
/-! loops and comprehensions over what stands for lists -/
namespace Lp
open PySem PySem.Spec PyProof.Rows L2
/-- the tuples stay -/
def TSame (H H' : Hp) : Prop := ∀ b xs, (H b = some (.tup xs) → H' b = some (.tup xs)) ∧ ∀ o, H b = some (.frz o (.tup xs)) → H' b = some (.frz o (.tup xs))
theorem Same.ts {H H' : Hp} (s : Same H H') : TSame H H' := fun b xs => ⟨fun h => s _ _ h, fun o h => s _ _ h⟩
theorem TSame.trans {H H1 H2 : Hp} (a : TSame H H1) (b : TSame H1 H2) : TSame H H2 := fun c xs => ⟨fun h => (b c xs).1 ((a c xs).1 h), fun o h => (b c xs).2 o ((a c xs).2 o h)⟩
theorem TSame.lst {H : Hp} {D : Addr} {acc acc' : List V} (h : H D = some (.lst acc)) : TSame H (upd H D (.lst acc')) := fun b xs => by
  have ne : ∀ o, H b = some o → (∀ a, o ≠ .lst a) → b ≠ D := fun o e q z => by
    rw [z, h] at e
    exact q acc (Option.some.inj e).symm
  refine ⟨fun e => ?_, fun o e => ?_⟩
  · rw [upd_ne (ne _ e (fun a z => by cases z))]; exact e
  · rw [upd_ne (ne _ e (fun a z => by cases z))]; exact e
theorem TSame.sqt {K : PySem.W.Frag} {H H' : Hp} {a : Addr} {xs : List V} (e : TSame H H') (h : SqT K H a xs) : SqT K H' a xs := by
  rcases h with (h | ⟨o, h⟩) | h
  · exact .inl (.inl ((e _ _).1 h))
  · exact .inl (.inr ⟨o, (e _ _).2 o h⟩)
  · exact .inr h
class Tp {α : Type} (r : Rep α) : Prop where
  tp : ∀ {K : PySem.W.Frag} {H H' : Hp} {v : V} {a : α}, TSame H H' → r K H v a → r K H' v a
instance : Tp RI := ⟨fun _ h => h⟩
instance : Tp RB := ⟨fun _ h => h⟩
instance {α β : Type} {ra : Rep α} {rb : Rep β} [Tp ra] [Tp rb] : Tp (RP ra rb) := ⟨fun s ⟨p, x, y, e, h, h1, h2⟩ => ⟨p, x, y, e, TSame.sqt s h, Tp.tp s h1, Tp.tp s h2⟩⟩
instance {α β γ : Type} {ra : Rep α} {rb : Rep β} {rc : Rep γ} [Tp ra] [Tp rb] [Tp rc] : Tp (RT ra rb rc) := ⟨fun s ⟨p, x, y, z, e, h, h1, h2, h3⟩ => ⟨p, x, y, z, e, TSame.sqt s h, Tp.tp s h1, Tp.tp s h2, Tp.tp s h3⟩⟩
instance {α : Type} {ra : Rep α} [Tp ra] : Tp (RO ra) := ⟨fun {_ _ _ _ a} s h => match a, h with
  | none, h => h
  | some _, h => Tp.tp (r := ra) s h⟩
theorem AllR.tp {α : Type} {ra : Rep α} [Tp ra] {K : PySem.W.Frag} {H H' : Hp} {vs : List V} {cs : List α} (s : TSame H H') (h : AllR ra K H vs cs) : AllR ra K H' vs cs := ⟨h.1, fun i v c h1 h2 => Tp.tp s (h.2 i v c h1 h2)⟩
instance {α : Type} {ra : Rep α} [Tp ra] : Tp (RU ra) := ⟨fun s ⟨p, vs, e, h, h1⟩ => ⟨p, vs, e, TSame.sqt s h, h1.tp s⟩⟩
section
variable {K : PySem.W.Frag}
theorem AllR.nil {α : Type} {ra : Rep α} {H : Hp} : AllR ra K H [] [] := ⟨rfl, fun i v c h => by simp at h⟩
theorem AllR.cons {α : Type} {ra : Rep α} {H : Hp} {v : V} {c : α} {vs : List V} {cs : List α} (h : ra K H v c) (r : AllR ra K H vs cs) : AllR ra K H (v :: vs) (c :: cs) := by
  refine ⟨by rw [List.length_cons, List.length_cons, r.1], fun i x d h1 h2 => ?_⟩
  cases i with
  | zero =>
    have e1 : v = x := Option.some.inj h1
    have e2 : c = d := Option.some.inj h2
    rw [← e1, ← e2]
    exact h
  | succ i => exact r.2 i x d h1 h2
theorem AllR.snoc {α : Type} {ra : Rep α} {H : Hp} {v : V} {c : α} : ∀ {vs : List V} {cs : List α}, AllR ra K H vs cs → ra K H v c → AllR ra K H (vs ++ [v]) (cs ++ [c])
  | [], [], _, h => .cons h .nil
  | [], _ :: _, r, _ => by have := r.1; simp at this
  | _ :: _, [], r, _ => by have := r.1; simp at this
  | v1 :: vs, c1 :: cs, r, h => .cons (r.2 0 v1 c1 rfl rfl) (AllR.snoc (vs := vs) (cs := cs) ⟨by have := r.1; simpa using this, fun i x d h1 h2 => r.2 (i + 1) x d h1 h2⟩ h)
theorem AllR.at {α : Type} {ra : Rep α} {H : Hp} {vs : List V} {cs : List α} (r : AllR ra K H vs cs) {i : Nat} {c : α} (h : cs[i]? = some c) : ∃ v, vs[i]? = some v ∧ ra K H v c := by
  have hi : i < cs.length := (List.getElem?_eq_some_iff.mp h).1
  have hv : i < vs.length := by rw [r.1]; exact hi
  exact ⟨vs[i], List.getElem?_eq_getElem hv, r.2 i _ c (List.getElem?_eq_getElem hv) h⟩
theorem AllR.of {α : Type} {ra : Rep α} {H : Hp} {vs : List V} {cs : List α} (r : AllR ra K H vs cs) {i : Nat} {v : V} (h : vs[i]? = some v) : ∃ c, cs[i]? = some c ∧ ra K H v c := by
  have hi : i < vs.length := (List.getElem?_eq_some_iff.mp h).1
  have hv : i < cs.length := by rw [← r.1]; exact hi
  exact ⟨cs[i], List.getElem?_eq_getElem hv, r.2 i _ _ h (List.getElem?_eq_getElem hv)⟩
theorem new_lst {α : Type} {ra : Rep α} [Up ra] {H : Hp} {Q : VK} {vs : List V} {cs : List α} (h : AllR ra K H vs cs) (hl : vs.length ≤ 100) (q : ∀ p H', Same H H' → H p = none → H' p = some (.lst vs) → RL ra K H' (.ref p) cs → Q (.ref p) H') : NewL vs H Q :=
  ⟨Nat.le_trans hl (by decide), fun p hp => q p _ (same_upd hp) hp upd_same ⟨p, vs, rfl, upd_same, h.up (same_upd hp)⟩⟩
/-! ### walks -/
theorem walk_zipT {a b : Addr} {xs ys : List V} {n : Nat} (hn : n = min xs.length ys.length) : Walk (RZ.ItzT K a b) n (fun H => SqT K H a xs ∧ SqT K H b ys) (YPair (fun i => xs[i]?) (fun i => ys[i]?)) := by
  subst hn
  constructor
  · intro i H hi q
    have h1 : i < xs.length := by omega
    have h2 : i < ys.length := by omega
    exact ⟨xs, ys, xs[i], ys[i], q.1, q.2, by simp [h1], by simp [h2]⟩
  · intro H q
    exact ⟨xs, ys, q.1, q.2, by omega⟩
  · intro i H v H' hi q y
    obtain ⟨T, x, z, h1, h2, h3, h4, h5⟩ := y
    exact ⟨T, x, z, h1, h2, h3, h4 xs q.1, h5 ys q.2⟩
/-- zip of two lists, of two tuples -/
def iZipK (K : PySem.W.Frag) (ta : TA) : TI := RZ.iZipA K ta
theorem pzip (K : PySem.W.Frag) {X : Cx} {e e2 : Expr} {ta : TA} {p pos tpos : Pos} {elts : List Expr} {kk : Nat} (hg : Gl X "zip") (hm : X.mg "zip" = none) (ha : PA X [e, e2] ta) (h : X.K = K := by rfl)
    (hs : starEach [e, e2] X.env = (false, eval e X.env) :: starEach [e2] X.env := by rfl) (hpl : (backTo pos (starEach [e2] X.env)).any (·.1) = false := by rfl) :
    PI X (.Tuple elts kk tpos) (.Call (.Name "zip" p) [e, e2] [] pos) (iZipK K ta) := by
  subst h
  exact RZ.pi_zipA hg hm ha hs hpl
def ZipL (K : PySem.W.Frag) (R : It → Hp → Prop) (vs : List V) (H : Hp) : Prop := ∃ a b xs ys, vs = [.ref a, .ref b] ∧ ((SqL K H a xs ∧ SqL K H b ys ∧ R (Itz K a b) H) ∨ (SqT K H a xs ∧ SqT K H b ys ∧ R (RZ.ItzT K a b) H))
theorem r_zip {ta : TA} {σ : L2.St} {H : Hp} {R : It → Hp → Prop} (h : ta σ H fun vs H1 => ZipL K R vs H1) : iZipK K ta σ H R := h
theorem r_zipT {R : It → Hp → Prop} {H : Hp} {a b : Addr} {xs ys : List V} (h1 : SqT K H a xs) (h2 : SqT K H b ys) (q : R (RZ.ItzT K a b) H) : ZipL K R [.ref a, .ref b] H := ⟨a, b, xs, ys, rfl, .inr ⟨h1, h2, q⟩⟩
theorem r_zipL {R : It → Hp → Prop} {H : Hp} {a b : Addr} {xs ys : List V} (h1 : SqL K H a xs) (h2 : SqL K H b ys) (q : R (Itz K a b) H) : ZipL K R [.ref a, .ref b] H := ⟨a, b, xs, ys, rfl, .inl ⟨h1, h2, q⟩⟩
theorem r_itT {tl : TE} {σ : L2.St} {H : Hp} {R : It → Hp → Prop} (h : tl σ H fun x H1 => ∃ a, x = .ref a ∧ (∃ xs, SqT K H1 a xs) ∧ R (Itt K a) H1) : iTup K tl σ H R := h
theorem r_itL {tl : TE} {σ : L2.St} {H : Hp} {R : It → Hp → Prop} (h : tl σ H fun x H1 => ∃ a, x = .ref a ∧ (∃ xs, SqL K H1 a xs) ∧ R (Itl K a) H1) : iList K tl σ H R := h
/-- for: what it walks, then the loop -/
def ForK (g : TG) (tb : TS) (D : Ends) (σ : L2.St) (J : It) (H1 : Hp) : Prop := ∃ W : Nat → Nat → L2.St → Hp → Prop, (∃ m, W 0 m σ H1) ∧ ∀ i m σ H, W i m σ H →
  (J.stop i H ∧ D.nx σ H) ∨ (J.go i H ∧ ∃ N : L2.St → Hp → Prop, (∀ σ' H', N σ' H' → ∃ m', m' < m ∧ W (i + 1) m' σ' H') ∧ ∀ x H', J.yld i H x H' → g x σ H' fun σ2 H2 => tb { D with nx := N, ct := N, bk := D.nx } σ2 H2)
theorem r_for {wi : TI} {g : TG} {tb : TS} {D : Ends} {σ : L2.St} {H : Hp} (h : wi σ H fun J H1 => ForK g tb D σ J H1) : tFor wi g tb D σ H := h
section
variable {J : It} {n : Nat} {G : Hp → Prop} {Y : Nat → Hp → V → Hp → Prop}
theorem for_K (w : Walk J n G Y) {g : TG} {tb : TS} {D : Ends} {σ : L2.St} {H : Hp} (Pv : Nat → L2.St → Hp → Prop) (h0 : Pv 0 σ H) (hG : ∀ i σ H, i ≤ n → Pv i σ H → G H)
    (hs : ∀ i x σ H H', i < n → Pv i σ H → Y i H x H' → g x σ H' fun σ2 H2 => tb { D with nx := Pv (i + 1), ct := Pv (i + 1), bk := D.nx } σ2 H2) (hd : ∀ σ H, Pv n σ H → D.nx σ H) : ForK g tb D σ J H := for_it w Pv h0 hG hs hd
/-- a comprehension: the new list, then what follows -/
def LcK (g : TG) (tt : TT) (te : TE) (vs : List Nat) (σ : L2.St) (Q : VK) (J : It) (H1 : Hp) : Prop := ∀ D, H1 D = none → ∃ W : Nat → Nat → Hp → Prop, (∃ m, W 0 m (upd H1 D (.lst []))) ∧ ∀ i m H, W i m H →
  (J.stop i H ∧ Q (.ref D) H) ∨ (J.go i H ∧ ∃ Nx : Hp → Prop, (∀ H', Nx H' → ∃ m', m' < m ∧ W (i + 1) m' H') ∧ ∀ x H', J.yld i H x H' → g x (wipe σ vs) H' fun σ2 H2 => wipe σ2 vs = wipe σ vs ∧ tt σ2 H2 fun b H3 =>
    if b = true then te σ2 H3 fun y H4 => ∃ acc, H4 D = some (.lst acc) ∧ acc.length < sizeLine ∧ Nx (upd H4 D (.lst (acc ++ [y]))) else Nx H3)
theorem r_lc {wi : TI} {g : TG} {tt : TT} {te : TE} {vs : List Nat} {σ : L2.St} {H : Hp} {Q : VK} (h : wi σ H fun J H1 => LcK g tt te vs σ Q J H1) : tLc wi g tt te vs σ H Q := h
/-- [e for ..]: each turn makes a value that stands for the next one of cs -/
theorem lc_map {γ : Type} {rc : Rep γ} [Up rc] [Tp rc] (w : Walk J n G Y) {g : TG} {te : TE} {vs : List Nat} {σ : L2.St} {H1 : Hp} {Q : VK} (cs : List γ) (hn : cs.length = n) (hz : n ≤ 100) (hG : ∀ H, Same H1 H → G H)
    (hs : ∀ i x H H' c (Post : VK), i < n → Same H1 H → cs[i]? = some c → Y i H x H' → (∀ y H4, Same H H4 → rc K H4 y c → Post y H4) → g x (wipe σ vs) H' fun σ2 H2 => wipe σ2 vs = wipe σ vs ∧ te σ2 H2 Post)
    (hd : ∀ p us H, Same H1 H → H1 p = none → H p = some (.lst us) → RL rc K H (.ref p) cs → Q (.ref p) H) (hgm : ∀ x σ H (A B : L2.St → Hp → Prop), (∀ σ H, A σ H → B σ H) → g x σ H A → g x σ H B) : LcK g tYes te vs σ Q J H1 := by
  intro D nD
  refine lc_it w (fun i H => ∃ acc, H D = some (.lst acc) ∧ Same H1 H ∧ AllR rc K H acc (cs.take i)) ⟨[], upd_same, same_upd nD, by rw [List.take_zero]; exact AllR.nil⟩ (fun i H hi ⟨acc, h1, h2, h3⟩ => hG H h2) ?_ ?_
  · intro i x H H' hi hp hy
    obtain ⟨acc, h1, h2, h3⟩ := hp
    have hc : cs[i]? = some (cs[i]'(by omega)) := List.getElem?_eq_getElem (by omega)
    refine hgm _ _ _ _ _ ?_ (hs i x H H' _ (fun y H4 => ∃ acc, H4 D = some (.lst acc) ∧ acc.length < sizeLine ∧ ∃ acc', (upd H4 D (.lst (acc ++ [y]))) D = some (.lst acc') ∧ Same H1 (upd H4 D (.lst (acc ++ [y]))) ∧ AllR rc K (upd H4 D (.lst (acc ++ [y]))) acc' (cs.take (i + 1))) hi h2 hc hy ?_)
    · intro σ2 H2 hq
      obtain ⟨e1, e2⟩ := hq
      refine ⟨e1, ?_⟩
      unfold tYes
      dsimp only
      rw [if_pos rfl]
      exact e2
    · intro y H4 s4 ry
      have hl : acc.length ≤ 100 := by
        rw [h3.1, List.length_take]
        omega
      refine ⟨acc, s4 _ _ h1, Nat.lt_of_le_of_lt hl (by decide), acc ++ [y], upd_same, fun b o e => ?_, ?_⟩
      · rw [upd_ne (ne_of_none e nD)]
        exact s4 _ _ (h2 _ _ e)
      · have ts : TSame H4 (upd H4 D (.lst (acc ++ [y]))) := TSame.lst (s4 _ _ h1)
        rw [List.take_add_one, hc]
        exact ((h3.up s4).tp ts).snoc (Tp.tp ts ry)
  · intro H hp
    obtain ⟨acc, h1, h2, h3⟩ := hp
    rw [List.take_of_length_le (by omega)] at h3
    exact hd D acc H h2 nD h1 ⟨D, acc, rfl, h1, h3⟩
end
end
theorem gname_mono {i : Nat} : ∀ x σ H (A B : L2.St → Hp → Prop), (∀ σ H, A σ H → B σ H) → gName i x σ H A → gName i x σ H B := fun _ _ _ _ _ h q => h _ _ q
theorem gpair_mono {K : PySem.W.Frag} {i j : Nat} : ∀ x σ H (A B : L2.St → Hp → Prop), (∀ σ H, A σ H → B σ H) → gTup K 2 (gCons (gName i) (gCons (gName j) gNil)) x σ H A → gTup K 2 (gCons (gName i) (gCons (gName j) gNil)) x σ H B := by
  intro x σ H A B h q
  obtain ⟨a, xs, e1, e2, e3, v, r, e4, v2, r2, e5, e6, q⟩ := q
  exact ⟨a, xs, e1, e2, e3, v, r, e4, v2, r2, e5, e6, h _ _ q⟩
/-! ### slices, sums, all -/
theorem cut_from (xs : List V) (i : Nat) : cutV xs (some (i : Int)) none = xs.drop i := by
  unfold cutV
  rw [HT.sIx_nat, HT.sIx_none]
  by_cases h : i ≤ xs.length
  · rw [Nat.min_eq_left h, List.take_of_length_le (by rw [List.length_drop]; omega)]
  · rw [Nat.min_eq_right (by omega), List.drop_of_length_le (by omega), List.drop_of_length_le (by omega), List.take_nil]
theorem cut_to (xs : List V) (j : Nat) : cutV xs none (some (j : Int)) = xs.take j := by
  unfold cutV
  rw [HT.sIx_nat, HT.sIx_none]
  simp
theorem AllR.drop {α : Type} {ra : Rep α} {K : PySem.W.Frag} {H : Hp} {vs : List V} {cs : List α} (r : AllR ra K H vs cs) (n : Nat) : AllR ra K H (vs.drop n) (cs.drop n) :=
  ⟨by rw [List.length_drop, List.length_drop, r.1], fun i v c h1 h2 => r.2 (n + i) v c (by rw [List.getElem?_drop] at h1; exact h1) (by rw [List.getElem?_drop] at h2; exact h2)⟩
theorem AllR.take {α : Type} {ra : Rep α} {K : PySem.W.Frag} {H : Hp} {vs : List V} {cs : List α} (r : AllR ra K H vs cs) (n : Nat) : AllR ra K H (vs.take n) (cs.take n) := by
  refine ⟨by rw [List.length_take, List.length_take, r.1], fun i v c h1 h2 => ?_⟩
  by_cases hi : i < n
  · rw [List.getElem?_take_of_lt hi] at h1 h2
    exact r.2 i v c h1 h2
  · rw [List.getElem?_take_eq_none (by omega)] at h1
    cases h1
theorem AllR.app {α : Type} {ra : Rep α} {K : PySem.W.Frag} {H : Hp} {ws : List V} {ds : List α} : ∀ {vs : List V} {cs : List α}, AllR ra K H vs cs → AllR ra K H ws ds → AllR ra K H (vs ++ ws) (cs ++ ds)
  | [], [], _, h => h
  | [], _ :: _, r, _ => by have := r.1; simp at this
  | _ :: _, [], r, _ => by have := r.1; simp at this
  | v1 :: vs, c1 :: cs, r, h => .cons (r.2 0 v1 c1 rfl rfl) (AllR.app (vs := vs) (cs := cs) ⟨by have := r.1; simpa using this, fun i x d h1 h2 => r.2 (i + 1) x d h1 h2⟩ h)
theorem AllR.bls {K : PySem.W.Frag} {H : Hp} : ∀ {vs : List V} {bs : List Bool}, AllR RB K H vs bs → vs = bs.map V.bl
  | [], [], _ => rfl
  | [], _ :: _, r => by have := r.1; simp at this
  | _ :: _, [], r => by have := r.1; simp at this
  | v :: vs, b :: bs, r => by
    have e : v = .bl b := r.2 0 v b rfl rfl
    have r2 : vs = bs.map V.bl := AllR.bls ⟨by have := r.1; simpa using this, fun i x d h1 h2 => r.2 (i + 1) x d h1 h2⟩
    rw [e, r2]
    rfl
theorem r_all {K : PySem.W.Frag} {H : Hp} {Q : VK} {v : V} {bs : List Bool} (h : RL RB K H v bs) (q : Q (.bl (bs.all id)) H) : rAll K [v] H Q := by
  obtain ⟨p, vs, rfl, hs, ha⟩ := h
  rw [ha.bls] at hs
  exact ⟨p, bs, rfl, .inl (.inl hs), q⟩
theorem r_slL {K : PySem.W.Frag} {H : Hp} {Q : VK} {p : Addr} {vs : List V} {lo hi : Option Int} (h : H p = some (.lst vs)) (q : ∀ r H', Same H H' → H r = none → H' r = some (.lst (cutV vs lo hi)) → Q (.ref r) H') : rSlL K (.ref p) lo hi H Q :=
  ⟨p, vs, rfl, .inl (.inl h), fun r hr => q r _ (same_upd hr) hr upd_same⟩
theorem r_cat {H : Hp} {Q : VK} {l b : Addr} {xs zs : List V} (h1 : H l = some (.lst xs)) (h2 : H b = some (.lst zs)) (hz : xs.length + zs.length ≤ 100) (q : ∀ r H', Same H H' → H r = none → H' r = some (.lst (xs ++ zs)) → Q (.ref r) H') : rCat (.ref l) (.ref b) H Q :=
  ⟨l, b, xs, zs, rfl, rfl, h1, h2, Nat.le_trans hz (by decide), fun r hr => q r _ (same_upd hr) hr upd_same⟩
section
variable {σ : L2.St} {H : Hp}
theorem r_slice {r : V → Option Int → Option Int → Hp → VK → Prop} {te : TE} {tl th : TO} {Q : VK} (h : te σ H fun x H1 => tl σ H1 fun l H2 => th σ H2 fun u H3 => r x l u H3 Q) : tSl r te tl th σ H Q := h
theorem r_nopart {Q : Option Int → Hp → Prop} (h : Q none H) : tNoPart σ H Q := h
def PartK (Q : Option Int → Hp → Prop) (x : V) (H : Hp) : Prop := ∃ i, x = .int i ∧ Q (some i) H
theorem r_part {te : TE} {Q : Option Int → Hp → Prop} (h : te σ H fun x H1 => PartK Q x H1) : tPart te σ H Q := h
theorem r_partI {i : Int} {Q : Option Int → Hp → Prop} (h : Q (some i) H) : PartK Q (.int i) H := ⟨i, rfl, h⟩
theorem r_bm {K : PySem.W.Frag} {T : String} {r : V → List V → Hp → VK → Prop} {to : TE} {t : TA} {Q : VK} (h : to σ H fun x H1 => tyV K T x H1 ∧ t σ H1 fun xs H2 => r x xs H2 Q) : tBM K T r to t σ H Q := h
theorem r_append {Q : VK} {l : Addr} {xs : List V} {y : V} (h : H l = some (.lst xs)) (hz : xs.length ≤ 100) (q : Q .non (upd H l (.lst (xs ++ [y])))) : rAppend (.ref l) [y] H Q := ⟨l, xs, y, rfl, rfl, h, Nat.lt_of_le_of_lt hz (by decide), q⟩
end
/-! ### sizes of sums and products -/
theorem add_sz {x y : Int} {i j : Nat} (hx : x.natAbs < 2 ^ i) (hy : y.natAbs < 2 ^ j) : (x + y).natAbs < 2 ^ (i + j + 1) := by
  have h1 := p2_le (show i ≤ i + j by omega)
  have h2 := p2_le (show j ≤ i + j by omega)
  exact add_lt (Nat.lt_of_lt_of_le hx h1) (Nat.lt_of_lt_of_le hy h2)
theorem sub_sz {x y : Int} {i j : Nat} (hx : x.natAbs < 2 ^ i) (hy : y.natAbs < 2 ^ j) : (x - y).natAbs < 2 ^ (i + j + 1) := by
  have h1 := p2_le (show i ≤ i + j by omega)
  have h2 := p2_le (show j ≤ i + j by omega)
  exact sub_lt (Nat.lt_of_lt_of_le hx h1) (Nat.lt_of_lt_of_le hy h2)
theorem lit_sz {x : Int} (h : x.natAbs < 2 ^ 64) : x.natAbs < 2 ^ 64 := h
/-! ### bounds -/
structure Bd where
  S : Int
  near : Int
  wind : Int
  clock : Int
  fall : Int
  way : Int
  sil : Int
  cuts : Int
  deep : Int
def Bd.l (b : Bd) : List Int := [b.S, b.near, b.wind, b.clock, b.fall, b.way, b.sil, b.cuts, b.deep]
def RBd : Rep Bd := fun K H v b => ∃ p, v = .ref p ∧ SqT K H p (b.l.map V.int)
instance : Up RBd := ⟨fun s ⟨p, e, h⟩ => ⟨p, e, Same.sqt s h⟩⟩
instance : Tp RBd := ⟨fun s ⟨p, e, h⟩ => ⟨p, e, TSame.sqt s h⟩⟩
theorem r_ixB {K : PySem.W.Frag} {H : Hp} {Q : VK} {v x : V} {b : Bd} {i : Int} (h : RBd K H v b) (e : atI (b.l.map V.int) i = some x) (q : Q x H) : rIxT K v (.int i) H Q := by
  obtain ⟨p, rfl, h⟩ := h
  exact r_ixT h e q
structure BdOk (b : Bd) : Prop where
  S : b.S.natAbs < 2 ^ 80
  near : b.near.natAbs < 2 ^ 80
  wind : b.wind.natAbs < 2 ^ 80
  clock : b.clock.natAbs < 2 ^ 80
  fall : b.fall.natAbs < 2 ^ 80
  way : b.way.natAbs < 2 ^ 80
def rOf (b : Bd) : Int := b.near + 2 * b.wind
def lagOf (b : Bd) : Int := b.fall + 2 * b.clock
def rhoOf (b : Bd) (t : Int) : Fq := red (lagOf b) t
theorem rOf_sz {b : Bd} (h : BdOk b) : (rOf b).natAbs < 2 ^ 163 := lt_p2 (add_sz h.near (mul_lt (show (2 : Int).natAbs < 2 ^ 2 by decide) h.wind)) (by omega)
theorem lagOf_sz {b : Bd} (h : BdOk b) : (lagOf b).natAbs < 2 ^ 163 := lt_p2 (add_sz h.fall (mul_lt (show (2 : Int).natAbs < 2 ^ 2 by decide) h.clock)) (by omega)
/-! ### equality -/
class Dat {α : Type} [DecidableEq α] (r : Rep α) where
  d : α → PyData
  k : Nat
  dp : ∀ {K : PySem.W.Frag} {H : Hp} {v : V} {a : α}, r K H v a → Dp K H v (d a)
  lay : ∀ a, (d a).canLay0 = true
  dep : ∀ a, (d a).depth ≤ k
  eq : ∀ a b, PyData.eqv (d a) (d b) = decide (a = b)
instance : Dat RI where
  d := fun i => .int i
  k := 0
  dp := fun {K H v a} h => by
    have e : v = .int a := h
    rw [e]
    exact .int a
  lay := fun _ => rfl
  dep := fun _ => Nat.le_refl _
  eq := fun a b => by
    show (a == b) = decide (a = b)
    rw [Bool.eq_iff_iff, beq_iff_eq, decide_eq_true_iff]
instance {α β : Type} [DecidableEq α] [DecidableEq β] {ra : Rep α} {rb : Rep β} [A : Dat ra] [B : Dat rb] : Dat (RP ra rb) where
  d := fun c => .tuple [A.d c.1, B.d c.2]
  k := max A.k B.k + 1
  dp := fun {K H v a} ⟨p, x, y, e, h, h1, h2⟩ => by
    rw [e]
    exact .tup h (.cons (A.dp h1) (.cons (B.dp h2) .nil))
  lay := fun c => by
    show (PyData.canLay0 (A.d c.1) && (PyData.canLay0 (B.d c.2) && true)) = true
    rw [A.lay, B.lay]
    rfl
  dep := fun c => by
    show max (PyData.depth (A.d c.1)) (max (PyData.depth (B.d c.2)) 0) + 1 ≤ max A.k B.k + 1
    have := A.dep c.1
    have := B.dep c.2
    omega
  eq := fun a b => by
    show (PyData.eqv (A.d a.1) (A.d b.1) && (PyData.eqv (B.d a.2) (B.d b.2) && true)) = decide (a = b)
    rw [A.eq, B.eq, Bool.and_true, Bool.eq_iff_iff, Bool.and_eq_true, decide_eq_true_iff, decide_eq_true_iff, decide_eq_true_iff]
    exact ⟨fun h => Prod.ext h.1 h.2, fun h => by rw [h]; exact ⟨rfl, rfl⟩⟩
theorem r_eqD {K : PySem.W.Frag} {α : Type} [DecidableEq α] {r : Rep α} [A : Dat r] {H : Hp} {Q : VK} {x y : V} {a b : α} (hk : A.k ≤ 64) (h1 : r K H x a) (h2 : r K H y b) (q : Q (.bl (decide (a = b))) H) : rEqD K x y H Q := by
  refine ⟨A.d a, A.d b, A.dp h1, A.dp h2, ?_, ?_, ?_⟩
  · unfold SeqAt.shaped
    rw [A.lay, decide_eq_true (Nat.le_trans (A.dep a) hk)]
    rfl
  · unfold SeqAt.shaped
    rw [A.lay, decide_eq_true (Nat.le_trans (A.dep b) hk)]
    rfl
  · rw [A.eq]
    exact q
end Lp
set_option Elab.async false
set_option linter.all false
set_option maxRecDepth 100000
set_option maxHeartbeats 4000000
/-! a lambda with parameters, handed to a def among other arguments -/
namespace Lp
open PySem PySem.Spec PyProof.Rows L2 LamX NdefX
/-- at f stands the lambda F with the body bd -/
def LmO (f : Addr) (F : NF) (bd : Expr) : HO := .ext fun h => ∃ (pm ctv : Value),
  h.get? f = some (PySem.W.kla_obj F.name F.qual F.params bd F.scope F.cl pm F.c ctv)
theorem lmO_at {P : Program} {w : World} {H : Hp} {h : Heap} {f : Addr} {F : NF} {bd : Expr} (hok : HOk P w H h) (e : H f = some (LmO f F bd)) :
    ∃ (pm ctv : Value), h.get? f = some (PySem.W.kla_obj F.name F.qual F.params bd F.scope F.cl pm F.c ctv) := (hok f _ e).1
theorem cells_keep {cl : List (Str × Addr)} {fr : List Str} {ws : List (Option V)} {h h' : Heap} {H H' : Hp} {fs : List Addr} (C : CellsAt cl fr ws h H) (u : Un fs [] H H' h h') : CellsAt cl fr ws h' H' := by
  have kp : ∀ {c : Addr} {v : Option Value}, H c = none → h.IsCell c v → h'.IsCell c v := by
    intro c v n ⟨o, ho, hd⟩
    obtain ⟨sl, q⟩ := u.any ho n (by simp)
    exact ⟨_, q, hd⟩
  constructor
  · exact C.len
  · intro y c e
    obtain ⟨n, v, z⟩ := C.all y c e
    obtain ⟨o, ho, hd⟩ := id z
    exact ⟨u.free c o ho n (by simp), v, kp n z⟩
  · exact C.inj
  · intro i y e
    obtain ⟨c, hc, hv⟩ := C.has i y e
    refine ⟨c, hc, ?_⟩
    intro v ev
    obtain ⟨x, r, z⟩ := hv v ev
    exact ⟨x, r, kp (C.all y c hc).1 z⟩
section
variable {X : Cx} {pins : List (Addr × Obj)} {σ : L2.St} {H : Hp} {s : Shared}
theorem inv_lm {F : NF} {bd : Expr} {t' : Nat} {pm ctv : Value} (I : Inv X pins σ H s) :
    Inv X pins σ (upd H s.heap.objs.size (LmO s.heap.objs.size F bd)) { s with heap := s.heap.push (PySem.W.kla_obj F.name F.qual F.params bd F.scope F.cl pm F.c ctv), toks := t' } := by
  have e : (s.heap.push (PySem.W.kla_obj F.name F.qual F.params bd F.scope F.cl pm F.c ctv)).get? s.heap.objs.size = some (PySem.W.kla_obj F.name F.qual F.params bd F.scope F.cl pm F.c ctv) := Heap.get?_push_size _ rfl
  refine I.laid (fun b u q => Heap.get?_push_of_some _ q) (Nat.le_refl _) ?_
  refine ⟨⟨pm, ctv, e⟩, ⟨_, e⟩, ?_⟩
  intro h1 h2 ⟨p, t, z⟩ st
  exact ⟨p, t, st _ z⟩
abbrev lamF (X : Cx) (params : Arguments) (scope : Scope) (c' : Addr) : NF := ⟨"<lambda>", X.env.qual ++ "<lambda>", params, [], scope, cloFrom X.env.cells scope.names [], c'⟩
/-- it is made: its code object is new, or found in the table at P -/
theorem lm_make {c P : Addr} {params : Arguments} {bd : Expr} {scope : Scope} {pos : Pos} {E : Value → Shared → Prop} {Q : Value → Shared → Prop} (I : Inv X pins σ H s) (TB : TabB X.base X.mg c P) (hcode : X.env.code = .ref c)
    (hT : TabS H P (X.env.qual ++ "<lambda>")) (hdef : defaultsOf params X.env = ([], [])) (hfree : ∀ y ∈ scope.names, y.2 = .free → ∃ c, X.env.cells.lookup y.1 = some c)
    (q : ∀ (f c' : Addr) (H1 : Hp) (s' : Shared), Inv X pins σ H1 s' → ExtN H H1 → TabS H1 P (X.env.qual ++ "<lambda>") →
      H1 f = some (LmO f (lamF X params scope c') bd) → H1 c' = some (CodeO c' (X.env.qual ++ "<lambda>")) → Q (.ref f) s') :
    wpAny (model X.prog X.w) X.A (eval (.Lambda params bd scope pos) X.env) Q E s := by
  obtain ⟨ps, hP, ht, ha⟩ := hT
  refine PySem.W.kla_eval hdef ?_
  have gl := I.mod.glob.keeps I.bk
  have hP' := I.hok P _ hP
  cases hc : codeAmong pos ps.toList with
  | some cv =>
    obtain ⟨c', e, hco⟩ := ha pos cv hc
    subst e
    refine PySem.W.kla_makeFunctionHit (mg := X.mg) (c := c) (P := P) (ps := ps) (closure_ok hfree) I.ok.glob gl hcode (TB.code.keeps I.bk) hP' ht hc (TB.bm.keeps I.bk) ?_
    intro ctv h' tk hx hsz
    have I1 : Inv X pins σ H { s with heap := h', toks := tk } := I.kept hx
    have nF := I1.hok.fresh (Nat.le_refl _)
    have I2 := inv_lm (F := lamF X params scope c') (bd := bd) (t' := tk) (pm := (X.mg "__name__").getD .none) (ctv := ctv) I1
    have ex : ∀ b o, H b = some o → (upd H h'.objs.size (LmO h'.objs.size (lamF X params scope c') bd)) b = some o := by
      intro b o e
      exact (upd_ne (ne_of_none e nF)).trans e
    exact q h'.objs.size c' _ _ I2 (ExtN.of ex) (TabS.ext ⟨ps, hP, ht, ha⟩ ex) upd_same (ex _ _ hco)
  | none =>
    refine PySem.W.kla_makeFunction (mg := X.mg) (c := c) (P := P) (ps := ps) (closure_ok hfree) I.ok.glob gl hcode (TB.code.keeps I.bk) hP' ht hc TB.gP (TB.bm.keeps I.bk) ?_
    intro c' ctv h' tk hx hge hlt hrec htb
    obtain ⟨c2, oc, vs, t, e2, hoc, hd, hv⟩ := hrec
    cases e2
    have nC : H c' = none := I.hok.fresh hge
    have I1 := inv_table (t' := tk) (more := #[rawInt pos.line, rawInt pos.col, .ref c']) (h' := h') I hP hx htb hge ⟨oc, vs, t, hoc, hd, hv⟩
    have hE : ExtN H (upd (upd H P (.tbl (ps ++ #[rawInt pos.line, rawInt pos.col, .ref c']))) c' (CodeO c' (X.env.qual ++ "<lambda>"))) := by
      intro b o e n
      have nb : b ≠ P := by
        intro z
        subst z
        rw [hP] at e
        exact n ps (Option.some.inj e).symm
      exact (upd_ne (ne_of_none e nC)).trans ((upd_ne nb).trans e)
    have eL : (ps ++ #[rawInt pos.line, rawInt pos.col, .ref c']).toList = ps.toList ++ [rawInt pos.line, rawInt pos.col, .ref c'] := by simp
    have T1 : TabS (upd (upd H P (.tbl (ps ++ #[rawInt pos.line, rawInt pos.col, .ref c']))) c' (CodeO c' (X.env.qual ++ "<lambda>"))) P (X.env.qual ++ "<lambda>") := by
      refine ⟨_, (upd_ne (ne_of_none hP nC)).trans upd_same, by rw [eL]; exact PySem.TriplesOk_snoc _ _ _ _ ht, ?_⟩
      intro p' cv hcv
      rw [eL] at hcv
      rcases among_app _ ht hcv with z | z
      · obtain ⟨c0, e1, e2⟩ := ha p' cv z
        exact ⟨c0, e1, hE _ _ e2 codeO_ne⟩
      · exact ⟨c', z, upd_same⟩
    have nF := I1.hok.fresh (Nat.le_refl _)
    have I2 := inv_lm (F := lamF X params scope c') (bd := bd) (t' := tk) (pm := (X.mg "__name__").getD .none) (ctv := ctv) I1
    refine q h'.objs.size c' _ _ I2 ?_ (T1.ext ?_) upd_same ((upd_ne (Nat.ne_of_lt hlt)).trans upd_same)
    · intro b o e n
      have e1 := hE b o e n
      exact (upd_ne (ne_of_none e1 nF)).trans e1
    · intro b o e
      exact (upd_ne (ne_of_none e nF)).trans e
end
/-- what the lambda F at f promises: sp of what its cells hold, and of its arguments -/
structure LOk (P : Program) (w : World) (K : PySem.W.Frag) (mg : Str → Option Value) (base : Heap) (k : Nat) (f : Addr) (F : NF) (bd : Expr) (ps fr : List Str) (sp : List (Option V) → Sp) : Prop where
  run : ∀ (A : Around) (outer : List Env) (s : Shared) (H : Hp) (us : List Value) (vs : List V) (ws : List (Option V)) (Q : VK), Room k A → Env0 P w K mg base A outer s H → H f = some (LmO f F bd) → H F.c = some (CodeO F.c F.qual) →
    CellsAt F.cl fr ws s.heap H → Vals vs us → sp ws vs H Q E0 → codeAny (model P w) A (.call (.ref f) ⟨us, []⟩) (CR CX0 outer P w H s Q E0) s
section
variable {P : Program} {w : World} {K : PySem.W.Frag} {mg : Str → Option Value} {base : Heap} {N ps fr : List Str} {F : NF} {bd : Expr} {f : Addr} {k : Nat} {sp : List (Option V) → Sp}
theorem lok_of (S : NScope N ps fr F.scope) (hb : ∀ (pm ctv : Value) (us : List Value), us.length = ps.length → bindArgs (PySem.W.kla_fn F.name F.qual F.params bd F.scope F.cl pm (.ref F.c) ctv) ⟨us, []⟩ = pure (ps.zip us))
    (len : ∀ ws vs H Q E, sp ws vs H Q E → vs.length = ps.length)
    (body : ∀ (A : Around) (outer : List Env) (s : Shared) (H : Hp) (vs : List V) (ws : List (Option V)) (Q : VK), Room k (A.deeper (envF F f s.heap.objs.size)) → ws.length = fr.length → sp ws vs H Q E0 →
      ∃ t, PE (ncx CX0 P w K mg base N F f A outer s H E0).nox bd t ∧ t (startF N vs ws) H Q) : LOk P w K mg base (k + 1) f F bd ps fr sp := by
  refine ⟨?_⟩
  intro A outer s H us vs ws Q hr e0 hf hc C r hsp
  have hl := len _ _ _ _ _ hsp
  have lim : s.heap.NoLimit := e0.mod.nolimit.keeps fun b o e => (e0.bs b o e).1
  obtain ⟨pm, ctv, ho⟩ := lmO_at e0.hok hf
  refine PySem.W.kla_callFunE hr.depth ho rfl S.co S.gen rfl (codeO_at e0.hok hc) ?_
  rw [hb pm ctv us (r.length.symm.trans hl)]
  refine wpAny_pure (wpAny_newFunctionEnv S.nocell ?_ ?_ S.kind)
  · intro y hy
    exact S.par y.1 (List.of_mem_zip (show (y.1, y.2) ∈ ps.zip us from hy)).1
  · intro h₁ hns hsb
    refine ⟨lim.fresh _ hsb, ?_⟩
    show codeAny _ _ (.expr bd (envF F f s.heap.objs.size)) _ _
    have kp : ∀ b o, s.heap.get? b = some o → h₁.get? b = some o := by
      intro b o e
      exact hsb.extBut b o (Nat.ne_of_lt (Heap.lt_size e)) (Heap.get?_push_of_some _ e)
    obtain ⟨t, ht, hq⟩ := body A outer s H vs ws Q (hr.deeper _) C.len hsp
    have I : Inv (ncx CX0 P w K mg base N F f A outer s H E0) [] (startF N vs ws) H { s with heap := h₁, toks := s.toks + (ps.zip us).length } := inv_startN S hr.hd e0 hl r C hns kp
    refine PySem.W.kla_codeExpr (wpAny_mono (ht.nox.run [] _ _ H Q I hq) ?_ ?_)
    · intro v s' hv
      obtain ⟨w', H', J, rv, q⟩ := hv
      exact ⟨w', H', J.os, J.bare, J.base, J.hok, rv, q⟩
    · intro e s' h
      exact h
end
/-- x(e, ..) where the slot i holds the lambda -/
def tLcall (i : Nat) (f : Addr) (F : NF) (bd : Expr) (ws : List (Option V)) (sp : List (Option V) → Sp) (t : TA) : TE := fun σ H Q =>
  σ[i]? = some (some (.ref f)) ∧ H f = some (LmO f F bd) ∧ t σ H fun vs H1 => H1 f = some (LmO f F bd) ∧ H1 F.c = some (CodeO F.c F.qual) ∧ sp ws vs H1 Q E0
section
variable {X : Cx} {ps fr : List Str} {F : NF} {bd : Expr} {f : Addr} {i j k : Nat} {x : Str} {ws : List (Option V)} {sp : List (Option V) → Sp} {t : TA} {e : Expr} {es : List Expr} {p pos : Pos}
theorem fnAt_lm {pins : List (Addr × Obj)} {σ : L2.St} {H : Hp} {s : Shared} (I : Inv X pins σ H s) (h : H f = some (LmO f F bd)) : PySem.W.FnAt f s.heap := by
  obtain ⟨pm, ctv, ho⟩ := lmO_at I.hok h
  exact ⟨_, _, _, _, ho⟩
theorem pe_lcall (Fn : LOk X.prog X.w X.K X.mg X.base k f F bd ps fr sp) (C : CellsAt F.cl fr ws X.s_0.heap X.H_0) (hx0 : X.ex = []) (hr : Room j X.A) (hk : k ≤ j) (hN : X.N[i]? = some x) (hv : Vis X.env.scope x) (ha : PA X (e :: es) t)
    (hd : (x == ("__debug__" : Str)) = false := by decide) (hcd : (x == ("__classdict__" : Str)) = false := by decide)
    (he : starEach (e :: es) X.env = (false, eval e X.env) :: starEach es X.env := by rfl) (hpl : (backTo pos (starEach es X.env)).any (·.1) = false := by rfl) :
    PE X (.Call (.Name x p) (e :: es) [] pos) (tLcall i f F bd ws sp t) := by
  refine ⟨?_⟩
  intro pins s σ H Q I h
  obtain ⟨hs, hf, ht⟩ := h
  refine wpAny_Call_Name_kw (thn ((pe_var (pos := p) hN hv hd hcd).run pins s σ H (fun v H1 => v = .ref f ∧ H1 = H) I ⟨.ref f, hs, rfl, rfl⟩) ?_)
  rintro u s1 ⟨v, H1, I1, r1, rfl, rfl⟩
  obtain rfl : u = Value.ref f := r1
  refine PySem.W.callWith_F (first := []) (fnAt_lm I1 hf) (thn (ha.run pos pins s1 σ H1 _ I1 ht) ?_) he hpl
  rintro us s2 ⟨vs, H2, I2, r, h1, h2, q⟩
  refine ⟨fnAt_lm I2 h1, ?_⟩
  show wpAny _ _ (call (.ref f) us) _ _ _
  have un := I2.base
  rw [hx0] at un
  refine wpAny_call (codeAny_mono (Fn.run X.A X.stack s2 H2 us vs ws Q (hr.mono hk) I2.env0 h1 h2 (cells_keep C un) r q) ?_)
  intro r s' hq
  cases r with
  | error e => exact False.elim hq
  | ok fl =>
    cases fl with
    | ret u => exact I2.after hq
    | next => exact False.elim hq
    | brk => exact False.elim hq
    | cont => exact False.elim hq
end
/-- x(lambda .., e2) -/
def tLam2 (P : Addr) (mk : Addr → NF) (bd : Expr) (js : List Nat) (te : TE) (TT : List (Option V) → V → Hp → VK → Prop) : TE := fun σ H Q => TabS H P (mk 0).qual ∧
  ∀ (f c' : Addr) (H1 : Hp), ExtN H H1 → TabS H1 P (mk 0).qual → H1 f = some (LmO f (mk c') bd) → H1 c' = some (CodeO c' (mk 0).qual) → te σ H1 fun v H2 =>
    H2 f = some (LmO f (mk c') bd) ∧ H2 c' = some (CodeO c' (mk 0).qual) ∧ TT (js.map (slotAt σ)) v H2 Q
section
variable {X : Cx}
theorem pe_lam2 {x a b : Str} {g c P : Addr} {k : Nat} {pg : Arguments} {bg : List Stmt} {sg : Scope} {kV doc pm cdv ct oc : Value} {an od : Option Addr} {osl : Array (Option Value)} {Ng fr : List Str} {js : List Nat}
    {params : Arguments} {bd e2 : Expr} {scope : Scope} {te : TE} {TT : List (Option V) → V → Hp → VK → Prop} {p lpos pos : Pos} (hm : X.mg x = some (.ref g)) (hk : PySem.W.keepIn X.K (.ref g) = true)
    (lk : X.K.lookup g = some ⟨oc, od, .func (PySem.W.fnOf x x pg bg sg .none kV doc pm an cdv ct), osl⟩) (hcg : PySem.W.codeIn X.K cdv x = true) (hb : L2.Binds X.K (PySem.W.fnOf x x pg bg sg .none kV doc pm an cdv ct) [a, b] []) (Sg : FnScope Ng [a, b] sg)
    (TB : TabB X.base X.mg c P) (hcode : X.env.code = .ref c) (hr : Room (k + 1) X.A) (hdef : defaultsOf params X.env = ([], []))
    (hfree : ∀ y ∈ scope.names, y.2 = .free → X.env.scope.names.lookup y.1 = some .cell ∨ X.env.scope.names.lookup y.1 = some .free) (hfr : ∀ y ∈ fr, (y, NameKind.free) ∈ scope.names) (hjs : js.map (fun j => X.N[j]?) = fr.map some)
    (he2 : PE X e2 te)
    (hG : ∀ (f c' : Addr) (s : Shared) (H : Hp) (v : V) (ws : List (Option V)) (Q : VK), Room k (X.A.deeper (envOfC x sg s.heap.objs.size g cdv)) → CellsAt (cloFrom X.env.cells scope.names []) fr ws s.heap H →
      H f = some (LmO f (lamF X params scope c') bd) → H c' = some (CodeO c' (X.env.qual ++ "<lambda>")) → TT ws v H Q →
      ∃ t, PSs (cxOf CX0 X.prog X.w X.K X.mg X.base Ng x sg g cdv X.A X.stack s H E0).nox bg t ∧ t { nx := fun _ H' => Q .non H', rt := Q } (L2.start Ng [.ref f, v]) H)
    (hg : Gl X x := by rfl) (hdb : (x == ("__debug__" : Str)) = false := by decide)
    (he : starEach [.Lambda params bd scope lpos, e2] X.env = (false, eval (.Lambda params bd scope lpos) X.env) :: starEach [e2] X.env := by rfl) (hs2 : starEach [e2] X.env = (false, eval e2 X.env) :: starEach [] X.env := by rfl)
    (hpl : (backTo pos (starEach [e2] X.env)).any (·.1) = false := by rfl) :
    PE X (.Call (.Name x p) [.Lambda params bd scope lpos, e2] [] pos) (tLam2 P (lamF X params scope) bd js te TT) := by
  refine ⟨?_⟩
  intro pins s σ H Q I h
  obtain ⟨hT, h⟩ := h
  have has : ∀ y ∈ scope.names, y.2 = .free → ∃ c, X.env.cells.lookup y.1 = some c := fun y hy e => (hfree y hy e).elim (fun z => I.ok.has _ (.inl z)) fun z => I.ok.has _ (.inr z)
  refine wpAny_Call_Name_kw (ld_glob I hg hm ?_ hdb)
  refine PySem.W.callWith_K (h₀ := X.base) I.ok.mod.kin hk ?_ he hpl
  show wpAny _ _ (spliced ((false, eval (.Lambda params bd scope lpos) X.env) :: backTo pos (starEach [e2] X.env))) _ _ s
  refine Calls.spliced_cons (lm_make I TB hcode hT hdef has ?_)
  intro f c' H1 s' I1 eN T1 hf hco
  refine thn ((pa_cons he2 pa_nil hs2).run pos pins s' σ H1 (fun vs H2 => match vs with
    | [v] => H2 f = some (LmO f (lamF X params scope c') bd) ∧ H2 c' = some (CodeO c' (X.env.qual ++ "<lambda>")) ∧ TT (js.map (slotAt σ)) v H2 Q
    | _ => False) I1 (h f c' H1 eN T1 hf hco)) ?_
  rintro us s2 ⟨vs, H2, I2, r, hq⟩
  refine ⟨I2.kIn, ?_⟩
  match vs, r, hq with
  | [v], r, hq =>
    obtain ⟨h1, h2, h3⟩ := hq
    obtain ⟨u, rfl, ru⟩ := vals1 r
    have cl : CellsAt (cloFrom X.env.cells scope.names []) fr (js.map (slotAt σ)) s2.heap H2 := cells_of I2 (Caps.made I2.ok hfree hfr hjs)
    have rc : codeAny (model X.prog X.w) X.A (.call (.ref g) ⟨[.ref f, u], []⟩) (CR CX0 X.stack X.prog X.w H2 s2 Q E0) s2 := by
      refine run_ofS (N := Ng) (ps := [a, b]) (us := [.ref f, u]) (vs := [.ref f, v]) lk hcg Sg hr I2.env0 (hb s2 [.ref f, u] I2.kIn rfl) (.cons rfl (.cons ru .nil)) rfl ?_
      intro hr'
      obtain ⟨t', ht', hq'⟩ := hG f c' s2 H2 v _ Q hr' cl h1 h2 h3
      exact ⟨t', ht'.nox, hq'⟩
    refine wpAny_call (codeAny_mono rc ?_)
    intro r s3 hq
    cases r with
    | error e => exact False.elim hq
    | ok fl =>
      cases fl with
      | ret u => exact I2.after hq
      | next => exact False.elim hq
      | brk => exact False.elim hq
      | cont => exact False.elim hq
  | [], _, hq => exact hq.elim
  | _ :: _ :: _, _, hq => exact hq.elim
end
end Lp
set_option Elab.async false
set_option linter.all false
set_option maxHeartbeats 4000000
/-! the drawn bounds; the worst couple is found in time -/
namespace Lp
open PySem
/-- what the law draws -/
structure Drawn (b : Bd) : Prop where
  S1 : 1 ≤ b.S
  S2 : b.S ≤ 100
  near1 : 1 ≤ b.near
  near2 : b.near ≤ 100
  wind1 : 0 ≤ b.wind
  wind2 : b.wind ≤ 100
  clock1 : 0 ≤ b.clock
  clock2 : b.clock ≤ 5
  fall1 : 0 ≤ b.fall
  fall2 : b.fall ≤ 20
  way1 : b.S ≤ b.way
  way2 : b.way ≤ 600
structure DrawnT (b : Bd) (T : Int) : Prop where
  dr : Drawn b
  T1 : 1 ≤ T
  T2 : lagOf b ≤ T
  T3 : T ≤ 330
/-- bounds multiplied -/
def Bd.times (m : Int) (b : Bd) : Bd := ⟨m * b.S, m * b.near, m * b.wind, b.clock, b.fall, m * b.way, b.sil, b.cuts, b.deep⟩
theorem times_r (m : Int) (b : Bd) : rOf (b.times m) = m * rOf b := by unfold rOf Bd.times; dsimp only; grind
theorem times_lag (m : Int) (b : Bd) : lagOf (b.times m) = lagOf b := rfl
theorem times_rho (m : Int) (b : Bd) (t : Int) : rhoOf (b.times m) t = rhoOf b t := rfl
theorem Drawn.lag {b : Bd} (h : Drawn b) : 0 ≤ lagOf b ∧ lagOf b ≤ 30 := by
  have := h.clock1; have := h.clock2; have := h.fall1; have := h.fall2
  unfold lagOf
  omega
theorem Drawn.r {b : Bd} (h : Drawn b) : 1 ≤ rOf b ∧ rOf b ≤ 300 := by
  have := h.near1; have := h.near2; have := h.wind1; have := h.wind2
  unfold rOf
  omega
theorem small_sz {x : Int} {i : Nat} (h0 : 0 ≤ x) (h : x < 1024) (hi : 10 ≤ i) : x.natAbs < 2 ^ i := by
  have e : (2 : Nat) ^ 10 = 1024 := by decide
  exact lt_p2 (i := 10) (by omega) hi
theorem Drawn.ok {b : Bd} (h : Drawn b) : BdOk b := by
  have := h.S1; have := h.S2; have := h.way1; have := h.way2
  have := h.clock1; have := h.clock2; have := h.fall1; have := h.fall2
  have := h.near1; have := h.near2; have := h.wind1; have := h.wind2
  constructor <;> exact small_sz (by omega) (by omega) (by omega)
theorem times_ok {b : Bd} {m : Int} {i : Nat} (h : Drawn b) (hm : m.natAbs < 2 ^ i) (hi : i + 10 ≤ 80) : BdOk (b.times m) := by
  have := h.S1; have := h.S2; have := h.way1; have := h.way2
  have := h.clock1; have := h.clock2; have := h.fall1; have := h.fall2
  have := h.near1; have := h.near2; have := h.wind1; have := h.wind2
  constructor
  · exact lt_p2 (mul_lt hm (small_sz (i := 10) (by omega) (by omega) (by omega))) hi
  · exact lt_p2 (mul_lt hm (small_sz (i := 10) (by omega) (by omega) (by omega))) hi
  · exact lt_p2 (mul_lt hm (small_sz (i := 10) (by omega) (by omega) (by omega))) hi
  · exact small_sz (i := 80) (by show 0 ≤ b.clock; omega) (by show b.clock < 1024; omega) (by omega)
  · exact small_sz (i := 80) (by show 0 ≤ b.fall; omega) (by show b.fall < 1024; omega) (by omega)
  · exact lt_p2 (mul_lt hm (small_sz (i := 10) (by omega) (by omega) (by omega))) hi
/-! ### rho -/
/-- RHO's numbers over LAG and ticks -/
theorem rho_nums {L T : Int} (hT : 1 ≤ T) (hL : 0 ≤ L) : ∃ g, 0 < g ∧ L = g * (red L T).1 ∧ T = g * (red L T).2 ∧ 0 ≤ (red L T).1 ∧ 0 < (red L T).2 := by
  have hne : T ≠ 0 := by omega
  obtain ⟨h1, h2⟩ := red_mul (n := L) hne
  have hp := red_pos (n := L) hne
  have hg : 0 < gk L T := by
    have e : T = (red L T).2 * gk L T := by rw [Int.mul_comm]; exact h2
    exact pos_of hp (by omega)
  exact ⟨_, hg, h1, h2, le_of_mul hg (by omega), hp⟩
theorem enough_times {b : Bd} {m T : Int} (h : Drawn b) (hm : 1 ≤ m) (hT : 1 ≤ T) : ineq ((b.times m).S * (b.times m).S * (rhoOf (b.times m) T).2 * (rhoOf (b.times m) T).2) (2 * rOf (b.times m) * rOf (b.times m) * (rhoOf (b.times m) T).2 * (rhoOf (b.times m) T).2)
    ((rhoOf (b.times m) T).1 * (rhoOf (b.times m) T).1 * (2 * (b.times m).way * (b.times m).way - (b.times m).S * (b.times m).S)) = enough b.S (rOf b) b.way (lagOf b) T := by
  obtain ⟨g, hg, e1, e2, n1, n2⟩ := rho_nums hT h.lag.1
  rw [times_r, times_rho]
  exact enough_prog (by have := h.S1; omega) (by have := h.r.1; omega) h.way1 hg (by omega) e1 e2
theorem rho_ok {b : Bd} {T : Int} (h : DrawnT b T) : Rho (rhoOf b T) := by
  obtain ⟨g, hg, e1, e2, n1, n2⟩ := rho_nums h.T1 h.dr.lag.1
  have ok : Ok (rhoOf b T) := red_ok (by have := h.T1; omega)
  have le : (rhoOf b T).1 ≤ (rhoOf b T).2 := by
    have h2 := h.T2
    have h3 : 0 ≤ g * ((red (lagOf b) T).2 - (red (lagOf b) T).1) := by
      rw [Int.mul_sub]
      omega
    have := le_of_mul hg h3
    unfold rhoOf
    omega
  have sz := red_le (n := lagOf b) (d := T) (by have := h.T1; omega)
  have hl := h.dr.lag
  have t1 := h.T1
  have t3 := h.T3
  have p10 : (2 : Nat) ^ 10 = 1024 := by decide
  refine ⟨⟨ok, ?_, ?_⟩, ⟨?_, ?_⟩⟩
  · have := (cmp_ge ok (ok_int 0)).mp (by
      unfold cmp
      dsimp only
      have : 0 ≤ (rhoOf b T).1 := n1
      rw [Int.mul_one, Int.zero_mul]
      split <;> split <;> omega)
    rwa [val_zero'] at this
  · have := (cmp_le ok (ok_int 1)).mp (by
      unfold cmp
      dsimp only
      rw [Int.mul_one, Int.one_mul]
      split <;> split <;> omega)
    rwa [val_one'] at this
  · have := sz.1
    show (red (lagOf b) T).1.natAbs < 2 ^ 10
    omega
  · have := sz.2
    show (red (lagOf b) T).2.natAbs < 2 ^ 10
    omega
/-! ### the couple tried -/
def halfOf (b : Bd) (m : Int) : Int := m * b.S / 2
def backOf (b : Bd) (m : Int) : Int := ((Float64.isqrt ((m * b.way * (m * b.way) - 2 * halfOf b m * halfOf b m) / 2).toNat : Nat) : Int)
/-- even multipliers -/
structure Even (m : Int) : Prop where
  e : m % 2 = 0
  m1 : 1 ≤ m
  m2 : m ≤ 9007199254740992
theorem rat_nlt {x y : Rat} (h : ¬ x < y) : y ≤ x := Rat.not_lt.mp h
theorem rat_ge {v d n h bk : Rat} (e : v * d = n) (hh : v * bk ≤ h) (hd : 0 ≤ d) : n * bk ≤ h * d := by
  have h7 := Rat.mul_nonneg (show 0 ≤ h - v * bk by grind) hd
  rw [← e]
  grind
theorem rat_out {v d n h bk : Rat} (e : v * d = n) : h * d - n * bk = (h - v * bk) * d := by
  rw [← e]
  grind
theorem rat_end {s z d m r : Rat} (h1 : s ≤ 2 * (z * z)) (k : 2 * (z * d) * (2 * (z * d)) < m * m * (2 * r * r * d * d)) (d2 : 0 < d * d) : s < m * m * r * r := by
  have fin : 2 * (z * z) < m * m * r * r := by
    by_cases hlt : 2 * (z * z) < m * m * r * r
    · exact hlt
    · exfalso
      have h3 := Rat.mul_nonneg (show 0 ≤ 2 * (z * z) - m * m * r * r by grind) (Rat.le_of_lt d2)
      grind
  grind
section
variable {b : Bd} {m : Int} (hd : Drawn b) (hm : Even m)
include hd hm
theorem half_two : m * b.S = 2 * halfOf b m := by
  have h : m * b.S % 2 = 0 := by
    rw [Int.mul_emod, hm.e]
    simp
  unfold halfOf
  omega
theorem half_pos : 0 < halfOf b m := by
  have h1 := half_two hd hm
  have h2 := Int.mul_pos (show 0 < m by have := hm.m1; omega) (show 0 < b.S by have := hd.S1; omega)
  omega
theorem back_spec : 0 ≤ (m * b.way * (m * b.way) - 2 * halfOf b m * halfOf b m) / 2 ∧ 0 ≤ backOf b m ∧ 2 * (backOf b m * backOf b m) ≤ m * b.way * (m * b.way) - 2 * (halfOf b m * halfOf b m) ∧
    m * m * (2 * b.way * b.way - b.S * b.S) ≤ 4 * ((backOf b m + 1) * (backOf b m + 1)) := by
  have h2 := half_two hd hm
  have e1 : 4 * (halfOf b m * halfOf b m) = m * m * (b.S * b.S) := by
    have : m * m * (b.S * b.S) = m * b.S * (m * b.S) := by grind
    rw [this, h2]
    grind
  have e2 : 2 * halfOf b m * halfOf b m = 2 * (halfOf b m * halfOf b m) := by grind
  have e3 : m * b.way * (m * b.way) = m * m * (b.way * b.way) := by grind
  have sw : b.S * b.S ≤ b.way * b.way := Int.mul_le_mul hd.way1 hd.way1 (by have := hd.S1; omega) (by have := hd.S1; have := hd.way1; omega)
  have mm := sq_nn m
  have s1 : m * m * (b.S * b.S) ≤ m * m * (b.way * b.way) := Int.mul_le_mul_of_nonneg_left sw mm
  have s0 : 0 ≤ m * m * (b.S * b.S) := Int.mul_nonneg mm (sq_nn b.S)
  have hq : 0 ≤ (m * b.way * (m * b.way) - 2 * halfOf b m * halfOf b m) / 2 := by
    rw [e2, e3]
    omega
  obtain ⟨r1, r2⟩ := Float64.isqrt_spec ((m * b.way * (m * b.way) - 2 * halfOf b m * halfOf b m) / 2).toNat
  have c1 : ((backOf b m * backOf b m : Int)) ≤ (m * b.way * (m * b.way) - 2 * halfOf b m * halfOf b m) / 2 := by
    unfold backOf
    rw [← Int.natCast_mul]
    omega
  have c2 : (m * b.way * (m * b.way) - 2 * halfOf b m * halfOf b m) / 2 < (backOf b m + 1) * (backOf b m + 1) := by
    have e : (backOf b m + 1) * (backOf b m + 1) = (((Float64.isqrt ((m * b.way * (m * b.way) - 2 * halfOf b m * halfOf b m) / 2).toNat + 1) * (Float64.isqrt ((m * b.way * (m * b.way) - 2 * halfOf b m * halfOf b m) / 2).toNat + 1) : Nat) : Int) := by
      unfold backOf
      rw [Int.natCast_mul, Int.natCast_add]
      rfl
    rw [e]
    omega
  refine ⟨hq, Int.natCast_nonneg _, ?_, ?_⟩
  · rw [e2] at c1
    omega
  · rw [e2] at c2
    have e4 : m * m * (2 * b.way * b.way - b.S * b.S) = 2 * (m * m * (b.way * b.way)) - m * m * (b.S * b.S) := by grind
    rw [e4]
    rw [e3] at c2
    omega
theorem m_sz : m.natAbs < 2 ^ 54 := by
  have := hm.m1
  have := hm.m2
  have e : (2 : Nat) ^ 54 = 18014398509481984 := by decide
  omega
theorem back_lt : backOf b m < 2 ^ 64 ∧ halfOf b m < 2 ^ 63 := by
  obtain ⟨h1, h2, h3, _⟩ := back_spec hd hm
  have hp := half_pos hd hm
  have t2 := half_two hd hm
  have w1 : m * b.way ≤ 9007199254740992 * 600 := Int.mul_le_mul hm.m2 hd.way2 (by have := hd.S1; have := hd.way1; omega) (by omega)
  have s1 : m * b.S ≤ 9007199254740992 * 100 := Int.mul_le_mul hm.m2 hd.S2 (by have := hd.S1; omega) (by omega)
  have w0 : 0 ≤ m * b.way := Int.mul_nonneg (by have := hm.m1; omega) (by have := hd.S1; have := hd.way1; omega)
  have w2 := sq_mono w0 w1
  have hh := sq_nn (halfOf b m)
  have e63 : (2 : Int) ^ 63 = 9223372036854775808 := by decide
  have e64 : (2 : Int) ^ 64 = 18446744073709551616 := by decide
  refine ⟨?_, by omega⟩
  by_cases hb : backOf b m < 2 ^ 64
  · exact hb
  · exfalso
    have := sq_mono (x := 2 ^ 64) (y := backOf b m) (by omega) (by omega)
    rw [e64] at this
    omega
theorem legs_ok : LegOk (legA (halfOf b m) (backOf b m)) ∧ LegOk (legB (halfOf b m) (backOf b m)) := by
  obtain ⟨h1, h2⟩ := back_lt hd hm
  obtain ⟨_, h3, _⟩ := back_spec hd hm
  have h4 := half_pos hd hm
  have e63 : (2 : Int) ^ 63 = 9223372036854775808 := by decide
  have e64 : (2 : Int) ^ 64 = 18446744073709551616 := by decide
  have e66 : (2 : Nat) ^ 66 = 73786976294838206464 := by decide
  unfold legA legB
  refine ⟨⟨?_, ?_, ?_, ?_⟩, ⟨?_, ?_, ?_, ?_⟩⟩ <;> (dsimp only; omega)
/-- with a great multiplier the couple comes too near -/
theorem tried_near {T : Int} (ht : DrawnT b T) (hno : ineq (b.S * b.S * (rhoOf b T).2 * (rhoOf b T).2) (2 * rOf b * rOf b * (rhoOf b T).2 * (rhoOf b T).2) ((rhoOf b T).1 * (rhoOf b T).1 * (2 * b.way * b.way - b.S * b.S)) = false)
    (hbig : 9007199254740992 ≤ m) : cmp (nearest (legA (halfOf b m) (backOf b m)) (legB (halfOf b m) (backOf b m)) (rhoOf b T)).1 (m * m * rOf b * rOf b, 1) < 0 := by
  obtain ⟨la, lb⟩ := legs_ok hd hm
  have hr := rho_ok ht
  obtain ⟨_, ⟨cc, _, kc, ec⟩, hmin⟩ := nearest_spec la lb hr
  have okn : Ok (nearest (legA (halfOf b m) (backOf b m)) (legB (halfOf b m) (backOf b m)) (rhoOf b T)).1 := by
    rw [ec]
    exact (cand_tri la lb kc).a.ok
  rw [cmp_neg okn (ok_int _), val_int]
  have hp := half_pos hd hm
  have two := half_two hd hm
  obtain ⟨_, b0, _, b4⟩ := back_spec hd hm
  obtain ⟨g, hg, e1, e2, n1, n2⟩ := rho_nums ht.T1 hd.lag.1
  have hR := hd.r
  have hm1 := hm.m1
  have R2 : 0 < m * m * rOf b * rOf b := Int.mul_pos (Int.mul_pos (Int.mul_pos (by omega) (by omega)) (by omega)) (by omega)
  by_cases hcase : (halfOf b m : Rat) < val (rhoOf b T) * (backOf b m : Rat)
  · obtain ⟨c, hc, hv⟩ := met_val la lb hr hp hcase
    have := hmin c (List.mem_append_right _ hc)
    rw [hv] at this
    have h2 : ((0 : Int) : Rat) < ((m * m * rOf b * rOf b : Int) : Rat) := Rat.intCast_lt_intCast.mpr R2
    have h3 : ((0 : Int) : Rat) = 0 := rfl
    rw [h3] at h2
    grind
  · have hs := side2_val la lb hr hp
    have hmem : onSide (legA (halfOf b m) (backOf b m)) (legB (halfOf b m) (backOf b m)) ((0, 1), rhoOf b T) (rest (rhoOf b T), (1, 1)) ∈ cands (legA (halfOf b m) (backOf b m)) (legB (halfOf b m) (backOf b m)) (rhoOf b T) := by
      refine List.mem_append_left _ (List.mem_append_right _ ?_)
      simp [sides, ring, far]
    have h1 := hmin _ hmem
    rw [hs] at h1
    -- in integers
    have n1' : 0 ≤ (rhoOf b T).1 := n1
    have n2' : 0 < (rhoOf b T).2 := n2
    have dR : (0 : Rat) < ((rhoOf b T).2 : Rat) := by simpa using Rat.intCast_lt_intCast.mpr n2'
    have dne : ((rhoOf b T).2 : Rat) ≠ 0 := cast_ne (by omega)
    have vr : val (rhoOf b T) * ((rhoOf b T).2 : Rat) = ((rhoOf b T).1 : Rat) := by
      unfold val
      grind
    have nle : (rhoOf b T).1 ≤ 30 := by
      have h1 := red_le (n := lagOf b) (d := T) (by have := ht.T1; omega)
      have := hd.lag
      have h2 : (rhoOf b T).1.natAbs ≤ (lagOf b).natAbs := h1.1
      omega
    have dle : (rhoOf b T).2 ≤ 330 := by
      have h1 := red_le (n := lagOf b) (d := T) (by have := ht.T1; omega)
      have := ht.T1
      have := ht.T3
      have h2 : (rhoOf b T).2.natAbs ≤ T.natAbs := h1.2
      omega
    generalize hnn : (rhoOf b T).1 = n at *
    generalize hdd : (rhoOf b T).2 = d at *
    generalize hhh : halfOf b m = h at *
    generalize hbb : backOf b m = bk at *
    have hge : 0 ≤ h * d - n * bk := by
      have h5 : (n : Rat) * (bk : Rat) ≤ (h : Rat) * (d : Rat) := by
        exact rat_ge vr (rat_nlt hcase) (Rat.le_of_lt dR)
      rw [← Rat.intCast_mul, ← Rat.intCast_mul] at h5
      have := Rat.intCast_le_intCast.mp h5
      omega
    have key := slack (M := m) (a := b.S * d) (n := n) (u := 2 * (h * d - n * bk)) (y := 2 * n * (bk + 1)) (B := 2 * rOf b * rOf b * d * d) (C := n * n * (2 * b.way * b.way - b.S * b.S)) (by omega)
      (Int.mul_nonneg (by have := hd.S1; omega) (by omega)) n1' (by omega) (Int.mul_nonneg (by omega) (by omega))
      (by
        have : 2 * rOf b * rOf b * d * d = 2 * (rOf b * rOf b) * (d * d) := by grind
        rw [this]
        exact Int.mul_nonneg (by have := sq_nn (rOf b); omega) (sq_nn d))
      (Int.mul_nonneg (sq_nn n) (reach_nn (by have := hd.S1; omega) hd.way1))
      (by
        have : m * (b.S * d) = m * b.S * d := by grind
        rw [this, two]
        grind)
      (by
        have q := Int.mul_le_mul_of_nonneg_left b4 (sq_nn n)
        have e5 : m * m * (n * n * (2 * b.way * b.way - b.S * b.S)) = n * n * (m * m * (2 * b.way * b.way - b.S * b.S)) := by grind
        have e6 : 2 * n * (bk + 1) * (2 * n * (bk + 1)) = n * n * (4 * ((bk + 1) * (bk + 1))) := by grind
        rw [e5, e6]
        exact q)
      (by
        have : b.S * d * (b.S * d) = b.S * b.S * d * d := by grind
        rw [this]
        exact hno)
      (by
        have a1 : b.S * d ≤ 100 * 330 := Int.mul_le_mul hd.S2 dle (by omega) (by omega)
        have a0 : 0 ≤ b.S * d := Int.mul_nonneg (by have := hd.S1; omega) (by omega)
        generalize b.S * d = a at a1 a0 ⊢
        have p1 : n * a ≤ 30 * 33000 := Int.mul_le_mul nle (by omega) a0 (by omega)
        have p0 : 0 ≤ n * a := Int.mul_nonneg n1' a0
        have p2 : n * n ≤ 30 * 30 := sq_mono n1' nle
        have p3 := sq_nn n
        have p4 : a * a ≤ 33000 * 33000 := sq_mono a0 (by omega)
        have p5 := sq_nn a
        have e7 : 4 * n * a = 4 * (n * a) := by grind
        have e8 : 4 * n * n = 4 * (n * n) := by grind
        rw [e7, e8]
        generalize n * a = x at *
        generalize n * n = y at *
        generalize a * a = z at *
        have k1 : 4 * x + 4 * y ≤ 3963600 := by omega
        have k0 : 0 ≤ 4 * x + 4 * y := by omega
        generalize 4 * x + 4 * y = k at *
        have q1 : 2 * z * k ≤ 2178000000 * 3963600 := Int.mul_le_mul (by omega) k1 k0 (by omega)
        have q2 : k * k ≤ 3963600 * 3963600 := sq_mono k0 k1
        omega)
    -- back to fractions
    have k3 : ((2 * (h * d - n * bk) * (2 * (h * d - n * bk)) : Int) : Rat) < ((m * m * (2 * rOf b * rOf b * d * d) : Int) : Rat) := Rat.intCast_lt_intCast.mpr key
    simp only [Rat.intCast_mul, Rat.intCast_sub] at k3 ⊢
    have c2 : ((2 : Int) : Rat) = 2 := rfl
    rw [c2] at k3
    have h8 := rat_out (h := (h : Rat)) (bk := (bk : Rat)) vr
    rw [h8] at k3
    generalize (h : Rat) - val (rhoOf b T) * (bk : Rat) = z at *
    have d2 : 0 < (d : Rat) * (d : Rat) := Rat.mul_pos dR dR
    exact rat_end h1 k3 d2
end
end Lp
set_option Elab.async false
set_option linter.all false
set_option maxRecDepth 100000
set_option maxHeartbeats 4000000
/-! enumerate(tuple) -/
namespace Lp
open PySem PySem.Spec PyProof.Rows L2
abbrev titO (l : Addr) : Obj := { cls := .type "tuple_iterator", data := .fields #[.ref l, .int 0 0] }
abbrev enuO (it : Addr) : Obj := { cls := .type "enumerate", data := .fields #[.none, .bool false, .ref it, rawInt 0, .none, .none] }
theorem enuT_meets (l : Addr) (items : Array Value) :
    Meets (Builtin.«enumerate.__new__» ⟨[.type "enumerate", .ref l], []⟩) (fun _ R s => s.heap.IsTuple l items ∧ R (.ok (.ret (.ref (s.heap.push (titO l)).objs.size))) { s with heap := (s.heap.push (titO l)).push (enuO s.heap.objs.size) }) :=
  .of_wp fun prog w A R s h => by
    obtain ⟨hp, g, d, tk, os⟩ := s
    obtain ⟨hl, h⟩ := h
    have hsub := sub_enumerate
    have hT : Heap.IsTuple (Shared.heap ⟨hp, g, d, tk, os⟩) l items := hl
    wp_walk using wpAny_pyIter_tuple hT
    refine wpAny_stack_any fun st => wpAny_pure ?_
    split
    · rename_i c _ _ _ _ _
      cases (c == Value.type "enumerate") <;> (wp_walk using wpAny_pyIter_tuple hT) <;> exact ⟨_, rfl, h⟩
    · wp_walk using wpAny_pyIter_tuple hT
      exact ⟨_, rfl, h⟩
theorem call_enuT {prog : Program} {w : World} {A : Around} {E : Value → Shared → Prop} {s : Shared} {l : Addr} {items : Array Value} {Q : Value → Shared → Prop} (hL : s.heap.IsTuple l items)
    (h : ∀ h', IsEnum h' (s.heap.objs.size + 1) s.heap.objs.size 0 .none → h'.IsTupleIter s.heap.objs.size l 0 → (∀ b o, s.heap.get? b = some o → h'.get? b = some o) → Q (.ref (s.heap.objs.size + 1)) { s with heap := h' }) :
    wpAny (model prog w) A (call (.type "enumerate") [.ref l]) Q E s := by
  refine callType_new F.called_enumerate (by decide) (F.typeCall_enumerate_1 _) (F.newCall_enumerate_1 _) (fun obj => F.args_object_init_2 obj _) F.entry_enumerate_new (enuT_meets l items) ⟨hL, ?_⟩
  have z : (s.heap.push (titO l)).objs.size = s.heap.objs.size + 1 := Heap.size_push ..
  have g := Heap.get?_push_size (s.heap.push (titO l)) (o := enuO s.heap.objs.size) rfl
  show _ ∧ _
  rw [z] at g ⊢
  exact ⟨⟨_, g, rfl⟩, h _ g ⟨_, Heap.get?_push_of_some _ (Heap.get?_push_size _ rfl), rfl, rfl⟩ fun b o x => Heap.get?_push_of_some _ (Heap.get?_push_of_some _ x)⟩
/-- the tuple at a, each item in a new pair with its count -/
def IteT (K : PySem.W.Frag) (a : Addr) : It :=
  ⟨fun i H => ∃ (xs : List V) (x : V), SqT K H a xs ∧ xs[i]? = some x, fun i H v H' => ∃ T x, v = .ref T ∧ H T = none ∧ H' = upd H T (.tup [.int (i : Nat), x]) ∧ ∀ xs, SqT K H a xs → xs[i]? = some x, fun i H => ∃ xs : List V, SqT K H a xs ∧ xs.length = i⟩
theorem enum_ne_tuple {h : Heap} {e it a : Addr} {i : Int} {old : Value} {its : Array Value} (he : IsEnum h e it i old) (ht : h.IsTuple a its) : a ≠ e := fun z => by
  obtain ⟨o, e1, e2, _⟩ := ht
  rw [z] at e1
  have he : h.get? e = _ := he
  rw [he] at e1
  have e3 := Option.some.inj e1
  rw [← e3] at e2
  have e4 : (Value.type "enumerate" : Value) = .type "tuple" := e2
  revert e4
  decide
theorem tit_ne_tuple {h : Heap} {it a l : Addr} {i : Nat} {its : Array Value} (hi : h.IsTupleIter it l i) (ht : h.IsTuple a its) : a ≠ it := fun z => by
  obtain ⟨o, e1, e2, _⟩ := ht
  obtain ⟨o', f1, f2, _⟩ := hi
  rw [z, f1] at e1
  have e3 := Option.some.inj e1
  rw [← e3, f2] at e2
  revert e2
  decide
theorem turn_enuT {P : Program} {w : World} {K : PySem.W.Frag} {elts : List Expr} {kk : Nat} {tpos : Pos} (a e it : Addr) :
    Turn P w K (.Tuple elts kk tpos) (IteT K a) [e, it] e (fun i h => (∃ old, IsEnum h e it ((i : Nat) : Int) old) ∧ h.IsTupleIter it a i ∧ e ≠ it) where
  mem := by simp
  obj := fun i h st b hb => by
    obtain ⟨⟨old, h1⟩, ⟨o, h2, _, h3⟩, _⟩ := st
    rcases (show b = e ∨ b = it by simpa using hb) with z | z <;> subst z
    · exact ⟨_, h1, fun v q => nomatch q⟩
    · exact ⟨o, h2, fun v q => by rw [h3] at q; cases q⟩
  keep := fun i h h' ⟨⟨old, h1⟩, h2, h3⟩ k => ⟨⟨old, k e (by simp) _ h1⟩, h2.at fun o q => k it (by simp) o q, h3⟩
  item := by
    intro X hP hw hK hc i pins s σ H E I hf st hg
    subst hP hw hK
    obtain ⟨⟨old, he⟩, hit, hne⟩ := st
    obtain ⟨xs, x, hq, hx⟩ := hg
    obtain ⟨its, rv, p, hz⟩ := I.tuple hq
    obtain ⟨u, hu, ru⟩ := rv.get hx
    have li : i < its.toArray.size := by
      have := (List.getElem?_eq_some_iff.mp hu).1
      simpa using this
    have hel : e < s.heap.objs.size := Heap.lt_size he
    have hil : it < s.heap.objs.size := by
      obtain ⟨_, q, _⟩ := hit
      exact Heap.lt_size q
    have D := Draws.tuple (prog := X.prog) (w := X.w) (A := X.A.in1) (I.ok.hd hc) it a (tit_ne_tuple hit p) its.toArray
    refine wpAny_pyNext_enum_itemD D he ⟨hit, p⟩ li hne (by simp [hne, Ne.symm (enum_ne_tuple he p)]) fun x' h' tk hx' ho st' hT hsz hk => ?_
    have ex : x' = u := by
      have hu' : its.toArray[i]? = some u := by simpa using hu
      rw [hx'] at hu'
      exact Option.some.inj hu'
    subst ex
    refine ⟨_, rfl, wpAny_letOwnedTupleGo_enum (s := { s with heap := h', toks := tk + 1 }) ho fun h'' he' sb => ?_⟩
    have new : ObjOk X.prog X.w (upd H s.heap.objs.size (.tup [.int (i : Nat), x])) h'' s.heap.objs.size (.tup [.int (i : Nat), x]) :=
      ⟨by show 2 ≤ sizeLine; decide, [.int i tk, x'], .cons ⟨_, rfl⟩ (.cons ru .nil), ⟨_, (sb.2 _ (Nat.ne_of_gt hel)).trans hT, rfl, _, rfl⟩⟩
    have I1 : Inv X pins σ (upd H s.heap.objs.size (.tup [.int (i : Nat), x])) { s with heap := h'', toks := tk + 1 } :=
      I.turnedNew (ch := [e, it]) (fun b ob hb q => (sb.2 b (fun z => hb (by simp [z]))).trans (hk b ob (fun z => hb (by simp [z])) (fun z => hb (by simp [z])) q)) hf (Nat.le_refl _) new
    refine ⟨.ref s.heap.objs.size, _, I1, rfl, ⟨_, x, rfl, I.hok.fresh (Nat.le_refl _), rfl, fun ys hy => by rw [I.tuple_inj hy hq]; exact hx⟩, ⟨⟨x', ?_⟩, st'.1.at fun o q => (sb.2 it (Ne.symm hne)).trans q, hne⟩, fun b hb => ?_⟩
    · rw [show ((i + 1 : Nat) : Int) = (i : Int) + 1 by omega]
      exact he'
    · have hb' : b < s.heap.objs.size := by
        rcases (show b = e ∨ b = it by simpa using hb) with z | z <;> subst z <;> assumption
      rw [upd_ne (Nat.ne_of_lt hb')]
      exact (hf b hb).1
  done := by
    intro X hP hw hK hc i pins s σ H E I hf st hg
    subst hP hw hK
    obtain ⟨⟨old, he⟩, hit, hne⟩ := st
    obtain ⟨xs, hq, hx⟩ := hg
    obtain ⟨its, rv, p, hz⟩ := I.tuple hq
    have hl := rv.length
    obtain ⟨f0, f1, f2, f3, f4, f5⟩ := hf it (by simp)
    have D := Draws.tuple (prog := X.prog) (w := X.w) (A := X.A.in1) (I.ok.hd hc) it a (tit_ne_tuple hit p) its.toArray
    have ei : its.toArray.size = i := by
      rw [List.size_toArray]
      omega
    exact wpAny_pyNext_enum_endD D he ⟨by rw [ei]; exact hit, p⟩ fun h' eb => ⟨rfl, I.turned (t' := s.toks) (fun b o hb q => eb b o hb q) f0 f1 f3 f4 f5⟩
  self := fun A i s Q E ⟨⟨_, he⟩, _⟩ h => wpAny_pyIter_enum he h
theorem walk_enuT {K : PySem.W.Frag} {a : Addr} {xs : List V} : Walk (IteT K a) xs.length (fun H => SqT K H a xs) (YPair (fun i => some (.int (i : Nat))) (fun i => xs[i]?)) := by
  constructor
  · intro i H hi q
    exact ⟨xs, xs[i], q, by simp [hi]⟩
  · intro H q
    exact ⟨xs, q, rfl⟩
  · intro i H v H' hi q y
    obtain ⟨T, x, h1, h2, h3, h4⟩ := y
    exact ⟨T, _, x, h1, h2, h3, rfl, h4 xs q⟩
def iEnuT (K : PySem.W.Frag) (ta : TA) : TI := fun σ H R => ta σ H fun vs H1 => ∃ a xs, vs = [.ref a] ∧ SqT K H1 a xs ∧ R (IteT K a) H1
theorem pi_enuT (K : PySem.W.Frag) {X : Cx} {e : Expr} {ta : TA} {p pos tpos : Pos} {elts : List Expr} {kk : Nat} (hg : Gl X "enumerate") (hm : X.mg "enumerate" = none) (ha : PA X [e] ta) (hK : X.K = K := by rfl) (hs : starEach [e] X.env = [(false, eval e X.env)] := by rfl) :
    PI X (.Tuple elts kk tpos) (.Call (.Name "enumerate" p) [e] [] pos) (iEnuT K ta) := by
  subst hK
  refine ⟨fun pins s σ H R I h => Call_ (ld_blt I hg hm boot_enumerate (PyProof.Rows.callWith_type1 (thn (ha.run pos pins s σ H _ I h) fun us s1 ⟨vs, H1, I1, r1, a, xs, ex, hq, q⟩ => ?_) hs rfl))⟩
  subst ex
  cases r1 with
  | cons r rr =>
    cases rr
    cases r
    obtain ⟨its, rv, p', hz⟩ := I1.tuple hq
    refine call_enuT p' fun h' he hit hk => wpAny_pyIter_enum he ?_
    have I2 : Inv X pins σ H1 { s1 with heap := h' } := I1.kept (t' := s1.toks) hk
    refine ⟨s1.heap.objs.size + 1, [s1.heap.objs.size + 1, s1.heap.objs.size], _, _, H1, rfl, I2, turn_enuT a (s1.heap.objs.size + 1) s1.heap.objs.size, ⟨⟨.none, he⟩, hit, Nat.succ_ne_self _⟩, fun b hb => ?_, q⟩
    have le : s1.heap.objs.size ≤ b := by
      rcases (show b = s1.heap.objs.size + 1 ∨ b = s1.heap.objs.size by simpa using hb) with z | z <;> subst z
      · exact Nat.le_add_right _ _
      · exact Nat.le_refl _
    exact I1.fpOk le (I1.hok.fresh le)
def EnuTK (K : PySem.W.Frag) (R : It → Hp → Prop) (vs : List V) (H : Hp) : Prop := ∃ a xs, vs = [.ref a] ∧ SqT K H a xs ∧ R (IteT K a) H
theorem r_enuT {K : PySem.W.Frag} {ta : TA} {σ : L2.St} {H : Hp} {R : It → Hp → Prop} (h : ta σ H fun vs H1 => EnuTK K R vs H1) : iEnuT K ta σ H R := h
end Lp
set_option Elab.async false
set_option linter.all false
set_option maxRecDepth 100000
set_option maxHeartbeats 4000000
/-! sorted of a list of data that stands in order already -/
namespace Lp
open PySem PySem.Spec PyProof.Rows L2 PySem.W
theorem each_map {α β γ : Type} {f : α → γ} {g : β → γ} {as : List α} {bs : List β} (h : EachIs (fun a b => f a = g b) as bs) : as.map f = bs.map g := by
  induction h with
  | nil => rfl
  | cons e _ ih => rw [List.map_cons, List.map_cons, e, ih]
theorem each_readsAll {h : Heap} : ∀ {ds : List PyData} {us : List Value} {as : List Addr}, ReadsAll h us ds as → EachIs (fun v d => ∃ as, Reads h v d as) us ds
  | [], _, _, r => by
    cases r
    exact .nil
  | d :: ds, _, _, r => by
    cases r with
    | cons r1 r2 => exact .cons ⟨_, r1⟩ (each_readsAll r2)
theorem zip_map_self (vs : List Value) : vs.zip vs = vs.map fun v => (v, v) := by
  induction vs with
  | nil => rfl
  | cons v vs ih => rw [List.zip_cons_cons, List.map_cons, ih]
/-- what stands in order stays -/
theorem sortVals_id {h : Heap} {vs : List Value} {ds : List PyData} (e : EachIs (fun v d => ∃ as, Reads h v d as) vs ds) (hal : AllAlike ds) (hp : ds.Pairwise fun x y => dataLt y x = false) : sortVals (dataKind h ds) false vs vs = vs := by
  have k : vs.map (keyD (dataKind h ds)) = ds.map keyToks := by
    refine each_map ((each_mem e).mono fun v d q => ?_)
    obtain ⟨⟨as, r⟩, m⟩ := q
    exact keyD_some (dataKind_some hal m r)
  unfold sortVals
  have p : (vs.zip vs).Pairwise fun a b => sortLe (dataKind h ds).toKeyOrd false (fun p : Keyed => keyD (dataKind h ds) p.1) a b = true := by
    rw [zip_map_self, List.pairwise_map]
    have q : (vs.map (keyD (dataKind h ds))).Pairwise fun a b => (!PyProof.Rows.lexLt itemOrd b a) = true := by
      rw [k, List.pairwise_map]
      refine hp.imp fun {x y} q => ?_
      have q : PyProof.Rows.lexLt itemOrd (keyToks y) (keyToks x) = false := q
      rw [q]
      rfl
    exact List.pairwise_map.mp q
  rw [List.mergeSort_of_pairwise p, zip_map_self, List.map_map]
  exact List.map_id' _
def rSortedD (K : PySem.W.Frag) : List V → Hp → VK → Prop := fun vs H Q => ∃ (a : Addr) (xs : List V) (ds : List PyData), vs = [V.ref a] ∧ SqL K H a xs ∧ DpAll K H xs ds ∧ AllAlike ds ∧ Sortable ds ∧ (∀ d, d ∈ ds → d.depth ≤ 32) ∧
  (ds.Pairwise fun x y => dataLt y x = false) ∧ ∀ p, H p = none → Q (.ref p) (upd H p (.lst xs))
theorem cr_sortedD (K : PySem.W.Frag) {X : Cx} {k : Nat} (hr : Room k X.A) (hK : X.K = K := by rfl) : CallR X (.builtin "sorted") (rSortedD K) := by
  subst hK
  intro pins s σ H vs us Q I r h
  obtain ⟨a, xs, ds, rfl, hs, hd, hal, hsb, hdp, hpw, q⟩ := h
  obtain ⟨its, rv, hl, hz⟩ := I.list hs
  rw [Vals.ref1 r]
  obtain ⟨as, ra⟩ := Dp.readsAll I ds _ its hd rv
  have e := each_readsAll ra
  have hzi : its.length ≤ sizeLine := by rw [← rv.length]; exact hz
  have e2 : EachIs (fun v d => ∃ as, Reads (sortingHeap (copyHeap s.heap its) (s.heap.objs.size + 1) its) v d as) its ds := e.mono fun v d ⟨as, r⟩ => ⟨as, Reads.keeps (fun b o q => sorting_copy_old q) r⟩
  have hu : ∀ d, d ∈ ds → X.A.in1.in1.units + d.depth < cLine := fun d m => by
    have h1 := hdp d m
    have h2 := hr.units
    show X.A.units + 1 + 1 + d.depth < cLine
    omega
  refine sorted_vals hl.isList (SortsAt.data e2 hal hsb hu) hzi ?_
  rw [sortVals_id e2 hal hpw]
  obtain ⟨ep, he'⟩ := PyProof.Rows.sortedAll_at s.heap its its.toArray
  exact ⟨.ref _, upd H (s.heap.objs.size + 1) (.lst xs), I.laid (t' := s.toks) (fun _ _ => PyProof.Rows.sortedAll_old) (Nat.le_succ _) ⟨hz, its, ep, rv, he'⟩, rfl, q _ (I.hok.fresh (Nat.le_succ _))⟩
end Lp
set_option Elab.async false
set_option linter.all false
set_option maxRecDepth 100000
set_option maxHeartbeats 4000000

namespace Lp
open PySem PySem.Spec PyProof.Rows L2
local macro_rules | `(tactic| k_extra "rep") => `(tactic| first
  | assumption
  | exact rfl
  | exact BI.mk _ _ _
  | (refine up (by assumption) ?_; k_extra "rep"))
local macro_rules | `(tactic| k_extra "same") => `(tactic| first
  | assumption
  | exact Same.refl _
  | (refine Same.trans ?_ (by assumption); k_extra "same"))
local macro_rules | `(tactic| k_extra "sz") => `(tactic| with_reducible first
  | assumption
  | exact mul_lt (by k_extra "sz") (by k_extra "sz")
  | exact add_sz (by k_extra "sz") (by k_extra "sz")
  | exact sub_sz (by k_extra "sz") (by k_extra "sz")
  | (refine lit_sz ?_; decide))
local macro_rules | `(tactic| k_extra "st") => `(tactic| (simp only [L2.start, List.set_cons_succ, List.set_cons_zero, List.map_cons, List.map_nil, List.cons_append, List.nil_append, List.length_cons, List.length_nil, List.replicate, L2.wipe]; exact rfl))
local macro_rules | `(tactic| k_extra "lp1") => `(tactic| with_reducible first
  | refine r_seq ?_ | refine r_asg ?_ | refine r_ret ?_ | refine r_drop ?_ | refine r_if ?_ | refine r_var rfl ?_ | refine r_c ?_ | refine r_op ?_ | refine r_un ?_ | refine r_rI0 ?_ | refine r_rU ?_
  | refine r_cons ?_ | refine r_nil ?_ | refine r_call ?_ | refine r_cb ?_ | refine r_tup ?_ | refine r_lst ?_ | refine r_test ?_ | refine r_tB ?_ | refine r_bl ?_ | refine r_ifE ?_ | refine r_gcons ?_ | refine r_gnil ?_
  | refine r_gcd ?_ | refine r_next ?_ | refine r_slice ?_ | refine r_nopart ?_ | refine r_part ?_ | refine r_partI ?_ | refine r_bm ?_ | refine r_chain ?_ | refine r_eqI ?_ | refine r_neI ?_ | refine r_zip ?_ | refine r_itT ?_ | refine r_itL ?_ | refine r_for ?_ | refine r_lc ?_ | refine r_intI ?_ | refine r_intB ?_ | refine r_abs ?_ | refine r_max ?_ | refine r_none ?_ | refine r_and ?_ | refine r_or ?_ | refine r_not ?_ | refine r_andT ?_ | refine r_orT ?_ | refine r_notT ?_ | refine r_par ?_ | refine r_two rfl ?_ | refine r_gname rfl ?_)
local macro_rules | `(tactic| k_extra "lpn1") => `(tactic| with_reducible first
  | refine r_seq ?_ | refine r_asg ?_ | refine r_var rfl ?_ | refine r_op ?_ | refine r_cons ?_ | refine r_gcons ?_ | refine r_gnil ?_ | refine r_two (by k_extra "st") ?_ | refine r_gname (by k_extra "st") ?_)
local macro_rules | `(tactic| k_extra "lp2") => `(tactic| first
  | with_reducible refine r_mul (by assumption) (by assumption) ?_
  | with_reducible refine r_fx0 (by k_extra "rep") ?_
  | with_reducible refine r_fx1 (by k_extra "rep") ?_)
local macro_rules | `(tactic| k_extra "lp3") => `(tactic| first
  | with_reducible refine r_gfrac (by k_extra "rep") ?_
  | (with_reducible refine r_gpair (ra := F2) (rb := F2) (by k_extra "rep") ?_; intro _ _ _ _)
  | (with_reducible refine r_gpair (ra := P2) (rb := P2) (by k_extra "rep") ?_; intro _ _ _ _)
  | (with_reducible refine r_ix0 (ra := F2) (rb := F2) (by k_extra "rep") ?_; intro _ _)
  | (with_reducible refine r_ix1 (ra := F2) (rb := F2) (by k_extra "rep") ?_; intro _ _)
  | (with_reducible refine new_frac (by assumption) ?_; intro _ _ _ _)
  | (with_reducible refine new_pair (ra := F2) (rb := F2) (by k_extra "rep") (by k_extra "rep") ?_; intro _ _ _ _)
  | (with_reducible refine new_pair (ra := P2) (rb := P2) (by k_extra "rep") (by k_extra "rep") ?_; intro _ _ _ _)
  | (with_reducible refine new_tri (ra := F2) (rb := F2) (rc := F2) (by k_extra "rep") (by k_extra "rep") (by k_extra "rep") ?_; intro _ _ _ _)
  | (with_reducible refine sp1I (by k_extra "rep") (by assumption) ?_; intro _ _)
  | (with_reducible refine sp2I (by k_extra "rep") (by k_extra "rep") (by assumption) ?_; intro _ _)
  | (with_reducible refine sp1B (by k_extra "rep") (by assumption) ?_; intro _ _)
  | (with_reducible refine sp2B (by k_extra "rep") (by k_extra "rep") (by assumption) ?_; intro _ _)
  | (with_reducible refine sp3B (by k_extra "rep") (by k_extra "rep") (by k_extra "rep") (by assumption) ?_; intro _ _)
  | (with_reducible refine sp4B (by k_extra "rep") (by k_extra "rep") (by k_extra "rep") (by k_extra "rep") (by assumption) ?_; intro _ _)
  | (with_reducible refine sp1 (by k_extra "rep") (by assumption) ?_; intro _ _ _ _)
  | (with_reducible refine sp2 (by k_extra "rep") (by k_extra "rep") (by assumption) ?_; intro _ _ _ _)
  | (with_reducible refine sp4 (by k_extra "rep") (by k_extra "rep") (by k_extra "rep") (by k_extra "rep") (by assumption) ?_; intro _ _ _ _)
  | (with_reducible refine sp3 (by k_extra "rep") (by k_extra "rep") (by k_extra "rep") (by assumption) ?_; intro _ _ _ _))
local macro_rules | `(tactic| k_extra "lp4") => `(tactic| first
  | with_reducible refine r_gtup (by assumption) rfl ?_
  | (with_reducible refine new_any (by assumption) (Nat.le_of_ble_eq_true rfl) ?_; intro _ _ _ _))
local macro_rules | `(tactic| k_extra "lpn") => `(tactic| repeat (first | k_extra "lpn1" | k_extra "lp1" | k_extra "lp2" | k_extra "lp3" | k_extra "lp4"))
local macro_rules | `(tactic| k_extra "lp") => `(tactic| repeat (first | k_extra "lp1" | k_extra "lp2" | k_extra "lp3" | k_extra "lp4"))
section
variable {P : Program} {w : World} {K : PySem.W.Frag} {mg : Str → Option Value} {base : Heap}

/-! fractions -/
abbrev s_reduced : Stmt := topS 2
theorem sc_reduced : FnScope ["n", "d", "common"] ["n", "d"] (defScope s_reduced) := ⟨rfl, rfl, rfl, by decide +kernel, rfl, by decide +kernel, by decide +kernel⟩
theorem b_reduced : BindsBy "reduced" s_reduced ["n", "d"] := fun _ _ _ _ _ _ us hl => match us, hl with | [_, _], _ => rfl
structure PreRed (n d : Int) : Prop where
  hn : n.natAbs < 2 ^ 9000
  hd : d.natAbs < 2 ^ 9000
  ne : d ≠ 0
abbrev spReduced (K : PySem.W.Frag) : Sp := Sp2 K RI RI F2 PreRed red
theorem d_reduced (T : Txt K mg "reduced" s_reduced) (n : Nm K mg) : Def P w K mg base "reduced" 1 ["n", "d"] (spReduced K) := by
  refine mkDef T sc_reduced b_reduced (len2 rfl) fun f cdv A outer s H vs Q E hr kk h => ?_
  obtain ⟨x, y, a, b, rfl, rfl, rfl, hp, q⟩ := h
  refine ⟨_, (pss_cons (ps_set (i := 2) sc_reduced.nd rfl (.inl rfl) (pe_ifExp (pt_cmpR op_gt (pv 1) pe_int (nomark _)) (pe_callBfun cr_gcd rfl n.gcd (pa_cons (pv 0) (pa_cons (pv 1) pa_nil))) (pe_un un_neg (pe_callBfun cr_gcd rfl n.gcd (pa_cons (pv 0) (pa_cons (pv 1) pa_nil))))))
  (pss_one (ps_ret (pe_tup (pa_cons (pe_op op_fdivZ (pv 0) (pv 2)) (pa_cons (pe_op op_fdivZ (pv 1) (pv 2)) pa_nil)))))), ?_⟩
  k_extra "lp"
  have hg : gk a b ≠ 0 ∧ (gk a b).natAbs < 2 ^ 9000 := ⟨gk_ne hp.ne, by
    rw [gk_abs]
    exact Nat.lt_of_le_of_lt (Nat.le_of_dvd (by have := hp.ne; omega) (Nat.gcd_dvd_right _ _)) hp.hd⟩
  refine ite2 (fun e => ?_) (fun e => ?_)
  · have e0 : 0 < b := of_decide_eq_true e
    have eg : ((Nat.gcd a.natAbs b.natAbs : Nat) : Int) = gk a b := by unfold gk; rw [if_pos e0]
    k_extra "lp"
    rw [eg]
    refine r_rI hg ?_
    k_extra "lp"
    refine r_rI hg ?_
    k_extra "lp"
    exact q _ _ (by k_extra "same") (by k_extra "rep")
  · have e0 : ¬ 0 < b := fun z => e (decide_eq_true z)
    have eg : -((Nat.gcd a.natAbs b.natAbs : Nat) : Int) = gk a b := by unfold gk; rw [if_neg e0]
    k_extra "lp"
    rw [eg]
    refine r_rI hg ?_
    k_extra "lp"
    refine r_rI hg ?_
    k_extra "lp"
    exact q _ _ (by k_extra "same") (by k_extra "rep")
/-- two fractions that are fit -/
structure Fits (a b : Fq) : Prop where
  l : Fit a
  r : Fit b
structure FitsD (a b : Fq) : Prop where
  l : Fit a
  r : Fit b
  ne : b.1 ≠ 0
structure FitsC (a b : Fq) : Prop where
  l : FitC a
  r : FitC b
section
variable {a b : Fq}
theorem Fit.n9 (h : Fit a) : a.1.natAbs < 2 ^ 9000 := lt_p2 h.b.n (by omega)
theorem Fit.d9 (h : Fit a) : a.2.natAbs < 2 ^ 9000 := lt_p2 h.b.d (by omega)
theorem Fit.ne (h : Fit a) : a.2 ≠ 0 := by have := h.ok.pos; omega
theorem Fits.nd (h : Fits a b) : (a.1 * b.2).natAbs < 2 ^ 8000 := lt_p2 (mul_lt h.l.b.n h.r.b.d) (by omega)
theorem Fits.dn (h : Fits a b) : (b.1 * a.2).natAbs < 2 ^ 8000 := lt_p2 (mul_lt h.r.b.n h.l.b.d) (by omega)
theorem Fits.dd (h : Fits a b) : (a.2 * b.2).natAbs < 2 ^ 9000 := lt_p2 (mul_lt h.l.b.d h.r.b.d) (by omega)
theorem Fits.nn (h : Fits a b) : (a.1 * b.1).natAbs < 2 ^ 9000 := lt_p2 (mul_lt h.l.b.n h.r.b.n) (by omega)
theorem Fits.pAdd (h : Fits a b) : PreRed (a.1 * b.2 + b.1 * a.2) (a.2 * b.2) := ⟨lt_p2 (add_lt h.nd h.dn) (by omega), h.dd, den_ne h.l.ok h.r.ok⟩
theorem Fits.pSub (h : Fits a b) : PreRed (a.1 * b.2 - b.1 * a.2) (a.2 * b.2) := ⟨lt_p2 (sub_lt h.nd h.dn) (by omega), h.dd, den_ne h.l.ok h.r.ok⟩
theorem Fits.pMul (h : Fits a b) : PreRed (a.1 * b.1) (a.2 * b.2) := ⟨h.nn, h.dd, den_ne h.l.ok h.r.ok⟩
theorem FitsD.pDiv (h : FitsD a b) : PreRed (a.1 * b.2) (a.2 * b.1) := ⟨lt_p2 (mul_lt h.l.b.n h.r.b.d) (by omega), lt_p2 (mul_lt h.l.b.d h.r.b.n) (by omega), div_ne h.l.ok h.r.ok h.ne⟩
end
abbrev s_added : Stmt := topS 3
theorem sc_added : FnScope ["one", "other"] ["one", "other"] (defScope s_added) := ⟨rfl, rfl, rfl, by decide +kernel, rfl, by decide +kernel, by decide +kernel⟩
theorem b_added : BindsBy "added" s_added ["one", "other"] := fun _ _ _ _ _ _ us hl => match us, hl with | [_, _], _ => rfl
abbrev spAdded (K : PySem.W.Frag) : Sp := Sp2 K F2 F2 F2 Fits add
theorem d_added (T : Txt K mg "added" s_added) (d_reduced : Def P w K mg base "reduced" 1 ["n", "d"] (spReduced K)) : Def P w K mg base "added" 2 ["one", "other"] (spAdded K) := by
  refine mkDef T sc_added b_added (len2 rfl) fun f cdv A outer s H vs Q E hr kk h => ?_
  obtain ⟨x, y, a, b, rfl, hx, hy, hp, q⟩ := h
  refine ⟨_, (pss_one (ps_ret (pcall d_reduced hr (pa_cons (pe_op op_add (pe_op op_mulW (pe_ix (ixT K) (pv 0) pe_int (fun _ _ => rfl)) (pe_ix (ixT K) (pv 1) pe_int (fun _ _ => rfl))) (pe_op op_mulW (pe_ix (ixT K) (pv 1) pe_int (fun _ _ => rfl)) (pe_ix (ixT K) (pv 0) pe_int (fun _ _ => rfl)))) (pa_cons (pe_op op_mulW (pe_ix (ixT K) (pv 0) pe_int (fun _ _ => rfl)) (pe_ix (ixT K) (pv 1) pe_int (fun _ _ => rfl))) pa_nil))))), ?_⟩
  have a1 := hp.l.n9; have a2 := hp.l.d9; have b1 := hp.r.n9; have b2 := hp.r.d9
  k_extra "lp"
  exact sp2 (ra := RI) (rb := RI) rfl rfl hp.pAdd q
abbrev s_lessened : Stmt := topS 4
theorem sc_lessened : FnScope ["one", "other"] ["one", "other"] (defScope s_lessened) := ⟨rfl, rfl, rfl, by decide +kernel, rfl, by decide +kernel, by decide +kernel⟩
theorem b_lessened : BindsBy "lessened" s_lessened ["one", "other"] := fun _ _ _ _ _ _ us hl => match us, hl with | [_, _], _ => rfl
abbrev spLessened (K : PySem.W.Frag) : Sp := Sp2 K F2 F2 F2 Fits sub
theorem d_lessened (T : Txt K mg "lessened" s_lessened) (d_reduced : Def P w K mg base "reduced" 1 ["n", "d"] (spReduced K)) : Def P w K mg base "lessened" 2 ["one", "other"] (spLessened K) := by
  refine mkDef T sc_lessened b_lessened (len2 rfl) fun f cdv A outer s H vs Q E hr kk h => ?_
  obtain ⟨x, y, a, b, rfl, hx, hy, hp, q⟩ := h
  refine ⟨_, (pss_one (ps_ret (pcall d_reduced hr (pa_cons (pe_op op_sub (pe_op op_mulW (pe_ix (ixT K) (pv 0) pe_int (fun _ _ => rfl)) (pe_ix (ixT K) (pv 1) pe_int (fun _ _ => rfl))) (pe_op op_mulW (pe_ix (ixT K) (pv 1) pe_int (fun _ _ => rfl)) (pe_ix (ixT K) (pv 0) pe_int (fun _ _ => rfl)))) (pa_cons (pe_op op_mulW (pe_ix (ixT K) (pv 0) pe_int (fun _ _ => rfl)) (pe_ix (ixT K) (pv 1) pe_int (fun _ _ => rfl))) pa_nil))))), ?_⟩
  have a1 := hp.l.n9; have a2 := hp.l.d9; have b1 := hp.r.n9; have b2 := hp.r.d9
  k_extra "lp"
  exact sp2 (ra := RI) (rb := RI) rfl rfl hp.pSub q
abbrev s_times : Stmt := topS 5
theorem sc_times : FnScope ["one", "other"] ["one", "other"] (defScope s_times) := ⟨rfl, rfl, rfl, by decide +kernel, rfl, by decide +kernel, by decide +kernel⟩
theorem b_times : BindsBy "times" s_times ["one", "other"] := fun _ _ _ _ _ _ us hl => match us, hl with | [_, _], _ => rfl
abbrev spTimes (K : PySem.W.Frag) : Sp := Sp2 K F2 F2 F2 Fits mul
theorem d_times (T : Txt K mg "times" s_times) (d_reduced : Def P w K mg base "reduced" 1 ["n", "d"] (spReduced K)) : Def P w K mg base "times" 2 ["one", "other"] (spTimes K) := by
  refine mkDef T sc_times b_times (len2 rfl) fun f cdv A outer s H vs Q E hr kk h => ?_
  obtain ⟨x, y, a, b, rfl, hx, hy, hp, q⟩ := h
  refine ⟨_, (pss_one (ps_ret (pcall d_reduced hr (pa_cons (pe_op op_mulW (pe_ix (ixT K) (pv 0) pe_int (fun _ _ => rfl)) (pe_ix (ixT K) (pv 1) pe_int (fun _ _ => rfl))) (pa_cons (pe_op op_mulW (pe_ix (ixT K) (pv 0) pe_int (fun _ _ => rfl)) (pe_ix (ixT K) (pv 1) pe_int (fun _ _ => rfl))) pa_nil))))), ?_⟩
  have a1 := hp.l.n9; have a2 := hp.l.d9; have b1 := hp.r.n9; have b2 := hp.r.d9
  k_extra "lp"
  exact sp2 (ra := RI) (rb := RI) rfl rfl hp.pMul q
abbrev s_over : Stmt := topS 6
theorem sc_over : FnScope ["one", "other"] ["one", "other"] (defScope s_over) := ⟨rfl, rfl, rfl, by decide +kernel, rfl, by decide +kernel, by decide +kernel⟩
theorem b_over : BindsBy "over" s_over ["one", "other"] := fun _ _ _ _ _ _ us hl => match us, hl with | [_, _], _ => rfl
abbrev spOver (K : PySem.W.Frag) : Sp := Sp2 K F2 F2 F2 FitsD div
theorem d_over (T : Txt K mg "over" s_over) (d_reduced : Def P w K mg base "reduced" 1 ["n", "d"] (spReduced K)) : Def P w K mg base "over" 2 ["one", "other"] (spOver K) := by
  refine mkDef T sc_over b_over (len2 rfl) fun f cdv A outer s H vs Q E hr kk h => ?_
  obtain ⟨x, y, a, b, rfl, hx, hy, hp, q⟩ := h
  refine ⟨_, (pss_one (ps_ret (pcall d_reduced hr (pa_cons (pe_op op_mulW (pe_ix (ixT K) (pv 0) pe_int (fun _ _ => rfl)) (pe_ix (ixT K) (pv 1) pe_int (fun _ _ => rfl))) (pa_cons (pe_op op_mulW (pe_ix (ixT K) (pv 0) pe_int (fun _ _ => rfl)) (pe_ix (ixT K) (pv 1) pe_int (fun _ _ => rfl))) pa_nil))))), ?_⟩
  have a1 := hp.l.n9; have a2 := hp.l.d9; have b1 := hp.r.n9; have b2 := hp.r.d9
  k_extra "lp"
  exact sp2 (ra := RI) (rb := RI) rfl rfl hp.pDiv q
abbrev s_compared : Stmt := topS 7
theorem sc_compared : FnScope ["one", "other", "mine", "its"] ["one", "other"] (defScope s_compared) := ⟨rfl, rfl, rfl, by decide +kernel, rfl, by decide +kernel, by decide +kernel⟩
theorem b_compared : BindsBy "compared" s_compared ["one", "other"] := fun _ _ _ _ _ _ us hl => match us, hl with | [_, _], _ => rfl
abbrev spCompared (K : PySem.W.Frag) : Sp := Sp2 K F2 F2 RI FitsC cmp
theorem d_compared (T : Txt K mg "compared" s_compared) (n : Nm K mg) : Def P w K mg base "compared" 1 ["one", "other"] (spCompared K) := by
  refine mkDef T sc_compared b_compared (len2 rfl) fun f cdv A outer s H vs Q E hr kk h => ?_
  obtain ⟨x, y, a, b, rfl, hx, hy, hp, q⟩ := h
  refine ⟨_, (pss_cons (ps_par (i := 2) (j := 3) (by rfl) sc_compared.nd rfl rfl (by decide) rfl rfl (pa_cons (pe_op op_mulW (pe_ix (ixT K) (pv 0) pe_int (fun _ _ => rfl)) (pe_ix (ixT K) (pv 1) pe_int (fun _ _ => rfl))) (pa_cons (pe_op op_mulW (pe_ix (ixT K) (pv 1) pe_int (fun _ _ => rfl)) (pe_ix (ixT K) (pv 0) pe_int (fun _ _ => rfl))) pa_nil)) (by rfl))
  (pss_one (ps_ret (pe_op op_sub (pe_callTy int1 (by rfl) n.int (by decide +kernel) (pa_cons (pe_cmpR op_gt (pv 2) (pv 3) (nomark _)) pa_nil)) (pe_callTy int1 (by rfl) n.int (by decide +kernel) (pa_cons (pe_cmpR op_lt (pv 2) (pv 3) (nomark _)) pa_nil)))))), ?_⟩
  have a1 := hp.l.b.n; have a2 := hp.l.b.d; have b1 := hp.r.b.n; have b2 := hp.r.b.d
  k_extra "lp"
  refine q _ _ (Same.refl H) ?_
  show V.int _ = V.int _
  unfold cmp
  simp only [decide_eq_true_eq]
end
end Lp
set_option Elab.async false
set_option linter.all false
set_option maxRecDepth 100000
set_option maxHeartbeats 4000000

namespace Lp
open PySem PySem.Spec PyProof.Rows L2
local macro_rules | `(tactic| k_extra "rep") => `(tactic| first
  | assumption
  | exact rfl
  | exact BI.mk _ _ _
  | (refine up (by assumption) ?_; k_extra "rep"))
local macro_rules | `(tactic| k_extra "same") => `(tactic| first
  | assumption
  | exact Same.refl _
  | (refine Same.trans ?_ (by assumption); k_extra "same"))
local macro_rules | `(tactic| k_extra "sz") => `(tactic| with_reducible first
  | assumption
  | exact mul_lt (by k_extra "sz") (by k_extra "sz")
  | exact add_sz (by k_extra "sz") (by k_extra "sz")
  | exact sub_sz (by k_extra "sz") (by k_extra "sz")
  | (refine lit_sz ?_; decide))
local macro_rules | `(tactic| k_extra "st") => `(tactic| (simp only [L2.start, List.set_cons_succ, List.set_cons_zero, List.map_cons, List.map_nil, List.cons_append, List.nil_append, List.length_cons, List.length_nil, List.replicate, L2.wipe]; exact rfl))
local macro_rules | `(tactic| k_extra "lp1") => `(tactic| with_reducible first
  | refine r_seq ?_ | refine r_asg ?_ | refine r_ret ?_ | refine r_drop ?_ | refine r_if ?_ | refine r_var rfl ?_ | refine r_c ?_ | refine r_op ?_ | refine r_un ?_ | refine r_rI0 ?_ | refine r_rU ?_
  | refine r_cons ?_ | refine r_nil ?_ | refine r_call ?_ | refine r_cb ?_ | refine r_tup ?_ | refine r_lst ?_ | refine r_test ?_ | refine r_tB ?_ | refine r_bl ?_ | refine r_ifE ?_ | refine r_gcons ?_ | refine r_gnil ?_
  | refine r_gcd ?_ | refine r_next ?_ | refine r_slice ?_ | refine r_nopart ?_ | refine r_part ?_ | refine r_partI ?_ | refine r_bm ?_ | refine r_chain ?_ | refine r_eqI ?_ | refine r_neI ?_ | refine r_zip ?_ | refine r_itT ?_ | refine r_itL ?_ | refine r_for ?_ | refine r_lc ?_ | refine r_intI ?_ | refine r_intB ?_ | refine r_abs ?_ | refine r_max ?_ | refine r_none ?_ | refine r_and ?_ | refine r_or ?_ | refine r_not ?_ | refine r_andT ?_ | refine r_orT ?_ | refine r_notT ?_ | refine r_par ?_ | refine r_two rfl ?_ | refine r_gname rfl ?_)
local macro_rules | `(tactic| k_extra "lpn1") => `(tactic| with_reducible first
  | refine r_seq ?_ | refine r_asg ?_ | refine r_var rfl ?_ | refine r_op ?_ | refine r_cons ?_ | refine r_gcons ?_ | refine r_gnil ?_ | refine r_two (by k_extra "st") ?_ | refine r_gname (by k_extra "st") ?_)
local macro_rules | `(tactic| k_extra "lp2") => `(tactic| first
  | with_reducible refine r_mul (by assumption) (by assumption) ?_
  | with_reducible refine r_fx0 (by k_extra "rep") ?_
  | with_reducible refine r_fx1 (by k_extra "rep") ?_)
local macro_rules | `(tactic| k_extra "lp3") => `(tactic| first
  | with_reducible refine r_gfrac (by k_extra "rep") ?_
  | (with_reducible refine r_gpair (ra := F2) (rb := F2) (by k_extra "rep") ?_; intro _ _ _ _)
  | (with_reducible refine r_gpair (ra := P2) (rb := P2) (by k_extra "rep") ?_; intro _ _ _ _)
  | (with_reducible refine r_ix0 (ra := F2) (rb := F2) (by k_extra "rep") ?_; intro _ _)
  | (with_reducible refine r_ix1 (ra := F2) (rb := F2) (by k_extra "rep") ?_; intro _ _)
  | (with_reducible refine new_frac (by assumption) ?_; intro _ _ _ _)
  | (with_reducible refine new_pair (ra := F2) (rb := F2) (by k_extra "rep") (by k_extra "rep") ?_; intro _ _ _ _)
  | (with_reducible refine new_pair (ra := P2) (rb := P2) (by k_extra "rep") (by k_extra "rep") ?_; intro _ _ _ _)
  | (with_reducible refine new_tri (ra := F2) (rb := F2) (rc := F2) (by k_extra "rep") (by k_extra "rep") (by k_extra "rep") ?_; intro _ _ _ _)
  | (with_reducible refine sp1I (by k_extra "rep") (by assumption) ?_; intro _ _)
  | (with_reducible refine sp2I (by k_extra "rep") (by k_extra "rep") (by assumption) ?_; intro _ _)
  | (with_reducible refine sp1B (by k_extra "rep") (by assumption) ?_; intro _ _)
  | (with_reducible refine sp2B (by k_extra "rep") (by k_extra "rep") (by assumption) ?_; intro _ _)
  | (with_reducible refine sp3B (by k_extra "rep") (by k_extra "rep") (by k_extra "rep") (by assumption) ?_; intro _ _)
  | (with_reducible refine sp4B (by k_extra "rep") (by k_extra "rep") (by k_extra "rep") (by k_extra "rep") (by assumption) ?_; intro _ _)
  | (with_reducible refine sp1 (by k_extra "rep") (by assumption) ?_; intro _ _ _ _)
  | (with_reducible refine sp2 (by k_extra "rep") (by k_extra "rep") (by assumption) ?_; intro _ _ _ _)
  | (with_reducible refine sp4 (by k_extra "rep") (by k_extra "rep") (by k_extra "rep") (by k_extra "rep") (by assumption) ?_; intro _ _ _ _)
  | (with_reducible refine sp3 (by k_extra "rep") (by k_extra "rep") (by k_extra "rep") (by assumption) ?_; intro _ _ _ _))
local macro_rules | `(tactic| k_extra "lp4") => `(tactic| first
  | with_reducible refine r_gtup (by assumption) rfl ?_
  | (with_reducible refine new_any (by assumption) (Nat.le_of_ble_eq_true rfl) ?_; intro _ _ _ _))
local macro_rules | `(tactic| k_extra "lpn") => `(tactic| repeat (first | k_extra "lpn1" | k_extra "lp1" | k_extra "lp2" | k_extra "lp3" | k_extra "lp4"))
local macro_rules | `(tactic| k_extra "lp") => `(tactic| repeat (first | k_extra "lp1" | k_extra "lp2" | k_extra "lp3" | k_extra "lp4"))
section
variable {P : Program} {w : World} {K : PySem.W.Frag} {mg : Str → Option Value} {base : Heap}

/-! legs -/
abbrev s_place_on : Stmt := topS 11
theorem sc_place_on : FnScope ["leg", "s", "x", "y", "far_x", "far_y"] ["leg", "s"] (defScope s_place_on) := ⟨rfl, rfl, rfl, by decide +kernel, rfl, by decide +kernel, by decide +kernel⟩
theorem b_place_on : BindsBy "place_on" s_place_on ["leg", "s"] := fun _ _ _ _ _ _ us hl => match us, hl with | [_, _], _ => rfl
structure PrePl (l : Leg) (s : Fq) : Prop where
  l : LegOk l
  s : Pt s 900
theorem fitI {x : Int} {i : Nat} (h : x.natAbs < 2 ^ i) (hi : i ≤ 4000) : Fit (x, 1) := ⟨ok_int x, (B_int h).mono hi (by omega)⟩
theorem fitOf {q : Fq} {i j : Nat} (h : Ok q) (b : B q i j) (hi : i ≤ 4000) (hj : j ≤ 4000) : Fit q := ⟨h, b.mono hi hj⟩
abbrev spPlace (K : PySem.W.Frag) : Sp := Sp2 K P2 F2 P2 PrePl placeOn
theorem d_place_on (T : Txt K mg "place_on" s_place_on) (d_added : Def P w K mg base "added" 2 ["one", "other"] (spAdded K)) (d_times : Def P w K mg base "times" 2 ["one", "other"] (spTimes K)) : Def P w K mg base "place_on" 3 ["leg", "s"] (spPlace K) := by
  refine mkDef T sc_place_on b_place_on (len2 rfl) fun f cdv A outer s H vs Q E hr kk h => ?_
  obtain ⟨x, y, a, b, rfl, hx, hy, hp, q⟩ := h
  refine ⟨_, (pss_cons (ps_asg (pv 0) (pgT (n := 2) K rfl (pgs_cons (pgT (n := 2) K rfl (pgs_cons (pg_name (i := 2) sc_place_on.nd rfl (.inl rfl)) (pgs_cons (pg_name (i := 3) sc_place_on.nd rfl (.inl rfl)) pgs_nil))) (pgs_cons (pgT (n := 2) K rfl (pgs_cons (pg_name (i := 4) sc_place_on.nd rfl (.inl rfl)) (pgs_cons (pg_name (i := 5) sc_place_on.nd rfl (.inl rfl)) pgs_nil))) pgs_nil))))
  (pss_one (ps_ret (pe_tup (pa_cons (pcall d_added hr (pa_cons (pe_tup (pa_cons (pv 2) (pa_cons pe_int pa_nil))) (pa_cons (pcall d_times hr (pa_cons (pv 1) (pa_cons (pe_tup (pa_cons (pe_op op_sub (pv 4) (pv 2)) (pa_cons pe_int pa_nil))) pa_nil))) pa_nil))) (pa_cons (pcall d_added hr (pa_cons (pe_tup (pa_cons (pv 3) (pa_cons pe_int pa_nil))) (pa_cons (pcall d_times hr (pa_cons (pv 1) (pa_cons (pe_tup (pa_cons (pe_op op_sub (pv 5) (pv 3)) (pa_cons pe_int pa_nil))) pa_nil))) pa_nil))) pa_nil)))))), ?_⟩
  obtain ⟨m1, m2, m3, m4⟩ := place_mul hp.l hp.s
  have f0 : Fit b := fitOf hp.s.ok hp.s.b (by omega) (by omega)
  have f1 : Fits b (a.2.1 - a.1.1, 1) := ⟨f0, fitI (sub_lt hp.l.c hp.l.a) (by omega)⟩
  have f2 : Fits b (a.2.2 - a.1.2, 1) := ⟨f0, fitI (sub_lt hp.l.d hp.l.b) (by omega)⟩
  have f3 : Fits (a.1.1, 1) (mul b (a.2.1 - a.1.1, 1)) := ⟨fitI hp.l.a (by omega), fitOf m1 m3 (by omega) (by omega)⟩
  have f4 : Fits (a.1.2, 1) (mul b (a.2.2 - a.1.2, 1)) := ⟨fitI hp.l.b (by omega), fitOf m2 m4 (by omega) (by omega)⟩
  k_extra "lp"
  exact q _ _ (by k_extra "same") (by k_extra "rep")
abbrev s_parting : Stmt := topS 12
theorem sc_parting : FnScope ["leg", "other", "s", "t", "x", "y", "far_x", "far_y"] ["leg", "other", "s", "t"] (defScope s_parting) := ⟨rfl, rfl, rfl, by decide +kernel, rfl, by decide +kernel, by decide +kernel⟩
theorem b_parting : BindsBy "parting" s_parting ["leg", "other", "s", "t"] := fun _ _ _ _ _ _ us hl => match us, hl with | [_, _, _, _], _ => rfl
structure PrePart (l o : Leg) (s t : Fq) : Prop where
  l : LegOk l
  o : LegOk o
  s : Pt s 900
  t : Pt t 900
abbrev spParting (K : PySem.W.Frag) : Sp := Sp4 K P2 P2 F2 F2 P2 PrePart parting
theorem d_parting (T : Txt K mg "parting" s_parting) (d_place_on : Def P w K mg base "place_on" 3 ["leg", "s"] (spPlace K)) (d_lessened : Def P w K mg base "lessened" 2 ["one", "other"] (spLessened K)) : Def P w K mg base "parting" 4 ["leg", "other", "s", "t"] (spParting K) := by
  refine mkDef T sc_parting b_parting (len4 rfl) fun f cdv A outer s H vs Q E hr kk h => ?_
  obtain ⟨x, y, z, u, a, b, c, d, rfl, hx, hy, hz, hu, hp, q⟩ := h
  refine ⟨_, (pss_cons (ps_asg (pe_tup (pa_cons (pcall d_place_on hr (pa_cons (pv 0) (pa_cons (pv 2) pa_nil))) (pa_cons (pcall d_place_on hr (pa_cons (pv 1) (pa_cons (pv 3) pa_nil))) pa_nil))) (pgT (n := 2) K rfl (pgs_cons (pgT (n := 2) K rfl (pgs_cons (pg_name (i := 4) sc_parting.nd rfl (.inl rfl)) (pgs_cons (pg_name (i := 5) sc_parting.nd rfl (.inl rfl)) pgs_nil))) (pgs_cons (pgT (n := 2) K rfl (pgs_cons (pg_name (i := 6) sc_parting.nd rfl (.inl rfl)) (pgs_cons (pg_name (i := 7) sc_parting.nd rfl (.inl rfl)) pgs_nil))) pgs_nil))))
  (pss_one (ps_ret (pe_tup (pa_cons (pcall d_lessened hr (pa_cons (pv 6) (pa_cons (pv 4) pa_nil))) (pa_cons (pcall d_lessened hr (pa_cons (pv 7) (pa_cons (pv 5) pa_nil))) pa_nil)))))), ?_⟩
  have p1 : PrePl a c := ⟨hp.l, hp.s⟩
  have p2 : PrePl b d := ⟨hp.o, hp.t⟩
  obtain ⟨m1, m2, m3, m4⟩ := place_ok hp.l hp.s
  obtain ⟨k1, k2, k3, k4⟩ := place_ok hp.o hp.t
  have f1 : Fits (placeOn b d).1 (placeOn a c).1 := ⟨fitOf k1 k3 (by omega) (by omega), fitOf m1 m3 (by omega) (by omega)⟩
  have f2 : Fits (placeOn b d).2 (placeOn a c).2 := ⟨fitOf k2 k4 (by omega) (by omega), fitOf m2 m4 (by omega) (by omega)⟩
  k_extra "lp"
  exact q _ _ (by k_extra "same") (by k_extra "rep")
abbrev s_dot : Stmt := topS 13
theorem sc_dot : FnScope ["one", "other"] ["one", "other"] (defScope s_dot) := ⟨rfl, rfl, rfl, by decide +kernel, rfl, by decide +kernel, by decide +kernel⟩
theorem b_dot : BindsBy "dot" s_dot ["one", "other"] := fun _ _ _ _ _ _ us hl => match us, hl with | [_, _], _ => rfl
structure PreDot (u v : Fq × Fq) : Prop where
  u : Fit2 u
  v : Fit2 v
abbrev spDot (K : PySem.W.Frag) : Sp := Sp2 K P2 P2 F2 PreDot dot
theorem d_dot (T : Txt K mg "dot" s_dot) (d_added : Def P w K mg base "added" 2 ["one", "other"] (spAdded K)) (d_times : Def P w K mg base "times" 2 ["one", "other"] (spTimes K)) : Def P w K mg base "dot" 3 ["one", "other"] (spDot K) := by
  refine mkDef T sc_dot b_dot (len2 rfl) fun f cdv A outer s H vs Q E hr kk h => ?_
  obtain ⟨x, y, a, b, rfl, hx, hy, hp, q⟩ := h
  refine ⟨_, (pss_one (ps_ret (pcall d_added hr (pa_cons (pcall d_times hr (pa_cons (pe_ix (ixT K) (pv 0) pe_int (fun _ _ => rfl)) (pa_cons (pe_ix (ixT K) (pv 1) pe_int (fun _ _ => rfl)) pa_nil))) (pa_cons (pcall d_times hr (pa_cons (pe_ix (ixT K) (pv 0) pe_int (fun _ _ => rfl)) (pa_cons (pe_ix (ixT K) (pv 1) pe_int (fun _ _ => rfl)) pa_nil))) pa_nil))))), ?_⟩
  have f1 : Fits a.1 b.1 := ⟨fitOf hp.u.x hp.u.bx (by omega) (by omega), fitOf hp.v.x hp.v.bx (by omega) (by omega)⟩
  have f2 : Fits a.2 b.2 := ⟨fitOf hp.u.y hp.u.by_ (by omega) (by omega), fitOf hp.v.y hp.v.by_ (by omega) (by omega)⟩
  have f3 : Fits (mul a.1 b.1) (mul a.2 b.2) := ⟨fitOf (ok_mul hp.u.x hp.v.x) (B_mul hp.u.x hp.v.x hp.u.bx hp.v.bx) (by omega) (by omega), fitOf (ok_mul hp.u.y hp.v.y) (B_mul hp.u.y hp.v.y hp.u.by_ hp.v.by_) (by omega) (by omega)⟩
  k_extra "lp"
  exact q _ _ (by k_extra "same") (by k_extra "rep")
abbrev s_squared_at : Stmt := topS 14
theorem sc_squared_at : FnScope ["leg", "other", "s", "t", "way"] ["leg", "other", "s", "t"] (defScope s_squared_at) := ⟨rfl, rfl, rfl, by decide +kernel, rfl, by decide +kernel, by decide +kernel⟩
theorem b_squared_at : BindsBy "squared_at" s_squared_at ["leg", "other", "s", "t"] := fun _ _ _ _ _ _ us hl => match us, hl with | [_, _, _, _], _ => rfl
abbrev spSquared (K : PySem.W.Frag) : Sp := Sp4 K P2 P2 F2 F2 F2 PrePart sqAt
theorem d_squared_at (T : Txt K mg "squared_at" s_squared_at) (d_parting : Def P w K mg base "parting" 4 ["leg", "other", "s", "t"] (spParting K)) (d_dot : Def P w K mg base "dot" 3 ["one", "other"] (spDot K)) : Def P w K mg base "squared_at" 5 ["leg", "other", "s", "t"] (spSquared K) := by
  refine mkDef T sc_squared_at b_squared_at (len4 rfl) fun f cdv A outer s H vs Q E hr kk h => ?_
  obtain ⟨x, y, z, u, a, b, c, d, rfl, hx, hy, hz, hu, hp, q⟩ := h
  refine ⟨_, (pss_cons (ps_set (i := 4) sc_squared_at.nd rfl (.inl rfl) (pcall d_parting hr (pa_cons (pv 0) (pa_cons (pv 1) (pa_cons (pv 2) (pa_cons (pv 3) pa_nil))))))
  (pss_one (ps_ret (pcall d_dot hr (pa_cons (pv 4) (pa_cons (pv 4) pa_nil)))))), ?_⟩
  have f1 : PreDot (parting a b c d) (parting a b c d) := ⟨parting_fit hp.l hp.o hp.s hp.t (by omega), parting_fit hp.l hp.o hp.s hp.t (by omega)⟩
  k_extra "lp"
  exact q _ _ (by k_extra "same") (by k_extra "rep")
/-! the ring -/
abbrev s_ring_of : Stmt := topS 15
theorem sc_ring_of : FnScope ["rho", "rest"] ["rho"] (defScope s_ring_of) := ⟨rfl, rfl, rfl, by decide +kernel, rfl, by decide +kernel, by decide +kernel⟩
theorem b_ring_of : BindsBy "ring_of" s_ring_of ["rho"] := fun _ _ _ _ _ _ us hl => match us, hl with | [_], _ => rfl
abbrev spRing (K : PySem.W.Frag) : Sp := Sp1 K F2 (RL P2) Rho ring
theorem d_ring_of (T : Txt K mg "ring_of" s_ring_of) (n : Nm K mg) (d_lessened : Def P w K mg base "lessened" 2 ["one", "other"] (spLessened K)) : Def P w K mg base "ring_of" 3 ["rho"] (spRing K) := by
  refine mkDef T sc_ring_of b_ring_of (len1 rfl) fun f cdv A outer s H vs Q E hr kk h => ?_
  obtain ⟨x, a, rfl, hx, hp, q⟩ := h
  obtain ⟨q0, m0, z0⟩ := n.nought
  obtain ⟨q1, m1, z1⟩ := n.one
  replace z0 := z0 H
  replace z1 := z1 H
  refine ⟨_, (pss_cons (ps_set (i := 1) sc_ring_of.nd rfl (.inl rfl) (pcall d_lessened hr (pa_cons (pe_glob (v := .ref q1) rfl m1 rfl) (pa_cons (pv 0) pa_nil))))
  (pss_one (ps_ret (pe_lst (pa_cons (pe_tup (pa_cons (pe_glob (v := .ref q0) rfl m0 rfl) (pa_cons (pe_glob (v := .ref q0) rfl m0 rfl) pa_nil))) (pa_cons (pe_tup (pa_cons (pe_glob (v := .ref q0) rfl m0 rfl) (pa_cons (pv 0) pa_nil))) (pa_cons (pe_tup (pa_cons (pv 1) (pa_cons (pe_glob (v := .ref q1) rfl m1 rfl) pa_nil))) (pa_cons (pe_tup (pa_cons (pe_glob (v := .ref q1) rfl m1 rfl) (pa_cons (pe_glob (v := .ref q1) rfl m1 rfl) pa_nil))) (pa_cons (pe_tup (pa_cons (pe_glob (v := .ref q1) rfl m1 rfl) (pa_cons (pv 1) pa_nil))) (pa_cons (pe_tup (pa_cons (pv 0) (pa_cons (pe_glob (v := .ref q0) rfl m0 rfl) pa_nil))) pa_nil)))))))))), ?_⟩
  have f1 : Fits (1, 1) a := ⟨fitI (i := 1) (by decide) (by omega), fitOf hp.part.ok hp.b (by omega) (by omega)⟩
  k_extra "lp"
  refine new_lst (ra := P2) (cs := ring a) (.cons (by k_extra "rep") (.cons (by k_extra "rep") (.cons (by k_extra "rep") (.cons (by k_extra "rep") (.cons (by k_extra "rep") (.cons (by k_extra "rep") .nil)))))) (by simp) ?_
  intro p H' s' _ _ h'
  exact q _ _ (by k_extra "same") h'
end
end Lp
set_option Elab.async false
set_option linter.all false
set_option maxRecDepth 100000
set_option maxHeartbeats 4000000

namespace Lp
open PySem PySem.Spec PyProof.Rows L2
local macro_rules | `(tactic| k_extra "rep") => `(tactic| first
  | assumption
  | exact rfl
  | exact BI.mk _ _ _
  | (refine up (by assumption) ?_; k_extra "rep"))
local macro_rules | `(tactic| k_extra "same") => `(tactic| first
  | assumption
  | exact Same.refl _
  | (refine Same.trans ?_ (by assumption); k_extra "same"))
local macro_rules | `(tactic| k_extra "sz") => `(tactic| with_reducible first
  | assumption
  | exact mul_lt (by k_extra "sz") (by k_extra "sz")
  | exact add_sz (by k_extra "sz") (by k_extra "sz")
  | exact sub_sz (by k_extra "sz") (by k_extra "sz")
  | (refine lit_sz ?_; decide))
local macro_rules | `(tactic| k_extra "st") => `(tactic| (simp only [L2.start, List.set_cons_succ, List.set_cons_zero, List.map_cons, List.map_nil, List.cons_append, List.nil_append, List.length_cons, List.length_nil, List.replicate, L2.wipe]; exact rfl))
local macro_rules | `(tactic| k_extra "lp1") => `(tactic| with_reducible first
  | refine r_seq ?_ | refine r_asg ?_ | refine r_ret ?_ | refine r_drop ?_ | refine r_if ?_ | refine r_var rfl ?_ | refine r_c ?_ | refine r_op ?_ | refine r_un ?_ | refine r_rI0 ?_ | refine r_rU ?_
  | refine r_cons ?_ | refine r_nil ?_ | refine r_call ?_ | refine r_cb ?_ | refine r_tup ?_ | refine r_lst ?_ | refine r_test ?_ | refine r_tB ?_ | refine r_bl ?_ | refine r_ifE ?_ | refine r_gcons ?_ | refine r_gnil ?_
  | refine r_gcd ?_ | refine r_next ?_ | refine r_slice ?_ | refine r_nopart ?_ | refine r_part ?_ | refine r_partI ?_ | refine r_bm ?_ | refine r_chain ?_ | refine r_eqI ?_ | refine r_neI ?_ | refine r_zip ?_ | refine r_itT ?_ | refine r_itL ?_ | refine r_for ?_ | refine r_lc ?_ | refine r_intI ?_ | refine r_intB ?_ | refine r_abs ?_ | refine r_max ?_ | refine r_none ?_ | refine r_and ?_ | refine r_or ?_ | refine r_not ?_ | refine r_andT ?_ | refine r_orT ?_ | refine r_notT ?_ | refine r_par ?_ | refine r_two rfl ?_ | refine r_gname rfl ?_)
local macro_rules | `(tactic| k_extra "lpn1") => `(tactic| with_reducible first
  | refine r_seq ?_ | refine r_asg ?_ | refine r_var rfl ?_ | refine r_op ?_ | refine r_cons ?_ | refine r_gcons ?_ | refine r_gnil ?_ | refine r_two (by k_extra "st") ?_ | refine r_gname (by k_extra "st") ?_)
local macro_rules | `(tactic| k_extra "lp2") => `(tactic| first
  | with_reducible refine r_mul (by assumption) (by assumption) ?_
  | with_reducible refine r_fx0 (by k_extra "rep") ?_
  | with_reducible refine r_fx1 (by k_extra "rep") ?_)
local macro_rules | `(tactic| k_extra "lp3") => `(tactic| first
  | with_reducible refine r_gfrac (by k_extra "rep") ?_
  | (with_reducible refine r_gpair (ra := F2) (rb := F2) (by k_extra "rep") ?_; intro _ _ _ _)
  | (with_reducible refine r_gpair (ra := P2) (rb := P2) (by k_extra "rep") ?_; intro _ _ _ _)
  | (with_reducible refine r_ix0 (ra := F2) (rb := F2) (by k_extra "rep") ?_; intro _ _)
  | (with_reducible refine r_ix1 (ra := F2) (rb := F2) (by k_extra "rep") ?_; intro _ _)
  | (with_reducible refine new_frac (by assumption) ?_; intro _ _ _ _)
  | (with_reducible refine new_pair (ra := F2) (rb := F2) (by k_extra "rep") (by k_extra "rep") ?_; intro _ _ _ _)
  | (with_reducible refine new_pair (ra := P2) (rb := P2) (by k_extra "rep") (by k_extra "rep") ?_; intro _ _ _ _)
  | (with_reducible refine new_tri (ra := F2) (rb := F2) (rc := F2) (by k_extra "rep") (by k_extra "rep") (by k_extra "rep") ?_; intro _ _ _ _)
  | (with_reducible refine sp1I (by k_extra "rep") (by assumption) ?_; intro _ _)
  | (with_reducible refine sp2I (by k_extra "rep") (by k_extra "rep") (by assumption) ?_; intro _ _)
  | (with_reducible refine sp1B (by k_extra "rep") (by assumption) ?_; intro _ _)
  | (with_reducible refine sp2B (by k_extra "rep") (by k_extra "rep") (by assumption) ?_; intro _ _)
  | (with_reducible refine sp3B (by k_extra "rep") (by k_extra "rep") (by k_extra "rep") (by assumption) ?_; intro _ _)
  | (with_reducible refine sp4B (by k_extra "rep") (by k_extra "rep") (by k_extra "rep") (by k_extra "rep") (by assumption) ?_; intro _ _)
  | (with_reducible refine sp1 (by k_extra "rep") (by assumption) ?_; intro _ _ _ _)
  | (with_reducible refine sp2 (by k_extra "rep") (by k_extra "rep") (by assumption) ?_; intro _ _ _ _)
  | (with_reducible refine sp4 (by k_extra "rep") (by k_extra "rep") (by k_extra "rep") (by k_extra "rep") (by assumption) ?_; intro _ _ _ _)
  | (with_reducible refine sp3 (by k_extra "rep") (by k_extra "rep") (by k_extra "rep") (by assumption) ?_; intro _ _ _ _))
local macro_rules | `(tactic| k_extra "lp4") => `(tactic| first
  | with_reducible refine r_gtup (by assumption) rfl ?_
  | (with_reducible refine new_any (by assumption) (Nat.le_of_ble_eq_true rfl) ?_; intro _ _ _ _))
local macro_rules | `(tactic| k_extra "lpn") => `(tactic| repeat (first | k_extra "lpn1" | k_extra "lp1" | k_extra "lp2" | k_extra "lp3" | k_extra "lp4"))
local macro_rules | `(tactic| k_extra "lp") => `(tactic| repeat (first | k_extra "lp1" | k_extra "lp2" | k_extra "lp3" | k_extra "lp4"))
section
variable {P : Program} {w : World} {K : PySem.W.Frag} {mg : Str → Option Value} {base : Heap}

/-! two legs -/
def nth (i : Nat) (t : Tri) : Fq := match i with
  | 0 => t.1
  | 1 => t.2.1
  | _ => t.2.2
theorem byTri_at {a b : Tri} {i : Nat} (hi : i < 3) (h : ∀ j, j < i → cmp (nth j a) (nth j b) = 0) (hc : cmp (nth i a) (nth i b) ≠ 0) : byTri a b = cmp (nth i a) (nth i b) := by
  unfold byTri
  match i, hi with
  | 0, _ =>
    have hc : cmp a.1 b.1 ≠ 0 := hc
    rw [if_pos hc]
    rfl
  | 1, _ =>
    have h0 : cmp a.1 b.1 = 0 := h 0 (by omega)
    have hc : cmp a.2.1 b.2.1 ≠ 0 := hc
    rw [if_neg (by omega), if_pos hc]
    rfl
  | 2, _ =>
    have h0 : cmp a.1 b.1 = 0 := h 0 (by omega)
    have h1 : cmp a.2.1 b.2.1 = 0 := h 1 (by omega)
    have hc : cmp a.2.2 b.2.2 ≠ 0 := hc
    rw [if_neg (by omega), if_neg (by omega), if_pos hc]
    rfl
theorem byTri_end {a b : Tri} (h : ∀ j, j < 3 → cmp (nth j a) (nth j b) = 0) : byTri a b = 0 := by
  unfold byTri
  have h0 : cmp a.1 b.1 = 0 := h 0 (by omega)
  have h1 : cmp a.2.1 b.2.1 = 0 := h 1 (by omega)
  have h2 : cmp a.2.2 b.2.2 = 0 := h 2 (by omega)
  rw [if_neg (by omega), if_neg (by omega), if_neg (by omega)]
theorem tri_at {H : Hp} {a : Tri} {x y z v : V} {i : Nat} (h1 : F2 K H x a.1) (h2 : F2 K H y a.2.1) (h3 : F2 K H z a.2.2) (e : [x, y, z][i]? = some v) : F2 K H v (nth i a) := by
  match i, e with
  | 0, e =>
    have e : x = v := Option.some.inj e
    rw [← e]
    exact h1
  | 1, e =>
    have e : y = v := Option.some.inj e
    rw [← e]
    exact h2
  | 2, e =>
    have e : z = v := Option.some.inj e
    rw [← e]
    exact h3
  | _ + 3, e => simp at e
theorem tri_fit {a : Tri} (h : TriOk a) : ∀ i, FitC (nth i a)
  | 0 => h.a
  | 1 => h.b
  | _ + 2 => h.c
structure PreBy (a b : Tri) : Prop where
  a : TriOk a
  b : TriOk b
abbrev s_by_parts : Stmt := topS 16
theorem sc_by_parts : FnScope ["one", "other", "mine", "its"] ["one", "other"] (defScope s_by_parts) := ⟨rfl, rfl, rfl, by decide +kernel, rfl, by decide +kernel, by decide +kernel⟩
theorem b_by_parts : BindsBy "by_parts" s_by_parts ["one", "other"] := fun _ _ _ _ _ _ us hl => match us, hl with | [_, _], _ => rfl
abbrev spBy (K : PySem.W.Frag) : Sp := Sp2 K T3 T3 RI PreBy byTri
theorem d_by_parts (T : Txt K mg "by_parts" s_by_parts) (n : Nm K mg) (d_compared : Def P w K mg base "compared" 1 ["one", "other"] (spCompared K)) : Def P w K mg base "by_parts" 2 ["one", "other"] (spBy K) := by
  refine mkDef T sc_by_parts b_by_parts (len2 rfl) fun f cdv A outer s H vs Q E hr kk h => ?_
  obtain ⟨x, y, a, b, rfl, hx, hy, hp, q⟩ := h
  refine ⟨_, (pss_cons (ps_for PassesOwn.never rfl (pzip K (by rfl) n.zip (pa_cons (pv 0) (pa_cons (pv 1) pa_nil))) (pgT (n := 2) K rfl (pgs_cons (pg_name (i := 2) sc_by_parts.nd rfl (.inl rfl)) (pgs_cons (pg_name (i := 3) sc_by_parts.nd rfl (.inl rfl)) pgs_nil)))
    (pss_one (ps_if (pt_cmpR op_ne (pcall d_compared hr (pa_cons (pv 2) (pa_cons (pv 3) pa_nil))) pe_int (nomark _))
    (pss_one (ps_ret (pcall d_compared hr (pa_cons (pv 2) (pa_cons (pv 3) pa_nil)))))
    pss_nil)))
  (pss_one (ps_ret pe_int))), ?_⟩
  obtain ⟨p1, x0, x1, x2, rfl, hS, hx0, hx1, hx2⟩ := hx
  obtain ⟨p2, y0, y1, y2, rfl, hT, hy0, hy1, hy2⟩ := hy
  k_extra "lp"
  refine r_zipT hS hT ?_
  refine for_K (walk_zipT (n := 3) rfl) (fun i σ H' => ∃ z2 z3, σ = [some (.ref p1), some (.ref p2), z2, z3] ∧ Same H H' ∧ ∀ j, j < i → cmp (nth j a) (nth j b) = 0) ⟨none, none, rfl, Same.refl H, fun j hj => absurd hj (by omega)⟩ (fun i σ H' _ ⟨_, _, _, s1, _⟩ => ⟨Same.sqt s1 hS, Same.sqt s1 hT⟩) ?_ ?_
  · rintro i v σ H1 H2 hi ⟨z2, z3, rfl, s1, hz⟩ ⟨T', u1, u2, rfl, nT, rfl, e1, e2⟩
    have s2 : Same H1 (upd H1 T' (.tup [u1, u2])) := same_upd nT
    have r1 : F2 K H u1 (nth i a) := tri_at hx0 hx1 hx2 e1
    have r2 : F2 K H u2 (nth i b) := tri_at hy0 hy1 hy2 e2
    have f1 : FitsC (nth i a) (nth i b) := ⟨tri_fit hp.a i, tri_fit hp.b i⟩
    refine r_gtup (xs := [u1, u2]) (.inl (.inl upd_same)) rfl ?_
    k_extra "lp"
    refine ite2 (fun e => ?_) (fun e => ?_)
    · have hc : cmp (nth i a) (nth i b) ≠ 0 := by simpa using e
      k_extra "lp"
      rw [← byTri_at hi hz hc]
      exact q _ _ (by k_extra "same") rfl
    · have hc : cmp (nth i a) (nth i b) = 0 := by simpa using e
      k_extra "lp"
      refine ⟨some u1, some u2, rfl, by k_extra "same", fun j hj => ?_⟩
      by_cases ej : j = i
      · rw [ej]; exact hc
      · exact hz j (by omega)
  · rintro σ H1 ⟨z2, z3, rfl, s1, hz⟩
    k_extra "lp"
    rw [← byTri_end hz]
    exact q _ _ s1 rfl
/-! a side -/
def nthP (i : Nat) (c : Fq × Fq) : Fq := match i with
  | 0 => c.1
  | _ => c.2
theorem pair_at {H : Hp} {c : Fq × Fq} {x y v : V} {i : Nat} (h1 : F2 K H x c.1) (h2 : F2 K H y c.2) (e : [x, y][i]? = some v) : F2 K H v (nthP i c) := by
  match i, e with
  | 0, e =>
    have e : x = v := Option.some.inj e
    rw [← e]
    exact h1
  | 1, e =>
    have e : y = v := Option.some.inj e
    rw [← e]
    exact h2
  | _ + 2, e => simp at e
theorem corner_pt {rho : Fq} {c : Fq × Fq} (h : Corner rho c) : ∀ i, Pt (nthP i c) 12
  | 0 => h.s
  | _ + 1 => h.t
theorem two_at {α : Type} {f : Nat → α} {i : Nat} {c : α} (e : [f 0, f 1][i]? = some c) : c = f i := by
  match i, e with
  | 0, e => exact (Option.some.inj e).symm
  | 1, e => exact (Option.some.inj e).symm
  | _ + 2, e => simp at e
structure PreSide (l o : Leg) (one far : Fq × Fq) : Prop where
  l : LegOk l
  o : LegOk o
  cs : ∃ rho, Rho rho ∧ Corner rho one ∧ Corner rho far
abbrev s_on_side : Stmt := topS 17
theorem sc_on_side : FnScope ["leg", "other", "one", "far", "along", "share", "begin", "end", "part", "last"] ["leg", "other", "one", "far"] (defScope s_on_side) := ⟨rfl, rfl, rfl, by decide +kernel, rfl, by decide +kernel, by decide +kernel⟩
theorem b_on_side : BindsBy "on_side" s_on_side ["leg", "other", "one", "far"] := fun _ _ _ _ _ _ us hl => match us, hl with | [_, _, _, _], _ => rfl
abbrev spSide (K : PySem.W.Frag) : Sp := Sp4 K P2 P2 P2 P2 P2 PreSide onSide
theorem d_on_side (T : Txt K mg "on_side" s_on_side) (n : Nm K mg) (d_parting : Def P w K mg base "parting" 4 ["leg", "other", "s", "t"] (spParting K)) (d_dot : Def P w K mg base "dot" 3 ["one", "other"] (spDot K)) (d_added : Def P w K mg base "added" 2 ["one", "other"] (spAdded K)) (d_lessened : Def P w K mg base "lessened" 2 ["one", "other"] (spLessened K))
    (d_times : Def P w K mg base "times" 2 ["one", "other"] (spTimes K)) (d_over : Def P w K mg base "over" 2 ["one", "other"] (spOver K)) : Def P w K mg base "on_side" 5 ["leg", "other", "one", "far"] (spSide K) := by
  refine mkDef T sc_on_side b_on_side (len4 rfl) fun f cdv A outer s H vs Q E hr kk h => ?_
  obtain ⟨x, y, z, u, a, b, c, d, rfl, hx, hy, hz, hu, hp, q⟩ := h
  obtain ⟨q0, m0, z0⟩ := n.nought
  replace z0 := z0 H
  obtain ⟨rho, hrho, c1, c2⟩ := hp.cs
  have hl := hp.l
  have ho := hp.o
  refine ⟨_, (pss_cons (ps_par (i := 6) (j := 7) (by rfl) sc_on_side.nd rfl rfl (by decide) rfl rfl (pa_cons (pcall d_parting hr (pa_cons (pv 0) (pa_cons (pv 1) (pa_cons (pe_ix (ixT K) (pv 2) pe_int (fun _ _ => rfl)) (pa_cons (pe_ix (ixT K) (pv 2) pe_int (fun _ _ => rfl)) pa_nil))))) (pa_cons (pcall d_parting hr (pa_cons (pv 0) (pa_cons (pv 1) (pa_cons (pe_ix (ixT K) (pv 3) pe_int (fun _ _ => rfl)) (pa_cons (pe_ix (ixT K) (pv 3) pe_int (fun _ _ => rfl)) pa_nil))))) pa_nil)) (by rfl))
  (pss_cons (ps_set (i := 4) sc_on_side.nd rfl (.inl rfl) (pe_tup (pa_cons (pcall d_lessened hr (pa_cons (pe_ix (ixT K) (pv 7) pe_int (fun _ _ => rfl)) (pa_cons (pe_ix (ixT K) (pv 6) pe_int (fun _ _ => rfl)) pa_nil))) (pa_cons (pcall d_lessened hr (pa_cons (pe_ix (ixT K) (pv 7) pe_int (fun _ _ => rfl)) (pa_cons (pe_ix (ixT K) (pv 6) pe_int (fun _ _ => rfl)) pa_nil))) pa_nil))))
  (pss_cons (ps_if (pt_cmpR (eqD K hr) (pv 4) (pe_tup (pa_cons (pe_glob (v := .ref q0) rfl m0 rfl) (pa_cons (pe_glob (v := .ref q0) rfl m0 rfl) pa_nil))) (nomark _))
    (pss_one (ps_ret (pv 2)))
    pss_nil)
  (pss_cons (ps_set (i := 5) sc_on_side.nd rfl (.inr rfl) (pcall d_over hr (pa_cons (pcall d_times hr (pa_cons (pe_tup (pa_cons (pe_un un_neg pe_int) (pa_cons pe_int pa_nil))) (pa_cons (pcall d_dot hr (pa_cons (pv 6) (pa_cons (pv 4) pa_nil))) pa_nil))) (pa_cons (pcall d_dot hr (pa_cons (pv 4) (pa_cons (pv 4) pa_nil))) pa_nil))))
  (pss_cons (ps_if (pt_cmpR op_le (pe_ix (ixT K) (pv 5) pe_int (fun _ _ => rfl)) pe_int (nomark _))
    (pss_one (ps_ret (pv 2)))
    pss_nil)
  (pss_cons (ps_if (pt_cmpR op_ge (pe_ix (ixT K) (pv 5) pe_int (fun _ _ => rfl)) (pe_ix (ixT K) (pv 5) pe_int (fun _ _ => rfl)) (nomark _))
    (pss_one (ps_ret (pv 3)))
    pss_nil)
  (pss_one (ps_ret (pe_callTy (tupOf K) (by rfl) n.tuple (by decide +kernel) (pa_cons (pe_lc (own := [("part", 8), ("last", 9)]) rfl sc_on_side.nd (pzip K (by rfl) n.zip (pa_cons (pv 2) (pa_cons (pv 3) pa_nil))) (blkOk_by (N := ["leg", "other", "one", "far", "along", "share", "begin", "end", "part", "last"]) (sc := defScope s_on_side) (by decide +kernel)) (fun _ _ _ _ _ => (pgT (n := 2) K rfl (pgs_cons (pg_name (i := 8) sc_on_side.nd rfl (.inl rfl)) (pgs_cons (pg_name (i := 9) sc_on_side.nd rfl (.inl rfl)) pgs_nil)))) (fun _ _ _ _ _ => pts_nil) (fun _ _ _ _ _ => (pcall d_added hr (pa_cons (pv 8) (pa_cons (pcall d_times hr (pa_cons (pv 5) (pa_cons (pcall d_lessened hr (pa_cons (pv 9) (pa_cons (pv 8) pa_nil))) pa_nil))) pa_nil))))) pa_nil)))))))))), ?_⟩
  have p1 : PrePart a b c.1 c.2 := ⟨hl, ho, c1.s.mono (by omega), c1.t.mono (by omega)⟩
  have p2 : PrePart a b d.1 d.2 := ⟨hl, ho, c2.s.mono (by omega), c2.t.mono (by omega)⟩
  have g1 := parting_ok hl ho c1.s c1.t
  have g2 := parting_ok hl ho c2.s c2.t
  have f1 : Fits (parting a b d.1 d.2).1 (parting a b c.1 c.2).1 := ⟨fitOf g2.1 g2.2.2.1 (by omega) (by omega), fitOf g1.1 g1.2.2.1 (by omega) (by omega)⟩
  have f2 : Fits (parting a b d.1 d.2).2 (parting a b c.1 c.2).2 := ⟨fitOf g2.2.1 g2.2.2.2 (by omega) (by omega), fitOf g1.2.1 g1.2.2.2 (by omega) (by omega)⟩
  have f3 : PreDot (parting a b c.1 c.2) (along a b c d) := ⟨parting_fit hl ho c1.s c1.t (by omega), along_fit hl ho c1 c2⟩
  have f4 : PreDot (along a b c d) (along a b c d) := ⟨along_fit hl ho c1 c2, along_fit hl ho c1 c2⟩
  have k1 := bd_ok hl ho c1 c2
  have k2 := neg_ok hl ho c1 c2
  have k3 := ad_ok hl ho c1 c2
  have f5 : Fits (-1, 1) (dot (parting a b c.1 c.2) (along a b c d)) := ⟨fitI (i := 1) (by decide) (by omega), fitOf k1.1 k1.2 (by omega) (by omega)⟩
  k_extra "lp"
  rename_i v1 H1 s1 r1 v2 H2 s2 r2
  replace r1 : P2 K H1 v1 (along a b c d) := r1
  refine r_eqD (r := P2) (by decide) (by k_extra "rep") (by k_extra "rep") ?_
  k_extra "lp"
  refine ite2 (fun e => ?_) (fun e => ?_)
  · have e := of_decide_eq_true e
    k_extra "lp"
    have eq : onSide a b c d = c := by unfold onSide; rw [if_pos e]
    refine q _ _ (by k_extra "same") ?_
    rw [eq]
    k_extra "rep"
  · have e : along a b c d ≠ ((0, 1), (0, 1)) := fun z => e (decide_eq_true z)
    have k4 := share_ok hl ho c1 c2 e
    have f6 : FitsD (mul (-1, 1) (dot (parting a b c.1 c.2) (along a b c d))) (dot (along a b c d) (along a b c d)) := ⟨fitOf k2.1 k2.2 (by omega) (by omega), fitOf k3.1 k3.2 (by omega) (by omega), ad_ne hl ho c1 c2 e⟩
    k_extra "lp"
    rename_i v3 H3 s3 r3
    replace r3 : F2 K H3 v3 (share a b c d) := r3
    refine ite2 (fun e0 => ?_) (fun e0 => ?_)
    · have e0 := of_decide_eq_true e0
      k_extra "lp"
      have eq : onSide a b c d = c := by unfold onSide; rw [if_neg e, if_pos (show (share a b c d).1 ≤ 0 from e0)]
      refine q _ _ (by k_extra "same") ?_
      rw [eq]
      k_extra "rep"
    · have e0 : ¬ (share a b c d).1 ≤ 0 := fun z => e0 (decide_eq_true z)
      k_extra "lp"
      refine ite2 (fun e1 => ?_) (fun e1 => ?_)
      · have e1 := of_decide_eq_true e1
        k_extra "lp"
        have eq : onSide a b c d = d := by unfold onSide; rw [if_neg e, if_neg e0, if_pos e1]
        refine q _ _ (by k_extra "same") ?_
        rw [eq]
        k_extra "rep"
      · have e1 : ¬ (share a b c d).2 ≤ (share a b c d).1 := fun z => e1 (decide_eq_true z)
        k_extra "lp"
        have eq : onSide a b c d = (mix (share a b c d) c.1 d.1, mix (share a b c d) c.2 d.2) := by unfold onSide; rw [if_neg e, if_neg e0, if_neg e1]
        rw [eq] at q
        obtain ⟨pz, zx, zy, rfl, hzS, hz0, hz1⟩ := hz
        obtain ⟨pu, ux, uy, rfl, huS, hu0, hu1⟩ := hu
        have sH : Same H H3 := by k_extra "same"
        refine r_zipT (Same.sqt sH hzS) (Same.sqt sH huS) ?_
        refine lc_map (K := K) (rc := F2) (walk_zipT (n := 2) rfl) [mix (share a b c d) (nthP 0 c) (nthP 0 d), mix (share a b c d) (nthP 1 c) (nthP 1 d)] rfl (by decide) (fun H' s' => ⟨Same.sqt s' (Same.sqt sH hzS), Same.sqt s' (Same.sqt sH huS)⟩) ?_ ?_ gpair_mono
        · rintro i x H4 H5 cc Post hi s4 hc ⟨T', u1, u2, rfl, nT, rfl, g1, g2⟩ hq
          have s5 : Same H4 (upd H4 T' (.tup [u1, u2])) := same_upd nT
          have r4 : F2 K H u1 (nthP i c) := pair_at hz0 hz1 g1
          have r5 : F2 K H u2 (nthP i d) := pair_at hu0 hu1 g2
          have ec := two_at (f := fun i => mix (share a b c d) (nthP i c) (nthP i d)) hc
          have t1 := corner_pt c1 i
          have t2 := corner_pt c2 i
          have mB := mix_B k4.1 k4.2 t1 t2
          have mO := mix_ok k4.1 t1.ok t2.ok
          have f7 : Fits (nthP i d) (nthP i c) := ⟨fitOf t2.ok t2.b (by omega) (by omega), fitOf t1.ok t1.b (by omega) (by omega)⟩
          have f8 : Fits (share a b c d) (sub (nthP i d) (nthP i c)) := ⟨fitOf k4.1 k4.2 (by omega) (by omega), fitOf mO.1 mB.1 (by omega) (by omega)⟩
          have f9 : Fits (nthP i c) (mul (share a b c d) (sub (nthP i d) (nthP i c))) := ⟨fitOf t1.ok t1.b (by omega) (by omega), fitOf mO.2.1 mB.2.1 (by omega) (by omega)⟩
          refine r_gtup (xs := [u1, u2]) (.inl (.inl upd_same)) rfl ?_
          k_extra "lp"
          refine ⟨rfl, ?_⟩
          k_extra "lp"
          refine hq _ _ (by k_extra "same") ?_
          rw [ec]
          k_extra "rep"
        · intro p us H4 s4 _ _ hL
          k_extra "lp"
          refine r_tupU hL ?_
          rintro _ H5 s5 ⟨pr, vs, rfl, hS, ha⟩
          refine q _ _ (by k_extra "same") ?_
          match vs, ha with
          | [w0, w1], ha => exact ⟨pr, w0, w1, rfl, hS, ha.2 0 _ _ rfl rfl, ha.2 1 _ _ rfl rfl⟩
          | [], ha => have := ha.1; simp at this
          | [_], ha => have := ha.1; simp at this
          | _ :: _ :: _ :: _, ha => have := ha.1; simp at this
end
end Lp
set_option Elab.async false
set_option linter.all false
set_option maxRecDepth 100000
set_option maxHeartbeats 4000000

namespace Lp
open PySem PySem.Spec PyProof.Rows L2
local macro_rules | `(tactic| k_extra "rep") => `(tactic| first
  | assumption
  | exact rfl
  | exact BI.mk _ _ _
  | (refine up (by assumption) ?_; k_extra "rep"))
local macro_rules | `(tactic| k_extra "same") => `(tactic| first
  | assumption
  | exact Same.refl _
  | (refine Same.trans ?_ (by assumption); k_extra "same"))
local macro_rules | `(tactic| k_extra "sz") => `(tactic| with_reducible first
  | assumption
  | exact mul_lt (by k_extra "sz") (by k_extra "sz")
  | exact add_sz (by k_extra "sz") (by k_extra "sz")
  | exact sub_sz (by k_extra "sz") (by k_extra "sz")
  | (refine lit_sz ?_; decide))
local macro_rules | `(tactic| k_extra "st") => `(tactic| (simp only [L2.start, List.set_cons_succ, List.set_cons_zero, List.map_cons, List.map_nil, List.cons_append, List.nil_append, List.length_cons, List.length_nil, List.replicate, L2.wipe]; exact rfl))
local macro_rules | `(tactic| k_extra "lp1") => `(tactic| with_reducible first
  | refine r_seq ?_ | refine r_asg ?_ | refine r_ret ?_ | refine r_drop ?_ | refine r_if ?_ | refine r_var rfl ?_ | refine r_c ?_ | refine r_op ?_ | refine r_un ?_ | refine r_rI0 ?_ | refine r_rU ?_
  | refine r_cons ?_ | refine r_nil ?_ | refine r_call ?_ | refine r_cb ?_ | refine r_tup ?_ | refine r_lst ?_ | refine r_test ?_ | refine r_tB ?_ | refine r_bl ?_ | refine r_ifE ?_ | refine r_gcons ?_ | refine r_gnil ?_
  | refine r_gcd ?_ | refine r_next ?_ | refine r_slice ?_ | refine r_nopart ?_ | refine r_part ?_ | refine r_partI ?_ | refine r_bm ?_ | refine r_chain ?_ | refine r_eqI ?_ | refine r_neI ?_ | refine r_zip ?_ | refine r_itT ?_ | refine r_itL ?_ | refine r_for ?_ | refine r_lc ?_ | refine r_intI ?_ | refine r_intB ?_ | refine r_abs ?_ | refine r_max ?_ | refine r_none ?_ | refine r_and ?_ | refine r_or ?_ | refine r_not ?_ | refine r_andT ?_ | refine r_orT ?_ | refine r_notT ?_ | refine r_par ?_ | refine r_two rfl ?_ | refine r_gname rfl ?_)
local macro_rules | `(tactic| k_extra "lpn1") => `(tactic| with_reducible first
  | refine r_seq ?_ | refine r_asg ?_ | refine r_var rfl ?_ | refine r_op ?_ | refine r_cons ?_ | refine r_gcons ?_ | refine r_gnil ?_ | refine r_two (by k_extra "st") ?_ | refine r_gname (by k_extra "st") ?_)
local macro_rules | `(tactic| k_extra "lp2") => `(tactic| first
  | with_reducible refine r_mul (by assumption) (by assumption) ?_
  | with_reducible refine r_fx0 (by k_extra "rep") ?_
  | with_reducible refine r_fx1 (by k_extra "rep") ?_)
local macro_rules | `(tactic| k_extra "lp3") => `(tactic| first
  | with_reducible refine r_gfrac (by k_extra "rep") ?_
  | (with_reducible refine r_gpair (ra := F2) (rb := F2) (by k_extra "rep") ?_; intro _ _ _ _)
  | (with_reducible refine r_gpair (ra := P2) (rb := P2) (by k_extra "rep") ?_; intro _ _ _ _)
  | (with_reducible refine r_ix0 (ra := F2) (rb := F2) (by k_extra "rep") ?_; intro _ _)
  | (with_reducible refine r_ix1 (ra := F2) (rb := F2) (by k_extra "rep") ?_; intro _ _)
  | (with_reducible refine new_frac (by assumption) ?_; intro _ _ _ _)
  | (with_reducible refine new_pair (ra := F2) (rb := F2) (by k_extra "rep") (by k_extra "rep") ?_; intro _ _ _ _)
  | (with_reducible refine new_pair (ra := P2) (rb := P2) (by k_extra "rep") (by k_extra "rep") ?_; intro _ _ _ _)
  | (with_reducible refine new_tri (ra := F2) (rb := F2) (rc := F2) (by k_extra "rep") (by k_extra "rep") (by k_extra "rep") ?_; intro _ _ _ _)
  | (with_reducible refine sp1I (by k_extra "rep") (by assumption) ?_; intro _ _)
  | (with_reducible refine sp2I (by k_extra "rep") (by k_extra "rep") (by assumption) ?_; intro _ _)
  | (with_reducible refine sp1B (by k_extra "rep") (by assumption) ?_; intro _ _)
  | (with_reducible refine sp2B (by k_extra "rep") (by k_extra "rep") (by assumption) ?_; intro _ _)
  | (with_reducible refine sp3B (by k_extra "rep") (by k_extra "rep") (by k_extra "rep") (by assumption) ?_; intro _ _)
  | (with_reducible refine sp4B (by k_extra "rep") (by k_extra "rep") (by k_extra "rep") (by k_extra "rep") (by assumption) ?_; intro _ _)
  | (with_reducible refine sp1 (by k_extra "rep") (by assumption) ?_; intro _ _ _ _)
  | (with_reducible refine sp2 (by k_extra "rep") (by k_extra "rep") (by assumption) ?_; intro _ _ _ _)
  | (with_reducible refine sp4 (by k_extra "rep") (by k_extra "rep") (by k_extra "rep") (by k_extra "rep") (by assumption) ?_; intro _ _ _ _)
  | (with_reducible refine sp3 (by k_extra "rep") (by k_extra "rep") (by k_extra "rep") (by assumption) ?_; intro _ _ _ _))
local macro_rules | `(tactic| k_extra "lp4") => `(tactic| first
  | with_reducible refine r_gtup (by assumption) rfl ?_
  | (with_reducible refine new_any (by assumption) (Nat.le_of_ble_eq_true rfl) ?_; intro _ _ _ _))
local macro_rules | `(tactic| k_extra "lpn") => `(tactic| repeat (first | k_extra "lpn1" | k_extra "lp1" | k_extra "lp2" | k_extra "lp3" | k_extra "lp4"))
local macro_rules | `(tactic| k_extra "lp") => `(tactic| repeat (first | k_extra "lp1" | k_extra "lp2" | k_extra "lp3" | k_extra "lp4"))
section
variable {P : Program} {w : World} {K : PySem.W.Frag} {mg : Str → Option Value} {base : Heap}

/-! where the lines meet -/
structure PreC (l o : Leg) : Prop where
  l : LegOk l
  o : LegOk o
abbrev s_crossing : Stmt := topS 18
theorem sc_crossing : FnScope ["leg", "other", "whole", "s", "t", "wide", "high", "its_wide", "its_high", "x", "y", "far_x", "far_y", "its_x", "its_y", "end_x", "end_y"] ["leg", "other"] (defScope s_crossing) := ⟨rfl, rfl, rfl, by decide +kernel, rfl, by decide +kernel, by decide +kernel⟩
theorem b_crossing : BindsBy "crossing" s_crossing ["leg", "other"] := fun _ _ _ _ _ _ us hl => match us, hl with | [_, _], _ => rfl
abbrev spCrossing (K : PySem.W.Frag) : Sp := Sp2 K P2 P2 (RO P2) PreC crossing
theorem d_crossing (T : Txt K mg "crossing" s_crossing) (d_over : Def P w K mg base "over" 2 ["one", "other"] (spOver K)) : Def P w K mg base "crossing" 3 ["leg", "other"] (spCrossing K) := by
  refine mkDef T sc_crossing b_crossing (len2 rfl) fun f cdv A outer s H vs Q E hr kk h => ?_
  obtain ⟨x, y, a, b, rfl, hx, hy, hp, q⟩ := h
  refine ⟨_, (pss_cons (ps_asg (pv 0) (pgT (n := 2) K rfl (pgs_cons (pgT (n := 2) K rfl (pgs_cons (pg_name (i := 9) sc_crossing.nd rfl (.inl rfl)) (pgs_cons (pg_name (i := 10) sc_crossing.nd rfl (.inl rfl)) pgs_nil))) (pgs_cons (pgT (n := 2) K rfl (pgs_cons (pg_name (i := 11) sc_crossing.nd rfl (.inl rfl)) (pgs_cons (pg_name (i := 12) sc_crossing.nd rfl (.inl rfl)) pgs_nil))) pgs_nil))))
  (pss_cons (ps_asg (pv 1) (pgT (n := 2) K rfl (pgs_cons (pgT (n := 2) K rfl (pgs_cons (pg_name (i := 13) sc_crossing.nd rfl (.inl rfl)) (pgs_cons (pg_name (i := 14) sc_crossing.nd rfl (.inl rfl)) pgs_nil))) (pgs_cons (pgT (n := 2) K rfl (pgs_cons (pg_name (i := 15) sc_crossing.nd rfl (.inl rfl)) (pgs_cons (pg_name (i := 16) sc_crossing.nd rfl (.inl rfl)) pgs_nil))) pgs_nil))))
  (pss_cons (ps_asg (pe_tup (pa_cons (pe_op op_sub (pv 11) (pv 9)) (pa_cons (pe_op op_sub (pv 12) (pv 10)) (pa_cons (pe_op op_sub (pv 15) (pv 13)) (pa_cons (pe_op op_sub (pv 16) (pv 14)) pa_nil))))) (pgT (n := 4) K rfl (pgs_cons (pg_name (i := 5) sc_crossing.nd rfl (.inl rfl)) (pgs_cons (pg_name (i := 6) sc_crossing.nd rfl (.inl rfl)) (pgs_cons (pg_name (i := 7) sc_crossing.nd rfl (.inl rfl)) (pgs_cons (pg_name (i := 8) sc_crossing.nd rfl (.inl rfl)) pgs_nil))))))
  (pss_cons (ps_set (i := 2) sc_crossing.nd rfl (.inl rfl) (pe_op op_sub (pe_op op_mulW (pv 5) (pv 8)) (pe_op op_mulW (pv 6) (pv 7))))
  (pss_cons (ps_if (pt_cmpR op_eq (pv 2) pe_int (nomark _))
    (pss_one (ps_ret pe_non))
    pss_nil)
  (pss_cons (ps_set (i := 3) sc_crossing.nd rfl (.inl rfl) (pe_op op_sub (pe_op op_mulW (pe_op op_sub (pv 13) (pv 9)) (pv 8)) (pe_op op_mulW (pe_op op_sub (pv 14) (pv 10)) (pv 7))))
  (pss_cons (ps_set (i := 4) sc_crossing.nd rfl (.inl rfl) (pe_op op_sub (pe_op op_mulW (pe_op op_sub (pv 13) (pv 9)) (pv 6)) (pe_op op_mulW (pe_op op_sub (pv 14) (pv 10)) (pv 5))))
  (pss_one (ps_ret (pe_tup (pa_cons (pcall d_over hr (pa_cons (pe_tup (pa_cons (pv 3) (pa_cons pe_int pa_nil))) (pa_cons (pe_tup (pa_cons (pv 2) (pa_cons pe_int pa_nil))) pa_nil))) (pa_cons (pcall d_over hr (pa_cons (pe_tup (pa_cons (pv 4) (pa_cons pe_int pa_nil))) (pa_cons (pe_tup (pa_cons (pv 2) (pa_cons pe_int pa_nil))) pa_nil))) pa_nil)))))))))))), ?_⟩
  have hl := hp.l
  have ho := hp.o
  have w9 : ∀ {z : Int} {i : Nat}, z.natAbs < 2 ^ i → i ≤ 9000 → z.natAbs < 2 ^ 9000 := fun h e => lt_p2 h e
  have n1 := w9 (sub_lt hl.c hl.a) (by omega)
  have n2 := w9 (sub_lt hl.d hl.b) (by omega)
  have n3 := w9 (sub_lt ho.c ho.a) (by omega)
  have n4 := w9 (sub_lt ho.d ho.b) (by omega)
  have n5 := w9 (sub_lt ho.a hl.a) (by omega)
  have n6 := w9 (sub_lt ho.b hl.b) (by omega)
  k_extra "lpn"
  refine ite2 (fun e => ?_) (fun e => ?_)
  · have e : whole a b = 0 := of_decide_eq_true e
    k_extra "lpn"
    refine q _ _ (by k_extra "same") ?_
    unfold crossing
    rw [if_pos e]
    exact rfl
  · have e : whole a b ≠ 0 := fun z => e (decide_eq_true z)
    have f1 : FitsD (crS a b, 1) (whole a b, 1) := ⟨fitI (crS_lt hl ho) (by omega), fitI (whole_lt hl ho) (by omega), e⟩
    have f2 : FitsD (crT a b, 1) (whole a b, 1) := ⟨fitI (crT_lt hl ho) (by omega), fitI (whole_lt hl ho) (by omega), e⟩
    unfold crS whole at f1
    unfold crT whole at f2
    k_extra "lpn"
    refine q _ _ (by k_extra "same") ?_
    unfold crossing
    rw [if_neg e]
    show P2 K _ _ _
    unfold crS crT whole
    k_extra "rep"
/-! parts within rho -/
structure PreW (s t rho : Fq) : Prop where
  fs : Fit s
  ft : Fit t
  st : Fit (sub s t)
  fr : Fit rho
abbrev s_is_within : Stmt := topS 19
theorem sc_is_within : FnScope ["s", "t", "rho", "between", "gap", "part"] ["s", "t", "rho"] (defScope s_is_within) := ⟨rfl, rfl, rfl, by decide +kernel, rfl, by decide +kernel, by decide +kernel⟩
theorem b_is_within : BindsBy "is_within" s_is_within ["s", "t", "rho"] := fun _ _ _ _ _ _ us hl => match us, hl with | [_, _, _], _ => rfl
abbrev spWithin (K : PySem.W.Frag) : Sp := Sp3 K F2 F2 F2 RB PreW isWithin
theorem d_is_within (T : Txt K mg "is_within" s_is_within) (n : Nm K mg) (d_compared : Def P w K mg base "compared" 1 ["one", "other"] (spCompared K)) (d_lessened : Def P w K mg base "lessened" 2 ["one", "other"] (spLessened K)) : Def P w K mg base "is_within" 3 ["s", "t", "rho"] (spWithin K) := by
  refine mkDef T sc_is_within b_is_within (len3 rfl) fun f cdv A outer s H vs Q E hr kk h => ?_
  obtain ⟨x, y, z, a, b, c, rfl, hx, hy, hz, hp, q⟩ := h
  obtain ⟨q0, m0, z0⟩ := n.nought
  obtain ⟨q1, m1, z1⟩ := n.one
  replace z0 := z0 H
  replace z1 := z1 H
  refine ⟨_, (pss_cons (ps_setLc (i := 3) (own := [("part", 5)]) rfl sc_is_within.nd rfl rfl (sw_true rfl rfl rfl (by decide +kernel)) (piT K (pe_tup (pa_cons (pv 0) (pa_cons (pv 1) pa_nil)))) (blkOk_by (N := ["s", "t", "rho", "between", "gap", "part"]) (sc := defScope s_is_within) (by decide +kernel)) (fun _ _ _ _ _ => (pg_name (i := 5) sc_is_within.nd rfl (.inl rfl))) (fun _ _ _ _ _ => pts_nil) (fun _ _ _ _ _ => (pe_chain op_le op_le (pcall d_compared hr (pa_cons (pe_glob (v := .ref q0) rfl m0 rfl) (pa_cons (pv 5) pa_nil))) pe_int (pcall d_compared hr (pa_cons (pe_glob (v := .ref q1) rfl m1 rfl) (pa_cons (pv 5) pa_nil))))))
  (pss_cons (ps_set (i := 4) sc_is_within.nd rfl (.inl rfl) (pcall d_lessened hr (pa_cons (pv 0) (pa_cons (pv 1) pa_nil))))
  (pss_one (ps_ret (pe_and (pe_callB (allS K rfl) (by rfl) n.all (by decide +kernel) (pa_cons (pv 3) pa_nil)) (pe_one (pe_cmpR op_le (pcall d_compared hr (pa_cons (pe_tup (pa_cons (pe_callB abs1 (by rfl) n.abs (by decide +kernel) (pa_cons (pe_ix (ixT K) (pv 4) pe_int (fun _ _ => rfl)) pa_nil)) (pa_cons (pe_ix (ixT K) (pv 4) pe_int (fun _ _ => rfl)) pa_nil))) (pa_cons (pv 2) pa_nil))) pe_int (nomark _)))))))), ?_⟩
  k_extra "lp"
  rename_i v1 H1 s1 r1
  obtain ⟨pv, w0, w1, rfl, hS, h0, h1⟩ := r1
  refine ⟨pv, rfl, ⟨_, hS⟩, ?_⟩
  refine lc_map (K := K) (rc := RB) walk_tup [isPart (nthP 0 (a, b)), isPart (nthP 1 (a, b))] rfl (by simp) (fun H' s' => Same.sqt s' hS) ?_ ?_ gname_mono
  · rintro i v H2 H3 cc Post hi s2 hc ⟨rfl, g1⟩ hq
    have r1 : F2 K H1 v (nthP i (a, b)) := pair_at (c := (a, b)) h0 h1 g1
    have ec := two_at (f := fun i => isPart (nthP i (a, b))) hc
    have ft : Fit (nthP i (a, b)) := by
      match i with
      | 0 => exact hp.fs
      | _ + 1 => exact hp.ft
    have f1 : FitsC (0, 1) (nthP i (a, b)) := ⟨(fitI (i := 1) (by decide) (by omega)).c, ft.c⟩
    have f2 : FitsC (1, 1) (nthP i (a, b)) := ⟨(fitI (i := 1) (by decide) (by omega)).c, ft.c⟩
    k_extra "lp"
    refine ⟨rfl, ?_⟩
    k_extra "lp"
    unfold isPart at ec
    refine ite2 (fun e => ?_) (fun e => ?_)
    · k_extra "lp"
      refine hq _ _ (by k_extra "same") ?_
      rw [ec, e, Bool.true_and]
      rfl
    · have e : decide (cmp (0, 1) (nthP i (a, b)) ≤ 0) = false := by simpa using e
      refine hq _ _ (by k_extra "same") ?_
      rw [ec, e, Bool.false_and]
      rfl
  · intro p us H2 s2 _ _ hL
    have f3 : Fits a b := ⟨hp.fs, hp.ft⟩
    have f4 : FitsC (if (sub a b).1 < 0 then -(sub a b).1 else (sub a b).1, (sub a b).2) c := ⟨⟨absF_ok hp.st.ok, absF_B hp.st.c.b⟩, hp.fr.c⟩
    have eq : isWithin a b c = (([isPart (nthP 0 (a, b)), isPart (nthP 1 (a, b))].all id) && decide (cmp (absF (sub a b)) c ≤ 0)) := by
      unfold isWithin
      simp [nthP]
    k_extra "lp"
    refine r_all (by k_extra "rep") ?_
    k_extra "lp"
    refine ite2 (fun e => ?_) (fun e => ?_)
    · k_extra "lp"
      refine q _ _ (by k_extra "same") ?_
      rw [eq, e, Bool.true_and]
      rfl
    · have e : ([isPart (nthP 0 (a, b)), isPart (nthP 1 (a, b))].all id) = false := by simpa using e
      refine q _ _ (by k_extra "same") ?_
      rw [eq, e, Bool.false_and]
      rfl
end
end Lp
set_option Elab.async false
set_option linter.all false
set_option maxRecDepth 100000
set_option maxHeartbeats 4000000

namespace Lp
open PySem PySem.Spec PyProof.Rows L2
local macro_rules | `(tactic| k_extra "rep") => `(tactic| first
  | assumption
  | exact rfl
  | exact BI.mk _ _ _
  | (refine up (by assumption) ?_; k_extra "rep"))
local macro_rules | `(tactic| k_extra "same") => `(tactic| first
  | assumption
  | exact Same.refl _
  | (refine Same.trans ?_ (by assumption); k_extra "same"))
local macro_rules | `(tactic| k_extra "sz") => `(tactic| with_reducible first
  | assumption
  | exact mul_lt (by k_extra "sz") (by k_extra "sz")
  | exact add_sz (by k_extra "sz") (by k_extra "sz")
  | exact sub_sz (by k_extra "sz") (by k_extra "sz")
  | (refine lit_sz ?_; decide))
local macro_rules | `(tactic| k_extra "st") => `(tactic| (simp only [L2.start, List.set_cons_succ, List.set_cons_zero, List.map_cons, List.map_nil, List.cons_append, List.nil_append, List.length_cons, List.length_nil, List.replicate, L2.wipe]; exact rfl))
local macro_rules | `(tactic| k_extra "lp1") => `(tactic| with_reducible first
  | refine r_seq ?_ | refine r_asg ?_ | refine r_ret ?_ | refine r_drop ?_ | refine r_if ?_ | refine r_var rfl ?_ | refine r_c ?_ | refine r_op ?_ | refine r_un ?_ | refine r_rI0 ?_ | refine r_rU ?_
  | refine r_cons ?_ | refine r_nil ?_ | refine r_call ?_ | refine r_cb ?_ | refine r_tup ?_ | refine r_lst ?_ | refine r_test ?_ | refine r_tB ?_ | refine r_bl ?_ | refine r_ifE ?_ | refine r_gcons ?_ | refine r_gnil ?_
  | refine r_gcd ?_ | refine r_next ?_ | refine r_slice ?_ | refine r_nopart ?_ | refine r_part ?_ | refine r_partI ?_ | refine r_bm ?_ | refine r_chain ?_ | refine r_eqI ?_ | refine r_neI ?_ | refine r_zip ?_ | refine r_itT ?_ | refine r_itL ?_ | refine r_for ?_ | refine r_lc ?_ | refine r_intI ?_ | refine r_intB ?_ | refine r_abs ?_ | refine r_max ?_ | refine r_none ?_ | refine r_and ?_ | refine r_or ?_ | refine r_not ?_ | refine r_andT ?_ | refine r_orT ?_ | refine r_notT ?_ | refine r_par ?_ | refine r_two rfl ?_ | refine r_gname rfl ?_)
local macro_rules | `(tactic| k_extra "lpn1") => `(tactic| with_reducible first
  | refine r_seq ?_ | refine r_asg ?_ | refine r_var rfl ?_ | refine r_op ?_ | refine r_cons ?_ | refine r_gcons ?_ | refine r_gnil ?_ | refine r_two (by k_extra "st") ?_ | refine r_gname (by k_extra "st") ?_)
local macro_rules | `(tactic| k_extra "lp2") => `(tactic| first
  | with_reducible refine r_mul (by assumption) (by assumption) ?_
  | with_reducible refine r_fx0 (by k_extra "rep") ?_
  | with_reducible refine r_fx1 (by k_extra "rep") ?_)
local macro_rules | `(tactic| k_extra "lp3") => `(tactic| first
  | with_reducible refine r_gfrac (by k_extra "rep") ?_
  | (with_reducible refine r_gpair (ra := F2) (rb := F2) (by k_extra "rep") ?_; intro _ _ _ _)
  | (with_reducible refine r_gpair (ra := P2) (rb := P2) (by k_extra "rep") ?_; intro _ _ _ _)
  | (with_reducible refine r_ix0 (ra := F2) (rb := F2) (by k_extra "rep") ?_; intro _ _)
  | (with_reducible refine r_ix1 (ra := F2) (rb := F2) (by k_extra "rep") ?_; intro _ _)
  | (with_reducible refine new_frac (by assumption) ?_; intro _ _ _ _)
  | (with_reducible refine new_pair (ra := F2) (rb := F2) (by k_extra "rep") (by k_extra "rep") ?_; intro _ _ _ _)
  | (with_reducible refine new_pair (ra := P2) (rb := P2) (by k_extra "rep") (by k_extra "rep") ?_; intro _ _ _ _)
  | (with_reducible refine new_tri (ra := F2) (rb := F2) (rc := F2) (by k_extra "rep") (by k_extra "rep") (by k_extra "rep") ?_; intro _ _ _ _)
  | (with_reducible refine sp1I (by k_extra "rep") (by assumption) ?_; intro _ _)
  | (with_reducible refine sp2I (by k_extra "rep") (by k_extra "rep") (by assumption) ?_; intro _ _)
  | (with_reducible refine sp1B (by k_extra "rep") (by assumption) ?_; intro _ _)
  | (with_reducible refine sp2B (by k_extra "rep") (by k_extra "rep") (by assumption) ?_; intro _ _)
  | (with_reducible refine sp3B (by k_extra "rep") (by k_extra "rep") (by k_extra "rep") (by assumption) ?_; intro _ _)
  | (with_reducible refine sp4B (by k_extra "rep") (by k_extra "rep") (by k_extra "rep") (by k_extra "rep") (by assumption) ?_; intro _ _)
  | (with_reducible refine sp1 (by k_extra "rep") (by assumption) ?_; intro _ _ _ _)
  | (with_reducible refine sp2 (by k_extra "rep") (by k_extra "rep") (by assumption) ?_; intro _ _ _ _)
  | (with_reducible refine sp4 (by k_extra "rep") (by k_extra "rep") (by k_extra "rep") (by k_extra "rep") (by assumption) ?_; intro _ _ _ _)
  | (with_reducible refine sp3 (by k_extra "rep") (by k_extra "rep") (by k_extra "rep") (by assumption) ?_; intro _ _ _ _))
local macro_rules | `(tactic| k_extra "lp4") => `(tactic| first
  | with_reducible refine r_gtup (by assumption) rfl ?_
  | (with_reducible refine new_any (by assumption) (Nat.le_of_ble_eq_true rfl) ?_; intro _ _ _ _))
local macro_rules | `(tactic| k_extra "lpn") => `(tactic| repeat (first | k_extra "lpn1" | k_extra "lp1" | k_extra "lp2" | k_extra "lp3" | k_extra "lp4"))
local macro_rules | `(tactic| k_extra "lp") => `(tactic| repeat (first | k_extra "lp1" | k_extra "lp2" | k_extra "lp3" | k_extra "lp4"))
section
variable {P : Program} {w : World} {K : PySem.W.Frag} {mg : Str → Option Value} {base : Heap}

/-! the nearest couple -/
structure PreN (l o : Leg) (rho : Fq) : Prop where
  l : LegOk l
  o : LegOk o
  r : Rho rho
abbrev s_nearest : Stmt := topS 20
theorem sc_nearest : FnScope ["leg", "other", "rho", "ring", "parts", "met", "least", "s", "t", "found", "one", "far"] ["leg", "other", "rho"] (defScope s_nearest) := ⟨rfl, rfl, rfl, by decide +kernel, rfl, by decide +kernel, by decide +kernel⟩
theorem b_nearest : BindsBy "nearest" s_nearest ["leg", "other", "rho"] := fun _ _ _ _ _ _ us hl => match us, hl with | [_, _, _], _ => rfl
abbrev spNearest (K : PySem.W.Frag) : Sp := Sp3 K P2 P2 F2 T3 PreN nearest
theorem far_eq (rho : Fq) : (ring rho).drop 1 ++ (ring rho).take 1 = far rho := rfl
theorem sides_at {l o : Leg} {rho : Fq} {i : Nat} {c1 c2 : Fq × Fq} (h1 : (ring rho)[i]? = some c1) (h2 : (far rho)[i]? = some c2) : (sides l o rho)[i]? = some (onSide l o c1 c2) := by
  unfold sides
  rw [List.getElem?_zipWith, h1, h2]
/-- the loop over the candidates, read -/
def tlNear (K : PySem.W.Frag) : TS := tSeq (tAsg (tC V.non) (gName 6)) (tSeq (tFor (iList K (tVar 4)) (gTup K 2 (gCons (gName 7) (gCons (gName 8) gNil)))
  (tSeq (tAsg (tTup (tCons (tCal (spSquared K) (tCons (tVar 0) (tCons (tVar 1) (tCons (tVar 7) (tCons (tVar 8) L2.tNil))))) (tCons (tVar 7) (tCons (tVar 8) L2.tNil)))) (gName 9))
    (tIfS (tOr (tTest (tOp (rNone false) (tVar 6) (tC V.non))) (tTest (tOp (rI0 fun i j => V.bl (decide (i < j))) (tCal (spBy K) (tCons (tVar 9) (tCons (tVar 6) L2.tNil))) (tC (V.int 0))))) (tAsg (tVar 9) (gName 6)) tNext))) (tRet (tVar 6)))
theorem ro_non {α : Type} {ra : Rep α} {H : Hp} {v : V} {o : Option α} (h : RO ra K H v o) (e : o = none) : v = .non := by
  subst e
  exact h
theorem tri_ref {H : Hp} {v : V} {t : Tri} (h : T3 K H v t) : v ≠ .non := by
  obtain ⟨p, x, y, z, e, _⟩ := h
  rw [e]
  intro z
  cases z
theorem pair_ref {α β : Type} {ra : Rep α} {rb : Rep β} {H : Hp} {v : V} {t : α × β} (h : RP ra rb K H v t) : v ≠ .non := by
  obtain ⟨p, x, y, e, _⟩ := h
  rw [e]
  intro z
  cases z
theorem near_tail {D : Ends} {H : Hp} {a b : Leg} {c : Fq} {x y : V} {pp : Addr} {us : List V} {w2 w3 w5 w6 w7 w8 w9 w10 w11 : Option V} (kk : KM K) (hp : PreN a b c) (hx : P2 K H x a) (hy : P2 K H y b) (hl : H pp = some (.lst us)) (ha : AllR P2 K H us (cands a b c))
    (q : ∀ v H', Same H H' → T3 K H' v (nearest a b c) → D.rt v H') : tlNear K D [some x, some y, w2, w3, some (.ref pp), w5, w6, w7, w8, w9, w10, w11] H := by
  have hLo := hp.l
  have hOo := hp.o
  unfold tlNear
  k_extra "lp"
  refine ⟨pp, rfl, ⟨us, .inl (.inl hl)⟩, ?_⟩
  refine for_K (walk_list (K := K) (xs := us)) (fun i σ H' => ∃ v6 w7 w8 w9, σ = [some x, some y, w2, w3, some (.ref pp), w5, some v6, w7, w8, w9, w10, w11] ∧ Same H H' ∧ RO T3 K H' v6 (((cands a b c).take i).foldl (better a b) none)) ⟨.non, w7, w8, w9, rfl, Same.refl H, rfl⟩ (fun i σ H' _ ⟨_, _, _, _, _, s1, _⟩ => .inl (.inl (s1 _ _ hl))) ?_ ?_
  · rintro i v σ H1 H2 hi ⟨v6, w7, w8, w9, rfl, s1, r6⟩ ⟨rfl, hv⟩
    obtain ⟨ci, ec, rv⟩ := ha.of hv
    have kc : Cand c ci := cands_cand hp.l hp.o hp.r ci (List.mem_of_getElem? ec)
    have rv1 : P2 K H2 v ci := up s1 rv
    have f1 : PrePart a b ci.1 ci.2 := ⟨hp.l, hp.o, kc.s.mono (by omega), kc.t.mono (by omega)⟩
    have inv := near_fold (l := a) (o := b) (rho := c) hp.l hp.o ((cands a b c).take i) [] none (fun d hd => cands_cand hp.l hp.o hp.r d (List.mem_of_mem_take hd)) (by simp) rfl
    have step : ((cands a b c).take (i + 1)).foldl (better a b) none = better a b (((cands a b c).take i).foldl (better a b) none) ci := by
      rw [List.take_add_one, ec, List.foldl_append]
      rfl
    k_extra "lp"
    rename_i vf Hf sf rf
    replace rf : T3 K Hf vf (cand a b ci) := rf
    cases em : ((cands a b c).take i).foldl (better a b) none with
    | none =>
      rw [em] at r6 step
      have e6 : v6 = .non := r6
      subst e6
      rw [show (false ^^ decide (V.non = V.non)) = true from rfl]
      refine iteT ?_
      refine iteT ?_
      k_extra "lp"
      refine ⟨vf, _, _, _, rfl, by k_extra "same", ?_⟩
      rw [step]
      exact rf
    | some m =>
      rw [em] at r6 step inv
      have r6 : T3 K H2 v6 m := r6
      rw [show (false ^^ decide (v6 = V.non)) = false by rw [decide_eq_false (tri_ref r6)]; rfl]
      refine iteF ?_
      have fm : TriOk m := by
        obtain ⟨⟨d, _, kd, ed⟩, _⟩ := inv
        rw [ed]
        exact cand_tri hp.l hp.o kd
      have f2 : PreBy (cand a b ci) m := ⟨cand_tri hp.l hp.o kc, fm⟩
      k_extra "lp"
      refine ite2 (fun e => ?_) (fun e => ?_)
      · have e := of_decide_eq_true e
        k_extra "lp"
        refine ⟨vf, _, _, _, rfl, by k_extra "same", ?_⟩
        rw [step]
        unfold better
        dsimp only
        rw [if_pos e]
        show T3 K _ vf (cand a b ci)
        k_extra "rep"
      · have e : ¬ byTri (cand a b ci) m < 0 := fun z => e (decide_eq_true z)
        k_extra "lp"
        refine ⟨v6, _, _, _, rfl, by k_extra "same", ?_⟩
        rw [step]
        unfold better
        dsimp only
        rw [if_neg e]
        show T3 K _ v6 m
        k_extra "rep"
  · rintro σ H1 ⟨v6, w7, w8, w9, rfl, s1, r6⟩
    have hn := (nearest_spec hp.l hp.o hp.r).1
    rw [List.take_of_length_le (by rw [ha.1]; exact Nat.le_refl _)] at r6
    have r6 : RO T3 K H1 v6 (nearO a b c) := r6
    rw [hn] at r6
    k_extra "lp"
    exact q _ _ s1 r6
theorem d_nearest (T : Txt K mg "nearest" s_nearest) (n : Nm K mg) (d_ring_of : Def P w K mg base "ring_of" 3 ["rho"] (spRing K)) (d_on_side : Def P w K mg base "on_side" 5 ["leg", "other", "one", "far"] (spSide K)) (d_crossing : Def P w K mg base "crossing" 3 ["leg", "other"] (spCrossing K))
    (d_is_within : Def P w K mg base "is_within" 3 ["s", "t", "rho"] (spWithin K)) (d_squared_at : Def P w K mg base "squared_at" 5 ["leg", "other", "s", "t"] (spSquared K)) (d_by_parts : Def P w K mg base "by_parts" 2 ["one", "other"] (spBy K)) : Def P w K mg base "nearest" 6 ["leg", "other", "rho"] (spNearest K) := by
  refine mkDef T sc_nearest b_nearest (len3 rfl) fun f cdv A outer s H vs Q E hr kk h => ?_
  obtain ⟨x, y, z, a, b, c, rfl, hx, hy, hz, hp, q⟩ := h
  refine ⟨_, (pss_cons (ps_set (i := 3) sc_nearest.nd rfl (.inl rfl) (pcall d_ring_of hr (pa_cons (pv 2) pa_nil)))
  (pss_cons (ps_set (i := 4) sc_nearest.nd rfl (.inl rfl) (pe_op op_cat (pv 3) (pe_lc (own := [("one", 10), ("far", 11)]) rfl sc_nearest.nd (pzip K (by rfl) n.zip (pa_cons (pv 3) (pa_cons (pe_op op_cat (pe_slice (slL K) (pv 3) (po_some pe_int) po_none) (pe_slice (slL K) (pv 3) po_none (po_some pe_int))) pa_nil))) (blkOk_by (N := ["leg", "other", "rho", "ring", "parts", "met", "least", "s", "t", "found", "one", "far"]) (sc := defScope s_nearest) (by decide +kernel)) (fun _ _ _ _ _ => (pgT (n := 2) K rfl (pgs_cons (pg_name (i := 10) sc_nearest.nd rfl (.inl rfl)) (pgs_cons (pg_name (i := 11) sc_nearest.nd rfl (.inl rfl)) pgs_nil)))) (fun _ _ _ _ _ => pts_nil) (fun _ _ _ _ _ => (pcall d_on_side hr (pa_cons (pv 0) (pa_cons (pv 1) (pa_cons (pv 10) (pa_cons (pv 11) pa_nil)))))))))
  (pss_cons (ps_set (i := 5) sc_nearest.nd rfl (.inl rfl) (pcall d_crossing hr (pa_cons (pv 0) (pa_cons (pv 1) pa_nil))))
  (pss_cons (ps_if ((pw_and (pt_cmpR notN (pv 5) pe_non (nomark _)) (pw_and1 (pt_val (pcall d_is_within hr (pa_cons (pe_ix (ixT K) (pv 5) pe_int (fun _ _ => rfl)) (pa_cons (pe_ix (ixT K) (pv 5) pe_int (fun _ _ => rfl)) (pa_cons (pv 2) pa_nil)))))))).pt
    (pss_one (ps_expr (pe_bm PySem.F.plainAttrs_list PySem.F.slot_list_append PySem.F.type_list_append mt_append (pv 4) (pa_cons (pv 5) pa_nil))))
    pss_nil)
  (pss_cons (ps_set (i := 6) sc_nearest.nd rfl (.inl rfl) pe_non)
  (pss_cons (ps_for PassesOwn.never rfl (piL K (pv 4)) (pgT (n := 2) K rfl (pgs_cons (pg_name (i := 7) sc_nearest.nd rfl (.inl rfl)) (pgs_cons (pg_name (i := 8) sc_nearest.nd rfl (.inl rfl)) pgs_nil)))
    (pss_cons (ps_set (i := 9) sc_nearest.nd rfl (.inl rfl) (pe_tup (pa_cons (pcall d_squared_at hr (pa_cons (pv 0) (pa_cons (pv 1) (pa_cons (pv 7) (pa_cons (pv 8) pa_nil))))) (pa_cons (pv 7) (pa_cons (pv 8) pa_nil)))))
  (pss_one (ps_if ((pw_or (pt_cmpR isN (pv 6) pe_non (nomark _)) (pw_or1 (pt_cmpR op_lt (pcall d_by_parts hr (pa_cons (pv 9) (pa_cons (pv 6) pa_nil))) pe_int (nomark _))))).pt
    (pss_one (ps_set (i := 6) sc_nearest.nd rfl (.inl rfl) (pv 9)))
    pss_nil))))
  (pss_one (ps_ret (pv 6))))))))), ?_⟩
  have hl := hp.l
  have ho := hp.o
  have hrho := hp.r
  have pc : PreC a b := ⟨hl, ho⟩
  k_extra "lp"
  rename_i v1 H1 s1 r1
  obtain ⟨pr, us, rfl, hR, aR⟩ := r1
  k_extra "lp"
  refine r_slL hR ?_
  intro p2 H2 s2 n2 h2
  k_extra "lp"
  refine r_slL (s2 _ _ hR) ?_
  intro p3 H3 s3 n3 h3
  rw [show cutV us (some 1) none = us.drop 1 from cut_from us 1] at h2
  rw [show cutV us none (some 1) = us.take 1 from cut_to us 1] at h3
  have lr : us.length = 6 := aR.1
  refine r_cat (s3 _ _ h2) h3 (by rw [List.length_drop, List.length_take]; omega) ?_
  intro p4 H4 s4 n4 h4
  k_extra "lp"
  have s14 : Same H1 H4 := by k_extra "same"
  have a4 : AllR P2 K H4 (us.drop 1 ++ us.take 1) (far c) := by
    rw [← far_eq]
    exact ((aR.drop 1).app (aR.take 1)).up s14
  have a4' : AllR P2 K H4 us (ring c) := aR.up s14
  have hR4 := s14 _ _ hR
  refine r_zipL (.inl (.inl hR4)) (.inl (.inl h4)) ?_
  refine lc_map (K := K) (rc := P2) (walk_zip (n := 6) (by rw [List.length_append, List.length_drop, List.length_take, lr]; rfl)) (sides a b c) rfl (by decide) (fun H' s' => ⟨.inl (.inl (s' _ _ hR4)), .inl (.inl (s' _ _ h4))⟩) ?_ ?_ gpair_mono
  · rintro i v H5 H6 cc Post hi s5 hc ⟨T', u1, u2, rfl, nT, rfl, g1, g2⟩ hq
    have s6 : Same H5 (upd H5 T' (.tup [u1, u2])) := same_upd nT
    obtain ⟨d1, e1, r1⟩ := a4'.of g1
    obtain ⟨d2, e2, r2⟩ := a4.of g2
    have f1 : PreSide a b d1 d2 := ⟨hl, ho, c, hrho, ring_corner hrho _ (List.mem_of_getElem? e1), far_corner hrho _ (List.mem_of_getElem? e2)⟩
    rw [sides_at e1 e2] at hc
    have hc := Option.some.inj hc
    refine r_gtup (xs := [u1, u2]) (.inl (.inl upd_same)) rfl ?_
    k_extra "lp"
    refine ⟨rfl, ?_⟩
    k_extra "lp"
    refine hq _ _ (by k_extra "same") ?_
    rw [← hc]
    k_extra "rep"
  · intro p5 us5 H5 s5 n5 h5 hL
    k_extra "lp"
    obtain ⟨p5', us5', e5, h5', a5⟩ := hL
    obtain rfl : p5 = p5' := V.ref.inj e5
    rw [h5] at h5'
    obtain rfl : us5 = us5' := by injection h5' with h; injection h
    have l5 : us5.length = 6 := a5.1
    refine r_cat (s5 _ _ hR4) h5 (by omega) ?_
    intro pp H6 s6 n6 h6
    have a6 : AllR P2 K H6 (us ++ us5) (ring c ++ sides a b c) := ((a4'.up s5).app a5).up s6
    have nH : H pp = none := by
      have s16 : Same H H5 := by k_extra "same"
      exact Same.free s16 n6
    k_extra "lp"
    rename_i vm Hm sm rm
    have hRho : Fit c := fitOf hrho.part.ok hrho.b (by omega) (by omega)
    cases em : crossing a b with
    | none =>
      rw [em] at rm
      have ev : vm = .non := rm
      subst ev
      rw [show (true ^^ decide (V.non = V.non)) = false from rfl]
      refine iteF ?_
      refine iteF ?_
      refine near_tail kk hp (by k_extra "rep") (by k_extra "rep") (sm _ _ h6) ?_ (fun v H' s' r' => q v H' (by k_extra "same") r')
      unfold cands met
      rw [em]
      dsimp only
      rw [List.append_nil]
      exact a6.up sm
    | some m =>
      rw [em] at rm
      have rm : P2 K Hm vm m := rm
      rw [show (true ^^ decide (vm = V.non)) = true by rw [decide_eq_false (pair_ref rm)]; rfl]
      refine iteT ?_
      have hw : whole a b ≠ 0 := fun z => by
        unfold crossing at em
        rw [if_pos z] at em
        cases em
      obtain ⟨pt1, pt2⟩ := cross_pt hl ho hw
      have e0 : m = (div (crS a b, 1) (whole a b, 1), div (crT a b, 1) (whole a b, 1)) := by
        unfold crossing at em
        rw [if_neg hw] at em
        exact (Option.some.inj em).symm
      have t1 : Pt m.1 140 := by rw [e0]; exact pt1
      have t2 : Pt m.2 140 := by rw [e0]; exact pt2
      have f1 : PreW m.1 m.2 c := ⟨fitOf t1.ok t1.b (by omega) (by omega), fitOf t2.ok t2.b (by omega) (by omega), fitOf (ok_sub t1.ok t2.ok) (B_sub (p := 280) t1.ok t2.ok t1.b t2.b (by omega) (by omega)) (by omega) (by omega), hRho⟩
      k_extra "lp"
      rename_i Hw sw
      refine ite2 (fun e => ?_) (fun e => ?_)
      · k_extra "lp"
        have hpp : Hw pp = some (.lst (us ++ us5)) := sw _ _ (sm _ _ h6)
        refine ⟨.inl ⟨rfl, _, .inl (.inl hpp)⟩, ?_⟩
        k_extra "lp"
        refine r_append hpp (by rw [List.length_append]; omega) ?_
        have sHw : Same H Hw := by k_extra "same"
        have sN : Same H (upd Hw pp (.lst (us ++ us5 ++ [vm]))) := fun b' o' e' => by
          rw [upd_ne (ne_of_none e' nH)]
          exact sHw _ _ e'
        have ts : TSame Hw (upd Hw pp (.lst (us ++ us5 ++ [vm]))) := TSame.lst hpp
        refine near_tail kk hp (up sN hx) (up sN hy) upd_same ?_ (fun v H' s' r' => q v H' (sN.trans s') r')
        have a7 : AllR P2 K Hw (us ++ us5) (ring c ++ sides a b c) := (a6.up sm).up sw
        unfold cands met
        rw [em]
        dsimp only
        rw [if_pos e]
        exact (a7.tp ts).snoc (Tp.tp ts (up sw rm))
      · refine near_tail kk hp (by k_extra "rep") (by k_extra "rep") (sw _ _ (sm _ _ h6)) ?_ (fun v H' s' r' => q v H' (by k_extra "same") r')
        unfold cands met
        rw [em]
        dsimp only
        rw [if_neg e, List.append_nil]
        exact (a6.up sm).up sw
/-! apart -/
structure PreA (l o : Leg) (rho : Fq) (r : Int) : Prop where
  n : PreN l o rho
  hr : r.natAbs < 2 ^ 100
def isApart (l o : Leg) (rho : Fq) (r : Int) : Bool := decide (0 ≤ cmp (nearest l o rho).1 (r * r, 1))
theorem near_fit {l o : Leg} {rho : Fq} (h : PreN l o rho) : TriOk (nearest l o rho) := by
  obtain ⟨_, ⟨c, _, kc, e⟩, _⟩ := nearest_spec h.l h.o h.r
  rw [e]
  exact cand_tri h.l h.o kc
theorem r_tx0 {H : Hp} {Q : VK} {v : V} {t : Tri} (h : T3 K H v t) (q : ∀ x, F2 K H x t.1 → Q x H) : rIxT K v (.int 0) H Q := by
  obtain ⟨p, x, y, z, rfl, h, h1, h2, h3⟩ := h
  exact r_ixT h rfl (q x h1)
abbrev s_is_apart : Stmt := topS 21
theorem sc_is_apart : FnScope ["leg", "other", "rho", "r"] ["leg", "other", "rho", "r"] (defScope s_is_apart) := ⟨rfl, rfl, rfl, by decide +kernel, rfl, by decide +kernel, by decide +kernel⟩
theorem b_is_apart : BindsBy "is_apart" s_is_apart ["leg", "other", "rho", "r"] := fun _ _ _ _ _ _ us hl => match us, hl with | [_, _, _, _], _ => rfl
abbrev spApart (K : PySem.W.Frag) : Sp := Sp4 K P2 P2 F2 RI RB PreA isApart
theorem d_is_apart (T : Txt K mg "is_apart" s_is_apart) (d_nearest : Def P w K mg base "nearest" 6 ["leg", "other", "rho"] (spNearest K)) (d_compared : Def P w K mg base "compared" 1 ["one", "other"] (spCompared K)) : Def P w K mg base "is_apart" 7 ["leg", "other", "rho", "r"] (spApart K) := by
  refine mkDef T sc_is_apart b_is_apart (len4 rfl) fun f cdv A outer s H vs Q E hr kk h => ?_
  obtain ⟨x, y, z, u, a, b, c, d, rfl, hx, hy, hz, rfl, hp, q⟩ := h
  refine ⟨_, (pss_one (ps_ret (pe_cmpR op_ge (pcall d_compared hr (pa_cons (pe_ix (ixT K) (pcall d_nearest hr (pa_cons (pv 0) (pa_cons (pv 1) (pa_cons (pv 2) pa_nil)))) pe_int (fun _ _ => rfl)) (pa_cons (pe_tup (pa_cons (pe_op op_mulW (pv 3) (pv 3)) (pa_cons pe_int pa_nil))) pa_nil))) pe_int (nomark _)))), ?_⟩
  have pn := hp.n
  have n1 : d.natAbs < 2 ^ 9000 := lt_p2 hp.hr (by omega)
  have f1 : FitsC (nearest a b c).1 (d * d, 1) := ⟨(near_fit pn).a, (fitI (mul_lt hp.hr hp.hr) (by omega)).c⟩
  k_extra "lp"
  refine r_tx0 (by k_extra "rep") ?_
  intro x0 r0
  k_extra "lp"
  exact q _ _ (by k_extra "same") rfl
end
end Lp
set_option Elab.async false
set_option linter.all false
set_option maxRecDepth 100000
set_option maxHeartbeats 4000000

namespace Lp
open PySem PySem.Spec PyProof.Rows L2
local macro_rules | `(tactic| k_extra "rep") => `(tactic| first
  | assumption
  | exact rfl
  | exact BI.mk _ _ _
  | (refine up (by assumption) ?_; k_extra "rep"))
local macro_rules | `(tactic| k_extra "same") => `(tactic| first
  | assumption
  | exact Same.refl _
  | (refine Same.trans ?_ (by assumption); k_extra "same"))
local macro_rules | `(tactic| k_extra "sz") => `(tactic| with_reducible first
  | assumption
  | exact mul_lt (by k_extra "sz") (by k_extra "sz")
  | exact add_sz (by k_extra "sz") (by k_extra "sz")
  | exact sub_sz (by k_extra "sz") (by k_extra "sz")
  | (refine lit_sz ?_; decide))
local macro_rules | `(tactic| k_extra "st") => `(tactic| (simp only [L2.start, List.set_cons_succ, List.set_cons_zero, List.map_cons, List.map_nil, List.cons_append, List.nil_append, List.length_cons, List.length_nil, List.replicate, L2.wipe]; exact rfl))
local macro_rules | `(tactic| k_extra "lp1") => `(tactic| with_reducible first
  | refine r_seq ?_ | refine r_asg ?_ | refine r_ret ?_ | refine r_drop ?_ | refine r_if ?_ | refine r_var rfl ?_ | refine r_c ?_ | refine r_op ?_ | refine r_un ?_ | refine r_rI0 ?_ | refine r_rU ?_
  | refine r_cons ?_ | refine r_nil ?_ | refine r_call ?_ | refine r_cb ?_ | refine r_tup ?_ | refine r_lst ?_ | refine r_test ?_ | refine r_tB ?_ | refine r_bl ?_ | refine r_ifE ?_ | refine r_gcons ?_ | refine r_gnil ?_
  | refine r_gcd ?_ | refine r_next ?_ | refine r_slice ?_ | refine r_nopart ?_ | refine r_part ?_ | refine r_partI ?_ | refine r_bm ?_ | refine r_chain ?_ | refine r_eqI ?_ | refine r_neI ?_ | refine r_zip ?_ | refine r_itT ?_ | refine r_itL ?_ | refine r_for ?_ | refine r_lc ?_ | refine r_intI ?_ | refine r_intB ?_ | refine r_abs ?_ | refine r_max ?_ | refine r_none ?_ | refine r_and ?_ | refine r_or ?_ | refine r_not ?_ | refine r_andT ?_ | refine r_orT ?_ | refine r_notT ?_ | refine r_par ?_ | refine r_two rfl ?_ | refine r_gname rfl ?_)
local macro_rules | `(tactic| k_extra "lpn1") => `(tactic| with_reducible first
  | refine r_seq ?_ | refine r_asg ?_ | refine r_var rfl ?_ | refine r_op ?_ | refine r_cons ?_ | refine r_gcons ?_ | refine r_gnil ?_ | refine r_two (by k_extra "st") ?_ | refine r_gname (by k_extra "st") ?_)
local macro_rules | `(tactic| k_extra "lp2") => `(tactic| first
  | with_reducible refine r_mul (by assumption) (by assumption) ?_
  | with_reducible refine r_fx0 (by k_extra "rep") ?_
  | with_reducible refine r_fx1 (by k_extra "rep") ?_)
local macro_rules | `(tactic| k_extra "lp3") => `(tactic| first
  | with_reducible refine r_gfrac (by k_extra "rep") ?_
  | (with_reducible refine r_gpair (ra := F2) (rb := F2) (by k_extra "rep") ?_; intro _ _ _ _)
  | (with_reducible refine r_gpair (ra := P2) (rb := P2) (by k_extra "rep") ?_; intro _ _ _ _)
  | (with_reducible refine r_ix0 (ra := F2) (rb := F2) (by k_extra "rep") ?_; intro _ _)
  | (with_reducible refine r_ix1 (ra := F2) (rb := F2) (by k_extra "rep") ?_; intro _ _)
  | (with_reducible refine new_frac (by assumption) ?_; intro _ _ _ _)
  | (with_reducible refine new_pair (ra := F2) (rb := F2) (by k_extra "rep") (by k_extra "rep") ?_; intro _ _ _ _)
  | (with_reducible refine new_pair (ra := P2) (rb := P2) (by k_extra "rep") (by k_extra "rep") ?_; intro _ _ _ _)
  | (with_reducible refine new_tri (ra := F2) (rb := F2) (rc := F2) (by k_extra "rep") (by k_extra "rep") (by k_extra "rep") ?_; intro _ _ _ _)
  | (with_reducible refine sp1I (by k_extra "rep") (by assumption) ?_; intro _ _)
  | (with_reducible refine sp2I (by k_extra "rep") (by k_extra "rep") (by assumption) ?_; intro _ _)
  | (with_reducible refine sp1B (by k_extra "rep") (by assumption) ?_; intro _ _)
  | (with_reducible refine sp2B (by k_extra "rep") (by k_extra "rep") (by assumption) ?_; intro _ _)
  | (with_reducible refine sp3B (by k_extra "rep") (by k_extra "rep") (by k_extra "rep") (by assumption) ?_; intro _ _)
  | (with_reducible refine sp4B (by k_extra "rep") (by k_extra "rep") (by k_extra "rep") (by k_extra "rep") (by assumption) ?_; intro _ _)
  | (with_reducible refine sp1 (by k_extra "rep") (by assumption) ?_; intro _ _ _ _)
  | (with_reducible refine sp2 (by k_extra "rep") (by k_extra "rep") (by assumption) ?_; intro _ _ _ _)
  | (with_reducible refine sp4 (by k_extra "rep") (by k_extra "rep") (by k_extra "rep") (by k_extra "rep") (by assumption) ?_; intro _ _ _ _)
  | (with_reducible refine sp3 (by k_extra "rep") (by k_extra "rep") (by k_extra "rep") (by assumption) ?_; intro _ _ _ _))
local macro_rules | `(tactic| k_extra "lp4") => `(tactic| first
  | with_reducible refine r_gtup (by assumption) rfl ?_
  | (with_reducible refine new_any (by assumption) (Nat.le_of_ble_eq_true rfl) ?_; intro _ _ _ _))
local macro_rules | `(tactic| k_extra "lpn") => `(tactic| repeat (first | k_extra "lpn1" | k_extra "lp1" | k_extra "lp2" | k_extra "lp3" | k_extra "lp4"))
local macro_rules | `(tactic| k_extra "lp") => `(tactic| repeat (first | k_extra "lp1" | k_extra "lp2" | k_extra "lp3" | k_extra "lp4"))
section
variable {P : Program} {w : World} {K : PySem.W.Frag} {mg : Str → Option Value} {base : Heap}

def Par3K (i j l : Nat) (σ : L2.St) (N : L2.St → Hp → Prop) (vs : List V) (H : Hp) : Prop := ∃ u v w, vs = [u, v, w] ∧ N (((σ.set i (some u)).set j (some v)).set l (some w)) H
theorem r_par3 {i j l : Nat} {ta : TA} {D : Ends} {σ : L2.St} {H : Hp} (h : ta σ H fun vs H1 => Par3K i j l σ D.nx vs H1) : tPar3 i j l ta D σ H := h
theorem r_three {u v w : V} {i j l : Nat} {σ σ' : L2.St} {H : Hp} {N : L2.St → Hp → Prop} (e : ((σ.set i (some u)).set j (some v)).set l (some w) = σ') (q : N σ' H) : Par3K i j l σ N [u, v, w] H := by
  subst e
  exact ⟨u, v, w, rfl, q⟩
local macro_rules | `(tactic| k_extra "lp5") => `(tactic| first
  | with_reducible refine r_par3 ?_
  | with_reducible refine r_three rfl ?_
  | ((with_reducible refine r_mul ?h1 ?h2 ?_); (case h1 => exact lt_p2 (by k_extra "sz") (by omega)); (case h2 => exact lt_p2 (by k_extra "sz") (by omega)))
  | with_reducible refine r_ixB (by k_extra "rep") (by with_unfolding_all exact rfl) ?_)
local macro_rules | `(tactic| k_extra "lpn") => `(tactic| repeat (first | k_extra "lpn1" | k_extra "lp1" | k_extra "lp2" | k_extra "lp3" | k_extra "lp4" | k_extra "lp5"))
local macro_rules | `(tactic| k_extra "lp") => `(tactic| repeat (first | k_extra "lp1" | k_extra "lp2" | k_extra "lp3" | k_extra "lp4" | k_extra "lp5"))
/-! the bounds' numbers -/
abbrev s_r_of : Stmt := topS 23
theorem sc_r_of : FnScope ["bounds"] ["bounds"] (defScope s_r_of) := ⟨rfl, rfl, rfl, by decide +kernel, rfl, by decide +kernel, by decide +kernel⟩
theorem b_r_of : BindsBy "r_of" s_r_of ["bounds"] := fun _ _ _ _ _ _ us hl => match us, hl with | [_], _ => rfl
abbrev spR (K : PySem.W.Frag) : Sp := Sp1 K RBd RI BdOk rOf
theorem d_r_of (T : Txt K mg "r_of" s_r_of) : Def P w K mg base "r_of" 1 ["bounds"] (spR K) := by
  refine mkDef T sc_r_of b_r_of (len1 rfl) fun f cdv A outer s H vs Q E hr kk h => ?_
  obtain ⟨x, b, rfl, hx, hp, q⟩ := h
  refine ⟨_, (pss_one (ps_ret (pe_op op_add (pe_ix (ixT K) (pv 0) pe_int (fun _ _ => rfl)) (pe_op op_mulW pe_int (pe_ix (ixT K) (pv 0) pe_int (fun _ _ => rfl)))))), ?_⟩
  have h1 := hp.wind
  k_extra "lp"
  exact q _ _ (by k_extra "same") rfl
abbrev s_lag_of : Stmt := topS 24
theorem sc_lag_of : FnScope ["bounds"] ["bounds"] (defScope s_lag_of) := ⟨rfl, rfl, rfl, by decide +kernel, rfl, by decide +kernel, by decide +kernel⟩
theorem b_lag_of : BindsBy "lag_of" s_lag_of ["bounds"] := fun _ _ _ _ _ _ us hl => match us, hl with | [_], _ => rfl
abbrev spLag (K : PySem.W.Frag) : Sp := Sp1 K RBd RI BdOk lagOf
theorem d_lag_of (T : Txt K mg "lag_of" s_lag_of) : Def P w K mg base "lag_of" 1 ["bounds"] (spLag K) := by
  refine mkDef T sc_lag_of b_lag_of (len1 rfl) fun f cdv A outer s H vs Q E hr kk h => ?_
  obtain ⟨x, b, rfl, hx, hp, q⟩ := h
  refine ⟨_, (pss_one (ps_ret (pe_op op_add (pe_ix (ixT K) (pv 0) pe_int (fun _ _ => rfl)) (pe_op op_mulW pe_int (pe_ix (ixT K) (pv 0) pe_int (fun _ _ => rfl)))))), ?_⟩
  have h1 := hp.clock
  k_extra "lp"
  exact q _ _ (by k_extra "same") rfl
structure PreRho (b : Bd) (t : Int) : Prop where
  b : BdOk b
  ht : t.natAbs < 2 ^ 80
  ne : t ≠ 0
abbrev s_rho_of : Stmt := topS 25
theorem sc_rho_of : FnScope ["bounds", "ticks"] ["bounds", "ticks"] (defScope s_rho_of) := ⟨rfl, rfl, rfl, by decide +kernel, rfl, by decide +kernel, by decide +kernel⟩
theorem b_rho_of : BindsBy "rho_of" s_rho_of ["bounds", "ticks"] := fun _ _ _ _ _ _ us hl => match us, hl with | [_, _], _ => rfl
abbrev spRho (K : PySem.W.Frag) : Sp := Sp2 K RBd RI F2 PreRho rhoOf
theorem d_rho_of (T : Txt K mg "rho_of" s_rho_of) (d_reduced : Def P w K mg base "reduced" 1 ["n", "d"] (spReduced K)) (d_lag_of : Def P w K mg base "lag_of" 1 ["bounds"] (spLag K)) : Def P w K mg base "rho_of" 2 ["bounds", "ticks"] (spRho K) := by
  refine mkDef T sc_rho_of b_rho_of (len2 rfl) fun f cdv A outer s H vs Q E hr kk h => ?_
  obtain ⟨x, y, b, t, rfl, hx, rfl, hp, q⟩ := h
  refine ⟨_, (pss_one (ps_ret (pcall d_reduced hr (pa_cons (pcall d_lag_of hr (pa_cons (pv 0) pa_nil)) (pa_cons (pv 1) pa_nil))))), ?_⟩
  have hb := hp.b
  have f1 : PreRed (lagOf b) t := ⟨lt_p2 (lagOf_sz hb) (by omega), lt_p2 hp.ht (by omega), hp.ne⟩
  k_extra "lp"
  exact q _ _ (by k_extra "same") (by k_extra "rep")
def restOf (b : Bd) (t : Int) : Int := b.S * b.S * (rhoOf b t).2 * (rhoOf b t).2 - 2 * rOf b * rOf b * (rhoOf b t).2 * (rhoOf b t).2 - (rhoOf b t).1 * (rhoOf b t).1 * (2 * b.way * b.way - b.S * b.S)
def isEnough (b : Bd) (t : Int) : Bool := decide (0 ≤ restOf b t) && decide (8 * rOf b * rOf b * (rhoOf b t).2 * (rhoOf b t).2 * ((rhoOf b t).1 * (rhoOf b t).1 * (2 * b.way * b.way - b.S * b.S)) ≤ restOf b t * restOf b t)
theorem isEnough_eq (b : Bd) (t : Int) : isEnough b t = ineq (b.S * b.S * (rhoOf b t).2 * (rhoOf b t).2) (2 * rOf b * rOf b * (rhoOf b t).2 * (rhoOf b t).2) ((rhoOf b t).1 * (rhoOf b t).1 * (2 * b.way * b.way - b.S * b.S)) := by
  have ee : ∀ r d c : Int, 8 * r * r * d * d * c = 4 * (2 * r * r * d * d) * c := fun r d c => by grind
  unfold isEnough ineq
  rw [ee]
  rfl
abbrev s_is_enough : Stmt := topS 35
theorem sc_is_enough : FnScope ["bounds", "ticks", "half", "reach", "rest", "spacing", "way", "r", "n", "d"] ["bounds", "ticks"] (defScope s_is_enough) := ⟨rfl, rfl, rfl, by decide +kernel, rfl, by decide +kernel, by decide +kernel⟩
theorem b_is_enough : BindsBy "is_enough" s_is_enough ["bounds", "ticks"] := fun _ _ _ _ _ _ us hl => match us, hl with | [_, _], _ => rfl
abbrev spEnough (K : PySem.W.Frag) : Sp := Sp2 K RBd RI RB PreRho isEnough
theorem d_is_enough (T : Txt K mg "is_enough" s_is_enough) (d_r_of : Def P w K mg base "r_of" 1 ["bounds"] (spR K)) (d_rho_of : Def P w K mg base "rho_of" 2 ["bounds", "ticks"] (spRho K)) : Def P w K mg base "is_enough" 3 ["bounds", "ticks"] (spEnough K) := by
  refine mkDef T sc_is_enough b_is_enough (len2 rfl) fun f cdv A outer s H vs Q E hr kk h => ?_
  obtain ⟨x, y, b, t, rfl, hx, rfl, hp, q⟩ := h
  refine ⟨_, (pss_cons (ps_par3 (i := 5) (j := 6) (l := 7) (by rfl) sc_is_enough.nd rfl rfl rfl (by decide) (by decide) (by decide) rfl rfl rfl (pa_cons (pe_ix (ixT K) (pv 0) pe_int (fun _ _ => rfl)) (pa_cons (pe_ix (ixT K) (pv 0) pe_int (fun _ _ => rfl)) (pa_cons (pcall d_r_of hr (pa_cons (pv 0) pa_nil)) pa_nil))) (by rfl))
  (pss_cons (ps_asg (pcall d_rho_of hr (pa_cons (pv 0) (pa_cons (pv 1) pa_nil))) (pgT (n := 2) K rfl (pgs_cons (pg_name (i := 8) sc_is_enough.nd rfl (.inl rfl)) (pgs_cons (pg_name (i := 9) sc_is_enough.nd rfl (.inl rfl)) pgs_nil))))
  (pss_cons (ps_set (i := 2) sc_is_enough.nd rfl (.inl rfl) (pe_op op_mulW (pe_op op_mulW (pe_op op_mulW (pv 5) (pv 5)) (pv 9)) (pv 9)))
  (pss_cons (ps_set (i := 3) sc_is_enough.nd rfl (.inl rfl) (pe_op op_mulW (pe_op op_mulW (pv 8) (pv 8)) (pe_op op_sub (pe_op op_mulW (pe_op op_mulW pe_int (pv 6)) (pv 6)) (pe_op op_mulW (pv 5) (pv 5)))))
  (pss_cons (ps_set (i := 4) sc_is_enough.nd rfl (.inl rfl) (pe_op op_sub (pe_op op_sub (pv 2) (pe_op op_mulW (pe_op op_mulW (pe_op op_mulW (pe_op op_mulW pe_int (pv 7)) (pv 7)) (pv 9)) (pv 9))) (pv 3)))
  (pss_one (ps_ret (pe_and (pe_cmpR op_ge (pv 4) pe_int (nomark _)) (pe_one (pe_cmpR op_ge (pe_op op_mulW (pv 4) (pv 4)) (pe_op op_mulW (pe_op op_mulW (pe_op op_mulW (pe_op op_mulW (pe_op op_mulW pe_int (pv 7)) (pv 7)) (pv 9)) (pv 9)) (pv 3)) (nomark _))))))))))), ?_⟩
  have hb := hp.b
  have z1 := hb.S
  have z2 := hb.way
  have z3 := rOf_sz hb
  have zz := red_le (n := lagOf b) hp.ne
  have z4 : (rhoOf b t).1.natAbs < 2 ^ 163 := Nat.lt_of_le_of_lt zz.1 (lagOf_sz hb)
  have z5 : (rhoOf b t).2.natAbs < 2 ^ 80 := Nat.lt_of_le_of_lt zz.2 hp.ht
  k_extra "lpn"
  refine ite2 (fun e => ?_) (fun e => ?_)
  · k_extra "lpn"
    have e : decide (0 ≤ restOf b t) = true := e
    refine q _ _ (by k_extra "same") ?_
    unfold isEnough
    rw [e, Bool.true_and]
    rfl
  · have e : decide (0 ≤ restOf b t) = false := by
      have e : ¬ decide (0 ≤ restOf b t) = true := e
      simpa using e
    refine q _ _ (by k_extra "same") ?_
    unfold isEnough
    rw [e, Bool.false_and]
    rfl
end
end Lp
set_option Elab.async false
set_option linter.all false
set_option maxRecDepth 100000
set_option maxHeartbeats 4000000

namespace Lp
open PySem PySem.Spec PyProof.Rows L2
local macro_rules | `(tactic| k_extra "rep") => `(tactic| first
  | assumption
  | exact rfl
  | exact BI.mk _ _ _
  | (refine up (by assumption) ?_; k_extra "rep"))
local macro_rules | `(tactic| k_extra "same") => `(tactic| first
  | assumption
  | exact Same.refl _
  | (refine Same.trans ?_ (by assumption); k_extra "same"))
local macro_rules | `(tactic| k_extra "sz") => `(tactic| with_reducible first
  | assumption
  | exact mul_lt (by k_extra "sz") (by k_extra "sz")
  | exact add_sz (by k_extra "sz") (by k_extra "sz")
  | exact sub_sz (by k_extra "sz") (by k_extra "sz")
  | (refine lit_sz ?_; decide))
local macro_rules | `(tactic| k_extra "st") => `(tactic| (simp only [L2.start, List.set_cons_succ, List.set_cons_zero, List.map_cons, List.map_nil, List.cons_append, List.nil_append, List.length_cons, List.length_nil, List.replicate, L2.wipe]; exact rfl))
local macro_rules | `(tactic| k_extra "lp1") => `(tactic| with_reducible first
  | refine r_seq ?_ | refine r_asg ?_ | refine r_ret ?_ | refine r_drop ?_ | refine r_if ?_ | refine r_var rfl ?_ | refine r_c ?_ | refine r_op ?_ | refine r_un ?_ | refine r_rI0 ?_ | refine r_rU ?_
  | refine r_cons ?_ | refine r_nil ?_ | refine r_call ?_ | refine r_cb ?_ | refine r_tup ?_ | refine r_lst ?_ | refine r_test ?_ | refine r_tB ?_ | refine r_bl ?_ | refine r_ifE ?_ | refine r_gcons ?_ | refine r_gnil ?_
  | refine r_gcd ?_ | refine r_next ?_ | refine r_slice ?_ | refine r_nopart ?_ | refine r_part ?_ | refine r_partI ?_ | refine r_bm ?_ | refine r_chain ?_ | refine r_eqI ?_ | refine r_neI ?_ | refine r_zip ?_ | refine r_itT ?_ | refine r_itL ?_ | refine r_for ?_ | refine r_lc ?_ | refine r_intI ?_ | refine r_intB ?_ | refine r_abs ?_ | refine r_max ?_ | refine r_none ?_ | refine r_and ?_ | refine r_or ?_ | refine r_not ?_ | refine r_andT ?_ | refine r_orT ?_ | refine r_notT ?_ | refine r_par ?_ | refine r_two rfl ?_ | refine r_gname rfl ?_)
local macro_rules | `(tactic| k_extra "lpn1") => `(tactic| with_reducible first
  | refine r_seq ?_ | refine r_asg ?_ | refine r_var rfl ?_ | refine r_op ?_ | refine r_cons ?_ | refine r_gcons ?_ | refine r_gnil ?_ | refine r_two (by k_extra "st") ?_ | refine r_gname (by k_extra "st") ?_)
local macro_rules | `(tactic| k_extra "lp2") => `(tactic| first
  | with_reducible refine r_mul (by assumption) (by assumption) ?_
  | with_reducible refine r_fx0 (by k_extra "rep") ?_
  | with_reducible refine r_fx1 (by k_extra "rep") ?_)
local macro_rules | `(tactic| k_extra "lp3") => `(tactic| first
  | with_reducible refine r_gfrac (by k_extra "rep") ?_
  | (with_reducible refine r_gpair (ra := F2) (rb := F2) (by k_extra "rep") ?_; intro _ _ _ _)
  | (with_reducible refine r_gpair (ra := P2) (rb := P2) (by k_extra "rep") ?_; intro _ _ _ _)
  | (with_reducible refine r_ix0 (ra := F2) (rb := F2) (by k_extra "rep") ?_; intro _ _)
  | (with_reducible refine r_ix1 (ra := F2) (rb := F2) (by k_extra "rep") ?_; intro _ _)
  | (with_reducible refine new_frac (by assumption) ?_; intro _ _ _ _)
  | (with_reducible refine new_pair (ra := F2) (rb := F2) (by k_extra "rep") (by k_extra "rep") ?_; intro _ _ _ _)
  | (with_reducible refine new_pair (ra := P2) (rb := P2) (by k_extra "rep") (by k_extra "rep") ?_; intro _ _ _ _)
  | (with_reducible refine new_tri (ra := F2) (rb := F2) (rc := F2) (by k_extra "rep") (by k_extra "rep") (by k_extra "rep") ?_; intro _ _ _ _)
  | (with_reducible refine sp1I (by k_extra "rep") (by assumption) ?_; intro _ _)
  | (with_reducible refine sp2I (by k_extra "rep") (by k_extra "rep") (by assumption) ?_; intro _ _)
  | (with_reducible refine sp1B (by k_extra "rep") (by assumption) ?_; intro _ _)
  | (with_reducible refine sp2B (by k_extra "rep") (by k_extra "rep") (by assumption) ?_; intro _ _)
  | (with_reducible refine sp3B (by k_extra "rep") (by k_extra "rep") (by k_extra "rep") (by assumption) ?_; intro _ _)
  | (with_reducible refine sp4B (by k_extra "rep") (by k_extra "rep") (by k_extra "rep") (by k_extra "rep") (by assumption) ?_; intro _ _)
  | (with_reducible refine sp1 (by k_extra "rep") (by assumption) ?_; intro _ _ _ _)
  | (with_reducible refine sp2 (by k_extra "rep") (by k_extra "rep") (by assumption) ?_; intro _ _ _ _)
  | (with_reducible refine sp4 (by k_extra "rep") (by k_extra "rep") (by k_extra "rep") (by k_extra "rep") (by assumption) ?_; intro _ _ _ _)
  | (with_reducible refine sp3 (by k_extra "rep") (by k_extra "rep") (by k_extra "rep") (by assumption) ?_; intro _ _ _ _))
local macro_rules | `(tactic| k_extra "lp4") => `(tactic| first
  | with_reducible refine r_gtup (by assumption) rfl ?_
  | (with_reducible refine new_any (by assumption) (Nat.le_of_ble_eq_true rfl) ?_; intro _ _ _ _))
local macro_rules | `(tactic| k_extra "lpn") => `(tactic| repeat (first | k_extra "lpn1" | k_extra "lp1" | k_extra "lp2" | k_extra "lp3" | k_extra "lp4"))
local macro_rules | `(tactic| k_extra "lp") => `(tactic| repeat (first | k_extra "lp1" | k_extra "lp2" | k_extra "lp3" | k_extra "lp4"))
section
variable {P : Program} {w : World} {K : PySem.W.Frag} {mg : Str → Option Value} {base : Heap}

local macro_rules | `(tactic| k_extra "lp5") => `(tactic| first
  | with_reducible refine r_par3 ?_
  | with_reducible refine r_three rfl ?_
  | ((with_reducible refine r_mul ?h1 ?h2 ?_); (case h1 => exact lt_p2 (by k_extra "sz") (by omega)); (case h2 => exact lt_p2 (by k_extra "sz") (by omega)))
  | with_reducible refine r_ixB (by k_extra "rep") (by with_unfolding_all exact rfl) ?_)
local macro_rules | `(tactic| k_extra "lpn") => `(tactic| repeat (first | k_extra "lpn1" | k_extra "lp1" | k_extra "lp2" | k_extra "lp3" | k_extra "lp4" | k_extra "lp5"))
local macro_rules | `(tactic| k_extra "lp") => `(tactic| repeat (first | k_extra "lp1" | k_extra "lp2" | k_extra "lp3" | k_extra "lp4" | k_extra "lp5"))
open LamX NdefX
/-! the least ticks -/
structure IsLeast (p : Int → Bool) (b r : Int) : Prop where
  ge : b ≤ r
  yes : p r = true
  no : ∀ x, b ≤ x → x < r → p x = false
theorem IsLeast.uniq {p : Int → Bool} {b r r' : Int} (h : IsLeast p b r) (h' : IsLeast p b r') : r = r' := by
  rcases Int.lt_trichotomy r r' with e | e | e
  · have := h'.no r h.ge e
    rw [h.yes] at this
    cases this
  · exact e
  · have := h.no r' h'.ge e
    rw [h'.yes] at this
    cases this
structure Rises (p : Int → Bool) (N : Int) : Prop where
  mono : ∀ x y, 1 ≤ x → x ≤ y → p x = true → p y = true
  top : p N = true
  nn : 1 ≤ N
  le : N ≤ 1000000000000
/-- what the lambda tells -/
def spTell (K : PySem.W.Frag) (b : Bd) : List (Option V) → Sp := fun ws vs H Q _ => ∃ bv t, ws = [some bv] ∧ vs = [.int t] ∧ RBd K H bv b ∧ PreRho b t ∧ ∀ H', Same H H' → Q (.bl (isEnough b t)) H'
theorem r_lcall {i : Nat} {f : Addr} {F : NF} {bd : Expr} {ws : List (Option V)} {sp : List (Option V) → Sp} {t : TA} {σ : L2.St} {H : Hp} {Q : VK} (h1 : σ[i]? = some (some (.ref f))) (h2 : H f = some (LmO f F bd))
    (h3 : t σ H fun vs H1 => H1 f = some (LmO f F bd) ∧ H1 F.c = some (CodeO F.c F.qual) ∧ sp ws vs H1 Q E0) : tLcall i f F bd ws sp t σ H Q := ⟨h1, h2, h3⟩
theorem r_while {c : TT} {tb : TS} {D : Ends} {σ : L2.St} {H : Hp} (W : Nat → L2.St → Hp → Prop) (h0 : ∃ m, W m σ H) (h : ∀ m σ H, W m σ H → c σ H fun b H1 => if b = true then ∃ N : L2.St → Hp → Prop, (∀ σ' H', N σ' H' → ∃ m', m' < m ∧ W m' σ' H') ∧ tb { D with nx := N, ct := N, bk := D.nx } σ H1 else D.nx σ H1) : tWhile c tb D σ H := ⟨W, h0, h⟩
theorem r_fdiv {i j : Int} {g : Int → Int → V} {H : Hp} {Q : VK} (h : 0 < j ∧ j < 1073741824) (q : Q (g i j) H) : rI CDiv g (.int i) (.int j) H Q := r_rI h q
theorem pow_lt_40 {i : Nat} (h : (2 : Int) ^ i ≤ 1000000000000) : i < 40 := by
  by_cases hi : i < 40
  · exact hi
  · exfalso
    have h1 : (2 : Int) ^ 40 ≤ 2 ^ i := by
      have := p2_le (show 40 ≤ i by omega)
      exact_mod_cast this
    have h2 : (2 : Int) ^ 40 = 1099511627776 := by decide
    omega
abbrev s_doubled : Stmt := topS 36
theorem sc_doubled : FnScope ["tells", "begin", "step", "low", "high", "middle"] ["tells", "begin"] (defScope s_doubled) := ⟨rfl, rfl, rfl, by decide +kernel, rfl, by decide +kernel, by decide +kernel⟩
theorem b_doubled : BindsBy "doubled" s_doubled ["tells", "begin"] := fun _ _ _ _ _ _ us hl => match us, hl with | [_, _], _ => rfl
theorem gives_doubled {X : Cx} {k : Nat} {F : NF} {bd : Expr} {f : Addr} {b : Bd} {g : Addr} {cdg : Value} {s : Shared} {H : Hp} {Q : VK} {bv : V} {begin N : Int} (kk : KM X.K)
    (hr : Room 4 (X.A.deeper (envOfC "doubled" (defScope s_doubled) s.heap.objs.size g cdg))) (lfn : LOk X.prog X.w X.K X.mg X.base 4 f F bd ["ticks"] ["bounds"] (spTell X.K b)) (lcl : CellsAt F.cl ["bounds"] [some bv] s.heap H)
    (hf : H f = some (LmO f F bd)) (hc : H F.c = some (CodeO F.c F.qual)) (rb : RBd X.K H bv b) (hb : BdOk b) (hu : Rises (isEnough b) N) (h1 : 1 ≤ begin) (hN : begin ≤ N)
    (q : ∀ r H', Same H H' → IsLeast (isEnough b) begin r → Q (.int r) H') :
    ∃ t, PSs (cxOf CX0 X.prog X.w X.K X.mg X.base ["tells", "begin", "step", "low", "high", "middle"] "doubled" (defScope s_doubled) g cdg X.A X.stack s H E0).nox (defBody s_doubled) t ∧
      t { nx := fun _ H' => Q .non H', rt := Q } (L2.start ["tells", "begin", "step", "low", "high", "middle"] [.ref f, .int begin]) H := by
  refine ⟨_, (pss_cons (ps_set (i := 2) sc_doubled.nd rfl (.inl rfl) pe_int)
  (pss_cons (ps_while PassesOwn.never (pt_not (pt_val (pe_lcall lfn lcl rfl hr (by decide) (i := 0) rfl (.inl rfl) (pa_cons (pe_op op_sub (pe_op op_add (pv 1) (pv 2)) pe_int) pa_nil))))
    (pss_one (ps_set (i := 2) sc_doubled.nd rfl (.inl rfl) (pe_op op_mulW pe_int (pv 2)))))
  (pss_cons (ps_par (i := 3) (j := 4) (by rfl) sc_doubled.nd rfl rfl (by decide) rfl rfl (pa_cons (pe_op op_add (pe_op op_sub (pv 1) pe_int) (pe_op op_fdiv (pv 2) pe_int)) (pa_cons (pe_op op_sub (pe_op op_add (pv 1) (pv 2)) pe_int) pa_nil)) (by rfl))
  (pss_cons (ps_while PassesOwn.never (pt_cmpR op_gt (pe_op op_sub (pv 4) (pv 3)) pe_int (nomark _))
    (pss_cons (ps_set (i := 5) sc_doubled.nd rfl (.inl rfl) (pe_op op_fdiv (pe_op op_add (pv 3) (pv 4)) pe_int))
  (pss_one (ps_asg (pe_ifExp (pt_val (pe_lcall lfn lcl rfl hr (by decide) (i := 0) rfl (.inl rfl) (pa_cons (pv 5) pa_nil))) (pe_tup (pa_cons (pv 3) (pa_cons (pv 5) pa_nil))) (pe_tup (pa_cons (pv 5) (pa_cons (pv 4) pa_nil)))) (pgT (n := 2) X.K rfl (pgs_cons (pg_name (i := 3) sc_doubled.nd rfl (.inl rfl)) (pgs_cons (pg_name (i := 4) sc_doubled.nd rfl (.inl rfl)) pgs_nil)))))))
  (pss_one (ps_ret (pv 4))))))), ?_⟩
  have hNle := hu.le
  k_extra "lp"
  refine r_while (fun m σ H' => ∃ i : Nat, m = 41 - i ∧ i ≤ 40 ∧ σ = [some (.ref f), some (.int begin), some (.int (2 ^ i)), none, none, none] ∧ Same H H' ∧ (i = 0 ∨ isEnough b (begin + 2 ^ (i - 1) - 1) = false)) ⟨41, 0, rfl, by omega, rfl, Same.refl H, .inl rfl⟩ ?_
  rintro m σ H1 ⟨i, rfl, hi, rfl, s1, hno⟩
  have p0 : (0 : Int) < 2 ^ i := Int.pow_pos (by decide)
  have pN : ((2 : Int) ^ i).natAbs < 2 ^ 41 := by
    rw [Int.natAbs_pow]
    exact Nat.pow_lt_pow_right (by decide) (by omega)
  have z41 : ((2 : Int) ^ i) < 2199023255552 := by
    have : (((2 : Int) ^ i).natAbs : Int) = 2 ^ i := by omega
    have e41 : (2 : Nat) ^ 41 = 2199023255552 := by decide
    omega
  have z1 : begin.natAbs < 2 ^ 64 := by
    have e64 : (2 : Nat) ^ 64 = 18446744073709551616 := by decide
    omega
  have sT : (begin + 2 ^ i - 1).natAbs < 2 ^ 80 := by
    have e80 : (2 : Nat) ^ 80 = 1208925819614629174706176 := by decide
    omega
  have f1 : PreRho b (begin + 2 ^ i - 1) := ⟨hb, sT, by omega⟩
  k_extra "lp"
  refine r_lcall rfl (s1 _ _ hf) ?_
  k_extra "lp"
  refine ⟨s1 _ _ hf, s1 _ _ hc, bv, _, rfl, rfl, up s1 rb, f1, ?_⟩
  intro H2 s2
  k_extra "lp"
  refine ite2 (fun e => ?_) (fun e => ?_)
  · have e : isEnough b (begin + 2 ^ i - 1) = false := by simpa using e
    have hlt : (2 : Int) ^ i ≤ 1000000000000 := by
      by_cases h : begin + 2 ^ i - 1 < N
      · omega
      · have := hu.mono N (begin + 2 ^ i - 1) hu.nn (by omega) hu.top
        rw [e] at this
        cases this
    have hi2 := pow_lt_40 hlt
    refine ⟨fun σ' H' => σ' = [some (.ref f), some (.int begin), some (.int (2 ^ (i + 1))), none, none, none] ∧ Same H H', ?_, ?_⟩
    · rintro σ' H' ⟨rfl, s'⟩
      exact ⟨41 - (i + 1), by omega, i + 1, rfl, by omega, rfl, s', .inr e⟩
    · have n2 : ((2 : Int)).natAbs < 2 ^ 64 := by decide
      k_extra "lp"
      refine ⟨?_, by k_extra "same"⟩
      rw [Int.pow_succ, Int.mul_comm]
      rfl
  · have e : isEnough b (begin + 2 ^ i - 1) = true := by simpa using e
    k_extra "lp"
    refine r_fdiv (by decide) ?_
    k_extra "lp"
    have lowOk : begin - 1 + 2 ^ i / 2 = begin - 1 ∨ (begin ≤ begin - 1 + 2 ^ i / 2 ∧ isEnough b (begin - 1 + 2 ^ i / 2) = false) := by
      rcases hno with h | h
      · left
        subst h
        show begin - 1 + 1 / 2 = begin - 1
        omega
      · by_cases h0 : i = 0
        · left
          subst h0
          show begin - 1 + 1 / 2 = begin - 1
          omega
        · right
          obtain ⟨j, rfl⟩ : ∃ j, i = j + 1 := ⟨i - 1, by omega⟩
          have e2 : (2 : Int) ^ (j + 1) / 2 = 2 ^ j := by
            rw [Int.pow_succ]
            omega
          have pj : (0 : Int) < 2 ^ j := Int.pow_pos (by decide)
          rw [e2]
          rw [Nat.add_sub_cancel] at h
          refine ⟨by omega, ?_⟩
          rw [show begin - 1 + 2 ^ j = begin + 2 ^ j - 1 by omega]
          exact h
    have lowLt : begin - 1 + 2 ^ i / 2 < begin + 2 ^ i - 1 := by omega
    generalize begin - 1 + 2 ^ i / 2 = low0 at lowOk lowLt ⊢
    have highOk : begin + 2 ^ i - 1 < 4000000000000 := by omega
    have beginLe : begin ≤ begin + 2 ^ i - 1 := by omega
    generalize hh : begin + 2 ^ i - 1 = high0 at lowLt highOk beginLe e ⊢
    refine r_while (fun m σ H' => ∃ low high z5, m = (high - low).toNat ∧ σ = [some (.ref f), some (.int begin), some (.int (2 ^ i)), some (.int low), some (.int high), z5] ∧ Same H H' ∧ low < high ∧ begin ≤ high ∧ high < 4000000000000 ∧ isEnough b high = true ∧ (low = begin - 1 ∨ (begin ≤ low ∧ isEnough b low = false))) ⟨_, low0, high0, none, rfl, rfl, by k_extra "same", lowLt, beginLe, highOk, e, lowOk⟩ ?_
    rintro m σ H3 ⟨low, high, z5, rfl, rfl, s3, l1, l2, l3, l4, l5⟩
    k_extra "lp"
    refine ite2 (fun e1 => ?_) (fun e1 => ?_)
    · have e1 : 1 < high - low := of_decide_eq_true e1
      have mid : low < (low + high) / 2 ∧ (low + high) / 2 < high := by omega
      have m0 : begin ≤ (low + high) / 2 := by omega
      refine ⟨fun σ' H' => ∃ low' high' z5', (high' - low').toNat < (high - low).toNat ∧ σ' = [some (.ref f), some (.int begin), some (.int (2 ^ i)), some (.int low'), some (.int high'), z5'] ∧ Same H H' ∧ low' < high' ∧ begin ≤ high' ∧ high' < 4000000000000 ∧ isEnough b high' = true ∧ (low' = begin - 1 ∨ (begin ≤ low' ∧ isEnough b low' = false)), ?_, ?_⟩
      · rintro σ' H' ⟨low', high', z5', h1, h2, h3⟩
        exact ⟨_, h1, low', high', z5', rfl, h2, h3⟩
      · k_extra "lp"
        refine r_fdiv (by decide) ?_
        k_extra "lp"
        generalize hm : (low + high) / 2 = mm at mid m0 ⊢
        have sM : mm.natAbs < 2 ^ 80 := by
          have e80 : (2 : Nat) ^ 80 = 1208925819614629174706176 := by decide
          omega
        have f2 : PreRho b mm := ⟨hb, sM, by omega⟩
        refine r_lcall rfl (s3 _ _ hf) ?_
        k_extra "lp"
        refine ⟨s3 _ _ hf, s3 _ _ hc, bv, _, rfl, rfl, up s3 rb, f2, ?_⟩
        intro H4 s4
        k_extra "lp"
        refine ite2 (fun e2 => ?_) (fun e2 => ?_)
        · k_extra "lp"
          rename_i H5 s5 r5
          exact ⟨low, mm, _, by omega, rfl, by k_extra "same", mid.1, m0, by omega, e2, l5⟩
        · have e2 : isEnough b mm = false := by simpa using e2
          k_extra "lp"
          rename_i H5 s5 r5
          exact ⟨mm, high, _, by omega, rfl, by k_extra "same", mid.2, l2, l3, l4, .inr ⟨m0, e2⟩⟩
    · have e1 : ¬ 1 < high - low := fun z => e1 (decide_eq_true z)
      k_extra "lp"
      refine q _ _ s3 ⟨l2, l4, ?_⟩
      intro x hx1 hx2
      rcases l5 with h | ⟨h, h'⟩
      · omega
      · cases ex : isEnough b x with
        | false => rfl
        | true =>
          have := hu.mono x low (by omega) (by omega) ex
          rw [h'] at this
          cases this
end
end Lp
set_option Elab.async false
set_option linter.all false
set_option maxRecDepth 100000
set_option maxHeartbeats 4000000

namespace Lp
open PySem PySem.Spec PyProof.Rows L2
local macro_rules | `(tactic| k_extra "rep") => `(tactic| first
  | assumption
  | exact rfl
  | exact BI.mk _ _ _
  | (refine up (by assumption) ?_; k_extra "rep"))
local macro_rules | `(tactic| k_extra "same") => `(tactic| first
  | assumption
  | exact Same.refl _
  | (refine Same.trans ?_ (by assumption); k_extra "same"))
local macro_rules | `(tactic| k_extra "sz") => `(tactic| with_reducible first
  | assumption
  | exact mul_lt (by k_extra "sz") (by k_extra "sz")
  | exact add_sz (by k_extra "sz") (by k_extra "sz")
  | exact sub_sz (by k_extra "sz") (by k_extra "sz")
  | (refine lit_sz ?_; decide))
local macro_rules | `(tactic| k_extra "st") => `(tactic| (simp only [L2.start, List.set_cons_succ, List.set_cons_zero, List.map_cons, List.map_nil, List.cons_append, List.nil_append, List.length_cons, List.length_nil, List.replicate, L2.wipe]; exact rfl))
local macro_rules | `(tactic| k_extra "lp1") => `(tactic| with_reducible first
  | refine r_seq ?_ | refine r_asg ?_ | refine r_ret ?_ | refine r_drop ?_ | refine r_if ?_ | refine r_var rfl ?_ | refine r_c ?_ | refine r_op ?_ | refine r_un ?_ | refine r_rI0 ?_ | refine r_rU ?_
  | refine r_cons ?_ | refine r_nil ?_ | refine r_call ?_ | refine r_cb ?_ | refine r_tup ?_ | refine r_lst ?_ | refine r_test ?_ | refine r_tB ?_ | refine r_bl ?_ | refine r_ifE ?_ | refine r_gcons ?_ | refine r_gnil ?_
  | refine r_gcd ?_ | refine r_next ?_ | refine r_slice ?_ | refine r_nopart ?_ | refine r_part ?_ | refine r_partI ?_ | refine r_bm ?_ | refine r_chain ?_ | refine r_eqI ?_ | refine r_neI ?_ | refine r_zip ?_ | refine r_itT ?_ | refine r_itL ?_ | refine r_for ?_ | refine r_lc ?_ | refine r_intI ?_ | refine r_intB ?_ | refine r_abs ?_ | refine r_max ?_ | refine r_none ?_ | refine r_and ?_ | refine r_or ?_ | refine r_not ?_ | refine r_andT ?_ | refine r_orT ?_ | refine r_notT ?_ | refine r_par ?_ | refine r_two rfl ?_ | refine r_gname rfl ?_)
local macro_rules | `(tactic| k_extra "lpn1") => `(tactic| with_reducible first
  | refine r_seq ?_ | refine r_asg ?_ | refine r_var rfl ?_ | refine r_op ?_ | refine r_cons ?_ | refine r_gcons ?_ | refine r_gnil ?_ | refine r_two (by k_extra "st") ?_ | refine r_gname (by k_extra "st") ?_)
local macro_rules | `(tactic| k_extra "lp2") => `(tactic| first
  | with_reducible refine r_mul (by assumption) (by assumption) ?_
  | with_reducible refine r_fx0 (by k_extra "rep") ?_
  | with_reducible refine r_fx1 (by k_extra "rep") ?_)
local macro_rules | `(tactic| k_extra "lp3") => `(tactic| first
  | with_reducible refine r_gfrac (by k_extra "rep") ?_
  | (with_reducible refine r_gpair (ra := F2) (rb := F2) (by k_extra "rep") ?_; intro _ _ _ _)
  | (with_reducible refine r_gpair (ra := P2) (rb := P2) (by k_extra "rep") ?_; intro _ _ _ _)
  | (with_reducible refine r_ix0 (ra := F2) (rb := F2) (by k_extra "rep") ?_; intro _ _)
  | (with_reducible refine r_ix1 (ra := F2) (rb := F2) (by k_extra "rep") ?_; intro _ _)
  | (with_reducible refine new_frac (by assumption) ?_; intro _ _ _ _)
  | (with_reducible refine new_pair (ra := F2) (rb := F2) (by k_extra "rep") (by k_extra "rep") ?_; intro _ _ _ _)
  | (with_reducible refine new_pair (ra := P2) (rb := P2) (by k_extra "rep") (by k_extra "rep") ?_; intro _ _ _ _)
  | (with_reducible refine new_tri (ra := F2) (rb := F2) (rc := F2) (by k_extra "rep") (by k_extra "rep") (by k_extra "rep") ?_; intro _ _ _ _)
  | (with_reducible refine sp1I (by k_extra "rep") (by assumption) ?_; intro _ _)
  | (with_reducible refine sp2I (by k_extra "rep") (by k_extra "rep") (by assumption) ?_; intro _ _)
  | (with_reducible refine sp1B (by k_extra "rep") (by assumption) ?_; intro _ _)
  | (with_reducible refine sp2B (by k_extra "rep") (by k_extra "rep") (by assumption) ?_; intro _ _)
  | (with_reducible refine sp3B (by k_extra "rep") (by k_extra "rep") (by k_extra "rep") (by assumption) ?_; intro _ _)
  | (with_reducible refine sp4B (by k_extra "rep") (by k_extra "rep") (by k_extra "rep") (by k_extra "rep") (by assumption) ?_; intro _ _)
  | (with_reducible refine sp1 (by k_extra "rep") (by assumption) ?_; intro _ _ _ _)
  | (with_reducible refine sp2 (by k_extra "rep") (by k_extra "rep") (by assumption) ?_; intro _ _ _ _)
  | (with_reducible refine sp4 (by k_extra "rep") (by k_extra "rep") (by k_extra "rep") (by k_extra "rep") (by assumption) ?_; intro _ _ _ _)
  | (with_reducible refine sp3 (by k_extra "rep") (by k_extra "rep") (by k_extra "rep") (by assumption) ?_; intro _ _ _ _))
local macro_rules | `(tactic| k_extra "lp4") => `(tactic| first
  | with_reducible refine r_gtup (by assumption) rfl ?_
  | (with_reducible refine new_any (by assumption) (Nat.le_of_ble_eq_true rfl) ?_; intro _ _ _ _))
local macro_rules | `(tactic| k_extra "lpn") => `(tactic| repeat (first | k_extra "lpn1" | k_extra "lp1" | k_extra "lp2" | k_extra "lp3" | k_extra "lp4"))
local macro_rules | `(tactic| k_extra "lp") => `(tactic| repeat (first | k_extra "lp1" | k_extra "lp2" | k_extra "lp3" | k_extra "lp4"))
section
variable {P : Program} {w : World} {K : PySem.W.Frag} {mg : Str → Option Value} {base : Heap}

local macro_rules | `(tactic| k_extra "lp5") => `(tactic| first
  | with_reducible refine r_par3 ?_
  | with_reducible refine r_three rfl ?_
  | ((with_reducible refine r_mul ?h1 ?h2 ?_); (case h1 => exact lt_p2 (by k_extra "sz") (by omega)); (case h2 => exact lt_p2 (by k_extra "sz") (by omega)))
  | with_reducible refine r_ixB (by k_extra "rep") (by with_unfolding_all exact rfl) ?_)
local macro_rules | `(tactic| k_extra "lpn") => `(tactic| repeat (first | k_extra "lpn1" | k_extra "lp1" | k_extra "lp2" | k_extra "lp3" | k_extra "lp4" | k_extra "lp5"))
local macro_rules | `(tactic| k_extra "lp") => `(tactic| repeat (first | k_extra "lp1" | k_extra "lp2" | k_extra "lp3" | k_extra "lp4" | k_extra "lp5"))
open LamX NdefX
abbrev s_least_ticks_for_all : Stmt := topS 37
theorem sc_least_ticks_for_all : FnScope ["bounds", "gap"] ["bounds"] (defScope s_least_ticks_for_all) := ⟨rfl, rfl, rfl, by decide +kernel, rfl, by decide +kernel, by decide +kernel⟩
theorem b_least_ticks_for_all : BindsBy "least_ticks_for_all" s_least_ticks_for_all ["bounds"] := fun _ _ _ _ _ _ us hl => match us, hl with | [_], _ => rfl
def lamE : Expr := match defBody s_least_ticks_for_all with
  | [_, _, .Return (some (.Call _ (l :: _) _ _)) _] => l
  | _ => .Constant .none 0 ⟨0, 0, 0, 0⟩
def lamPar : Arguments := match lamE with
  | .Lambda p _ _ _ => p
  | _ => { posonlyargs := [], args := [], vararg := none, kwonlyargs := [], kw_defaults := [], kwarg := none, defaults := [] }
def lamBd : Expr := match lamE with
  | .Lambda _ b _ _ => b
  | _ => .Constant .none 0 ⟨0, 0, 0, 0⟩
def lamSc : Scope := match lamE with
  | .Lambda _ _ s _ => s
  | _ => { kind := .function, names := [], isGenerator := false, isCoroutine := false }
theorem lam_ns : NScope ["ticks", "bounds"] ["ticks"] ["bounds"] lamSc := nscope_by (by decide +kernel)
theorem lam_free : ∀ y ∈ lamSc.names, y.2 = .free → (defScope s_least_ticks_for_all).names.lookup y.1 = some .cell ∨ (defScope s_least_ticks_for_all).names.lookup y.1 = some .free := ndef_free (fr := ["bounds"]) (by decide +kernel)
theorem lam_fr : ∀ y ∈ (["bounds"] : List Str), (y, NameKind.free) ∈ lamSc.names := ndef_fr (sc := defScope s_least_ticks_for_all) (by decide +kernel)
theorem tell_len {b : Bd} {ps : List Str} (h : ps.length = 1) : ∀ ws vs H Q E, spTell K b ws vs H Q E → vs.length = ps.length := fun ws vs H Q E ⟨_, _, _, e, _⟩ => by rw [e, h]; rfl
theorem lok_tell {X : Cx} {f c' : Addr} {b : Bd} (d_is_enough : Def P w K mg base "is_enough" 3 ["bounds", "ticks"] (spEnough K)) : LOk P w K mg base 4 f (lamF X lamPar lamSc c') lamBd ["ticks"] ["bounds"] (spTell K b) := by
  refine lok_of (N := ["ticks", "bounds"]) lam_ns (fun pm ctv us hl => match us, hl with | [_], _ => rfl) (tell_len rfl) ?_
  intro A outer s H vs ws Q hr hw h
  obtain ⟨bv, t, rfl, rfl, rb, hp, q⟩ := h
  refine ⟨_, (pcall d_is_enough hr (pa_cons (pv 1) (pa_cons (pv 0) pa_nil))), ?_⟩
  k_extra "lp"
  exact q _ (by k_extra "same")
def begOf (b : Bd) : Int := if lagOf b > 1 then lagOf b else 1
/-- what the call with the lambda is asked, and gives -/
def ttLeast (K : PySem.W.Frag) : List (Option V) → V → Hp → VK → Prop := fun ws v H Q => ∃ bv b N, ws = [some bv] ∧ v = .int (begOf b) ∧ RBd K H bv b ∧ BdOk b ∧ Rises (isEnough b) N ∧ begOf b ≤ N ∧
  ∀ r H', Same H H' → IsLeast (isEnough b) (begOf b) r → Q (.int r) H'
theorem begOf_pos (b : Bd) : 1 ≤ begOf b := by
  unfold begOf
  split <;> omega
theorem gives_least {X : Cx} {f c' : Addr} {g : Addr} {cdg : Value} {s : Shared} {H : Hp} {Q : VK} {v : V} {ws : List (Option V)} (kk : KM K) (d_is_enough : Def X.prog X.w K X.mg X.base "is_enough" 3 ["bounds", "ticks"] (spEnough K)) (hK : X.K = K)
    (hr : Room 4 (X.A.deeper (envOfC "doubled" (defScope s_doubled) s.heap.objs.size g cdg))) (lcl : CellsAt (cloFrom X.env.cells lamSc.names []) ["bounds"] ws s.heap H) (hf : H f = some (LmO f (lamF X lamPar lamSc c') lamBd))
    (hc : H c' = some (CodeO c' (X.env.qual ++ "<lambda>"))) (tt : ttLeast K ws v H Q) :
    ∃ t, PSs (cxOf CX0 X.prog X.w X.K X.mg X.base ["tells", "begin", "step", "low", "high", "middle"] "doubled" (defScope s_doubled) g cdg X.A X.stack s H E0).nox (defBody s_doubled) t ∧
      t { nx := fun _ H' => Q .non H', rt := Q } (L2.start ["tells", "begin", "step", "low", "high", "middle"] [.ref f, v]) H := by
  subst hK
  obtain ⟨bv, b, N, rfl, rfl, rb, hb, hu, hN, q⟩ := tt
  exact gives_doubled (k := 0) (F := lamF X lamPar lamSc c') (bd := lamBd) kk hr (lok_tell d_is_enough) lcl hf hc rb hb hu (begOf_pos b) hN q
def gapOf (b : Bd) : Int := b.S * b.S - 2 * rOf b * rOf b
def gapNo (b : Bd) : Bool := decide (gapOf b < 0) || (decide (gapOf b = 0) && decide (0 < lagOf b))
def qLam : Str := "least_ticks_for_all.<locals>.<lambda>"
structure PreLeast (b : Bd) : Prop where
  ok : BdOk b
  top : gapNo b = false → ∃ N, Rises (isEnough b) N ∧ begOf b ≤ N
def spLeast (K : PySem.W.Frag) (P : Addr) : Sp := fun vs H Q _ => ∃ v b, vs = [v] ∧ RBd K H v b ∧ PreLeast b ∧ TabS H P qLam ∧
  ∀ H', ExtN H H' → TabS H' P qLam → (gapNo b = true → Q .non H') ∧ (gapNo b = false → ∀ r, IsLeast (isEnough b) (begOf b) r → Q (.int r) H')
/-- a def whose code object is told -/
structure TxtC (K : PySem.W.Frag) (mg : Str → Option Value) (x : Str) (st : Stmt) (c : Addr) : Prop where
  ex : ∃ (f : Addr) (oc : Value) (od : Option Addr) (kV doc pm : Value) (an : Option Addr) (ct : Value) (osl : Array (Option Value)), mg x = some (.ref f) ∧ PySem.W.keepIn K (.ref f) = true ∧
    K.lookup f = some ⟨oc, od, .func (PySem.W.fnOf x x (defArgs st) (defBody st) (defScope st) .none kV doc pm an (.ref c) ct), osl⟩ ∧ PySem.W.codeIn K (.ref c) x = true
theorem mkDefC {x : Str} {st : Stmt} {c : Addr} {N ps : List Str} {k : Nat} {sp : Sp} (T : TxtC K mg x st c) (S : FnScope N ps (defScope st)) (hb : BindsBy x st ps) (len : ∀ vs H Q E, sp vs H Q E → vs.length = ps.length)
    (hbody : ∀ (f : Addr) (A : Around) (outer : List Env) (s : Shared) (H : Hp) (vs : List V) (Q : VK) (E : XK), Room k (A.deeper (envOfC x (defScope st) s.heap.objs.size f (.ref c))) → KM K → sp vs H Q E →
      ∃ t, PSs (cxOf CX0 P w K mg base N x (defScope st) f (.ref c) A outer s H E).nox (defBody st) t ∧ t { nx := fun _ H' => Q .non H', rt := Q } (start N vs) H) : Def P w K mg base x (k + 1) ps sp := by
  obtain ⟨f, oc, od, kV, doc, pm, an, ct, osl, hm, hk, lk, hcd⟩ := T.ex
  refine ⟨f, _, hm, hk, .all (hb kV doc pm an (.ref c) ct), fn_of lk hcd S len ?_⟩
  intro A outer s H vs Q E hr hsp
  obtain ⟨t, h, q⟩ := hbody f A outer s H vs Q E hr .mk hsp
  exact ⟨t, h.nox, q⟩
theorem extn_ts {H H' : Hp} (e : ExtN H H') : TSame H H' := fun b xs => ⟨fun h => e _ _ h (fun ps z => by cases z), fun o h => e _ _ h (fun ps z => by cases z)⟩
theorem extn_of {H H' : Hp} (e : Same H H') : ExtN H H' := ExtN.of e
theorem least_len {Pa : Addr} {ps : List Str} (h : ps.length = 1) : ∀ vs H Q E, spLeast K Pa vs H Q E → vs.length = ps.length := fun vs H Q E ⟨_, _, e, _⟩ => by rw [e, h]; rfl
theorem d_least_ticks_for_all {c Pa : Addr} (T : TxtC K mg "least_ticks_for_all" s_least_ticks_for_all c) (TB : TabB base mg c Pa) (Td : Txt K mg "doubled" s_doubled) (n : Nm K mg) (d_is_enough : Def P w K mg base "is_enough" 3 ["bounds", "ticks"] (spEnough K))
    (d_r_of : Def P w K mg base "r_of" 1 ["bounds"] (spR K)) (d_lag_of : Def P w K mg base "lag_of" 1 ["bounds"] (spLag K)) : Def P w K mg base "least_ticks_for_all" 6 ["bounds"] (spLeast K Pa) := by
  refine mkDefC T sc_least_ticks_for_all b_least_ticks_for_all (least_len rfl) fun f A outer s H vs Q E hr kk h => ?_
  obtain ⟨v, b, rfl, hv, hp, hT, q⟩ := h
  obtain ⟨g, fdg, hmg, Fg⟩ := Td.ex
  obtain ⟨goc, god, gkV, gdoc, gpm, gan, gcdv, gct, gosl, rfl, lk, hcg⟩ := Fg.ex
  refine ⟨_, (pss_cons (ps_set (i := 1) sc_least_ticks_for_all.nd rfl (.inl rfl) (pe_op op_sub (pe_op op_mulW (pe_ix (ixT K) (pv 0) pe_int (fun _ _ => rfl)) (pe_ix (ixT K) (pv 0) pe_int (fun _ _ => rfl))) (pe_op op_mulW (pe_op op_mulW pe_int (pcall d_r_of hr (pa_cons (pv 0) pa_nil))) (pcall d_r_of hr (pa_cons (pv 0) pa_nil)))))
  (pss_cons (ps_if ((pw_or (pt_cmpR op_lt (pv 1) pe_int (nomark _)) (pw_or1 ((pw_and (pt_cmpR op_eq (pv 1) pe_int (nomark _)) (pw_and1 (pt_cmpR op_gt (pcall d_lag_of hr (pa_cons (pv 0) pa_nil)) pe_int (nomark _))))).pt))).pt
    (pss_one (ps_ret pe_non))
    pss_nil)
  (pss_one (ps_ret (pe_lam2 (x := "doubled") (a := "tells") (b := "begin") (params := lamPar) (bd := lamBd) (scope := lamSc) (fr := ["bounds"]) (js := [0]) (TT := ttLeast K) hmg Fg.kp lk hcg (Fg.binds b_doubled) sc_doubled TB rfl hr rfl lam_free lam_fr rfl (pe_callB (max2 rfl) (by rfl) n.max (by decide +kernel) (pa_cons pe_int (pa_cons (pcall d_lag_of hr (pa_cons (pv 0) pa_nil)) pa_nil))) (fun f c2 s H v ws Q hr2 cl h1 h2 tt => gives_least kk d_is_enough rfl hr2 cl h1 h2 tt)))))), ?_⟩
  have hb := hp.ok
  have z1 := hb.S
  have z3 := rOf_sz hb
  have tail : ∀ Hx, Same H Hx → gapNo b = false → tLam2 Pa (lamF (cxOf CX0 P w K mg base ["bounds", "gap"] "least_ticks_for_all" (defScope s_least_ticks_for_all) f (.ref c) A outer s H E).nox lamPar lamSc) lamBd [0]
      (tCB rMax (tCons (tC (V.int 1)) (tCons (tCal (spLag K) (tCons (tVar 0) L2.tNil)) L2.tNil))) (ttLeast K) [some v, some (.int (b.S * b.S - 2 * rOf b * rOf b))] Hx Q := by
    intro Hx sx hno
    obtain ⟨N, hu, hN⟩ := hp.top hno
    refine ⟨hT.ext sx, ?_⟩
    intro f' c' H1 eN T1 h1 h2
    have hv1 : RBd K H1 v b := Tp.tp ((Same.ts sx).trans (extn_ts eN)) hv
    k_extra "lp"
    rename_i H2 s2
    refine ⟨s2 _ _ h1, s2 _ _ h2, v, b, N, rfl, rfl, up s2 hv1, hb, hu, hN, ?_⟩
    intro r H' s' hl
    exact (q H' (((extn_of sx).trans eN).trans (extn_of (s2.trans s'))) (T1.ext (s2.trans s'))).2 hno r hl
  k_extra "lp"
  refine ite2 (fun e => ?_) (fun e => ?_)
  · have e : gapOf b < 0 := of_decide_eq_true e
    refine iteT ?_
    k_extra "lp"
    refine (q _ (extn_of (by k_extra "same")) (hT.ext (by k_extra "same"))).1 ?_
    unfold gapNo
    rw [decide_eq_true e, Bool.true_or]
  · have e : decide (gapOf b < 0) = false := by
      have e : ¬ decide (gapOf b < 0) = true := e
      simpa using e
    k_extra "lp"
    refine ite2 (fun e1 => ?_) (fun e1 => ?_)
    · have e1 : decide (gapOf b = 0) = true := e1
      k_extra "lp"
      refine ite2 (fun e2 => ?_) (fun e2 => ?_)
      · k_extra "lp"
        refine (q _ (extn_of (by k_extra "same")) (hT.ext (by k_extra "same"))).1 ?_
        unfold gapNo
        rw [e, e1, e2]
        rfl
      · have e2 : decide (0 < lagOf b) = false := by simpa using e2
        refine tail _ (by k_extra "same") ?_
        unfold gapNo
        rw [e, e1, e2]
        rfl
    · have e1 : decide (gapOf b = 0) = false := by
        have e1 : ¬ decide (gapOf b = 0) = true := e1
        simpa using e1
      refine iteF ?_
      refine tail _ (by k_extra "same") ?_
      unfold gapNo
      rw [e, e1]
      rfl
end
end Lp
set_option Elab.async false
set_option linter.all false
set_option maxRecDepth 100000
set_option maxHeartbeats 4000000

namespace Lp
open PySem PySem.Spec PyProof.Rows L2
local macro_rules | `(tactic| k_extra "rep") => `(tactic| first
  | assumption
  | exact rfl
  | exact BI.mk _ _ _
  | (refine up (by assumption) ?_; k_extra "rep"))
local macro_rules | `(tactic| k_extra "same") => `(tactic| first
  | assumption
  | exact Same.refl _
  | (refine Same.trans ?_ (by assumption); k_extra "same"))
local macro_rules | `(tactic| k_extra "sz") => `(tactic| with_reducible first
  | assumption
  | exact mul_lt (by k_extra "sz") (by k_extra "sz")
  | exact add_sz (by k_extra "sz") (by k_extra "sz")
  | exact sub_sz (by k_extra "sz") (by k_extra "sz")
  | (refine lit_sz ?_; decide))
local macro_rules | `(tactic| k_extra "st") => `(tactic| (simp only [L2.start, List.set_cons_succ, List.set_cons_zero, List.map_cons, List.map_nil, List.cons_append, List.nil_append, List.length_cons, List.length_nil, List.replicate, L2.wipe]; exact rfl))
local macro_rules | `(tactic| k_extra "lp1") => `(tactic| with_reducible first
  | refine r_seq ?_ | refine r_asg ?_ | refine r_ret ?_ | refine r_drop ?_ | refine r_if ?_ | refine r_var rfl ?_ | refine r_c ?_ | refine r_op ?_ | refine r_un ?_ | refine r_rI0 ?_ | refine r_rU ?_
  | refine r_cons ?_ | refine r_nil ?_ | refine r_call ?_ | refine r_cb ?_ | refine r_tup ?_ | refine r_lst ?_ | refine r_test ?_ | refine r_tB ?_ | refine r_bl ?_ | refine r_ifE ?_ | refine r_gcons ?_ | refine r_gnil ?_
  | refine r_gcd ?_ | refine r_next ?_ | refine r_slice ?_ | refine r_nopart ?_ | refine r_part ?_ | refine r_partI ?_ | refine r_bm ?_ | refine r_chain ?_ | refine r_eqI ?_ | refine r_neI ?_ | refine r_zip ?_ | refine r_itT ?_ | refine r_itL ?_ | refine r_for ?_ | refine r_lc ?_ | refine r_intI ?_ | refine r_intB ?_ | refine r_abs ?_ | refine r_max ?_ | refine r_none ?_ | refine r_and ?_ | refine r_or ?_ | refine r_not ?_ | refine r_andT ?_ | refine r_orT ?_ | refine r_notT ?_ | refine r_par ?_ | refine r_two rfl ?_ | refine r_gname rfl ?_)
local macro_rules | `(tactic| k_extra "lpn1") => `(tactic| with_reducible first
  | refine r_seq ?_ | refine r_asg ?_ | refine r_var rfl ?_ | refine r_op ?_ | refine r_cons ?_ | refine r_gcons ?_ | refine r_gnil ?_ | refine r_two (by k_extra "st") ?_ | refine r_gname (by k_extra "st") ?_)
local macro_rules | `(tactic| k_extra "lp2") => `(tactic| first
  | with_reducible refine r_mul (by assumption) (by assumption) ?_
  | with_reducible refine r_fx0 (by k_extra "rep") ?_
  | with_reducible refine r_fx1 (by k_extra "rep") ?_)
local macro_rules | `(tactic| k_extra "lp3") => `(tactic| first
  | with_reducible refine r_gfrac (by k_extra "rep") ?_
  | (with_reducible refine r_gpair (ra := F2) (rb := F2) (by k_extra "rep") ?_; intro _ _ _ _)
  | (with_reducible refine r_gpair (ra := P2) (rb := P2) (by k_extra "rep") ?_; intro _ _ _ _)
  | (with_reducible refine r_ix0 (ra := F2) (rb := F2) (by k_extra "rep") ?_; intro _ _)
  | (with_reducible refine r_ix1 (ra := F2) (rb := F2) (by k_extra "rep") ?_; intro _ _)
  | (with_reducible refine new_frac (by assumption) ?_; intro _ _ _ _)
  | (with_reducible refine new_pair (ra := F2) (rb := F2) (by k_extra "rep") (by k_extra "rep") ?_; intro _ _ _ _)
  | (with_reducible refine new_pair (ra := P2) (rb := P2) (by k_extra "rep") (by k_extra "rep") ?_; intro _ _ _ _)
  | (with_reducible refine new_tri (ra := F2) (rb := F2) (rc := F2) (by k_extra "rep") (by k_extra "rep") (by k_extra "rep") ?_; intro _ _ _ _)
  | (with_reducible refine sp1I (by k_extra "rep") (by assumption) ?_; intro _ _)
  | (with_reducible refine sp2I (by k_extra "rep") (by k_extra "rep") (by assumption) ?_; intro _ _)
  | (with_reducible refine sp1B (by k_extra "rep") (by assumption) ?_; intro _ _)
  | (with_reducible refine sp2B (by k_extra "rep") (by k_extra "rep") (by assumption) ?_; intro _ _)
  | (with_reducible refine sp3B (by k_extra "rep") (by k_extra "rep") (by k_extra "rep") (by assumption) ?_; intro _ _)
  | (with_reducible refine sp4B (by k_extra "rep") (by k_extra "rep") (by k_extra "rep") (by k_extra "rep") (by assumption) ?_; intro _ _)
  | (with_reducible refine sp1 (by k_extra "rep") (by assumption) ?_; intro _ _ _ _)
  | (with_reducible refine sp2 (by k_extra "rep") (by k_extra "rep") (by assumption) ?_; intro _ _ _ _)
  | (with_reducible refine sp4 (by k_extra "rep") (by k_extra "rep") (by k_extra "rep") (by k_extra "rep") (by assumption) ?_; intro _ _ _ _)
  | (with_reducible refine sp3 (by k_extra "rep") (by k_extra "rep") (by k_extra "rep") (by assumption) ?_; intro _ _ _ _))
local macro_rules | `(tactic| k_extra "lp4") => `(tactic| first
  | with_reducible refine r_gtup (by assumption) rfl ?_
  | (with_reducible refine new_any (by assumption) (Nat.le_of_ble_eq_true rfl) ?_; intro _ _ _ _))
local macro_rules | `(tactic| k_extra "lpn") => `(tactic| repeat (first | k_extra "lpn1" | k_extra "lp1" | k_extra "lp2" | k_extra "lp3" | k_extra "lp4"))
local macro_rules | `(tactic| k_extra "lp") => `(tactic| repeat (first | k_extra "lp1" | k_extra "lp2" | k_extra "lp3" | k_extra "lp4"))
section
variable {P : Program} {w : World} {K : PySem.W.Frag} {mg : Str → Option Value} {base : Heap}

theorem r_sqrt {a : Int} {H : Hp} {Q : VK} (h : 0 ≤ a ∧ a.natAbs < 2 ^ 200) (q : Q (.int ((Float64.isqrt a.toNat : Nat) : Int)) H) : rSqrt [.int a] H Q := ⟨a, rfl, h.1, h.2, q⟩
theorem r_gtri {K : PySem.W.Frag} {σ : L2.St} {H : Hp} {t : TGs} {v : V} {c : Tri} {Q : L2.St → Hp → Prop} (h : T3 K H v c) (q : ∀ x y z, F2 K H x c.1 → F2 K H y c.2.1 → F2 K H z c.2.2 → t [x, y, z] σ H Q) : gTup K 3 t v σ H Q := by
  obtain ⟨p, x, y, z, rfl, h, h1, h2, h3⟩ := h
  exact r_gtup h rfl (q x y z h1 h2 h3)
local macro_rules | `(tactic| k_extra "lp5") => `(tactic| first
  | with_reducible refine r_par3 ?_
  | with_reducible refine r_three rfl ?_
  | ((with_reducible refine r_mul ?h1 ?h2 ?_); (case h1 => exact lt_p2 (by k_extra "sz") (by omega)); (case h2 => exact lt_p2 (by k_extra "sz") (by omega)))
  | with_reducible refine r_ixB (by k_extra "rep") (by with_unfolding_all exact rfl) ?_)
local macro_rules | `(tactic| k_extra "lpn") => `(tactic| repeat (first | k_extra "lpn1" | k_extra "lp1" | k_extra "lp2" | k_extra "lp3" | k_extra "lp4" | k_extra "lp5"))
local macro_rules | `(tactic| k_extra "lp") => `(tactic| repeat (first | k_extra "lp1" | k_extra "lp2" | k_extra "lp3" | k_extra "lp4" | k_extra "lp5"))
/-! the worst couple -/
def triedOf (b : Bd) (m : Int) : Leg × Leg := (((0, 0), (halfOf b m - backOf b m, -halfOf b m - backOf b m)), ((m * b.S, 0), (halfOf b m - backOf b m, halfOf b m - backOf b m)))
theorem triedOf_eq {b : Bd} {m : Int} (hd : Drawn b) (hm : Even m) : triedOf b m = (legA (halfOf b m) (backOf b m), legB (halfOf b m) (backOf b m)) := by
  unfold triedOf legA legB
  rw [half_two hd hm]
structure PreTried (b : Bd) (m : Int) : Prop where
  dr : Drawn b
  ev : Even m
abbrev s_tried : Stmt := topS 39
theorem sc_tried : FnScope ["bounds", "many", "half", "back", "wide", "way"] ["bounds", "many"] (defScope s_tried) := ⟨rfl, rfl, rfl, by decide +kernel, rfl, by decide +kernel, by decide +kernel⟩
theorem b_tried : BindsBy "tried" s_tried ["bounds", "many"] := fun _ _ _ _ _ _ us hl => match us, hl with | [_, _], _ => rfl
abbrev spTried (K : PySem.W.Frag) : Sp := Sp2 K RBd RI (RP P2 P2) PreTried triedOf
theorem d_tried (T : Txt K mg "tried" s_tried) (n : Nm K mg) : Def P w K mg base "tried" 1 ["bounds", "many"] (spTried K) := by
  refine mkDef T sc_tried b_tried (len2 rfl) fun f cdv A outer s H vs Q E hr kk h => ?_
  obtain ⟨x, y, b, m, rfl, hx, rfl, hp, q⟩ := h
  refine ⟨_, (pss_cons (ps_par (i := 4) (j := 5) (by rfl) sc_tried.nd rfl rfl (by decide) rfl rfl (pa_cons (pe_op op_mulW (pv 1) (pe_ix (ixT K) (pv 0) pe_int (fun _ _ => rfl))) (pa_cons (pe_op op_mulW (pv 1) (pe_ix (ixT K) (pv 0) pe_int (fun _ _ => rfl))) pa_nil)) (by rfl))
  (pss_cons (ps_set (i := 2) sc_tried.nd rfl (.inl rfl) (pe_op op_fdiv (pv 4) pe_int))
  (pss_cons (ps_set (i := 3) sc_tried.nd rfl (.inl rfl) (pe_callBfun cr_isqrt rfl n.isqrt (pa_cons (pe_op op_fdiv (pe_op op_sub (pe_op op_mulW (pv 5) (pv 5)) (pe_op op_mulW (pe_op op_mulW pe_int (pv 2)) (pv 2))) pe_int) pa_nil)))
  (pss_one (ps_ret (pe_tup (pa_cons (pe_tup (pa_cons (pe_tup (pa_cons pe_int (pa_cons pe_int pa_nil))) (pa_cons (pe_tup (pa_cons (pe_op op_sub (pv 2) (pv 3)) (pa_cons (pe_op op_sub (pe_un un_neg (pv 2)) (pv 3)) pa_nil))) pa_nil))) (pa_cons (pe_tup (pa_cons (pe_tup (pa_cons (pv 4) (pa_cons pe_int pa_nil))) (pa_cons (pe_tup (pa_cons (pe_op op_sub (pv 2) (pv 3)) (pa_cons (pe_op op_sub (pv 2) (pv 3)) pa_nil))) pa_nil))) pa_nil)))))))), ?_⟩
  have hd := hp.dr
  have hm := hp.ev
  have hok := hd.ok
  have z1 := hok.S
  have z2 := hok.way
  have z3 : m.natAbs < 2 ^ 54 := m_sz hd hm
  have z4 : (m * b.S / 2).natAbs < 2 ^ 64 := by
    have h1 := (back_lt hd hm).2
    have h2 := half_pos hd hm
    unfold halfOf at h1 h2
    have e63 : (2 : Int) ^ 63 = 9223372036854775808 := by decide
    have e64 : (2 : Nat) ^ 64 = 18446744073709551616 := by decide
    omega
  have n2 : ((2 : Int)).natAbs < 2 ^ 64 := by decide
  k_extra "lpn"
  refine r_fdiv (by decide) ?_
  k_extra "lpn"
  refine r_fdiv (by decide) ?_
  k_extra "lpn"
  refine r_sqrt ⟨(back_spec hd hm).1, ?_⟩ ?_
  · have h1 : (m * b.way * (m * b.way) - 2 * (m * b.S / 2) * (m * b.S / 2)).natAbs < 2 ^ 199 :=
      sub_lt (i := 198) (lt_p2 (mul_lt (mul_lt z3 (small_sz (i := 10) (by have := hd.S1; have := hd.way1; omega) (by have := hd.way2; omega) (by omega))) (mul_lt z3 (small_sz (i := 10) (by have := hd.S1; have := hd.way1; omega) (by have := hd.way2; omega) (by omega)))) (by omega)) (lt_p2 (mul_lt (mul_lt n2 z4) z4) (by omega))
    exact Nat.lt_of_le_of_lt (Int.natAbs_ediv_le_natAbs _ _) (lt_p2 h1 (by omega))
  k_extra "lpn"
  exact q _ _ (by k_extra "same") (by k_extra "rep")
theorem drawnT_rho {b : Bd} {T : Int} (h : DrawnT b T) : PreRho b T := by
  have := h.T1
  have := h.T3
  have e80 : (2 : Nat) ^ 80 = 1208925819614629174706176 := by decide
  exact ⟨h.dr.ok, by omega, by omega⟩
theorem r_sz9 {b : Bd} (h : Drawn b) : (rOf b).natAbs < 2 ^ 10 := small_sz (by have := h.r; omega) (by have := h.r; omega) (by omega)
/-- what the worst couple shows -/
def near2 (b : Bd) (T m : Int) : Tri := nearest (legA (halfOf b m) (backOf b m)) (legB (halfOf b m) (backOf b m)) (rhoOf b T)
abbrev s_worst_couple : Stmt := topS 40
theorem sc_worst_couple : FnScope ["bounds", "ticks", "many", "r", "rho", "leg", "other", "squared", "s", "t"] ["bounds", "ticks"] (defScope s_worst_couple) := ⟨rfl, rfl, rfl, by decide +kernel, rfl, by decide +kernel, by decide +kernel⟩
theorem b_worst_couple : BindsBy "worst_couple" s_worst_couple ["bounds", "ticks"] := fun _ _ _ _ _ _ us hl => match us, hl with | [_, _], _ => rfl
def spWorst (K : PySem.W.Frag) : Sp := fun vs H Q _ => ∃ v b T, vs = [v, .int T] ∧ RBd K H v b ∧ DrawnT b T ∧ (isEnough b T = true → ∀ H', Same H H' → Q .non H') ∧
  (isEnough b T = false → ∀ m p l o s t H', Same H H' → Even m → cmp (near2 b T m).1 (m * m * rOf b * rOf b, 1) < 0 → SqT K H' p [.int m, l, o, s, t] → P2 K H' l (legA (halfOf b m) (backOf b m)) → P2 K H' o (legB (halfOf b m) (backOf b m)) →
    F2 K H' s (near2 b T m).2.1 → F2 K H' t (near2 b T m).2.2 → Q (.ref p) H')
theorem worst_len {ps : List Str} (h : ps.length = 2) : ∀ vs H Q E, spWorst K vs H Q E → vs.length = ps.length := fun vs H Q E ⟨_, _, _, e, _⟩ => by rw [e, h]; rfl
theorem d_worst_couple (T : Txt K mg "worst_couple" s_worst_couple) (n : Nm K mg) (d_is_enough : Def P w K mg base "is_enough" 3 ["bounds", "ticks"] (spEnough K)) (d_r_of : Def P w K mg base "r_of" 1 ["bounds"] (spR K)) (d_rho_of : Def P w K mg base "rho_of" 2 ["bounds", "ticks"] (spRho K))
    (d_tried : Def P w K mg base "tried" 1 ["bounds", "many"] (spTried K)) (d_nearest : Def P w K mg base "nearest" 6 ["leg", "other", "rho"] (spNearest K)) (d_compared : Def P w K mg base "compared" 1 ["one", "other"] (spCompared K)) : Def P w K mg base "worst_couple" 7 ["bounds", "ticks"] (spWorst K) := by
  refine mkDef T sc_worst_couple b_worst_couple (worst_len rfl) fun f cdv A outer s H vs Q E hr kk h => ?_
  obtain ⟨v, b, t, rfl, hv, hd, q0, q1⟩ := h
  refine ⟨_, (pss_cons (ps_if (pt_val (pcall d_is_enough hr (pa_cons (pv 0) (pa_cons (pv 1) pa_nil))))
    (pss_one (ps_ret pe_non))
    pss_nil)
  (pss_cons (ps_par3 (i := 2) (j := 3) (l := 4) (by rfl) sc_worst_couple.nd rfl rfl rfl (by decide) (by decide) (by decide) rfl rfl rfl (pa_cons pe_int (pa_cons (pcall d_r_of hr (pa_cons (pv 0) pa_nil)) (pa_cons (pcall d_rho_of hr (pa_cons (pv 0) (pa_cons (pv 1) pa_nil))) pa_nil))) (by rfl))
  (pss_one (ps_while PassesOwn.never (pt_val pe_bl)
    (pss_cons (ps_asg (pcall d_tried hr (pa_cons (pv 0) (pa_cons (pv 2) pa_nil))) (pgT (n := 2) K rfl (pgs_cons (pg_name (i := 5) sc_worst_couple.nd rfl (.inl rfl)) (pgs_cons (pg_name (i := 6) sc_worst_couple.nd rfl (.inl rfl)) pgs_nil))))
  (pss_cons (ps_asg (pcall d_nearest hr (pa_cons (pv 5) (pa_cons (pv 6) (pa_cons (pv 4) pa_nil)))) (pgT (n := 3) K rfl (pgs_cons (pg_name (i := 7) sc_worst_couple.nd rfl (.inl rfl)) (pgs_cons (pg_name (i := 8) sc_worst_couple.nd rfl (.inl rfl)) (pgs_cons (pg_name (i := 9) sc_worst_couple.nd rfl (.inl rfl)) pgs_nil)))))
  (pss_cons (ps_if (pt_cmpR op_lt (pcall d_compared hr (pa_cons (pv 7) (pa_cons (pe_tup (pa_cons (pe_op op_mulW (pe_op op_mulW (pe_op op_mulW (pv 2) (pv 2)) (pv 3)) (pv 3)) (pa_cons pe_int pa_nil))) pa_nil))) pe_int (nomark _))
    (pss_one (ps_ret (pe_tup (pa_cons (pv 2) (pa_cons (pv 5) (pa_cons (pv 6) (pa_cons (pv 8) (pa_cons (pv 9) pa_nil))))))))
    pss_nil)
  (pss_one (ps_set (i := 2) sc_worst_couple.nd rfl (.inl rfl) (pe_op op_mulW pe_int (pv 2))))))))))), ?_⟩
  have hok := hd.dr.ok
  have f1 : PreRho b t := drawnT_rho hd
  have z5 := r_sz9 hd.dr
  k_extra "lp"
  refine ite2 (fun e => ?_) (fun e => ?_)
  · k_extra "lp"
    exact q0 e _ (by k_extra "same")
  · have e : isEnough b t = false := by simpa using e
    k_extra "lpn"
    rename_i vr H2 s2 rr
    refine r_while (fun m σ H' => ∃ i : Nat, ∃ x5 x6 x7 x8 x9, m = 60 - i ∧ i ≤ 52 ∧ σ = [some v, some (.int t), some (.int (2 ^ (i + 1))), some (.int (rOf b)), some vr, x5, x6, x7, x8, x9] ∧ Same H H' ∧ F2 K H' vr (rhoOf b t)) ⟨60, 0, _, _, _, _, _, rfl, by omega, rfl, by k_extra "same", rr⟩ ?_
    rintro mm σ H3 ⟨i, x5, x6, x7, x8, x9, rfl, hi, rfl, s3, r3⟩
    generalize hm : (2 : Int) ^ (i + 1) = m
    have hev : Even m := by
      refine ⟨?_, ?_, ?_⟩
      · rw [← hm, Int.pow_succ]
        omega
      · have : (0 : Int) < 2 ^ (i + 1) := Int.pow_pos (by decide)
        omega
      · have h1 : (2 : Int) ^ (i + 1) ≤ 2 ^ 53 := by
          have := p2_le (show i + 1 ≤ 53 by omega)
          exact_mod_cast this
        have h2 : (2 : Int) ^ 53 = 9007199254740992 := by decide
        omega
    have z3 : m.natAbs < 2 ^ 54 := m_sz hd.dr hev
    have n2 : ((2 : Int)).natAbs < 2 ^ 64 := by decide
    have f2 : PreTried b m := ⟨hd.dr, hev⟩
    obtain ⟨la, lb⟩ := legs_ok hd.dr hev
    have f3 : PreN (legA (halfOf b m) (backOf b m)) (legB (halfOf b m) (backOf b m)) (rhoOf b t) := ⟨la, lb, rho_ok hd⟩
    have f4 : FitsC (nearest (legA (halfOf b m) (backOf b m)) (legB (halfOf b m) (backOf b m)) (rhoOf b t)).1 (m * m * rOf b * rOf b, 1) := ⟨(near_fit f3).a, (fitI (mul_lt (mul_lt (mul_lt z3 z3) z5) z5) (by omega)).c⟩
    k_extra "lp"
    refine iteT ⟨fun σ' H' => ∃ i' : Nat, ∃ x5 x6 x7 x8 x9, 60 - i' < 60 - i ∧ i' ≤ 52 ∧ σ' = [some v, some (.int t), some (.int (2 ^ (i' + 1))), some (.int (rOf b)), some vr, x5, x6, x7, x8, x9] ∧ Same H H' ∧ F2 K H' vr (rhoOf b t), ?_, ?_⟩
    · rintro σ' H' ⟨i', y5, y6, y7, y8, y9, h1, h2, h3, h4, h5⟩
      exact ⟨60 - i', h1, i', y5, y6, y7, y8, y9, rfl, h2, h3, h4, h5⟩
    k_extra "lpn"
    rename_i vt H4 s4 r4 vl vo rl ro
    rw [triedOf_eq hd.dr hev] at rl ro
    k_extra "lpn"
    rename_i vn H5 s5 r5
    refine r_gtri (by k_extra "rep") ?_
    intro y1 y2 y3 ry1 ry2 ry3
    k_extra "lpn"
    refine ite2 (fun e1 => ?_) (fun e1 => ?_)
    · have e1 : cmp (near2 b t m).1 (m * m * rOf b * rOf b, 1) < 0 := of_decide_eq_true e1
      k_extra "lpn"
      rename_i p H6 s6 r6
      exact q1 e _ _ _ _ _ _ _ (by k_extra "same") hev e1 r6 (by k_extra "rep") (by k_extra "rep") (by k_extra "rep") (by k_extra "rep")
    · have e1 : ¬ cmp (near2 b t m).1 (m * m * rOf b * rOf b, 1) < 0 := fun z => e1 (decide_eq_true z)
      have hlt : i < 52 := by
        by_cases h : i < 52
        · exact h
        · exfalso
          have hi2 : i = 52 := by omega
          subst hi2
          have h53 : (2 : Int) ^ (52 + 1) = 9007199254740992 := by decide
          rw [isEnough_eq] at e
          exact e1 (tried_near hd.dr hev hd e (by omega))
      k_extra "lpn"
      rename_i H6 s6
      have e2 : (2 : Int) ^ (i + 1 + 1) = 2 * m := by rw [Int.pow_succ _ (i + 1), hm, Int.mul_comm m 2]
      exact ⟨i + 1, some vl, some vo, some y1, some y2, some y3, by omega, by omega, by rw [e2], by k_extra "same", by k_extra "rep"⟩
end
end Lp
set_option Elab.async false
set_option linter.all false
set_option maxRecDepth 100000
set_option maxHeartbeats 4000000

namespace Lp
open PySem PySem.Spec PyProof.Rows L2
local macro_rules | `(tactic| k_extra "rep") => `(tactic| first
  | assumption
  | exact rfl
  | exact BI.mk _ _ _
  | (refine up (by assumption) ?_; k_extra "rep"))
local macro_rules | `(tactic| k_extra "same") => `(tactic| first
  | assumption
  | exact Same.refl _
  | (refine Same.trans ?_ (by assumption); k_extra "same"))
local macro_rules | `(tactic| k_extra "sz") => `(tactic| with_reducible first
  | assumption
  | exact mul_lt (by k_extra "sz") (by k_extra "sz")
  | exact add_sz (by k_extra "sz") (by k_extra "sz")
  | exact sub_sz (by k_extra "sz") (by k_extra "sz")
  | (refine lit_sz ?_; decide))
local macro_rules | `(tactic| k_extra "st") => `(tactic| (simp only [L2.start, List.set_cons_succ, List.set_cons_zero, List.map_cons, List.map_nil, List.cons_append, List.nil_append, List.length_cons, List.length_nil, List.replicate, L2.wipe]; exact rfl))
local macro_rules | `(tactic| k_extra "lp1") => `(tactic| with_reducible first
  | refine r_seq ?_ | refine r_asg ?_ | refine r_ret ?_ | refine r_drop ?_ | refine r_if ?_ | refine r_var rfl ?_ | refine r_c ?_ | refine r_op ?_ | refine r_un ?_ | refine r_rI0 ?_ | refine r_rU ?_
  | refine r_cons ?_ | refine r_nil ?_ | refine r_call ?_ | refine r_cb ?_ | refine r_tup ?_ | refine r_lst ?_ | refine r_test ?_ | refine r_tB ?_ | refine r_bl ?_ | refine r_ifE ?_ | refine r_gcons ?_ | refine r_gnil ?_
  | refine r_gcd ?_ | refine r_next ?_ | refine r_slice ?_ | refine r_nopart ?_ | refine r_part ?_ | refine r_partI ?_ | refine r_bm ?_ | refine r_chain ?_ | refine r_eqI ?_ | refine r_neI ?_ | refine r_zip ?_ | refine r_itT ?_ | refine r_itL ?_ | refine r_for ?_ | refine r_lc ?_ | refine r_intI ?_ | refine r_intB ?_ | refine r_abs ?_ | refine r_max ?_ | refine r_none ?_ | refine r_and ?_ | refine r_or ?_ | refine r_not ?_ | refine r_andT ?_ | refine r_orT ?_ | refine r_notT ?_ | refine r_par ?_ | refine r_two rfl ?_ | refine r_gname rfl ?_)
local macro_rules | `(tactic| k_extra "lpn1") => `(tactic| with_reducible first
  | refine r_seq ?_ | refine r_asg ?_ | refine r_var rfl ?_ | refine r_op ?_ | refine r_cons ?_ | refine r_gcons ?_ | refine r_gnil ?_ | refine r_two (by k_extra "st") ?_ | refine r_gname (by k_extra "st") ?_)
local macro_rules | `(tactic| k_extra "lp2") => `(tactic| first
  | with_reducible refine r_mul (by assumption) (by assumption) ?_
  | with_reducible refine r_fx0 (by k_extra "rep") ?_
  | with_reducible refine r_fx1 (by k_extra "rep") ?_)
local macro_rules | `(tactic| k_extra "lp3") => `(tactic| first
  | with_reducible refine r_gfrac (by k_extra "rep") ?_
  | (with_reducible refine r_gpair (ra := F2) (rb := F2) (by k_extra "rep") ?_; intro _ _ _ _)
  | (with_reducible refine r_gpair (ra := P2) (rb := P2) (by k_extra "rep") ?_; intro _ _ _ _)
  | (with_reducible refine r_ix0 (ra := F2) (rb := F2) (by k_extra "rep") ?_; intro _ _)
  | (with_reducible refine r_ix1 (ra := F2) (rb := F2) (by k_extra "rep") ?_; intro _ _)
  | (with_reducible refine new_frac (by assumption) ?_; intro _ _ _ _)
  | (with_reducible refine new_pair (ra := F2) (rb := F2) (by k_extra "rep") (by k_extra "rep") ?_; intro _ _ _ _)
  | (with_reducible refine new_pair (ra := P2) (rb := P2) (by k_extra "rep") (by k_extra "rep") ?_; intro _ _ _ _)
  | (with_reducible refine new_tri (ra := F2) (rb := F2) (rc := F2) (by k_extra "rep") (by k_extra "rep") (by k_extra "rep") ?_; intro _ _ _ _)
  | (with_reducible refine sp1I (by k_extra "rep") (by assumption) ?_; intro _ _)
  | (with_reducible refine sp2I (by k_extra "rep") (by k_extra "rep") (by assumption) ?_; intro _ _)
  | (with_reducible refine sp1B (by k_extra "rep") (by assumption) ?_; intro _ _)
  | (with_reducible refine sp2B (by k_extra "rep") (by k_extra "rep") (by assumption) ?_; intro _ _)
  | (with_reducible refine sp3B (by k_extra "rep") (by k_extra "rep") (by k_extra "rep") (by assumption) ?_; intro _ _)
  | (with_reducible refine sp4B (by k_extra "rep") (by k_extra "rep") (by k_extra "rep") (by k_extra "rep") (by assumption) ?_; intro _ _)
  | (with_reducible refine sp1 (by k_extra "rep") (by assumption) ?_; intro _ _ _ _)
  | (with_reducible refine sp2 (by k_extra "rep") (by k_extra "rep") (by assumption) ?_; intro _ _ _ _)
  | (with_reducible refine sp4 (by k_extra "rep") (by k_extra "rep") (by k_extra "rep") (by k_extra "rep") (by assumption) ?_; intro _ _ _ _)
  | (with_reducible refine sp3 (by k_extra "rep") (by k_extra "rep") (by k_extra "rep") (by assumption) ?_; intro _ _ _ _))
local macro_rules | `(tactic| k_extra "lp4") => `(tactic| first
  | with_reducible refine r_gtup (by assumption) rfl ?_
  | (with_reducible refine new_any (by assumption) (Nat.le_of_ble_eq_true rfl) ?_; intro _ _ _ _))
local macro_rules | `(tactic| k_extra "lpn") => `(tactic| repeat (first | k_extra "lpn1" | k_extra "lp1" | k_extra "lp2" | k_extra "lp3" | k_extra "lp4"))
local macro_rules | `(tactic| k_extra "lp") => `(tactic| repeat (first | k_extra "lp1" | k_extra "lp2" | k_extra "lp3" | k_extra "lp4"))
section
variable {P : Program} {w : World} {K : PySem.W.Frag} {mg : Str → Option Value} {base : Heap}

theorem r_slT {K : PySem.W.Frag} {H : Hp} {Q : VK} {p : Addr} {vs : List V} {lo hi : Option Int} (h : SqT K H p vs) (hw : ¬ (HT.sIx vs.length 0 lo = 0 ∧ HT.sIx vs.length vs.length hi = vs.length)) (q : ∀ r H', Same H H' → SqT K H' r (cutV vs lo hi) → Q (.ref r) H') : rSlT K (.ref p) lo hi H Q :=
  ⟨p, vs, rfl, h, hw, fun r hr => q r _ (same_upd hr) (.inl (.inl upd_same))⟩
def RF5 : Rep Tri := fun K H v c => ∃ p x y z, v = .ref p ∧ SqT K H p [x, .int 0, .int 1, y, z] ∧ F2 K H x c.1 ∧ F2 K H y c.2.1 ∧ F2 K H z c.2.2
instance : Up RF5 := ⟨fun s ⟨p, x, y, z, e, h, h1, h2, h3⟩ => ⟨p, x, y, z, e, Same.sqt s h, Up.up s h1, Up.up s h2, Up.up s h3⟩⟩
theorem r_fx50 {K : PySem.W.Frag} {H : Hp} {Q : VK} {v : V} {t : Tri} (h : RF5 K H v t) (q : ∀ x, F2 K H x t.1 → Q x H) : rIxT K v (.int 0) H Q := by
  obtain ⟨p, x, y, z, rfl, h, h1, h2, h3⟩ := h
  exact r_ixT h rfl (q x h1)
theorem five_ref {K : PySem.W.Frag} {H : Hp} {v : V} {t : Tri} (h : RF5 K H v t) : v ≠ .non := by
  obtain ⟨p, x, y, z, e, _⟩ := h
  rw [e]
  intro z
  cases z
local macro_rules | `(tactic| k_extra "lp5") => `(tactic| first
  | with_reducible refine r_par3 ?_
  | with_reducible refine r_three rfl ?_
  | ((with_reducible refine r_mul ?h1 ?h2 ?_); (case h1 => exact lt_p2 (by k_extra "sz") (by omega)); (case h2 => exact lt_p2 (by k_extra "sz") (by omega)))
  | with_reducible refine r_ixB (by k_extra "rep") (by with_unfolding_all exact rfl) ?_)
local macro_rules | `(tactic| k_extra "lpn") => `(tactic| repeat (first | k_extra "lpn1" | k_extra "lp1" | k_extra "lp2" | k_extra "lp3" | k_extra "lp4" | k_extra "lp5"))
local macro_rules | `(tactic| k_extra "lp") => `(tactic| repeat (first | k_extra "lp1" | k_extra "lp2" | k_extra "lp3" | k_extra "lp4" | k_extra "lp5"))
/-! the flight of two legs -/
structure PreN2 (l : Leg × Leg) (c : Fq) : Prop where
  n : PreN l.1 l.2 c
abbrev s_nearest_of : Stmt := topS 42
theorem sc_nearest_of : FnScope ["legs", "rho", "found", "j", "other", "i", "leg", "is_less", "squared", "s", "t"] ["legs", "rho"] (defScope s_nearest_of) := ⟨rfl, rfl, rfl, by decide +kernel, rfl, by decide +kernel, by decide +kernel⟩
theorem b_nearest_of : BindsBy "nearest_of" s_nearest_of ["legs", "rho"] := fun _ _ _ _ _ _ us hl => match us, hl with | [_, _], _ => rfl
abbrev spNearOf (K : PySem.W.Frag) : Sp := Sp2 K (RP P2 P2) F2 RF5 PreN2 (fun l c => nearest l.1 l.2 c)
theorem d_nearest_of (T : Txt K mg "nearest_of" s_nearest_of) (n : Nm K mg) (d_nearest : Def P w K mg base "nearest" 6 ["leg", "other", "rho"] (spNearest K)) (d_compared : Def P w K mg base "compared" 1 ["one", "other"] (spCompared K)) : Def P w K mg base "nearest_of" 7 ["legs", "rho"] (spNearOf K) := by
  refine mkDef T sc_nearest_of b_nearest_of (len2 rfl) fun f cdv A outer s H vs Q E hr kk h => ?_
  obtain ⟨x, y, l, c, rfl, hx, hy, hp, q⟩ := h
  obtain ⟨pl, xl, xo, rfl, hs, hl, ho⟩ := hx
  have pn := hp.n
  refine ⟨_, (pss_cons (ps_set (i := 2) sc_nearest_of.nd rfl (.inl rfl) pe_non)
  (pss_cons (ps_for PassesOwn.never rfl (pi_enuT K (by rfl) n.enumerate (pa_cons (pv 0) pa_nil)) (pgT (n := 2) K rfl (pgs_cons (pg_name (i := 3) sc_nearest_of.nd rfl (.inl rfl)) (pgs_cons (pg_name (i := 4) sc_nearest_of.nd rfl (.inl rfl)) pgs_nil)))
    (pss_one (ps_for PassesOwn.never rfl (pi_enuT K (by rfl) n.enumerate (pa_cons (pe_slice (slT K) (pv 0) po_none (po_some (pv 3))) pa_nil)) (pgT (n := 2) K rfl (pgs_cons (pg_name (i := 5) sc_nearest_of.nd rfl (.inl rfl)) (pgs_cons (pg_name (i := 6) sc_nearest_of.nd rfl (.inl rfl)) pgs_nil)))
    (pss_cons (ps_asg (pcall d_nearest hr (pa_cons (pv 6) (pa_cons (pv 4) (pa_cons (pv 1) pa_nil)))) (pgT (n := 3) K rfl (pgs_cons (pg_name (i := 8) sc_nearest_of.nd rfl (.inl rfl)) (pgs_cons (pg_name (i := 9) sc_nearest_of.nd rfl (.inl rfl)) (pgs_cons (pg_name (i := 10) sc_nearest_of.nd rfl (.inl rfl)) pgs_nil)))))
  (pss_cons (ps_set (i := 7) sc_nearest_of.nd rfl (.inl rfl) (pe_or (pe_cmpR isN (pv 2) pe_non (nomark _)) (pe_one (pe_cmpR op_lt (pcall d_compared hr (pa_cons (pv 8) (pa_cons (pe_ix (ixT K) (pv 2) pe_int (fun _ _ => rfl)) pa_nil))) pe_int (nomark _)))))
  (pss_one (ps_if ((pw_or (pt_val (pv 7)) (pw_or1 ((pw_and (pt_cmpR op_eq (pcall d_compared hr (pa_cons (pv 8) (pa_cons (pe_ix (ixT K) (pv 2) pe_int (fun _ _ => rfl)) pa_nil))) pe_int (nomark _)) (pw_and1 (pt_cmpR (op_ltT (Nat.lt_of_le_of_lt (Nat.le_add_right _ _) hr.units)) (pe_tup (pa_cons (pv 5) (pa_cons (pv 3) pa_nil))) (pe_slice (slT K) (pv 2) (po_some pe_int) (po_some pe_int)) (nomark _))))).pt))).pt
    (pss_one (ps_set (i := 2) sc_nearest_of.nd rfl (.inl rfl) (pe_tup (pa_cons (pv 8) (pa_cons (pv 5) (pa_cons (pv 3) (pa_cons (pv 9) (pa_cons (pv 10) pa_nil))))))))
    pss_nil)))))))
  (pss_one (ps_ret (pv 2))))), ?_⟩
  k_extra "lpn"
  refine r_enuT ?_
  k_extra "lpn"
  refine ⟨pl, [xl, xo], rfl, hs, ?_⟩
  refine for_K (walk_enuT (K := K) (xs := [xl, xo])) (fun i σ H' => Same H H' ∧ ((i ≤ 1 ∧ ∃ x3 x4, σ = [some (.ref pl), some y, some .non, x3, x4, none, none, none, none, none, none]) ∨
    (i = 2 ∧ ∃ fv x3 x4 x5 x6 x7 x8 x9 x10, σ = [some (.ref pl), some y, some fv, x3, x4, x5, x6, x7, x8, x9, x10] ∧ RF5 K H' fv (nearest l.1 l.2 c)))) ⟨Same.refl _, .inl ⟨by omega, none, none, rfl⟩⟩ (fun i σ H' _ h => Same.sqt h.1 hs) ?_ ?_
  · rintro i v σ H1 H2 hi ⟨s1, hst⟩ ⟨T', xc, xv, rfl, hT, rfl, e1, e2⟩
    have s2 : Same H1 (upd H1 T' (.tup [xc, xv])) := same_upd hT
    have r2 : SqT K (upd H1 T' (.tup [xc, xv])) T' [xc, xv] := .inl (.inl upd_same)
    generalize upd H1 T' (.tup [xc, xv]) = H2 at s2 r2 ⊢
    rcases hst with ⟨hi1, x3, x4, rfl⟩ | ⟨hi2, _⟩
    · have e1 : V.int (i : Nat) = xc := Option.some.inj e1
      subst e1
      k_extra "lpn"
      refine r_enuT ?_
      k_extra "lpn"
      refine r_slT (Same.sqt s2 (Same.sqt s1 hs)) ?_ ?_
      · rw [HT.sIx_nat]
        show ¬ (_ ∧ min i 2 = 2)
        omega
      intro pr H3 s3 r3
      rw [cut_to] at r3
      k_extra "lpn"
      refine ⟨pr, _, rfl, r3, ?_⟩
      match i, hi1, e2, r3 with
      | 0, _, e2, r3 =>
        refine for_K (walk_enuT (K := K) (xs := [])) (fun _ σ H' => Same H H' ∧ Same H3 H' ∧ σ = [some (.ref pl), some y, some .non, some (.int (0 : Nat)), some xv, none, none, none, none, none, none]) ⟨by k_extra "same", Same.refl _, rfl⟩ (fun i σ H' _ h => Same.sqt h.2.1 r3) ?_ ?_
        · intro i x σ H H' hi
          exact absurd hi (Nat.not_lt_zero _)
        · rintro σ H4 ⟨s4, _, rfl⟩
          k_extra "lpn"
          exact ⟨s4, .inl ⟨by omega, _, _, rfl⟩⟩
      | 1, _, e2, r3 =>
        have e2 : xo = xv := Option.some.inj e2
        subst e2
        refine for_K (walk_enuT (K := K) (xs := [xl])) (fun k σ H' => Same H H' ∧ Same H3 H' ∧ ((k = 0 ∧ σ = [some (.ref pl), some y, some .non, some (.int (1 : Nat)), some xo, none, none, none, none, none, none]) ∨
          (k = 1 ∧ ∃ fv x5 x6 x7 x8 x9 x10, σ = [some (.ref pl), some y, some fv, some (.int (1 : Nat)), some xo, x5, x6, x7, x8, x9, x10] ∧ RF5 K H' fv (nearest l.1 l.2 c)))) ⟨by k_extra "same", Same.refl _, .inl ⟨rfl, rfl⟩⟩ (fun i σ H' _ h => Same.sqt h.2.1 r3) ?_ ?_
        · rintro k v σ H4 H5 hk ⟨s4, s34, hst⟩ ⟨T2, yc, yv, rfl, hT2, rfl, e3, e4⟩
          have s5 : Same H4 (upd H4 T2 (.tup [yc, yv])) := same_upd hT2
          have r5 : SqT K (upd H4 T2 (.tup [yc, yv])) T2 [yc, yv] := .inl (.inl upd_same)
          generalize upd H4 T2 (.tup [yc, yv]) = H5 at s5 r5 ⊢
          have hk : k < 1 := hk
          rcases hst with ⟨rfl, rfl⟩ | ⟨hk1, _⟩
          · have e3 : V.int ((0 : Nat) : Int) = yc := Option.some.inj e3
            have e4 : xl = yv := Option.some.inj e4
            subst e3 e4
            have hl5 : P2 K H5 xl l.1 := up s5 (up s4 hl)
            have ho5 : P2 K H5 xo l.2 := up s5 (up s4 ho)
            have hy5 : F2 K H5 y c := up s5 (up s4 hy)
            k_extra "lpn"
            rename_i vn H6 s6 r6
            refine r_gtri (by k_extra "rep") ?_
            intro y1 y2 y3 ry1 ry2 ry3
            k_extra "lpn"
            rw [show (false ^^ decide (V.non = V.non)) = true from rfl]
            refine iteT ?_
            k_extra "lpn"
            refine iteT ?_
            refine iteT ?_
            k_extra "lpn"
            rename_i p H7 s7 r7
            refine ⟨by k_extra "same", by k_extra "same", .inr ⟨rfl, .ref p, _, _, _, _, _, _, rfl, p, y1, y2, y3, rfl, r7, by k_extra "rep", by k_extra "rep", by k_extra "rep"⟩⟩
          · omega
        · rintro σ H4 ⟨s4, _, hst⟩
          rcases hst with ⟨hk, _⟩ | ⟨_, fv, x5, x6, x7, x8, x9, x10, rfl, rf⟩
          · have hk : 1 = 0 := hk
            exact absurd hk (by decide)
          · k_extra "lpn"
            exact ⟨s4, .inr ⟨rfl, fv, _, _, x5, x6, x7, x8, x9, x10, rfl, rf⟩⟩
    · have hi : i < 2 := hi
      omega
  · rintro σ H1 ⟨s1, hst⟩
    rcases hst with ⟨hi1, _⟩ | ⟨_, fv, x3, x4, x5, x6, x7, x8, x9, x10, rfl, rf⟩
    · have hi1 : 2 ≤ 1 := hi1
      omega
    · k_extra "lpn"
      exact q _ _ s1 rf
structure PreAre (l : Leg × Leg) (c : Fq) (r : Int) : Prop where
  n : PreN2 l c
  hr : r.natAbs < 2 ^ 100
abbrev s_are_apart : Stmt := topS 43
theorem sc_are_apart : FnScope ["legs", "rho", "r", "found"] ["legs", "rho", "r"] (defScope s_are_apart) := ⟨rfl, rfl, rfl, by decide +kernel, rfl, by decide +kernel, by decide +kernel⟩
theorem b_are_apart : BindsBy "are_apart" s_are_apart ["legs", "rho", "r"] := fun _ _ _ _ _ _ us hl => match us, hl with | [_, _, _], _ => rfl
abbrev spAre (K : PySem.W.Frag) : Sp := Sp3 K (RP P2 P2) F2 RI RB PreAre (fun l c r => decide (0 ≤ cmp (nearest l.1 l.2 c).1 (r * r, 1)))
theorem d_are_apart (T : Txt K mg "are_apart" s_are_apart) (d_nearest_of : Def P w K mg base "nearest_of" 7 ["legs", "rho"] (spNearOf K)) (d_compared : Def P w K mg base "compared" 1 ["one", "other"] (spCompared K)) : Def P w K mg base "are_apart" 8 ["legs", "rho", "r"] (spAre K) := by
  refine mkDef T sc_are_apart b_are_apart (len3 rfl) fun f cdv A outer s H vs Q E hr kk h => ?_
  obtain ⟨x, y, z, l, c, d, rfl, hx, hy, rfl, hp, q⟩ := h
  have f0 := hp.n
  have pn := hp.n.n
  have n1 : d.natAbs < 2 ^ 9000 := lt_p2 hp.hr (by omega)
  have f1 : FitsC (nearest l.1 l.2 c).1 (d * d, 1) := ⟨(near_fit pn).a, (fitI (mul_lt hp.hr hp.hr) (by omega)).c⟩
  refine ⟨_, (pss_cons (ps_set (i := 3) sc_are_apart.nd rfl (.inl rfl) (pcall d_nearest_of hr (pa_cons (pv 0) (pa_cons (pv 1) pa_nil))))
  (pss_one (ps_ret (pe_or (pe_cmpR isN (pv 3) pe_non (nomark _)) (pe_one (pe_cmpR op_ge (pcall d_compared hr (pa_cons (pe_ix (ixT K) (pv 3) pe_int (fun _ _ => rfl)) (pa_cons (pe_tup (pa_cons (pe_op op_mulW (pv 2) (pv 2)) (pa_cons pe_int pa_nil))) pa_nil))) pe_int (nomark _))))))), ?_⟩
  k_extra "lpn"
  rename_i vf H2 s2 r2
  rw [show (false ^^ decide (vf = V.non)) = false by rw [decide_eq_false (five_ref r2)]; rfl]
  refine iteF ?_
  k_extra "lpn"
  refine r_fx50 (by k_extra "rep") ?_
  intro x0 r0
  k_extra "lpn"
  exact q _ _ (by k_extra "same") rfl
structure PreFl (b : Bd) (t : Int) (l : Leg × Leg) : Prop where
  rho : PreRho b t
  n : PreN2 l (rhoOf b t)
  hr : (rOf b).natAbs < 2 ^ 100
abbrev s_is_flight_apart : Stmt := topS 44
theorem sc_is_flight_apart : FnScope ["bounds", "ticks", "legs"] ["bounds", "ticks", "legs"] (defScope s_is_flight_apart) := ⟨rfl, rfl, rfl, by decide +kernel, rfl, by decide +kernel, by decide +kernel⟩
theorem b_is_flight_apart : BindsBy "is_flight_apart" s_is_flight_apart ["bounds", "ticks", "legs"] := fun _ _ _ _ _ _ us hl => match us, hl with | [_, _, _], _ => rfl
abbrev spFlight (K : PySem.W.Frag) : Sp := Sp3 K RBd RI (RP P2 P2) RB PreFl (fun b t l => decide (0 ≤ cmp (nearest l.1 l.2 (rhoOf b t)).1 (rOf b * rOf b, 1)))
theorem d_is_flight_apart (T : Txt K mg "is_flight_apart" s_is_flight_apart) (d_are_apart : Def P w K mg base "are_apart" 8 ["legs", "rho", "r"] (spAre K)) (d_r_of : Def P w K mg base "r_of" 1 ["bounds"] (spR K)) (d_rho_of : Def P w K mg base "rho_of" 2 ["bounds", "ticks"] (spRho K)) : Def P w K mg base "is_flight_apart" 9 ["bounds", "ticks", "legs"] (spFlight K) := by
  refine mkDef T sc_is_flight_apart b_is_flight_apart (len3 rfl) fun f cdv A outer s H vs Q E hr kk h => ?_
  obtain ⟨x, y, z, b, t, l, rfl, hx, rfl, hz, hp, q⟩ := h
  have hb := hp.rho.b
  have f0 := hp.rho
  have f1 : PreAre l (rhoOf b t) (rOf b) := ⟨hp.n, hp.hr⟩
  refine ⟨_, (pss_one (ps_ret (pcall d_are_apart hr (pa_cons (pv 2) (pa_cons (pcall d_rho_of hr (pa_cons (pv 0) (pa_cons (pv 1) pa_nil))) (pa_cons (pcall d_r_of hr (pa_cons (pv 0) pa_nil)) pa_nil)))))), ?_⟩
  k_extra "lpn"
  exact q _ _ (by k_extra "same") rfl
end
end Lp
set_option Elab.async false
set_option linter.all false
set_option maxRecDepth 100000
set_option maxHeartbeats 4000000

namespace Lp
open PySem PySem.Spec PyProof.Rows L2
local macro_rules | `(tactic| k_extra "rep") => `(tactic| first
  | assumption
  | exact rfl
  | exact BI.mk _ _ _
  | (refine up (by assumption) ?_; k_extra "rep"))
local macro_rules | `(tactic| k_extra "same") => `(tactic| first
  | assumption
  | exact Same.refl _
  | (refine Same.trans ?_ (by assumption); k_extra "same"))
local macro_rules | `(tactic| k_extra "sz") => `(tactic| with_reducible first
  | assumption
  | exact mul_lt (by k_extra "sz") (by k_extra "sz")
  | exact add_sz (by k_extra "sz") (by k_extra "sz")
  | exact sub_sz (by k_extra "sz") (by k_extra "sz")
  | (refine lit_sz ?_; decide))
local macro_rules | `(tactic| k_extra "st") => `(tactic| (simp only [L2.start, List.set_cons_succ, List.set_cons_zero, List.map_cons, List.map_nil, List.cons_append, List.nil_append, List.length_cons, List.length_nil, List.replicate, L2.wipe]; exact rfl))
local macro_rules | `(tactic| k_extra "lp1") => `(tactic| with_reducible first
  | refine r_seq ?_ | refine r_asg ?_ | refine r_ret ?_ | refine r_drop ?_ | refine r_if ?_ | refine r_var rfl ?_ | refine r_c ?_ | refine r_op ?_ | refine r_un ?_ | refine r_rI0 ?_ | refine r_rU ?_
  | refine r_cons ?_ | refine r_nil ?_ | refine r_call ?_ | refine r_cb ?_ | refine r_tup ?_ | refine r_lst ?_ | refine r_test ?_ | refine r_tB ?_ | refine r_bl ?_ | refine r_ifE ?_ | refine r_gcons ?_ | refine r_gnil ?_
  | refine r_gcd ?_ | refine r_next ?_ | refine r_slice ?_ | refine r_nopart ?_ | refine r_part ?_ | refine r_partI ?_ | refine r_bm ?_ | refine r_chain ?_ | refine r_eqI ?_ | refine r_neI ?_ | refine r_zip ?_ | refine r_itT ?_ | refine r_itL ?_ | refine r_for ?_ | refine r_lc ?_ | refine r_intI ?_ | refine r_intB ?_ | refine r_abs ?_ | refine r_max ?_ | refine r_none ?_ | refine r_and ?_ | refine r_or ?_ | refine r_not ?_ | refine r_andT ?_ | refine r_orT ?_ | refine r_notT ?_ | refine r_par ?_ | refine r_two rfl ?_ | refine r_gname rfl ?_)
local macro_rules | `(tactic| k_extra "lpn1") => `(tactic| with_reducible first
  | refine r_seq ?_ | refine r_asg ?_ | refine r_var rfl ?_ | refine r_op ?_ | refine r_cons ?_ | refine r_gcons ?_ | refine r_gnil ?_ | refine r_two (by k_extra "st") ?_ | refine r_gname (by k_extra "st") ?_)
local macro_rules | `(tactic| k_extra "lp2") => `(tactic| first
  | with_reducible refine r_mul (by assumption) (by assumption) ?_
  | with_reducible refine r_fx0 (by k_extra "rep") ?_
  | with_reducible refine r_fx1 (by k_extra "rep") ?_)
local macro_rules | `(tactic| k_extra "lp3") => `(tactic| first
  | with_reducible refine r_gfrac (by k_extra "rep") ?_
  | (with_reducible refine r_gpair (ra := F2) (rb := F2) (by k_extra "rep") ?_; intro _ _ _ _)
  | (with_reducible refine r_gpair (ra := P2) (rb := P2) (by k_extra "rep") ?_; intro _ _ _ _)
  | (with_reducible refine r_ix0 (ra := F2) (rb := F2) (by k_extra "rep") ?_; intro _ _)
  | (with_reducible refine r_ix1 (ra := F2) (rb := F2) (by k_extra "rep") ?_; intro _ _)
  | (with_reducible refine new_frac (by assumption) ?_; intro _ _ _ _)
  | (with_reducible refine new_pair (ra := F2) (rb := F2) (by k_extra "rep") (by k_extra "rep") ?_; intro _ _ _ _)
  | (with_reducible refine new_pair (ra := P2) (rb := P2) (by k_extra "rep") (by k_extra "rep") ?_; intro _ _ _ _)
  | (with_reducible refine new_tri (ra := F2) (rb := F2) (rc := F2) (by k_extra "rep") (by k_extra "rep") (by k_extra "rep") ?_; intro _ _ _ _)
  | (with_reducible refine sp1I (by k_extra "rep") (by assumption) ?_; intro _ _)
  | (with_reducible refine sp2I (by k_extra "rep") (by k_extra "rep") (by assumption) ?_; intro _ _)
  | (with_reducible refine sp1B (by k_extra "rep") (by assumption) ?_; intro _ _)
  | (with_reducible refine sp2B (by k_extra "rep") (by k_extra "rep") (by assumption) ?_; intro _ _)
  | (with_reducible refine sp3B (by k_extra "rep") (by k_extra "rep") (by k_extra "rep") (by assumption) ?_; intro _ _)
  | (with_reducible refine sp4B (by k_extra "rep") (by k_extra "rep") (by k_extra "rep") (by k_extra "rep") (by assumption) ?_; intro _ _)
  | (with_reducible refine sp1 (by k_extra "rep") (by assumption) ?_; intro _ _ _ _)
  | (with_reducible refine sp2 (by k_extra "rep") (by k_extra "rep") (by assumption) ?_; intro _ _ _ _)
  | (with_reducible refine sp4 (by k_extra "rep") (by k_extra "rep") (by k_extra "rep") (by k_extra "rep") (by assumption) ?_; intro _ _ _ _)
  | (with_reducible refine sp3 (by k_extra "rep") (by k_extra "rep") (by k_extra "rep") (by assumption) ?_; intro _ _ _ _))
local macro_rules | `(tactic| k_extra "lp4") => `(tactic| first
  | with_reducible refine r_gtup (by assumption) rfl ?_
  | (with_reducible refine new_any (by assumption) (Nat.le_of_ble_eq_true rfl) ?_; intro _ _ _ _))
local macro_rules | `(tactic| k_extra "lpn") => `(tactic| repeat (first | k_extra "lpn1" | k_extra "lp1" | k_extra "lp2" | k_extra "lp3" | k_extra "lp4"))
local macro_rules | `(tactic| k_extra "lp") => `(tactic| repeat (first | k_extra "lp1" | k_extra "lp2" | k_extra "lp3" | k_extra "lp4"))
section
variable {P : Program} {w : World} {K : PySem.W.Frag} {mg : Str → Option Value} {base : Heap}

open PySem.W
theorem same_mut {H H' : Hp} {D : Addr} {o : HO} (s : Same H H') (n : H D = none) : Same H (upd H' D o) := fun b x e => by
  rw [upd_ne (ne_of_none e n)]
  exact s _ _ e
def mayMeet (l o : Leg) : Bool := if l.1 = o.1 then false else if l.2 = o.2 then false else decide (0 ≤ (o.1.1 - l.1.1) * (o.2.1 - l.2.1) + (o.1.2 - l.1.2) * (o.2.2 - l.2.2))
def isShort (way : Int) (c : Leg) : Bool := decide ((c.2.1 - c.1.1) * (c.2.1 - c.1.1) + (c.2.2 - c.1.2) * (c.2.2 - c.1.2) ≤ way * way)
def rowB (ts : List Fq) (way : Int) (f : Fq) : List Leg := (ts.map fun t => (f, t)).filter (isShort way)
def legsB (fs ts : List Fq) (way : Int) : List Leg := fs.flatMap (rowB ts way)
theorem row_len (ts : List Fq) (way : Int) (f : Fq) : (rowB ts way f).length ≤ ts.length := by
  unfold rowB
  exact Nat.le_trans (List.length_filter_le _ _) (by rw [List.length_map]; exact Nat.le_refl _)
theorem rows_len (ts : List Fq) (way : Int) : ∀ fs : List Fq, (legsB fs ts way).length ≤ fs.length * ts.length
  | [] => Nat.zero_le _
  | f :: fs => by
    unfold legsB
    rw [List.flatMap_cons, List.length_append, List.length_cons]
    have h1 := row_len ts way f
    have h2 := rows_len ts way fs
    unfold legsB at h2
    rw [Nat.add_mul]
    omega
local macro_rules | `(tactic| k_extra "lp5") => `(tactic| first
  | with_reducible refine r_par3 ?_
  | with_reducible refine r_three rfl ?_
  | ((with_reducible refine r_mul ?h1 ?h2 ?_); (case h1 => exact lt_p2 (by k_extra "sz") (by omega)); (case h2 => exact lt_p2 (by k_extra "sz") (by omega)))
  | with_reducible refine r_ixB (by k_extra "rep") (by with_unfolding_all exact rfl) ?_)
local macro_rules | `(tactic| k_extra "lpn") => `(tactic| repeat (first | k_extra "lpn1" | k_extra "lp1" | k_extra "lp2" | k_extra "lp3" | k_extra "lp4" | k_extra "lp5"))
local macro_rules | `(tactic| k_extra "lp") => `(tactic| repeat (first | k_extra "lp1" | k_extra "lp2" | k_extra "lp3" | k_extra "lp4" | k_extra "lp5"))
/-! the legs between columns, the couples -/
structure Sm (f : Fq) : Prop where
  x : f.1.natAbs < 2 ^ 66
  y : f.2.natAbs < 2 ^ 66
abbrev s_may_meet : Stmt := topS 31
theorem sc_may_meet : FnScope ["leg", "other", "x", "y", "far_x", "far_y", "its_x", "its_y", "end_x", "end_y"] ["leg", "other"] (defScope s_may_meet) := ⟨rfl, rfl, rfl, by decide +kernel, rfl, by decide +kernel, by decide +kernel⟩
theorem b_may_meet : BindsBy "may_meet" s_may_meet ["leg", "other"] := fun _ _ _ _ _ _ us hl => match us, hl with | [_, _], _ => rfl
abbrev spMeet (K : PySem.W.Frag) : Sp := Sp2 K P2 P2 RB PreC mayMeet
theorem d_may_meet (T : Txt K mg "may_meet" s_may_meet) : Def P w K mg base "may_meet" 1 ["leg", "other"] (spMeet K) := by
  refine mkDef T sc_may_meet b_may_meet (len2 rfl) fun f cdv A outer s H vs Q E hr kk h => ?_
  obtain ⟨x, y, l, o, rfl, hx, hy, hp, q⟩ := h
  have z1 := hp.l.a
  have z2 := hp.l.b
  have z3 := hp.l.c
  have z4 := hp.l.d
  have y1 := hp.o.a
  have y2 := hp.o.b
  have y3 := hp.o.c
  have y4 := hp.o.d
  refine ⟨_, (pss_cons (ps_asg (pv 0) (pgT (n := 2) K rfl (pgs_cons (pgT (n := 2) K rfl (pgs_cons (pg_name (i := 2) sc_may_meet.nd rfl (.inl rfl)) (pgs_cons (pg_name (i := 3) sc_may_meet.nd rfl (.inl rfl)) pgs_nil))) (pgs_cons (pgT (n := 2) K rfl (pgs_cons (pg_name (i := 4) sc_may_meet.nd rfl (.inl rfl)) (pgs_cons (pg_name (i := 5) sc_may_meet.nd rfl (.inl rfl)) pgs_nil))) pgs_nil))))
  (pss_cons (ps_asg (pv 1) (pgT (n := 2) K rfl (pgs_cons (pgT (n := 2) K rfl (pgs_cons (pg_name (i := 6) sc_may_meet.nd rfl (.inl rfl)) (pgs_cons (pg_name (i := 7) sc_may_meet.nd rfl (.inl rfl)) pgs_nil))) (pgs_cons (pgT (n := 2) K rfl (pgs_cons (pg_name (i := 8) sc_may_meet.nd rfl (.inl rfl)) (pgs_cons (pg_name (i := 9) sc_may_meet.nd rfl (.inl rfl)) pgs_nil))) pgs_nil))))
  (pss_cons (ps_if ((pw_or (pt_cmpR (eqD K hr) (pe_ix (ixT K) (pv 0) pe_int (fun _ _ => rfl)) (pe_ix (ixT K) (pv 1) pe_int (fun _ _ => rfl)) (nomark _)) (pw_or1 (pt_cmpR (eqD K hr) (pe_ix (ixT K) (pv 0) pe_int (fun _ _ => rfl)) (pe_ix (ixT K) (pv 1) pe_int (fun _ _ => rfl)) (nomark _))))).pt
    (pss_one (ps_ret pe_bl))
    pss_nil)
  (pss_one (ps_ret (pe_cmpR op_ge (pe_op op_add (pe_op op_mulW (pe_op op_sub (pv 6) (pv 2)) (pe_op op_sub (pv 8) (pv 4))) (pe_op op_mulW (pe_op op_sub (pv 7) (pv 3)) (pe_op op_sub (pv 9) (pv 5)))) pe_int (nomark _))))))), ?_⟩
  k_extra "lpn"
  rename_i x0 x1 rx0 rx1
  k_extra "lpn"
  refine r_eqD (r := F2) (by decide) (by assumption) (by assumption) ?_
  k_extra "lpn"
  refine ite2 (fun e => ?_) (fun e => ?_)
  · have e := of_decide_eq_true e
    refine iteT ?_
    k_extra "lpn"
    refine q _ _ (by k_extra "same") ?_
    unfold mayMeet
    rw [if_pos e]
    rfl
  · have e : ¬ l.1 = o.1 := fun z => e (decide_eq_true z)
    k_extra "lpn"
    refine r_eqD (r := F2) (by decide) (by assumption) (by assumption) ?_
    k_extra "lpn"
    refine ite2 (fun e1 => ?_) (fun e1 => ?_)
    · have e1 := of_decide_eq_true e1
      k_extra "lpn"
      refine q _ _ (by k_extra "same") ?_
      unfold mayMeet
      rw [if_neg e, if_pos e1]
      rfl
    · have e1 : ¬ l.2 = o.2 := fun z => e1 (decide_eq_true z)
      k_extra "lpn"
      refine q _ _ (by k_extra "same") ?_
      unfold mayMeet
      rw [if_neg e, if_neg e1]
      rfl
theorem row_step {ts : List Fq} {way : Int} {f c : Fq} {j : Nat} (h : ts[j]? = some c) : rowB (ts.take (j + 1)) way f = rowB (ts.take j) way f ++ (if isShort way (f, c) = true then [(f, c)] else []) := by
  unfold rowB
  rw [List.take_add_one, h, List.map_append, List.filter_append]
  congr 1
  by_cases e : isShort way (f, c) = true
  · rw [if_pos e]
    simp [e]
  · rw [if_neg e]
    simp [e]
theorem legs_step {fs ts : List Fq} {way : Int} {c : Fq} {i : Nat} (h : fs[i]? = some c) : legsB (fs.take (i + 1)) ts way = legsB (fs.take i) ts way ++ rowB ts way c := by
  unfold legsB
  rw [List.take_add_one, h, List.flatMap_append]
  simp
/-- in order -/
def Ordered (ls : List Leg) : Prop := ls.Pairwise fun x y => dataLt (Dat.d P2 y) (Dat.d P2 x) = false
structure PreLegs (fs ts : List Fq) (way : Int) : Prop where
  f : ∀ c ∈ fs, Sm c
  t : ∀ c ∈ ts, Sm c
  w : way.natAbs < 2 ^ 100
  lf : fs.length ≤ 8
  lt : ts.length ≤ 8
  ord : Ordered (legsB fs ts way)
theorem dpAll {α : Type} [DecidableEq α] {ra : Rep α} [A : Dat ra] {H : Hp} : ∀ {vs : List V} {cs : List α}, AllR ra K H vs cs → DpAll K H vs (cs.map A.d)
  | [], [], _ => .nil
  | [], _ :: _, r => by have := r.1; simp at this
  | _ :: _, [], r => by have := r.1; simp at this
  | v :: vs, c :: cs, r => .cons (A.dp (r.2 0 v c rfl rfl)) (dpAll ⟨by have := r.1; simpa using this, fun i x d h1 h2 => r.2 (i + 1) x d h1 h2⟩)
theorem legs_alike (ls : List Leg) : AllAlike (ls.map (Dat.d P2)) := by
  intro d hd d' hd'
  obtain ⟨l, _, rfl⟩ := List.mem_map.mp hd
  obtain ⟨o, _, rfl⟩ := List.mem_map.mp hd'
  rfl
theorem legs_sortable (ls : List Leg) : Sortable (ls.map (Dat.d P2)) := .inl fun d hd => by
  obtain ⟨l, _, rfl⟩ := List.mem_map.mp hd
  exact ⟨_, _, rfl⟩
theorem r_sortL {H : Hp} {Q : VK} {p : Addr} {us : List V} {ls : List Leg} (h : H p = some (.lst us)) (ha : AllR P2 K H us ls) (ho : Ordered ls) (q : ∀ v H', Same H H' → RL P2 K H' v ls → Q v H') : rSortedD K [.ref p] H Q :=
  ⟨p, us, ls.map (Dat.d P2), rfl, .inl (.inl h), dpAll ha, legs_alike ls, legs_sortable ls, fun d hd => by
    obtain ⟨l, _, rfl⟩ := List.mem_map.mp hd
    exact Nat.le_trans (Dat.dep (r := P2) l) (by decide), by
    rw [List.pairwise_map]
    exact ho, fun p' hp' => q _ _ (same_upd hp') ⟨p', us, rfl, upd_same, ha.up (same_upd hp')⟩⟩
abbrev s_legs_between : Stmt := topS 30
theorem sc_legs_between : FnScope ["froms", "tos", "way", "found", "one", "other", "wide", "high"] ["froms", "tos", "way"] (defScope s_legs_between) := ⟨rfl, rfl, rfl, by decide +kernel, rfl, by decide +kernel, by decide +kernel⟩
theorem b_legs_between : BindsBy "legs_between" s_legs_between ["froms", "tos", "way"] := fun _ _ _ _ _ _ us hl => match us, hl with | [_, _, _], _ => rfl
abbrev spLegs (K : PySem.W.Frag) : Sp := Sp3 K (RU F2) (RU F2) RI (RL P2) PreLegs legsB
theorem d_legs_between (T : Txt K mg "legs_between" s_legs_between) (n : Nm K mg) : Def P w K mg base "legs_between" 1 ["froms", "tos", "way"] (spLegs K) := by
  refine mkDef T sc_legs_between b_legs_between (len3 rfl) fun f cdv A outer s H vs Q E hr kk h => ?_
  obtain ⟨x, y, z, fs, ts, way, rfl, hx, hy, rfl, hp, q⟩ := h
  obtain ⟨pf, fv, rfl, hf, af⟩ := hx
  obtain ⟨pt, tv, rfl, ht, at'⟩ := hy
  have hlf := hp.lf
  have hlt := hp.lt
  have zw := hp.w
  refine ⟨_, (pss_cons (ps_set (i := 3) sc_legs_between.nd rfl (.inl rfl) (pe_lst pa_nil))
  (pss_cons (ps_for PassesOwn.never rfl (piT K (pv 0)) (pg_name (i := 4) sc_legs_between.nd rfl (.inl rfl))
    (pss_one (ps_for PassesOwn.never rfl (piT K (pv 1)) (pg_name (i := 5) sc_legs_between.nd rfl (.inl rfl))
    (pss_cons (ps_par (i := 6) (j := 7) (by rfl) sc_legs_between.nd rfl rfl (by decide) rfl rfl (pa_cons (pe_op op_sub (pe_ix (ixT K) (pv 5) pe_int (fun _ _ => rfl)) (pe_ix (ixT K) (pv 4) pe_int (fun _ _ => rfl))) (pa_cons (pe_op op_sub (pe_ix (ixT K) (pv 5) pe_int (fun _ _ => rfl)) (pe_ix (ixT K) (pv 4) pe_int (fun _ _ => rfl))) pa_nil)) (by rfl))
  (pss_one (ps_if (pt_cmpR op_le (pe_op op_add (pe_op op_mulW (pv 6) (pv 6)) (pe_op op_mulW (pv 7) (pv 7))) (pe_op op_mulW (pv 2) (pv 2)) (nomark _))
    (pss_one (ps_expr (pe_bm PySem.F.plainAttrs_list PySem.F.slot_list_append PySem.F.type_list_append mt_append (pv 3) (pa_cons (pe_tup (pa_cons (pv 4) (pa_cons (pv 5) pa_nil))) pa_nil))))
    pss_nil))))))
  (pss_one (ps_ret (pe_callB (cr_sortedD K hr) (by rfl) n.sorted (by decide +kernel) (pa_cons (pv 3) pa_nil)))))), ?_⟩
  k_extra "lpn"
  refine ⟨Nat.zero_le _, fun D hD => ?_⟩
  have s0 : Same H (upd H D (.lst [])) := same_upd hD
  have h0 : (upd H D (.lst [])) D = some (.lst []) := upd_same
  generalize upd H D (.lst []) = H0 at s0 h0 ⊢
  k_extra "lpn"
  refine ⟨pf, rfl, ⟨fv, Same.sqt s0 hf⟩, ?_⟩
  refine for_K (walk_tup (K := K) (xs := fv)) (fun i σ H' => ∃ us x4 x5 x6 x7, σ = [some (.ref pf), some (.ref pt), some (.int way), some (.ref D), x4, x5, x6, x7] ∧ Same H H' ∧ H' D = some (.lst us) ∧ AllR P2 K H' us (legsB (fs.take i) ts way)) ⟨[], none, none, none, none, rfl, s0, h0, AllR.nil⟩ (fun i σ H' _ ⟨_, _, _, _, _, _, s1, _⟩ => Same.sqt s1 hf) ?_ ?_
  · rintro i v σ H1 H2 hi ⟨us, x4, x5, x6, x7, rfl, s1, h1, a1⟩ ⟨rfl, hv⟩
    obtain ⟨ci, ec, rv⟩ := af.of hv
    have zc := hp.f ci (List.mem_of_getElem? ec)
    have zc1 := zc.x
    have zc2 := zc.y
    have hi8 : i < 8 := by
      have := af.1
      omega
    k_extra "lpn"
    refine ⟨pt, rfl, ⟨tv, Same.sqt s1 ht⟩, ?_⟩
    refine for_K (walk_tup (K := K) (xs := tv)) (fun j σ H' => ∃ us x5 x6 x7, σ = [some (.ref pf), some (.ref pt), some (.int way), some (.ref D), some v, x5, x6, x7] ∧ Same H H' ∧ H' D = some (.lst us) ∧ AllR P2 K H' us (legsB (fs.take i) ts way ++ rowB (ts.take j) way ci)) ⟨us, x5, x6, x7, rfl, s1, h1, by
      have e : rowB (ts.take 0) way ci = [] := rfl
      rw [e, List.append_nil]
      exact a1⟩ (fun i σ H' _ ⟨_, _, _, _, _, s1, _⟩ => Same.sqt s1 ht) ?_ ?_
    · rintro j u σ H3 H4 hj ⟨us3, x5, x6, x7, rfl, s3, h3, a3⟩ ⟨rfl, hu⟩
      obtain ⟨cj, ej, ru⟩ := at'.of hu
      have zd := hp.t cj (List.mem_of_getElem? ej)
      have zd1 := zd.x
      have zd2 := zd.y
      have rv3 : F2 K H4 v ci := up s3 rv
      have ru3 : F2 K H4 u cj := up s3 ru
      have l3 : us3.length ≤ 90 := by
        rw [a3.1, List.length_append]
        have m1 := rows_len ts way (fs.take i)
        have m2 := row_len (ts.take j) way ci
        rw [List.length_take] at m1 m2
        have m3 : min i fs.length * ts.length ≤ 8 * 8 := Nat.mul_le_mul (by omega) hlt
        omega
      have st := row_step (way := way) (f := ci) ej
      k_extra "lpn"
      refine ite2 (fun e => ?_) (fun e => ?_)
      · have e : isShort way (ci, cj) = true := e
        rw [if_pos e] at st
        k_extra "lpn"
        refine ⟨.inl ⟨rfl, _, .inl (.inl h3)⟩, ?_⟩
        k_extra "lpn"
        rename_i w H5 s5 r5
        have h5 := s5 _ _ h3
        refine r_append h5 (by omega) ?_
        k_extra "lpn"
        have ts5 : TSame H5 (upd H5 D (.lst (us3 ++ [w]))) := TSame.lst h5
        refine ⟨us3 ++ [w], _, _, _, rfl, same_mut (by k_extra "same") hD, upd_same, ?_⟩
        rw [st, ← List.append_assoc]
        exact ((a3.up s5).tp ts5).snoc (Tp.tp ts5 r5)
      · have e : ¬ isShort way (ci, cj) = true := e
        rw [if_neg e, List.append_nil] at st
        k_extra "lpn"
        refine ⟨us3, _, _, _, rfl, s3, h3, ?_⟩
        rw [st]
        exact a3
    · rintro σ H3 ⟨us3, x5, x6, x7, rfl, s3, h3, a3⟩
      k_extra "lpn"
      refine ⟨us3, _, _, _, _, rfl, s3, h3, ?_⟩
      rw [List.take_of_length_le (l := ts) (i := tv.length) (by rw [at'.1]; exact Nat.le_refl _)] at a3
      rw [legs_step ec]
      exact a3
  · rintro σ H1 ⟨us, x4, x5, x6, x7, rfl, s1, h1, a1⟩
    rw [List.take_of_length_le (by rw [af.1]; exact Nat.le_refl _)] at a1
    k_extra "lpn"
    refine r_sortL h1 a1 hp.ord ?_
    intro v H2 s2 r2
    k_extra "lpn"
    exact q _ _ (by k_extra "same") r2
end
end Lp
set_option Elab.async false
set_option linter.all false
set_option maxRecDepth 100000
set_option maxHeartbeats 4000000

namespace Lp
open PySem PySem.Spec PyProof.Rows L2
local macro_rules | `(tactic| k_extra "rep") => `(tactic| first
  | assumption
  | exact rfl
  | exact BI.mk _ _ _
  | (refine up (by assumption) ?_; k_extra "rep"))
local macro_rules | `(tactic| k_extra "same") => `(tactic| first
  | assumption
  | exact Same.refl _
  | (refine Same.trans ?_ (by assumption); k_extra "same"))
local macro_rules | `(tactic| k_extra "sz") => `(tactic| with_reducible first
  | assumption
  | exact mul_lt (by k_extra "sz") (by k_extra "sz")
  | exact add_sz (by k_extra "sz") (by k_extra "sz")
  | exact sub_sz (by k_extra "sz") (by k_extra "sz")
  | (refine lit_sz ?_; decide))
local macro_rules | `(tactic| k_extra "st") => `(tactic| (simp only [L2.start, List.set_cons_succ, List.set_cons_zero, List.map_cons, List.map_nil, List.cons_append, List.nil_append, List.length_cons, List.length_nil, List.replicate, L2.wipe]; exact rfl))
local macro_rules | `(tactic| k_extra "lp1") => `(tactic| with_reducible first
  | refine r_seq ?_ | refine r_asg ?_ | refine r_ret ?_ | refine r_drop ?_ | refine r_if ?_ | refine r_var rfl ?_ | refine r_c ?_ | refine r_op ?_ | refine r_un ?_ | refine r_rI0 ?_ | refine r_rU ?_
  | refine r_cons ?_ | refine r_nil ?_ | refine r_call ?_ | refine r_cb ?_ | refine r_tup ?_ | refine r_lst ?_ | refine r_test ?_ | refine r_tB ?_ | refine r_bl ?_ | refine r_ifE ?_ | refine r_gcons ?_ | refine r_gnil ?_
  | refine r_gcd ?_ | refine r_next ?_ | refine r_slice ?_ | refine r_nopart ?_ | refine r_part ?_ | refine r_partI ?_ | refine r_bm ?_ | refine r_chain ?_ | refine r_eqI ?_ | refine r_neI ?_ | refine r_zip ?_ | refine r_itT ?_ | refine r_itL ?_ | refine r_for ?_ | refine r_lc ?_ | refine r_intI ?_ | refine r_intB ?_ | refine r_abs ?_ | refine r_max ?_ | refine r_none ?_ | refine r_and ?_ | refine r_or ?_ | refine r_not ?_ | refine r_andT ?_ | refine r_orT ?_ | refine r_notT ?_ | refine r_par ?_ | refine r_two rfl ?_ | refine r_gname rfl ?_)
local macro_rules | `(tactic| k_extra "lpn1") => `(tactic| with_reducible first
  | refine r_seq ?_ | refine r_asg ?_ | refine r_var rfl ?_ | refine r_op ?_ | refine r_cons ?_ | refine r_gcons ?_ | refine r_gnil ?_ | refine r_two (by k_extra "st") ?_ | refine r_gname (by k_extra "st") ?_)
local macro_rules | `(tactic| k_extra "lp2") => `(tactic| first
  | with_reducible refine r_mul (by assumption) (by assumption) ?_
  | with_reducible refine r_fx0 (by k_extra "rep") ?_
  | with_reducible refine r_fx1 (by k_extra "rep") ?_)
local macro_rules | `(tactic| k_extra "lp3") => `(tactic| first
  | with_reducible refine r_gfrac (by k_extra "rep") ?_
  | (with_reducible refine r_gpair (ra := F2) (rb := F2) (by k_extra "rep") ?_; intro _ _ _ _)
  | (with_reducible refine r_gpair (ra := P2) (rb := P2) (by k_extra "rep") ?_; intro _ _ _ _)
  | (with_reducible refine r_ix0 (ra := F2) (rb := F2) (by k_extra "rep") ?_; intro _ _)
  | (with_reducible refine r_ix1 (ra := F2) (rb := F2) (by k_extra "rep") ?_; intro _ _)
  | (with_reducible refine new_frac (by assumption) ?_; intro _ _ _ _)
  | (with_reducible refine new_pair (ra := F2) (rb := F2) (by k_extra "rep") (by k_extra "rep") ?_; intro _ _ _ _)
  | (with_reducible refine new_pair (ra := P2) (rb := P2) (by k_extra "rep") (by k_extra "rep") ?_; intro _ _ _ _)
  | (with_reducible refine new_tri (ra := F2) (rb := F2) (rc := F2) (by k_extra "rep") (by k_extra "rep") (by k_extra "rep") ?_; intro _ _ _ _)
  | (with_reducible refine sp1I (by k_extra "rep") (by assumption) ?_; intro _ _)
  | (with_reducible refine sp2I (by k_extra "rep") (by k_extra "rep") (by assumption) ?_; intro _ _)
  | (with_reducible refine sp1B (by k_extra "rep") (by assumption) ?_; intro _ _)
  | (with_reducible refine sp2B (by k_extra "rep") (by k_extra "rep") (by assumption) ?_; intro _ _)
  | (with_reducible refine sp3B (by k_extra "rep") (by k_extra "rep") (by k_extra "rep") (by assumption) ?_; intro _ _)
  | (with_reducible refine sp4B (by k_extra "rep") (by k_extra "rep") (by k_extra "rep") (by k_extra "rep") (by assumption) ?_; intro _ _)
  | (with_reducible refine sp1 (by k_extra "rep") (by assumption) ?_; intro _ _ _ _)
  | (with_reducible refine sp2 (by k_extra "rep") (by k_extra "rep") (by assumption) ?_; intro _ _ _ _)
  | (with_reducible refine sp4 (by k_extra "rep") (by k_extra "rep") (by k_extra "rep") (by k_extra "rep") (by assumption) ?_; intro _ _ _ _)
  | (with_reducible refine sp3 (by k_extra "rep") (by k_extra "rep") (by k_extra "rep") (by assumption) ?_; intro _ _ _ _))
local macro_rules | `(tactic| k_extra "lp4") => `(tactic| first
  | with_reducible refine r_gtup (by assumption) rfl ?_
  | (with_reducible refine new_any (by assumption) (Nat.le_of_ble_eq_true rfl) ?_; intro _ _ _ _))
local macro_rules | `(tactic| k_extra "lpn") => `(tactic| repeat (first | k_extra "lpn1" | k_extra "lp1" | k_extra "lp2" | k_extra "lp3" | k_extra "lp4"))
local macro_rules | `(tactic| k_extra "lp") => `(tactic| repeat (first | k_extra "lp1" | k_extra "lp2" | k_extra "lp3" | k_extra "lp4"))
section
variable {P : Program} {w : World} {K : PySem.W.Frag} {mg : Str → Option Value} {base : Heap}

theorem pi_enumK (K : PySem.W.Frag) {X : Cx} {e : Expr} {ta : TA} {p pos tpos : Pos} {elts : List Expr} {kk : Nat} (hg : Gl X "enumerate") (hm : X.mg "enumerate" = none) (ha : PA X [e] ta) (h : X.K = K := by rfl) (hs : starEach [e] X.env = [(false, eval e X.env)] := by rfl) :
    PI X (.Tuple elts kk tpos) (.Call (.Name "enumerate" p) [e] [] pos) (iEnum K ta) := by
  subst h
  exact pi_enum hg hm ha hs
def EnumK (K : PySem.W.Frag) (R : It → Hp → Prop) (vs : List V) (H : Hp) : Prop := ∃ a xs, vs = [.ref a] ∧ SqL K H a xs ∧ R (Ite K a) H
theorem r_enumL {K : PySem.W.Frag} {ta : TA} {σ : L2.St} {H : Hp} {R : It → Hp → Prop} (h : ta σ H fun vs H1 => EnumK K R vs H1) : iEnum K ta σ H R := h
theorem r_lenL {K : PySem.W.Frag} {H : Hp} {Q : VK} {p : Addr} {us : List V} (h : H p = some (.lst us)) (q : Q (.int us.length) H) : rLenS K [.ref p] H Q := ⟨p, us, rfl, .inl (.inl (.inl h)), q⟩
theorem iteF' {c : Bool} {A B : Prop} (e : c = false) (h : B) : if c = true then A else B := by
  rw [e]
  exact iteF h
theorem iteT' {c : Bool} {A B : Prop} (e : c = true) (h : A) : if c = true then A else B := by
  rw [e]
  exact iteT h
section
variable {J : It} {n : Nat} {G : Hp → Prop} {Y : Nat → Hp → V → Hp → Prop} {K : PySem.W.Frag}
/-- [e for .. if ..]: each turn is tested, and makes a value that stands for f of the item -/
theorem lc_filter {γ δ : Type} {rc : Rep γ} [Up rc] [Tp rc] (w : Walk J n G Y) {g : TG} {tt : TT} {te : TE} {vs : List Nat} {σ : L2.St} {H1 : Hp} {Q : VK} (cs : List δ) (p : δ → Bool) (f : δ → γ) (hn : cs.length = n) (hz : n ≤ 100) (hG : ∀ H, Same H1 H → G H)
    (hs : ∀ i x H H' c (Post : VK) (Pf : Hp → Prop), i < n → Same H1 H → cs[i]? = some c → Y i H x H' → (p c = true → ∀ y H4, Same H H4 → rc K H4 y (f c) → Post y H4) → (p c = false → ∀ H4, Same H H4 → Pf H4) →
      g x (wipe σ vs) H' fun σ2 H2 => wipe σ2 vs = wipe σ vs ∧ tt σ2 H2 fun b H3 => if b = true then te σ2 H3 Post else Pf H3)
    (hd : ∀ q us H, Same H1 H → H q = some (.lst us) → RL rc K H (.ref q) ((cs.filter p).map f) → Q (.ref q) H) (hgm : ∀ x σ H (A B : L2.St → Hp → Prop), (∀ σ H, A σ H → B σ H) → g x σ H A → g x σ H B) : LcK g tt te vs σ Q J H1 := by
  intro D nD
  refine lc_it w (fun i H => ∃ acc, H D = some (.lst acc) ∧ Same H1 H ∧ acc.length ≤ i ∧ AllR rc K H acc (((cs.take i).filter p).map f)) ⟨[], upd_same, same_upd nD, Nat.zero_le _, by rw [List.take_zero]; exact AllR.nil⟩ (fun i H hi ⟨acc, h1, h2, h3⟩ => hG H h2) ?_ ?_
  · rintro i x H H' hi ⟨acc, h1, h2, hl, h3⟩ hy
    have hc : cs[i]? = some (cs[i]'(by omega)) := List.getElem?_eq_getElem (by omega)
    refine hgm _ _ _ _ _ (fun σ2 H2 hq => hq) (hs i x H H' _ (fun y H4 => ∃ acc, H4 D = some (.lst acc) ∧ acc.length < sizeLine ∧ ∃ acc', (upd H4 D (.lst (acc ++ [y]))) D = some (.lst acc') ∧ Same H1 (upd H4 D (.lst (acc ++ [y]))) ∧ acc'.length ≤ i + 1 ∧ AllR rc K (upd H4 D (.lst (acc ++ [y]))) acc' (((cs.take (i + 1)).filter p).map f))
      (fun H4 => ∃ acc', H4 D = some (.lst acc') ∧ Same H1 H4 ∧ acc'.length ≤ i + 1 ∧ AllR rc K H4 acc' (((cs.take (i + 1)).filter p).map f)) hi h2 hc hy ?_ ?_)
    · intro e y H4 s4 ry
      have ts : TSame H4 (upd H4 D (.lst (acc ++ [y]))) := TSame.lst (s4 _ _ h1)
      refine ⟨acc, s4 _ _ h1, Nat.lt_of_le_of_lt (show acc.length ≤ 100 by omega) (by decide), acc ++ [y], upd_same, same_mut (h2.trans s4) nD, by rw [List.length_append, List.length_singleton]; omega, ?_⟩
      rw [List.take_add_one, hc, List.filter_append, List.map_append]
      have e1 : ((Option.toList (some cs[i])).filter p).map f = [f cs[i]] := by simp [e]
      rw [e1]
      exact ((h3.up s4).tp ts).snoc (Tp.tp ts ry)
    · intro e H4 s4
      refine ⟨acc, s4 _ _ h1, h2.trans s4, by omega, ?_⟩
      rw [List.take_add_one, hc, List.filter_append, List.map_append]
      have e1 : ((Option.toList (some cs[i])).filter p).map f = [] := by simp [e]
      rw [e1, List.append_nil]
      exact h3.up s4
  · rintro H ⟨acc, h1, h2, hl, h3⟩
    rw [List.take_of_length_le (by omega)] at h3
    exact hd D acc H h2 h1 ⟨D, acc, rfl, h1, h3⟩
end
def couplesB : List Leg → List (Leg × Leg)
  | [] => []
  | l :: r => (r.filter (mayMeet l)).map (fun o => (l, o)) ++ couplesB r
def meetsB (l : Leg) (r : List Leg) : List (Leg × Leg) := (r.filter (mayMeet l)).map fun o => (l, o)
theorem drop_cons {α : Type} {l : List α} {i : Nat} {c : α} (h : l[i]? = some c) : l.drop i = c :: l.drop (i + 1) := by
  obtain ⟨hi, e⟩ := List.getElem?_eq_some_iff.mp h
  rw [← e]
  exact List.drop_eq_getElem_cons hi
theorem couples_step {ls : List Leg} {i : Nat} {l : Leg} (h : ls[i]? = some l) : couplesB (ls.drop i) = meetsB l (ls.drop (i + 1)) ++ couplesB (ls.drop (i + 1)) := by
  rw [drop_cons h]
  rfl
theorem meets_step {l c : Leg} {r : List Leg} {j : Nat} (h : r[j]? = some c) : meetsB l (r.take (j + 1)) = meetsB l (r.take j) ++ (if mayMeet l c = true then [(l, c)] else []) := by
  unfold meetsB
  rw [List.take_add_one, h, List.filter_append, List.map_append]
  congr 1
  by_cases e : mayMeet l c = true
  · rw [if_pos e]
    simp [e]
  · rw [if_neg e]
    simp [e]
theorem meets_len (l : Leg) (r : List Leg) : (meetsB l r).length ≤ r.length := by
  unfold meetsB
  rw [List.length_map]
  exact List.length_filter_le _ _
theorem legsB_mem {fs ts : List Fq} {way : Int} {l : Leg} (h : l ∈ legsB fs ts way) : l.1 ∈ fs ∧ l.2 ∈ ts := by
  unfold legsB rowB at h
  obtain ⟨f, hf, h⟩ := List.mem_flatMap.mp h
  obtain ⟨t, ht, e⟩ := List.mem_map.mp (List.mem_filter.mp h).1
  rw [← e]
  exact ⟨hf, ht⟩
local macro_rules | `(tactic| k_extra "lp5") => `(tactic| first
  | with_reducible refine r_par3 ?_
  | with_reducible refine r_three rfl ?_
  | ((with_reducible refine r_mul ?h1 ?h2 ?_); (case h1 => exact lt_p2 (by k_extra "sz") (by omega)); (case h2 => exact lt_p2 (by k_extra "sz") (by omega)))
  | with_reducible refine r_ixB (by k_extra "rep") (by with_unfolding_all exact rfl) ?_)
local macro_rules | `(tactic| k_extra "lpn") => `(tactic| repeat (first | k_extra "lpn1" | k_extra "lp1" | k_extra "lp2" | k_extra "lp3" | k_extra "lp4" | k_extra "lp5"))
local macro_rules | `(tactic| k_extra "lp") => `(tactic| repeat (first | k_extra "lp1" | k_extra "lp2" | k_extra "lp3" | k_extra "lp4" | k_extra "lp5"))
/-! the couples between columns; the bad ones -/
structure PreCo (b : Bd) (fs ts : List Fq) : Prop where
  l : PreLegs fs ts b.way
  n : (legsB fs ts b.way).length ≤ 8
theorem PreCo.legOk {b : Bd} {fs ts : List Fq} (h : PreCo b fs ts) {l : Leg} (m : l ∈ legsB fs ts b.way) : LegOk l := by
  obtain ⟨m1, m2⟩ := legsB_mem m
  exact ⟨(h.l.f _ m1).x, (h.l.f _ m1).y, (h.l.t _ m2).x, (h.l.t _ m2).y⟩
abbrev s_couples_between : Stmt := topS 32
theorem sc_couples_between : FnScope ["bounds", "froms", "tos", "legs", "found", "at", "leg", "other"] ["bounds", "froms", "tos"] (defScope s_couples_between) := ⟨rfl, rfl, rfl, by decide +kernel, rfl, by decide +kernel, by decide +kernel⟩
theorem b_couples_between : BindsBy "couples_between" s_couples_between ["bounds", "froms", "tos"] := fun _ _ _ _ _ _ us hl => match us, hl with | [_, _, _], _ => rfl
abbrev spCouples (K : PySem.W.Frag) : Sp := Sp3 K RBd (RU F2) (RU F2) (RL (RP P2 P2)) PreCo (fun b fs ts => couplesB (legsB fs ts b.way))
theorem d_couples_between (T : Txt K mg "couples_between" s_couples_between) (n : Nm K mg) (d_legs_between : Def P w K mg base "legs_between" 1 ["froms", "tos", "way"] (spLegs K)) (d_may_meet : Def P w K mg base "may_meet" 1 ["leg", "other"] (spMeet K)) : Def P w K mg base "couples_between" 2 ["bounds", "froms", "tos"] (spCouples K) := by
  refine mkDef T sc_couples_between b_couples_between (len3 rfl) fun f cdv A outer s H vs Q E hr kk h => ?_
  obtain ⟨x, y, z, b, fs, ts, rfl, hx, hy, hz, hp, q⟩ := h
  have pl := hp.l
  have pn := hp.n
  refine ⟨_, (pss_cons (ps_par (i := 3) (j := 4) (by rfl) sc_couples_between.nd rfl rfl (by decide) rfl rfl (pa_cons (pcall d_legs_between hr (pa_cons (pv 1) (pa_cons (pv 2) (pa_cons (pe_ix (ixT K) (pv 0) pe_int (fun _ _ => rfl)) pa_nil)))) (pa_cons (pe_lst pa_nil) pa_nil)) (by rfl))
  (pss_cons (ps_for PassesOwn.never rfl (pi_enumK K (by rfl) n.enumerate (pa_cons (pv 3) pa_nil)) (pgT (n := 2) K rfl (pgs_cons (pg_name (i := 5) sc_couples_between.nd rfl (.inl rfl)) (pgs_cons (pg_name (i := 6) sc_couples_between.nd rfl (.inl rfl)) pgs_nil)))
    (pss_one (ps_for PassesOwn.never rfl (piL K (pe_slice (slL K) (pv 3) (po_some (pe_op op_add (pv 5) pe_int)) po_none)) (pg_name (i := 7) sc_couples_between.nd rfl (.inl rfl))
    (pss_one (ps_if (pt_val (pcall d_may_meet hr (pa_cons (pv 6) (pa_cons (pv 7) pa_nil))))
    (pss_cons (ps_if (pt_cmpR op_eq (pe_callB (lenS K) (by rfl) n.len (by decide +kernel) (pa_cons (pv 4) pa_nil)) pe_int (nomark _))
    (pss_one ps_never)
    pss_nil)
  (pss_one (ps_expr (pe_bm PySem.F.plainAttrs_list PySem.F.slot_list_append PySem.F.type_list_append mt_append (pv 4) (pa_cons (pe_tup (pa_cons (pv 6) (pa_cons (pv 7) pa_nil))) pa_nil)))))
    pss_nil)))))
  (pss_one (ps_ret (pv 4))))), ?_⟩
  k_extra "lpn"
  rename_i vl H1 s1 r1
  obtain ⟨pL, us, rfl, hL, aL⟩ := r1
  refine ⟨Nat.zero_le _, fun D hD => ?_⟩
  have s0 : Same H1 (upd H1 D (.lst [])) := same_upd hD
  have h0 : (upd H1 D (.lst [])) D = some (.lst []) := upd_same
  have nD : H D = none := Same.free s1 hD
  generalize upd H1 D (.lst []) = H0 at s0 h0 ⊢
  k_extra "lpn"
  refine r_enumL ?_
  k_extra "lpn"
  refine ⟨pL, us, rfl, .inl (.inl (s0 _ _ hL)), ?_⟩
  have lus : us.length ≤ 8 := by rw [aL.1]; exact pn
  refine for_K (walk_enum (K := K) (xs := us)) (fun i σ H' => ∃ acc cs x5 x6 x7, σ = [some x, some y, some z, some (.ref pL), some (.ref D), x5, x6, x7] ∧ Same H1 H' ∧ H' D = some (.lst acc) ∧ AllR (RP P2 P2) K H' acc cs ∧ cs.length ≤ 8 * i ∧ cs ++ couplesB ((legsB fs ts b.way).drop i) = couplesB (legsB fs ts b.way)) ⟨[], [], none, none, none, rfl, s0, h0, AllR.nil, Nat.zero_le _, rfl⟩ (fun i σ H' _ ⟨_, _, _, _, _, _, s2, _⟩ => .inl (.inl (s2 _ _ hL))) ?_ ?_
  · rintro i v σ H2 H3 hi ⟨acc, cs, x5, x6, x7, rfl, s2, h2, a2, c2, e2⟩ ⟨T', xc, xv, rfl, hT, rfl, g1, g2⟩
    obtain ⟨ci, ec, rv⟩ := aL.of g2
    have g1 : V.int (i : Nat) = xc := Option.some.inj g1
    subst g1
    have s3 : Same H2 (upd H2 T' (.tup [.int (i : Nat), xv])) := same_upd hT
    have r3 : SqT K (upd H2 T' (.tup [.int (i : Nat), xv])) T' [.int (i : Nat), xv] := .inl (.inl upd_same)
    generalize upd H2 T' (.tup [.int (i : Nat), xv]) = H3 at s3 r3 ⊢
    have okc : LegOk ci := hp.legOk (List.mem_of_getElem? ec)
    k_extra "lpn"
    refine r_slL (s3 _ _ (s2 _ _ hL)) ?_
    intro pr H4 s4 n4 h4
    have ei : ((i : Nat) : Int) + 1 = ((i + 1 : Nat) : Int) := by omega
    rw [ei, cut_from] at h4
    have aR : AllR P2 K H4 (us.drop (i + 1)) ((legsB fs ts b.way).drop (i + 1)) := (aL.drop (i + 1)).up (by k_extra "same")
    k_extra "lpn"
    refine ⟨pr, rfl, ⟨_, .inl (.inl h4)⟩, ?_⟩
    rw [couples_step ec] at e2
    have dne : pr ≠ D := fun z => by
      have h3 := s3 _ _ h2
      rw [← z, n4] at h3
      cases h3
    refine for_K (walk_list (K := K) (xs := us.drop (i + 1))) (fun j σ H' => ∃ acc x7, σ = [some x, some y, some z, some (.ref pL), some (.ref D), some (.int (i : Nat)), some xv, x7] ∧ Same H1 H' ∧ H' pr = some (.lst (us.drop (i + 1))) ∧ AllR P2 K H' (us.drop (i + 1)) ((legsB fs ts b.way).drop (i + 1)) ∧ P2 K H' xv ci ∧ H' D = some (.lst acc) ∧
      AllR (RP P2 P2) K H' acc (cs ++ meetsB ci (((legsB fs ts b.way).drop (i + 1)).take j))) ⟨acc, x7, rfl, by k_extra "same", h4, aR, up (by k_extra "same") rv, s4 _ _ (s3 _ _ h2), by
        have e : meetsB ci (((legsB fs ts b.way).drop (i + 1)).take 0) = [] := rfl
        rw [e, List.append_nil]
        exact (a2.up s3).up s4⟩ (fun i σ H' _ ⟨_, _, _, _, h5, _⟩ => .inl (.inl h5)) ?_ ?_
    · rintro j u σ H5 H6 hj ⟨acc5, x7, rfl, s5, h5, aR5, rc5, hd5, a5⟩ ⟨rfl, hu⟩
      obtain ⟨cj, ej, ru⟩ := aR5.of hu
      have okj : LegOk cj := hp.legOk (List.mem_of_mem_drop (List.mem_of_getElem? ej))
      have f1 : PreC ci cj := ⟨okc, okj⟩
      have st := meets_step (l := ci) ej
      have l5 : acc5.length ≤ 90 := by
        rw [a5.1, List.length_append]
        have m1 := meets_len ci (((legsB fs ts b.way).drop (i + 1)).take j)
        rw [List.length_take, List.length_drop] at m1
        omega
      k_extra "lpn"
      rename_i H7 s7
      have hd7 := s7 _ _ hd5
      refine ite2 (fun e => ?_) (fun e => ?_)
      · rw [if_pos e] at st
        k_extra "lpn"
        refine r_lenL hd7 ?_
        k_extra "lpn"
        refine iteF' (by
          have : ¬ (acc5.length : Int) = 20000 := by omega
          exact decide_eq_false this) ?_
        k_extra "lpn"
        refine ⟨.inl ⟨rfl, _, .inl (.inl hd7)⟩, ?_⟩
        k_extra "lpn"
        rename_i w H8 s8 r8
        have hd8 := s8 _ _ hd7
        refine r_append hd8 (by omega) ?_
        k_extra "lpn"
        have ts8 : TSame H8 (upd H8 D (.lst (acc5 ++ [w]))) := TSame.lst hd8
        refine ⟨acc5 ++ [w], _, rfl, same_mut (by k_extra "same") hD, ?_, ((aR5.up s7).up s8).tp ts8, Tp.tp ts8 (up s8 (up s7 rc5)), upd_same, ?_⟩
        · rw [upd_ne dne]
          exact s8 _ _ (s7 _ _ h5)
        · rw [st, ← List.append_assoc]
          exact (((a5.up s7).up s8).tp ts8).snoc (Tp.tp ts8 r8)
      · rw [if_neg e, List.append_nil] at st
        k_extra "lpn"
        refine ⟨acc5, _, rfl, by k_extra "same", s7 _ _ h5, aR5.up s7, up s7 rc5, hd7, ?_⟩
        rw [st]
        exact a5.up s7
    · rintro σ H5 ⟨acc5, x7, rfl, s5, h5, aR5, rc5, hd5, a5⟩
      rw [List.take_of_length_le (l := (legsB fs ts b.way).drop (i + 1)) (i := (us.drop (i + 1)).length) (by rw [List.length_drop, List.length_drop, aL.1]; exact Nat.le_refl _)] at a5
      k_extra "lpn"
      refine ⟨acc5, _, _, _, _, rfl, s5, hd5, a5, ?_, ?_⟩
      · rw [List.length_append]
        have m1 := meets_len ci ((legsB fs ts b.way).drop (i + 1))
        rw [List.length_drop] at m1
        omega
      · rw [List.append_assoc]
        exact e2
  · rintro σ H2 ⟨acc, cs, x5, x6, x7, rfl, s2, h2, a2, c2, e2⟩
    rw [List.drop_of_length_le (by rw [aL.1]; exact Nat.le_refl _)] at e2
    have e2 : cs ++ [] = couplesB (legsB fs ts b.way) := e2
    rw [List.append_nil] at e2
    rw [e2] at a2
    k_extra "lpn"
    exact q _ _ (by k_extra "same") ⟨D, acc, rfl, h2, a2⟩
end
end Lp
set_option Elab.async false
set_option linter.all false
set_option maxRecDepth 100000
set_option maxHeartbeats 4000000

namespace Lp
open PySem PySem.Spec PyProof.Rows L2
local macro_rules | `(tactic| k_extra "rep") => `(tactic| first
  | assumption
  | exact rfl
  | exact BI.mk _ _ _
  | (refine up (by assumption) ?_; k_extra "rep"))
local macro_rules | `(tactic| k_extra "same") => `(tactic| first
  | assumption
  | exact Same.refl _
  | (refine Same.trans ?_ (by assumption); k_extra "same"))
local macro_rules | `(tactic| k_extra "sz") => `(tactic| with_reducible first
  | assumption
  | exact mul_lt (by k_extra "sz") (by k_extra "sz")
  | exact add_sz (by k_extra "sz") (by k_extra "sz")
  | exact sub_sz (by k_extra "sz") (by k_extra "sz")
  | (refine lit_sz ?_; decide))
local macro_rules | `(tactic| k_extra "st") => `(tactic| (simp only [L2.start, List.set_cons_succ, List.set_cons_zero, List.map_cons, List.map_nil, List.cons_append, List.nil_append, List.length_cons, List.length_nil, List.replicate, L2.wipe]; exact rfl))
local macro_rules | `(tactic| k_extra "lp1") => `(tactic| with_reducible first
  | refine r_seq ?_ | refine r_asg ?_ | refine r_ret ?_ | refine r_drop ?_ | refine r_if ?_ | refine r_var rfl ?_ | refine r_c ?_ | refine r_op ?_ | refine r_un ?_ | refine r_rI0 ?_ | refine r_rU ?_
  | refine r_cons ?_ | refine r_nil ?_ | refine r_call ?_ | refine r_cb ?_ | refine r_tup ?_ | refine r_lst ?_ | refine r_test ?_ | refine r_tB ?_ | refine r_bl ?_ | refine r_ifE ?_ | refine r_gcons ?_ | refine r_gnil ?_
  | refine r_gcd ?_ | refine r_next ?_ | refine r_slice ?_ | refine r_nopart ?_ | refine r_part ?_ | refine r_partI ?_ | refine r_bm ?_ | refine r_chain ?_ | refine r_eqI ?_ | refine r_neI ?_ | refine r_zip ?_ | refine r_itT ?_ | refine r_itL ?_ | refine r_for ?_ | refine r_lc ?_ | refine r_intI ?_ | refine r_intB ?_ | refine r_abs ?_ | refine r_max ?_ | refine r_none ?_ | refine r_and ?_ | refine r_or ?_ | refine r_not ?_ | refine r_andT ?_ | refine r_orT ?_ | refine r_notT ?_ | refine r_par ?_ | refine r_two rfl ?_ | refine r_gname rfl ?_)
local macro_rules | `(tactic| k_extra "lpn1") => `(tactic| with_reducible first
  | refine r_seq ?_ | refine r_asg ?_ | refine r_var rfl ?_ | refine r_op ?_ | refine r_cons ?_ | refine r_gcons ?_ | refine r_gnil ?_ | refine r_two (by k_extra "st") ?_ | refine r_gname (by k_extra "st") ?_)
local macro_rules | `(tactic| k_extra "lp2") => `(tactic| first
  | with_reducible refine r_mul (by assumption) (by assumption) ?_
  | with_reducible refine r_fx0 (by k_extra "rep") ?_
  | with_reducible refine r_fx1 (by k_extra "rep") ?_)
local macro_rules | `(tactic| k_extra "lp3") => `(tactic| first
  | with_reducible refine r_gfrac (by k_extra "rep") ?_
  | (with_reducible refine r_gpair (ra := F2) (rb := F2) (by k_extra "rep") ?_; intro _ _ _ _)
  | (with_reducible refine r_gpair (ra := P2) (rb := P2) (by k_extra "rep") ?_; intro _ _ _ _)
  | (with_reducible refine r_ix0 (ra := F2) (rb := F2) (by k_extra "rep") ?_; intro _ _)
  | (with_reducible refine r_ix1 (ra := F2) (rb := F2) (by k_extra "rep") ?_; intro _ _)
  | (with_reducible refine new_frac (by assumption) ?_; intro _ _ _ _)
  | (with_reducible refine new_pair (ra := F2) (rb := F2) (by k_extra "rep") (by k_extra "rep") ?_; intro _ _ _ _)
  | (with_reducible refine new_pair (ra := P2) (rb := P2) (by k_extra "rep") (by k_extra "rep") ?_; intro _ _ _ _)
  | (with_reducible refine new_tri (ra := F2) (rb := F2) (rc := F2) (by k_extra "rep") (by k_extra "rep") (by k_extra "rep") ?_; intro _ _ _ _)
  | (with_reducible refine sp1I (by k_extra "rep") (by assumption) ?_; intro _ _)
  | (with_reducible refine sp2I (by k_extra "rep") (by k_extra "rep") (by assumption) ?_; intro _ _)
  | (with_reducible refine sp1B (by k_extra "rep") (by assumption) ?_; intro _ _)
  | (with_reducible refine sp2B (by k_extra "rep") (by k_extra "rep") (by assumption) ?_; intro _ _)
  | (with_reducible refine sp3B (by k_extra "rep") (by k_extra "rep") (by k_extra "rep") (by assumption) ?_; intro _ _)
  | (with_reducible refine sp4B (by k_extra "rep") (by k_extra "rep") (by k_extra "rep") (by k_extra "rep") (by assumption) ?_; intro _ _)
  | (with_reducible refine sp1 (by k_extra "rep") (by assumption) ?_; intro _ _ _ _)
  | (with_reducible refine sp2 (by k_extra "rep") (by k_extra "rep") (by assumption) ?_; intro _ _ _ _)
  | (with_reducible refine sp4 (by k_extra "rep") (by k_extra "rep") (by k_extra "rep") (by k_extra "rep") (by assumption) ?_; intro _ _ _ _)
  | (with_reducible refine sp3 (by k_extra "rep") (by k_extra "rep") (by k_extra "rep") (by assumption) ?_; intro _ _ _ _))
local macro_rules | `(tactic| k_extra "lp4") => `(tactic| first
  | with_reducible refine r_gtup (by assumption) rfl ?_
  | (with_reducible refine new_any (by assumption) (Nat.le_of_ble_eq_true rfl) ?_; intro _ _ _ _))
local macro_rules | `(tactic| k_extra "lpn") => `(tactic| repeat (first | k_extra "lpn1" | k_extra "lp1" | k_extra "lp2" | k_extra "lp3" | k_extra "lp4"))
local macro_rules | `(tactic| k_extra "lp") => `(tactic| repeat (first | k_extra "lp1" | k_extra "lp2" | k_extra "lp3" | k_extra "lp4"))
section
variable {P : Program} {w : World} {K : PySem.W.Frag} {mg : Str → Option Value} {base : Heap}

theorem couplesB_mem : ∀ {ls : List Leg} {c : Leg × Leg}, c ∈ couplesB ls → c.1 ∈ ls ∧ c.2 ∈ ls
  | [], _, h => by cases h
  | l :: r, c, h => by
    unfold couplesB at h
    rcases List.mem_append.mp h with h | h
    · obtain ⟨o, ho, e⟩ := List.mem_map.mp h
      rw [← e]
      exact ⟨List.mem_cons_self, List.mem_cons_of_mem _ (List.mem_filter.mp ho).1⟩
    · have := couplesB_mem h
      exact ⟨List.mem_cons_of_mem _ this.1, List.mem_cons_of_mem _ this.2⟩
theorem couplesB_len : ∀ ls : List Leg, (couplesB ls).length ≤ ls.length * ls.length
  | [] => Nat.zero_le _
  | l :: r => by
    have h1 := couplesB_len r
    have h2 := meets_len l r
    unfold meetsB at h2
    unfold couplesB
    rw [List.length_append, List.length_cons, Nat.add_mul, Nat.mul_add]
    omega
local macro_rules | `(tactic| k_extra "lp5") => `(tactic| first
  | with_reducible refine r_par3 ?_
  | with_reducible refine r_three rfl ?_
  | ((with_reducible refine r_mul ?h1 ?h2 ?_); (case h1 => exact lt_p2 (by k_extra "sz") (by omega)); (case h2 => exact lt_p2 (by k_extra "sz") (by omega)))
  | with_reducible refine r_ixB (by k_extra "rep") (by with_unfolding_all exact rfl) ?_)
local macro_rules | `(tactic| k_extra "lpn") => `(tactic| repeat (first | k_extra "lpn1" | k_extra "lp1" | k_extra "lp2" | k_extra "lp3" | k_extra "lp4" | k_extra "lp5"))
local macro_rules | `(tactic| k_extra "lp") => `(tactic| repeat (first | k_extra "lp1" | k_extra "lp2" | k_extra "lp3" | k_extra "lp4" | k_extra "lp5"))
/-! the couples that are not apart -/
structure PreBad (b : Bd) (t : Int) (fs ts : List Fq) : Prop where
  rho : PreRho b t
  ok : Rho (rhoOf b t)
  hr : (rOf b).natAbs < 2 ^ 100
  co : PreCo b fs ts
def badB (b : Bd) (t : Int) (fs ts : List Fq) : List (Leg × Leg) := ((couplesB (legsB fs ts b.way)).filter fun c => !isApart c.1 c.2 (rhoOf b t) (rOf b)).map id
abbrev s_bad_couples : Stmt := topS 33
theorem sc_bad_couples : FnScope ["bounds", "ticks", "froms", "tos", "rho", "r", "leg", "other"] ["bounds", "ticks", "froms", "tos"] (defScope s_bad_couples) := ⟨rfl, rfl, rfl, by decide +kernel, rfl, by decide +kernel, by decide +kernel⟩
theorem b_bad_couples : BindsBy "bad_couples" s_bad_couples ["bounds", "ticks", "froms", "tos"] := fun _ _ _ _ _ _ us hl => match us, hl with | [_, _, _, _], _ => rfl
abbrev spBad (K : PySem.W.Frag) : Sp := Sp4 K RBd RI (RU F2) (RU F2) (RL (RP P2 P2)) PreBad badB
theorem d_bad_couples (T : Txt K mg "bad_couples" s_bad_couples) (d_couples_between : Def P w K mg base "couples_between" 2 ["bounds", "froms", "tos"] (spCouples K)) (d_is_apart : Def P w K mg base "is_apart" 7 ["leg", "other", "rho", "r"] (spApart K))
    (d_r_of : Def P w K mg base "r_of" 1 ["bounds"] (spR K)) (d_rho_of : Def P w K mg base "rho_of" 2 ["bounds", "ticks"] (spRho K)) : Def P w K mg base "bad_couples" 8 ["bounds", "ticks", "froms", "tos"] (spBad K) := by
  refine mkDef T sc_bad_couples b_bad_couples (len4 rfl) fun f cdv A outer s H vs Q E hr kk h => ?_
  obtain ⟨x, y, z, u, b, t, fs, ts, rfl, hx, rfl, hz, hu, hp, q⟩ := h
  have f1 := hp.rho
  have f2 := hp.co
  have hb := f1.b
  refine ⟨_, (pss_cons (ps_asg (pe_tup (pa_cons (pcall d_rho_of hr (pa_cons (pv 0) (pa_cons (pv 1) pa_nil))) (pa_cons (pcall d_r_of hr (pa_cons (pv 0) pa_nil)) pa_nil))) (pgT (n := 2) K rfl (pgs_cons (pg_name (i := 4) sc_bad_couples.nd rfl (.inr rfl)) (pgs_cons (pg_name (i := 5) sc_bad_couples.nd rfl (.inr rfl)) pgs_nil))))
  (pss_one (ps_ret (pe_lc (own := [("leg", 6), ("other", 7)]) rfl sc_bad_couples.nd (piL K (pcall d_couples_between hr (pa_cons (pv 0) (pa_cons (pv 2) (pa_cons (pv 3) pa_nil))))) (blkOk_by (N := ["bounds", "ticks", "froms", "tos", "rho", "r", "leg", "other"]) (sc := defScope s_bad_couples) (by decide +kernel)) (fun _ _ _ _ _ => (pgT (n := 2) K rfl (pgs_cons (pg_name (i := 6) sc_bad_couples.nd rfl (.inl rfl)) (pgs_cons (pg_name (i := 7) sc_bad_couples.nd rfl (.inl rfl)) pgs_nil)))) (fun _ _ _ _ _ => (pts_one (pt_not (pt_val (pcall d_is_apart hr (pa_cons (pv 6) (pa_cons (pv 7) (pa_cons (pv 4) (pa_cons (pv 5) pa_nil))))))))) (fun _ _ _ _ _ => (pe_tup (pa_cons (pv 6) (pa_cons (pv 7) pa_nil)))))))), ?_⟩
  k_extra "lpn"
  rename_i vrho H1 s1 rrho H2 s2 pt H3 s3 r3 vc H4 s4 r4
  obtain ⟨pc, us, rfl, hc, ac⟩ := r4
  have rrho4 : F2 K H4 vrho (rhoOf b t) := by k_extra "rep"
  refine ⟨pc, rfl, ⟨us, .inl (.inl hc)⟩, ?_⟩
  have lc : us.length ≤ 64 := by
    rw [ac.1]
    exact Nat.le_trans (couplesB_len _) (Nat.mul_le_mul f2.n f2.n)
  refine lc_filter (K := K) (rc := RP P2 P2) (walk_list (K := K) (xs := us)) (couplesB (legsB fs ts b.way)) (fun c => !isApart c.1 c.2 (rhoOf b t) (rOf b)) id ac.1.symm (by omega) (fun H' s' => .inl (.inl (s' _ _ hc))) ?_ ?_ gpair_mono
  · rintro i v H5 H6 cc Post Pf hi s5 hcc ⟨rfl, hv⟩ hq1 hq2
    have rv : RP P2 P2 K H6 v cc := up s5 (ac.2 i v cc hv hcc)
    obtain ⟨m1, m2⟩ := couplesB_mem (List.mem_of_getElem? hcc)
    have f3 : PreA cc.1 cc.2 (rhoOf b t) (rOf b) := ⟨⟨f2.legOk m1, f2.legOk m2, hp.ok⟩, hp.hr⟩
    have rho5 : F2 K H6 vrho (rhoOf b t) := up s5 rrho4
    k_extra "lpn"
    refine ⟨rfl, ?_⟩
    k_extra "lpn"
    rename_i H7 s7
    refine ite2 (fun e => ?_) (fun e => ?_)
    · k_extra "lpn"
      refine hq1 e _ _ (by k_extra "same") ?_
      show RP P2 P2 K _ _ (cc.1, cc.2)
      k_extra "rep"
    · exact hq2 (by simpa using e) _ (by k_extra "same")
  · intro p5 us5 H5 s5 h5 hL
    k_extra "lpn"
    exact q _ _ (by k_extra "same") hL
end
end Lp
set_option Elab.async false
set_option linter.all false
set_option maxRecDepth 100000
set_option maxHeartbeats 4000000

namespace Lp
open PySem PySem.Spec PyProof.Rows L2
local macro_rules | `(tactic| k_extra "rep") => `(tactic| first
  | assumption
  | exact rfl
  | exact BI.mk _ _ _
  | (refine up (by assumption) ?_; k_extra "rep"))
local macro_rules | `(tactic| k_extra "same") => `(tactic| first
  | assumption
  | exact Same.refl _
  | (refine Same.trans ?_ (by assumption); k_extra "same"))
local macro_rules | `(tactic| k_extra "sz") => `(tactic| with_reducible first
  | assumption
  | exact mul_lt (by k_extra "sz") (by k_extra "sz")
  | exact add_sz (by k_extra "sz") (by k_extra "sz")
  | exact sub_sz (by k_extra "sz") (by k_extra "sz")
  | (refine lit_sz ?_; decide))
local macro_rules | `(tactic| k_extra "st") => `(tactic| (simp only [L2.start, List.set_cons_succ, List.set_cons_zero, List.map_cons, List.map_nil, List.cons_append, List.nil_append, List.length_cons, List.length_nil, List.replicate, L2.wipe]; exact rfl))
local macro_rules | `(tactic| k_extra "lp1") => `(tactic| with_reducible first
  | refine r_seq ?_ | refine r_asg ?_ | refine r_ret ?_ | refine r_drop ?_ | refine r_if ?_ | refine r_var rfl ?_ | refine r_c ?_ | refine r_op ?_ | refine r_un ?_ | refine r_rI0 ?_ | refine r_rU ?_
  | refine r_cons ?_ | refine r_nil ?_ | refine r_call ?_ | refine r_cb ?_ | refine r_tup ?_ | refine r_lst ?_ | refine r_test ?_ | refine r_tB ?_ | refine r_bl ?_ | refine r_ifE ?_ | refine r_gcons ?_ | refine r_gnil ?_
  | refine r_gcd ?_ | refine r_next ?_ | refine r_slice ?_ | refine r_nopart ?_ | refine r_part ?_ | refine r_partI ?_ | refine r_bm ?_ | refine r_chain ?_ | refine r_eqI ?_ | refine r_neI ?_ | refine r_zip ?_ | refine r_itT ?_ | refine r_itL ?_ | refine r_for ?_ | refine r_lc ?_ | refine r_intI ?_ | refine r_intB ?_ | refine r_abs ?_ | refine r_max ?_ | refine r_none ?_ | refine r_and ?_ | refine r_or ?_ | refine r_not ?_ | refine r_andT ?_ | refine r_orT ?_ | refine r_notT ?_ | refine r_par ?_ | refine r_two rfl ?_ | refine r_gname rfl ?_)
local macro_rules | `(tactic| k_extra "lpn1") => `(tactic| with_reducible first
  | refine r_seq ?_ | refine r_asg ?_ | refine r_var rfl ?_ | refine r_op ?_ | refine r_cons ?_ | refine r_gcons ?_ | refine r_gnil ?_ | refine r_two (by k_extra "st") ?_ | refine r_gname (by k_extra "st") ?_)
local macro_rules | `(tactic| k_extra "lp2") => `(tactic| first
  | with_reducible refine r_mul (by assumption) (by assumption) ?_
  | with_reducible refine r_fx0 (by k_extra "rep") ?_
  | with_reducible refine r_fx1 (by k_extra "rep") ?_)
local macro_rules | `(tactic| k_extra "lp3") => `(tactic| first
  | with_reducible refine r_gfrac (by k_extra "rep") ?_
  | (with_reducible refine r_gpair (ra := F2) (rb := F2) (by k_extra "rep") ?_; intro _ _ _ _)
  | (with_reducible refine r_gpair (ra := P2) (rb := P2) (by k_extra "rep") ?_; intro _ _ _ _)
  | (with_reducible refine r_ix0 (ra := F2) (rb := F2) (by k_extra "rep") ?_; intro _ _)
  | (with_reducible refine r_ix1 (ra := F2) (rb := F2) (by k_extra "rep") ?_; intro _ _)
  | (with_reducible refine new_frac (by assumption) ?_; intro _ _ _ _)
  | (with_reducible refine new_pair (ra := F2) (rb := F2) (by k_extra "rep") (by k_extra "rep") ?_; intro _ _ _ _)
  | (with_reducible refine new_pair (ra := P2) (rb := P2) (by k_extra "rep") (by k_extra "rep") ?_; intro _ _ _ _)
  | (with_reducible refine new_tri (ra := F2) (rb := F2) (rc := F2) (by k_extra "rep") (by k_extra "rep") (by k_extra "rep") ?_; intro _ _ _ _)
  | (with_reducible refine sp1I (by k_extra "rep") (by assumption) ?_; intro _ _)
  | (with_reducible refine sp2I (by k_extra "rep") (by k_extra "rep") (by assumption) ?_; intro _ _)
  | (with_reducible refine sp1B (by k_extra "rep") (by assumption) ?_; intro _ _)
  | (with_reducible refine sp2B (by k_extra "rep") (by k_extra "rep") (by assumption) ?_; intro _ _)
  | (with_reducible refine sp3B (by k_extra "rep") (by k_extra "rep") (by k_extra "rep") (by assumption) ?_; intro _ _)
  | (with_reducible refine sp4B (by k_extra "rep") (by k_extra "rep") (by k_extra "rep") (by k_extra "rep") (by assumption) ?_; intro _ _)
  | (with_reducible refine sp1 (by k_extra "rep") (by assumption) ?_; intro _ _ _ _)
  | (with_reducible refine sp2 (by k_extra "rep") (by k_extra "rep") (by assumption) ?_; intro _ _ _ _)
  | (with_reducible refine sp4 (by k_extra "rep") (by k_extra "rep") (by k_extra "rep") (by k_extra "rep") (by assumption) ?_; intro _ _ _ _)
  | (with_reducible refine sp3 (by k_extra "rep") (by k_extra "rep") (by k_extra "rep") (by assumption) ?_; intro _ _ _ _))
local macro_rules | `(tactic| k_extra "lp4") => `(tactic| first
  | with_reducible refine r_gtup (by assumption) rfl ?_
  | (with_reducible refine new_any (by assumption) (Nat.le_of_ble_eq_true rfl) ?_; intro _ _ _ _))
local macro_rules | `(tactic| k_extra "lpn") => `(tactic| repeat (first | k_extra "lpn1" | k_extra "lp1" | k_extra "lp2" | k_extra "lp3" | k_extra "lp4"))
local macro_rules | `(tactic| k_extra "lp") => `(tactic| repeat (first | k_extra "lp1" | k_extra "lp2" | k_extra "lp3" | k_extra "lp4"))
section
variable {P : Program} {w : World} {K : PySem.W.Frag} {mg : Str → Option Value} {base : Heap}

theorem r_seq_tail {t u : TS} {D : Ends} {σ : L2.St} {H : Hp} (P : L2.St → Hp → Prop) (h2 : ∀ σ H, P σ H → u D σ H) (h1 : ∀ N : L2.St → Hp → Prop, (∀ σ H, P σ H → N σ H) → t { D with nx := N } σ H) : tSeq t u D σ H := h1 _ h2
theorem r_newL {vs : List V} {H : Hp} {Q : VK} (hl : vs.length ≤ 100) (q : ∀ p H', Same H H' → H p = none → H' p = some (.lst vs) → Q (.ref p) H') : NewL vs H Q := ⟨Nat.le_trans hl (by decide), fun p hp => q p _ (same_upd hp) hp upd_same⟩
def rGetL : V → V → Hp → VK → Prop := fun o i H Q => ∃ p xs k v, o = .ref p ∧ i = .int ((k : Nat) : Int) ∧ H p = some (.lst xs) ∧ xs[k]? = some v ∧ Q v H
theorem get_list {X : Cx} : PGet X rGetL := by
  intro pins s σ H o i ov iv Q I ro ri h
  obtain ⟨p, xs, k, v, rfl, rfl, hp, hv, q⟩ := h
  cases ro
  obtain ⟨t, rfl⟩ := ri
  obtain ⟨its, n, r, ho, hz⟩ := I.lst hp
  obtain ⟨u, hu, ru⟩ := r.get hv
  have hk : k < xs.length := (List.getElem?_eq_some_iff.mp hv).1
  have hn := line63
  exact wpAny_getItem_list (l := p) (items := its.toArray) ⟨_, ho, rfl, _, rfl⟩ (by omega) (by omega) (by simpa using hu) ⟨v, H, I, ru, q⟩
theorem r_getL {H : Hp} {Q : VK} {p : Addr} {xs : List V} {k : Nat} {v : V} (h : H p = some (.lst xs)) (e : xs[k]? = some v) (q : Q v H) : rGetL (.ref p) (.int (k : Nat)) H Q := ⟨p, xs, k, v, rfl, rfl, h, e, q⟩
theorem r_setL {H : Hp} {Q : Hp → Prop} {p : Addr} {xs : List V} {i : Int} {j : Nat} {v : V} (h : H p = some (.lst xs)) (e : ixN xs.length i = some j) (q : Q (upd H p (.lst (xs.set j v)))) : rSetL (.ref p) (.int i) v H Q := ⟨p, xs, i, j, rfl, rfl, h, e, q⟩
theorem r_gsub {to ti : TE} {t : TSet} {v : V} {σ : L2.St} {H : Hp} {Q : L2.St → Hp → Prop} (h : to σ H fun o H1 => ti σ H1 fun i H2 => t o i v H2 fun H3 => Q σ H3) : gSub to ti t v σ H Q := h
theorem r_augS {to ti te : TE} {tget : V → V → Hp → VK → Prop} {tip : TIp} {tset : TSet} {D : Ends} {σ : L2.St} {H : Hp} (h : to σ H fun o H1 => ti σ H1 fun i H2 => tget o i H2 fun x H3 => te σ H3 fun y H4 => tip x y H4 fun z H5 => tset o i z H5 fun H6 => D.nx σ H6) : tAugS to ti te tget tip tset D σ H := h
theorem r_ipI {f : Int → Int → Int} {i j : Int} {H : Hp} {Q : VK} (q : Q (.int (f i j)) H) : ipI f (.int i) (.int j) H Q := ⟨i, j, rfl, rfl, q⟩
theorem r_modI {i j : Int} {g : Int → Int → V} {H : Hp} {Q : VK} (h : 0 < j) (q : Q (g i j) H) : rI (fun _ j => 0 < j) g (.int i) (.int j) H Q := r_rI h q
theorem r_powI {i j : Int} {g : Int → Int → V} {H : Hp} {Q : VK} (h : CPow i j) (q : Q (g i j) H) : rI CPow g (.int i) (.int j) H Q := r_rI h q
/-- all but the bag stays -/
def MutB (p : Addr) (H H' : Hp) : Prop := ∀ b o, b ≠ p → H b = some o → H' b = some o
theorem MutB.refl (p : Addr) (H : Hp) : MutB p H H := fun _ _ _ h => h
theorem MutB.trans {p : Addr} {H H1 H2 : Hp} (a : MutB p H H1) (b : MutB p H1 H2) : MutB p H H2 := fun c o n h => b c o n (a c o n h)
theorem MutB.of {p : Addr} {H H' : Hp} (s : Same H H') : MutB p H H' := fun b o _ h => s b o h
theorem MutB.put {p : Addr} {H : Hp} {o : HO} : MutB p H (upd H p o) := fun b x n h => by rw [upd_ne n]; exact h
/-- the law's bag -/
structure BagAt (H : Hp) (p l : Addr) (i0 i1 : Int) (k : Nat) (cs : List Int) (n : Nat) : Prop where
  h : H p = some (.lst [.int i0, .int i1, .int (k : Nat), .ref l])
  hl : H l = some (.lst (cs.map V.int))
  ne : l ≠ p
  p0 : 0 ≤ i0
  p1 : 0 ≤ i1
  q1 : i1 < 2147483647
  kn : k ≤ n
  c0 : ∀ c ∈ cs, 0 ≤ c
  cl : cs.length ≤ 63
def Bag (H : Hp) (p : Addr) (n : Nat) : Prop := ∃ l i0 i1 k cs, BagAt H p l i0 i1 k cs n
theorem BagAt.same {H H' : Hp} {p l : Addr} {i0 i1 : Int} {k : Nat} {cs : List Int} {n : Nat} (b : BagAt H p l i0 i1 k cs n) (s : Same H H') : BagAt H' p l i0 i1 k cs n := ⟨s _ _ b.h, s _ _ b.hl, b.ne, b.p0, b.p1, b.q1, b.kn, b.c0, b.cl⟩
theorem BagAt.put {H : Hp} {p l : Addr} {i0 i1 : Int} {k : Nat} {cs : List Int} {n : Nat} (b : BagAt H p l i0 i1 k cs n) {j0 j1 : Int} {k' n' : Nat} (p0 : 0 ≤ j0) (p1 : 0 ≤ j1) (q1 : j1 < 2147483647) (kn : k' ≤ n') :
    BagAt (upd H p (.lst [.int j0, .int j1, .int (k' : Nat), .ref l])) p l j0 j1 k' cs n' := ⟨upd_same, by rw [upd_ne b.ne]; exact b.hl, b.ne, p0, p1, q1, kn, b.c0, b.cl⟩
theorem Bag.same {H H' : Hp} {p : Addr} {n : Nat} (b : Bag H p n) (s : Same H H') : Bag H' p n := by
  obtain ⟨l, i0, i1, k, cs, b⟩ := b
  exact ⟨l, i0, i1, k, cs, b.same s⟩
theorem Bag.extn {H H' : Hp} {p : Addr} {n : Nat} (b : Bag H p n) (s : LamX.ExtN H H') : Bag H' p n := by
  obtain ⟨l, i0, i1, k, cs, b⟩ := b
  exact ⟨l, i0, i1, k, cs, s _ _ b.h (fun _ z => by cases z), s _ _ b.hl (fun _ z => by cases z), b.ne, b.p0, b.p1, b.q1, b.kn, b.c0, b.cl⟩
theorem Bag.more {H : Hp} {p : Addr} {n m : Nat} (b : Bag H p n) (h : n ≤ m) : Bag H p m := by
  obtain ⟨l, i0, i1, k, cs, b⟩ := b
  exact ⟨l, i0, i1, k, cs, b.h, b.hl, b.ne, b.p0, b.p1, b.q1, Nat.le_trans b.kn h, b.c0, b.cl⟩
theorem r_bag {K : PySem.W.Frag} {H : Hp} {Q : VK} {p l : Addr} {i0 i1 : Int} {k : Nat} {cs : List Int} {n : Nat} {i : Int} {v : V} (b : BagAt H p l i0 i1 k cs n) (e : atI [V.int i0, .int i1, .int (k : Nat), .ref l] i = some v) (q : Q v H) : rIxL K (.ref p) (.int i) H Q := r_ixL (.inl (.inl b.h)) e q
section
variable {H : Hp} {Q : Hp → Prop} {p l : Addr} {i0 i1 : Int} {k : Nat} {cs : List Int} {n : Nat}
theorem set0 {j : Int} (b : BagAt H p l i0 i1 k cs n) (h : 0 ≤ j) (q : ∀ H', MutB p H H' → BagAt H' p l j i1 k cs n → Q H') : rSetL (.ref p) (.int 0) (.int j) H Q := r_setL (j := 0) b.h rfl (q _ MutB.put (b.put h b.p1 b.q1 b.kn))
theorem set1 {j : Int} (b : BagAt H p l i0 i1 k cs n) (h : 0 ≤ j) (h2 : j < 2147483647) (q : ∀ H', MutB p H H' → BagAt H' p l i0 j k cs n → Q H') : rSetL (.ref p) (.int 1) (.int j) H Q := r_setL (j := 1) b.h rfl (q _ MutB.put (b.put b.p0 h h2 b.kn))
theorem set2 (b : BagAt H p l i0 i1 k cs n) (q : ∀ H', MutB p H H' → BagAt H' p l i0 i1 (k + 1) cs (n + 1) → Q H') : rSetL (.ref p) (.int 2) (.int ((k : Int) + 1)) H Q := by
  have e : (k : Int) + 1 = ((k + 1 : Nat) : Int) := by omega
  rw [e]
  exact r_setL (j := 2) b.h rfl (q _ MutB.put (b.put b.p0 b.p1 b.q1 (Nat.succ_le_succ b.kn)))
theorem get2 {Q : VK} (b : BagAt H p l i0 i1 k cs n) (q : Q (.int (k : Nat)) H) : rGetL (.ref p) (.int 2) H Q := r_getL (k := 2) b.h rfl q
end
theorem first_cell (cs : List Int) (k : Nat) (h : ∀ c ∈ cs, 0 ≤ c) : ∃ c, atI ((cs.map V.int).drop k ++ [V.int 0]) 0 = some (.int c) ∧ 0 ≤ c := by
  rw [← List.map_drop]
  cases e : cs.drop k with
  | nil => exact ⟨0, rfl, by decide⟩
  | cons c r =>
    refine ⟨c, ?_, h c (List.mem_of_mem_drop (by rw [e]; exact List.mem_cons_self))⟩
    rw [List.map_cons, List.cons_append]
    unfold atI ixN
    rw [if_pos (by decide), if_pos (by rw [List.length_cons]; omega)]
    rfl
local macro_rules | `(tactic| k_extra "lp5") => `(tactic| first
  | with_reducible refine r_par3 ?_
  | with_reducible refine r_three rfl ?_
  | ((with_reducible refine r_mul ?h1 ?h2 ?_); (case h1 => exact lt_p2 (by k_extra "sz") (by omega)); (case h2 => exact lt_p2 (by k_extra "sz") (by omega)))
  | with_reducible refine r_ixB (by k_extra "rep") (by with_unfolding_all exact rfl) ?_)
local macro_rules | `(tactic| k_extra "lpn") => `(tactic| repeat (first | k_extra "lpn1" | k_extra "lp1" | k_extra "lp2" | k_extra "lp3" | k_extra "lp4" | k_extra "lp5"))
local macro_rules | `(tactic| k_extra "lp") => `(tactic| repeat (first | k_extra "lp1" | k_extra "lp2" | k_extra "lp3" | k_extra "lp4" | k_extra "lp5"))
local macro_rules | `(tactic| k_extra "lp5") => `(tactic| first
  | with_reducible refine r_par3 ?_
  | with_reducible refine r_three rfl ?_
  | with_reducible refine r_gsub ?_ | with_reducible refine r_augS ?_ | with_reducible refine r_ipI ?_
  | with_reducible refine r_bag (by assumption) (by with_unfolding_all exact rfl) ?_
  | (with_reducible refine r_modI (by first | assumption | decide) ?_)
  | ((with_reducible refine r_mul ?h1 ?h2 ?_); (case h1 => exact lt_p2 (by k_extra "sz") (by omega)); (case h2 => exact lt_p2 (by k_extra "sz") (by omega)))
  | with_reducible refine r_ixB (by k_extra "rep") (by with_unfolding_all exact rfl) ?_)
abbrev s_l_take : Stmt := topS 47
theorem sc_l_take : FnScope ["_law_bag_here", "_law_many", "_law_begin", "_law_second", "_law_cell", "_law_stirred", "_law_value"] ["_law_bag_here", "_law_many"] (defScope s_l_take) := ⟨rfl, rfl, rfl, by decide +kernel, rfl, by decide +kernel, by decide +kernel⟩
theorem b_l_take : BindsBy "_law_take" s_l_take ["_law_bag_here", "_law_many"] := fun _ _ _ _ _ _ us hl => match us, hl with | [_, _], _ => rfl
def spTake (K : PySem.W.Frag) : Sp := fun vs H Q _ => ∃ p m n, vs = [.ref p, .int m] ∧ Bag H p n ∧ n ≤ 1000 ∧ 0 < m ∧ m < 1073741824 ∧ ∀ v H', MutB p H H' → Bag H' p (n + 1) → 0 ≤ v → v < m → Q (.int v) H'
theorem take_len {ps : List Str} (h : ps.length = 2) : ∀ vs H Q E, spTake K vs H Q E → vs.length = ps.length := fun vs H Q E ⟨_, _, _, e, _⟩ => by rw [e, h]; rfl
theorem sz63 {x : Int} (h0 : 0 ≤ x) (h : x < 9223372036854775808) : x.natAbs < 2 ^ 64 := by
  have e64 : (2 : Nat) ^ 64 = 18446744073709551616 := by decide
  omega
theorem d_l_take (T : Txt K mg "_law_take" s_l_take) (n : Nm K mg) : Def P w K mg base "_law_take" 1 ["_law_bag_here", "_law_many"] (spTake K) := by
  refine mkDef T sc_l_take b_l_take (take_len rfl) fun f cdv A outer s H vs Q E hr kk h => ?_
  obtain ⟨p, m, nn, rfl, hb, hn, hm, hm2, q⟩ := h
  refine ⟨_, (pss_cons (ps_if (pt_cmpR op_eq (pe_ix (ixL K) (pv 0) pe_int (fun _ _ => rfl)) pe_int (nomark _))
    (pss_cons (ps_set (i := 4) sc_l_take.nd rfl (.inl rfl) (pe_ix (ixL K) (pe_op op_cat (pe_slice (slL K) (pe_ix (ixL K) (pv 0) pe_int (fun _ _ => rfl)) (po_some (pe_ix (ixL K) (pv 0) pe_int (fun _ _ => rfl))) po_none) (pe_lst (pa_cons pe_int pa_nil))) pe_int (fun _ _ => rfl)))
  (pss_cons (ps_augS (pv 0) pe_int get_list pe_int ip_add set_list)
  (pss_cons (ps_if (pt_cmpR op_ge (pv 4) (pe_op op_pow pe_int pe_int) (nomark _))
    (pss_one (ps_asg (pv 4) (pg_sub (pv 0) pe_int set_list)))
    pss_nil)
  (pss_cons (ps_set (i := 5) sc_l_take.nd rfl (.inl rfl) (pe_op op_add (pe_op op_add (pe_op op_mulW (pe_ix (ixL K) (pv 0) pe_int (fun _ _ => rfl)) pe_int) (pe_op op_mod (pe_callTy int1 (by rfl) n.int (by decide +kernel) (pa_cons (pv 4) pa_nil)) pe_int)) (pe_op op_mulW pe_int (pe_ix (ixL K) (pv 0) pe_int (fun _ _ => rfl)))))
  (pss_one (ps_asg (pe_op op_mod (pe_callTy int1 (by rfl) n.int (by decide +kernel) (pa_cons (pv 5) pa_nil)) pe_int) (pg_sub (pv 0) pe_int set_list)))))))
    pss_nil)
  (pss_cons (ps_if (pt_cmpR op_gt (pe_ix (ixL K) (pv 0) pe_int (fun _ _ => rfl)) pe_int (nomark _))
    (pss_cons (ps_set (i := 6) sc_l_take.nd rfl (.inl rfl) (pe_op op_mod (pe_callTy int1 (by rfl) n.int (by decide +kernel) (pa_cons (pe_ix (ixL K) (pv 0) pe_int (fun _ _ => rfl)) pa_nil)) (pv 1)))
  (pss_cons (ps_asg (pe_op op_fdiv (pe_callTy int1 (by rfl) n.int (by decide +kernel) (pa_cons (pe_ix (ixL K) (pv 0) pe_int (fun _ _ => rfl)) pa_nil)) (pv 1)) (pg_sub (pv 0) pe_int set_list))
  (pss_one (ps_ret (pv 6)))))
    pss_nil)
  (pss_cons (ps_set (i := 2) sc_l_take.nd rfl (.inl rfl) (pe_op op_mod (pe_callTy int1 (by rfl) n.int (by decide +kernel) (pa_cons (pe_op op_mulW (pe_op op_add (pe_ix (ixL K) (pv 0) pe_int (fun _ _ => rfl)) pe_int) pe_int) pa_nil)) pe_int))
  (pss_cons (ps_set (i := 3) sc_l_take.nd rfl (.inl rfl) (pe_op op_mod (pe_callTy int1 (by rfl) n.int (by decide +kernel) (pa_cons (pe_op op_mulW (pe_op op_mod (pe_callTy int1 (by rfl) n.int (by decide +kernel) (pa_cons (pe_op op_mulW (pv 2) (pv 2)) pa_nil)) pe_int) pe_int) pa_nil)) pe_int))
  (pss_one (ps_ret (pe_op op_mod (pe_callTy int1 (by rfl) n.int (by decide +kernel) (pa_cons (pe_op op_fdiv (pv 3) pe_int) pa_nil)) (pv 1)))))))), ?_⟩
  refine r_seq_tail (P := fun σ H' => ∃ x2 x3 x4 x5 x6, σ = [some (.ref p), some (.int m), x2, x3, x4, x5, x6] ∧ MutB p H H' ∧ Bag H' p (nn + 1)) ?_ (fun N tail => ?_)
  · rintro σ H1 ⟨x2, x3, x4, x5, x6, rfl, mu, l, i0, i1, k, cs, b⟩
    have b1 := b.p1
    have b2 := b.q1
    k_extra "lpn"
    refine ite2 (fun e => ?_) (fun e => ?_)
    · have e : 0 < i0 := of_decide_eq_true e
      k_extra "lpn"
      refine r_fdiv ⟨hm, hm2⟩ ?_
      k_extra "lpn"
      refine set0 b (Int.ediv_nonneg b.p0 (by omega)) fun H2 mu2 b' => ?_
      k_extra "lpn"
      exact q _ _ (mu.trans mu2) ⟨l, _, _, _, cs, b'⟩ (Int.emod_nonneg _ (by omega)) (Int.emod_lt_of_pos _ hm)
    · have m1 : (i1 + 1).natAbs < 2 ^ 64 := sz63 (by omega) (by omega)
      have m2 : (39373 : Int).natAbs < 2 ^ 64 := by decide
      k_extra "lpn"
      generalize hb' : (i1 + 1) * 39373 % 1000000007 = bg
      have g1 : 0 ≤ bg := by rw [← hb']; exact Int.emod_nonneg _ (by omega)
      have g2 : bg < 1000000007 := by rw [← hb']; exact Int.emod_lt_of_pos _ (by omega)
      have m3 : bg.natAbs < 2 ^ 64 := sz63 g1 (by omega)
      k_extra "lpn"
      generalize hb2 : bg * bg % 998244353 = sc
      have g3 : 0 ≤ sc := by rw [← hb2]; exact Int.emod_nonneg _ (by omega)
      have g4 : sc < 998244353 := by rw [← hb2]; exact Int.emod_lt_of_pos _ (by omega)
      have m4 : sc.natAbs < 2 ^ 64 := sz63 g3 (by omega)
      have m5 : (30011 : Int).natAbs < 2 ^ 64 := by decide
      k_extra "lpn"
      refine r_fdiv (by decide) ?_
      k_extra "lpn"
      exact q _ _ mu ⟨l, i0, i1, k, cs, b⟩ (Int.emod_nonneg _ (by omega)) (Int.emod_lt_of_pos _ hm)
  · obtain ⟨l, i0, i1, k, cs, b⟩ := hb
    k_extra "lpn"
    refine ite2 (fun e => ?_) (fun e => ?_)
    · have e : i0 = 0 := of_decide_eq_true e
      k_extra "lpn"
      refine r_slL b.hl ?_
      intro r1 H1 s1 n1 h1
      rw [cut_from] at h1
      k_extra "lpn"
      refine r_newL (by simp) ?_
      intro r2 H2 s2 n2 h2
      k_extra "lpn"
      refine r_cat (s2 _ _ h1) h2 (by
        have := b.cl
        rw [List.length_drop, List.length_map, List.length_singleton]
        omega) ?_
      intro r3 H3 s3 n3 h3
      have b3 := b.same (s1.trans (s2.trans s3))
      obtain ⟨c, ec, hc⟩ := first_cell cs k b.c0
      k_extra "lpn"
      refine r_ixL (.inl (.inl h3)) ec ?_
      k_extra "lpn"
      refine get2 b3 ?_
      k_extra "lpn"
      refine set2 b3 fun H4 mu4 b4 => ?_
      have mu04 : MutB p H H4 := (MutB.of (s1.trans (s2.trans s3))).trans mu4
      dsimp only
      with_reducible refine r_seq_tail (P := fun σ H' => ∃ x2 x3 x4 x5 x6 j0, 0 ≤ c ∧ σ = [some (.ref p), some (.int m), x2, x3, some (.int x4), x5, x6] ∧ MutB p H H' ∧ BagAt H' p l j0 i1 (k + 1) cs (nn + 1)) ?_ (fun N1 tail1 => ?_)
      · rintro σ H5 ⟨x2, x3, x4, x5, x6, j0, hc, rfl, mu5, b5⟩
        have z1 : i1.natAbs < 2 ^ 64 := sz63 b.p1 (by have := b.q1; omega)
        have z2 : ((48271 : Int)).natAbs < 2 ^ 64 := by decide
        have z3 : ((7919 : Int)).natAbs < 2 ^ 64 := by decide
        have z4 : (((k + 1 : Nat) : Int)).natAbs < 2 ^ 64 := sz63 (by omega) (by have := b.kn; omega)
        k_extra "lpn"
        refine set1 b5 (Int.emod_nonneg _ (by omega)) (Int.emod_lt_of_pos _ (by omega)) fun H6 mu6 b6 => ?_
        k_extra "lpn"
        exact tail _ _ ⟨_, _, _, _, _, rfl, mu5.trans mu6, l, _, _, _, cs, b6⟩
      · k_extra "lpn"
        refine r_powI ⟨by decide, by decide, by decide⟩ ?_
        k_extra "lpn"
        refine ite2 (fun e => ?_) (fun e => ?_)
        · k_extra "lpn"
          refine set0 b4 hc fun H5 mu5 b5 => ?_
          k_extra "lpn"
          exact tail1 _ _ ⟨_, _, _, _, _, _, hc, rfl, mu04.trans mu5, b5⟩
        · k_extra "lpn"
          exact tail1 _ _ ⟨_, _, _, _, _, _, hc, rfl, mu04, b4⟩
    · k_extra "lpn"
      exact tail _ _ ⟨_, _, _, _, _, rfl, MutB.refl p H, l, i0, i1, k, cs, b.h, b.hl, b.ne, b.p0, b.p1, b.q1, Nat.le_succ_of_le b.kn, b.c0, b.cl⟩
end
end Lp
set_option Elab.async false
set_option linter.all false
set_option maxRecDepth 100000
set_option maxHeartbeats 4000000

namespace Lp
open PySem PySem.Spec PyProof.Rows L2
local macro_rules | `(tactic| k_extra "rep") => `(tactic| first
  | assumption
  | exact rfl
  | exact BI.mk _ _ _
  | (refine up (by assumption) ?_; k_extra "rep"))
local macro_rules | `(tactic| k_extra "same") => `(tactic| first
  | assumption
  | exact Same.refl _
  | (refine Same.trans ?_ (by assumption); k_extra "same"))
local macro_rules | `(tactic| k_extra "sz") => `(tactic| with_reducible first
  | assumption
  | exact mul_lt (by k_extra "sz") (by k_extra "sz")
  | exact add_sz (by k_extra "sz") (by k_extra "sz")
  | exact sub_sz (by k_extra "sz") (by k_extra "sz")
  | (refine lit_sz ?_; decide))
local macro_rules | `(tactic| k_extra "st") => `(tactic| (simp only [L2.start, List.set_cons_succ, List.set_cons_zero, List.map_cons, List.map_nil, List.cons_append, List.nil_append, List.length_cons, List.length_nil, List.replicate, L2.wipe]; exact rfl))
local macro_rules | `(tactic| k_extra "lp1") => `(tactic| with_reducible first
  | refine r_seq ?_ | refine r_asg ?_ | refine r_ret ?_ | refine r_drop ?_ | refine r_if ?_ | refine r_var rfl ?_ | refine r_c ?_ | refine r_op ?_ | refine r_un ?_ | refine r_rI0 ?_ | refine r_rU ?_
  | refine r_cons ?_ | refine r_nil ?_ | refine r_call ?_ | refine r_cb ?_ | refine r_tup ?_ | refine r_lst ?_ | refine r_test ?_ | refine r_tB ?_ | refine r_bl ?_ | refine r_ifE ?_ | refine r_gcons ?_ | refine r_gnil ?_
  | refine r_gcd ?_ | refine r_next ?_ | refine r_slice ?_ | refine r_nopart ?_ | refine r_part ?_ | refine r_partI ?_ | refine r_bm ?_ | refine r_chain ?_ | refine r_eqI ?_ | refine r_neI ?_ | refine r_zip ?_ | refine r_itT ?_ | refine r_itL ?_ | refine r_for ?_ | refine r_lc ?_ | refine r_intI ?_ | refine r_intB ?_ | refine r_abs ?_ | refine r_max ?_ | refine r_none ?_ | refine r_and ?_ | refine r_or ?_ | refine r_not ?_ | refine r_andT ?_ | refine r_orT ?_ | refine r_notT ?_ | refine r_par ?_ | refine r_two rfl ?_ | refine r_gname rfl ?_)
local macro_rules | `(tactic| k_extra "lpn1") => `(tactic| with_reducible first
  | refine r_seq ?_ | refine r_asg ?_ | refine r_var rfl ?_ | refine r_op ?_ | refine r_cons ?_ | refine r_gcons ?_ | refine r_gnil ?_ | refine r_two (by k_extra "st") ?_ | refine r_gname (by k_extra "st") ?_)
local macro_rules | `(tactic| k_extra "lp2") => `(tactic| first
  | with_reducible refine r_mul (by assumption) (by assumption) ?_
  | with_reducible refine r_fx0 (by k_extra "rep") ?_
  | with_reducible refine r_fx1 (by k_extra "rep") ?_)
local macro_rules | `(tactic| k_extra "lp3") => `(tactic| first
  | with_reducible refine r_gfrac (by k_extra "rep") ?_
  | (with_reducible refine r_gpair (ra := F2) (rb := F2) (by k_extra "rep") ?_; intro _ _ _ _)
  | (with_reducible refine r_gpair (ra := P2) (rb := P2) (by k_extra "rep") ?_; intro _ _ _ _)
  | (with_reducible refine r_ix0 (ra := F2) (rb := F2) (by k_extra "rep") ?_; intro _ _)
  | (with_reducible refine r_ix1 (ra := F2) (rb := F2) (by k_extra "rep") ?_; intro _ _)
  | (with_reducible refine new_frac (by assumption) ?_; intro _ _ _ _)
  | (with_reducible refine new_pair (ra := F2) (rb := F2) (by k_extra "rep") (by k_extra "rep") ?_; intro _ _ _ _)
  | (with_reducible refine new_pair (ra := P2) (rb := P2) (by k_extra "rep") (by k_extra "rep") ?_; intro _ _ _ _)
  | (with_reducible refine new_tri (ra := F2) (rb := F2) (rc := F2) (by k_extra "rep") (by k_extra "rep") (by k_extra "rep") ?_; intro _ _ _ _)
  | (with_reducible refine sp1I (by k_extra "rep") (by assumption) ?_; intro _ _)
  | (with_reducible refine sp2I (by k_extra "rep") (by k_extra "rep") (by assumption) ?_; intro _ _)
  | (with_reducible refine sp1B (by k_extra "rep") (by assumption) ?_; intro _ _)
  | (with_reducible refine sp2B (by k_extra "rep") (by k_extra "rep") (by assumption) ?_; intro _ _)
  | (with_reducible refine sp3B (by k_extra "rep") (by k_extra "rep") (by k_extra "rep") (by assumption) ?_; intro _ _)
  | (with_reducible refine sp4B (by k_extra "rep") (by k_extra "rep") (by k_extra "rep") (by k_extra "rep") (by assumption) ?_; intro _ _)
  | (with_reducible refine sp1 (by k_extra "rep") (by assumption) ?_; intro _ _ _ _)
  | (with_reducible refine sp2 (by k_extra "rep") (by k_extra "rep") (by assumption) ?_; intro _ _ _ _)
  | (with_reducible refine sp4 (by k_extra "rep") (by k_extra "rep") (by k_extra "rep") (by k_extra "rep") (by assumption) ?_; intro _ _ _ _)
  | (with_reducible refine sp3 (by k_extra "rep") (by k_extra "rep") (by k_extra "rep") (by assumption) ?_; intro _ _ _ _))
local macro_rules | `(tactic| k_extra "lp4") => `(tactic| first
  | with_reducible refine r_gtup (by assumption) rfl ?_
  | (with_reducible refine new_any (by assumption) (Nat.le_of_ble_eq_true rfl) ?_; intro _ _ _ _))
local macro_rules | `(tactic| k_extra "lpn") => `(tactic| repeat (first | k_extra "lpn1" | k_extra "lp1" | k_extra "lp2" | k_extra "lp3" | k_extra "lp4"))
local macro_rules | `(tactic| k_extra "lp") => `(tactic| repeat (first | k_extra "lp1" | k_extra "lp2" | k_extra "lp3" | k_extra "lp4"))
section
variable {P : Program} {w : World} {K : PySem.W.Frag} {mg : Str → Option Value} {base : Heap}

theorem r_slL2 {K : PySem.W.Frag} {H : Hp} {Q : VK} {p : Addr} {vs : List V} {lo hi : Option Int} (h : SqL K H p vs) (q : ∀ r H', Same H H' → H r = none → H' r = some (.lst (cutV vs lo hi)) → Q (.ref r) H') : rSlL K (.ref p) lo hi H Q :=
  ⟨p, vs, rfl, h, fun r hr => q r _ (same_upd hr) hr upd_same⟩
theorem r_lenA {K : PySem.W.Frag} {H : Hp} {Q : VK} {p : Addr} {us : List V} (h : H p = some (.lst us)) (q : Q (.int us.length) H) : rLenS K [.ref p] H Q := ⟨p, us, rfl, .inl (.inl (.inl h)), q⟩
theorem AllR.ints {K : PySem.W.Frag} {H : Hp} : ∀ {vs : List V} {cs : List Int}, AllR RI K H vs cs → vs = cs.map V.int
  | [], [], _ => rfl
  | [], _ :: _, r => by have := r.1; simp at this
  | _ :: _, [], r => by have := r.1; simp at this
  | v :: vs, b :: bs, r => by
    have e : v = .int b := r.2 0 v b rfl rfl
    have r2 : vs = bs.map V.int := AllR.ints ⟨by have := r.1; simpa using this, fun i x d h1 h2 => r.2 (i + 1) x d h1 h2⟩
    rw [e, r2]
    rfl
local macro_rules | `(tactic| k_extra "lp5") => `(tactic| first
  | with_reducible refine r_par3 ?_
  | with_reducible refine r_three rfl ?_
  | ((with_reducible refine r_mul ?h1 ?h2 ?_); (case h1 => exact lt_p2 (by k_extra "sz") (by omega)); (case h2 => exact lt_p2 (by k_extra "sz") (by omega)))
  | with_reducible refine r_ixB (by k_extra "rep") (by with_unfolding_all exact rfl) ?_)
local macro_rules | `(tactic| k_extra "lpn") => `(tactic| repeat (first | k_extra "lpn1" | k_extra "lp1" | k_extra "lp2" | k_extra "lp3" | k_extra "lp4" | k_extra "lp5"))
local macro_rules | `(tactic| k_extra "lp") => `(tactic| repeat (first | k_extra "lp1" | k_extra "lp2" | k_extra "lp3" | k_extra "lp4" | k_extra "lp5"))
local macro_rules | `(tactic| k_extra "lp5") => `(tactic| first
  | with_reducible refine r_par3 ?_
  | with_reducible refine r_three rfl ?_
  | with_reducible refine r_gsub ?_ | with_reducible refine r_augS ?_ | with_reducible refine r_ipI ?_
  | with_reducible refine r_bag (by assumption) (by with_unfolding_all exact rfl) ?_
  | (with_reducible refine r_modI (by first | assumption | decide) ?_)
  | ((with_reducible refine r_mul ?h1 ?h2 ?_); (case h1 => exact lt_p2 (by k_extra "sz") (by omega)); (case h2 => exact lt_p2 (by k_extra "sz") (by omega)))
  | with_reducible refine r_ixB (by k_extra "rep") (by with_unfolding_all exact rfl) ?_)
abbrev s_l_bag : Stmt := topS 46
theorem sc_l_bag : FnScope ["_law_script", "_law_cell"] ["_law_script"] (defScope s_l_bag) := ⟨rfl, rfl, rfl, by decide +kernel, rfl, by decide +kernel, by decide +kernel⟩
theorem b_l_bag : BindsBy "_law_bag" s_l_bag ["_law_script"] := fun _ _ _ _ _ _ us hl => match us, hl with | [_], _ => rfl
def spBag (K : PySem.W.Frag) : Sp := fun vs H Q _ => ∃ (a : Addr) (ns : List Int), vs = [.ref a] ∧ SqL K H a (ns.map V.int) ∧ ∀ p H', Same H H' → H p = none → Bag H' p 0 → Q (.ref p) H'
theorem bag_len {ps : List Str} (h : ps.length = 1) : ∀ vs H Q E, spBag K vs H Q E → vs.length = ps.length := fun vs H Q E ⟨_, _, e, _⟩ => by rw [e, h]; rfl
theorem d_l_bag (T : Txt K mg "_law_bag" s_l_bag) (n : Nm K mg) : Def P w K mg base "_law_bag" 1 ["_law_script"] (spBag K) := by
  refine mkDef T sc_l_bag b_l_bag (bag_len rfl) fun f cdv A outer s H vs Q E hr kk h => ?_
  obtain ⟨a, ns, rfl, hs, q⟩ := h
  refine ⟨_, (pss_one (ps_ret (pe_lst (pa_cons pe_int (pa_cons pe_int (pa_cons pe_int (pa_cons (pe_lc (own := [("_law_cell", 1)]) rfl sc_l_bag.nd (piL K (pe_slice (slL K) (pv 0) po_none (po_some pe_int))) (blkOk_by (N := ["_law_script", "_law_cell"]) (sc := defScope s_l_bag) (by decide +kernel)) (fun _ _ _ _ _ => (pg_name (i := 1) sc_l_bag.nd rfl (.inl rfl))) (fun _ _ _ _ _ => pts_nil) (fun _ _ _ _ _ => (pe_callB abs1 (by rfl) n.abs (by decide +kernel) (pa_cons (pv 1) pa_nil)))) pa_nil))))))), ?_⟩
  k_extra "lpn"
  refine r_slL2 hs ?_
  intro r H1 s1 n1 h1
  rw [show cutV (ns.map V.int) none (some 63) = (ns.map V.int).take 63 from cut_to _ 63, ← List.map_take] at h1
  k_extra "lpn"
  refine ⟨r, rfl, ⟨_, .inl (.inl h1)⟩, ?_⟩
  refine lc_map (K := K) (rc := RI) (walk_list (K := K) (xs := (ns.take 63).map V.int)) ((ns.take 63).map fun i => if i < 0 then -i else i) (by rw [List.length_map, List.length_map]) (by rw [List.length_map, List.length_take]; omega) (fun H' s' => .inl (.inl (s' _ _ h1))) ?_ ?_ gname_mono
  · rintro i v H2 H3 c Post hi s2 hc ⟨rfl, hv⟩ hq
    rw [List.getElem?_map] at hv hc
    cases e : (ns.take 63)[i]? with
    | none =>
      rw [e] at hv
      cases hv
    | some z =>
      rw [e] at hv hc
      have hv : V.int z = v := Option.some.inj hv
      have hc : (if z < 0 then -z else z) = c := Option.some.inj hc
      subst hv
      k_extra "lpn"
      refine ⟨rfl, ?_⟩
      k_extra "lpn"
      rw [hc]
      exact hq _ _ (by k_extra "same") rfl
  · intro p2 us H2 s2 n2 h2 hL
    obtain ⟨p2', us', e1, h2', a2⟩ := hL
    obtain rfl : p2 = p2' := V.ref.inj e1
    rw [h2] at h2'
    obtain rfl : us = us' := by injection h2' with h; injection h
    rw [a2.ints] at h2
    k_extra "lpn"
    refine r_newL (by simp) ?_
    intro p3 H3 s3 n3 h3
    refine q _ _ (by k_extra "same") (Same.free (s1.trans s2) n3) ⟨p2, 0, 1234567891, 0, _, h3, s3 _ _ h2, ?_, by decide, by decide, by decide, by decide, ?_, ?_⟩
    · intro z
      rw [z, n3] at h2
      cases h2
    · intro c hc
      obtain ⟨z, _, e⟩ := List.mem_map.mp hc
      rw [← e]
      split <;> omega
    · rw [List.length_map, List.length_take]
      omega
abbrev s_l_some : Stmt := topS 48
theorem sc_l_some : FnScope ["_law_bag_here", "_law_things"] ["_law_bag_here", "_law_things"] (defScope s_l_some) := ⟨rfl, rfl, rfl, by decide +kernel, rfl, by decide +kernel, by decide +kernel⟩
theorem b_l_some : BindsBy "_law_some" s_l_some ["_law_bag_here", "_law_things"] := fun _ _ _ _ _ _ us hl => match us, hl with | [_, _], _ => rfl
def spSome (K : PySem.W.Frag) : Sp := fun vs H Q _ => ∃ (p a : Addr) (n : Nat) (ns : List Int), vs = [.ref p, .ref a] ∧ Bag H p n ∧ n ≤ 1000 ∧ H a = some (.lst (ns.map V.int)) ∧ a ≠ p ∧ 0 < ns.length ∧ ns.length ≤ 100 ∧ ∀ x H', MutB p H H' → Bag H' p (n + 1) → x ∈ ns → Q (.int x) H'
theorem some_len {ps : List Str} (h : ps.length = 2) : ∀ vs H Q E, spSome K vs H Q E → vs.length = ps.length := fun vs H Q E ⟨_, _, _, _, e, _⟩ => by rw [e, h]; rfl
theorem d_l_some (T : Txt K mg "_law_some" s_l_some) (n : Nm K mg) (d_l_take : Def P w K mg base "_law_take" 1 ["_law_bag_here", "_law_many"] (spTake K)) : Def P w K mg base "_law_some" 2 ["_law_bag_here", "_law_things"] (spSome K) := by
  refine mkDef T sc_l_some b_l_some (some_len rfl) fun f cdv A outer s H vs Q E hr kk h => ?_
  obtain ⟨p, a, nn, ns, rfl, hb, hn, ha, hne, h0, hl, q⟩ := h
  refine ⟨_, (pss_one (ps_ret (pe_ix (ixL K) (pv 1) (pcall d_l_take hr (pa_cons (pv 0) (pa_cons (pe_callB (lenS K) (by rfl) n.len (by decide +kernel) (pa_cons (pv 1) pa_nil)) pa_nil))) (fun _ _ => rfl)))), ?_⟩
  k_extra "lpn"
  refine r_lenA ha ?_
  k_extra "lpn"
  refine ⟨p, _, nn, rfl, hb, hn, ?_, ?_, ?_⟩
  · rw [List.length_map]
    omega
  · rw [List.length_map]
    omega
  · intro v H1 mu b1 v0 v1
    rw [List.length_map] at v1
    have hv : v.toNat < ns.length := by omega
    refine r_ixL (xs := ns.map V.int) (.inl (.inl (mu _ _ hne ha))) (v := .int ns[v.toNat]) ?_ ?_
    · unfold atI ixN
      rw [if_pos v0, if_pos (by rw [List.length_map]; omega)]
      show (ns.map V.int)[v.toNat]? = _
      rw [List.getElem?_map, List.getElem?_eq_getElem hv]
      rfl
    · k_extra "lpn"
      exact q _ _ mu b1 (List.getElem_mem hv)
end
end Lp
set_option Elab.async false
set_option linter.all false
set_option maxRecDepth 100000
set_option maxHeartbeats 4000000

namespace Lp
open PySem PySem.Spec PyProof.Rows L2
local macro_rules | `(tactic| k_extra "rep") => `(tactic| first
  | assumption
  | exact rfl
  | exact BI.mk _ _ _
  | (refine up (by assumption) ?_; k_extra "rep"))
local macro_rules | `(tactic| k_extra "same") => `(tactic| first
  | assumption
  | exact Same.refl _
  | (refine Same.trans ?_ (by assumption); k_extra "same"))
local macro_rules | `(tactic| k_extra "sz") => `(tactic| with_reducible first
  | assumption
  | exact mul_lt (by k_extra "sz") (by k_extra "sz")
  | exact add_sz (by k_extra "sz") (by k_extra "sz")
  | exact sub_sz (by k_extra "sz") (by k_extra "sz")
  | (refine lit_sz ?_; decide))
local macro_rules | `(tactic| k_extra "st") => `(tactic| (simp only [L2.start, List.set_cons_succ, List.set_cons_zero, List.map_cons, List.map_nil, List.cons_append, List.nil_append, List.length_cons, List.length_nil, List.replicate, L2.wipe]; exact rfl))
local macro_rules | `(tactic| k_extra "lp1") => `(tactic| with_reducible first
  | refine r_seq ?_ | refine r_asg ?_ | refine r_ret ?_ | refine r_drop ?_ | refine r_if ?_ | refine r_var rfl ?_ | refine r_c ?_ | refine r_op ?_ | refine r_un ?_ | refine r_rI0 ?_ | refine r_rU ?_
  | refine r_cons ?_ | refine r_nil ?_ | refine r_call ?_ | refine r_cb ?_ | refine r_tup ?_ | refine r_lst ?_ | refine r_test ?_ | refine r_tB ?_ | refine r_bl ?_ | refine r_ifE ?_ | refine r_gcons ?_ | refine r_gnil ?_
  | refine r_gcd ?_ | refine r_next ?_ | refine r_slice ?_ | refine r_nopart ?_ | refine r_part ?_ | refine r_partI ?_ | refine r_bm ?_ | refine r_chain ?_ | refine r_eqI ?_ | refine r_neI ?_ | refine r_zip ?_ | refine r_itT ?_ | refine r_itL ?_ | refine r_for ?_ | refine r_lc ?_ | refine r_intI ?_ | refine r_intB ?_ | refine r_abs ?_ | refine r_max ?_ | refine r_none ?_ | refine r_and ?_ | refine r_or ?_ | refine r_not ?_ | refine r_andT ?_ | refine r_orT ?_ | refine r_notT ?_ | refine r_par ?_ | refine r_two rfl ?_ | refine r_gname rfl ?_)
local macro_rules | `(tactic| k_extra "lpn1") => `(tactic| with_reducible first
  | refine r_seq ?_ | refine r_asg ?_ | refine r_var rfl ?_ | refine r_op ?_ | refine r_cons ?_ | refine r_gcons ?_ | refine r_gnil ?_ | refine r_two (by k_extra "st") ?_ | refine r_gname (by k_extra "st") ?_)
local macro_rules | `(tactic| k_extra "lp2") => `(tactic| first
  | with_reducible refine r_mul (by assumption) (by assumption) ?_
  | with_reducible refine r_fx0 (by k_extra "rep") ?_
  | with_reducible refine r_fx1 (by k_extra "rep") ?_)
local macro_rules | `(tactic| k_extra "lp3") => `(tactic| first
  | with_reducible refine r_gfrac (by k_extra "rep") ?_
  | (with_reducible refine r_gpair (ra := F2) (rb := F2) (by k_extra "rep") ?_; intro _ _ _ _)
  | (with_reducible refine r_gpair (ra := P2) (rb := P2) (by k_extra "rep") ?_; intro _ _ _ _)
  | (with_reducible refine r_ix0 (ra := F2) (rb := F2) (by k_extra "rep") ?_; intro _ _)
  | (with_reducible refine r_ix1 (ra := F2) (rb := F2) (by k_extra "rep") ?_; intro _ _)
  | (with_reducible refine new_frac (by assumption) ?_; intro _ _ _ _)
  | (with_reducible refine new_pair (ra := F2) (rb := F2) (by k_extra "rep") (by k_extra "rep") ?_; intro _ _ _ _)
  | (with_reducible refine new_pair (ra := P2) (rb := P2) (by k_extra "rep") (by k_extra "rep") ?_; intro _ _ _ _)
  | (with_reducible refine new_tri (ra := F2) (rb := F2) (rc := F2) (by k_extra "rep") (by k_extra "rep") (by k_extra "rep") ?_; intro _ _ _ _)
  | (with_reducible refine sp1I (by k_extra "rep") (by assumption) ?_; intro _ _)
  | (with_reducible refine sp2I (by k_extra "rep") (by k_extra "rep") (by assumption) ?_; intro _ _)
  | (with_reducible refine sp1B (by k_extra "rep") (by assumption) ?_; intro _ _)
  | (with_reducible refine sp2B (by k_extra "rep") (by k_extra "rep") (by assumption) ?_; intro _ _)
  | (with_reducible refine sp3B (by k_extra "rep") (by k_extra "rep") (by k_extra "rep") (by assumption) ?_; intro _ _)
  | (with_reducible refine sp4B (by k_extra "rep") (by k_extra "rep") (by k_extra "rep") (by k_extra "rep") (by assumption) ?_; intro _ _)
  | (with_reducible refine sp1 (by k_extra "rep") (by assumption) ?_; intro _ _ _ _)
  | (with_reducible refine sp2 (by k_extra "rep") (by k_extra "rep") (by assumption) ?_; intro _ _ _ _)
  | (with_reducible refine sp4 (by k_extra "rep") (by k_extra "rep") (by k_extra "rep") (by k_extra "rep") (by assumption) ?_; intro _ _ _ _)
  | (with_reducible refine sp3 (by k_extra "rep") (by k_extra "rep") (by k_extra "rep") (by assumption) ?_; intro _ _ _ _))
local macro_rules | `(tactic| k_extra "lp4") => `(tactic| first
  | with_reducible refine r_gtup (by assumption) rfl ?_
  | (with_reducible refine new_any (by assumption) (Nat.le_of_ble_eq_true rfl) ?_; intro _ _ _ _))
local macro_rules | `(tactic| k_extra "lpn") => `(tactic| repeat (first | k_extra "lpn1" | k_extra "lp1" | k_extra "lp2" | k_extra "lp3" | k_extra "lp4"))
local macro_rules | `(tactic| k_extra "lp") => `(tactic| repeat (first | k_extra "lp1" | k_extra "lp2" | k_extra "lp3" | k_extra "lp4"))
section
variable {P : Program} {w : World} {K : PySem.W.Frag} {mg : Str → Option Value} {base : Heap}

def lawEnough (b : Bd) (t : Int) : Bool := !decide (b.S * b.S < 2 * rOf b * rOf b) && (decide (0 ≤ (b.S * b.S + 2 * rOf b * rOf b) * t * t - lagOf b * lagOf b * (2 * b.way * b.way - b.S * b.S)) &&
  decide (8 * b.S * b.S * rOf b * rOf b * t * t * t * t ≤ ((b.S * b.S + 2 * rOf b * rOf b) * t * t - lagOf b * lagOf b * (2 * b.way * b.way - b.S * b.S)) * ((b.S * b.S + 2 * rOf b * rOf b) * t * t - lagOf b * lagOf b * (2 * b.way * b.way - b.S * b.S))))
def below (a b : Fq) : Bool := decide (a.1 * b.2 < b.1 * a.2)
def sqd (a b : Fq) : Int := (a.1 - b.1) * (a.1 - b.1) + (a.2 - b.2) * (a.2 - b.2)
def doCross (l o : Leg) : Bool := decide ((o.1.1 - l.1.1) * (o.2.1 - l.2.1) + (o.1.2 - l.1.2) * (o.2.2 - l.2.2) < 0)
def apartL (s t : Fq) : Fq := absF (sub s t)
local macro_rules | `(tactic| k_extra "lp5") => `(tactic| first
  | with_reducible refine r_par3 ?_
  | with_reducible refine r_three rfl ?_
  | ((with_reducible refine r_mul ?h1 ?h2 ?_); (case h1 => exact lt_p2 (by k_extra "sz") (by omega)); (case h2 => exact lt_p2 (by k_extra "sz") (by omega)))
  | with_reducible refine r_ixB (by k_extra "rep") (by with_unfolding_all exact rfl) ?_)
local macro_rules | `(tactic| k_extra "lpn") => `(tactic| repeat (first | k_extra "lpn1" | k_extra "lp1" | k_extra "lp2" | k_extra "lp3" | k_extra "lp4" | k_extra "lp5"))
local macro_rules | `(tactic| k_extra "lp") => `(tactic| repeat (first | k_extra "lp1" | k_extra "lp2" | k_extra "lp3" | k_extra "lp4" | k_extra "lp5"))
local macro_rules | `(tactic| k_extra "lp5") => `(tactic| first
  | with_reducible refine r_par3 ?_
  | with_reducible refine r_three rfl ?_
  | with_reducible refine r_gsub ?_ | with_reducible refine r_augS ?_ | with_reducible refine r_ipI ?_
  | with_reducible refine r_bag (by assumption) (by with_unfolding_all exact rfl) ?_
  | (with_reducible refine r_modI (by first | assumption | decide) ?_)
  | ((with_reducible refine r_mul ?h1 ?h2 ?_); (case h1 => exact lt_p2 (by k_extra "sz") (by omega)); (case h2 => exact lt_p2 (by k_extra "sz") (by omega)))
  | with_reducible refine r_ixB (by k_extra "rep") (by with_unfolding_all exact rfl) ?_)
/-! the law's own small functions -/
abbrev s_l_over : Stmt := topS 49
theorem sc_l_over : FnScope ["_law_n", "_law_d", "_law_one", "_law_other"] ["_law_n", "_law_d"] (defScope s_l_over) := ⟨rfl, rfl, rfl, by decide +kernel, rfl, by decide +kernel, by decide +kernel⟩
theorem b_l_over : BindsBy "_law_over" s_l_over ["_law_n", "_law_d"] := fun _ _ _ _ _ _ us hl => match us, hl with | [_, _], _ => rfl
theorem d_l_over (T : Txt K mg "_law_over" s_l_over) (n : Nm K mg) : Def P w K mg base "_law_over" 1 ["_law_n", "_law_d"] (spReduced K) := by
  refine mkDef T sc_l_over b_l_over (len2 rfl) fun f cdv A outer s H vs Q E hr kk h => ?_
  obtain ⟨x, y, a, b, rfl, rfl, rfl, hp, q⟩ := h
  refine ⟨_, (pss_cons (ps_par (i := 2) (j := 3) (by rfl) sc_l_over.nd rfl rfl (by decide) rfl rfl (pa_cons (pe_callB abs1 (by rfl) n.abs (by decide +kernel) (pa_cons (pv 0) pa_nil)) (pa_cons (pe_callB abs1 (by rfl) n.abs (by decide +kernel) (pa_cons (pv 1) pa_nil)) pa_nil)) (by rfl))
  (pss_cons (ps_while PassesOwn.never (pt_cmpR op_gt (pv 3) pe_int (nomark _))
    (pss_one (ps_par (i := 2) (j := 3) (by rfl) sc_l_over.nd rfl rfl (by decide) rfl rfl (pa_cons (pv 3) (pa_cons (pe_op op_mod (pe_callTy int1 (by rfl) n.int (by decide +kernel) (pa_cons (pv 2) pa_nil)) (pv 3)) pa_nil)) (by rfl))))
  (pss_cons (ps_set (i := 2) sc_l_over.nd rfl (.inl rfl) (pe_ifExp (pt_cmpR op_gt (pv 1) pe_int (nomark _)) (pv 2) (pe_un un_neg (pv 2))))
  (pss_one (ps_ret (pe_tup (pa_cons (pe_op op_fdivZ (pe_callTy int1 (by rfl) n.int (by decide +kernel) (pa_cons (pv 0) pa_nil)) (pv 2)) (pa_cons (pe_op op_fdivZ (pe_callTy int1 (by rfl) n.int (by decide +kernel) (pa_cons (pv 1) pa_nil)) (pv 2)) pa_nil)))))))), ?_⟩
  have ab : ∀ z : Int, (if z < 0 then -z else z) = ((z.natAbs : Nat) : Int) := fun z => by split <;> omega
  have hg : gk a b ≠ 0 ∧ (gk a b).natAbs < 2 ^ 9000 := ⟨gk_ne hp.ne, by
    rw [gk_abs]
    exact Nat.lt_of_le_of_lt (Nat.le_of_dvd (by have := hp.ne; omega) (Nat.gcd_dvd_right _ _)) hp.hd⟩
  k_extra "lpn"
  rw [ab, ab]
  refine r_while (fun m σ H' => ∃ u v : Nat, m = v ∧ σ = [some (.int a), some (.int b), some (.int (u : Int)), some (.int (v : Int))] ∧ Same H H' ∧ Nat.gcd u v = Nat.gcd a.natAbs b.natAbs) ⟨_, a.natAbs, b.natAbs, rfl, rfl, Same.refl H, rfl⟩ ?_
  rintro m σ H1 ⟨u, v, rfl, rfl, s1, hgc⟩
  k_extra "lpn"
  refine ite2 (fun e => ?_) (fun e => ?_)
  · have e : 0 < (m : Int) := of_decide_eq_true e
    refine ⟨fun σ' H' => ∃ u' v' : Nat, v' < m ∧ σ' = [some (.int a), some (.int b), some (.int (u' : Int)), some (.int (v' : Int))] ∧ Same H H' ∧ Nat.gcd u' v' = Nat.gcd a.natAbs b.natAbs, ?_, ?_⟩
    · rintro σ' H' ⟨u', v', h1, h2, h3, h4⟩
      exact ⟨v', h1, u', v', rfl, h2, h3, h4⟩
    · k_extra "lpn"
      refine ⟨m, u % m, Nat.mod_lt _ (by omega), by rw [Int.natCast_emod], s1, ?_⟩
      rw [← hgc, Nat.gcd_comm m, ← Nat.gcd_rec, Nat.gcd_comm]
  · have e : m = 0 := by
      have e : ¬ 0 < (m : Int) := fun z => e (decide_eq_true z)
      omega
    subst e
    rw [Nat.gcd_zero_right] at hgc
    k_extra "lpn"
    refine ite2 (fun e1 => ?_) (fun e1 => ?_)
    · have e0 : 0 < b := of_decide_eq_true e1
      have eg : (u : Int) = gk a b := by
        unfold gk
        rw [if_pos e0, hgc]
      k_extra "lpn"
      rw [eg]
      refine r_rI hg ?_
      k_extra "lpn"
      refine r_rI hg ?_
      k_extra "lpn"
      exact q _ _ (by k_extra "same") (by k_extra "rep")
    · have e0 : ¬ 0 < b := fun z => e1 (decide_eq_true z)
      have eg : -(u : Int) = gk a b := by
        unfold gk
        rw [if_neg e0, hgc]
      k_extra "lpn"
      rw [eg]
      refine r_rI hg ?_
      k_extra "lpn"
      refine r_rI hg ?_
      k_extra "lpn"
      exact q _ _ (by k_extra "same") (by k_extra "rep")
abbrev s_l_added : Stmt := topS 50
theorem sc_l_added : FnScope ["_law_x", "_law_y"] ["_law_x", "_law_y"] (defScope s_l_added) := ⟨rfl, rfl, rfl, by decide +kernel, rfl, by decide +kernel, by decide +kernel⟩
theorem b_l_added : BindsBy "_law_added" s_l_added ["_law_x", "_law_y"] := fun _ _ _ _ _ _ us hl => match us, hl with | [_, _], _ => rfl
theorem d_l_added (T : Txt K mg "_law_added" s_l_added) (d_l_over : Def P w K mg base "_law_over" 1 ["_law_n", "_law_d"] (spReduced K)) : Def P w K mg base "_law_added" 2 ["_law_x", "_law_y"] (spAdded K) := by
  refine mkDef T sc_l_added b_l_added (len2 rfl) fun f cdv A outer s H vs Q E hr kk h => ?_
  obtain ⟨x, y, a, b, rfl, hx, hy, hp, q⟩ := h
  refine ⟨_, (pss_one (ps_ret (pcall d_l_over hr (pa_cons (pe_op op_add (pe_op op_mulW (pe_ix (ixT K) (pv 0) pe_int (fun _ _ => rfl)) (pe_ix (ixT K) (pv 1) pe_int (fun _ _ => rfl))) (pe_op op_mulW (pe_ix (ixT K) (pv 1) pe_int (fun _ _ => rfl)) (pe_ix (ixT K) (pv 0) pe_int (fun _ _ => rfl)))) (pa_cons (pe_op op_mulW (pe_ix (ixT K) (pv 0) pe_int (fun _ _ => rfl)) (pe_ix (ixT K) (pv 1) pe_int (fun _ _ => rfl))) pa_nil))))), ?_⟩
  have a1 := hp.l.n9; have a2 := hp.l.d9; have b1 := hp.r.n9; have b2 := hp.r.d9
  k_extra "lp"
  exact sp2 (ra := RI) (rb := RI) rfl rfl hp.pAdd q
abbrev s_l_lessened : Stmt := topS 51
theorem sc_l_lessened : FnScope ["_law_x", "_law_y"] ["_law_x", "_law_y"] (defScope s_l_lessened) := ⟨rfl, rfl, rfl, by decide +kernel, rfl, by decide +kernel, by decide +kernel⟩
theorem b_l_lessened : BindsBy "_law_lessened" s_l_lessened ["_law_x", "_law_y"] := fun _ _ _ _ _ _ us hl => match us, hl with | [_, _], _ => rfl
theorem d_l_lessened (T : Txt K mg "_law_lessened" s_l_lessened) (d_l_over : Def P w K mg base "_law_over" 1 ["_law_n", "_law_d"] (spReduced K)) : Def P w K mg base "_law_lessened" 2 ["_law_x", "_law_y"] (spLessened K) := by
  refine mkDef T sc_l_lessened b_l_lessened (len2 rfl) fun f cdv A outer s H vs Q E hr kk h => ?_
  obtain ⟨x, y, a, b, rfl, hx, hy, hp, q⟩ := h
  refine ⟨_, (pss_one (ps_ret (pcall d_l_over hr (pa_cons (pe_op op_sub (pe_op op_mulW (pe_ix (ixT K) (pv 0) pe_int (fun _ _ => rfl)) (pe_ix (ixT K) (pv 1) pe_int (fun _ _ => rfl))) (pe_op op_mulW (pe_ix (ixT K) (pv 1) pe_int (fun _ _ => rfl)) (pe_ix (ixT K) (pv 0) pe_int (fun _ _ => rfl)))) (pa_cons (pe_op op_mulW (pe_ix (ixT K) (pv 0) pe_int (fun _ _ => rfl)) (pe_ix (ixT K) (pv 1) pe_int (fun _ _ => rfl))) pa_nil))))), ?_⟩
  have a1 := hp.l.n9; have a2 := hp.l.d9; have b1 := hp.r.n9; have b2 := hp.r.d9
  k_extra "lp"
  exact sp2 (ra := RI) (rb := RI) rfl rfl hp.pSub q
abbrev s_l_multiplied : Stmt := topS 52
theorem sc_l_multiplied : FnScope ["_law_x", "_law_y"] ["_law_x", "_law_y"] (defScope s_l_multiplied) := ⟨rfl, rfl, rfl, by decide +kernel, rfl, by decide +kernel, by decide +kernel⟩
theorem b_l_multiplied : BindsBy "_law_multiplied" s_l_multiplied ["_law_x", "_law_y"] := fun _ _ _ _ _ _ us hl => match us, hl with | [_, _], _ => rfl
theorem d_l_multiplied (T : Txt K mg "_law_multiplied" s_l_multiplied) (d_l_over : Def P w K mg base "_law_over" 1 ["_law_n", "_law_d"] (spReduced K)) : Def P w K mg base "_law_multiplied" 2 ["_law_x", "_law_y"] (spTimes K) := by
  refine mkDef T sc_l_multiplied b_l_multiplied (len2 rfl) fun f cdv A outer s H vs Q E hr kk h => ?_
  obtain ⟨x, y, a, b, rfl, hx, hy, hp, q⟩ := h
  refine ⟨_, (pss_one (ps_ret (pcall d_l_over hr (pa_cons (pe_op op_mulW (pe_ix (ixT K) (pv 0) pe_int (fun _ _ => rfl)) (pe_ix (ixT K) (pv 1) pe_int (fun _ _ => rfl))) (pa_cons (pe_op op_mulW (pe_ix (ixT K) (pv 0) pe_int (fun _ _ => rfl)) (pe_ix (ixT K) (pv 1) pe_int (fun _ _ => rfl))) pa_nil))))), ?_⟩
  have a1 := hp.l.n9; have a2 := hp.l.d9; have b1 := hp.r.n9; have b2 := hp.r.d9
  k_extra "lp"
  exact sp2 (ra := RI) (rb := RI) rfl rfl hp.pMul q
abbrev s_l_is_below : Stmt := topS 53
theorem sc_l_is_below : FnScope ["_law_x", "_law_y"] ["_law_x", "_law_y"] (defScope s_l_is_below) := ⟨rfl, rfl, rfl, by decide +kernel, rfl, by decide +kernel, by decide +kernel⟩
theorem b_l_is_below : BindsBy "_law_is_below" s_l_is_below ["_law_x", "_law_y"] := fun _ _ _ _ _ _ us hl => match us, hl with | [_, _], _ => rfl
abbrev spBelow (K : PySem.W.Frag) : Sp := Sp2 K F2 F2 RB FitsC below
theorem d_l_is_below (T : Txt K mg "_law_is_below" s_l_is_below) : Def P w K mg base "_law_is_below" 1 ["_law_x", "_law_y"] (spBelow K) := by
  refine mkDef T sc_l_is_below b_l_is_below (len2 rfl) fun f cdv A outer s H vs Q E hr kk h => ?_
  obtain ⟨x, y, a, b, rfl, hx, hy, hp, q⟩ := h
  refine ⟨_, (pss_one (ps_ret (pe_cmpR op_lt (pe_op op_mulW (pe_ix (ixT K) (pv 0) pe_int (fun _ _ => rfl)) (pe_ix (ixT K) (pv 1) pe_int (fun _ _ => rfl))) (pe_op op_mulW (pe_ix (ixT K) (pv 1) pe_int (fun _ _ => rfl)) (pe_ix (ixT K) (pv 0) pe_int (fun _ _ => rfl))) (nomark _)))), ?_⟩
  have a1 := hp.l.b.n; have a2 := hp.l.b.d; have b1 := hp.r.b.n; have b2 := hp.r.b.d
  k_extra "lp"
  exact q _ _ (by k_extra "same") rfl
abbrev s_l_reach : Stmt := topS 54
theorem sc_l_reach : FnScope ["_law_bounds_here"] ["_law_bounds_here"] (defScope s_l_reach) := ⟨rfl, rfl, rfl, by decide +kernel, rfl, by decide +kernel, by decide +kernel⟩
theorem b_l_reach : BindsBy "_law_reach" s_l_reach ["_law_bounds_here"] := fun _ _ _ _ _ _ us hl => match us, hl with | [_], _ => rfl
theorem d_l_reach (T : Txt K mg "_law_reach" s_l_reach) : Def P w K mg base "_law_reach" 1 ["_law_bounds_here"] (spR K) := by
  refine mkDef T sc_l_reach b_l_reach (len1 rfl) fun f cdv A outer s H vs Q E hr kk h => ?_
  obtain ⟨x, b, rfl, hx, hp, q⟩ := h
  refine ⟨_, (pss_one (ps_ret (pe_op op_add (pe_ix (ixT K) (pv 0) pe_int (fun _ _ => rfl)) (pe_op op_mulW pe_int (pe_ix (ixT K) (pv 0) pe_int (fun _ _ => rfl)))))), ?_⟩
  have h1 := hp.wind
  k_extra "lp"
  exact q _ _ (by k_extra "same") rfl
abbrev s_l_lag : Stmt := topS 55
theorem sc_l_lag : FnScope ["_law_bounds_here"] ["_law_bounds_here"] (defScope s_l_lag) := ⟨rfl, rfl, rfl, by decide +kernel, rfl, by decide +kernel, by decide +kernel⟩
theorem b_l_lag : BindsBy "_law_lag" s_l_lag ["_law_bounds_here"] := fun _ _ _ _ _ _ us hl => match us, hl with | [_], _ => rfl
theorem d_l_lag (T : Txt K mg "_law_lag" s_l_lag) : Def P w K mg base "_law_lag" 1 ["_law_bounds_here"] (spLag K) := by
  refine mkDef T sc_l_lag b_l_lag (len1 rfl) fun f cdv A outer s H vs Q E hr kk h => ?_
  obtain ⟨x, b, rfl, hx, hp, q⟩ := h
  refine ⟨_, (pss_one (ps_ret (pe_op op_add (pe_ix (ixT K) (pv 0) pe_int (fun _ _ => rfl)) (pe_op op_mulW pe_int (pe_ix (ixT K) (pv 0) pe_int (fun _ _ => rfl)))))), ?_⟩
  have h1 := hp.clock
  k_extra "lp"
  exact q _ _ (by k_extra "same") rfl
abbrev s_l_rho : Stmt := topS 56
theorem sc_l_rho : FnScope ["_law_bounds_here", "_law_ticks_here"] ["_law_bounds_here", "_law_ticks_here"] (defScope s_l_rho) := ⟨rfl, rfl, rfl, by decide +kernel, rfl, by decide +kernel, by decide +kernel⟩
theorem b_l_rho : BindsBy "_law_rho" s_l_rho ["_law_bounds_here", "_law_ticks_here"] := fun _ _ _ _ _ _ us hl => match us, hl with | [_, _], _ => rfl
theorem d_l_rho (T : Txt K mg "_law_rho" s_l_rho) (d_l_over : Def P w K mg base "_law_over" 1 ["_law_n", "_law_d"] (spReduced K)) (d_l_lag : Def P w K mg base "_law_lag" 1 ["_law_bounds_here"] (spLag K)) : Def P w K mg base "_law_rho" 2 ["_law_bounds_here", "_law_ticks_here"] (spRho K) := by
  refine mkDef T sc_l_rho b_l_rho (len2 rfl) fun f cdv A outer s H vs Q E hr kk h => ?_
  obtain ⟨x, y, b, t, rfl, hx, rfl, hp, q⟩ := h
  refine ⟨_, (pss_one (ps_ret (pcall d_l_over hr (pa_cons (pcall d_l_lag hr (pa_cons (pv 0) pa_nil)) (pa_cons (pv 1) pa_nil))))), ?_⟩
  have hb := hp.b
  have f1 : PreRed (lagOf b) t := ⟨lt_p2 (lagOf_sz hb) (by omega), lt_p2 hp.ht (by omega), hp.ne⟩
  k_extra "lp"
  exact q _ _ (by k_extra "same") (by k_extra "rep")
abbrev s_l_is_enough : Stmt := topS 57
theorem sc_l_is_enough : FnScope ["_law_bounds_here", "_law_ticks_here", "_law_mine", "_law_spacing", "_law_reach_here", "_law_way", "_law_lag_here"] ["_law_bounds_here", "_law_ticks_here"] (defScope s_l_is_enough) := ⟨rfl, rfl, rfl, by decide +kernel, rfl, by decide +kernel, by decide +kernel⟩
theorem b_l_is_enough : BindsBy "_law_is_enough" s_l_is_enough ["_law_bounds_here", "_law_ticks_here"] := fun _ _ _ _ _ _ us hl => match us, hl with | [_, _], _ => rfl
abbrev spLEnough (K : PySem.W.Frag) : Sp := Sp2 K RBd RI RB PreRho lawEnough
theorem d_l_is_enough (T : Txt K mg "_law_is_enough" s_l_is_enough) (d_l_reach : Def P w K mg base "_law_reach" 1 ["_law_bounds_here"] (spR K)) (d_l_lag : Def P w K mg base "_law_lag" 1 ["_law_bounds_here"] (spLag K)) : Def P w K mg base "_law_is_enough" 2 ["_law_bounds_here", "_law_ticks_here"] (spLEnough K) := by
  refine mkDef T sc_l_is_enough b_l_is_enough (len2 rfl) fun f cdv A outer s H vs Q E hr kk h => ?_
  obtain ⟨x, y, b, t, rfl, hx, rfl, hp, q⟩ := h
  refine ⟨_, (pss_cons (ps_asg (pe_tup (pa_cons (pe_ix (ixT K) (pv 0) pe_int (fun _ _ => rfl)) (pa_cons (pcall d_l_reach hr (pa_cons (pv 0) pa_nil)) (pa_cons (pe_ix (ixT K) (pv 0) pe_int (fun _ _ => rfl)) (pa_cons (pcall d_l_lag hr (pa_cons (pv 0) pa_nil)) pa_nil))))) (pgT (n := 4) K rfl (pgs_cons (pg_name (i := 3) sc_l_is_enough.nd rfl (.inl rfl)) (pgs_cons (pg_name (i := 4) sc_l_is_enough.nd rfl (.inl rfl)) (pgs_cons (pg_name (i := 5) sc_l_is_enough.nd rfl (.inl rfl)) (pgs_cons (pg_name (i := 6) sc_l_is_enough.nd rfl (.inl rfl)) pgs_nil))))))
  (pss_cons (ps_if (pt_cmpR op_lt (pe_op op_mulW (pv 3) (pv 3)) (pe_op op_mulW (pe_op op_mulW pe_int (pv 4)) (pv 4)) (nomark _))
    (pss_one (ps_ret pe_bl))
    pss_nil)
  (pss_cons (ps_set (i := 2) sc_l_is_enough.nd rfl (.inl rfl) (pe_op op_mulW (pe_op op_mulW (pe_op op_add (pe_op op_mulW (pv 3) (pv 3)) (pe_op op_mulW (pe_op op_mulW pe_int (pv 4)) (pv 4))) (pv 1)) (pv 1)))
  (pss_cons (ps_set (i := 2) sc_l_is_enough.nd rfl (.inl rfl) (pe_op op_sub (pv 2) (pe_op op_mulW (pe_op op_mulW (pv 6) (pv 6)) (pe_op op_sub (pe_op op_mulW (pe_op op_mulW pe_int (pv 5)) (pv 5)) (pe_op op_mulW (pv 3) (pv 3))))))
  (pss_one (ps_ret (pe_and (pe_cmpR op_ge (pv 2) pe_int (nomark _)) (pe_one (pe_cmpR op_ge (pe_op op_mulW (pv 2) (pv 2)) (pe_op op_mulW (pe_op op_mulW (pe_op op_mulW (pe_op op_mulW (pe_op op_mulW (pe_op op_mulW (pe_op op_mulW (pe_op op_mulW pe_int (pv 3)) (pv 3)) (pv 4)) (pv 4)) (pv 1)) (pv 1)) (pv 1)) (pv 1)) (nomark _)))))))))), ?_⟩
  have hb := hp.b
  have z1 := hb.S
  have z2 := hb.way
  have z3 := rOf_sz hb
  have z4 := lagOf_sz hb
  have z5 := hp.ht
  k_extra "lpn"
  refine ite2 (fun e => ?_) (fun e => ?_)
  · have e : decide (b.S * b.S < 2 * rOf b * rOf b) = true := e
    k_extra "lpn"
    refine q _ _ (by k_extra "same") ?_
    unfold lawEnough
    rw [e]
    rfl
  · have e : decide (b.S * b.S < 2 * rOf b * rOf b) = false := by
      have e : ¬ decide (b.S * b.S < 2 * rOf b * rOf b) = true := e
      simpa using e
    k_extra "lpn"
    refine ite2 (fun e1 => ?_) (fun e1 => ?_)
    · k_extra "lpn"
      have e1 : decide (0 ≤ (b.S * b.S + 2 * rOf b * rOf b) * t * t - lagOf b * lagOf b * (2 * b.way * b.way - b.S * b.S)) = true := e1
      refine q _ _ (by k_extra "same") ?_
      unfold lawEnough
      rw [e, e1]
      rfl
    · have e1 : decide (0 ≤ (b.S * b.S + 2 * rOf b * rOf b) * t * t - lagOf b * lagOf b * (2 * b.way * b.way - b.S * b.S)) = false := by
        have e1 : ¬ decide (0 ≤ (b.S * b.S + 2 * rOf b * rOf b) * t * t - lagOf b * lagOf b * (2 * b.way * b.way - b.S * b.S)) = true := e1
        simpa using e1
      refine q _ _ (by k_extra "same") ?_
      unfold lawEnough
      rw [e, e1]
      rfl
abbrev s_l_squared : Stmt := topS 61
theorem sc_l_squared : FnScope ["_law_one", "_law_other"] ["_law_one", "_law_other"] (defScope s_l_squared) := ⟨rfl, rfl, rfl, by decide +kernel, rfl, by decide +kernel, by decide +kernel⟩
theorem b_l_squared : BindsBy "_law_squared" s_l_squared ["_law_one", "_law_other"] := fun _ _ _ _ _ _ us hl => match us, hl with | [_, _], _ => rfl
structure PreSq (a b : Fq) : Prop where
  a : Sm a
  b : Sm b
abbrev spSqd (K : PySem.W.Frag) : Sp := Sp2 K F2 F2 RI PreSq sqd
theorem d_l_squared (T : Txt K mg "_law_squared" s_l_squared) : Def P w K mg base "_law_squared" 1 ["_law_one", "_law_other"] (spSqd K) := by
  refine mkDef T sc_l_squared b_l_squared (len2 rfl) fun f cdv A outer s H vs Q E hr kk h => ?_
  obtain ⟨x, y, a, b, rfl, hx, hy, hp, q⟩ := h
  refine ⟨_, (pss_one (ps_ret (pe_op op_add (pe_op op_mulW (pe_op op_sub (pe_ix (ixT K) (pv 0) pe_int (fun _ _ => rfl)) (pe_ix (ixT K) (pv 1) pe_int (fun _ _ => rfl))) (pe_op op_sub (pe_ix (ixT K) (pv 0) pe_int (fun _ _ => rfl)) (pe_ix (ixT K) (pv 1) pe_int (fun _ _ => rfl)))) (pe_op op_mulW (pe_op op_sub (pe_ix (ixT K) (pv 0) pe_int (fun _ _ => rfl)) (pe_ix (ixT K) (pv 1) pe_int (fun _ _ => rfl))) (pe_op op_sub (pe_ix (ixT K) (pv 0) pe_int (fun _ _ => rfl)) (pe_ix (ixT K) (pv 1) pe_int (fun _ _ => rfl))))))), ?_⟩
  have a1 := hp.a.x; have a2 := hp.a.y; have b1 := hp.b.x; have b2 := hp.b.y
  k_extra "lpn"
  exact q _ _ (by k_extra "same") rfl
abbrev s_l_do_cross : Stmt := topS 62
theorem sc_l_do_cross : FnScope ["_law_leg", "_law_other", "_law_a", "_law_b", "_law_c", "_law_d"] ["_law_leg", "_law_other"] (defScope s_l_do_cross) := ⟨rfl, rfl, rfl, by decide +kernel, rfl, by decide +kernel, by decide +kernel⟩
theorem b_l_do_cross : BindsBy "_law_do_cross" s_l_do_cross ["_law_leg", "_law_other"] := fun _ _ _ _ _ _ us hl => match us, hl with | [_, _], _ => rfl
abbrev spCross (K : PySem.W.Frag) : Sp := Sp2 K P2 P2 RB PreC doCross
theorem d_l_do_cross (T : Txt K mg "_law_do_cross" s_l_do_cross) : Def P w K mg base "_law_do_cross" 1 ["_law_leg", "_law_other"] (spCross K) := by
  refine mkDef T sc_l_do_cross b_l_do_cross (len2 rfl) fun f cdv A outer s H vs Q E hr kk h => ?_
  obtain ⟨x, y, l, o, rfl, hx, hy, hp, q⟩ := h
  refine ⟨_, (pss_cons (ps_asg (pe_tup (pa_cons (pv 0) (pa_cons (pv 1) pa_nil))) (pgT (n := 2) K rfl (pgs_cons (pgT (n := 2) K rfl (pgs_cons (pg_name (i := 2) sc_l_do_cross.nd rfl (.inl rfl)) (pgs_cons (pg_name (i := 3) sc_l_do_cross.nd rfl (.inl rfl)) pgs_nil))) (pgs_cons (pgT (n := 2) K rfl (pgs_cons (pg_name (i := 4) sc_l_do_cross.nd rfl (.inl rfl)) (pgs_cons (pg_name (i := 5) sc_l_do_cross.nd rfl (.inl rfl)) pgs_nil))) pgs_nil))))
  (pss_one (ps_ret (pe_cmpR op_lt (pe_op op_add (pe_op op_mulW (pe_op op_sub (pe_ix (ixT K) (pv 4) pe_int (fun _ _ => rfl)) (pe_ix (ixT K) (pv 2) pe_int (fun _ _ => rfl))) (pe_op op_sub (pe_ix (ixT K) (pv 5) pe_int (fun _ _ => rfl)) (pe_ix (ixT K) (pv 3) pe_int (fun _ _ => rfl)))) (pe_op op_mulW (pe_op op_sub (pe_ix (ixT K) (pv 4) pe_int (fun _ _ => rfl)) (pe_ix (ixT K) (pv 2) pe_int (fun _ _ => rfl))) (pe_op op_sub (pe_ix (ixT K) (pv 5) pe_int (fun _ _ => rfl)) (pe_ix (ixT K) (pv 3) pe_int (fun _ _ => rfl))))) pe_int (nomark _))))), ?_⟩
  have z1 := hp.l.a
  have z2 := hp.l.b
  have z3 := hp.l.c
  have z4 := hp.l.d
  have y1 := hp.o.a
  have y2 := hp.o.b
  have y3 := hp.o.c
  have y4 := hp.o.d
  k_extra "lpn"
  exact q _ _ (by k_extra "same") rfl
abbrev s_l_apart : Stmt := topS 71
theorem sc_l_apart : FnScope ["_law_s", "_law_t", "_law_found"] ["_law_s", "_law_t"] (defScope s_l_apart) := ⟨rfl, rfl, rfl, by decide +kernel, rfl, by decide +kernel, by decide +kernel⟩
theorem b_l_apart : BindsBy "_law_apart" s_l_apart ["_law_s", "_law_t"] := fun _ _ _ _ _ _ us hl => match us, hl with | [_, _], _ => rfl
abbrev spLApart (K : PySem.W.Frag) : Sp := Sp2 K F2 F2 F2 Fits apartL
theorem d_l_apart (T : Txt K mg "_law_apart" s_l_apart) (n : Nm K mg) (d_l_lessened : Def P w K mg base "_law_lessened" 2 ["_law_x", "_law_y"] (spLessened K)) : Def P w K mg base "_law_apart" 3 ["_law_s", "_law_t"] (spLApart K) := by
  refine mkDef T sc_l_apart b_l_apart (len2 rfl) fun f cdv A outer s H vs Q E hr kk h => ?_
  obtain ⟨x, y, a, b, rfl, hx, hy, hp, q⟩ := h
  refine ⟨_, (pss_cons (ps_set (i := 2) sc_l_apart.nd rfl (.inl rfl) (pcall d_l_lessened hr (pa_cons (pv 0) (pa_cons (pv 1) pa_nil))))
  (pss_one (ps_ret (pe_tup (pa_cons (pe_callB abs1 (by rfl) n.abs (by decide +kernel) (pa_cons (pe_ix (ixT K) (pv 2) pe_int (fun _ _ => rfl)) pa_nil)) (pa_cons (pe_ix (ixT K) (pv 2) pe_int (fun _ _ => rfl)) pa_nil)))))), ?_⟩
  k_extra "lpn"
  exact q _ _ (by k_extra "same") (by k_extra "rep")
end
end Lp
set_option Elab.async false
set_option linter.all false
set_option maxRecDepth 100000
set_option maxHeartbeats 4000000

namespace Lp
open PySem PySem.Spec PyProof.Rows L2
local macro_rules | `(tactic| k_extra "rep") => `(tactic| first
  | assumption
  | exact rfl
  | exact BI.mk _ _ _
  | (refine up (by assumption) ?_; k_extra "rep"))
local macro_rules | `(tactic| k_extra "same") => `(tactic| first
  | assumption
  | exact Same.refl _
  | (refine Same.trans ?_ (by assumption); k_extra "same"))
local macro_rules | `(tactic| k_extra "sz") => `(tactic| with_reducible first
  | assumption
  | exact mul_lt (by k_extra "sz") (by k_extra "sz")
  | exact add_sz (by k_extra "sz") (by k_extra "sz")
  | exact sub_sz (by k_extra "sz") (by k_extra "sz")
  | (refine lit_sz ?_; decide))
local macro_rules | `(tactic| k_extra "st") => `(tactic| (simp only [L2.start, List.set_cons_succ, List.set_cons_zero, List.map_cons, List.map_nil, List.cons_append, List.nil_append, List.length_cons, List.length_nil, List.replicate, L2.wipe]; exact rfl))
local macro_rules | `(tactic| k_extra "lp1") => `(tactic| with_reducible first
  | refine r_seq ?_ | refine r_asg ?_ | refine r_ret ?_ | refine r_drop ?_ | refine r_if ?_ | refine r_var rfl ?_ | refine r_c ?_ | refine r_op ?_ | refine r_un ?_ | refine r_rI0 ?_ | refine r_rU ?_
  | refine r_cons ?_ | refine r_nil ?_ | refine r_call ?_ | refine r_cb ?_ | refine r_tup ?_ | refine r_lst ?_ | refine r_test ?_ | refine r_tB ?_ | refine r_bl ?_ | refine r_ifE ?_ | refine r_gcons ?_ | refine r_gnil ?_
  | refine r_gcd ?_ | refine r_next ?_ | refine r_slice ?_ | refine r_nopart ?_ | refine r_part ?_ | refine r_partI ?_ | refine r_bm ?_ | refine r_chain ?_ | refine r_eqI ?_ | refine r_neI ?_ | refine r_zip ?_ | refine r_itT ?_ | refine r_itL ?_ | refine r_for ?_ | refine r_lc ?_ | refine r_intI ?_ | refine r_intB ?_ | refine r_abs ?_ | refine r_max ?_ | refine r_none ?_ | refine r_and ?_ | refine r_or ?_ | refine r_not ?_ | refine r_andT ?_ | refine r_orT ?_ | refine r_notT ?_ | refine r_par ?_ | refine r_two rfl ?_ | refine r_gname rfl ?_)
local macro_rules | `(tactic| k_extra "lpn1") => `(tactic| with_reducible first
  | refine r_seq ?_ | refine r_asg ?_ | refine r_var rfl ?_ | refine r_op ?_ | refine r_cons ?_ | refine r_gcons ?_ | refine r_gnil ?_ | refine r_two (by k_extra "st") ?_ | refine r_gname (by k_extra "st") ?_)
local macro_rules | `(tactic| k_extra "lp2") => `(tactic| first
  | with_reducible refine r_mul (by assumption) (by assumption) ?_
  | with_reducible refine r_fx0 (by k_extra "rep") ?_
  | with_reducible refine r_fx1 (by k_extra "rep") ?_)
local macro_rules | `(tactic| k_extra "lp3") => `(tactic| first
  | with_reducible refine r_gfrac (by k_extra "rep") ?_
  | (with_reducible refine r_gpair (ra := F2) (rb := F2) (by k_extra "rep") ?_; intro _ _ _ _)
  | (with_reducible refine r_gpair (ra := P2) (rb := P2) (by k_extra "rep") ?_; intro _ _ _ _)
  | (with_reducible refine r_ix0 (ra := F2) (rb := F2) (by k_extra "rep") ?_; intro _ _)
  | (with_reducible refine r_ix1 (ra := F2) (rb := F2) (by k_extra "rep") ?_; intro _ _)
  | (with_reducible refine new_frac (by assumption) ?_; intro _ _ _ _)
  | (with_reducible refine new_pair (ra := F2) (rb := F2) (by k_extra "rep") (by k_extra "rep") ?_; intro _ _ _ _)
  | (with_reducible refine new_pair (ra := P2) (rb := P2) (by k_extra "rep") (by k_extra "rep") ?_; intro _ _ _ _)
  | (with_reducible refine new_tri (ra := F2) (rb := F2) (rc := F2) (by k_extra "rep") (by k_extra "rep") (by k_extra "rep") ?_; intro _ _ _ _)
  | (with_reducible refine sp1I (by k_extra "rep") (by assumption) ?_; intro _ _)
  | (with_reducible refine sp2I (by k_extra "rep") (by k_extra "rep") (by assumption) ?_; intro _ _)
  | (with_reducible refine sp1B (by k_extra "rep") (by assumption) ?_; intro _ _)
  | (with_reducible refine sp2B (by k_extra "rep") (by k_extra "rep") (by assumption) ?_; intro _ _)
  | (with_reducible refine sp3B (by k_extra "rep") (by k_extra "rep") (by k_extra "rep") (by assumption) ?_; intro _ _)
  | (with_reducible refine sp4B (by k_extra "rep") (by k_extra "rep") (by k_extra "rep") (by k_extra "rep") (by assumption) ?_; intro _ _)
  | (with_reducible refine sp1 (by k_extra "rep") (by assumption) ?_; intro _ _ _ _)
  | (with_reducible refine sp2 (by k_extra "rep") (by k_extra "rep") (by assumption) ?_; intro _ _ _ _)
  | (with_reducible refine sp4 (by k_extra "rep") (by k_extra "rep") (by k_extra "rep") (by k_extra "rep") (by assumption) ?_; intro _ _ _ _)
  | (with_reducible refine sp3 (by k_extra "rep") (by k_extra "rep") (by k_extra "rep") (by assumption) ?_; intro _ _ _ _))
local macro_rules | `(tactic| k_extra "lp4") => `(tactic| first
  | with_reducible refine r_gtup (by assumption) rfl ?_
  | (with_reducible refine new_any (by assumption) (Nat.le_of_ble_eq_true rfl) ?_; intro _ _ _ _))
local macro_rules | `(tactic| k_extra "lpn") => `(tactic| repeat (first | k_extra "lpn1" | k_extra "lp1" | k_extra "lp2" | k_extra "lp3" | k_extra "lp4"))
local macro_rules | `(tactic| k_extra "lp") => `(tactic| repeat (first | k_extra "lp1" | k_extra "lp2" | k_extra "lp3" | k_extra "lp4"))
section
variable {P : Program} {w : World} {K : PySem.W.Frag} {mg : Str → Option Value} {base : Heap}

theorem ty_tup {K : PySem.W.Frag} {H : Hp} {p : Addr} {xs : List V} (h : SqT K H p xs) : TyX K H (.ref p) (.type "tuple") := by
  rcases h with (h | ⟨o, h⟩) | h
  · exact .base (.tup h)
  · exact .fTuple h
  · obtain ⟨o, its, n, h1, h2, _⟩ := h
    exact .kTuple h1 h2
theorem r_isiT {K : PySem.W.Frag} {H : Hp} {Q : VK} {p : Addr} {xs : List V} (h : SqT K H p xs) (q : Q (.bl true) H) : rIsi K [.ref p, .ty "tuple"] H Q := ⟨_, _, _, _, true, rfl, .ty _, ty_tup h, rfl, q⟩
theorem r_isiI {K : PySem.W.Frag} {H : Hp} {Q : VK} {i : Int} (q : Q (.bl true) H) : rIsi K [.int i, .ty "int"] H Q := ⟨_, _, _, _, true, rfl, .ty _, .base (.int i), rfl, q⟩
theorem r_isiB {K : PySem.W.Frag} {H : Hp} {Q : VK} {i : Int} (q : Q (.bl false) H) : rIsi K [.int i, .ty "bool"] H Q := ⟨_, _, _, _, false, rfl, .ty _, .base (.int i), rfl, q⟩
theorem r_lenT {K : PySem.W.Frag} {H : Hp} {Q : VK} {p : Addr} {us : List V} (h : SqT K H p us) (q : Q (.int us.length) H) : rLenS K [.ref p] H Q := ⟨p, us, rfl, .inr h, q⟩
def RL2 : Rep (Fq × Fq) := fun K H v c => RL F2 K H v [c.1, c.2]
instance : Up RL2 := ⟨fun s h => Up.up (r := RL F2) s h⟩
theorem rl2 {K : PySem.W.Frag} {H : Hp} {v : V} {c : Fq × Fq} (h : RL2 K H v c) : ∃ p x y, v = .ref p ∧ H p = some (.lst [x, y]) ∧ F2 K H x c.1 ∧ F2 K H y c.2 := by
  obtain ⟨p, vs, e, h1, h2⟩ := h
  match vs, h2 with
  | [x, y], h2 => exact ⟨p, x, y, e, h1, h2.2 0 x c.1 rfl rfl, h2.2 1 y c.2 rfl rfl⟩
  | [], h2 =>
    have := h2.1
    simp at this
  | [_], h2 =>
    have := h2.1
    simp at this
  | _ :: _ :: _ :: r, h2 =>
    have := h2.1
    simp at this
theorem r_l20 {K : PySem.W.Frag} {H : Hp} {Q : VK} {v : V} {c : Fq × Fq} (h : RL2 K H v c) (q : ∀ x, F2 K H x c.1 → Q x H) : rIxL K v (.int 0) H Q := by
  obtain ⟨p, x, y, rfl, h1, h2, h3⟩ := rl2 h
  exact r_ixL (.inl (.inl h1)) rfl (q x h2)
theorem r_l21 {K : PySem.W.Frag} {H : Hp} {Q : VK} {v : V} {c : Fq × Fq} (h : RL2 K H v c) (q : ∀ x, F2 K H x c.2 → Q x H) : rIxL K v (.int 1) H Q := by
  obtain ⟨p, x, y, rfl, h1, h2, h3⟩ := rl2 h
  exact r_ixL (.inl (.inl h1)) rfl (q y h3)
local macro_rules | `(tactic| k_extra "lp5") => `(tactic| first
  | with_reducible refine r_par3 ?_
  | with_reducible refine r_three rfl ?_
  | ((with_reducible refine r_mul ?h1 ?h2 ?_); (case h1 => exact lt_p2 (by k_extra "sz") (by omega)); (case h2 => exact lt_p2 (by k_extra "sz") (by omega)))
  | with_reducible refine r_ixB (by k_extra "rep") (by with_unfolding_all exact rfl) ?_)
local macro_rules | `(tactic| k_extra "lpn") => `(tactic| repeat (first | k_extra "lpn1" | k_extra "lp1" | k_extra "lp2" | k_extra "lp3" | k_extra "lp4" | k_extra "lp5"))
local macro_rules | `(tactic| k_extra "lp") => `(tactic| repeat (first | k_extra "lp1" | k_extra "lp2" | k_extra "lp3" | k_extra "lp4" | k_extra "lp5"))
local macro_rules | `(tactic| k_extra "lp5") => `(tactic| first
  | with_reducible refine r_par3 ?_
  | with_reducible refine r_three rfl ?_
  | with_reducible refine r_gsub ?_ | with_reducible refine r_augS ?_ | with_reducible refine r_ipI ?_
  | with_reducible refine r_bag (by assumption) (by with_unfolding_all exact rfl) ?_
  | (with_reducible refine r_modI (by first | assumption | decide) ?_)
  | ((with_reducible refine r_mul ?h1 ?h2 ?_); (case h1 => exact lt_p2 (by k_extra "sz") (by omega)); (case h2 => exact lt_p2 (by k_extra "sz") (by omega)))
  | with_reducible refine r_ixB (by k_extra "rep") (by with_unfolding_all exact rfl) ?_)
/-! what kind a thing is; the gap -/
abbrev s_l_is_int : Stmt := topS 69
theorem sc_l_is_int : FnScope ["_law_thing"] ["_law_thing"] (defScope s_l_is_int) := ⟨rfl, rfl, rfl, by decide +kernel, rfl, by decide +kernel, by decide +kernel⟩
theorem b_l_is_int : BindsBy "_law_is_int" s_l_is_int ["_law_thing"] := fun _ _ _ _ _ _ us hl => match us, hl with | [_], _ => rfl
abbrev spYes {α : Type} (K : PySem.W.Frag) (ra : Rep α) : Sp := Sp1 K ra RB (fun _ => True) (fun _ => true)
theorem d_l_is_int (T : Txt K mg "_law_is_int" s_l_is_int) (n : Nm K mg) : Def P w K mg base "_law_is_int" 1 ["_law_thing"] (spYes K RI) := by
  refine mkDef T sc_l_is_int b_l_is_int (len1 rfl) fun f cdv A outer s H vs Q E hr kk h => ?_
  obtain ⟨x, a, rfl, rfl, _, q⟩ := h
  refine ⟨_, (pss_one (ps_ret (pe_and (pe_callB (isi K) (by rfl) n.isinstance (by decide +kernel) (pa_cons (pv 0) (pa_cons (pe_bltn (v := .ty "int") (u := .type "int") (by rfl) n.int (by decide +kernel) rfl) pa_nil))) (pe_one (pe_not (pe_callB (isi K) (by rfl) n.isinstance (by decide +kernel) (pa_cons (pv 0) (pa_cons (pe_bltn (v := .ty "bool") (u := .type "bool") (by rfl) n.bool (by decide +kernel) rfl) pa_nil)))))))), ?_⟩
  k_extra "lpn"
  refine r_isiI ?_
  k_extra "lpn"
  refine iteT ?_
  k_extra "lpn"
  refine r_isiB ?_
  k_extra "lpn"
  exact q _ _ (by k_extra "same") rfl
abbrev s_l_is_column : Stmt := topS 66
theorem sc_l_is_column : FnScope ["_law_thing"] ["_law_thing"] (defScope s_l_is_column) := ⟨rfl, rfl, rfl, by decide +kernel, rfl, by decide +kernel, by decide +kernel⟩
theorem b_l_is_column : BindsBy "_law_is_column" s_l_is_column ["_law_thing"] := fun _ _ _ _ _ _ us hl => match us, hl with | [_], _ => rfl
theorem d_l_is_column (T : Txt K mg "_law_is_column" s_l_is_column) (n : Nm K mg) (d_l_is_int : Def P w K mg base "_law_is_int" 1 ["_law_thing"] (spYes K RI)) : Def P w K mg base "_law_is_column" 2 ["_law_thing"] (spYes K F2) := by
  refine mkDef T sc_l_is_column b_l_is_column (len1 rfl) fun f cdv A outer s H vs Q E hr kk h => ?_
  obtain ⟨v, c, rfl, hx, ht, q⟩ := h
  obtain ⟨p, x, y, rfl, hs, e1, e2⟩ := id hx
  refine ⟨_, (pss_one (ps_ret (pe_and (pe_callB (isi K) (by rfl) n.isinstance (by decide +kernel) (pa_cons (pv 0) (pa_cons (pe_bltn (v := .ty "tuple") (u := .type "tuple") (by rfl) n.tuple (by decide +kernel) rfl) pa_nil))) (pe_and (pe_cmpR op_eq (pe_callB (lenS K) (by rfl) n.len (by decide +kernel) (pa_cons (pv 0) pa_nil)) pe_int (nomark _)) (pe_and (pcall d_l_is_int hr (pa_cons (pe_ix (ixT K) (pv 0) pe_int (fun _ _ => rfl)) pa_nil)) (pe_one (pcall d_l_is_int hr (pa_cons (pe_ix (ixT K) (pv 0) pe_int (fun _ _ => rfl)) pa_nil)))))))), ?_⟩
  k_extra "lpn"
  refine r_isiT hs ?_
  k_extra "lpn"
  refine iteT ?_
  k_extra "lpn"
  refine r_lenT hs ?_
  k_extra "lpn"
  refine iteT' (by rfl) ?_
  k_extra "lpn"
  refine iteT ?_
  k_extra "lpn"
  exact q _ _ (by k_extra "same") rfl
abbrev s_l_is_leg : Stmt := topS 67
theorem sc_l_is_leg : FnScope ["_law_thing"] ["_law_thing"] (defScope s_l_is_leg) := ⟨rfl, rfl, rfl, by decide +kernel, rfl, by decide +kernel, by decide +kernel⟩
theorem b_l_is_leg : BindsBy "_law_is_leg" s_l_is_leg ["_law_thing"] := fun _ _ _ _ _ _ us hl => match us, hl with | [_], _ => rfl
theorem d_l_is_leg (T : Txt K mg "_law_is_leg" s_l_is_leg) (n : Nm K mg) (d_l_is_column : Def P w K mg base "_law_is_column" 2 ["_law_thing"] (spYes K F2)) : Def P w K mg base "_law_is_leg" 3 ["_law_thing"] (spYes K P2) := by
  refine mkDef T sc_l_is_leg b_l_is_leg (len1 rfl) fun f cdv A outer s H vs Q E hr kk h => ?_
  obtain ⟨v, c, rfl, hx, ht, q⟩ := h
  obtain ⟨p, x, y, rfl, hs, e1, e2⟩ := id hx
  refine ⟨_, (pss_one (ps_ret (pe_and (pe_callB (isi K) (by rfl) n.isinstance (by decide +kernel) (pa_cons (pv 0) (pa_cons (pe_bltn (v := .ty "tuple") (u := .type "tuple") (by rfl) n.tuple (by decide +kernel) rfl) pa_nil))) (pe_and (pe_cmpR op_eq (pe_callB (lenS K) (by rfl) n.len (by decide +kernel) (pa_cons (pv 0) pa_nil)) pe_int (nomark _)) (pe_and (pcall d_l_is_column hr (pa_cons (pe_ix (ixT K) (pv 0) pe_int (fun _ _ => rfl)) pa_nil)) (pe_one (pcall d_l_is_column hr (pa_cons (pe_ix (ixT K) (pv 0) pe_int (fun _ _ => rfl)) pa_nil)))))))), ?_⟩
  k_extra "lpn"
  refine r_isiT hs ?_
  k_extra "lpn"
  refine iteT ?_
  k_extra "lpn"
  refine r_lenT hs ?_
  k_extra "lpn"
  refine iteT' (by rfl) ?_
  k_extra "lpn"
  refine iteT ?_
  k_extra "lpn"
  exact q _ _ (by k_extra "same") rfl
structure PrePartL (q : Fq) : Prop where
  f : Fit q
  n0 : 0 ≤ q.1
  n1 : q.1 ≤ q.2
abbrev s_l_is_part : Stmt := topS 70
theorem sc_l_is_part : FnScope ["_law_thing"] ["_law_thing"] (defScope s_l_is_part) := ⟨rfl, rfl, rfl, by decide +kernel, rfl, by decide +kernel, by decide +kernel⟩
theorem b_l_is_part : BindsBy "_law_is_part" s_l_is_part ["_law_thing"] := fun _ _ _ _ _ _ us hl => match us, hl with | [_], _ => rfl
abbrev spPartL (K : PySem.W.Frag) : Sp := Sp1 K F2 RB PrePartL (fun _ => true)
theorem d_l_is_part (T : Txt K mg "_law_is_part" s_l_is_part) (d_l_over : Def P w K mg base "_law_over" 1 ["_law_n", "_law_d"] (spReduced K)) (d_l_is_column : Def P w K mg base "_law_is_column" 2 ["_law_thing"] (spYes K F2)) : Def P w K mg base "_law_is_part" 3 ["_law_thing"] (spPartL K) := by
  refine mkDef T sc_l_is_part b_l_is_part (len1 rfl) fun f cdv A outer s H vs Q E hr kk h => ?_
  obtain ⟨v, c, rfl, hx, hp, q⟩ := h
  have pos := hp.f.ok.pos
  have f1 : PreRed c.1 c.2 := ⟨hp.f.n9, hp.f.d9, by omega⟩
  have ht : True := trivial
  refine ⟨_, (pss_cons (ps_if ((pw_or (pt_not (pt_val (pcall d_l_is_column hr (pa_cons (pv 0) pa_nil)))) (pw_or (pt_cmpR op_lt (pe_ix (ixT K) (pv 0) pe_int (fun _ _ => rfl)) pe_int (nomark _)) (pw_or1 (pt_not (pt_chain op_le op_le pe_int (pe_ix (ixT K) (pv 0) pe_int (fun _ _ => rfl)) (pe_ix (ixT K) (pv 0) pe_int (fun _ _ => rfl)))))))).pt
    (pss_one (ps_ret pe_bl))
    pss_nil)
  (pss_one (ps_ret (pe_cmpR (eqD K hr) (pcall d_l_over hr (pa_cons (pe_ix (ixT K) (pv 0) pe_int (fun _ _ => rfl)) (pa_cons (pe_ix (ixT K) (pv 0) pe_int (fun _ _ => rfl)) pa_nil))) (pv 0) (nomark _))))), ?_⟩
  k_extra "lpn"
  refine iteF' (by rfl) ?_
  k_extra "lpn"
  refine iteF' (decide_eq_false (by omega)) ?_
  k_extra "lpn"
  have h0 := hp.n0
  have h1 := hp.n1
  refine iteT' (decide_eq_true h0) ?_
  k_extra "lpn"
  rw [decide_eq_true h1]
  refine iteF ?_
  k_extra "lpn"
  refine r_eqD (r := F2) (by decide) (by assumption) (by k_extra "rep") ?_
  k_extra "lpn"
  refine q _ _ (by k_extra "same") ?_
  show V.bl _ = V.bl true
  rw [red_self hp.f.ok, decide_eq_true rfl]
abbrev s_l_gap : Stmt := topS 63
theorem sc_l_gap : FnScope ["_law_leg", "_law_other", "_law_s", "_law_t", "_law_found", "_law_at", "_law_one", "_law_two"] ["_law_leg", "_law_other", "_law_s", "_law_t"] (defScope s_l_gap) := ⟨rfl, rfl, rfl, by decide +kernel, rfl, by decide +kernel, by decide +kernel⟩
theorem b_l_gap : BindsBy "_law_gap" s_l_gap ["_law_leg", "_law_other", "_law_s", "_law_t"] := fun _ _ _ _ _ _ us hl => match us, hl with | [_, _, _, _], _ => rfl
abbrev spGap (K : PySem.W.Frag) : Sp := Sp4 K P2 P2 F2 F2 RL2 PrePart parting
theorem d_l_gap (T : Txt K mg "_law_gap" s_l_gap) (d_l_added : Def P w K mg base "_law_added" 2 ["_law_x", "_law_y"] (spAdded K)) (d_l_lessened : Def P w K mg base "_law_lessened" 2 ["_law_x", "_law_y"] (spLessened K)) (d_l_multiplied : Def P w K mg base "_law_multiplied" 2 ["_law_x", "_law_y"] (spTimes K)) : Def P w K mg base "_law_gap" 3 ["_law_leg", "_law_other", "_law_s", "_law_t"] (spGap K) := by
  refine mkDef T sc_l_gap b_l_gap (len4 rfl) fun f cdv A outer s H vs Q E hr kk h => ?_
  obtain ⟨x, y, z, u, l, o, c, d, rfl, hx, hy, hz, hu, hp, q⟩ := h
  obtain ⟨m1, m2, m3, m4⟩ := place_mul hp.l hp.s
  obtain ⟨k1, k2, k3, k4⟩ := place_mul hp.o hp.t
  obtain ⟨p1, p2, p3, p4⟩ := place_ok hp.l hp.s
  obtain ⟨g1, g2, g3, g4⟩ := place_ok hp.o hp.t
  have f0 : Fit c := fitOf hp.s.ok hp.s.b (by omega) (by omega)
  have f0' : Fit d := fitOf hp.t.ok hp.t.b (by omega) (by omega)
  have f1 : Fits c (l.2.1 - l.1.1, 1) := ⟨f0, fitI (sub_lt hp.l.c hp.l.a) (by omega)⟩
  have f2 : Fits c (l.2.2 - l.1.2, 1) := ⟨f0, fitI (sub_lt hp.l.d hp.l.b) (by omega)⟩
  have f3 : Fits (l.1.1, 1) (mul c (l.2.1 - l.1.1, 1)) := ⟨fitI hp.l.a (by omega), fitOf m1 m3 (by omega) (by omega)⟩
  have f4 : Fits (l.1.2, 1) (mul c (l.2.2 - l.1.2, 1)) := ⟨fitI hp.l.b (by omega), fitOf m2 m4 (by omega) (by omega)⟩
  have h1 : Fits d (o.2.1 - o.1.1, 1) := ⟨f0', fitI (sub_lt hp.o.c hp.o.a) (by omega)⟩
  have h2 : Fits d (o.2.2 - o.1.2, 1) := ⟨f0', fitI (sub_lt hp.o.d hp.o.b) (by omega)⟩
  have h3 : Fits (o.1.1, 1) (mul d (o.2.1 - o.1.1, 1)) := ⟨fitI hp.o.a (by omega), fitOf k1 k3 (by omega) (by omega)⟩
  have h4 : Fits (o.1.2, 1) (mul d (o.2.2 - o.1.2, 1)) := ⟨fitI hp.o.b (by omega), fitOf k2 k4 (by omega) (by omega)⟩
  have w1 : Fits (add (o.1.1, 1) (mul d (o.2.1 - o.1.1, 1))) (add (l.1.1, 1) (mul c (l.2.1 - l.1.1, 1))) := ⟨fitOf g1 g3 (by omega) (by omega), fitOf p1 p3 (by omega) (by omega)⟩
  have w2 : Fits (add (o.1.2, 1) (mul d (o.2.2 - o.1.2, 1))) (add (l.1.2, 1) (mul c (l.2.2 - l.1.2, 1))) := ⟨fitOf g2 g4 (by omega) (by omega), fitOf p2 p4 (by omega) (by omega)⟩
  refine ⟨_, (pss_cons (ps_set (i := 4) sc_l_gap.nd rfl (.inl rfl) (pe_lst pa_nil))
  (pss_cons (ps_for PassesOwn.never rfl (piT K (pe_tup (pa_cons pe_int (pa_cons pe_int pa_nil)))) (pg_name (i := 5) sc_l_gap.nd rfl (.inl rfl))
    (pss_cons (ps_set (i := 6) sc_l_gap.nd rfl (.inl rfl) (pcall d_l_added hr (pa_cons (pe_tup (pa_cons (pe_ix (ixT K) (pe_ix (ixT K) (pv 0) pe_int (fun _ _ => rfl)) (pv 5) (fun _ _ => rfl)) (pa_cons pe_int pa_nil))) (pa_cons (pcall d_l_multiplied hr (pa_cons (pv 2) (pa_cons (pe_tup (pa_cons (pe_op op_sub (pe_ix (ixT K) (pe_ix (ixT K) (pv 0) pe_int (fun _ _ => rfl)) (pv 5) (fun _ _ => rfl)) (pe_ix (ixT K) (pe_ix (ixT K) (pv 0) pe_int (fun _ _ => rfl)) (pv 5) (fun _ _ => rfl))) (pa_cons pe_int pa_nil))) pa_nil))) pa_nil))))
  (pss_cons (ps_set (i := 7) sc_l_gap.nd rfl (.inl rfl) (pcall d_l_added hr (pa_cons (pe_tup (pa_cons (pe_ix (ixT K) (pe_ix (ixT K) (pv 1) pe_int (fun _ _ => rfl)) (pv 5) (fun _ _ => rfl)) (pa_cons pe_int pa_nil))) (pa_cons (pcall d_l_multiplied hr (pa_cons (pv 3) (pa_cons (pe_tup (pa_cons (pe_op op_sub (pe_ix (ixT K) (pe_ix (ixT K) (pv 1) pe_int (fun _ _ => rfl)) (pv 5) (fun _ _ => rfl)) (pe_ix (ixT K) (pe_ix (ixT K) (pv 1) pe_int (fun _ _ => rfl)) (pv 5) (fun _ _ => rfl))) (pa_cons pe_int pa_nil))) pa_nil))) pa_nil))))
  (pss_one (ps_expr (pe_bm PySem.F.plainAttrs_list PySem.F.slot_list_append PySem.F.type_list_append mt_append (pv 4) (pa_cons (pcall d_l_lessened hr (pa_cons (pv 7) (pa_cons (pv 6) pa_nil))) pa_nil)))))))
  (pss_one (ps_ret (pv 4))))), ?_⟩
  k_extra "lpn"
  refine ⟨Nat.zero_le _, fun D hD => ?_⟩
  have s0 : Same H (upd H D (.lst [])) := same_upd hD
  have h0 : (upd H D (.lst [])) D = some (.lst []) := upd_same
  generalize upd H D (.lst []) = H0 at s0 h0 ⊢
  k_extra "lpn"
  rename_i pv' H1 s1 r1
  obtain ⟨pt, a0, b0, rfl, r1, e0, e1⟩ := r1
  have e0 : a0 = .int 0 := e0
  have e1 : b0 = .int 1 := e1
  subst e0 e1
  refine ⟨pt, rfl, ⟨_, r1⟩, ?_⟩
  refine for_K (walk_tup (K := K) (xs := [.int 0, .int 1])) (fun i σ H' => ∃ us x5 x6 x7, σ = [some x, some y, some z, some u, some (.ref D), x5, x6, x7] ∧ Same H H' ∧ SqT K H' pt [.int 0, .int 1] ∧ H' D = some (.lst us) ∧ AllR F2 K H' us ([(parting l o c d).1, (parting l o c d).2].take i)) ⟨[], none, none, none, rfl, by k_extra "same", r1, s1 _ _ h0, AllR.nil⟩ (fun i σ H' _ ⟨_, _, _, _, _, _, h5, _⟩ => h5) ?_ ?_
  · rintro i v σ H2 H3 hi ⟨us, x5, x6, x7, rfl, s2, hpt, hd, a2⟩ ⟨rfl, hv⟩
    have hx2 : P2 K H3 x l := up s2 hx
    have hy2 : P2 K H3 y o := up s2 hy
    have hz2 : F2 K H3 z c := up s2 hz
    have hu2 : F2 K H3 u d := up s2 hu
    have hi : i < 2 := hi
    have lu : us.length ≤ 2 := by
      rw [a2.1, List.length_take]
      exact Nat.min_le_right _ _
    match i, hi, hv, a2 with
    | 0, _, hv, a2 =>
      have hv : V.int 0 = v := Option.some.inj hv
      subst hv
      k_extra "lpn"
      refine ⟨.inl ⟨rfl, us, .inl (.inl ((show Same H3 _ by k_extra "same") _ _ hd))⟩, ?_⟩
      k_extra "lpn"
      rename_i w H8 s8 r8
      have s38 : Same H3 H8 := by k_extra "same"
      have hd8 := s38 _ _ hd
      refine r_append hd8 (by omega) ?_
      k_extra "lpn"
      have ts8 : TSame H8 (upd H8 D (.lst (us ++ [w]))) := TSame.lst hd8
      exact ⟨us ++ [w], _, _, _, rfl, same_mut (s2.trans s38) hD, TSame.sqt ts8 (Same.sqt s38 hpt), upd_same, ((a2.up s38).tp ts8).snoc (Tp.tp ts8 r8)⟩
    | 1, _, hv, a2 =>
      have hv : V.int 1 = v := Option.some.inj hv
      subst hv
      k_extra "lpn"
      refine ⟨.inl ⟨rfl, us, .inl (.inl ((show Same H3 _ by k_extra "same") _ _ hd))⟩, ?_⟩
      k_extra "lpn"
      rename_i w H8 s8 r8
      have s38 : Same H3 H8 := by k_extra "same"
      have hd8 := s38 _ _ hd
      refine r_append hd8 (by omega) ?_
      k_extra "lpn"
      have ts8 : TSame H8 (upd H8 D (.lst (us ++ [w]))) := TSame.lst hd8
      exact ⟨us ++ [w], _, _, _, rfl, same_mut (s2.trans s38) hD, TSame.sqt ts8 (Same.sqt s38 hpt), upd_same, ((a2.up s38).tp ts8).snoc (Tp.tp ts8 r8)⟩
  · rintro σ H2 ⟨us, x5, x6, x7, rfl, s2, hpt, hd, a2⟩
    k_extra "lpn"
    exact q _ _ s2 ⟨D, us, rfl, hd, a2⟩
abbrev s_l_dot : Stmt := topS 64
theorem sc_l_dot : FnScope ["_law_one", "_law_other"] ["_law_one", "_law_other"] (defScope s_l_dot) := ⟨rfl, rfl, rfl, by decide +kernel, rfl, by decide +kernel, by decide +kernel⟩
theorem b_l_dot : BindsBy "_law_dot" s_l_dot ["_law_one", "_law_other"] := fun _ _ _ _ _ _ us hl => match us, hl with | [_, _], _ => rfl
abbrev spLDot (K : PySem.W.Frag) : Sp := Sp2 K RL2 RL2 F2 PreDot dot
theorem d_l_dot (T : Txt K mg "_law_dot" s_l_dot) (d_l_added : Def P w K mg base "_law_added" 2 ["_law_x", "_law_y"] (spAdded K)) (d_l_multiplied : Def P w K mg base "_law_multiplied" 2 ["_law_x", "_law_y"] (spTimes K)) : Def P w K mg base "_law_dot" 3 ["_law_one", "_law_other"] (spLDot K) := by
  refine mkDef T sc_l_dot b_l_dot (len2 rfl) fun f cdv A outer s H vs Q E hr kk h => ?_
  obtain ⟨x, y, a, b, rfl, hx, hy, hp, q⟩ := h
  refine ⟨_, (pss_one (ps_ret (pcall d_l_added hr (pa_cons (pcall d_l_multiplied hr (pa_cons (pe_ix (ixL K) (pv 0) pe_int (fun _ _ => rfl)) (pa_cons (pe_ix (ixL K) (pv 1) pe_int (fun _ _ => rfl)) pa_nil))) (pa_cons (pcall d_l_multiplied hr (pa_cons (pe_ix (ixL K) (pv 0) pe_int (fun _ _ => rfl)) (pa_cons (pe_ix (ixL K) (pv 1) pe_int (fun _ _ => rfl)) pa_nil))) pa_nil))))), ?_⟩
  have f1 : Fits a.1 b.1 := ⟨fitOf hp.u.x hp.u.bx (by omega) (by omega), fitOf hp.v.x hp.v.bx (by omega) (by omega)⟩
  have f2 : Fits a.2 b.2 := ⟨fitOf hp.u.y hp.u.by_ (by omega) (by omega), fitOf hp.v.y hp.v.by_ (by omega) (by omega)⟩
  have f3 : Fits (mul a.1 b.1) (mul a.2 b.2) := ⟨fitOf (ok_mul hp.u.x hp.v.x) (B_mul hp.u.x hp.v.x hp.u.bx hp.v.bx) (by omega) (by omega), fitOf (ok_mul hp.u.y hp.v.y) (B_mul hp.u.y hp.v.y hp.u.by_ hp.v.by_) (by omega) (by omega)⟩
  k_extra "lpn"
  refine r_l20 hx fun x1 r1 => ?_
  k_extra "lpn"
  refine r_l20 hy fun x2 r2 => ?_
  k_extra "lpn"
  rename_i v3 H3 s3 r3
  refine r_l21 (up s3 hx) fun x4 r4 => ?_
  k_extra "lpn"
  refine r_l21 (up s3 hy) fun x5 r5 => ?_
  k_extra "lpn"
  exact q _ _ (by k_extra "same") (by k_extra "rep")
abbrev s_l_gap_squared : Stmt := topS 65
theorem sc_l_gap_squared : FnScope ["_law_leg", "_law_other", "_law_s", "_law_t", "_law_gap_here"] ["_law_leg", "_law_other", "_law_s", "_law_t"] (defScope s_l_gap_squared) := ⟨rfl, rfl, rfl, by decide +kernel, rfl, by decide +kernel, by decide +kernel⟩
theorem b_l_gap_squared : BindsBy "_law_gap_squared" s_l_gap_squared ["_law_leg", "_law_other", "_law_s", "_law_t"] := fun _ _ _ _ _ _ us hl => match us, hl with | [_, _, _, _], _ => rfl
theorem d_l_gap_squared (T : Txt K mg "_law_gap_squared" s_l_gap_squared) (d_l_gap : Def P w K mg base "_law_gap" 3 ["_law_leg", "_law_other", "_law_s", "_law_t"] (spGap K)) (d_l_dot : Def P w K mg base "_law_dot" 3 ["_law_one", "_law_other"] (spLDot K)) : Def P w K mg base "_law_gap_squared" 4 ["_law_leg", "_law_other", "_law_s", "_law_t"] (spSquared K) := by
  refine mkDef T sc_l_gap_squared b_l_gap_squared (len4 rfl) fun f cdv A outer s H vs Q E hr kk h => ?_
  obtain ⟨x, y, z, u, a, b, c, d, rfl, hx, hy, hz, hu, hp, q⟩ := h
  refine ⟨_, (pss_cons (ps_set (i := 4) sc_l_gap_squared.nd rfl (.inl rfl) (pcall d_l_gap hr (pa_cons (pv 0) (pa_cons (pv 1) (pa_cons (pv 2) (pa_cons (pv 3) pa_nil))))))
  (pss_one (ps_ret (pcall d_l_dot hr (pa_cons (pv 4) (pa_cons (pv 4) pa_nil)))))), ?_⟩
  have f1 : PreDot (parting a b c d) (parting a b c d) := ⟨parting_fit hp.l hp.o hp.s hp.t (by omega), parting_fit hp.l hp.o hp.s hp.t (by omega)⟩
  k_extra "lp"
  exact q _ _ (by k_extra "same") (by k_extra "rep")
end
end Lp
set_option Elab.async false
set_option linter.all false
set_option maxRecDepth 100000
set_option maxHeartbeats 4000000

namespace Lp
open PySem PySem.Spec PyProof.Rows L2
local macro_rules | `(tactic| k_extra "rep") => `(tactic| first
  | assumption
  | exact rfl
  | exact BI.mk _ _ _
  | (refine up (by assumption) ?_; k_extra "rep"))
local macro_rules | `(tactic| k_extra "same") => `(tactic| first
  | assumption
  | exact Same.refl _
  | (refine Same.trans ?_ (by assumption); k_extra "same"))
local macro_rules | `(tactic| k_extra "sz") => `(tactic| with_reducible first
  | assumption
  | exact mul_lt (by k_extra "sz") (by k_extra "sz")
  | exact add_sz (by k_extra "sz") (by k_extra "sz")
  | exact sub_sz (by k_extra "sz") (by k_extra "sz")
  | (refine lit_sz ?_; decide))
local macro_rules | `(tactic| k_extra "st") => `(tactic| (simp only [L2.start, List.set_cons_succ, List.set_cons_zero, List.map_cons, List.map_nil, List.cons_append, List.nil_append, List.length_cons, List.length_nil, List.replicate, L2.wipe]; exact rfl))
local macro_rules | `(tactic| k_extra "lp1") => `(tactic| with_reducible first
  | refine r_seq ?_ | refine r_asg ?_ | refine r_ret ?_ | refine r_drop ?_ | refine r_if ?_ | refine r_var rfl ?_ | refine r_c ?_ | refine r_op ?_ | refine r_un ?_ | refine r_rI0 ?_ | refine r_rU ?_
  | refine r_cons ?_ | refine r_nil ?_ | refine r_call ?_ | refine r_cb ?_ | refine r_tup ?_ | refine r_lst ?_ | refine r_test ?_ | refine r_tB ?_ | refine r_bl ?_ | refine r_ifE ?_ | refine r_gcons ?_ | refine r_gnil ?_
  | refine r_gcd ?_ | refine r_next ?_ | refine r_slice ?_ | refine r_nopart ?_ | refine r_part ?_ | refine r_partI ?_ | refine r_bm ?_ | refine r_chain ?_ | refine r_eqI ?_ | refine r_neI ?_ | refine r_zip ?_ | refine r_itT ?_ | refine r_itL ?_ | refine r_for ?_ | refine r_lc ?_ | refine r_intI ?_ | refine r_intB ?_ | refine r_abs ?_ | refine r_max ?_ | refine r_none ?_ | refine r_and ?_ | refine r_or ?_ | refine r_not ?_ | refine r_andT ?_ | refine r_orT ?_ | refine r_notT ?_ | refine r_par ?_ | refine r_two rfl ?_ | refine r_gname rfl ?_)
local macro_rules | `(tactic| k_extra "lpn1") => `(tactic| with_reducible first
  | refine r_seq ?_ | refine r_asg ?_ | refine r_var rfl ?_ | refine r_op ?_ | refine r_cons ?_ | refine r_gcons ?_ | refine r_gnil ?_ | refine r_two (by k_extra "st") ?_ | refine r_gname (by k_extra "st") ?_)
local macro_rules | `(tactic| k_extra "lp2") => `(tactic| first
  | with_reducible refine r_mul (by assumption) (by assumption) ?_
  | with_reducible refine r_fx0 (by k_extra "rep") ?_
  | with_reducible refine r_fx1 (by k_extra "rep") ?_)
local macro_rules | `(tactic| k_extra "lp3") => `(tactic| first
  | with_reducible refine r_gfrac (by k_extra "rep") ?_
  | (with_reducible refine r_gpair (ra := F2) (rb := F2) (by k_extra "rep") ?_; intro _ _ _ _)
  | (with_reducible refine r_gpair (ra := P2) (rb := P2) (by k_extra "rep") ?_; intro _ _ _ _)
  | (with_reducible refine r_ix0 (ra := F2) (rb := F2) (by k_extra "rep") ?_; intro _ _)
  | (with_reducible refine r_ix1 (ra := F2) (rb := F2) (by k_extra "rep") ?_; intro _ _)
  | (with_reducible refine new_frac (by assumption) ?_; intro _ _ _ _)
  | (with_reducible refine new_pair (ra := F2) (rb := F2) (by k_extra "rep") (by k_extra "rep") ?_; intro _ _ _ _)
  | (with_reducible refine new_pair (ra := P2) (rb := P2) (by k_extra "rep") (by k_extra "rep") ?_; intro _ _ _ _)
  | (with_reducible refine new_tri (ra := F2) (rb := F2) (rc := F2) (by k_extra "rep") (by k_extra "rep") (by k_extra "rep") ?_; intro _ _ _ _)
  | (with_reducible refine sp1I (by k_extra "rep") (by assumption) ?_; intro _ _)
  | (with_reducible refine sp2I (by k_extra "rep") (by k_extra "rep") (by assumption) ?_; intro _ _)
  | (with_reducible refine sp1B (by k_extra "rep") (by assumption) ?_; intro _ _)
  | (with_reducible refine sp2B (by k_extra "rep") (by k_extra "rep") (by assumption) ?_; intro _ _)
  | (with_reducible refine sp3B (by k_extra "rep") (by k_extra "rep") (by k_extra "rep") (by assumption) ?_; intro _ _)
  | (with_reducible refine sp4B (by k_extra "rep") (by k_extra "rep") (by k_extra "rep") (by k_extra "rep") (by assumption) ?_; intro _ _)
  | (with_reducible refine sp1 (by k_extra "rep") (by assumption) ?_; intro _ _ _ _)
  | (with_reducible refine sp2 (by k_extra "rep") (by k_extra "rep") (by assumption) ?_; intro _ _ _ _)
  | (with_reducible refine sp4 (by k_extra "rep") (by k_extra "rep") (by k_extra "rep") (by k_extra "rep") (by assumption) ?_; intro _ _ _ _)
  | (with_reducible refine sp3 (by k_extra "rep") (by k_extra "rep") (by k_extra "rep") (by assumption) ?_; intro _ _ _ _))
local macro_rules | `(tactic| k_extra "lp4") => `(tactic| first
  | with_reducible refine r_gtup (by assumption) rfl ?_
  | (with_reducible refine new_any (by assumption) (Nat.le_of_ble_eq_true rfl) ?_; intro _ _ _ _))
local macro_rules | `(tactic| k_extra "lpn") => `(tactic| repeat (first | k_extra "lpn1" | k_extra "lp1" | k_extra "lp2" | k_extra "lp3" | k_extra "lp4"))
local macro_rules | `(tactic| k_extra "lp") => `(tactic| repeat (first | k_extra "lp1" | k_extra "lp2" | k_extra "lp3" | k_extra "lp4"))
section
variable {P : Program} {w : World} {K : PySem.W.Frag} {mg : Str → Option Value} {base : Heap}

theorem r_rng1 {ta : TA} {σ : L2.St} {H : Hp} {R : It → Hp → Prop} (h : ta σ H fun vs H1 => ∃ j : Int, vs = [.int j] ∧ -(2 ^ 62) ≤ j ∧ j < 2 ^ 62 ∧ R (Itr 0 j.toNat) H1) : iRng1 ta σ H R := h
local macro_rules | `(tactic| k_extra "lp5") => `(tactic| first
  | with_reducible refine r_par3 ?_
  | with_reducible refine r_three rfl ?_
  | ((with_reducible refine r_mul ?h1 ?h2 ?_); (case h1 => exact lt_p2 (by k_extra "sz") (by omega)); (case h2 => exact lt_p2 (by k_extra "sz") (by omega)))
  | with_reducible refine r_ixB (by k_extra "rep") (by with_unfolding_all exact rfl) ?_)
local macro_rules | `(tactic| k_extra "lpn") => `(tactic| repeat (first | k_extra "lpn1" | k_extra "lp1" | k_extra "lp2" | k_extra "lp3" | k_extra "lp4" | k_extra "lp5"))
local macro_rules | `(tactic| k_extra "lp") => `(tactic| repeat (first | k_extra "lp1" | k_extra "lp2" | k_extra "lp3" | k_extra "lp4" | k_extra "lp5"))
local macro_rules | `(tactic| k_extra "lp5") => `(tactic| first
  | with_reducible refine r_par3 ?_
  | with_reducible refine r_three rfl ?_
  | with_reducible refine r_gsub ?_ | with_reducible refine r_augS ?_ | with_reducible refine r_ipI ?_
  | with_reducible refine r_bag (by assumption) (by with_unfolding_all exact rfl) ?_
  | (with_reducible refine r_modI (by first | assumption | decide) ?_)
  | ((with_reducible refine r_mul ?h1 ?h2 ?_); (case h1 => exact lt_p2 (by k_extra "sz") (by omega)); (case h2 => exact lt_p2 (by k_extra "sz") (by omega)))
  | with_reducible refine r_ixB (by k_extra "rep") (by with_unfolding_all exact rfl) ?_)
/-! the law's search -/
abbrev s_l_first_enough : Stmt := topS 60
theorem sc_l_first_enough : FnScope ["_law_bounds_here", "_law_most", "_law_turn", "_law_low", "_law_high", "_law_middle"] ["_law_bounds_here", "_law_most"] (defScope s_l_first_enough) := ⟨rfl, rfl, rfl, by decide +kernel, rfl, by decide +kernel, by decide +kernel⟩
theorem b_l_first_enough : BindsBy "_law_first_enough" s_l_first_enough ["_law_bounds_here", "_law_most"] := fun _ _ _ _ _ _ us hl => match us, hl with | [_, _], _ => rfl
def spFirst (K : PySem.W.Frag) : Sp := fun vs H Q _ => ∃ v b N, vs = [v, .int N] ∧ RBd K H v b ∧ BdOk b ∧ Rises (lawEnough b) N ∧ begOf b ≤ N ∧ ∀ r H', Same H H' → IsLeast (lawEnough b) (begOf b) r → Q (.int r) H'
theorem first_len {ps : List Str} (h : ps.length = 2) : ∀ vs H Q E, spFirst K vs H Q E → vs.length = ps.length := fun vs H Q E ⟨_, _, _, e, _⟩ => by rw [e, h]; rfl
theorem half_lt {n : Nat} {low high : Int} (h : high - low < 2 ^ (n + 1)) (hl : low < high) : (low + high) / 2 - low < 2 ^ n ∧ high - ((low + high) / 2 + 1) < 2 ^ n := by
  rw [Int.pow_succ] at h
  omega
theorem d_l_first_enough (T : Txt K mg "_law_first_enough" s_l_first_enough) (n : Nm K mg) (d_l_lag : Def P w K mg base "_law_lag" 1 ["_law_bounds_here"] (spLag K)) (d_l_is_enough : Def P w K mg base "_law_is_enough" 2 ["_law_bounds_here", "_law_ticks_here"] (spLEnough K)) : Def P w K mg base "_law_first_enough" 3 ["_law_bounds_here", "_law_most"] (spFirst K) := by
  refine mkDef T sc_l_first_enough b_l_first_enough (first_len rfl) fun f cdv A outer s H vs Q E hr kk h => ?_
  obtain ⟨v, b, N, rfl, hx, hb, hu, hN, q⟩ := h
  have hNle := hu.le
  have b1 := begOf_pos b
  have e80 : (2 : Nat) ^ 80 = 1208925819614629174706176 := by decide
  have f1 : PreRho b N := ⟨hb, by omega, by omega⟩
  refine ⟨_, (pss_cons (ps_par (i := 3) (j := 4) (by rfl) sc_l_first_enough.nd rfl rfl (by decide) rfl rfl (pa_cons (pe_callB (max2 rfl) (by rfl) n.max (by decide +kernel) (pa_cons pe_int (pa_cons (pcall d_l_lag hr (pa_cons (pv 0) pa_nil)) pa_nil))) (pa_cons (pv 1) pa_nil)) (by rfl))
  (pss_cons (ps_if ((pw_or (pt_cmpR op_gt (pv 3) (pv 4) (nomark _)) (pw_or1 (pt_not (pt_val (pcall d_l_is_enough hr (pa_cons (pv 0) (pa_cons (pv 4) pa_nil)))))))).pt
    (pss_one (ps_ret pe_non))
    pss_nil)
  (pss_cons (ps_for PassesOwn.never rfl (pi_range1 rfl n.range (pa_cons pe_int pa_nil)) (pg_name (i := 2) sc_l_first_enough.nd rfl (.inl rfl))
    (pss_cons (ps_set (i := 5) sc_l_first_enough.nd rfl (.inl rfl) (pe_op op_fdiv (pe_op op_add (pv 3) (pv 4)) pe_int))
  (pss_one (ps_if ((pw_and (pt_cmpR op_lt (pv 3) (pv 4) (nomark _)) (pw_and1 (pt_val (pcall d_l_is_enough hr (pa_cons (pv 0) (pa_cons (pv 5) pa_nil))))))).pt
    (pss_one (ps_set (i := 4) sc_l_first_enough.nd rfl (.inl rfl) (pv 5)))
    (pss_one (ps_if (pt_cmpR op_lt (pv 3) (pv 4) (nomark _))
    (pss_one (ps_set (i := 3) sc_l_first_enough.nd rfl (.inl rfl) (pe_op op_add (pv 5) pe_int)))
    pss_nil))))))
  (pss_one (ps_ret (pv 3)))))), ?_⟩
  k_extra "lpn"
  rename_i H1 s1
  have hx1 := up s1 hx
  have eb : (if lagOf b > 1 then lagOf b else 1) = begOf b := rfl
  rw [eb]
  refine iteF' (decide_eq_false (by omega)) ?_
  k_extra "lpn"
  rename_i H2 s2
  rw [hu.top]
  refine iteF ?_
  k_extra "lpn"
  refine r_rng1 ?_
  k_extra "lpn"
  refine ⟨64, rfl, by decide, by decide, ?_⟩
  refine for_K (walk_range (lo := 0) (n := 64)) (fun i σ H' => ∃ low high : Int, ∃ x2 x5, σ = [some v, some (.int N), x2, some (.int low), some (.int high), x5] ∧ Same H H' ∧ begOf b ≤ low ∧ low ≤ high ∧ high ≤ N ∧ lawEnough b high = true ∧ (∀ x, begOf b ≤ x → x < low → lawEnough b x = false) ∧ high - low < 2 ^ (64 - i))
    ⟨begOf b, N, none, none, rfl, by k_extra "same", by omega, hN, by omega, hu.top, fun x h1 h2 => by omega, by
      have e64 : (2 : Int) ^ 64 = 18446744073709551616 := by decide
      show N - begOf b < 2 ^ 64
      omega⟩ (fun i σ H' _ _ => trivial) ?_ ?_
  · rintro i x σ H3 H4 hi ⟨low, high, x2, x5, rfl, s3, l1, l2, l3, l4, l5, l6⟩ ⟨rfl, hx4⟩
    have hi : i < 64 := hi
    have ei : 64 - i = (64 - (i + 1)) + 1 := by omega
    rw [ei] at l6
    k_extra "lpn"
    refine r_fdiv (by decide) ?_
    k_extra "lpn"
    refine ite2 (fun e => ?_) (fun e => ?_)
    · have e : low < high := of_decide_eq_true e
      obtain ⟨g1, g2⟩ := half_lt l6 e
      have m1 : low ≤ (low + high) / 2 := by omega
      have m2 : (low + high) / 2 < high := by omega
      generalize hmm : (low + high) / 2 = mm at g1 g2 m1 m2 ⊢
      have f2 : PreRho b mm := ⟨hb, by omega, by omega⟩
      have hx3 : RBd K H4 v b := up s3 hx
      k_extra "lpn"
      rename_i H5 s5
      refine ite2 (fun e2 => ?_) (fun e2 => ?_)
      · k_extra "lpn"
        exact ⟨low, mm, _, _, rfl, by k_extra "same", l1, m1, by omega, e2, l5, g1⟩
      · k_extra "lpn"
        refine iteT' (decide_eq_true e) ?_
        k_extra "lpn"
        refine ⟨mm + 1, high, _, _, rfl, by k_extra "same", by omega, by omega, l3, l4, fun x h1 h2 => ?_, g2⟩
        cases ex : lawEnough b x with
        | false => rfl
        | true => exact absurd (hu.mono x mm (by omega) (by omega) ex) e2
    · have e : ¬ low < high := fun z => e (decide_eq_true z)
      refine iteF ?_
      k_extra "lpn"
      refine iteF' (decide_eq_false e) ?_
      k_extra "lpn"
      refine ⟨low, high, _, _, rfl, s3, l1, l2, l3, l4, l5, ?_⟩
      have : (0 : Int) < 2 ^ (64 - (i + 1)) := Int.pow_pos (by decide)
      omega
  · rintro σ H3 ⟨low, high, x2, x5, rfl, s3, l1, l2, l3, l4, l5, l6⟩
    have l6 : high - low < 1 := l6
    have : low = high := by omega
    subst this
    k_extra "lpn"
    exact q _ _ s3 ⟨l1, l4, l5⟩
structure PreLL (b : Bd) : Prop where
  ok : BdOk b
  top : gapNo b = false → Rises (lawEnough b) 1000000000000 ∧ begOf b ≤ 1000000000000
abbrev s_l_least_ticks : Stmt := topS 68
theorem sc_l_least_ticks : FnScope ["_law_bounds_here", "_law_twice", "_law_spacing", "_law_reach_here"] ["_law_bounds_here"] (defScope s_l_least_ticks) := ⟨rfl, rfl, rfl, by decide +kernel, rfl, by decide +kernel, by decide +kernel⟩
theorem b_l_least_ticks : BindsBy "_law_least_ticks" s_l_least_ticks ["_law_bounds_here"] := fun _ _ _ _ _ _ us hl => match us, hl with | [_], _ => rfl
def spLLeast (K : PySem.W.Frag) : Sp := fun vs H Q _ => ∃ v b, vs = [v] ∧ RBd K H v b ∧ PreLL b ∧ ∀ H', Same H H' → (gapNo b = true → Q .non H') ∧ (gapNo b = false → ∀ r, IsLeast (lawEnough b) (begOf b) r → Q (.int r) H')
theorem lleast_len {ps : List Str} (h : ps.length = 1) : ∀ vs H Q E, spLLeast K vs H Q E → vs.length = ps.length := fun vs H Q E ⟨_, _, e, _⟩ => by rw [e, h]; rfl
theorem d_l_least_ticks (T : Txt K mg "_law_least_ticks" s_l_least_ticks) (d_l_reach : Def P w K mg base "_law_reach" 1 ["_law_bounds_here"] (spR K)) (d_l_lag : Def P w K mg base "_law_lag" 1 ["_law_bounds_here"] (spLag K)) (d_l_first_enough : Def P w K mg base "_law_first_enough" 3 ["_law_bounds_here", "_law_most"] (spFirst K)) : Def P w K mg base "_law_least_ticks" 4 ["_law_bounds_here"] (spLLeast K) := by
  refine mkDef T sc_l_least_ticks b_l_least_ticks (lleast_len rfl) fun f cdv A outer s H vs Q E hr kk h => ?_
  obtain ⟨v, b, rfl, hv, hp, q⟩ := h
  have hb := hp.ok
  have z1 := hb.S
  have z3 := rOf_sz hb
  refine ⟨_, (pss_cons (ps_par (i := 2) (j := 3) (by rfl) sc_l_least_ticks.nd rfl rfl (by decide) rfl rfl (pa_cons (pe_ix (ixT K) (pv 0) pe_int (fun _ _ => rfl)) (pa_cons (pcall d_l_reach hr (pa_cons (pv 0) pa_nil)) pa_nil)) (by rfl))
  (pss_cons (ps_set (i := 1) sc_l_least_ticks.nd rfl (.inl rfl) (pe_op op_sub (pe_op op_mulW (pv 2) (pv 2)) (pe_op op_mulW (pe_op op_mulW pe_int (pv 3)) (pv 3))))
  (pss_cons (ps_if ((pw_or (pt_cmpR op_lt (pv 1) pe_int (nomark _)) (pw_or1 ((pw_and (pt_cmpR op_eq (pv 1) pe_int (nomark _)) (pw_and1 (pt_cmpR op_gt (pcall d_l_lag hr (pa_cons (pv 0) pa_nil)) pe_int (nomark _))))).pt))).pt
    (pss_one (ps_ret pe_non))
    pss_nil)
  (pss_one (ps_ret (pcall d_l_first_enough hr (pa_cons (pv 0) (pa_cons (pe_op op_pow pe_int pe_int) pa_nil)))))))), ?_⟩
  k_extra "lpn"
  have ge : decide (b.S * b.S - 2 * rOf b * rOf b < 0) = decide (gapOf b < 0) := rfl
  have ge2 : decide (b.S * b.S - 2 * rOf b * rOf b = 0) = decide (gapOf b = 0) := rfl
  rw [ge]
  cases e : decide (gapOf b < 0) with
  | true =>
    refine iteT ?_
    refine iteT ?_
    k_extra "lpn"
    refine (q _ (by k_extra "same")).1 ?_
    unfold gapNo
    rw [e, Bool.true_or]
  | false =>
    refine iteF ?_
    k_extra "lpn"
    rw [ge2]
    cases e1 : decide (gapOf b = 0) with
    | true =>
      refine iteT ?_
      k_extra "lpn"
      refine ite2 (fun e2 => ?_) (fun e2 => ?_)
      · k_extra "lpn"
        refine (q _ (by k_extra "same")).1 ?_
        unfold gapNo
        rw [e, e1, e2]
        rfl
      · have e2 : decide (0 < lagOf b) = false := by simpa using e2
        have hg : gapNo b = false := by
          unfold gapNo
          rw [e, e1, e2]
          rfl
        obtain ⟨t1, t2⟩ := hp.top hg
        k_extra "lpn"
        refine r_powI ⟨by decide, by decide, by decide⟩ ?_
        k_extra "lpn"
        refine ⟨v, b, _, rfl, up (by k_extra "same") hv, hb, t1, t2, fun r H' s' hl => ?_⟩
        exact (q _ (by k_extra "same")).2 hg r hl
    | false =>
      have hg : gapNo b = false := by
        unfold gapNo
        rw [e, e1]
        rfl
      obtain ⟨t1, t2⟩ := hp.top hg
      refine iteF ?_
      refine iteF ?_
      k_extra "lpn"
      refine r_powI ⟨by decide, by decide, by decide⟩ ?_
      k_extra "lpn"
      refine ⟨v, b, _, rfl, up (by k_extra "same") hv, hb, t1, t2, fun r H' s' hl => ?_⟩
      exact (q _ (by k_extra "same")).2 hg r hl
end
end Lp
set_option Elab.async false
set_option linter.all false
set_option maxRecDepth 100000
set_option maxHeartbeats 4000000

namespace Lp
open PySem PySem.Spec PyProof.Rows L2
local macro_rules | `(tactic| k_extra "rep") => `(tactic| first
  | assumption
  | exact rfl
  | exact BI.mk _ _ _
  | (refine up (by assumption) ?_; k_extra "rep"))
local macro_rules | `(tactic| k_extra "same") => `(tactic| first
  | assumption
  | exact Same.refl _
  | (refine Same.trans ?_ (by assumption); k_extra "same"))
local macro_rules | `(tactic| k_extra "sz") => `(tactic| with_reducible first
  | assumption
  | exact mul_lt (by k_extra "sz") (by k_extra "sz")
  | exact add_sz (by k_extra "sz") (by k_extra "sz")
  | exact sub_sz (by k_extra "sz") (by k_extra "sz")
  | (refine lit_sz ?_; decide))
local macro_rules | `(tactic| k_extra "st") => `(tactic| (simp only [L2.start, List.set_cons_succ, List.set_cons_zero, List.map_cons, List.map_nil, List.cons_append, List.nil_append, List.length_cons, List.length_nil, List.replicate, L2.wipe]; exact rfl))
local macro_rules | `(tactic| k_extra "lp1") => `(tactic| with_reducible first
  | refine r_seq ?_ | refine r_asg ?_ | refine r_ret ?_ | refine r_drop ?_ | refine r_if ?_ | refine r_var rfl ?_ | refine r_c ?_ | refine r_op ?_ | refine r_un ?_ | refine r_rI0 ?_ | refine r_rU ?_
  | refine r_cons ?_ | refine r_nil ?_ | refine r_call ?_ | refine r_cb ?_ | refine r_tup ?_ | refine r_lst ?_ | refine r_test ?_ | refine r_tB ?_ | refine r_bl ?_ | refine r_ifE ?_ | refine r_gcons ?_ | refine r_gnil ?_
  | refine r_gcd ?_ | refine r_next ?_ | refine r_slice ?_ | refine r_nopart ?_ | refine r_part ?_ | refine r_partI ?_ | refine r_bm ?_ | refine r_chain ?_ | refine r_eqI ?_ | refine r_neI ?_ | refine r_zip ?_ | refine r_itT ?_ | refine r_itL ?_ | refine r_for ?_ | refine r_lc ?_ | refine r_intI ?_ | refine r_intB ?_ | refine r_abs ?_ | refine r_max ?_ | refine r_none ?_ | refine r_and ?_ | refine r_or ?_ | refine r_not ?_ | refine r_andT ?_ | refine r_orT ?_ | refine r_notT ?_ | refine r_par ?_ | refine r_two rfl ?_ | refine r_gname rfl ?_)
local macro_rules | `(tactic| k_extra "lpn1") => `(tactic| with_reducible first
  | refine r_seq ?_ | refine r_asg ?_ | refine r_var rfl ?_ | refine r_op ?_ | refine r_cons ?_ | refine r_gcons ?_ | refine r_gnil ?_ | refine r_two (by k_extra "st") ?_ | refine r_gname (by k_extra "st") ?_)
local macro_rules | `(tactic| k_extra "lp2") => `(tactic| first
  | with_reducible refine r_mul (by assumption) (by assumption) ?_
  | with_reducible refine r_fx0 (by k_extra "rep") ?_
  | with_reducible refine r_fx1 (by k_extra "rep") ?_)
local macro_rules | `(tactic| k_extra "lp3") => `(tactic| first
  | with_reducible refine r_gfrac (by k_extra "rep") ?_
  | (with_reducible refine r_gpair (ra := F2) (rb := F2) (by k_extra "rep") ?_; intro _ _ _ _)
  | (with_reducible refine r_gpair (ra := P2) (rb := P2) (by k_extra "rep") ?_; intro _ _ _ _)
  | (with_reducible refine r_ix0 (ra := F2) (rb := F2) (by k_extra "rep") ?_; intro _ _)
  | (with_reducible refine r_ix1 (ra := F2) (rb := F2) (by k_extra "rep") ?_; intro _ _)
  | (with_reducible refine new_frac (by assumption) ?_; intro _ _ _ _)
  | (with_reducible refine new_pair (ra := F2) (rb := F2) (by k_extra "rep") (by k_extra "rep") ?_; intro _ _ _ _)
  | (with_reducible refine new_pair (ra := P2) (rb := P2) (by k_extra "rep") (by k_extra "rep") ?_; intro _ _ _ _)
  | (with_reducible refine new_tri (ra := F2) (rb := F2) (rc := F2) (by k_extra "rep") (by k_extra "rep") (by k_extra "rep") ?_; intro _ _ _ _)
  | (with_reducible refine sp1I (by k_extra "rep") (by assumption) ?_; intro _ _)
  | (with_reducible refine sp2I (by k_extra "rep") (by k_extra "rep") (by assumption) ?_; intro _ _)
  | (with_reducible refine sp1B (by k_extra "rep") (by assumption) ?_; intro _ _)
  | (with_reducible refine sp2B (by k_extra "rep") (by k_extra "rep") (by assumption) ?_; intro _ _)
  | (with_reducible refine sp3B (by k_extra "rep") (by k_extra "rep") (by k_extra "rep") (by assumption) ?_; intro _ _)
  | (with_reducible refine sp4B (by k_extra "rep") (by k_extra "rep") (by k_extra "rep") (by k_extra "rep") (by assumption) ?_; intro _ _)
  | (with_reducible refine sp1 (by k_extra "rep") (by assumption) ?_; intro _ _ _ _)
  | (with_reducible refine sp2 (by k_extra "rep") (by k_extra "rep") (by assumption) ?_; intro _ _ _ _)
  | (with_reducible refine sp4 (by k_extra "rep") (by k_extra "rep") (by k_extra "rep") (by k_extra "rep") (by assumption) ?_; intro _ _ _ _)
  | (with_reducible refine sp3 (by k_extra "rep") (by k_extra "rep") (by k_extra "rep") (by assumption) ?_; intro _ _ _ _))
local macro_rules | `(tactic| k_extra "lp4") => `(tactic| first
  | with_reducible refine r_gtup (by assumption) rfl ?_
  | (with_reducible refine new_any (by assumption) (Nat.le_of_ble_eq_true rfl) ?_; intro _ _ _ _))
local macro_rules | `(tactic| k_extra "lpn") => `(tactic| repeat (first | k_extra "lpn1" | k_extra "lp1" | k_extra "lp2" | k_extra "lp3" | k_extra "lp4"))
local macro_rules | `(tactic| k_extra "lp") => `(tactic| repeat (first | k_extra "lp1" | k_extra "lp2" | k_extra "lp3" | k_extra "lp4"))
section
variable {P : Program} {w : World} {K : PySem.W.Frag} {mg : Str → Option Value} {base : Heap}

theorem pgL {es : List Expr} (K : PySem.W.Frag) {X : Cx} {k : Nat} {pos : Pos} {t : TGs} {n : Nat} (hc : X.calm = true) (g : PGs X es t) (h : X.K = K := by rfl) (hn : (assignEach es X.env).length = n := by rfl) (hst : (assignEach es X.env).findIdx? (·.1) = none := by rfl) : PG X (.Tuple es k pos) (gLst K n t) := by
  subst h
  exact pg_lst hc g hn hst
theorem r_glst {K : PySem.W.Frag} {σ : L2.St} {H : Hp} {n : Nat} {t : TGs} {a : Addr} {xs : List V} {Q : L2.St → Hp → Prop} (h : SqL K H a xs) (hn : xs.length = n) (q : t xs σ H Q) : gLst K n t (.ref a) σ H Q := ⟨a, xs, rfl, h, hn, q⟩
/-! what the couple found shows, in plain numbers -/
structure Shown (b : Bd) (T m : Int) : Prop where
  dr : DrawnT b T
  ev : Even m
  lt : cmp (near2 b T m).1 (m * m * rOf b * rOf b, 1) < 0
theorem part_l {s : Fq} (p : Part s) (z : Pt s 600) : PrePartL s := by
  refine ⟨fitOf z.ok z.b (by omega) (by omega), ?_, ?_⟩
  · by_cases c : 0 ≤ s.1
    · exact c
    · exfalso
      have h1 := (num_le p.ok).mp (by omega)
      have h2 := p.lo
      have h3 : val s = 0 := by grind
      have := (val_zero p.ok).mp h3
      omega
  · by_cases c : s.1 ≤ s.2
    · exact c
    · exfalso
      have h1 := (num_ge p.ok).mp (by omega)
      have h2 := p.hi
      have h3 : val s = val (1, 1) := by
        rw [val_one']
        grind
      have := p.ok.ext (ok_int 1) h3
      rw [this] at c
      exact c (Int.le_refl _)
section
variable {b : Bd} {T m : Int} (h : Shown b T m)
include h
theorem shown_cand : ∃ c, Cand (rhoOf b T) c ∧ near2 b T m = (sqAt (legA (halfOf b m) (backOf b m)) (legB (halfOf b m) (backOf b m)) c.1 c.2, c.1, c.2) := by
  obtain ⟨la, lb⟩ := legs_ok h.dr.dr h.ev
  obtain ⟨_, ⟨c, _, kc, e⟩, _⟩ := nearest_spec la lb (rho_ok h.dr)
  exact ⟨c, kc, e⟩
theorem shown_sq : (near2 b T m).1 = sqAt (legA (halfOf b m) (backOf b m)) (legB (halfOf b m) (backOf b m)) (near2 b T m).2.1 (near2 b T m).2.2 := by
  obtain ⟨c, _, e⟩ := shown_cand h
  rw [e]
theorem shown_kc : Cand (rhoOf b T) ((near2 b T m).2.1, (near2 b T m).2.2) := by
  obtain ⟨c, kc, e⟩ := shown_cand h
  rw [e]
  exact kc
theorem shown_fits : Fits (near2 b T m).2.1 (near2 b T m).2.2 := by
  have k := shown_kc h
  exact ⟨fitOf k.s.ok k.s.b (by omega) (by omega), fitOf k.t.ok k.t.b (by omega) (by omega)⟩
theorem shown_apart : FitsC (rhoOf b T) (apartL (near2 b T m).2.1 (near2 b T m).2.2) := by
  have k := shown_kc h
  have r := rho_ok h.dr
  exact ⟨(fitOf r.part.ok r.b (by omega) (by omega)).c, (fitOf (absF_ok (ok_sub k.s.ok k.t.ok)) (absF_B (B_sub (p := 1200) k.s.ok k.t.ok k.s.b k.t.b (by omega) (by omega))) (by omega) (by omega)).c⟩
theorem shown_below : below (rhoOf b T) (apartL (near2 b T m).2.1 (near2 b T m).2.2) = false := by
  have k := shown_kc h
  have r := rho_ok h.dr
  unfold below
  refine decide_eq_false fun z => ?_
  have z := (lt_iff r.part.ok (absF_ok (ok_sub k.s.ok k.t.ok))).mp z
  have e := val_sub k.s.ok k.t.ok
  obtain ⟨_, _, v⟩ := absF_val (ok_sub k.s.ok k.t.ok)
  have h1 := k.pair.st
  have h2 := k.pair.ts
  dsimp only at h1 h2 e v
  grind
theorem shown_cross : doCross (legA (halfOf b m) (backOf b m)) (legB (halfOf b m) (backOf b m)) = false := by
  unfold doCross legA legB
  refine decide_eq_false ?_
  dsimp only
  have e : (2 * halfOf b m - 0) * (halfOf b m - backOf b m - (halfOf b m - backOf b m)) + (0 - 0) * (halfOf b m - backOf b m - (-halfOf b m - backOf b m)) = 0 := by grind
  rw [e]
  decide
theorem shown_wide : sqd (legA (halfOf b m) (backOf b m)).1 (legB (halfOf b m) (backOf b m)).1 = m * m * b.S * b.S ∧ sqd (legA (halfOf b m) (backOf b m)).2 (legB (halfOf b m) (backOf b m)).2 = m * m * b.S * b.S := by
  have e := half_two h.dr.dr h.ev
  have e2 : m * m * b.S * b.S = (m * b.S) * (m * b.S) := by grind
  rw [e2, e]
  unfold sqd legA legB
  dsimp only
  refine ⟨by grind, by grind⟩
theorem shown_way : sqd (legA (halfOf b m) (backOf b m)).1 (legA (halfOf b m) (backOf b m)).2 ≤ m * m * b.way * b.way ∧ sqd (legB (halfOf b m) (backOf b m)).1 (legB (halfOf b m) (backOf b m)).2 ≤ m * m * b.way * b.way := by
  obtain ⟨_, _, b3, _⟩ := back_spec h.dr.dr h.ev
  have e2 : m * m * b.way * b.way = m * b.way * (m * b.way) := by grind
  have e3 : sqd (legA (halfOf b m) (backOf b m)).1 (legA (halfOf b m) (backOf b m)).2 = 2 * (halfOf b m * halfOf b m) + 2 * (backOf b m * backOf b m) := by
    unfold sqd legA
    dsimp only
    grind
  have e4 : sqd (legB (halfOf b m) (backOf b m)).1 (legB (halfOf b m) (backOf b m)).2 = 2 * (halfOf b m * halfOf b m) + 2 * (backOf b m * backOf b m) := by
    unfold sqd legB
    dsimp only
    grind
  rw [e2, e3, e4]
  omega
theorem shown_gap : below (sqAt (legA (halfOf b m) (backOf b m)) (legB (halfOf b m) (backOf b m)) (near2 b T m).2.1 (near2 b T m).2.2) (m * m * rOf b * rOf b, 1) = true := by
  have l := h.lt
  rw [shown_sq h] at l
  obtain ⟨la, lb⟩ := legs_ok h.dr.dr h.ev
  have k := shown_kc h
  have ok := (sqAt_fit la lb k.s k.t (by omega)).ok
  unfold below
  exact decide_eq_true ((lt_iff ok (ok_int _)).mpr ((cmp_neg ok (ok_int _)).mp l))
end
local macro_rules | `(tactic| k_extra "lp5") => `(tactic| first
  | with_reducible refine r_par3 ?_
  | with_reducible refine r_three rfl ?_
  | ((with_reducible refine r_mul ?h1 ?h2 ?_); (case h1 => exact lt_p2 (by k_extra "sz") (by omega)); (case h2 => exact lt_p2 (by k_extra "sz") (by omega)))
  | with_reducible refine r_ixB (by k_extra "rep") (by with_unfolding_all exact rfl) ?_)
local macro_rules | `(tactic| k_extra "lpn") => `(tactic| repeat (first | k_extra "lpn1" | k_extra "lp1" | k_extra "lp2" | k_extra "lp3" | k_extra "lp4" | k_extra "lp5"))
local macro_rules | `(tactic| k_extra "lp") => `(tactic| repeat (first | k_extra "lp1" | k_extra "lp2" | k_extra "lp3" | k_extra "lp4" | k_extra "lp5"))
local macro_rules | `(tactic| k_extra "lp5") => `(tactic| first
  | with_reducible refine r_par3 ?_
  | with_reducible refine r_three rfl ?_
  | with_reducible refine r_gsub ?_ | with_reducible refine r_augS ?_ | with_reducible refine r_ipI ?_
  | with_reducible refine r_bag (by assumption) (by with_unfolding_all exact rfl) ?_
  | (with_reducible refine r_modI (by first | assumption | decide) ?_)
  | ((with_reducible refine r_mul ?h1 ?h2 ?_); (case h1 => exact lt_p2 (by k_extra "sz") (by omega)); (case h2 => exact lt_p2 (by k_extra "sz") (by omega)))
  | with_reducible refine r_ixB (by k_extra "rep") (by with_unfolding_all exact rfl) ?_)
/-! the law's look at the couple -/
abbrev s_l_is_worst : Stmt := topS 72
theorem sc_l_is_worst : FnScope ["_law_bounds_here", "_law_ticks_here", "_law_thing", "_law_many", "_law_leg", "_law_other", "_law_s", "_law_t", "_law_spacing", "_law_way", "_law_reach_here", "_law_one"] ["_law_bounds_here", "_law_ticks_here", "_law_thing"] (defScope s_l_is_worst) := ⟨rfl, rfl, rfl, by decide +kernel, rfl, by decide +kernel, by decide +kernel⟩
theorem b_l_is_worst : BindsBy "_law_is_worst" s_l_is_worst ["_law_bounds_here", "_law_ticks_here", "_law_thing"] := fun _ _ _ _ _ _ us hl => match us, hl with | [_, _, _], _ => rfl
def spIsWorst (K : PySem.W.Frag) : Sp := fun vs H Q _ => ∃ v b T m p l o s t, vs = [v, .int T, .ref p] ∧ RBd K H v b ∧ Shown b T m ∧ SqT K H p [.int m, l, o, s, t] ∧ P2 K H l (legA (halfOf b m) (backOf b m)) ∧ P2 K H o (legB (halfOf b m) (backOf b m)) ∧ F2 K H s (near2 b T m).2.1 ∧ F2 K H t (near2 b T m).2.2 ∧ ∀ H', Same H H' → Q (.bl true) H'
theorem isworst_len {ps : List Str} (h : ps.length = 3) : ∀ vs H Q E, spIsWorst K vs H Q E → vs.length = ps.length := fun vs H Q E ⟨_, _, _, _, _, _, _, _, _, e, _⟩ => by rw [e, h]; rfl
theorem d_l_is_worst (T : Txt K mg "_law_is_worst" s_l_is_worst) (n : Nm K mg) (d_l_is_int : Def P w K mg base "_law_is_int" 1 ["_law_thing"] (spYes K RI)) (d_l_is_leg : Def P w K mg base "_law_is_leg" 3 ["_law_thing"] (spYes K P2)) (d_l_is_part : Def P w K mg base "_law_is_part" 3 ["_law_thing"] (spPartL K))
    (d_l_is_below : Def P w K mg base "_law_is_below" 1 ["_law_x", "_law_y"] (spBelow K)) (d_l_rho : Def P w K mg base "_law_rho" 2 ["_law_bounds_here", "_law_ticks_here"] (spRho K)) (d_l_apart : Def P w K mg base "_law_apart" 3 ["_law_s", "_law_t"] (spLApart K)) (d_l_do_cross : Def P w K mg base "_law_do_cross" 1 ["_law_leg", "_law_other"] (spCross K))
    (d_l_reach : Def P w K mg base "_law_reach" 1 ["_law_bounds_here"] (spR K)) (d_l_squared : Def P w K mg base "_law_squared" 1 ["_law_one", "_law_other"] (spSqd K)) (d_l_gap_squared : Def P w K mg base "_law_gap_squared" 4 ["_law_leg", "_law_other", "_law_s", "_law_t"] (spSquared K)) :
    Def P w K mg base "_law_is_worst" 5 ["_law_bounds_here", "_law_ticks_here", "_law_thing"] (spIsWorst K) := by
  refine mkDef T sc_l_is_worst b_l_is_worst (isworst_len rfl) fun f cdv A outer s H vs Q E hr kk h => ?_
  obtain ⟨v, b, t, m, p, vl, vo, v1, v2, rfl, hv, sh, hp, hl, ho, h1, h2, q⟩ := h
  have hok := sh.dr.dr.ok
  have tt : True := trivial
  obtain ⟨la, lb⟩ := legs_ok sh.dr.dr sh.ev
  have k := shown_kc sh
  have f1 : PrePartL (near2 b t m).2.1 := part_l k.pair.s k.s
  have f2 : PrePartL (near2 b t m).2.2 := part_l k.pair.t k.t
  have f3 : PreRho b t := drawnT_rho sh.dr
  have f4 := shown_fits sh
  have f5 := shown_apart sh
  have f6 : PreC (legA (halfOf b m) (backOf b m)) (legB (halfOf b m) (backOf b m)) := ⟨la, lb⟩
  have g1 : Sm (legA (halfOf b m) (backOf b m)).1 := ⟨la.a, la.b⟩
  have g2 : Sm (legA (halfOf b m) (backOf b m)).2 := ⟨la.c, la.d⟩
  have g3 : Sm (legB (halfOf b m) (backOf b m)).1 := ⟨lb.a, lb.b⟩
  have g4 : Sm (legB (halfOf b m) (backOf b m)).2 := ⟨lb.c, lb.d⟩
  have p1 : PreSq (legA (halfOf b m) (backOf b m)).1 (legB (halfOf b m) (backOf b m)).1 := ⟨g1, g3⟩
  have p2 : PreSq (legA (halfOf b m) (backOf b m)).2 (legB (halfOf b m) (backOf b m)).2 := ⟨g2, g4⟩
  have p3 : PreSq (legA (halfOf b m) (backOf b m)).1 (legA (halfOf b m) (backOf b m)).2 := ⟨g1, g2⟩
  have p4 : PreSq (legB (halfOf b m) (backOf b m)).1 (legB (halfOf b m) (backOf b m)).2 := ⟨g3, g4⟩
  have f7 : PrePart (legA (halfOf b m) (backOf b m)) (legB (halfOf b m) (backOf b m)) (near2 b t m).2.1 (near2 b t m).2.2 := ⟨la, lb, k.s.mono (by omega), k.t.mono (by omega)⟩
  have zm : m.natAbs < 2 ^ 54 := m_sz sh.dr.dr sh.ev
  have zr := r_sz9 sh.dr.dr
  have f8 : FitsC (sqAt (legA (halfOf b m) (backOf b m)) (legB (halfOf b m) (backOf b m)) (near2 b t m).2.1 (near2 b t m).2.2) (m * m * rOf b * rOf b, 1) := ⟨sqAt_fit la lb k.s k.t (by omega), (fitI (mul_lt (mul_lt (mul_lt zm zm) zr) zr) (by omega)).c⟩
  have z0 := sh.dr.dr.S1
  have z9 := hok.S
  have z8 := hok.way
  have m1 := sh.ev.m1
  generalize hA : legA (halfOf b m) (backOf b m) = lA at *
  generalize hB : legB (halfOf b m) (backOf b m) = lB at *
  refine ⟨_, (pss_cons (ps_if ((pw_or (pt_not (pt_val (pe_callB (isi K) (by rfl) n.isinstance (by decide +kernel) (pa_cons (pv 2) (pa_cons (pe_bltn (v := .ty "tuple") (u := .type "tuple") (by rfl) n.tuple (by decide +kernel) rfl) pa_nil))))) (pw_or (pt_cmpR op_ne (pe_callB (lenS K) (by rfl) n.len (by decide +kernel) (pa_cons (pv 2) pa_nil)) pe_int (nomark _)) (pw_or (pt_not (pt_val (pcall d_l_is_int hr (pa_cons (pe_ix (ixT K) (pv 2) pe_int (fun _ _ => rfl)) pa_nil)))) (pw_or1 (pt_cmpR op_lt (pe_ix (ixT K) (pv 2) pe_int (fun _ _ => rfl)) pe_int (nomark _))))))).pt
    (pss_one (ps_ret pe_bl))
    pss_nil)
  (pss_cons (ps_asg (pv 2) (pgT (n := 5) K rfl (pgs_cons (pg_name (i := 3) sc_l_is_worst.nd rfl (.inr rfl)) (pgs_cons (pg_name (i := 4) sc_l_is_worst.nd rfl (.inl rfl)) (pgs_cons (pg_name (i := 5) sc_l_is_worst.nd rfl (.inl rfl)) (pgs_cons (pg_name (i := 6) sc_l_is_worst.nd rfl (.inl rfl)) (pgs_cons (pg_name (i := 7) sc_l_is_worst.nd rfl (.inl rfl)) pgs_nil)))))))
  (pss_cons (ps_if ((pw_or (pt_not (pt_val (pcall d_l_is_leg hr (pa_cons (pv 4) pa_nil)))) (pw_or (pt_not (pt_val (pcall d_l_is_leg hr (pa_cons (pv 5) pa_nil)))) (pw_or (pt_not (pt_val (pcall d_l_is_part hr (pa_cons (pv 6) pa_nil)))) (pw_or1 (pt_not (pt_val (pcall d_l_is_part hr (pa_cons (pv 7) pa_nil))))))))).pt
    (pss_one (ps_ret pe_bl))
    pss_nil)
  (pss_cons (ps_if ((pw_or (pt_val (pcall d_l_is_below hr (pa_cons (pcall d_l_rho hr (pa_cons (pv 0) (pa_cons (pv 1) pa_nil))) (pa_cons (pcall d_l_apart hr (pa_cons (pv 6) (pa_cons (pv 7) pa_nil))) pa_nil)))) (pw_or1 (pt_val (pcall d_l_do_cross hr (pa_cons (pv 4) (pa_cons (pv 5) pa_nil))))))).pt
    (pss_one (ps_ret pe_bl))
    pss_nil)
  (pss_cons (ps_asg (pe_lc (own := [("_law_one", 11)]) rfl sc_l_is_worst.nd (piT K (pe_tup (pa_cons (pe_ix (ixT K) (pv 0) pe_int (fun _ _ => rfl)) (pa_cons (pe_ix (ixT K) (pv 0) pe_int (fun _ _ => rfl)) (pa_cons (pcall d_l_reach hr (pa_cons (pv 0) pa_nil)) pa_nil))))) (blkOk_by (N := ["_law_bounds_here", "_law_ticks_here", "_law_thing", "_law_many", "_law_leg", "_law_other", "_law_s", "_law_t", "_law_spacing", "_law_way", "_law_reach_here", "_law_one"]) (sc := defScope s_l_is_worst) (by decide +kernel)) (fun _ _ _ _ _ => (pg_name (i := 11) sc_l_is_worst.nd rfl (.inl rfl))) (fun _ _ _ _ _ => pts_nil) (fun _ _ _ _ _ => (pe_op op_mulW (pe_op op_mulW (pe_op op_mulW (pv 3) (pv 3)) (pv 11)) (pv 11)))) (pgL (n := 3) K rfl (pgs_cons (pg_name (i := 8) sc_l_is_worst.nd rfl (.inl rfl)) (pgs_cons (pg_name (i := 9) sc_l_is_worst.nd rfl (.inl rfl)) (pgs_cons (pg_name (i := 10) sc_l_is_worst.nd rfl (.inl rfl)) pgs_nil)))))
  (pss_cons (ps_if ((pw_or (pt_cmpR op_lt (pcall d_l_squared hr (pa_cons (pe_ix (ixT K) (pv 4) pe_int (fun _ _ => rfl)) (pa_cons (pe_ix (ixT K) (pv 5) pe_int (fun _ _ => rfl)) pa_nil))) (pv 8) (nomark _)) (pw_or1 (pt_cmpR op_lt (pcall d_l_squared hr (pa_cons (pe_ix (ixT K) (pv 4) pe_int (fun _ _ => rfl)) (pa_cons (pe_ix (ixT K) (pv 5) pe_int (fun _ _ => rfl)) pa_nil))) (pv 8) (nomark _))))).pt
    (pss_one (ps_ret pe_bl))
    pss_nil)
  (pss_cons (ps_if ((pw_or (pt_cmpR op_gt (pcall d_l_squared hr (pa_cons (pe_ix (ixT K) (pv 4) pe_int (fun _ _ => rfl)) (pa_cons (pe_ix (ixT K) (pv 4) pe_int (fun _ _ => rfl)) pa_nil))) (pv 9) (nomark _)) (pw_or1 (pt_cmpR op_gt (pcall d_l_squared hr (pa_cons (pe_ix (ixT K) (pv 5) pe_int (fun _ _ => rfl)) (pa_cons (pe_ix (ixT K) (pv 5) pe_int (fun _ _ => rfl)) pa_nil))) (pv 9) (nomark _))))).pt
    (pss_one (ps_ret pe_bl))
    pss_nil)
  (pss_one (ps_ret (pcall d_l_is_below hr (pa_cons (pcall d_l_gap_squared hr (pa_cons (pv 4) (pa_cons (pv 5) (pa_cons (pv 6) (pa_cons (pv 7) pa_nil))))) (pa_cons (pe_tup (pa_cons (pv 10) (pa_cons pe_int pa_nil))) pa_nil)))))))))))), ?_⟩
  k_extra "lpn"
  refine r_isiT hp ?_
  k_extra "lpn"
  refine iteF' rfl ?_
  k_extra "lpn"
  refine r_lenT hp ?_
  k_extra "lpn"
  refine iteF' (by rfl) ?_
  k_extra "lpn"
  refine r_ixT hp rfl ?_
  k_extra "lpn"
  rename_i H1 s1
  have hp1 := Same.sqt s1 hp
  refine iteF' rfl ?_
  k_extra "lpn"
  refine r_ixT hp1 rfl ?_
  k_extra "lpn"
  refine iteF' (decide_eq_false (by omega)) ?_
  k_extra "lpn"
  refine iteF' rfl ?_
  k_extra "lpn"
  refine iteF' rfl ?_
  k_extra "lpn"
  refine iteF' rfl ?_
  k_extra "lpn"
  refine iteF' rfl ?_
  k_extra "lpn"
  refine iteF' (shown_below sh) ?_
  k_extra "lpn"
  refine iteF' (by rw [← hA, ← hB]; exact shown_cross sh) ?_
  k_extra "lpn"
  rename_i pc H2 s2 r2
  have s02 : Same H H2 := by k_extra "same"
  have r2 : SqT K H2 pc ([b.S, b.way, rOf b].map V.int) := r2
  refine ⟨pc, rfl, ⟨_, r2⟩, ?_⟩
  refine lc_map (K := K) (rc := RI) (walk_tup (K := K) (xs := [b.S, b.way, rOf b].map V.int)) ([b.S, b.way, rOf b].map fun z => m * m * z * z) rfl (show 3 ≤ 100 by decide) (fun H' s' => Same.sqt s' r2) ?_ ?_ gname_mono
  · rintro i x H3 H4 c Post hi s3 hc ⟨rfl, hx⟩ hq
    rw [List.getElem?_map] at hx hc
    cases e : ([b.S, b.way, rOf b])[i]? with
    | none =>
      rw [e] at hx
      cases hx
    | some z =>
      rw [e] at hx hc
      have hx : V.int z = x := Option.some.inj hx
      have hc : m * m * z * z = c := Option.some.inj hc
      subst hx
      have zz : z.natAbs < 2 ^ 80 := by
        have hm := List.mem_of_getElem? e
        rcases List.mem_cons.mp hm with e1 | hm
        · rw [e1]; exact z9
        · rcases List.mem_cons.mp hm with e1 | hm
          · rw [e1]; exact z8
          · rw [List.mem_singleton.mp hm]
            exact lt_p2 zr (by omega)
      k_extra "lpn"
      refine ⟨rfl, ?_⟩
      k_extra "lpn"
      rw [hc]
      exact hq _ _ (by k_extra "same") rfl
  · intro p3 us H3 s3 n3 h3 hL
    obtain ⟨p3', us', e1, h3', a3⟩ := hL
    obtain rfl : p3 = p3' := V.ref.inj e1
    rw [h3] at h3'
    obtain rfl : us = us' := by injection h3' with h; injection h
    rw [a3.ints] at h3
    have h3 : H3 p3 = some (.lst [.int (m * m * b.S * b.S), .int (m * m * b.way * b.way), .int (m * m * rOf b * rOf b)]) := h3
    have s03 := s02.trans s3
    have hl3 := up s03 hl
    have ho3 := up s03 ho
    have h13 := up s03 h1
    have h23 := up s03 h2
    obtain ⟨w1, w2⟩ := shown_wide sh
    obtain ⟨w3, w4⟩ := shown_way sh
    have w5 := shown_gap sh
    rw [hA, hB] at w1 w2
    rw [hA] at w3
    rw [hB] at w4
    rw [hA, hB] at w5
    k_extra "lpn"
    refine r_glst (.inl (.inl h3)) rfl ?_
    k_extra "lpn"
    rw [w1]
    refine iteF' (decide_eq_false (Int.lt_irrefl _)) ?_
    k_extra "lpn"
    rw [w2]
    refine iteF' (decide_eq_false (Int.lt_irrefl _)) ?_
    k_extra "lpn"
    refine iteF' (decide_eq_false (by omega)) ?_
    k_extra "lpn"
    refine iteF' (decide_eq_false (by omega)) ?_
    k_extra "lpn"
    rw [w5]
    exact q _ (by k_extra "same")
end
end Lp
set_option Elab.async false
set_option linter.all false
set_option maxRecDepth 100000
set_option maxHeartbeats 4000000

namespace Lp
open PySem PySem.Spec PyProof.Rows L2
local macro_rules | `(tactic| k_extra "rep") => `(tactic| first
  | assumption
  | exact rfl
  | exact BI.mk _ _ _
  | (refine up (by assumption) ?_; k_extra "rep"))
local macro_rules | `(tactic| k_extra "same") => `(tactic| first
  | assumption
  | exact Same.refl _
  | (refine Same.trans ?_ (by assumption); k_extra "same"))
local macro_rules | `(tactic| k_extra "sz") => `(tactic| with_reducible first
  | assumption
  | exact mul_lt (by k_extra "sz") (by k_extra "sz")
  | exact add_sz (by k_extra "sz") (by k_extra "sz")
  | exact sub_sz (by k_extra "sz") (by k_extra "sz")
  | (refine lit_sz ?_; decide))
local macro_rules | `(tactic| k_extra "st") => `(tactic| (simp only [L2.start, List.set_cons_succ, List.set_cons_zero, List.map_cons, List.map_nil, List.cons_append, List.nil_append, List.length_cons, List.length_nil, List.replicate, L2.wipe]; exact rfl))
local macro_rules | `(tactic| k_extra "lp1") => `(tactic| with_reducible first
  | refine r_seq ?_ | refine r_asg ?_ | refine r_ret ?_ | refine r_drop ?_ | refine r_if ?_ | refine r_var rfl ?_ | refine r_c ?_ | refine r_op ?_ | refine r_un ?_ | refine r_rI0 ?_ | refine r_rU ?_
  | refine r_cons ?_ | refine r_nil ?_ | refine r_call ?_ | refine r_cb ?_ | refine r_tup ?_ | refine r_lst ?_ | refine r_test ?_ | refine r_tB ?_ | refine r_bl ?_ | refine r_ifE ?_ | refine r_gcons ?_ | refine r_gnil ?_
  | refine r_gcd ?_ | refine r_next ?_ | refine r_slice ?_ | refine r_nopart ?_ | refine r_part ?_ | refine r_partI ?_ | refine r_bm ?_ | refine r_chain ?_ | refine r_eqI ?_ | refine r_neI ?_ | refine r_zip ?_ | refine r_itT ?_ | refine r_itL ?_ | refine r_for ?_ | refine r_lc ?_ | refine r_intI ?_ | refine r_intB ?_ | refine r_abs ?_ | refine r_max ?_ | refine r_none ?_ | refine r_and ?_ | refine r_or ?_ | refine r_not ?_ | refine r_andT ?_ | refine r_orT ?_ | refine r_notT ?_ | refine r_par ?_ | refine r_two rfl ?_ | refine r_gname rfl ?_)
local macro_rules | `(tactic| k_extra "lpn1") => `(tactic| with_reducible first
  | refine r_seq ?_ | refine r_asg ?_ | refine r_var rfl ?_ | refine r_op ?_ | refine r_cons ?_ | refine r_gcons ?_ | refine r_gnil ?_ | refine r_two (by k_extra "st") ?_ | refine r_gname (by k_extra "st") ?_)
local macro_rules | `(tactic| k_extra "lp2") => `(tactic| first
  | with_reducible refine r_mul (by assumption) (by assumption) ?_
  | with_reducible refine r_fx0 (by k_extra "rep") ?_
  | with_reducible refine r_fx1 (by k_extra "rep") ?_)
local macro_rules | `(tactic| k_extra "lp3") => `(tactic| first
  | with_reducible refine r_gfrac (by k_extra "rep") ?_
  | (with_reducible refine r_gpair (ra := F2) (rb := F2) (by k_extra "rep") ?_; intro _ _ _ _)
  | (with_reducible refine r_gpair (ra := P2) (rb := P2) (by k_extra "rep") ?_; intro _ _ _ _)
  | (with_reducible refine r_ix0 (ra := F2) (rb := F2) (by k_extra "rep") ?_; intro _ _)
  | (with_reducible refine r_ix1 (ra := F2) (rb := F2) (by k_extra "rep") ?_; intro _ _)
  | (with_reducible refine new_frac (by assumption) ?_; intro _ _ _ _)
  | (with_reducible refine new_pair (ra := F2) (rb := F2) (by k_extra "rep") (by k_extra "rep") ?_; intro _ _ _ _)
  | (with_reducible refine new_pair (ra := P2) (rb := P2) (by k_extra "rep") (by k_extra "rep") ?_; intro _ _ _ _)
  | (with_reducible refine new_tri (ra := F2) (rb := F2) (rc := F2) (by k_extra "rep") (by k_extra "rep") (by k_extra "rep") ?_; intro _ _ _ _)
  | (with_reducible refine sp1I (by k_extra "rep") (by assumption) ?_; intro _ _)
  | (with_reducible refine sp2I (by k_extra "rep") (by k_extra "rep") (by assumption) ?_; intro _ _)
  | (with_reducible refine sp1B (by k_extra "rep") (by assumption) ?_; intro _ _)
  | (with_reducible refine sp2B (by k_extra "rep") (by k_extra "rep") (by assumption) ?_; intro _ _)
  | (with_reducible refine sp3B (by k_extra "rep") (by k_extra "rep") (by k_extra "rep") (by assumption) ?_; intro _ _)
  | (with_reducible refine sp4B (by k_extra "rep") (by k_extra "rep") (by k_extra "rep") (by k_extra "rep") (by assumption) ?_; intro _ _)
  | (with_reducible refine sp1 (by k_extra "rep") (by assumption) ?_; intro _ _ _ _)
  | (with_reducible refine sp2 (by k_extra "rep") (by k_extra "rep") (by assumption) ?_; intro _ _ _ _)
  | (with_reducible refine sp4 (by k_extra "rep") (by k_extra "rep") (by k_extra "rep") (by k_extra "rep") (by assumption) ?_; intro _ _ _ _)
  | (with_reducible refine sp3 (by k_extra "rep") (by k_extra "rep") (by k_extra "rep") (by assumption) ?_; intro _ _ _ _))
local macro_rules | `(tactic| k_extra "lp4") => `(tactic| first
  | with_reducible refine r_gtup (by assumption) rfl ?_
  | (with_reducible refine new_any (by assumption) (Nat.le_of_ble_eq_true rfl) ?_; intro _ _ _ _))
local macro_rules | `(tactic| k_extra "lpn") => `(tactic| repeat (first | k_extra "lpn1" | k_extra "lp1" | k_extra "lp2" | k_extra "lp3" | k_extra "lp4"))
local macro_rules | `(tactic| k_extra "lp") => `(tactic| repeat (first | k_extra "lp1" | k_extra "lp2" | k_extra "lp3" | k_extra "lp4"))
section
variable {P : Program} {w : World} {K : PySem.W.Frag} {mg : Str → Option Value} {base : Heap}

theorem Bag.lst {H : Hp} {p : Addr} {n : Nat} (b : Bag H p n) : ∃ xs, H p = some (.lst xs) := by
  obtain ⟨l, i0, i1, k, cs, b⟩ := b
  exact ⟨_, b.h⟩
theorem MutB.ts {H H' : Hp} {p : Addr} {n : Nat} (m : MutB p H H') (b : Bag H p n) : TSame H H' := fun c xs => by
  obtain ⟨ys, hp⟩ := b.lst
  refine ⟨fun e => m _ _ (fun z => ?_) e, fun o e => m _ _ (fun z => ?_) e⟩
  · rw [z, hp] at e
    cases e
  · rw [z, hp] at e
    cases e
theorem Bag.new {H : Hp} {p a : Addr} {n : Nat} (b : Bag H p n) (h : H a = none) : a ≠ p := fun z => by
  obtain ⟨ys, hp⟩ := b.lst
  rw [z, hp] at h
  cases h
section
variable {K : PySem.W.Frag} {σ : L2.St} {H : Hp} {Q : VK} {E : XK} {p a : Addr} {n : Nat}
theorem r_take {m : Int} (b : Bag H p n) (hn : n ≤ 1000) (h0 : 0 < m ∧ m < 1073741824) (q : ∀ v H', MutB p H H' → Bag H' p (n + 1) → 0 ≤ v → v < m → Q (.int v) H') : spTake K [.ref p, .int m] H Q E := ⟨p, m, n, rfl, b, hn, h0.1, h0.2, q⟩
theorem r_some {ns : List Int} {vs : List V} (b : Bag H p n) (hn : n ≤ 1000) (e : vs = ns.map V.int) (hl : 0 < ns.length ∧ ns.length ≤ 100) (q : ∀ x H', MutB p H H' → Bag H' p (n + 1) → x ∈ ns → Q (.int x) H') :
    NewL vs H fun x H1 => L2.tNil σ H1 fun xs H2 => spSome K (.ref p :: x :: xs) H2 Q E := by
  subst e
  refine r_newL (by rw [List.length_map]; exact hl.2) ?_
  intro a H1 s1 n1 h1
  exact ⟨p, a, n, ns, rfl, b.same s1, hn, h1, b.new n1, hl.1, hl.2, fun x H' mu b' hx => q x H' ((MutB.of s1).trans mu) b' hx⟩
end
local macro_rules | `(tactic| k_extra "lp5") => `(tactic| first
  | with_reducible refine r_par3 ?_
  | with_reducible refine r_three rfl ?_
  | ((with_reducible refine r_mul ?h1 ?h2 ?_); (case h1 => exact lt_p2 (by k_extra "sz") (by omega)); (case h2 => exact lt_p2 (by k_extra "sz") (by omega)))
  | with_reducible refine r_ixB (by k_extra "rep") (by with_unfolding_all exact rfl) ?_)
local macro_rules | `(tactic| k_extra "lpn") => `(tactic| repeat (first | k_extra "lpn1" | k_extra "lp1" | k_extra "lp2" | k_extra "lp3" | k_extra "lp4" | k_extra "lp5"))
local macro_rules | `(tactic| k_extra "lp") => `(tactic| repeat (first | k_extra "lp1" | k_extra "lp2" | k_extra "lp3" | k_extra "lp4" | k_extra "lp5"))
local macro_rules | `(tactic| k_extra "lp5") => `(tactic| first
  | with_reducible refine r_par3 ?_
  | with_reducible refine r_three rfl ?_
  | with_reducible refine r_gsub ?_ | with_reducible refine r_augS ?_ | with_reducible refine r_ipI ?_
  | with_reducible refine r_bag (by assumption) (by with_unfolding_all exact rfl) ?_
  | (with_reducible refine r_modI (by first | assumption | decide) ?_)
  | ((with_reducible refine r_mul ?h1 ?h2 ?_); (case h1 => exact lt_p2 (by k_extra "sz") (by omega)); (case h2 => exact lt_p2 (by k_extra "sz") (by omega)))
  | with_reducible refine r_ixB (by k_extra "rep") (by with_unfolding_all exact rfl) ?_)
/-! what is drawn -/
abbrev s_l_bounds : Stmt := topS 58
theorem sc_l_bounds : FnScope ["_law_bag_here", "_law_spacing", "_law_near", "_law_wind", "_law_way", "_law_clock", "_law_fall"] ["_law_bag_here"] (defScope s_l_bounds) := ⟨rfl, rfl, rfl, by decide +kernel, rfl, by decide +kernel, by decide +kernel⟩
theorem b_l_bounds : BindsBy "_law_bounds" s_l_bounds ["_law_bag_here"] := fun _ _ _ _ _ _ us hl => match us, hl with | [_], _ => rfl
def spBounds (K : PySem.W.Frag) : Sp := fun vs H Q _ => ∃ (p : Addr) (n : Nat), vs = [.ref p] ∧ Bag H p n ∧ n ≤ 900 ∧ ∀ v b H', MutB p H H' → Bag H' p (n + 20) → RBd K H' v b → Drawn b → Q v H'
theorem bounds_len {ps : List Str} (h : ps.length = 1) : ∀ vs H Q E, spBounds K vs H Q E → vs.length = ps.length := fun vs H Q E ⟨_, _, e, _⟩ => by rw [e, h]; rfl
theorem d_l_bounds (T : Txt K mg "_law_bounds" s_l_bounds) (n : Nm K mg) (d_l_take : Def P w K mg base "_law_take" 1 ["_law_bag_here", "_law_many"] (spTake K)) (d_l_some : Def P w K mg base "_law_some" 2 ["_law_bag_here", "_law_things"] (spSome K)) : Def P w K mg base "_law_bounds" 3 ["_law_bag_here"] (spBounds K) := by
  refine mkDef T sc_l_bounds b_l_bounds (bounds_len rfl) fun f cdv A outer s H vs Q E hr kk h => ?_
  obtain ⟨p, nn, rfl, hb, hn, q⟩ := h
  refine ⟨_, (pss_cons (ps_set (i := 1) sc_l_bounds.nd rfl (.inl rfl) (pcall d_l_some hr (pa_cons (pv 0) (pa_cons (pe_lst (pa_cons pe_int (pa_cons pe_int (pa_cons pe_int (pa_cons pe_int (pa_cons pe_int (pa_cons pe_int (pa_cons pe_int (pa_cons pe_int (pa_cons pe_int (pa_cons pe_int pa_nil))))))))))) pa_nil))))
  (pss_cons (ps_set (i := 2) sc_l_bounds.nd rfl (.inl rfl) (pe_op op_add pe_int (pcall d_l_take hr (pa_cons (pv 0) (pa_cons (pe_callB (max2 rfl) (by rfl) n.max (by decide +kernel) (pa_cons pe_int (pa_cons (pe_op op_fdiv (pe_op op_mulW (pv 1) pe_int) pe_int) pa_nil))) pa_nil)))))
  (pss_cons (ps_set (i := 3) sc_l_bounds.nd rfl (.inl rfl) (pe_ifExp (pt_cmpR op_eq (pcall d_l_take hr (pa_cons (pv 0) (pa_cons pe_int pa_nil))) pe_int (nomark _)) (pcall d_l_take hr (pa_cons (pv 0) (pa_cons (pe_op op_add pe_int (pe_op op_fdiv (pv 1) pe_int)) pa_nil))) pe_int))
  (pss_cons (ps_par (i := 5) (j := 6) (by rfl) sc_l_bounds.nd rfl rfl (by decide) rfl rfl (pa_cons (pcall d_l_some hr (pa_cons (pv 0) (pa_cons (pe_lst (pa_cons pe_int (pa_cons pe_int (pa_cons pe_int (pa_cons pe_int (pa_cons pe_int pa_nil)))))) pa_nil))) (pa_cons (pcall d_l_some hr (pa_cons (pv 0) (pa_cons (pe_lst (pa_cons pe_int (pa_cons pe_int (pa_cons pe_int (pa_cons pe_int (pa_cons pe_int (pa_cons pe_int pa_nil))))))) pa_nil))) pa_nil)) (by rfl))
  (pss_cons (ps_set (i := 4) sc_l_bounds.nd rfl (.inl rfl) (pe_op op_add (pv 1) (pcall d_l_some hr (pa_cons (pv 0) (pa_cons (pe_lst (pa_cons pe_int (pa_cons pe_int (pa_cons (pv 1) (pa_cons (pe_op op_mulW pe_int (pv 1)) (pa_cons (pcall d_l_take hr (pa_cons (pv 0) (pa_cons (pe_op op_add (pe_op op_mulW pe_int (pv 1)) pe_int) pa_nil))) pa_nil)))))) pa_nil)))))
  (pss_one (ps_ret (pe_tup (pa_cons (pv 1) (pa_cons (pv 2) (pa_cons (pv 3) (pa_cons (pv 5) (pa_cons (pv 6) (pa_cons (pv 4) (pa_cons (pe_op op_add pe_int (pcall d_l_take hr (pa_cons (pv 0) (pa_cons pe_int pa_nil)))) (pa_cons (pcall d_l_take hr (pa_cons (pv 0) (pa_cons pe_int pa_nil))) (pa_cons (pe_op op_add pe_int (pcall d_l_take hr (pa_cons (pv 0) (pa_cons pe_int pa_nil)))) pa_nil))))))))))))))))), ?_⟩
  k_extra "lpn"
  refine r_some (ns := [1, 2, 3, 5, 7, 10, 13, 20, 60, 100]) hb (by omega) rfl (by decide) ?_
  intro S H1 mu1 b1 hS
  have S1 : 1 ≤ S ∧ S ≤ 100 := by
    simp only [List.mem_cons, List.not_mem_nil, or_false] at hS
    omega
  have z1 : S.natAbs < 2 ^ 64 := sz63 (by omega) (by omega)
  have z2 : (3 : Int).natAbs < 2 ^ 64 := by decide
  have z3 : (5 : Int).natAbs < 2 ^ 64 := by decide
  k_extra "lpn"
  refine r_fdiv (by decide) ?_
  k_extra "lpn"
  refine r_take b1 (by omega) (by split <;> omega) ?_
  intro y H2 mu2 b2 y0 y1
  have y2 : y < 100 := by
    split at y1 <;> omega
  refine r_rI0 ?_
  refine r_gname (by k_extra "st") ?_
  dsimp only
  with_reducible refine r_seq_tail (P := fun σ H' => ∃ wd : Int, σ = [some (.ref p), some (.int S), some (.int (1 + y)), some (.int wd), none, none, none] ∧ 0 ≤ wd ∧ wd ≤ 100 ∧ MutB p H H' ∧ Bag H' p (nn + 4)) ?_ (fun N tail => ?_)
  · rintro σ H4 ⟨wd, rfl, w0, w1, mu4, b4⟩
    k_extra "lpn"
    refine r_some (ns := [0, 0, 1, 2, 5]) b4 (by omega) rfl (by decide) ?_
    intro ck H5 mu5 b5 hck
    have k1 : 0 ≤ ck ∧ ck ≤ 5 := by
      simp only [List.mem_cons, List.not_mem_nil, or_false] at hck
      omega
    k_extra "lpn"
    refine r_some (ns := [0, 1, 2, 3, 7, 20]) b5 (by omega) rfl (by decide) ?_
    intro fl H6 mu6 b6 hfl
    have k2 : 0 ≤ fl ∧ fl ≤ 20 := by
      simp only [List.mem_cons, List.not_mem_nil, or_false] at hfl
      omega
    k_extra "lpn"
    refine r_take b6 (by omega) (by omega) ?_
    intro u H7 mu7 b7 u0 u1
    k_extra "lpn"
    refine r_some (ns := [0, 1, S, 3 * S, u]) b7 (by omega) rfl ⟨by simp, by simp⟩ ?_
    intro wy H8 mu8 b8 hwy
    have k3 : 0 ≤ wy ∧ wy ≤ 5 * S := by
      simp only [List.mem_cons, List.not_mem_nil, or_false] at hwy
      omega
    k_extra "lpn"
    refine r_take b8 (by omega) (by decide) ?_
    intro t1 H9 mu9 b9 _ _
    k_extra "lpn"
    refine r_take b9 (by omega) (by decide) ?_
    intro t2 H10 mu10 b10 _ _
    k_extra "lpn"
    refine r_take b10 (by omega) (by decide) ?_
    intro t3 H11 mu11 b11 _ _
    k_extra "lpn"
    rename_i pt H12 s12 r12
    have mu := mu4.trans (mu5.trans (mu6.trans (mu7.trans (mu8.trans (mu9.trans (mu10.trans (mu11.trans (MutB.of s12))))))))
    exact q _ ⟨S, 1 + y, wd, ck, fl, S + wy, 1 + t1, t2, 1 + t3⟩ _ mu ((b11.same s12).more (by omega)) ⟨pt, rfl, r12⟩ ⟨S1.1, S1.2, by show 1 ≤ 1 + y; omega, by show 1 + y ≤ 100; omega, w0, w1, k1.1, k1.2, k2.1, k2.2, by show S ≤ S + wy; omega, by show S + wy ≤ 600; omega⟩
  · k_extra "lpn"
    refine r_take b2 (by omega) (by decide) ?_
    intro g H3 mu3 b3 _ _
    k_extra "lpn"
    have mu03 := mu1.trans (mu2.trans mu3)
    refine ite2 (fun e => ?_) (fun e => ?_)
    · k_extra "lpn"
      refine r_fdiv (by decide) ?_
      k_extra "lpn"
      refine r_take b3 (by omega) (by omega) ?_
      intro wd H4 mu4 b4 w0 w1
      k_extra "lpn"
      exact tail _ _ ⟨wd, rfl, w0, by omega, mu03.trans mu4, b4.more (by omega)⟩
    · k_extra "lpn"
      exact tail _ _ ⟨0, rfl, by omega, by omega, mu03, b3.more (by omega)⟩
abbrev s_l_ticks : Stmt := topS 59
theorem sc_l_ticks : FnScope ["_law_bag_here", "_law_bounds_here", "_law_lag_here"] ["_law_bag_here", "_law_bounds_here"] (defScope s_l_ticks) := ⟨rfl, rfl, rfl, by decide +kernel, rfl, by decide +kernel, by decide +kernel⟩
theorem b_l_ticks : BindsBy "_law_ticks" s_l_ticks ["_law_bag_here", "_law_bounds_here"] := fun _ _ _ _ _ _ us hl => match us, hl with | [_, _], _ => rfl
def spTicks (K : PySem.W.Frag) : Sp := fun vs H Q _ => ∃ (p : Addr) (v : V) (b : Bd) (n : Nat), vs = [.ref p, v] ∧ Bag H p n ∧ n ≤ 900 ∧ RBd K H v b ∧ Drawn b ∧ ∀ T H', MutB p H H' → Bag H' p (n + 2) → DrawnT b T → Q (.int T) H'
theorem ticks_len {ps : List Str} (h : ps.length = 2) : ∀ vs H Q E, spTicks K vs H Q E → vs.length = ps.length := fun vs H Q E ⟨_, _, _, _, e, _⟩ => by rw [e, h]; rfl
theorem d_l_ticks (T : Txt K mg "_law_ticks" s_l_ticks) (n : Nm K mg) (d_l_take : Def P w K mg base "_law_take" 1 ["_law_bag_here", "_law_many"] (spTake K)) (d_l_some : Def P w K mg base "_law_some" 2 ["_law_bag_here", "_law_things"] (spSome K)) (d_l_lag : Def P w K mg base "_law_lag" 1 ["_law_bounds_here"] (spLag K)) : Def P w K mg base "_law_ticks" 3 ["_law_bag_here", "_law_bounds_here"] (spTicks K) := by
  refine mkDef T sc_l_ticks b_l_ticks (ticks_len rfl) fun f cdv A outer s H vs Q E hr kk h => ?_
  obtain ⟨p, v, b, nn, rfl, hb, hn, hv, hd, q⟩ := h
  have hok := hd.ok
  have hl := hd.lag
  refine ⟨_, (pss_cons (ps_set (i := 2) sc_l_ticks.nd rfl (.inl rfl) (pe_callB (max2 rfl) (by rfl) n.max (by decide +kernel) (pa_cons pe_int (pa_cons (pcall d_l_lag hr (pa_cons (pv 1) pa_nil)) pa_nil))))
  (pss_one (ps_ret (pe_op op_add (pv 2) (pcall d_l_some hr (pa_cons (pv 0) (pa_cons (pe_lst (pa_cons pe_int (pa_cons pe_int (pa_cons pe_int (pa_cons (pv 2) (pa_cons (pe_op op_mulW pe_int (pv 2)) (pa_cons (pe_op op_mulW pe_int (pv 2)) (pa_cons (pcall d_l_take hr (pa_cons (pv 0) (pa_cons pe_int pa_nil))) pa_nil)))))))) pa_nil))))))), ?_⟩
  have hbg : 1 ≤ (if lagOf b > 1 then lagOf b else 1) ∧ (if lagOf b > 1 then lagOf b else 1) ≤ 30 ∧ lagOf b ≤ (if lagOf b > 1 then lagOf b else 1) := by
    split <;> omega
  have z2 : (3 : Int).natAbs < 2 ^ 64 := by decide
  have z3 : (10 : Int).natAbs < 2 ^ 64 := by decide
  refine r_seq ?_
  refine r_asg ?_
  refine r_cb ?_
  refine r_cons ?_
  refine r_c ?_
  refine r_cons ?_
  k_extra "lp1"
  k_extra "lp1"
  k_extra "lp1"
  k_extra "lp1"
  refine sp1I hv hok fun H1 s1 => ?_
  have b1 := hb.same s1
  refine r_nil ?_
  refine r_max ?_
  generalize (if lagOf b > 1 then lagOf b else 1) = g at hbg ⊢
  obtain ⟨g1, g2, g3⟩ := hbg
  have z1 : g.natAbs < 2 ^ 64 := sz63 (by omega) (by omega)
  k_extra "lpn"
  refine r_take b1 (by omega) (by decide) ?_
  intro u H2 mu2 b2 u0 u1
  k_extra "lpn"
  refine r_some (ns := [0, 1, 2, g, 3 * g, 10 * g, u]) b2 (by omega) rfl ⟨by simp, by simp⟩ ?_
  intro t H3 mu3 b3 ht
  have k3 : 0 ≤ t ∧ t ≤ 300 := by
    simp only [List.mem_cons, List.not_mem_nil, or_false] at ht
    omega
  k_extra "lpn"
  exact q _ _ ((MutB.of s1).trans (mu2.trans mu3)) b3 ⟨hd, by omega, by omega, by omega⟩
end
end Lp
set_option Elab.async false
set_option linter.all false
set_option maxRecDepth 100000
set_option maxHeartbeats 4000000

namespace Lp
open PySem PySem.Spec PyProof.Rows L2
local macro_rules | `(tactic| k_extra "rep") => `(tactic| first
  | assumption
  | exact rfl
  | exact BI.mk _ _ _
  | (refine up (by assumption) ?_; k_extra "rep"))
local macro_rules | `(tactic| k_extra "same") => `(tactic| first
  | assumption
  | exact Same.refl _
  | (refine Same.trans ?_ (by assumption); k_extra "same"))
local macro_rules | `(tactic| k_extra "sz") => `(tactic| with_reducible first
  | assumption
  | exact mul_lt (by k_extra "sz") (by k_extra "sz")
  | exact add_sz (by k_extra "sz") (by k_extra "sz")
  | exact sub_sz (by k_extra "sz") (by k_extra "sz")
  | (refine lit_sz ?_; decide))
local macro_rules | `(tactic| k_extra "st") => `(tactic| (simp only [L2.start, List.set_cons_succ, List.set_cons_zero, List.map_cons, List.map_nil, List.cons_append, List.nil_append, List.length_cons, List.length_nil, List.replicate, L2.wipe]; exact rfl))
local macro_rules | `(tactic| k_extra "lp1") => `(tactic| with_reducible first
  | refine r_seq ?_ | refine r_asg ?_ | refine r_ret ?_ | refine r_drop ?_ | refine r_if ?_ | refine r_var rfl ?_ | refine r_c ?_ | refine r_op ?_ | refine r_un ?_ | refine r_rI0 ?_ | refine r_rU ?_
  | refine r_cons ?_ | refine r_nil ?_ | refine r_call ?_ | refine r_cb ?_ | refine r_tup ?_ | refine r_lst ?_ | refine r_test ?_ | refine r_tB ?_ | refine r_bl ?_ | refine r_ifE ?_ | refine r_gcons ?_ | refine r_gnil ?_
  | refine r_gcd ?_ | refine r_next ?_ | refine r_slice ?_ | refine r_nopart ?_ | refine r_part ?_ | refine r_partI ?_ | refine r_bm ?_ | refine r_chain ?_ | refine r_eqI ?_ | refine r_neI ?_ | refine r_zip ?_ | refine r_itT ?_ | refine r_itL ?_ | refine r_for ?_ | refine r_lc ?_ | refine r_intI ?_ | refine r_intB ?_ | refine r_abs ?_ | refine r_max ?_ | refine r_none ?_ | refine r_and ?_ | refine r_or ?_ | refine r_not ?_ | refine r_andT ?_ | refine r_orT ?_ | refine r_notT ?_ | refine r_par ?_ | refine r_two rfl ?_ | refine r_gname rfl ?_)
local macro_rules | `(tactic| k_extra "lpn1") => `(tactic| with_reducible first
  | refine r_seq ?_ | refine r_asg ?_ | refine r_var rfl ?_ | refine r_op ?_ | refine r_cons ?_ | refine r_gcons ?_ | refine r_gnil ?_ | refine r_two (by k_extra "st") ?_ | refine r_gname (by k_extra "st") ?_)
local macro_rules | `(tactic| k_extra "lp2") => `(tactic| first
  | with_reducible refine r_mul (by assumption) (by assumption) ?_
  | with_reducible refine r_fx0 (by k_extra "rep") ?_
  | with_reducible refine r_fx1 (by k_extra "rep") ?_)
local macro_rules | `(tactic| k_extra "lp3") => `(tactic| first
  | with_reducible refine r_gfrac (by k_extra "rep") ?_
  | (with_reducible refine r_gpair (ra := F2) (rb := F2) (by k_extra "rep") ?_; intro _ _ _ _)
  | (with_reducible refine r_gpair (ra := P2) (rb := P2) (by k_extra "rep") ?_; intro _ _ _ _)
  | (with_reducible refine r_ix0 (ra := F2) (rb := F2) (by k_extra "rep") ?_; intro _ _)
  | (with_reducible refine r_ix1 (ra := F2) (rb := F2) (by k_extra "rep") ?_; intro _ _)
  | (with_reducible refine new_frac (by assumption) ?_; intro _ _ _ _)
  | (with_reducible refine new_pair (ra := F2) (rb := F2) (by k_extra "rep") (by k_extra "rep") ?_; intro _ _ _ _)
  | (with_reducible refine new_pair (ra := P2) (rb := P2) (by k_extra "rep") (by k_extra "rep") ?_; intro _ _ _ _)
  | (with_reducible refine new_tri (ra := F2) (rb := F2) (rc := F2) (by k_extra "rep") (by k_extra "rep") (by k_extra "rep") ?_; intro _ _ _ _)
  | (with_reducible refine sp1I (by k_extra "rep") (by assumption) ?_; intro _ _)
  | (with_reducible refine sp2I (by k_extra "rep") (by k_extra "rep") (by assumption) ?_; intro _ _)
  | (with_reducible refine sp1B (by k_extra "rep") (by assumption) ?_; intro _ _)
  | (with_reducible refine sp2B (by k_extra "rep") (by k_extra "rep") (by assumption) ?_; intro _ _)
  | (with_reducible refine sp3B (by k_extra "rep") (by k_extra "rep") (by k_extra "rep") (by assumption) ?_; intro _ _)
  | (with_reducible refine sp4B (by k_extra "rep") (by k_extra "rep") (by k_extra "rep") (by k_extra "rep") (by assumption) ?_; intro _ _)
  | (with_reducible refine sp1 (by k_extra "rep") (by assumption) ?_; intro _ _ _ _)
  | (with_reducible refine sp2 (by k_extra "rep") (by k_extra "rep") (by assumption) ?_; intro _ _ _ _)
  | (with_reducible refine sp4 (by k_extra "rep") (by k_extra "rep") (by k_extra "rep") (by k_extra "rep") (by assumption) ?_; intro _ _ _ _)
  | (with_reducible refine sp3 (by k_extra "rep") (by k_extra "rep") (by k_extra "rep") (by assumption) ?_; intro _ _ _ _))
local macro_rules | `(tactic| k_extra "lp4") => `(tactic| first
  | with_reducible refine r_gtup (by assumption) rfl ?_
  | (with_reducible refine new_any (by assumption) (Nat.le_of_ble_eq_true rfl) ?_; intro _ _ _ _))
local macro_rules | `(tactic| k_extra "lpn") => `(tactic| repeat (first | k_extra "lpn1" | k_extra "lp1" | k_extra "lp2" | k_extra "lp3" | k_extra "lp4"))
local macro_rules | `(tactic| k_extra "lp") => `(tactic| repeat (first | k_extra "lp1" | k_extra "lp2" | k_extra "lp3" | k_extra "lp4"))
section
variable {P : Program} {w : World} {K : PySem.W.Frag} {mg : Str → Option Value} {base : Heap}

/-! the plain law -/
open PySem.W
section
variable {b : Bd} {m : Int} (hd : Drawn b) (hm : 1 ≤ m)
theorem lawEnough_eq {b : Bd} {t : Int} (ht : 1 ≤ t) : lawEnough b t = enough b.S (rOf b) b.way (lagOf b) t := by
  have tt : 0 < t * t := Int.mul_pos (by omega) (by omega)
  have e1 : decide (b.S * b.S * t * t < 2 * rOf b * rOf b * t * t) = decide (b.S * b.S < 2 * rOf b * rOf b) := by
    rw [decide_eq_decide, Int.mul_assoc (b.S * b.S), Int.mul_assoc (2 * rOf b * rOf b)]
    exact ⟨fun h => Int.lt_of_mul_lt_mul_right h (by omega), fun h => Int.mul_lt_mul_of_pos_right h tt⟩
  have e2 : (b.S * b.S + 2 * rOf b * rOf b) * t * t - lagOf b * lagOf b * (2 * b.way * b.way - b.S * b.S) = b.S * b.S * t * t + 2 * rOf b * rOf b * t * t - lagOf b * lagOf b * (2 * b.way * b.way - b.S * b.S) := by grind
  have e3 : 8 * b.S * b.S * rOf b * rOf b * t * t * t * t = 4 * (b.S * b.S * t * t) * (2 * rOf b * rOf b * t * t) := by grind
  unfold lawEnough enough ineqL
  rw [e1, e2, e3]
include hd
theorem law_rises (hg : gapNo b = false) : Rises (fun t => enough b.S (rOf b) b.way (lagOf b) t) 1000000000000 := by
  have hl := hd.lag
  refine ⟨fun x y h1 h2 h => enough_mono (by have := hd.S1; omega) hd.way1 (by omega) h2 h, ?_, by decide, by decide⟩
  refine enough_far (by have := hd.S1; omega) hd.S2 hd.way1 hd.way2 hl.1 hl.2 ?_
  unfold gapNo gapOf at hg
  rw [Bool.or_eq_false_iff, Bool.and_eq_false_iff, decide_eq_false_iff_not, decide_eq_false_iff_not, decide_eq_false_iff_not] at hg
  obtain ⟨h1, h2⟩ := hg
  rcases h2 with h2 | h2
  · left
    omega
  · by_cases e : b.S * b.S - 2 * rOf b * rOf b = 0
    · right
      omega
    · left
      omega
include hm
theorem enough_wide {t : Int} (ht : 1 ≤ t) : isEnough (b.times m) t = enough b.S (rOf b) b.way (lagOf b) t := by
  rw [isEnough_eq]
  exact enough_times hd hm ht
theorem enough_law {t : Int} (ht : 1 ≤ t) : isEnough (b.times m) t = lawEnough b t := by
  rw [enough_wide hd hm ht, lawEnough_eq ht]
theorem beg_times : begOf (b.times m) = begOf b := rfl
theorem gap_times : gapNo (b.times m) = gapNo b := by
  have mm : 0 < m * m := Int.mul_pos (by omega) (by omega)
  have e : gapOf (b.times m) = m * m * gapOf b := by
    unfold gapOf
    rw [times_r]
    show m * b.S * (m * b.S) - 2 * (m * rOf b) * (m * rOf b) = m * m * (b.S * b.S - 2 * rOf b * rOf b)
    grind
  have e1 : decide (m * m * gapOf b < 0) = decide (gapOf b < 0) := by
    rw [decide_eq_decide]
    constructor
    · intro h
      by_cases c : gapOf b < 0
      · exact c
      · have := Int.mul_nonneg (Int.le_of_lt mm) (show 0 ≤ gapOf b by omega)
        omega
    · intro h
      have := Int.mul_lt_mul_of_pos_left h mm
      omega
  have e2 : decide (m * m * gapOf b = 0) = decide (gapOf b = 0) := by
    rw [decide_eq_decide]
    constructor
    · intro h
      rcases Int.mul_eq_zero.mp h with h | h
      · omega
      · exact h
    · intro h
      rw [h, Int.mul_zero]
  unfold gapNo
  rw [e, e1, e2]
  rfl
theorem beg_le : begOf b ≤ 1000000000000 := by
  have := hd.lag
  unfold begOf
  split <;> omega
theorem least_pre (hz : m ≤ 1000) : PreLeast (b.times m) := by
  have m0 : m.natAbs < 2 ^ 10 := small_sz (by omega) (by omega) (by omega)
  refine ⟨times_ok hd m0 (by omega), fun hg => ⟨1000000000000, ?_, ?_⟩⟩
  · rw [gap_times hd hm] at hg
    have r := law_rises hd hg
    refine ⟨fun x y h1 h2 h => ?_, ?_, by decide, by decide⟩
    · rw [enough_wide hd hm h1] at h
      rw [enough_wide hd hm (by omega)]
      exact r.mono x y h1 h2 h
    · rw [enough_wide hd hm (by decide)]
      exact r.top
  · show begOf b ≤ 1000000000000
    exact beg_le hd hm
theorem lleast_pre : PreLL b := by
  refine ⟨hd.ok, fun hg => ⟨?_, beg_le hd hm⟩⟩
  have r := law_rises hd hg
  refine ⟨fun x y h1 h2 h => ?_, ?_, by decide, by decide⟩
  · rw [lawEnough_eq h1] at h
    rw [lawEnough_eq (by omega)]
    exact r.mono x y h1 h2 h
  · rw [lawEnough_eq (by decide)]
    exact r.top
theorem least_same {r r' : Int} (h : IsLeast (isEnough (b.times m)) (begOf (b.times m)) r) (h' : IsLeast (lawEnough b) (begOf b) r') : r = r' := by
  have b1 := begOf_pos b
  have hge : begOf b ≤ r := h.ge
  refine IsLeast.uniq (p := lawEnough b) (b := begOf b) ⟨h.ge, ?_, fun x h1 h2 => ?_⟩ h'
  · rw [← enough_law hd hm (by omega)]
    exact h.yes
  · rw [← enough_law hd hm (by omega)]
    exact h.no x h1 h2
end
/-! the flight and the couples -/
theorem ord_leg {l o : Leg} (h : l.1.1 < o.1.1 ∨ (l.1.1 = o.1.1 ∧ l.1.2 = o.1.2 ∧ l.2.1 = o.2.1 ∧ l.2.2 < o.2.2)) : dataLt (Dat.d P2 o) (Dat.d P2 l) = false := by
  have e : ∀ l : Leg, keyToks (Dat.d P2 l) = [.inl 1, .inl 1, .inl l.1.1, .inl 1, .inl l.1.2, .inl 0, .inl 1, .inl 1, .inl l.2.1, .inl 1, .inl l.2.2, .inl 0, .inl 0] := fun l => rfl
  unfold dataLt
  rw [e, e]
  have c : ∀ x y : Int, itemLt (.inl x) (.inl y) = decide (x < y) := fun x y => rfl
  simp only [PyProof.Rows.lexLt, c]
  rcases h with h | ⟨h1, h2, h3, h4⟩
  · have h' : ¬ o.1.1 < l.1.1 := by omega
    simp [h, h']
  · rw [h1, h2, h3]
    have h' : ¬ o.2.2 < l.2.2 := by omega
    simp [h4, h']
section
variable {b : Bd} {T m : Int} (h : Shown b T m)
include h
theorem shown_m : 1 ≤ m := h.ev.m1
def wideOf (b : Bd) (m : Int) : Bd := b.times m
theorem wide_ok : BdOk (b.times m) := times_ok h.dr.dr (m_sz h.dr.dr h.ev) (by omega)
theorem wide_rho : PreRho (b.times m) T := ⟨wide_ok h, (drawnT_rho h.dr).ht, (drawnT_rho h.dr).ne⟩
theorem wide_r : (rOf (b.times m)).natAbs < 2 ^ 100 := by
  rw [times_r]
  exact lt_p2 (mul_lt (m_sz h.dr.dr h.ev) (r_sz9 h.dr.dr)) (by omega)
theorem wide_n : PreN2 (legA (halfOf b m) (backOf b m), legB (halfOf b m) (backOf b m)) (rhoOf (b.times m) T) := by
  obtain ⟨la, lb⟩ := legs_ok h.dr.dr h.ev
  exact ⟨⟨la, lb, (show Rho (rhoOf b T) from rho_ok h.dr)⟩⟩
theorem wide_fl : PreFl (b.times m) T (legA (halfOf b m) (backOf b m), legB (halfOf b m) (backOf b m)) := ⟨wide_rho h, wide_n h, wide_r h⟩
theorem wide_no : decide (0 ≤ cmp (nearest (legA (halfOf b m) (backOf b m)) (legB (halfOf b m) (backOf b m)) (rhoOf (b.times m) T)).1 (rOf (b.times m) * rOf (b.times m), 1)) = false := by
  have l := h.lt
  have e : rOf (b.times m) * rOf (b.times m) = m * m * rOf b * rOf b := by
    rw [times_r]
    grind
  rw [e]
  refine decide_eq_false ?_
  have l : cmp (nearest (legA (halfOf b m) (backOf b m)) (legB (halfOf b m) (backOf b m)) (rhoOf (b.times m) T)).1 (m * m * rOf b * rOf b, 1) < 0 := l
  omega
theorem wide_legs : ∃ r, legsB [(legA (halfOf b m) (backOf b m)).1, (legB (halfOf b m) (backOf b m)).1] [(legA (halfOf b m) (backOf b m)).2, (legB (halfOf b m) (backOf b m)).2] (b.times m).way = legA (halfOf b m) (backOf b m) :: r ∧ legB (halfOf b m) (backOf b m) ∈ r := by
  obtain ⟨w1, w2⟩ := shown_way h
  have s1 : isShort (b.times m).way (legA (halfOf b m) (backOf b m)) = true := by
    refine decide_eq_true ?_
    have e : (b.times m).way * (b.times m).way = m * m * b.way * b.way := by
      show m * b.way * (m * b.way) = _
      grind
    rw [e]
    unfold sqd at w1
    grind
  have s2 : isShort (b.times m).way (legB (halfOf b m) (backOf b m)) = true := by
    refine decide_eq_true ?_
    have e : (b.times m).way * (b.times m).way = m * m * b.way * b.way := by
      show m * b.way * (m * b.way) = _
      grind
    rw [e]
    unfold sqd at w2
    grind
  generalize (b.times m).way = wy at s1 s2 ⊢
  generalize legA (halfOf b m) (backOf b m) = lA at s1 s2 ⊢
  generalize legB (halfOf b m) (backOf b m) = lB at s1 s2 ⊢
  have s1 : isShort wy (lA.1, lA.2) = true := s1
  have s2 : isShort wy (lB.1, lB.2) = true := s2
  refine ⟨([(lA.1, lB.2)].filter (isShort wy)) ++ ([(lB.1, lA.2), (lB.1, lB.2)].filter (isShort wy)), ?_, ?_⟩
  · unfold legsB rowB
    simp [List.flatMap_cons, s1, List.filter_cons]
  · refine List.mem_append_right _ (List.mem_filter.mpr ⟨?_, s2⟩)
    exact List.mem_cons_of_mem _ List.mem_cons_self
theorem wide_ord : Ordered (legsB [(legA (halfOf b m) (backOf b m)).1, (legB (halfOf b m) (backOf b m)).1] [(legA (halfOf b m) (backOf b m)).2, (legB (halfOf b m) (backOf b m)).2] (b.times m).way) := by
  have hp := half_pos h.dr.dr h.ev
  have e : legsB [(legA (halfOf b m) (backOf b m)).1, (legB (halfOf b m) (backOf b m)).1] [(legA (halfOf b m) (backOf b m)).2, (legB (halfOf b m) (backOf b m)).2] (b.times m).way =
      ([((legA (halfOf b m) (backOf b m)).1, (legA (halfOf b m) (backOf b m)).2), ((legA (halfOf b m) (backOf b m)).1, (legB (halfOf b m) (backOf b m)).2), ((legB (halfOf b m) (backOf b m)).1, (legA (halfOf b m) (backOf b m)).2), ((legB (halfOf b m) (backOf b m)).1, (legB (halfOf b m) (backOf b m)).2)] : List Leg).filter (isShort (b.times m).way) := by
    unfold legsB rowB
    rw [List.flatMap_cons, List.flatMap_cons, List.flatMap_nil, List.append_nil, ← List.filter_append]
    rfl
  rw [e]
  refine List.Pairwise.filter _ ?_
  unfold legA legB
  dsimp only
  refine .cons (fun o ho => ?_) (.cons (fun o ho => ?_) (.cons (fun o ho => ?_) (.cons (fun o ho => by cases ho) .nil)))
  · rcases List.mem_cons.mp ho with e | ho
    · rw [e]
      exact ord_leg (.inr ⟨rfl, rfl, rfl, by dsimp only; omega⟩)
    · rcases List.mem_cons.mp ho with e | ho
      · rw [e]
        exact ord_leg (.inl (by dsimp only; omega))
      · rw [List.mem_singleton.mp ho]
        exact ord_leg (.inl (by dsimp only; omega))
  · rcases List.mem_cons.mp ho with e | ho
    · rw [e]
      exact ord_leg (.inl (by dsimp only; omega))
    · rw [List.mem_singleton.mp ho]
      exact ord_leg (.inl (by dsimp only; omega))
  · rw [List.mem_singleton.mp ho]
    exact ord_leg (.inr ⟨rfl, rfl, rfl, by dsimp only; omega⟩)
theorem wide_bad : PreBad (b.times m) T [(legA (halfOf b m) (backOf b m)).1, (legB (halfOf b m) (backOf b m)).1] [(legA (halfOf b m) (backOf b m)).2, (legB (halfOf b m) (backOf b m)).2] := by
  obtain ⟨la, lb⟩ := legs_ok h.dr.dr h.ev
  refine ⟨wide_rho h, (show Rho (rhoOf b T) from rho_ok h.dr), wide_r h, ⟨⟨fun c hc => ?_, fun c hc => ?_, ?_, by simp, by simp, wide_ord h⟩, ?_⟩⟩
  · rcases List.mem_cons.mp hc with e | hc
    · rw [e]
      exact ⟨la.a, la.b⟩
    · rw [List.mem_singleton.mp hc]
      exact ⟨lb.a, lb.b⟩
  · rcases List.mem_cons.mp hc with e | hc
    · rw [e]
      exact ⟨la.c, la.d⟩
    · rw [List.mem_singleton.mp hc]
      exact ⟨lb.c, lb.d⟩
  · exact lt_p2 (wide_ok h).way (by omega)
  · exact Nat.le_trans (rows_len _ _ _) (by simp)
theorem wide_meet : mayMeet (legA (halfOf b m) (backOf b m)) (legB (halfOf b m) (backOf b m)) = true := by
  have hp := half_pos h.dr.dr h.ev
  unfold mayMeet legA legB
  dsimp only
  rw [if_neg (fun z => by have := (Prod.ext_iff.mp z).1; dsimp only at this; omega), if_neg (fun z => by have := (Prod.ext_iff.mp z).2; dsimp only at this; omega)]
  refine decide_eq_true ?_
  have e : (2 * halfOf b m - 0) * (halfOf b m - backOf b m - (halfOf b m - backOf b m)) + (0 - 0) * (halfOf b m - backOf b m - (-halfOf b m - backOf b m)) = 0 := by grind
  rw [e]
  exact Int.le_refl 0
theorem wide_in : (legA (halfOf b m) (backOf b m), legB (halfOf b m) (backOf b m)) ∈ badB (b.times m) T [(legA (halfOf b m) (backOf b m)).1, (legB (halfOf b m) (backOf b m)).1] [(legA (halfOf b m) (backOf b m)).2, (legB (halfOf b m) (backOf b m)).2] := by
  unfold badB
  rw [List.map_id]
  refine List.mem_filter.mpr ⟨?_, ?_⟩
  · obtain ⟨r, e, hr⟩ := wide_legs h
    rw [e]
    exact List.mem_append_left _ (List.mem_map.mpr ⟨_, List.mem_filter.mpr ⟨hr, wide_meet h⟩, rfl⟩)
  · have n := wide_no h
    have n : isApart (legA (halfOf b m) (backOf b m)) (legB (halfOf b m) (backOf b m)) (rhoOf (b.times m) T) (rOf (b.times m)) = false := n
    dsimp only
    rw [n]
    rfl
end
end
end Lp
set_option Elab.async false
set_option linter.all false
set_option maxRecDepth 100000
set_option maxHeartbeats 4000000

namespace Lp
open PySem PySem.Spec PyProof.Rows L2
local macro_rules | `(tactic| k_extra "rep") => `(tactic| first
  | assumption
  | exact rfl
  | exact BI.mk _ _ _
  | (refine up (by assumption) ?_; k_extra "rep"))
local macro_rules | `(tactic| k_extra "same") => `(tactic| first
  | assumption
  | exact Same.refl _
  | (refine Same.trans ?_ (by assumption); k_extra "same"))
local macro_rules | `(tactic| k_extra "sz") => `(tactic| with_reducible first
  | assumption
  | exact mul_lt (by k_extra "sz") (by k_extra "sz")
  | exact add_sz (by k_extra "sz") (by k_extra "sz")
  | exact sub_sz (by k_extra "sz") (by k_extra "sz")
  | (refine lit_sz ?_; decide))
local macro_rules | `(tactic| k_extra "st") => `(tactic| (simp only [L2.start, List.set_cons_succ, List.set_cons_zero, List.map_cons, List.map_nil, List.cons_append, List.nil_append, List.length_cons, List.length_nil, List.replicate, L2.wipe]; exact rfl))
local macro_rules | `(tactic| k_extra "lp1") => `(tactic| with_reducible first
  | refine r_seq ?_ | refine r_asg ?_ | refine r_ret ?_ | refine r_drop ?_ | refine r_if ?_ | refine r_var rfl ?_ | refine r_c ?_ | refine r_op ?_ | refine r_un ?_ | refine r_rI0 ?_ | refine r_rU ?_
  | refine r_cons ?_ | refine r_nil ?_ | refine r_call ?_ | refine r_cb ?_ | refine r_tup ?_ | refine r_lst ?_ | refine r_test ?_ | refine r_tB ?_ | refine r_bl ?_ | refine r_ifE ?_ | refine r_gcons ?_ | refine r_gnil ?_
  | refine r_gcd ?_ | refine r_next ?_ | refine r_slice ?_ | refine r_nopart ?_ | refine r_part ?_ | refine r_partI ?_ | refine r_bm ?_ | refine r_chain ?_ | refine r_eqI ?_ | refine r_neI ?_ | refine r_zip ?_ | refine r_itT ?_ | refine r_itL ?_ | refine r_for ?_ | refine r_lc ?_ | refine r_intI ?_ | refine r_intB ?_ | refine r_abs ?_ | refine r_max ?_ | refine r_none ?_ | refine r_and ?_ | refine r_or ?_ | refine r_not ?_ | refine r_andT ?_ | refine r_orT ?_ | refine r_notT ?_ | refine r_par ?_ | refine r_two rfl ?_ | refine r_gname rfl ?_)
local macro_rules | `(tactic| k_extra "lpn1") => `(tactic| with_reducible first
  | refine r_seq ?_ | refine r_asg ?_ | refine r_var rfl ?_ | refine r_op ?_ | refine r_cons ?_ | refine r_gcons ?_ | refine r_gnil ?_ | refine r_two (by k_extra "st") ?_ | refine r_gname (by k_extra "st") ?_)
local macro_rules | `(tactic| k_extra "lp2") => `(tactic| first
  | with_reducible refine r_mul (by assumption) (by assumption) ?_
  | with_reducible refine r_fx0 (by k_extra "rep") ?_
  | with_reducible refine r_fx1 (by k_extra "rep") ?_)
local macro_rules | `(tactic| k_extra "lp3") => `(tactic| first
  | with_reducible refine r_gfrac (by k_extra "rep") ?_
  | (with_reducible refine r_gpair (ra := F2) (rb := F2) (by k_extra "rep") ?_; intro _ _ _ _)
  | (with_reducible refine r_gpair (ra := P2) (rb := P2) (by k_extra "rep") ?_; intro _ _ _ _)
  | (with_reducible refine r_ix0 (ra := F2) (rb := F2) (by k_extra "rep") ?_; intro _ _)
  | (with_reducible refine r_ix1 (ra := F2) (rb := F2) (by k_extra "rep") ?_; intro _ _)
  | (with_reducible refine new_frac (by assumption) ?_; intro _ _ _ _)
  | (with_reducible refine new_pair (ra := F2) (rb := F2) (by k_extra "rep") (by k_extra "rep") ?_; intro _ _ _ _)
  | (with_reducible refine new_pair (ra := P2) (rb := P2) (by k_extra "rep") (by k_extra "rep") ?_; intro _ _ _ _)
  | (with_reducible refine new_tri (ra := F2) (rb := F2) (rc := F2) (by k_extra "rep") (by k_extra "rep") (by k_extra "rep") ?_; intro _ _ _ _)
  | (with_reducible refine sp1I (by k_extra "rep") (by assumption) ?_; intro _ _)
  | (with_reducible refine sp2I (by k_extra "rep") (by k_extra "rep") (by assumption) ?_; intro _ _)
  | (with_reducible refine sp1B (by k_extra "rep") (by assumption) ?_; intro _ _)
  | (with_reducible refine sp2B (by k_extra "rep") (by k_extra "rep") (by assumption) ?_; intro _ _)
  | (with_reducible refine sp3B (by k_extra "rep") (by k_extra "rep") (by k_extra "rep") (by assumption) ?_; intro _ _)
  | (with_reducible refine sp4B (by k_extra "rep") (by k_extra "rep") (by k_extra "rep") (by k_extra "rep") (by assumption) ?_; intro _ _)
  | (with_reducible refine sp1 (by k_extra "rep") (by assumption) ?_; intro _ _ _ _)
  | (with_reducible refine sp2 (by k_extra "rep") (by k_extra "rep") (by assumption) ?_; intro _ _ _ _)
  | (with_reducible refine sp4 (by k_extra "rep") (by k_extra "rep") (by k_extra "rep") (by k_extra "rep") (by assumption) ?_; intro _ _ _ _)
  | (with_reducible refine sp3 (by k_extra "rep") (by k_extra "rep") (by k_extra "rep") (by assumption) ?_; intro _ _ _ _))
local macro_rules | `(tactic| k_extra "lp4") => `(tactic| first
  | with_reducible refine r_gtup (by assumption) rfl ?_
  | (with_reducible refine new_any (by assumption) (Nat.le_of_ble_eq_true rfl) ?_; intro _ _ _ _))
local macro_rules | `(tactic| k_extra "lpn") => `(tactic| repeat (first | k_extra "lpn1" | k_extra "lp1" | k_extra "lp2" | k_extra "lp3" | k_extra "lp4"))
local macro_rules | `(tactic| k_extra "lp") => `(tactic| repeat (first | k_extra "lp1" | k_extra "lp2" | k_extra "lp3" | k_extra "lp4"))
section
variable {P : Program} {w : World} {K : PySem.W.Frag} {mg : Str → Option Value} {base : Heap}

theorem u65 {k : Nat} {A : Around} (r : Room k A) : A.units + 65 < cLine := by have := r.un; omega
theorem op_notB {X : Cx} : OpR X (compareOp .IsNot) (fun x y H Q => ∃ a b, x = .bl a ∧ y = .bl b ∧ Q (.bl (a != b)) H) := by
  intro pins s σ H x y v u Q I rx ry h
  obtain ⟨a, b, rfl, rfl, q⟩ := h
  cases (show v = Value.bool a from rx)
  cases (show u = Value.bool b from ry)
  exact isnot_bool (fin_bl I q rfl)
theorem r_tupL {K : PySem.W.Frag} {H : Hp} {Q : VK} {p : Addr} {xs : List V} (h : H p = some (.lst xs)) (q : ∀ r H', Same H H' → SqT K H' r xs → Q (.ref r) H') : rTupOf K [.ref p] H Q :=
  ⟨p, xs, rfl, .inl ⟨.inl (.inl h), fun l hl => q l _ (same_upd hl) (.inl (.inl upd_same))⟩⟩
theorem r_catT {K : PySem.W.Frag} {H : Hp} {Q : VK} {a b : Addr} {xs ys : List V} (h1 : SqT K H a xs) (h2 : SqT K H b ys) (n1 : xs ≠ []) (n2 : ys ≠ []) (hl : xs.length + ys.length ≤ 100) (q : ∀ r H', Same H H' → SqT K H' r (xs ++ ys) → Q (.ref r) H') : rCatT K (.ref a) (.ref b) H Q :=
  ⟨a, b, xs, ys, rfl, rfl, h1, h2, n1, Nat.le_trans hl (by decide), fun z => absurd z n2, fun _ p hp => q p _ (same_upd hp) (.inl (.inl upd_same))⟩
theorem rl_ints {K : PySem.W.Frag} {H : Hp} {p : Addr} {us : List V} {cs : List Int} (hl : H p = some (.lst us)) (h : RL RI K H (.ref p) cs) : H p = some (.lst (cs.map V.int)) := by
  obtain ⟨p', us', e, h', a⟩ := h
  obtain rfl : p = p' := V.ref.inj e
  rw [hl] at h'
  obtain rfl : us = us' := by injection h' with h; injection h
  rw [← a.ints]
  exact hl
theorem tabs_mut {H H' : Hp} {p P : Addr} {n : Nat} {q : Str} (m : MutB p H H') (b : Bag H p n) (t : LamX.TabS H P q) : LamX.TabS H' P q := by
  obtain ⟨ys, hp⟩ := b.lst
  obtain ⟨ps, h1, h2, h3⟩ := t
  refine ⟨ps, m _ _ (fun z => ?_) h1, h2, fun pos cv e => ?_⟩
  · rw [z, hp] at h1
    cases h1
  · obtain ⟨c, e1, e2⟩ := h3 pos cv e
    refine ⟨c, e1, m _ _ (fun z => ?_) e2⟩
    rw [z, hp] at e2
    cases e2
theorem r_neB {a b : Bool} {H : Hp} {Q : VK} (e : a = b) (q : Q (.bl false) H) : rNe (.bl a) (.bl b) H Q := by
  subst e
  refine ⟨rfl, ?_⟩
  rw [decide_eq_true (rfl : V.bl a = V.bl a)]
  exact q
theorem r_neN {H : Hp} {Q : VK} (q : Q (.bl false) H) : rNe .non .non H Q := by
  refine ⟨rfl, ?_⟩
  rw [decide_eq_true (rfl : V.non = V.non)]
  exact q
theorem r_neZ {a b : Int} {H : Hp} {Q : VK} (e : a = b) (q : Q (.bl false) H) : rNe (.int a) (.int b) H Q := by
  subst e
  refine ⟨rfl, ?_⟩
  rw [decide_eq_true (rfl : V.int a = V.int a)]
  exact q
theorem ru_two {α : Type} {ra : Rep α} {K : PySem.W.Frag} {H : Hp} {v : V} {a b : α} (h : RP ra ra K H v (a, b)) : RU ra K H v [a, b] := by
  obtain ⟨p, x, y, e, hs, h1, h2⟩ := h
  exact ⟨p, [x, y], e, hs, .cons h1 (.cons h2 .nil)⟩
theorem rp_two {α : Type} {ra : Rep α} {K : PySem.W.Frag} {H : Hp} {v : V} {a b : α} (h : RU ra K H v [a, b]) : RP ra ra K H v (a, b) := by
  obtain ⟨p, vs, e, hs, ha⟩ := h
  match vs, ha with
  | [x, y], ha => exact ⟨p, x, y, e, hs, ha.2 0 x a rfl rfl, ha.2 1 y b rfl rfl⟩
  | [], ha =>
    have := ha.1
    simp at this
  | [_], ha =>
    have := ha.1
    simp at this
  | _ :: _ :: _ :: r, ha =>
    have := ha.1
    simp at this
theorem shaped_list {α : Type} [DecidableEq α] {r : Rep α} [A : Dat r] (hk : A.k ≤ 60) (cs : List α) : SeqAt.shaped (.list (cs.map A.d)) = true := by
  have h : ∀ cs : List α, PyData.canLay0 (.list (cs.map A.d)) = true ∧ PyData.depth (.list (cs.map A.d)) ≤ A.k + 1 := by
    intro cs
    induction cs with
    | nil => exact ⟨rfl, by show 0 + 1 ≤ A.k + 1; omega⟩
    | cons c cs ih =>
      refine ⟨?_, ?_⟩
      · show (PyData.canLay0 (A.d c) && PyData.canLay0 (.list (cs.map A.d))) = true
        rw [A.lay, ih.1]
        rfl
      · have h2 : PyData.depth (.list (cs.map A.d)) = PyData.depthAll (cs.map A.d) + 1 := rfl
        have h3 := ih.2
        rw [h2] at h3
        show max (PyData.depth (A.d c)) (PyData.depthAll (cs.map A.d)) + 1 ≤ A.k + 1
        have := A.dep c
        omega
  obtain ⟨h1, h2⟩ := h cs
  unfold SeqAt.shaped
  rw [h1, decide_eq_true (show PyData.depth (.list (cs.map A.d)) ≤ 64 by omega)]
  rfl
theorem r_notIn {α : Type} [DecidableEq α] {r : Rep α} [A : Dat r] {K : PySem.W.Frag} {H : Hp} {Q : VK} {x y : V} {a : α} {cs : List α} (hk : A.k ≤ 60) (h1 : r K H x a) (h2 : RL r K H y cs) (hm : a ∈ cs) (q : Q (.bl false) H) : rNotInD K x y H Q := by
  obtain ⟨p, us, rfl, hp, ha⟩ := h2
  refine ⟨A.d a, cs.map A.d, A.dp h1, .lst (.inl (.inl hp)) (dpAll ha), ?_, shaped_list hk cs, ?_⟩
  · unfold SeqAt.shaped
    rw [A.lay, decide_eq_true (Nat.le_trans (A.dep a) (by omega))]
    rfl
  · have e : (cs.map A.d).any (fun z => PyData.eqv z (A.d a)) = true := by
      rw [List.any_eq_true]
      refine ⟨A.d a, List.mem_map.mpr ⟨a, hm, rfl⟩, ?_⟩
      rw [A.eq]
      exact decide_eq_true rfl
    rw [e]
    exact q
local macro_rules | `(tactic| k_extra "lp5") => `(tactic| first
  | with_reducible refine r_par3 ?_
  | with_reducible refine r_three rfl ?_
  | ((with_reducible refine r_mul ?h1 ?h2 ?_); (case h1 => exact lt_p2 (by k_extra "sz") (by omega)); (case h2 => exact lt_p2 (by k_extra "sz") (by omega)))
  | with_reducible refine r_ixB (by k_extra "rep") (by with_unfolding_all exact rfl) ?_)
local macro_rules | `(tactic| k_extra "lpn") => `(tactic| repeat (first | k_extra "lpn1" | k_extra "lp1" | k_extra "lp2" | k_extra "lp3" | k_extra "lp4" | k_extra "lp5"))
local macro_rules | `(tactic| k_extra "lp") => `(tactic| repeat (first | k_extra "lp1" | k_extra "lp2" | k_extra "lp3" | k_extra "lp4" | k_extra "lp5"))
local macro_rules | `(tactic| k_extra "lp5") => `(tactic| first
  | with_reducible refine r_par3 ?_
  | with_reducible refine r_three rfl ?_
  | with_reducible refine r_gsub ?_ | with_reducible refine r_augS ?_ | with_reducible refine r_ipI ?_
  | with_reducible refine r_bag (by assumption) (by with_unfolding_all exact rfl) ?_
  | (with_reducible refine r_modI (by first | assumption | decide) ?_)
  | ((with_reducible refine r_mul ?h1 ?h2 ?_); (case h1 => exact lt_p2 (by k_extra "sz") (by omega)); (case h2 => exact lt_p2 (by k_extra "sz") (by omega)))
  | with_reducible refine r_ixB (by k_extra "rep") (by with_unfolding_all exact rfl) ?_)
open LamX
abbrev s_law : Stmt := topS 73
theorem sc_law : FnScope ["_law_script", "_law_bag_here", "_law_turn", "_law_bounds_here", "_law_wide", "_law_found", "_law_ticks_here", "_law_many", "_law_pair", "_law_leg", "_law_other", "_law_s", "_law_t", "_law_one"] ["_law_script"] (defScope s_law) := ⟨rfl, rfl, rfl, by decide +kernel, rfl, by decide +kernel, by decide +kernel⟩
theorem b_law : BindsBy "law" s_law ["_law_script"] := fun _ _ _ _ _ _ us hl => match us, hl with | [_], _ => rfl
theorem pair_ord {b : Bd} {T m : Int} (h : Shown b T m) : Ordered [legA (halfOf b m) (backOf b m), legB (halfOf b m) (backOf b m)] := by
  have hp := half_pos h.dr.dr h.ev
  refine .cons (fun o ho => ?_) (.cons (fun o ho => by cases ho) .nil)
  rw [List.mem_singleton.mp ho]
  exact ord_leg (.inl (by show (0 : Int) < 2 * halfOf b m; omega))
def spLaw (K : PySem.W.Frag) (Pa : Addr) : Sp := fun vs H Q _ => ∃ (a : Addr) (ns : List Int), vs = [.ref a] ∧ SqL K H a (ns.map V.int) ∧ TabS H Pa qLam ∧ ∀ H', Q (.bl true) H'
theorem law_len {Pa : Addr} {ps : List Str} (h : ps.length = 1) : ∀ vs H Q E, spLaw K Pa vs H Q E → vs.length = ps.length := fun vs H Q E ⟨_, _, e, _⟩ => by rw [e, h]; rfl
theorem f_law {Pa fa : Addr} {fd : FuncData} (F : Fun K "law" "law" s_law fa fd) (n : Nm K mg) (d_l_bag : Def P w K mg base "_law_bag" 1 ["_law_script"] (spBag K)) (d_l_bounds : Def P w K mg base "_law_bounds" 3 ["_law_bag_here"] (spBounds K)) (d_l_ticks : Def P w K mg base "_law_ticks" 3 ["_law_bag_here", "_law_bounds_here"] (spTicks K))
    (d_l_some : Def P w K mg base "_law_some" 2 ["_law_bag_here", "_law_things"] (spSome K)) (d_is_enough : Def P w K mg base "is_enough" 3 ["bounds", "ticks"] (spEnough K)) (d_l_is_enough : Def P w K mg base "_law_is_enough" 2 ["_law_bounds_here", "_law_ticks_here"] (spLEnough K))
    (d_least_ticks_for_all : Def P w K mg base "least_ticks_for_all" 6 ["bounds"] (spLeast K Pa)) (d_l_least_ticks : Def P w K mg base "_law_least_ticks" 4 ["_law_bounds_here"] (spLLeast K)) (d_worst_couple : Def P w K mg base "worst_couple" 7 ["bounds", "ticks"] (spWorst K))
    (d_l_is_worst : Def P w K mg base "_law_is_worst" 5 ["_law_bounds_here", "_law_ticks_here", "_law_thing"] (spIsWorst K)) (d_is_flight_apart : Def P w K mg base "is_flight_apart" 9 ["bounds", "ticks", "legs"] (spFlight K)) (d_bad_couples : Def P w K mg base "bad_couples" 8 ["bounds", "ticks", "froms", "tos"] (spBad K)) :
    FnOk P w K mg base CX0 11 fa fd ["_law_script"] (spLaw K Pa) := by
  refine F.ok sc_law (law_len rfl) (fun cdv A outer s H vs Q E hr h => ?_)
  have kk : KM K := .mk
  obtain ⟨a, ns, rfl, hs, hT, q⟩ := h
  refine ⟨_, (pss_cons (ps_set (i := 1) sc_law.nd rfl (.inl rfl) (pcall d_l_bag hr (pa_cons (pv 0) pa_nil)))
  (pss_cons (ps_for PassesOwn.never rfl (pi_range1 rfl n.range (pa_cons pe_int pa_nil)) (pg_name (i := 2) sc_law.nd rfl (.inl rfl))
    (pss_cons (ps_set (i := 3) sc_law.nd rfl (.inl rfl) (pcall d_l_bounds hr (pa_cons (pv 1) pa_nil)))
  (pss_cons (ps_asg (pe_tup (pa_cons (pcall d_l_ticks hr (pa_cons (pv 1) (pa_cons (pv 3) pa_nil))) (pa_cons (pcall d_l_some hr (pa_cons (pv 1) (pa_cons (pe_lst (pa_cons pe_int (pa_cons pe_int (pa_cons pe_int pa_nil)))) pa_nil))) pa_nil))) (pgT (n := 2) K rfl (pgs_cons (pg_name (i := 6) sc_law.nd rfl (.inl rfl)) (pgs_cons (pg_name (i := 7) sc_law.nd rfl (.inr rfl)) pgs_nil))))
  (pss_cons (ps_set (i := 4) sc_law.nd rfl (.inl rfl) (pe_op (catT K) (pe_op (catT K) (pe_op (catT K) (pe_callTy (tupOf K) (by rfl) n.tuple (by decide +kernel) (pa_cons (pe_lc (own := [("_law_one", 13)]) rfl sc_law.nd (piT K (pe_slice (slT K) (pv 3) po_none (po_some pe_int))) (blkOk_by (N := ["_law_script", "_law_bag_here", "_law_turn", "_law_bounds_here", "_law_wide", "_law_found", "_law_ticks_here", "_law_many", "_law_pair", "_law_leg", "_law_other", "_law_s", "_law_t", "_law_one"]) (sc := defScope s_law) (by decide +kernel)) (fun _ _ _ _ _ => (pg_name (i := 13) sc_law.nd rfl (.inl rfl))) (fun _ _ _ _ _ => pts_nil) (fun _ _ _ _ _ => (pe_op op_mulW (pv 7) (pv 13)))) pa_nil)) (pe_slice (slT K) (pv 3) (po_some pe_int) (po_some pe_int))) (pe_tup (pa_cons (pe_op op_mulW (pv 7) (pe_ix (ixT K) (pv 3) pe_int (fun _ _ => rfl))) pa_nil))) (pe_slice (slT K) (pv 3) (po_some pe_int) po_none)))
  (pss_cons (ps_if ((pw_or (pt_cmpR op_ne (pcall d_is_enough hr (pa_cons (pv 4) (pa_cons (pv 6) pa_nil))) (pcall d_l_is_enough hr (pa_cons (pv 3) (pa_cons (pv 6) pa_nil))) (nomark _)) (pw_or1 (pt_cmpR op_ne (pcall d_least_ticks_for_all hr (pa_cons (pv 4) pa_nil)) (pcall d_l_least_ticks hr (pa_cons (pv 3) pa_nil)) (nomark _))))).pt
    (pss_one (ps_ret pe_bl))
    pss_nil)
  (pss_cons (ps_set (i := 5) sc_law.nd rfl (.inl rfl) (pcall d_worst_couple hr (pa_cons (pv 3) (pa_cons (pv 6) pa_nil))))
  (pss_cons (ps_if ((pw_and (pt_cmpR notN (pv 5) pe_non (nomark _)) (pw_and1 (pt_not (pt_val (pcall d_l_is_worst hr (pa_cons (pv 3) (pa_cons (pv 6) (pa_cons (pv 5) pa_nil))))))))).pt
    (pss_one (ps_ret pe_bl))
    pss_nil)
  (pss_one (ps_if (pt_cmpR notN (pv 5) pe_non (nomark _))
    (pss_cons (ps_asg (pv 5) (pgT (n := 5) K rfl (pgs_cons (pg_name (i := 7) sc_law.nd rfl (.inr rfl)) (pgs_cons (pg_name (i := 9) sc_law.nd rfl (.inl rfl)) (pgs_cons (pg_name (i := 10) sc_law.nd rfl (.inl rfl)) (pgs_cons (pg_name (i := 11) sc_law.nd rfl (.inl rfl)) (pgs_cons (pg_name (i := 12) sc_law.nd rfl (.inl rfl)) pgs_nil)))))))
  (pss_cons (ps_set (i := 4) sc_law.nd rfl (.inl rfl) (pe_op (catT K) (pe_op (catT K) (pe_op (catT K) (pe_callTy (tupOf K) (by rfl) n.tuple (by decide +kernel) (pa_cons (pe_lc (own := [("_law_one", 13)]) rfl sc_law.nd (piT K (pe_slice (slT K) (pv 3) po_none (po_some pe_int))) (blkOk_by (N := ["_law_script", "_law_bag_here", "_law_turn", "_law_bounds_here", "_law_wide", "_law_found", "_law_ticks_here", "_law_many", "_law_pair", "_law_leg", "_law_other", "_law_s", "_law_t", "_law_one"]) (sc := defScope s_law) (by decide +kernel)) (fun _ _ _ _ _ => (pg_name (i := 13) sc_law.nd rfl (.inl rfl))) (fun _ _ _ _ _ => pts_nil) (fun _ _ _ _ _ => (pe_op op_mulW (pv 7) (pv 13)))) pa_nil)) (pe_slice (slT K) (pv 3) (po_some pe_int) (po_some pe_int))) (pe_tup (pa_cons (pe_op op_mulW (pv 7) (pe_ix (ixT K) (pv 3) pe_int (fun _ _ => rfl))) pa_nil))) (pe_slice (slT K) (pv 3) (po_some pe_int) po_none)))
  (pss_cons (ps_if (pt_cmpR op_notB (pcall d_is_flight_apart hr (pa_cons (pv 4) (pa_cons (pv 6) (pa_cons (pe_tup (pa_cons (pv 9) (pa_cons (pv 10) pa_nil))) pa_nil)))) pe_bl (nomark _))
    (pss_one (ps_ret pe_bl))
    pss_nil)
  (pss_cons (ps_set (i := 8) sc_law.nd rfl (.inl rfl) (pe_callTy (tupOf K) (by rfl) n.tuple (by decide +kernel) (pa_cons (pe_callB (cr_sortedD K hr) (by rfl) n.sorted (by decide +kernel) (pa_cons (pe_lst (pa_cons (pv 9) (pa_cons (pv 10) pa_nil))) pa_nil)) pa_nil)))
  (pss_one (ps_if (pt_cmpR (op_notInD (u65 hr)) (pv 8) (pcall d_bad_couples hr (pa_cons (pv 4) (pa_cons (pv 6) (pa_cons (pe_tup (pa_cons (pe_ix (ixT K) (pv 9) pe_int (fun _ _ => rfl)) (pa_cons (pe_ix (ixT K) (pv 10) pe_int (fun _ _ => rfl)) pa_nil))) (pa_cons (pe_tup (pa_cons (pe_ix (ixT K) (pv 9) pe_int (fun _ _ => rfl)) (pa_cons (pe_ix (ixT K) (pv 10) pe_int (fun _ _ => rfl)) pa_nil))) pa_nil))))) (by rfl))
    (pss_one (ps_ret pe_bl))
    pss_nil))))))
    pss_nil)))))))))
  (pss_one (ps_ret pe_bl)))), ?_⟩
  k_extra "lpn"
  refine ⟨a, ns, rfl, hs, fun p H1 s1 n1 hb => ?_⟩
  k_extra "lpn"
  refine r_rng1 ?_
  k_extra "lpn"
  refine ⟨3, rfl, by decide, by decide, ?_⟩
  refine for_K (walk_range (lo := 0) (n := 3)) (fun i σ H' => ∃ x2 x3 x4 x5 x6 x7 x8 x9 x10 x11 x12, σ = [some (.ref a), some (.ref p), x2, x3, x4, x5, x6, x7, x8, x9, x10, x11, x12, none] ∧ Bag H' p (40 * i) ∧ TabS H' Pa qLam) ⟨none, none, none, none, none, none, none, none, none, none, none, rfl, hb, hT.ext s1⟩ (fun i σ H' _ _ => trivial) ?_ ?_
  · rintro i x σ H2 H3 hi ⟨x2, x3, x4, x5, x6, x7, x8, x9, x10, x11, x12, rfl, b2, t2⟩ ⟨rfl, hx⟩
    have hi : i < 3 := hi
    k_extra "lpn"
    refine ⟨p, _, rfl, b2, by omega, fun v b H4 mu4 b4 rb4 hd => ?_⟩
    have t4 := tabs_mut mu4 b2 t2
    k_extra "lpn"
    refine ⟨p, v, b, _, rfl, b4, by omega, rb4, hd, fun t H5 mu5 b5 hdt => ?_⟩
    have t5 := tabs_mut mu5 b4 t4
    have rb5 : RBd K H5 v b := Tp.tp (mu5.ts b4) rb4
    k_extra "lpn"
    refine r_some (ns := [2, 3, 10]) b5 (by omega) rfl (by decide) ?_
    intro m H6 mu6 b6 hm
    have t6 := tabs_mut mu6 b5 t5
    have rb6 : RBd K H6 v b := Tp.tp (mu6.ts b5) rb5
    have m1 : 1 ≤ m ∧ m ≤ 10 := by
      simp only [List.mem_cons, List.not_mem_nil, or_false] at hm
      omega
    have zm : m.natAbs < 2 ^ 64 := sz63 (by omega) (by omega)
    have hok := hd.ok
    have zS := hok.S
    have zN := hok.near
    have zW := hok.wind
    have zY := hok.way
    obtain ⟨pb, rfl, hb6⟩ := rb6
    k_extra "lpn"
    rename_i pq H7 s7 r7
    have hb7 : SqT K H7 pb (b.l.map V.int) := Same.sqt s7 hb6
    refine r_slT (vs := b.l.map V.int) hb7 (show ¬ (HT.sIx 9 0 none = 0 ∧ HT.sIx 9 9 (some 3) = 9) by decide) ?_
    intro q11 H11 s11 r11
    have r11 : SqT K H11 q11 ([b.S, b.near, b.wind].map V.int) := r11
    k_extra "lpn"
    refine ⟨q11, rfl, ⟨_, r11⟩, ?_⟩
    refine lc_map (K := K) (rc := RI) (walk_tup (K := K) (xs := [b.S, b.near, b.wind].map V.int)) ([b.S, b.near, b.wind].map fun z => m * z) rfl (show 3 ≤ 100 by decide) (fun H' s' => Same.sqt s' r11) ?_ ?_ gname_mono
    · rintro i x H3' H4' c Post hi s3' hc ⟨rfl, hx⟩ hq
      rw [List.getElem?_map] at hx hc
      cases e : ([b.S, b.near, b.wind])[i]? with
      | none =>
        rw [e] at hx
        cases hx
      | some z =>
        rw [e] at hx hc
        have hx : V.int z = x := Option.some.inj hx
        have hc : m * z = c := Option.some.inj hc
        subst hx
        have zz : z.natAbs < 2 ^ 80 := by
          have hm := List.mem_of_getElem? e
          rcases List.mem_cons.mp hm with e1 | hm
          · rw [e1]; exact zS
          · rcases List.mem_cons.mp hm with e1 | hm
            · rw [e1]; exact zN
            · rw [List.mem_singleton.mp hm]
              exact zW
        k_extra "lpn"
        refine ⟨rfl, ?_⟩
        k_extra "lpn"
        rw [hc]
        exact hq _ _ (by k_extra "same") rfl
    intro q12 us1 H12 s12 n12 h12 hL1
    have h12 : H12 q12 = some (.lst [.int (m * b.S), .int (m * b.near), .int (m * b.wind)]) := rl_ints h12 hL1
    clear hL1
    k_extra "lpn"
    refine r_tupL h12 ?_
    intro q13 H13 s13 r13
    k_extra "lpn"
    refine r_slT (vs := b.l.map V.int) (Same.sqt (by k_extra "same") hb7) (show ¬ (HT.sIx 9 0 (some 3) = 0 ∧ HT.sIx 9 9 (some 5) = 9) by decide) ?_
    intro q14 H14 s14 r14
    have r14 : SqT K H14 q14 [.int b.clock, .int b.fall] := r14
    k_extra "lpn"
    refine r_catT (Same.sqt s14 r13) r14 (by simp) (by simp) (by simp) ?_
    intro q15 H15 s15 r15
    k_extra "lpn"
    refine r_ixT (xs := b.l.map V.int) (Same.sqt (by k_extra "same") hb7) rfl ?_
    k_extra "lpn"
    rename_i q16 H16 s16 r16
    refine r_catT (Same.sqt s16 r15) r16 (by simp) (by simp) (by simp) ?_
    intro q17 H17 s17 r17
    k_extra "lpn"
    refine r_slT (vs := b.l.map V.int) (Same.sqt (by k_extra "same") hb7) (show ¬ (HT.sIx 9 0 (some 6) = 0 ∧ HT.sIx 9 9 none = 9) by decide) ?_
    intro q18 H18 s18 r18
    have r18 : SqT K H18 q18 [.int b.sil, .int b.cuts, .int b.deep] := r18
    k_extra "lpn"
    refine r_catT (Same.sqt s18 r17) r18 (by simp) (by simp) (by simp) ?_
    intro q19 H19 s19 r19
    have w1 : RBd K H19 (.ref q19) (b.times m) := ⟨q19, rfl, r19⟩
    have s79 : Same H7 H19 := by k_extra "same"
    have rb9 : RBd K H19 (.ref pb) b := ⟨pb, rfl, Same.sqt s79 hb7⟩
    have b9 := (b6.same s7).same s79
    have t9 := (t6.ext s7).ext s79
    have f1 : PreRho (b.times m) t := ⟨times_ok hd (i := 10) (small_sz (by omega) (by omega) (by omega)) (by omega), (drawnT_rho hdt).ht, (drawnT_rho hdt).ne⟩
    have f2 : PreRho b t := drawnT_rho hdt
    refine r_gname (by k_extra "st") ?_
    dsimp only
    with_reducible refine r_seq_tail (P := fun σ H' => σ = [some (.ref a), some (.ref p), some x, some (.ref pb), some (.ref q19), x5, some (.int t), some (.int m), x8, x9, x10, x11, x12, none] ∧ RBd K H' (.ref pb) b ∧ Bag H' p (40 * i + 23) ∧ TabS H' Pa qLam) ?_ (fun N tail => ?_)
    · rintro σ H30 ⟨rfl, rb, bb, tt⟩
      k_extra "lpn"
      refine ⟨.ref pb, b, t, rfl, rb, hdt, fun he H31 s31 => ?_, fun he m' p5 l o s5 t5' H31 s31 hev hlt hp5 hl ho hs5 ht5 => ?_⟩
      · k_extra "lpn"
        rw [show (true ^^ decide (V.non = V.non)) = false from rfl]
        refine iteF ?_
        refine iteF ?_
        k_extra "lpn"
        rw [show (true ^^ decide (V.non = V.non)) = false from rfl]
        refine iteF ?_
        k_extra "lpn"
        exact ⟨_, _, _, _, _, _, _, _, _, _, _, rfl, (bb.same s31).more (by omega), tt.ext s31⟩
      · have sh : Shown b t m' := ⟨hdt, hev, hlt⟩
        have nn5 : (true ^^ decide (V.ref p5 = V.non)) = true := by
          rw [decide_eq_false (fun z => by cases z)]
          rfl
        k_extra "lpn"
        rw [nn5]
        refine iteT ?_
        k_extra "lpn"
        refine ⟨.ref pb, b, t, m', p5, l, o, s5, t5', rfl, up s31 rb, sh, hp5, hl, ho, hs5, ht5, fun H32 s32 => ?_⟩
        have hp32 := Same.sqt s32 hp5
        have zm' : m'.natAbs < 2 ^ 54 := m_sz hd hev
        obtain ⟨pb2, eb2, hbq⟩ := rb
        obtain rfl : pb = pb2 := V.ref.inj eb2
        have hb32 : SqT K H32 pb (b.l.map V.int) := Same.sqt s32 (Same.sqt s31 hbq)
        k_extra "lpn"
        refine iteF' rfl ?_
        k_extra "lpn"
        rw [nn5]
        refine iteT ?_
        k_extra "lpn"
        refine r_slT (vs := b.l.map V.int) hb32 (show ¬ (HT.sIx 9 0 none = 0 ∧ HT.sIx 9 9 (some 3) = 9) by decide) ?_
        intro qw1 Hw1 sw1 rw1
        have rw1 : SqT K Hw1 qw1 ([b.S, b.near, b.wind].map V.int) := rw1
        k_extra "lpn"
        refine ⟨qw1, rfl, ⟨_, rw1⟩, ?_⟩
        refine lc_map (K := K) (rc := RI) (walk_tup (K := K) (xs := [b.S, b.near, b.wind].map V.int)) ([b.S, b.near, b.wind].map fun z => m' * z) rfl (show 3 ≤ 100 by decide) (fun H' s' => Same.sqt s' rw1) ?_ ?_ gname_mono
        · rintro i x H3' H4' c Post hi s3' hc ⟨rfl, hx⟩ hq
          rw [List.getElem?_map] at hx hc
          cases e : ([b.S, b.near, b.wind])[i]? with
          | none =>
            rw [e] at hx
            cases hx
          | some z =>
            rw [e] at hx hc
            have hx : V.int z = x := Option.some.inj hx
            have hc : m' * z = c := Option.some.inj hc
            subst hx
            have zz : z.natAbs < 2 ^ 80 := by
              have hm := List.mem_of_getElem? e
              rcases List.mem_cons.mp hm with e1 | hm
              · rw [e1]; exact zS
              · rcases List.mem_cons.mp hm with e1 | hm
                · rw [e1]; exact zN
                · rw [List.mem_singleton.mp hm]
                  exact zW
            k_extra "lpn"
            refine ⟨rfl, ?_⟩
            k_extra "lpn"
            rw [hc]
            exact hq _ _ (by k_extra "same") rfl
        intro qw2 usw Hw2 sw2 nw2 hw2 hLw
        have hw2 : Hw2 qw2 = some (.lst [.int (m' * b.S), .int (m' * b.near), .int (m' * b.wind)]) := rl_ints hw2 hLw
        clear hLw
        k_extra "lpn"
        refine r_tupL hw2 ?_
        intro qw3 Hw3 sw3 rw3
        k_extra "lpn"
        refine r_slT (vs := b.l.map V.int) (Same.sqt (by k_extra "same") hb32) (show ¬ (HT.sIx 9 0 (some 3) = 0 ∧ HT.sIx 9 9 (some 5) = 9) by decide) ?_
        intro qw4 Hw4 sw4 rw4
        have rw4 : SqT K Hw4 qw4 [.int b.clock, .int b.fall] := rw4
        k_extra "lpn"
        refine r_catT (Same.sqt sw4 rw3) rw4 (by simp) (by simp) (by simp) ?_
        intro qw5 Hw5 sw5 rw5
        k_extra "lpn"
        refine r_ixT (xs := b.l.map V.int) (Same.sqt (by k_extra "same") hb32) rfl ?_
        k_extra "lpn"
        rename_i qw6 Hw6 sw6 rw6
        refine r_catT (Same.sqt sw6 rw5) rw6 (by simp) (by simp) (by simp) ?_
        intro qw7 Hw7 sw7 rw7
        k_extra "lpn"
        refine r_slT (vs := b.l.map V.int) (Same.sqt (by k_extra "same") hb32) (show ¬ (HT.sIx 9 0 (some 6) = 0 ∧ HT.sIx 9 9 none = 9) by decide) ?_
        intro qw8 Hw8 sw8 rw8
        have rw8 : SqT K Hw8 qw8 [.int b.sil, .int b.cuts, .int b.deep] := rw8
        k_extra "lpn"
        refine r_catT (Same.sqt sw8 rw7) rw8 (by simp) (by simp) (by simp) ?_
        intro qw9 Hw9 sw9 rw9
        have ww : RBd K Hw9 (.ref qw9) (b.times m') := ⟨qw9, rfl, rw9⟩
        have s329 : Same H32 Hw9 := by k_extra "same"
        have hl9 : P2 K Hw9 l _ := up s329 (up s32 hl)
        have ho9 : P2 K Hw9 o _ := up s329 (up s32 ho)
        have fl := wide_fl sh
        have wno := wide_no sh
        k_extra "lpn"
        refine ⟨_, _, rfl, rfl, ?_⟩
        k_extra "lpn"
        refine iteF' (by
          have e := wno
          dsimp only
          rw [e]
          rfl) ?_
        k_extra "lpn"
        refine r_newL (by simp) ?_
        intro pl Hq sq nq hq
        have sgq : Same Hw9 Hq := by k_extra "same"
        k_extra "lpn"
        refine r_sortL (ls := [legA (halfOf b m') (backOf b m'), legB (halfOf b m') (backOf b m')]) hq (AllR.cons (up sgq hl9) (AllR.cons (up sgq ho9) AllR.nil)) (pair_ord sh) ?_
        intro vs1 Hr sr rsrt
        k_extra "lpn"
        refine r_tupU rsrt ?_
        intro u Hu su ru
        have sgu : Same Hw9 Hu := by k_extra "same"
        have hlu := up sgu hl9
        have hou := up sgu ho9
        have w9 := up sgu ww
        k_extra "lpn"
        rename_i vA HA sA rA xc rc xd rd vB HB sB rB
        refine sp4 (ra := RBd) (rb := RI) (rd := RU F2) (re := RU F2) (up (by k_extra "same") w9) rfl (ru_two (up sB rA)) (ru_two rB) (wide_bad sh) ?_
        intro vb Hb sb rbad
        have sub : Same Hu Hb := by k_extra "same"
        refine r_notIn (r := RP P2 P2) (by decide) (rp_two (up sub ru)) rbad (wide_in sh) ?_
        k_extra "lpn"
        refine iteF ?_
        k_extra "lpn"
        have sfin : Same H30 Hb := by k_extra "same"
        exact ⟨_, _, _, _, _, _, _, _, _, _, _, rfl, (bb.same sfin).more (by omega), tt.ext sfin⟩
    · k_extra "lpn"
      rename_i H20 s20 H21 s21
      refine r_neB (enough_law hd m1.1 hdt.T1) ?_
      k_extra "lpn"
      refine iteF ?_
      k_extra "lpn"
      refine ⟨.ref q19, b.times m, rfl, up s21 (up s20 w1), least_pre hd m1.1 (by omega), (t9.ext s20).ext s21, fun H22 e22 t22 => ⟨fun hg => ?_, fun hg r hr => ?_⟩⟩
      · have rb22 : RBd K H22 (.ref pb) b := Tp.tp (extn_ts e22) (up s21 (up s20 rb9))
        have b22 := ((b9.same s20).same s21).extn e22
        rw [gap_times hd m1.1] at hg
        k_extra "lpn"
        refine ⟨.ref pb, b, rfl, rb22, lleast_pre hd m1.1, fun H23 s23 => ⟨fun hg' => ?_, fun hg' r' hr' => ?_⟩⟩
        · k_extra "lpn"
          refine r_neN ?_
          k_extra "lpn"
          refine iteF ?_
          k_extra "lpn"
          exact tail _ _ ⟨rfl, up s23 rb22, (b22.same s23).more (by omega), t22.ext s23⟩
        · rw [hg] at hg'
          cases hg'
      · have rb22 : RBd K H22 (.ref pb) b := Tp.tp (extn_ts e22) (up s21 (up s20 rb9))
        have b22 := ((b9.same s20).same s21).extn e22
        rw [gap_times hd m1.1] at hg
        k_extra "lpn"
        refine ⟨.ref pb, b, rfl, rb22, lleast_pre hd m1.1, fun H23 s23 => ⟨fun hg' => ?_, fun hg' r' hr' => ?_⟩⟩
        · rw [hg] at hg'
          cases hg'
        · k_extra "lpn"
          refine iteF' (by rw [decide_eq_true (least_same hd m1.1 hr hr')]; rfl) ?_
          k_extra "lpn"
          exact tail _ _ ⟨rfl, up s23 rb22, (b22.same s23).more (by omega), t22.ext s23⟩
  · rintro σ H2 ⟨x2, x3, x4, x5, x6, x7, x8, x9, x10, x11, x12, rfl, b2, t2⟩
    k_extra "lpn"
    exact q _
end
end Lp
set_option Elab.async false
set_option linter.all false
set_option maxRecDepth 100000
set_option maxHeartbeats 4000000

namespace Lp
open PySem PySem.Spec PyProof.Rows L2
local macro_rules | `(tactic| k_extra "rep") => `(tactic| first
  | assumption
  | exact rfl
  | exact BI.mk _ _ _
  | (refine up (by assumption) ?_; k_extra "rep"))
local macro_rules | `(tactic| k_extra "same") => `(tactic| first
  | assumption
  | exact Same.refl _
  | (refine Same.trans ?_ (by assumption); k_extra "same"))
local macro_rules | `(tactic| k_extra "sz") => `(tactic| with_reducible first
  | assumption
  | exact mul_lt (by k_extra "sz") (by k_extra "sz")
  | exact add_sz (by k_extra "sz") (by k_extra "sz")
  | exact sub_sz (by k_extra "sz") (by k_extra "sz")
  | (refine lit_sz ?_; decide))
local macro_rules | `(tactic| k_extra "st") => `(tactic| (simp only [L2.start, List.set_cons_succ, List.set_cons_zero, List.map_cons, List.map_nil, List.cons_append, List.nil_append, List.length_cons, List.length_nil, List.replicate, L2.wipe]; exact rfl))
local macro_rules | `(tactic| k_extra "lp1") => `(tactic| with_reducible first
  | refine r_seq ?_ | refine r_asg ?_ | refine r_ret ?_ | refine r_drop ?_ | refine r_if ?_ | refine r_var rfl ?_ | refine r_c ?_ | refine r_op ?_ | refine r_un ?_ | refine r_rI0 ?_ | refine r_rU ?_
  | refine r_cons ?_ | refine r_nil ?_ | refine r_call ?_ | refine r_cb ?_ | refine r_tup ?_ | refine r_lst ?_ | refine r_test ?_ | refine r_tB ?_ | refine r_bl ?_ | refine r_ifE ?_ | refine r_gcons ?_ | refine r_gnil ?_
  | refine r_gcd ?_ | refine r_next ?_ | refine r_slice ?_ | refine r_nopart ?_ | refine r_part ?_ | refine r_partI ?_ | refine r_bm ?_ | refine r_chain ?_ | refine r_eqI ?_ | refine r_neI ?_ | refine r_zip ?_ | refine r_itT ?_ | refine r_itL ?_ | refine r_for ?_ | refine r_lc ?_ | refine r_intI ?_ | refine r_intB ?_ | refine r_abs ?_ | refine r_max ?_ | refine r_none ?_ | refine r_and ?_ | refine r_or ?_ | refine r_not ?_ | refine r_andT ?_ | refine r_orT ?_ | refine r_notT ?_ | refine r_par ?_ | refine r_two rfl ?_ | refine r_gname rfl ?_)
local macro_rules | `(tactic| k_extra "lpn1") => `(tactic| with_reducible first
  | refine r_seq ?_ | refine r_asg ?_ | refine r_var rfl ?_ | refine r_op ?_ | refine r_cons ?_ | refine r_gcons ?_ | refine r_gnil ?_ | refine r_two (by k_extra "st") ?_ | refine r_gname (by k_extra "st") ?_)
local macro_rules | `(tactic| k_extra "lp2") => `(tactic| first
  | with_reducible refine r_mul (by assumption) (by assumption) ?_
  | with_reducible refine r_fx0 (by k_extra "rep") ?_
  | with_reducible refine r_fx1 (by k_extra "rep") ?_)
local macro_rules | `(tactic| k_extra "lp3") => `(tactic| first
  | with_reducible refine r_gfrac (by k_extra "rep") ?_
  | (with_reducible refine r_gpair (ra := F2) (rb := F2) (by k_extra "rep") ?_; intro _ _ _ _)
  | (with_reducible refine r_gpair (ra := P2) (rb := P2) (by k_extra "rep") ?_; intro _ _ _ _)
  | (with_reducible refine r_ix0 (ra := F2) (rb := F2) (by k_extra "rep") ?_; intro _ _)
  | (with_reducible refine r_ix1 (ra := F2) (rb := F2) (by k_extra "rep") ?_; intro _ _)
  | (with_reducible refine new_frac (by assumption) ?_; intro _ _ _ _)
  | (with_reducible refine new_pair (ra := F2) (rb := F2) (by k_extra "rep") (by k_extra "rep") ?_; intro _ _ _ _)
  | (with_reducible refine new_pair (ra := P2) (rb := P2) (by k_extra "rep") (by k_extra "rep") ?_; intro _ _ _ _)
  | (with_reducible refine new_tri (ra := F2) (rb := F2) (rc := F2) (by k_extra "rep") (by k_extra "rep") (by k_extra "rep") ?_; intro _ _ _ _)
  | (with_reducible refine sp1I (by k_extra "rep") (by assumption) ?_; intro _ _)
  | (with_reducible refine sp2I (by k_extra "rep") (by k_extra "rep") (by assumption) ?_; intro _ _)
  | (with_reducible refine sp1B (by k_extra "rep") (by assumption) ?_; intro _ _)
  | (with_reducible refine sp2B (by k_extra "rep") (by k_extra "rep") (by assumption) ?_; intro _ _)
  | (with_reducible refine sp3B (by k_extra "rep") (by k_extra "rep") (by k_extra "rep") (by assumption) ?_; intro _ _)
  | (with_reducible refine sp4B (by k_extra "rep") (by k_extra "rep") (by k_extra "rep") (by k_extra "rep") (by assumption) ?_; intro _ _)
  | (with_reducible refine sp1 (by k_extra "rep") (by assumption) ?_; intro _ _ _ _)
  | (with_reducible refine sp2 (by k_extra "rep") (by k_extra "rep") (by assumption) ?_; intro _ _ _ _)
  | (with_reducible refine sp4 (by k_extra "rep") (by k_extra "rep") (by k_extra "rep") (by k_extra "rep") (by assumption) ?_; intro _ _ _ _)
  | (with_reducible refine sp3 (by k_extra "rep") (by k_extra "rep") (by k_extra "rep") (by assumption) ?_; intro _ _ _ _))
local macro_rules | `(tactic| k_extra "lp4") => `(tactic| first
  | with_reducible refine r_gtup (by assumption) rfl ?_
  | (with_reducible refine new_any (by assumption) (Nat.le_of_ble_eq_true rfl) ?_; intro _ _ _ _))
local macro_rules | `(tactic| k_extra "lpn") => `(tactic| repeat (first | k_extra "lpn1" | k_extra "lp1" | k_extra "lp2" | k_extra "lp3" | k_extra "lp4"))
local macro_rules | `(tactic| k_extra "lp") => `(tactic| repeat (first | k_extra "lp1" | k_extra "lp2" | k_extra "lp3" | k_extra "lp4"))
section
variable {P : Program} {w : World} {K : PySem.W.Frag} {mg : Str → Option Value} {base : Heap}

open LamX
theorem txt_mk {h : Heap} {x : Str} {st : Stmt} {f : Addr} {oc kV dc pm cd ct : Value} {od an : Option Addr} {sl : Array (Option Value)} {K : PySem.W.Frag} {mg : Str → Option Value} (X : K.In h) (G : h.Ns mainGlobals mg) (a : PySem.W.nsIn K mainGlobals x = some (some (.ref f)))
    (l : K.lookup f = some ⟨oc, od, .func (PySem.W.fnOf x x (defArgs st) (defBody st) (defScope st) .none kV dc pm an cd ct), sl⟩) (c : PySem.W.codeIn K cd x = true) (k : PySem.W.keepIn K (.ref f) = true) : Txt K mg x st := ⟨f, _, PySem.W.mg_of X G a, fun_mk l c k⟩
theorem txtc_mk {h : Heap} {x : Str} {st : Stmt} {f c : Addr} {oc kV dc pm ct : Value} {od an : Option Addr} {sl : Array (Option Value)} {K : PySem.W.Frag} {mg : Str → Option Value} (X : K.In h) (G : h.Ns mainGlobals mg) (a : PySem.W.nsIn K mainGlobals x = some (some (.ref f)))
    (l : K.lookup f = some ⟨oc, od, .func (PySem.W.fnOf x x (defArgs st) (defBody st) (defScope st) .none kV dc pm an (.ref c) ct), sl⟩) (cd : PySem.W.codeIn K (.ref c) x = true) (k : PySem.W.keepIn K (.ref f) = true) : TxtC K mg x st c := ⟨f, oc, od, kV, dc, pm, an, ct, sl, PySem.W.mg_of X G a, k, l, cd⟩
/-- all defs of the text as they stand behind the top -/
structure Texts (K : PySem.W.Frag) (mg : Str → Option Value) (c : Addr) : Prop where
  t_reduced : Txt K mg "reduced" s_reduced
  t_added : Txt K mg "added" s_added
  t_lessened : Txt K mg "lessened" s_lessened
  t_times : Txt K mg "times" s_times
  t_over : Txt K mg "over" s_over
  t_compared : Txt K mg "compared" s_compared
  t_place_on : Txt K mg "place_on" s_place_on
  t_parting : Txt K mg "parting" s_parting
  t_dot : Txt K mg "dot" s_dot
  t_squared_at : Txt K mg "squared_at" s_squared_at
  t_ring_of : Txt K mg "ring_of" s_ring_of
  t_by_parts : Txt K mg "by_parts" s_by_parts
  t_on_side : Txt K mg "on_side" s_on_side
  t_crossing : Txt K mg "crossing" s_crossing
  t_is_within : Txt K mg "is_within" s_is_within
  t_nearest : Txt K mg "nearest" s_nearest
  t_is_apart : Txt K mg "is_apart" s_is_apart
  t_r_of : Txt K mg "r_of" s_r_of
  t_lag_of : Txt K mg "lag_of" s_lag_of
  t_rho_of : Txt K mg "rho_of" s_rho_of
  t_is_enough : Txt K mg "is_enough" s_is_enough
  t_least_ticks_for_all : TxtC K mg "least_ticks_for_all" s_least_ticks_for_all c
  t_tried : Txt K mg "tried" s_tried
  t_worst_couple : Txt K mg "worst_couple" s_worst_couple
  t_nearest_of : Txt K mg "nearest_of" s_nearest_of
  t_are_apart : Txt K mg "are_apart" s_are_apart
  t_is_flight_apart : Txt K mg "is_flight_apart" s_is_flight_apart
  t_may_meet : Txt K mg "may_meet" s_may_meet
  t_legs_between : Txt K mg "legs_between" s_legs_between
  t_couples_between : Txt K mg "couples_between" s_couples_between
  t_bad_couples : Txt K mg "bad_couples" s_bad_couples
  t_l_take : Txt K mg "_law_take" s_l_take
  t_l_bag : Txt K mg "_law_bag" s_l_bag
  t_l_some : Txt K mg "_law_some" s_l_some
  t_l_over : Txt K mg "_law_over" s_l_over
  t_l_added : Txt K mg "_law_added" s_l_added
  t_l_lessened : Txt K mg "_law_lessened" s_l_lessened
  t_l_multiplied : Txt K mg "_law_multiplied" s_l_multiplied
  t_l_is_below : Txt K mg "_law_is_below" s_l_is_below
  t_l_reach : Txt K mg "_law_reach" s_l_reach
  t_l_lag : Txt K mg "_law_lag" s_l_lag
  t_l_rho : Txt K mg "_law_rho" s_l_rho
  t_l_is_enough : Txt K mg "_law_is_enough" s_l_is_enough
  t_l_squared : Txt K mg "_law_squared" s_l_squared
  t_l_do_cross : Txt K mg "_law_do_cross" s_l_do_cross
  t_l_apart : Txt K mg "_law_apart" s_l_apart
  t_l_is_int : Txt K mg "_law_is_int" s_l_is_int
  t_l_is_column : Txt K mg "_law_is_column" s_l_is_column
  t_l_is_leg : Txt K mg "_law_is_leg" s_l_is_leg
  t_l_is_part : Txt K mg "_law_is_part" s_l_is_part
  t_l_gap : Txt K mg "_law_gap" s_l_gap
  t_l_dot : Txt K mg "_law_dot" s_l_dot
  t_l_gap_squared : Txt K mg "_law_gap_squared" s_l_gap_squared
  t_l_first_enough : Txt K mg "_law_first_enough" s_l_first_enough
  t_l_least_ticks : Txt K mg "_law_least_ticks" s_l_least_ticks
  t_l_is_worst : Txt K mg "_law_is_worst" s_l_is_worst
  t_l_bounds : Txt K mg "_law_bounds" s_l_bounds
  t_l_ticks : Txt K mg "_law_ticks" s_l_ticks
  t_doubled : Txt K mg "doubled" s_doubled
  n : Nm K mg
/-- the law's promise -/
theorem law_all {P : Program} {w : World} {K : PySem.W.Frag} {mg : Str → Option Value} {base : Heap} {c Pa fa : Addr} {fd : FuncData} (X : Texts K mg c) (TB : TabB base mg c Pa) (F : Fun K "law" "law" s_law fa fd) : FnOk P w K mg base CX0 11 fa fd ["_law_script"] (spLaw K Pa) := by
  have n := X.n
  have d_reduced := d_reduced (P := P) (w := w) (K := K) (mg := mg) (base := base) X.t_reduced n
  have d_added := d_added (P := P) (w := w) (K := K) (mg := mg) (base := base) X.t_added d_reduced
  have d_lessened := d_lessened (P := P) (w := w) (K := K) (mg := mg) (base := base) X.t_lessened d_reduced
  have d_times := d_times (P := P) (w := w) (K := K) (mg := mg) (base := base) X.t_times d_reduced
  have d_over := d_over (P := P) (w := w) (K := K) (mg := mg) (base := base) X.t_over d_reduced
  have d_compared := d_compared (P := P) (w := w) (K := K) (mg := mg) (base := base) X.t_compared n
  have d_place_on := d_place_on (P := P) (w := w) (K := K) (mg := mg) (base := base) X.t_place_on d_added d_times
  have d_parting := d_parting (P := P) (w := w) (K := K) (mg := mg) (base := base) X.t_parting d_place_on d_lessened
  have d_dot := d_dot (P := P) (w := w) (K := K) (mg := mg) (base := base) X.t_dot d_added d_times
  have d_squared_at := d_squared_at (P := P) (w := w) (K := K) (mg := mg) (base := base) X.t_squared_at d_parting d_dot
  have d_ring_of := d_ring_of (P := P) (w := w) (K := K) (mg := mg) (base := base) X.t_ring_of n d_lessened
  have d_by_parts := d_by_parts (P := P) (w := w) (K := K) (mg := mg) (base := base) X.t_by_parts n d_compared
  have d_on_side := d_on_side (P := P) (w := w) (K := K) (mg := mg) (base := base) X.t_on_side n d_parting d_dot d_added d_lessened d_times d_over
  have d_crossing := d_crossing (P := P) (w := w) (K := K) (mg := mg) (base := base) X.t_crossing d_over
  have d_is_within := d_is_within (P := P) (w := w) (K := K) (mg := mg) (base := base) X.t_is_within n d_compared d_lessened
  have d_nearest := d_nearest (P := P) (w := w) (K := K) (mg := mg) (base := base) X.t_nearest n d_ring_of d_on_side d_crossing d_is_within d_squared_at d_by_parts
  have d_is_apart := d_is_apart (P := P) (w := w) (K := K) (mg := mg) (base := base) X.t_is_apart d_nearest d_compared
  have d_r_of := d_r_of (P := P) (w := w) (K := K) (mg := mg) (base := base) X.t_r_of
  have d_lag_of := d_lag_of (P := P) (w := w) (K := K) (mg := mg) (base := base) X.t_lag_of
  have d_rho_of := d_rho_of (P := P) (w := w) (K := K) (mg := mg) (base := base) X.t_rho_of d_reduced d_lag_of
  have d_is_enough := d_is_enough (P := P) (w := w) (K := K) (mg := mg) (base := base) X.t_is_enough d_r_of d_rho_of
  have d_least_ticks_for_all := d_least_ticks_for_all (P := P) (w := w) (K := K) (mg := mg) (base := base) X.t_least_ticks_for_all TB X.t_doubled n d_is_enough d_r_of d_lag_of
  have d_tried := d_tried (P := P) (w := w) (K := K) (mg := mg) (base := base) X.t_tried n
  have d_worst_couple := d_worst_couple (P := P) (w := w) (K := K) (mg := mg) (base := base) X.t_worst_couple n d_is_enough d_r_of d_rho_of d_tried d_nearest d_compared
  have d_nearest_of := d_nearest_of (P := P) (w := w) (K := K) (mg := mg) (base := base) X.t_nearest_of n d_nearest d_compared
  have d_are_apart := d_are_apart (P := P) (w := w) (K := K) (mg := mg) (base := base) X.t_are_apart d_nearest_of d_compared
  have d_is_flight_apart := d_is_flight_apart (P := P) (w := w) (K := K) (mg := mg) (base := base) X.t_is_flight_apart d_are_apart d_r_of d_rho_of
  have d_may_meet := d_may_meet (P := P) (w := w) (K := K) (mg := mg) (base := base) X.t_may_meet
  have d_legs_between := d_legs_between (P := P) (w := w) (K := K) (mg := mg) (base := base) X.t_legs_between n
  have d_couples_between := d_couples_between (P := P) (w := w) (K := K) (mg := mg) (base := base) X.t_couples_between n d_legs_between d_may_meet
  have d_bad_couples := d_bad_couples (P := P) (w := w) (K := K) (mg := mg) (base := base) X.t_bad_couples d_couples_between d_is_apart d_r_of d_rho_of
  have d_l_take := d_l_take (P := P) (w := w) (K := K) (mg := mg) (base := base) X.t_l_take n
  have d_l_bag := d_l_bag (P := P) (w := w) (K := K) (mg := mg) (base := base) X.t_l_bag n
  have d_l_some := d_l_some (P := P) (w := w) (K := K) (mg := mg) (base := base) X.t_l_some n d_l_take
  have d_l_over := d_l_over (P := P) (w := w) (K := K) (mg := mg) (base := base) X.t_l_over n
  have d_l_added := d_l_added (P := P) (w := w) (K := K) (mg := mg) (base := base) X.t_l_added d_l_over
  have d_l_lessened := d_l_lessened (P := P) (w := w) (K := K) (mg := mg) (base := base) X.t_l_lessened d_l_over
  have d_l_multiplied := d_l_multiplied (P := P) (w := w) (K := K) (mg := mg) (base := base) X.t_l_multiplied d_l_over
  have d_l_is_below := d_l_is_below (P := P) (w := w) (K := K) (mg := mg) (base := base) X.t_l_is_below
  have d_l_reach := d_l_reach (P := P) (w := w) (K := K) (mg := mg) (base := base) X.t_l_reach
  have d_l_lag := d_l_lag (P := P) (w := w) (K := K) (mg := mg) (base := base) X.t_l_lag
  have d_l_rho := d_l_rho (P := P) (w := w) (K := K) (mg := mg) (base := base) X.t_l_rho d_l_over d_l_lag
  have d_l_is_enough := d_l_is_enough (P := P) (w := w) (K := K) (mg := mg) (base := base) X.t_l_is_enough d_l_reach d_l_lag
  have d_l_squared := d_l_squared (P := P) (w := w) (K := K) (mg := mg) (base := base) X.t_l_squared
  have d_l_do_cross := d_l_do_cross (P := P) (w := w) (K := K) (mg := mg) (base := base) X.t_l_do_cross
  have d_l_apart := d_l_apart (P := P) (w := w) (K := K) (mg := mg) (base := base) X.t_l_apart n d_l_lessened
  have d_l_is_int := d_l_is_int (P := P) (w := w) (K := K) (mg := mg) (base := base) X.t_l_is_int n
  have d_l_is_column := d_l_is_column (P := P) (w := w) (K := K) (mg := mg) (base := base) X.t_l_is_column n d_l_is_int
  have d_l_is_leg := d_l_is_leg (P := P) (w := w) (K := K) (mg := mg) (base := base) X.t_l_is_leg n d_l_is_column
  have d_l_is_part := d_l_is_part (P := P) (w := w) (K := K) (mg := mg) (base := base) X.t_l_is_part d_l_over d_l_is_column
  have d_l_gap := d_l_gap (P := P) (w := w) (K := K) (mg := mg) (base := base) X.t_l_gap d_l_added d_l_lessened d_l_multiplied
  have d_l_dot := d_l_dot (P := P) (w := w) (K := K) (mg := mg) (base := base) X.t_l_dot d_l_added d_l_multiplied
  have d_l_gap_squared := d_l_gap_squared (P := P) (w := w) (K := K) (mg := mg) (base := base) X.t_l_gap_squared d_l_gap d_l_dot
  have d_l_first_enough := d_l_first_enough (P := P) (w := w) (K := K) (mg := mg) (base := base) X.t_l_first_enough n d_l_lag d_l_is_enough
  have d_l_least_ticks := d_l_least_ticks (P := P) (w := w) (K := K) (mg := mg) (base := base) X.t_l_least_ticks d_l_reach d_l_lag d_l_first_enough
  have d_l_is_worst := d_l_is_worst (P := P) (w := w) (K := K) (mg := mg) (base := base) X.t_l_is_worst n d_l_is_int d_l_is_leg d_l_is_part d_l_is_below d_l_rho d_l_apart d_l_do_cross d_l_reach d_l_squared d_l_gap_squared
  have d_l_bounds := d_l_bounds (P := P) (w := w) (K := K) (mg := mg) (base := base) X.t_l_bounds n d_l_take d_l_some
  have d_l_ticks := d_l_ticks (P := P) (w := w) (K := K) (mg := mg) (base := base) X.t_l_ticks n d_l_take d_l_some d_l_lag
  exact f_law F n d_l_bag d_l_bounds d_l_ticks d_l_some d_is_enough d_l_is_enough d_least_ticks_for_all d_l_least_ticks d_worst_couple d_l_is_worst d_is_flight_apart d_bad_couples
/-- the end, where one def makes a function of its own -/
theorem walk_tab {l : PySem.W.OpenLaw} {n k : Nat} {q : Program} {loose : List Str} {XP : (Str → Option Value) → Heap → Prop} {YP : World → Heap → Prop} {d : DefRec} {K : Params → PySem.W.Frag} {CX : World → CXT} {x nm : Str}
    (hn : l.most = some n) (hn2 : n ≤ sizeLine) (hdf : d.params.defaults = []) (hr : Room k callerA) (hrec : ((recsOf q).any fun e => e.name == nm) = true) (hY : ∀ (w : World) (h : Heap), YP w h → (K w.params).In h)
    (F : ∀ (w : World) (mg : Str → Option Value) (fa : Addr) (h : Heap), YP w h → (K w.params).In h → h.Ns mainGlobals mg → mg d.name = some (.ref fa) → (∀ f, mg nm = some (.ref f) → OwnTab (K w.params) f h) → LawAtS l w (K w.params) (CX w) k n x mg fa h)
    (hCX : ∀ (w : World) (H : Hp) (s : Shared) (e : Value) (s' : Shared), CX w [] H s (fun _ _ _ => False) e s' → False) : PySem.W.WalkO q loose XP YP l.row.toRowW d [] (fun f vs => PySem.call f vs) := by
  refine Att.attach_callB hn hdf fun w s₀ s₁ mg mb fa o pm cd doc a vs ns G Y ho hd hcd hmg hobj hints hlen hbits hg => ?_
  have KX := hY w _ Y
  have own : ∀ f, mg nm = some (.ref f) → OwnTab (K w.params) f s₁.heap := fun f hf c P o1 fd1 e dd vs1 sl k1 k2 k3 k4 k5 => by
    obtain ⟨dL, hm, h0⟩ := List.any_eq_true.mp hrec
    obtain ⟨a', o', fd', c', P', h1, h2, h3, h4, h5, h6⟩ := G.T.tab dL hm
    rw [beq_iff_eq.mp h0, hf] at h1
    cases h1
    have g1 := KX _ _ k1
    rw [g1] at h2
    cases h2
    rw [k2] at h3
    cases h3
    rw [k3] at h4
    cases h4
    obtain ⟨⟨oc, vc, e1, _, e3, e4⟩, hP⟩ := h6
    have g2 := KX _ _ k4
    rw [g2] at e1
    cases e1
    cases e3
    rw [k5] at e4
    cases e4
    exact hP
  obtain ⟨fd, cs, sp, hT, nT, C, hb, hsp, hF⟩ := F w mg fa _ Y KX G.T.g hmg own
  exact law_callTs KX G.T.g G.T.b G.T.builtins G.T.nolimit hg hT nT C G.T.bmain hobj hints (Nat.le_trans hlen hn2) hr hF hb (fun H hH hS => hsp H a ns hlen hbits hH hS) fun H e s' => hCX w H s₁ e s'
theorem nm_mk {h : Heap} {K : PySem.W.Frag} {mg : Str → Option Value} {p0 p1 : Addr} {d0 d1 : Option Addr} {t0 t1 u0 u1 : Tok} {n0 n1 : Nat} {sl0 sl1 : Array (Option Value)} (X : K.In h) (G : h.Ns mainGlobals mg) (z1 : PySem.W.nsIn K mainGlobals "len" = some none) (z2 : PySem.W.nsIn K mainGlobals "abs" = some none) (z3 : PySem.W.nsIn K mainGlobals "max" = some none)
    (z4 : PySem.W.nsIn K mainGlobals "int" = some none) (z5 : PySem.W.nsIn K mainGlobals "tuple" = some none) (z6 : PySem.W.nsIn K mainGlobals "sorted" = some none) (z7 : PySem.W.nsIn K mainGlobals "all" = some none) (z8 : PySem.W.nsIn K mainGlobals "isinstance" = some none)
    (z9 : PySem.W.nsIn K mainGlobals "bool" = some none) (z10 : PySem.W.nsIn K mainGlobals "zip" = some none) (z11 : PySem.W.nsIn K mainGlobals "enumerate" = some none) (z12 : PySem.W.nsIn K mainGlobals "range" = some none)
    (z13 : PySem.W.nsIn K mainGlobals "gcd" = some (some (.builtin "math.gcd"))) (z14 : PySem.W.nsIn K mainGlobals "isqrt" = some (some (.builtin "math.isqrt"))) (z15 : PySem.W.nsIn K mainGlobals "NOUGHT" = some (some (.ref p0))) (z16 : PySem.W.nsIn K mainGlobals "ONE" = some (some (.ref p1)))
    (l0 : K.lookup p0 = some ⟨.type "tuple", d0, .seq #[.int 0 t0, .int 1 t1] n0, sl0⟩) (l1 : K.lookup p1 = some ⟨.type "tuple", d1, .seq #[.int 1 u0, .int 1 u1] n1, sl1⟩) : Nm K mg where
  len := PySem.W.mg_none_of X G z1
  abs := PySem.W.mg_none_of X G z2
  max := PySem.W.mg_none_of X G z3
  int := PySem.W.mg_none_of X G z4
  tuple := PySem.W.mg_none_of X G z5
  sorted := PySem.W.mg_none_of X G z6
  all := PySem.W.mg_none_of X G z7
  isinstance := PySem.W.mg_none_of X G z8
  bool := PySem.W.mg_none_of X G z9
  zip := PySem.W.mg_none_of X G z10
  enumerate := PySem.W.mg_none_of X G z11
  range := PySem.W.mg_none_of X G z12
  gcd := PySem.W.mg_of X G z13
  isqrt := PySem.W.mg_of X G z14
  nought := ⟨p0, PySem.W.mg_of X G z15, fun H => ⟨p0, .int 0, .int 1, rfl, .inr ⟨_, _, _, l0, rfl, rfl, by show 2 ≤ sizeLine; decide, .cons ⟨_, rfl⟩ (.cons ⟨_, rfl⟩ .nil)⟩, rfl, rfl⟩⟩
  one := ⟨p1, PySem.W.mg_of X G z16, fun H => ⟨p1, .int 1, .int 1, rfl, .inr ⟨_, _, _, l1, rfl, rfl, by show 2 ≤ sizeLine; decide, .cons ⟨_, rfl⟩ (.cons ⟨_, rfl⟩ .nil)⟩, rfl, rfl⟩⟩
theorem law_end {l : PySem.W.OpenLaw} {w : World} {K : PySem.W.Frag} {h : Heap} {mg : Str → Option Value} {fa f c Pa : Addr} (X : K.In h) (G : h.Ns mainGlobals mg) (hfa : mg "law" = some (.ref fa)) (own : ∀ f, mg "least_ticks_for_all" = some (.ref f) → OwnTab K f h)
    {od an od2 an2 dc2 : Option Addr} {sl sl2 slc : Array (Option Value)} {oc kV dc pm cd ct oc2 kV2 doc2 pm2 ct2 : Value} {vs : Array Value} {file : Str} {tf tg tt : Tok} {flags text : Int} {inF : Bool} {f2 : Addr}
    (tx : Texts K mg c) (a1 : PySem.W.nsIn K mainGlobals "law" = some (some (.ref f))) (l1 : K.lookup f = some ⟨oc, od, .func (PySem.W.fnOf "law" "law" (defArgs s_law) (defBody s_law) (defScope s_law) .none kV dc pm an cd ct), sl⟩) (c1 : PySem.W.codeIn K cd "law" = true) (k1 : PySem.W.keepIn K (.ref f) = true)
    (a2 : PySem.W.nsIn K mainGlobals "least_ticks_for_all" = some (some (.ref f2))) (l2 : K.lookup f2 = some ⟨oc2, od2, .func (PySem.W.fnOf "least_ticks_for_all" "least_ticks_for_all" (defArgs s_least_ticks_for_all) (defBody s_least_ticks_for_all) (defScope s_least_ticks_for_all) .none kV2 doc2 pm2 an2 (.ref c) ct2), sl2⟩)
    (lc : K.lookup c = some ⟨.type "code", dc2, .fields vs, slc⟩) (v11 : vs[11]? = some (.ref Pa)) (w11 : vs.getD 11 .none = .ref Pa) (v18 : vs.getD 18 .none = .str file tf) (v7 : vs.getD 7 .none = .int flags tg) (v9 : vs.getD 9 .none = .bool inF) (v10 : vs.getD 10 .none = .int text tt) (nP : K.lookup Pa = none) :
    LawAtS l w K CX0 11 63 "_law_script" mg fa h := by
  have e := hfa.symm.trans (PySem.W.mg_of X G a1)
  cases e
  have F1 := fun_mk (st := s_law) l1 c1 k1
  have hP : h.get? Pa = some { cls := .none, data := .fields #[] } := own f2 (PySem.W.mg_of X G a2) c Pa _ _ _ _ _ _ l2 rfl rfl lc v11
  have ncP : c ≠ Pa := fun z => by
    rw [z, nP] at lc
    cases lc
  refine ⟨PySem.W.fnOf "law" "law" (defArgs s_law) (defBody s_law) (defScope s_law) .none kV dc pm an cd ct, [(c, Pa)], spLaw K Pa, ?_, ?_, ?_, fun s v => .of_eq rfl, ?_, ?_⟩
  · intro p hp
    rw [List.mem_singleton.mp hp]
    exact hP
  · intro p hp
    rw [List.mem_singleton.mp hp]
    exact nP
  · intro p hp
    rw [List.mem_singleton.mp hp]
    exact ⟨_, _, file, tf, flags, tg, inF, text, tt, X _ _ lc, rfl, rfl, v11, w11, v18, v7, v9, v10, ncP⟩
  · intro H a ns _ _ hT hS
    exact ⟨a, ns, rfl, hS, TabS.nil (hT (c, Pa) (List.mem_singleton.mpr rfl)), fun _ => rfl⟩
  · intro base _ _ TB
    exact law_all tx (TB (c, Pa) (List.mem_singleton.mpr rfl)) F1
end
end Lp
set_option Elab.async false
set_option linter.all false
set_option maxRecDepth 100000
open PySem PySem.W PyProof.Rows L2
set_option maxHeartbeats 0 in
theorem PySem.Challenge.cw_lampsaloft_k45_whole_what_is_multiplied_holds : PySem.Challenge.rw_lampsaloft_k45_whole_what_is_multiplied.Holds := by
  w_on; o_law; k_head; (case hw => w_witness2)
  k_fill
  refine Lp.walk_tab (l := PySem.Challenge.rw_lampsaloft_k45_whole_what_is_multiplied) (n := 63) (k := 11) (x := "_law_script") (nm := "least_ticks_for_all") (CX := fun _ => CX0) rfl (by decide) rfl ⟨rfl, by decide, by decide⟩ ?R (fun w h Y => PySem.W.km_in_of Y) ?F (fun _ _ _ _ _ z => z)
  case R => first | rfl | decide +kernel
  case F =>
    intro w mg fa h Y KX G hmg own
    refine' Lp.law_end KX G hmg own ?tx ?a1 ?l1 ?c1 ?k1 ?a2 ?l2 ?lc ?v11 ?w11 ?v18 ?v7 ?v9 ?v10 ?nP
    (case a1 => k_is)
    (case l1 => k_is)
    (case c1 => k_is)
    (case k1 => k_is)
    (case a2 => k_is)
    (case l2 => k_is)
    (case lc => k_is)
    (case v11 => first | rfl | k_is | decide +kernel)
    (case w11 => first | rfl | k_is | decide +kernel)
    (case v18 => first | rfl | k_is | decide +kernel)
    (case v7 => first | rfl | k_is | decide +kernel)
    (case v9 => first | rfl | k_is | decide +kernel)
    (case v10 => first | rfl | k_is | decide +kernel)
    (case nP => first | rfl | k_is | decide +kernel)
    (case tx =>
      constructor
      · (refine' Lp.txt_mk KX G ?qa27 ?ql27 ?qc27 ?qk27; (case qa27 => k_is); (case ql27 => k_is); (case qc27 => k_is); (case qk27 => k_is))
      · (refine' Lp.txt_mk KX G ?qa28 ?ql28 ?qc28 ?qk28; (case qa28 => k_is); (case ql28 => k_is); (case qc28 => k_is); (case qk28 => k_is))
      · (refine' Lp.txt_mk KX G ?qa29 ?ql29 ?qc29 ?qk29; (case qa29 => k_is); (case ql29 => k_is); (case qc29 => k_is); (case qk29 => k_is))
      · (refine' Lp.txt_mk KX G ?qa30 ?ql30 ?qc30 ?qk30; (case qa30 => k_is); (case ql30 => k_is); (case qc30 => k_is); (case qk30 => k_is))
      · (refine' Lp.txt_mk KX G ?qa31 ?ql31 ?qc31 ?qk31; (case qa31 => k_is); (case ql31 => k_is); (case qc31 => k_is); (case qk31 => k_is))
      · (refine' Lp.txt_mk KX G ?qa32 ?ql32 ?qc32 ?qk32; (case qa32 => k_is); (case ql32 => k_is); (case qc32 => k_is); (case qk32 => k_is))
      · (refine' Lp.txt_mk KX G ?qa33 ?ql33 ?qc33 ?qk33; (case qa33 => k_is); (case ql33 => k_is); (case qc33 => k_is); (case qk33 => k_is))
      · (refine' Lp.txt_mk KX G ?qa34 ?ql34 ?qc34 ?qk34; (case qa34 => k_is); (case ql34 => k_is); (case qc34 => k_is); (case qk34 => k_is))
      · (refine' Lp.txt_mk KX G ?qa35 ?ql35 ?qc35 ?qk35; (case qa35 => k_is); (case ql35 => k_is); (case qc35 => k_is); (case qk35 => k_is))
      · (refine' Lp.txt_mk KX G ?qa36 ?ql36 ?qc36 ?qk36; (case qa36 => k_is); (case ql36 => k_is); (case qc36 => k_is); (case qk36 => k_is))
      · (refine' Lp.txt_mk KX G ?qa37 ?ql37 ?qc37 ?qk37; (case qa37 => k_is); (case ql37 => k_is); (case qc37 => k_is); (case qk37 => k_is))
      · (refine' Lp.txt_mk KX G ?qa38 ?ql38 ?qc38 ?qk38; (case qa38 => k_is); (case ql38 => k_is); (case qc38 => k_is); (case qk38 => k_is))
      · (refine' Lp.txt_mk KX G ?qa39 ?ql39 ?qc39 ?qk39; (case qa39 => k_is); (case ql39 => k_is); (case qc39 => k_is); (case qk39 => k_is))
      · (refine' Lp.txt_mk KX G ?qa40 ?ql40 ?qc40 ?qk40; (case qa40 => k_is); (case ql40 => k_is); (case qc40 => k_is); (case qk40 => k_is))
      · (refine' Lp.txt_mk KX G ?qa41 ?ql41 ?qc41 ?qk41; (case qa41 => k_is); (case ql41 => k_is); (case qc41 => k_is); (case qk41 => k_is))
      · (refine' Lp.txt_mk KX G ?qa42 ?ql42 ?qc42 ?qk42; (case qa42 => k_is); (case ql42 => k_is); (case qc42 => k_is); (case qk42 => k_is))
      · (refine' Lp.txt_mk KX G ?qa43 ?ql43 ?qc43 ?qk43; (case qa43 => k_is); (case ql43 => k_is); (case qc43 => k_is); (case qk43 => k_is))
      · (refine' Lp.txt_mk KX G ?qa44 ?ql44 ?qc44 ?qk44; (case qa44 => k_is); (case ql44 => k_is); (case qc44 => k_is); (case qk44 => k_is))
      · (refine' Lp.txt_mk KX G ?qa45 ?ql45 ?qc45 ?qk45; (case qa45 => k_is); (case ql45 => k_is); (case qc45 => k_is); (case qk45 => k_is))
      · (refine' Lp.txt_mk KX G ?qa46 ?ql46 ?qc46 ?qk46; (case qa46 => k_is); (case ql46 => k_is); (case qc46 => k_is); (case qk46 => k_is))
      · (refine' Lp.txt_mk KX G ?qa47 ?ql47 ?qc47 ?qk47; (case qa47 => k_is); (case ql47 => k_is); (case qc47 => k_is); (case qk47 => k_is))
      · (refine' Lp.txtc_mk KX G ?qa48 ?ql48 ?qc48 ?qk48; (case qa48 => k_is); (case ql48 => k_is); (case qc48 => k_is); (case qk48 => k_is))
      · (refine' Lp.txt_mk KX G ?qa49 ?ql49 ?qc49 ?qk49; (case qa49 => k_is); (case ql49 => k_is); (case qc49 => k_is); (case qk49 => k_is))
      · (refine' Lp.txt_mk KX G ?qa50 ?ql50 ?qc50 ?qk50; (case qa50 => k_is); (case ql50 => k_is); (case qc50 => k_is); (case qk50 => k_is))
      · (refine' Lp.txt_mk KX G ?qa51 ?ql51 ?qc51 ?qk51; (case qa51 => k_is); (case ql51 => k_is); (case qc51 => k_is); (case qk51 => k_is))
      · (refine' Lp.txt_mk KX G ?qa52 ?ql52 ?qc52 ?qk52; (case qa52 => k_is); (case ql52 => k_is); (case qc52 => k_is); (case qk52 => k_is))
      · (refine' Lp.txt_mk KX G ?qa53 ?ql53 ?qc53 ?qk53; (case qa53 => k_is); (case ql53 => k_is); (case qc53 => k_is); (case qk53 => k_is))
      · (refine' Lp.txt_mk KX G ?qa54 ?ql54 ?qc54 ?qk54; (case qa54 => k_is); (case ql54 => k_is); (case qc54 => k_is); (case qk54 => k_is))
      · (refine' Lp.txt_mk KX G ?qa55 ?ql55 ?qc55 ?qk55; (case qa55 => k_is); (case ql55 => k_is); (case qc55 => k_is); (case qk55 => k_is))
      · (refine' Lp.txt_mk KX G ?qa56 ?ql56 ?qc56 ?qk56; (case qa56 => k_is); (case ql56 => k_is); (case qc56 => k_is); (case qk56 => k_is))
      · (refine' Lp.txt_mk KX G ?qa57 ?ql57 ?qc57 ?qk57; (case qa57 => k_is); (case ql57 => k_is); (case qc57 => k_is); (case qk57 => k_is))
      · (refine' Lp.txt_mk KX G ?qa58 ?ql58 ?qc58 ?qk58; (case qa58 => k_is); (case ql58 => k_is); (case qc58 => k_is); (case qk58 => k_is))
      · (refine' Lp.txt_mk KX G ?qa59 ?ql59 ?qc59 ?qk59; (case qa59 => k_is); (case ql59 => k_is); (case qc59 => k_is); (case qk59 => k_is))
      · (refine' Lp.txt_mk KX G ?qa60 ?ql60 ?qc60 ?qk60; (case qa60 => k_is); (case ql60 => k_is); (case qc60 => k_is); (case qk60 => k_is))
      · (refine' Lp.txt_mk KX G ?qa61 ?ql61 ?qc61 ?qk61; (case qa61 => k_is); (case ql61 => k_is); (case qc61 => k_is); (case qk61 => k_is))
      · (refine' Lp.txt_mk KX G ?qa62 ?ql62 ?qc62 ?qk62; (case qa62 => k_is); (case ql62 => k_is); (case qc62 => k_is); (case qk62 => k_is))
      · (refine' Lp.txt_mk KX G ?qa63 ?ql63 ?qc63 ?qk63; (case qa63 => k_is); (case ql63 => k_is); (case qc63 => k_is); (case qk63 => k_is))
      · (refine' Lp.txt_mk KX G ?qa64 ?ql64 ?qc64 ?qk64; (case qa64 => k_is); (case ql64 => k_is); (case qc64 => k_is); (case qk64 => k_is))
      · (refine' Lp.txt_mk KX G ?qa65 ?ql65 ?qc65 ?qk65; (case qa65 => k_is); (case ql65 => k_is); (case qc65 => k_is); (case qk65 => k_is))
      · (refine' Lp.txt_mk KX G ?qa66 ?ql66 ?qc66 ?qk66; (case qa66 => k_is); (case ql66 => k_is); (case qc66 => k_is); (case qk66 => k_is))
      · (refine' Lp.txt_mk KX G ?qa67 ?ql67 ?qc67 ?qk67; (case qa67 => k_is); (case ql67 => k_is); (case qc67 => k_is); (case qk67 => k_is))
      · (refine' Lp.txt_mk KX G ?qa68 ?ql68 ?qc68 ?qk68; (case qa68 => k_is); (case ql68 => k_is); (case qc68 => k_is); (case qk68 => k_is))
      · (refine' Lp.txt_mk KX G ?qa69 ?ql69 ?qc69 ?qk69; (case qa69 => k_is); (case ql69 => k_is); (case qc69 => k_is); (case qk69 => k_is))
      · (refine' Lp.txt_mk KX G ?qa70 ?ql70 ?qc70 ?qk70; (case qa70 => k_is); (case ql70 => k_is); (case qc70 => k_is); (case qk70 => k_is))
      · (refine' Lp.txt_mk KX G ?qa71 ?ql71 ?qc71 ?qk71; (case qa71 => k_is); (case ql71 => k_is); (case qc71 => k_is); (case qk71 => k_is))
      · (refine' Lp.txt_mk KX G ?qa72 ?ql72 ?qc72 ?qk72; (case qa72 => k_is); (case ql72 => k_is); (case qc72 => k_is); (case qk72 => k_is))
      · (refine' Lp.txt_mk KX G ?qa73 ?ql73 ?qc73 ?qk73; (case qa73 => k_is); (case ql73 => k_is); (case qc73 => k_is); (case qk73 => k_is))
      · (refine' Lp.txt_mk KX G ?qa74 ?ql74 ?qc74 ?qk74; (case qa74 => k_is); (case ql74 => k_is); (case qc74 => k_is); (case qk74 => k_is))
      · (refine' Lp.txt_mk KX G ?qa75 ?ql75 ?qc75 ?qk75; (case qa75 => k_is); (case ql75 => k_is); (case qc75 => k_is); (case qk75 => k_is))
      · (refine' Lp.txt_mk KX G ?qa76 ?ql76 ?qc76 ?qk76; (case qa76 => k_is); (case ql76 => k_is); (case qc76 => k_is); (case qk76 => k_is))
      · (refine' Lp.txt_mk KX G ?qa77 ?ql77 ?qc77 ?qk77; (case qa77 => k_is); (case ql77 => k_is); (case qc77 => k_is); (case qk77 => k_is))
      · (refine' Lp.txt_mk KX G ?qa78 ?ql78 ?qc78 ?qk78; (case qa78 => k_is); (case ql78 => k_is); (case qc78 => k_is); (case qk78 => k_is))
      · (refine' Lp.txt_mk KX G ?qa79 ?ql79 ?qc79 ?qk79; (case qa79 => k_is); (case ql79 => k_is); (case qc79 => k_is); (case qk79 => k_is))
      · (refine' Lp.txt_mk KX G ?qa80 ?ql80 ?qc80 ?qk80; (case qa80 => k_is); (case ql80 => k_is); (case qc80 => k_is); (case qk80 => k_is))
      · (refine' Lp.txt_mk KX G ?qa81 ?ql81 ?qc81 ?qk81; (case qa81 => k_is); (case ql81 => k_is); (case qc81 => k_is); (case qk81 => k_is))
      · (refine' Lp.txt_mk KX G ?qa82 ?ql82 ?qc82 ?qk82; (case qa82 => k_is); (case ql82 => k_is); (case qc82 => k_is); (case qk82 => k_is))
      · (refine' Lp.txt_mk KX G ?qa83 ?ql83 ?qc83 ?qk83; (case qa83 => k_is); (case ql83 => k_is); (case qc83 => k_is); (case qk83 => k_is))
      · (refine' Lp.txt_mk KX G ?qa84 ?ql84 ?qc84 ?qk84; (case qa84 => k_is); (case ql84 => k_is); (case qc84 => k_is); (case qk84 => k_is))
      · (refine' Lp.txt_mk KX G ?qa85 ?ql85 ?qc85 ?qk85; (case qa85 => k_is); (case ql85 => k_is); (case qc85 => k_is); (case qk85 => k_is))
      · (refine' Lp.nm_mk KX G ?z1 ?z2 ?z3 ?z4 ?z5 ?z6 ?z7 ?z8 ?z9 ?z10 ?z11 ?z12 ?z13 ?z14 ?z15 ?z16 ?l0 ?l1; (case z1 => k_is); (case z2 => k_is); (case z3 => k_is); (case z4 => k_is); (case z5 => k_is); (case z6 => k_is); (case z7 => k_is); (case z8 => k_is); (case z9 => k_is); (case z10 => k_is); (case z11 => k_is); (case z12 => k_is); (case z13 => k_is); (case z14 => k_is); (case z15 => k_is); (case z16 => k_is); (case l0 => k_is); (case l1 => k_is)))
