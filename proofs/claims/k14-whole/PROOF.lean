import PyProof.Rows.All
import Wide.All
import OpenK.AllK
import Wide.FinOn
import HandS.Base
import HandS.Call
import HandS.Codes
import HandS.Comp
import HandS.Defaults
import HandS.Dict
import HandS.EndBits
import HandS.Ends
import HandS.FStr
import HandS.Head0
import HandS.Head1
import HandS.Head2
import HandS.HeadEnd
import HandS.HeadHook1
import HandS.HeadHook2
import HandS.IsInst
import HandS.Iter
import HandS.List
import HandS.MakeKwOnly
import HandS.More
import HandS.Replace
import HandS.Slots
import HandS.SlotsOwn
import HandS.Small
import HandS.Star
import HandS.StrMore
import HandS.Style
import HandS.Text
import HandS.TryOnly
import HandS.TupAny
import HandS.Walk
import HandS.Wide
import HandS.WideBits
import HandS.WideMore
import HandS.Words
import HandS.WordsList
import KE.GoesEnum
import KE.GoesMore
import KE.KStateDown
import PyProof.Rows.StrCut
import PySem.Str
import PySem.Challenge.RW_shortfigures_k14_whole_figures_counted_i
section TMathA
/-! MathA: the plain theory of places. No program in sight. -/
namespace SF

/-- a rounding -/
inductive Rnd where
  | down | up | near | even
  deriving DecidableEq

/-- the first integer rounded to the mark m; z: the first unit -/
def ff (r : Rnd) (z : Bool) (s m : Int) : Int :=
  if z = true ∨ r = .down then m * s
  else if r = .up then (m - 1) * s + 1
  else if r = .near ∨ m % 2 = 0 then m * s - s / 2
  else m * s - s / 2 + 1

theorem ff_step (r : Rnd) (z : Bool) (s m : Int) (h1 : 1 ≤ s) (h2 : z = false → s % 2 = 0) : ff r z s m < ff r z s (m + 1) := by
  have e1 : (m + 1) * s = m * s + s := by rw [Int.add_mul, Int.one_mul]
  have e2 : (m - 1) * s = m * s - s := by rw [Int.sub_mul, Int.one_mul]
  have e3 : (m + 1 - 1) * s = m * s := by rw [show m + 1 - 1 = m by omega]
  unfold ff
  rw [e1, e2, e3]
  generalize m * s = t
  cases z with
  | true => simp; omega
  | false =>
    have h3 := h2 rfl
    cases r <;> simp
    all_goals omega

theorem ff_lt (r : Rnd) (z : Bool) (s : Int) (h1 : 1 ≤ s) (h2 : z = false → s % 2 = 0) (m : Int) (k : Nat) : ff r z s m + k ≤ ff r z s (m + k) := by
  induction k with
  | zero => simp
  | succ k ih =>
    have := ff_step r z s (m + k) h1 h2
    have e : m + ((k + 1 : Nat) : Int) = m + k + 1 := by omega
    rw [e]
    omega

/-- the mark to which n is rounded -/
def mrk (r : Rnd) (z : Bool) (s n : Int) : Int :=
  if n ≥ ff r z s (n / s + 1) then n / s + 1 else n / s

theorem mrk_ok (r : Rnd) (z : Bool) (s n : Int) (h1 : 1 ≤ s) (h2 : z = false → s % 2 = 0) : ff r z s (mrk r z s n) ≤ n ∧ n < ff r z s (mrk r z s n + 1) := by
  have hd := Int.emod_add_mul_ediv n s
  have hr1 := Int.emod_nonneg n (show s ≠ 0 by omega)
  have hr2 := Int.emod_lt_of_pos n (show 0 < s by omega)
  unfold mrk
  generalize n / s = q at *
  generalize n % s = t at *
  have e0 : s * q = q * s := Int.mul_comm _ _
  have e1 : (q + 1) * s = q * s + s := by rw [Int.add_mul, Int.one_mul]
  have e2 : (q - 1) * s = q * s - s := by rw [Int.sub_mul, Int.one_mul]
  have e3 : (q + 1 - 1) * s = q * s := by rw [show q + 1 - 1 = q by omega]
  have e4 : (q + 1 + 1) * s = q * s + s + s := by rw [Int.add_mul, e1, Int.one_mul]
  have e5 : (q + 1 + 1 - 1) * s = q * s + s := by rw [show q + 1 + 1 - 1 = q + 1 by omega, e1]
  rw [e0] at hd
  by_cases hc : n ≥ ff r z s (q + 1)
  · rw [if_pos hc]
    unfold ff at hc ⊢
    simp only [e1, e3, e4, e5] at hc ⊢
    generalize q * s = u at *
    cases z with
    | true => simp at hc ⊢; omega
    | false =>
      have h3 := h2 rfl
      cases r <;> simp at hc ⊢ <;> omega
  · rw [if_neg hc]
    unfold ff at hc ⊢
    simp only [e1, e2, e3] at hc ⊢
    generalize q * s = u at *
    cases z with
    | true => simp at hc ⊢; omega
    | false =>
      have h3 := h2 rfl
      cases r <;> simp at hc ⊢ <;> omega

/-- a system of units: k of them, starts, first numbers of marks, marks -/
structure Sys where
  k : Nat
  st : Nat → Int
  f : Nat → Int → Int
  m : Nat → Int → Int
  k1 : 1 ≤ k
  st0 : st 0 = 0
  inc : ∀ i, i + 1 < k → st i < st (i + 1)
  up : ∀ u x, u < k → f u x < f u (x + 1)
  mok : ∀ u n, u < k → f u (m u n) ≤ n ∧ n < f u (m u n + 1)

namespace Sys
variable (S : Sys)

theorem upn {u : Nat} (hu : u < S.k) (x : Int) (j : Nat) : S.f u x + j ≤ S.f u (x + j) := by
  induction j with
  | zero => simp
  | succ j ih =>
    have := S.up u (x + j) hu
    have e : x + ((j + 1 : Nat) : Int) = x + j + 1 := by omega
    rw [e]
    omega
theorem up_le {u : Nat} (hu : u < S.k) {x y : Int} (h : x ≤ y) : S.f u x ≤ S.f u y := by
  have := S.upn hu x (y - x).toNat
  have e : x + ((y - x).toNat : Int) = y := by omega
  rw [e] at this
  omega
theorem up_lt {u : Nat} (hu : u < S.k) {x y : Int} (h : x < y) : S.f u x < S.f u y := by
  have h1 := S.up u x hu
  have h2 := S.up_le hu (show x + 1 ≤ y by omega)
  omega
/-- the mark is the only one -/
theorem m_uniq {u : Nat} (hu : u < S.k) {n x : Int} (h1 : S.f u x ≤ n) (h2 : n < S.f u (x + 1)) : S.m u n = x := by
  have ⟨h3, h4⟩ := S.mok u n hu
  rcases Int.lt_trichotomy (S.m u n) x with h | h | h
  · have := S.up_le hu (show S.m u n + 1 ≤ x by omega)
    omega
  · exact h
  · have := S.up_le hu (show x + 1 ≤ S.m u n by omega)
    omega
theorem m_mono {u : Nat} (hu : u < S.k) {a b : Int} (h : a ≤ b) : S.m u a ≤ S.m u b := by
  have ⟨h1, _⟩ := S.mok u a hu
  have ⟨_, h4⟩ := S.mok u b hu
  rcases Int.lt_or_le (S.m u b) (S.m u a) with q | q
  · have := S.up_le hu (show S.m u b + 1 ≤ S.m u a by omega)
    omega
  · exact q
theorem m_succ {u : Nat} (hu : u < S.k) (n : Int) : S.m u (n + 1) = S.m u n ∨ S.m u (n + 1) = S.m u n + 1 := by
  have ⟨h1, h2⟩ := S.mok u n hu
  rcases Int.lt_or_le (n + 1) (S.f u (S.m u n + 1)) with q | q
  · exact .inl (S.m_uniq hu (by omega) q)
  · refine .inr (S.m_uniq hu q ?_)
    have := S.up u (S.m u n + 1) hu
    omega
theorem st_mono : ∀ {j i : Nat}, i ≤ j → j < S.k → S.st i ≤ S.st j
  | 0, i, h, _ => by rw [show i = 0 by omega]; exact Int.le_refl _
  | j + 1, i, h, hk => by
    rcases Nat.lt_or_ge i (j + 1) with q | q
    · have := st_mono (j := j) (i := i) (by omega) (by omega)
      have := S.inc j hk
      omega
    · rw [show i = j + 1 by omega]; exact Int.le_refl _
theorem st_lt {i j : Nat} (h : i < j) (hk : j < S.k) : S.st i < S.st j := by
  have h1 := S.inc i (by omega)
  have h2 := S.st_mono (i := i + 1) (j := j) (by omega) hk
  omega
theorem st_nonneg {i : Nat} (h : i < S.k) : 0 ≤ S.st i := by
  have := S.st_mono (i := 0) (j := i) (by omega) h
  rw [S.st0] at this
  exact this

/-- u is the unit of n -/
def IsU (n : Int) (u : Nat) : Prop := u < S.k ∧ S.st u ≤ n ∧ ∀ v, v < S.k → S.st v ≤ n → v ≤ u

theorem isU_uniq {n : Int} {u v : Nat} (h : S.IsU n u) (h' : S.IsU n v) : u = v :=
  Nat.le_antisymm (h'.2.2 u h.1 h.2.1) (h.2.2 v h'.1 h'.2.1)
theorem isU_mk {n : Int} {u : Nat} (hu : u < S.k) (h1 : S.st u ≤ n) (h2 : u + 1 < S.k → n < S.st (u + 1)) : S.IsU n u := by
  refine ⟨hu, h1, fun v hv h3 => ?_⟩
  rcases Nat.lt_or_ge u v with q | q
  · have := S.st_mono (i := u + 1) (j := v) (by omega) hv
    have := h2 (by omega)
    omega
  · exact q
theorem isU_next {n : Int} {u : Nat} (h : S.IsU n u) (hk : u + 1 < S.k) : n < S.st (u + 1) := by
  rcases Int.lt_or_le n (S.st (u + 1)) with q | q
  · exact q
  · have := h.2.2 (u + 1) hk q
    omega
/-- the unit, searched from above -/
def unitFrom (n : Int) : Nat → Nat
  | 0 => 0
  | u + 1 => if S.st (u + 1) ≤ n then u + 1 else unitFrom n u
def unit (n : Int) : Nat := S.unitFrom n (S.k - 1)
theorem unitFrom_le (n : Int) : ∀ u, S.unitFrom n u ≤ u
  | 0 => Nat.le_refl _
  | u + 1 => by
    unfold unitFrom
    split
    · exact Nat.le_refl _
    · have := unitFrom_le n u
      omega
theorem unitFrom_st {n : Int} (hn : 0 ≤ n) : ∀ u, S.st (S.unitFrom n u) ≤ n
  | 0 => by unfold unitFrom; rw [S.st0]; exact hn
  | u + 1 => by
    unfold unitFrom
    split
    · assumption
    · exact unitFrom_st hn u
theorem unitFrom_max {n : Int} : ∀ u v, v ≤ u → S.st v ≤ n → v ≤ S.unitFrom n u
  | 0, v, h, _ => h
  | u + 1, v, h, h2 => by
    unfold unitFrom
    split
    · exact h
    · rcases Nat.lt_or_ge v (u + 1) with q | q
      · exact unitFrom_max u v (by omega) h2
      · have e : v = u + 1 := by omega
        subst e
        contradiction
theorem isU_unit {n : Int} (hn : 0 ≤ n) : S.IsU n (S.unit n) := by
  have hk := S.k1
  have h1 := S.unitFrom_le n (S.k - 1)
  exact ⟨by unfold unit; omega, S.unitFrom_st hn _, fun v hv h => S.unitFrom_max _ v (by omega) h⟩
theorem unit_eq {n : Int} {u : Nat} (h : S.IsU n u) : S.unit n = u := by
  have h0 := S.st_nonneg h.1
  exact S.isU_uniq (S.isU_unit (by have := h.2.1; omega)) h
theorem unit_lt (n : Int) : S.unit n < S.k := by
  have hk := S.k1
  have h1 := S.unitFrom_le n (S.k - 1)
  unfold unit; omega

/-- figures with smaller units -/
def bf : Nat → Int
  | 0 => 0
  | u + 1 => bf u + (if S.st u < S.st (u + 1) then S.m u (S.st (u + 1) - 1) - S.m u (S.st u) + 1 else 0)
theorem bf_succ {u : Nat} (h : u + 1 < S.k) : S.bf (u + 1) = S.bf u + (S.m u (S.st (u + 1) - 1) - S.m u (S.st u) + 1) := by
  show S.bf u + _ = _
  rw [if_pos (S.inc u h)]
theorem bf_lt {u : Nat} (h : u + 1 < S.k) : S.bf u < S.bf (u + 1) := by
  rw [S.bf_succ h]
  have := S.m_mono (u := u) (by omega) (show S.st u ≤ S.st (u + 1) - 1 by have := S.inc u h; omega)
  omega
theorem bf_mono : ∀ {j i : Nat}, i ≤ j → j < S.k → S.bf i ≤ S.bf j
  | 0, i, h, _ => by rw [show i = 0 by omega]; exact Int.le_refl _
  | j + 1, i, h, hk => by
    rcases Nat.lt_or_ge i (j + 1) with q | q
    · have := bf_mono (j := j) (i := i) (by omega) (by omega)
      have := S.bf_lt hk
      omega
    · rw [show i = j + 1 by omega]; exact Int.le_refl _
theorem bf_nonneg {u : Nat} (h : u < S.k) : 0 ≤ S.bf u := by
  have := S.bf_mono (i := 0) (j := u) (by omega) h
  exact this

/-- the place of a unit and a mark; of a number -/
def plp (u : Nat) (x : Int) : Int := S.bf u + x - S.m u (S.st u)
def pl (n : Int) : Int := S.plp (S.unit n) (S.m (S.unit n) n)

/-- the range of a unit and a mark -/
def lo (u : Nat) (x : Int) : Int := if S.st u > S.f u x then S.st u else S.f u x
def hi (u : Nat) (x : Int) : Int := if u + 1 < S.k then (if S.st (u + 1) - 1 < S.f u (x + 1) - 1 then S.st (u + 1) - 1 else S.f u (x + 1) - 1) else S.f u (x + 1) - 1
/-- shown -/
def Shown (u : Nat) (x : Int) : Prop := u < S.k ∧ S.lo u x ≤ S.hi u x

theorem mem_range {u : Nat} {x n : Int} (hu : u < S.k) : (S.lo u x ≤ n ∧ n ≤ S.hi u x) ↔ (S.IsU n u ∧ S.m u n = x) := by
  constructor
  · rintro ⟨h1, h2⟩
    unfold lo at h1
    unfold hi at h2
    have h3 : S.st u ≤ n := by split at h1 <;> omega
    have h4 : S.f u x ≤ n := by split at h1 <;> omega
    have h5 : n < S.f u (x + 1) := by
      split at h2
      · split at h2 <;> omega
      · omega
    refine ⟨S.isU_mk hu h3 fun h6 => ?_, S.m_uniq hu h4 h5⟩
    rw [if_pos h6] at h2
    split at h2 <;> omega
  · rintro ⟨h1, rfl⟩
    have ⟨h3, h4⟩ := S.mok u n hu
    have h5 := h1.2.1
    unfold lo hi
    refine ⟨by split <;> omega, ?_⟩
    split
    · rename_i h6
      have := S.isU_next h1 h6
      split <;> omega
    · omega
theorem shown_of {n : Int} (hn : 0 ≤ n) : S.Shown (S.unit n) (S.m (S.unit n) n) := by
  have h := (S.mem_range (S.unit_lt n)).mpr ⟨S.isU_unit hn, rfl⟩
  exact ⟨S.unit_lt n, by omega⟩
theorem lo_le {n : Int} (hn : 0 ≤ n) : S.lo (S.unit n) (S.m (S.unit n) n) ≤ n ∧ n ≤ S.hi (S.unit n) (S.m (S.unit n) n) :=
  (S.mem_range (S.unit_lt n)).mpr ⟨S.isU_unit hn, rfl⟩
theorem lo_nonneg {u : Nat} {x : Int} (hu : u < S.k) : 0 ≤ S.lo u x := by
  have := S.st_nonneg hu
  unfold lo
  split <;> omega
/-- a number in the range has this unit and mark -/
theorem in_range {u : Nat} {x n : Int} (hu : u < S.k) (h1 : S.lo u x ≤ n) (h2 : n ≤ S.hi u x) : S.unit n = u ∧ S.m u n = x := by
  have ⟨h3, h4⟩ := (S.mem_range hu).mp ⟨h1, h2⟩
  exact ⟨S.unit_eq h3, h4⟩
theorem pl_of {u : Nat} {x n : Int} (hu : u < S.k) (h1 : S.lo u x ≤ n) (h2 : n ≤ S.hi u x) : S.pl n = S.plp u x := by
  obtain ⟨h3, h4⟩ := S.in_range hu h1 h2
  unfold pl
  rw [h3, h4]

/-- the next number: the same figure, or the next place -/
theorem pl_succ {n : Int} (hn : 0 ≤ n) : (S.unit (n + 1) = S.unit n ∧ S.m (S.unit (n + 1)) (n + 1) = S.m (S.unit n) n ∧ S.pl (n + 1) = S.pl n) ∨
    (¬ (S.unit (n + 1) = S.unit n ∧ S.m (S.unit (n + 1)) (n + 1) = S.m (S.unit n) n) ∧ S.pl (n + 1) = S.pl n + 1) := by
  have hU := S.isU_unit hn
  have hU' := S.isU_unit (show 0 ≤ n + 1 by omega)
  generalize hu : S.unit n = u at *
  generalize hv : S.unit (n + 1) = v at *
  unfold pl plp
  rw [hu, hv]
  rcases Nat.lt_trichotomy u v with h | h | h
  · -- a new unit
    have hk : u + 1 < S.k := by have := hU'.1; omega
    have h1 := S.isU_next hU hk
    have h2 := hU'.2.1
    have h3 : v = u + 1 := by
      rcases Nat.lt_or_ge (u + 1) v with q | q
      · have := S.st_lt q hU'.1
        omega
      · omega
    subst h3
    have h4 : S.st (u + 1) = n + 1 := by omega
    refine .inr ⟨fun ⟨z, _⟩ => by omega, ?_⟩
    rw [S.bf_succ hk, h4, show n + 1 - 1 = n by omega]
    omega
  · subst h
    rcases S.m_succ hU.1 n with q | q
    · exact .inl ⟨rfl, q, by rw [q]⟩
    · refine .inr ⟨fun ⟨_, z⟩ => by omega, by rw [q]; omega⟩
  · have := hU'.2.2 u hU.1 (by have := hU.2.1; omega)
    omega
theorem pl_mono_nat {n : Int} (hn : 0 ≤ n) (j : Nat) : S.pl n ≤ S.pl (n + j) := by
  induction j with
  | zero => simp
  | succ j ih =>
    have := S.pl_succ (n := n + j) (by omega)
    have e : n + ((j + 1 : Nat) : Int) = n + j + 1 := by omega
    rw [e]
    omega
theorem pl_mono {a b : Int} (ha : 0 ≤ a) (h : a ≤ b) : S.pl a ≤ S.pl b := by
  have := S.pl_mono_nat ha (b - a).toNat
  rw [show a + ((b - a).toNat : Int) = b by omega] at this
  exact this
/-- behind a figure's range: the next place -/
theorem pl_next {u : Nat} {x : Int} (h : S.Shown u x) : S.pl (S.hi u x + 1) = S.plp u x + 1 := by
  have h0 := S.lo_nonneg (x := x) h.1
  have h1 := S.pl_of h.1 h.2 (Int.le_refl _)
  have h2 := S.in_range h.1 h.2 (Int.le_refl _)
  have hn : 0 ≤ S.hi u x := by have := h.2; omega
  rcases S.pl_succ hn with ⟨q1, q2, _⟩ | ⟨_, q⟩
  · have h3 := (S.mem_range (n := S.hi u x + 1) (x := x) h.1).mpr ⟨by
      have := S.isU_unit (n := S.hi u x + 1) (by omega)
      rw [q1, h2.1] at this
      exact this, by
      rw [q1, h2.1, h2.2] at q2
      exact q2⟩
    omega
  · rw [q, h1]

/-- the unit of a place -/
def IsP (p : Int) (u : Nat) : Prop := u < S.k ∧ S.bf u ≤ p ∧ ∀ v, v < S.k → S.bf v ≤ p → v ≤ u
theorem isP_next {p : Int} {u : Nat} (h : S.IsP p u) (hk : u + 1 < S.k) : p < S.bf (u + 1) := by
  rcases Int.lt_or_le p (S.bf (u + 1)) with q | q
  · exact q
  · have := h.2.2 (u + 1) hk q
    omega
/-- the figure with a place is shown, and has this place -/
theorem at_shown {p : Int} {u : Nat} (h : S.IsP p u) : S.Shown u (p - S.bf u + S.m u (S.st u)) ∧ S.plp u (p - S.bf u + S.m u (S.st u)) = p := by
  have hu := h.1
  have hb := h.2.1
  refine ⟨⟨hu, ?_⟩, by unfold plp; omega⟩
  have hx : S.m u (S.st u) ≤ p - S.bf u + S.m u (S.st u) := by omega
  generalize hy : p - S.bf u + S.m u (S.st u) = x at *
  have h1 := S.up u x hu
  have h2 := S.mok u (S.st u) hu
  have h3 := S.up_le hu (show S.m u (S.st u) + 1 ≤ x + 1 by omega)
  unfold lo hi
  split
  · split
    · rename_i hk
      have := S.inc u hk
      split <;> omega
    · omega
  · split
    · rename_i hk
      have h4 := S.isP_next h hk
      rw [S.bf_succ hk] at h4
      have h5 := S.up_le hu (show x ≤ S.m u (S.st (u + 1) - 1) by omega)
      have h6 := (S.mok u (S.st (u + 1) - 1) hu).1
      split <;> omega
    · omega
end Sys
end SF
end TMathA

section TMathB
/-! MathB: a ladder, and its system of units. -/
namespace SF
open PySem

theorem mul_self_div (d z : Int) (h : 0 < d) : d * z / d = z := Int.mul_ediv_cancel_left z (by omega)

def p10 : Nat → Int
  | 0 => 1
  | 1 => 10
  | 2 => 100
  | 3 => 1000
  | _ => 1
theorem p10_pos (d : Nat) : 1 ≤ p10 d := by
  unfold p10
  split <;> decide
theorem p10_le (d : Nat) : p10 d ≤ 1000 := by
  unfold p10
  split <;> decide

structure Lad where
  us : List (Str × Int)
  dec : Nat
  rnd : Rnd
  carry : Bool
  least : Int

namespace Lad
variable (L : Lad)
def k : Nat := L.us.length
def size (u : Nat) : Int := ((L.us[u]?).map (·.2)).getD 0
def name (u : Nat) : Str := ((L.us[u]?).map (·.1)).getD Str.empty
def step (u : Nat) : Int := if u = 0 then 1 else L.size u / p10 L.dec
def thr (u : Nat) : Int := if u = 0 then 0 else L.size u * L.least
def f (u : Nat) (x : Int) : Int := ff L.rnd (u == 0) (L.step u) x
def start (u : Nat) : Int := if u < 2 ∨ L.carry = false then L.thr u else L.f (u - 1) (L.thr u / L.step (u - 1))
def m (u : Nat) (n : Int) : Int := mrk L.rnd (u == 0) (L.step u) n

/-- what the program's checks look at, by places -/
structure Ok : Prop where
  k1 : 1 ≤ L.k
  k6 : L.k ≤ 6
  s0 : L.size 0 = 1
  up : ∀ i, i + 1 < L.k → L.size i < L.size (i + 1)
  mul : ∀ i, i + 1 < L.k → ∃ q, L.size (i + 1) = q * L.size i
  top : ∀ i, i < L.k → L.size i ≤ 1000000000000000000
  part : ∀ i, 0 < i → i < L.k → ∃ q, L.size i = 2 * p10 L.dec * q
  dec3 : L.dec ≤ 3
  le1 : 1 ≤ L.least
  le2 : L.least ≤ 1000

theorem start0 : L.start 0 = 0 := by
  unfold start thr
  rw [if_pos (.inl (by decide)), if_pos rfl]

section
variable {L : Lad} (h : L.Ok)
include h
theorem Ok.size1 : ∀ i, i < L.k → 1 ≤ L.size i
  | 0, _ => by rw [h.s0]; decide
  | i + 1, hi => by
    have := h.up i hi
    have := Ok.size1 i (by omega)
    omega
theorem Ok.size2 {i : Nat} (hi : i + 1 < L.k) : 2 * L.size i ≤ L.size (i + 1) := by
  obtain ⟨q, e⟩ := h.mul i hi
  have h1 := h.up i hi
  have h2 := h.size1 i (by omega)
  have h3 : 2 ≤ q := by
    rcases Int.lt_or_le q 2 with z | z
    · have : q * L.size i ≤ 1 * L.size i := Int.mul_le_mul_of_nonneg_right (by omega) (by omega)
      omega
    · exact z
  have := Int.mul_le_mul_of_nonneg_right h3 (show 0 ≤ L.size i by omega)
  omega
theorem Ok.step_eq {i : Nat} (h0 : 0 < i) (hi : i < L.k) : ∃ q, L.step i = 2 * q ∧ L.size i = p10 L.dec * L.step i ∧ 1 ≤ q := by
  obtain ⟨q, e⟩ := h.part i h0 hi
  have hp := p10_pos L.dec
  have e1 : L.size i = p10 L.dec * (2 * q) := by rw [e, Int.mul_comm 2 (p10 L.dec), Int.mul_assoc]
  have e2 : L.step i = 2 * q := by
    unfold step
    rw [if_neg (by omega), e1, mul_self_div _ _ (by omega)]
  refine ⟨q, e2, by rw [e2]; exact e1, ?_⟩
  have hs := h.size1 i hi
  rcases Int.lt_or_le q 1 with z | z
  · have : p10 L.dec * (2 * q) ≤ p10 L.dec * 0 := Int.mul_le_mul_of_nonneg_left (by omega) (by omega)
    rw [Int.mul_zero] at this
    omega
  · exact z
theorem Ok.step1 (i : Nat) (hi : i < L.k) : 1 ≤ L.step i := by
  by_cases h0 : i = 0
  · subst h0
    unfold step
    rw [if_pos rfl]
    decide
  · obtain ⟨q, e, _, h1⟩ := h.step_eq (by omega) hi
    omega
theorem Ok.step_even (i : Nat) (hi : i < L.k) : (i == 0) = false → L.step i % 2 = 0 := fun e => by
  have h0 : i ≠ 0 := by simpa using e
  obtain ⟨q, e, _, h1⟩ := h.step_eq (by omega) hi
  omega
theorem Ok.step_le (i : Nat) (hi : i < L.k) : L.step i ≤ L.size i := by
  by_cases h0 : i = 0
  · subst h0
    unfold step
    rw [if_pos rfl, h.s0]
    decide
  · obtain ⟨q, e, e1, h1⟩ := h.step_eq (by omega) hi
    have hp := p10_pos L.dec
    have := Int.mul_le_mul_of_nonneg_right hp (show 0 ≤ L.step i by omega)
    omega
theorem Ok.step_top (i : Nat) (hi : i < L.k) : L.step i ≤ 1000000000000000000 := by
  have := h.step_le i hi
  have := h.top i hi
  omega
/-- the threshold of the next unit is a multiple of the step -/
theorem Ok.thr_mul {i : Nat} (h0 : 0 < i) (hi : i + 1 < L.k) : ∃ q, L.thr (i + 1) = q * L.step i := by
  obtain ⟨q, e⟩ := h.mul i hi
  obtain ⟨r, _, e2, _⟩ := h.step_eq h0 (show i < L.k by omega)
  refine ⟨q * p10 L.dec * L.least, ?_⟩
  unfold thr
  rw [if_neg (by omega), e, e2, Int.mul_assoc q, Int.mul_assoc q, Int.mul_assoc q, Int.mul_assoc (p10 L.dec), Int.mul_assoc (p10 L.dec), Int.mul_comm (L.step i)]
theorem Ok.thr_up {i : Nat} (hi : i + 1 < L.k) : L.thr i + L.step i ≤ L.thr (i + 1) := by
  have h1 := h.size2 hi
  have h2 := h.step_le i (by omega)
  have h3 := h.size1 i (by omega)
  have hl := h.le1
  unfold thr
  rw [if_neg (show ¬ i + 1 = 0 by omega)]
  have a1 := Int.mul_le_mul_of_nonneg_right h1 (show 0 ≤ L.least by omega)
  have a2 := Int.mul_le_mul_of_nonneg_left hl (show 0 ≤ L.size i by omega)
  rw [Int.mul_assoc] at a1
  split <;> omega
theorem Ok.thr_top {i : Nat} (hi : i < L.k) : 0 ≤ L.thr i ∧ L.thr i ≤ 1000000000000000000000 := by
  have h1 := h.top i hi
  have h3 := h.size1 i hi
  have hl := h.le1
  have hl2 := h.le2
  unfold thr
  split
  · omega
  · have a1 := Int.mul_le_mul_of_nonneg_right h1 (show 0 ≤ L.least by omega)
    have a2 := Int.mul_nonneg (show 0 ≤ L.size i by omega) (show 0 ≤ L.least by omega)
    omega
theorem Ok.start_bd {i : Nat} (h0 : 0 < i) (hi : i + 1 < L.k) : L.thr (i + 1) - L.step i < L.start (i + 1) ∧ L.start (i + 1) ≤ L.thr (i + 1) := by
  have h1 := h.step1 i (by omega)
  have h2 := h.step_even i (by omega) (by simp; omega)
  unfold start
  split
  · omega
  · obtain ⟨q, e⟩ := h.thr_mul h0 hi
    have e2 : L.thr (i + 1) / L.step i = q := by rw [e, Int.mul_comm, mul_self_div _ _ (by omega)]
    rw [Nat.add_sub_cancel, e2, e]
    unfold f ff
    have e3 : (q - 1) * L.step i = q * L.step i - L.step i := by rw [Int.sub_mul, Int.one_mul]
    rw [e3]
    generalize q * L.step i = t at *
    repeat' split
    all_goals omega
theorem Ok.start_bd' {i : Nat} (hi : i + 1 < L.k) : L.thr i < L.start (i + 1) ∧ L.start (i + 1) ≤ L.thr (i + 1) := by
  have ht := h.thr_up hi
  by_cases h0 : i = 0
  · subst h0
    have h1 := h.step1 0 (by omega)
    unfold start
    rw [if_pos (.inl (by decide))]
    omega
  · have := h.start_bd (by omega) hi
    omega
theorem Ok.start_le {i : Nat} (hi : i < L.k) : L.start i ≤ L.thr i := by
  cases i with
  | zero =>
    unfold start
    rw [if_pos (.inl (by decide))]
    exact Int.le_refl _
  | succ i => exact (h.start_bd' hi).2
theorem Ok.start_up (i : Nat) (hi : i + 1 < L.k) : L.start i < L.start (i + 1) := by
  have := h.start_le (show i < L.k by omega)
  have := (h.start_bd' hi).1
  omega
end

/-- the system of a good ladder -/
def sys (L : Lad) (h : L.Ok) : Sys where
  k := L.k
  st := L.start
  f := L.f
  m := L.m
  k1 := h.k1
  st0 := L.start0
  inc := h.start_up
  up := fun u x hu => ff_step _ _ _ _ (h.step1 u hu) (h.step_even u hu)
  mok := fun u n hu => mrk_ok _ _ _ _ (h.step1 u hu) (h.step_even u hu)

section
variable {L : Lad} (h : L.Ok)
include h
/-- marks are bounded by the number -/
theorem Ok.m_le {u : Nat} (hu : u < L.k) {n : Int} (hn : 0 ≤ n) : L.m u n ≤ n + 1 ∧ 0 ≤ L.m u n := by
  have h1 := h.step1 u hu
  have d1 : n / L.step u ≤ n := Int.ediv_le_self _ hn
  have d2 : 0 ≤ n / L.step u := Int.ediv_nonneg hn (by omega)
  unfold m mrk
  split <;> omega
theorem Ok.start_top {u : Nat} (hu : u < L.k) : 0 ≤ L.start u ∧ L.start u ≤ 1000000000000000000000 := by
  have h1 := (h.thr_top hu).2
  have h2 := h.start_le hu
  have h3 : 0 ≤ L.start u := (L.sys h).st_nonneg (i := u) hu
  exact ⟨h3, by omega⟩
end
end Lad
end SF
end TMathB

section TKitA
set_option Elab.async false
set_option linter.all false
set_option maxRecDepth 100000
set_option maxHeartbeats 2000000
/-! KitA: rules that the layer lacks: enumerate over a tuple; rjust with a fill; len of an instance with its own def. -/
namespace SFK
open PySem PySem.Spec PyProof.Rows L2 Builtin

/-! ### enumerate(tuple) -/
theorem meets_enum1 {v : Value} {o : Obj} {H : Heap → Prop} (B : Begins v o H) :
    Meets (Builtin.«enumerate.__new__» ⟨[.type "enumerate", v], []⟩) (fun _ R s => H s.heap ∧
      R (.ok (.ret (.ref (s.heap.push o).objs.size))) { s with heap := (s.heap.push o).push { cls := .type "enumerate", data := .fields #[.none, .bool false, .ref s.heap.objs.size, rawInt 0, .none, .none] } }) :=
  .of_wp fun prog w A R s h => by
    obtain ⟨hp, g, d, tk, os⟩ := s; obtain ⟨h1, h⟩ := h
    have hsub := sub_enumerate
    have q1 : ∀ {A' : Around} {E : Value → Shared → Prop} {Q : Value → Shared → Prop}, Q (.ref hp.objs.size) ⟨hp.push o, g, d, tk, os⟩ → wpAny (model prog w) A' (pyIter v) Q E ⟨hp, g, d, tk, os⟩ :=
      fun q => B.iter prog w _ _ ⟨hp, g, d, tk, os⟩ _ h1 q
    wp_walk using q1
    refine wpAny_stack_any fun st => wpAny_pure ?_
    split
    · rename_i c _ _ _ _ _
      cases (c == Value.type "enumerate")
      · wp_walk using q1
        exact ⟨_, rfl, h⟩
      · wp_walk using q1
        exact ⟨_, rfl, h⟩
    · wp_walk using q1
      exact ⟨_, rfl, h⟩
section
variable {prog : Program} {w : World} {A : Around} {E : Value → Shared → Prop} {s : Shared}
theorem enum_begins1 {v : Value} {o : Obj} {H : Heap → Prop} {Q : Value → Shared → Prop} (B : Begins v o H) (h1 : H s.heap)
    (h : ∀ h', IsEnum h' (s.heap.objs.size + 1) s.heap.objs.size 0 .none → h'.get? s.heap.objs.size = some o → h'.objs.size = s.heap.objs.size + 2 →
      (∀ b o, s.heap.get? b = some o → h'.get? b = some o) → Q (.ref (s.heap.objs.size + 1)) { s with heap := h' }) :
    wpAny (model prog w) A (call (.type "enumerate") [v]) Q E s := by
  refine callType_new F.called_enumerate (by decide) (F.typeCall_enumerate_1 _) (F.newCall_enumerate_1 _) (fun obj => F.args_object_init_2 obj _) F.entry_enumerate_new
    (meets_enum1 B) ⟨h1, ?_⟩
  have hz : (s.heap.push o).objs.size = s.heap.objs.size + 1 := Heap.size_push ..
  show _ ∧ _
  rw [hz]
  have he : IsEnum ((s.heap.push o).push { cls := .type "enumerate", data := .fields #[.none, .bool false, .ref s.heap.objs.size, rawInt 0, .none, .none] }) (s.heap.objs.size + 1) s.heap.objs.size 0 .none := by
    have := Heap.get?_push_size (s.heap.push o) (o := { cls := .type "enumerate", data := .fields #[.none, .bool false, .ref s.heap.objs.size, rawInt 0, .none, .none] }) rfl
    rw [hz] at this; exact this
  refine ⟨⟨_, he, rfl⟩, h _ he (Heap.get?_push_of_some _ (Heap.get?_push_size _ B.free)) (by rw [Heap.size_push, hz]) fun b o x => Heap.get?_push_of_some _ (Heap.get?_push_of_some _ x)⟩
end
/-- the tuple at a, each item in a new pair -/
def Itet (K : PySem.W.Frag) (a : Addr) : It :=
  ⟨fun i H => ∃ (xs : List V) (x : V), SqT K H a xs ∧ xs[i]? = some x, fun i H v H' => ∃ T x, v = .ref T ∧ H T = none ∧ H' = upd H T (.tup [.int (i : Nat), x]) ∧ ∀ xs, SqT K H a xs → xs[i]? = some x, fun i H => ∃ xs : List V, SqT K H a xs ∧ xs.length ≤ i⟩
theorem turn_enumT {P : Program} {w : World} {K : PySem.W.Frag} {elts : List Expr} {kk : Nat} {tpos : Pos} (a e it : Addr) :
    Turn P w K (.Tuple elts kk tpos) (Itet K a) [e, it] e (fun i h => (∃ old, IsEnum h e it ((i : Nat) : Int) old) ∧ h.IsTupleIter it a i ∧ e ≠ it ∧ a ≠ it ∧ a ≠ e) where
  mem := by simp
  obj := fun i h st b hb => by
    obtain ⟨⟨old, he⟩, ⟨o, ho, hc, hd⟩, _⟩ := st
    have e' : b = e ∨ b = it := by simpa using hb
    rcases e' with z | z
    · rw [z]; exact ⟨_, he, fun v q => nomatch q⟩
    · rw [z]; exact ⟨o, ho, fun v q => by rw [hd] at q; cases q⟩
  keep := fun i h h' st k => let ⟨⟨old, he⟩, hi, hne⟩ := st; ⟨⟨old, k e (by simp) _ he⟩, hi.at fun o q => k it (by simp) o q, hne⟩
  item := by
    intro X hP hw hK hc i pins s σ H E I hf st hg
    subst hP hw hK
    obtain ⟨⟨old, he⟩, hit, hne, hai, hae⟩ := st
    obtain ⟨xs, x, hq, hx⟩ := hg
    obtain ⟨its, rv, p, hz⟩ := I.tuple hq
    obtain ⟨u, hu, ru⟩ := rv.get hx
    have hel : e < s.heap.objs.size := Heap.lt_size he
    have hil : it < s.heap.objs.size := by obtain ⟨_, q, _⟩ := hit; exact Heap.lt_size q
    have hT : s.heap.IsTuple a its.toArray := p
    have D := Draws.tuple (prog := X.prog) (w := X.w) (A := X.A.in1) (I.ok.hd hc) it a hai its.toArray
    have hi : i < its.toArray.size := by
      have := (List.getElem?_eq_some_iff.mp hu).1
      simpa using this
    refine wpAny_pyNext_enum_itemD D he ⟨hit, hT⟩ hi hne (by simp; exact ⟨hne, hae.symm⟩) fun x' h' tk hPx ho hit' hTT hsz hk => ?_
    have ex : x' = u := by
      have h1 : its[i]? = some x' := by simpa using hPx
      exact Option.some.inj (h1.symm.trans hu)
    subst ex
    refine ⟨_, rfl, wpAny_letOwnedTupleGo_enum (s := { s with heap := h', toks := tk + 1 }) ho fun h'' he' sb => ?_⟩
    have hT2 : h''.get? s.heap.objs.size = some { cls := .type "tuple", data := .seq #[.int i tk, x'] } := (sb.2 _ (Nat.ne_of_gt hel)).trans hTT
    have new : ObjOk X.prog X.w (upd H s.heap.objs.size (.tup [.int (i : Nat), x])) h'' s.heap.objs.size (.tup [.int (i : Nat), x]) :=
      ⟨by show 2 ≤ sizeLine; decide, [.int i tk, x'], .cons ⟨_, rfl⟩ (.cons ru .nil), ⟨_, hT2, rfl, _, rfl⟩⟩
    have I1 : Inv X pins σ (upd H s.heap.objs.size (.tup [.int (i : Nat), x])) { s with heap := h'', toks := tk + 1 } :=
      I.turnedNew (ch := [e, it]) (fun b ob hb q => (sb.2 b (fun z => hb (by simp [z]))).trans (hk b ob (fun z => hb (by simp [z])) (fun z => hb (by simp [z])) q)) hf (Nat.le_refl _) new
    refine ⟨.ref s.heap.objs.size, _, I1, rfl, ⟨_, x, rfl, I.hok.fresh (Nat.le_refl _), rfl, fun ys hy => by rw [I.tuple_inj hy hq]; exact hx⟩, ⟨⟨x', ?_⟩, hit'.1.at fun o q => (sb.2 it (Ne.symm hne)).trans q, hne, hai, hae⟩, fun b hb => ?_⟩
    · have e1 : ((i + 1 : Nat) : Int) = (i : Int) + 1 := by omega
      rw [e1]; exact he'
    · have hb' : b < s.heap.objs.size := by
        have e' : b = e ∨ b = it := by simpa using hb
        rcases e' with z | z
        · rw [z]; exact hel
        · rw [z]; exact hil
      rw [upd_ne (Nat.ne_of_lt hb')]
      exact (hf b hb).1
  done := by
    intro X hP hw hK hc i pins s σ H E I hf st hg
    subst hP hw hK
    obtain ⟨⟨old, he⟩, hit, hne, hai, hae⟩ := st
    obtain ⟨xs, hq, hx⟩ := hg
    obtain ⟨its, rv, p, hz⟩ := I.tuple hq
    obtain ⟨f0, f1, f2, f3, f4, f5⟩ := hf it (by simp)
    have hl := rv.length
    have hT : s.heap.IsTuple a its.toArray := p
    unfold pyNext
    refine wpAny_bind (wpAny_attempt (wpAny_callSpecial?_slot (name := Str.ofString "__next__") ⟨_, he, rfl⟩ F.slot_enumerate_next
      (wpAny_call_entry F.slot_enumerate_next ⟨_, he, rfl⟩ F.entry_enumerate_next ?_ (F.args_enumerate_next_1 _))))
    show wpAny _ _ (field (.ref e) 2 >>= _) _ _ _
    refine wpAny_bind (wpAny_field he rfl (x := .ref it) rfl ?_)
    refine wpAny_bind (wpAny_nextOf_tuple_end (I.ok.hd hc) hit hT (by simp; omega) fun h' x he' hx' => ?_)
    obtain ⟨o, ho, hc'⟩ := hx'
    refine wpAny_bind (wpAny_isInstance (T := "StopIteration") (b := true) ⟨o, ho, hc'⟩ isSubtype_stop ?_)
    exact wpAny_pure ⟨rfl, I.turned (t' := s.toks) (fun b o hb q => he' b o hb q) f0 f1 f3 f4 f5⟩
  self := fun A i s Q E st h => let ⟨⟨_, he⟩, _⟩ := st; wpAny_pyIter_enum he h
def iEnumT (K : PySem.W.Frag) (ta : TA) : TI := fun σ H R => ta σ H fun vs H1 => ∃ a xs, vs = [.ref a] ∧ SqT K H1 a xs ∧ R (Itet K a) H1
theorem pi_enumT {X : Cx} {e : Expr} {ta : TA} {p pos tpos : Pos} {elts : List Expr} {kk : Nat} (hg : Gl X "enumerate") (hm : X.mg "enumerate" = none) (ha : PA X [e] ta) (hs : starEach [e] X.env = [(false, eval e X.env)] := by rfl) :
    PI X (.Tuple elts kk tpos) (.Call (.Name "enumerate" p) [e] [] pos) (iEnumT X.K ta) := by
  refine ⟨fun pins s σ H R I h => ?_⟩
  refine Call_ (ld_blt I hg hm boot_enumerate (PyProof.Rows.callWith_type1 (thn (ha.run pos pins s σ H _ I h) fun us s1 ⟨vs, H1, I1, r1, q1⟩ => ?_) hs rfl))
  obtain ⟨a, xs, ex, hq, q⟩ := q1
  subst ex
  cases r1 with
  | cons r rr =>
    cases rr
    cases r
    obtain ⟨its, rv, p', hz⟩ := I1.tuple hq
    have hT : s1.heap.IsTuple a its.toArray := p'
    have hal : a < s1.heap.objs.size := by obtain ⟨_, q, _⟩ := hT; exact Heap.lt_size q
    refine enum_begins1 (begins_tuple a its.toArray) hT fun h' he hit hsz hk => wpAny_pyIter_enum he ?_
    have I2 : Inv X pins σ H1 { s1 with heap := h' } := I1.kept (t' := s1.toks) hk
    refine ⟨s1.heap.objs.size + 1, [s1.heap.objs.size + 1, s1.heap.objs.size], _, _, H1, rfl, I2, turn_enumT a (s1.heap.objs.size + 1) s1.heap.objs.size, ⟨⟨.none, he⟩, ⟨_, hit, rfl, rfl⟩, Nat.succ_ne_self _, Nat.ne_of_lt hal, Nat.ne_of_lt (Nat.lt_succ_of_lt hal)⟩, fun b hb => ?_, q⟩
    have e' : b = s1.heap.objs.size + 1 ∨ b = s1.heap.objs.size := by simpa using hb
    have hle : s1.heap.objs.size ≤ b := by
      rcases e' with z | z
      · rw [z]; exact Nat.le_add_right _ _
      · rw [z]; exact Nat.le_refl _
    exact I1.fpOk hle (I1.hok.fresh hle)
theorem walk_enumT {K : PySem.W.Frag} {a : Addr} {xs : List V} : Walk (Itet K a) xs.length (fun H => SqT K H a xs) (YPair (fun i => some (.int (i : Nat))) (fun i => xs[i]?)) := by
  refine ⟨fun i _ hi q => ⟨xs, xs[i], q, by simp [hi]⟩, fun _ q => ⟨xs, q, Nat.le_refl _⟩, fun i H v H' _ q y => ?_⟩
  obtain ⟨T, x, h1, h2, h3, h4⟩ := y
  exact ⟨T, .int (i : Nat), x, h1, h2, h3, rfl, h4 xs q⟩

/-! ### rjust with a fill -/
theorem mt_rjust3 {X : Cx} : MtR X "str.rjust" (fun x xs H Q => ∃ (a b : Str) (i : Int), x = .str a ∧ xs = [.int i, .str b] ∧ PadOk i = true ∧ b.length = 1 ∧ Q (.str (Txt.rjustF a i (b.cps.getD 0 0))) H) := by
  intro pins s σ H x xs v us Q I rx rs h
  obtain ⟨a, b, i, rfl, rfl, hp, hb, h⟩ := h
  obtain ⟨t, rfl⟩ := rx
  cases rs with
  | cons r1 rs =>
    cases rs with
    | cons r2 rs =>
      cases rs
      obtain ⟨u, rfl⟩ := r1
      obtain ⟨z, rfl⟩ := r2
      exact rjust_fill hp hb fun t' k => ⟨.str _, H, I.tok k, ⟨t', rfl⟩, h⟩

/-! ### len(x), x an instance with its own __len__ -/
theorem len_own {prog : Program} {w : World} {A : Around} {E : Value → Shared → Prop} {s : Shared} {K : PySem.W.Frag} {x C f : Addr} {ox : Obj} {odd : Option Obj} {Q : Value → Shared → Prop} (X : K.In s.heap) (I : PySem.W.InstAt s.heap x ox C odd)
    (hs : PySem.W.findIn K (.ref C) "__len__" = some (some (.ref f))) (hf : PySem.W.isFn K (.ref f) = true)
    (h : wpAny (model prog w) A.in1 (call (.ref f) [.ref x]) (fun r s₁ => ∃ n u, r = Value.int n u ∧ 0 ≤ n ∧ n < 2 ^ 63 ∧ ∀ t k, Q (.int n t) { s₁ with toks := k }) E s) : wpAny (model prog w) A (call (.builtin "len") [.ref x]) Q E s := by
  refine Calls.call_function_entry PySem.kind_len PySem.plain_len PySem.entry_len (PySem.args_len1 _) ?_
  unfold Builtin.«len»
  refine wpAny_bind (m := oneArg "len" _) (wpAny_pure ?_)
  refine wpAny_bind (m := callSpecial? (.ref x) (PySem.Str.ofString "__len__")) (PySem.W.special_fn X I hs (beq_iff_eq.mp hf) (wpAny_mono h (fun r s' hr => ?_) fun _ _ y => y))
  obtain ⟨n, u, rfl, h0, h1, hq⟩ := hr
  refine wpAny_bind (wpAny_holding (wpAny_pure ?_))
  refine wpAny_bind (wpAny_letGo ?_)
  show wpAny _ _ (if n < 0 then _ else _) _ _ _
  rw [if_neg (by omega)]
  show wpAny _ _ (if n ≥ 2 ^ 63 then _ else _) _ _ _
  rw [if_neg (by omega)]
  exact wpAny_bind (wpAny_mkInt (wpAny_pure ⟨_, rfl, hq _ _⟩))
section
variable {X : Cx}
/-- len(x) of such an instance: what its def promises, an int -/
def rLenOwn (C : Addr) (sp : Sp) : List V → Hp → VK → Prop := fun xs H Q => ∃ a dx fs, xs = [V.ref a] ∧ H a = some (.ins C dx fs) ∧ sp [.ref a] H (fun z H' => ∃ i : Int, z = .int i ∧ 0 ≤ i ∧ i < 2 ^ 63 ∧ Q z H') E0
theorem call_lenOwn {C g : Addr} {n : Nat} {sp : Sp} (hs : PySem.W.findIn X.K (.ref C) "__len__" = some (some (.ref g))) (hf : PySem.W.isFn X.K (.ref g) = true) (F : FnR X.prog X.w X.K X.mg X.base CX0 n g sp) (hr : Room (n + 1) X.A) :
    CallR X (.builtin "len") (rLenOwn C sp) := by
  intro pins s σ H xs us Q I r h
  obtain ⟨a, dx, fs, rfl, ha, q⟩ := h
  obtain ⟨u, rfl, ru⟩ := r.one
  cases (show u = Value.ref a from ru)
  obtain ⟨mA, om, _, _, _, _⟩ := ins_get I.hok ha
  obtain ⟨od, J, _⟩ := om.look
  have hr2 : Room n X.A.in1 := Room.in1 hr
  refine len_own I.kIn J hs hf (wpAny_mono (wpAny_call (SlX.run_at (us := [.ref a]) (ws := [.ref a]) F hr2 I.env0.in1 pass0 I (.cons rfl .nil) q)) (fun w s' z => ?_) fun _ _ x => x)
  obtain ⟨z', H', I', rz, i, ei, h0, h1, qz⟩ := z
  subst ei
  obtain ⟨t, e⟩ := (show ∃ t, w = Value.int i t from rz)
  cases e
  exact ⟨i, t, rfl, h0, h1, fun t' k => ⟨.int i, H', I'.tok k, ⟨t', rfl⟩, qz⟩⟩
end
end SFK
end TKitA

section TTextZ
set_option Elab.async false
set_option linter.all false
set_option maxRecDepth 100000
set_option maxHeartbeats 4000000
/-! TextZ: the text by places; how a def that stands is called; the ladder in the heap. -/
namespace SFW
open PySem PySem.Spec PyProof.Rows L2 SFK SF
/-! ### the text -/
def top (i : Nat) : Stmt := PySem.Challenge.pw_shortfigures_k14_whole_figures_counted_i.main.body.getD i (.Pass ⟨0, 0, 0, 0⟩)
def mth (j : Nat) : Stmt := inClass (top 30) j

/-! ### a def as it stands; its promise -/
structure Def (K : PySem.W.Frag) (mg : Str → Option Value) (x : Str) (st : Stmt) : Prop where
  ex : ∃ (f : Addr) (fd : FuncData), FunD K x x (defArgs st) (defBody st) (defScope st) [] [] f fd ∧ mg x = some (.ref f)
structure MDef (K : PySem.W.Frag) (C : Addr) (m q : Str) (st : Stmt) : Prop where
  ex : ∃ (f : Addr) (fd : FuncData), FunD K m q (defArgs st) (defBody st) (defScope st) [] [] f fd ∧ Meth K C m f
structure Cal (P : Program) (w : World) (K : PySem.W.Frag) (mg : Str → Option Value) (base : Heap) (x : Str) (k : Nat) (ps : List Str) (sp : Sp) : Prop where
  ex : ∃ (f : Addr) (fd : FuncData), FnOk P w K mg base CX0 k f fd ps sp ∧ mg x = some (.ref f) ∧ PySem.W.keepIn K (.ref f) = true ∧ Binds K fd ps []
structure MCal (P : Program) (w : World) (K : PySem.W.Frag) (mg : Str → Option Value) (base : Heap) (C : Addr) (m : Str) (k : Nat) (ps : List Str) (sp : Sp) : Prop where
  ex : ∃ (f : Addr) (fd : FuncData), FnOk P w K mg base CX0 k f fd ps sp ∧ Meth K C m f ∧ Binds K fd ps []
section
variable {P : Program} {w : World} {K : PySem.W.Frag} {mg : Str → Option Value} {base : Heap} {C : Addr} {x m q : Str} {st : Stmt} {N ps : List Str} {k : Nat} {sp : Sp}
theorem Def.cal (D : Def K mg x st) (S : FnScope N ps (defScope st))
    (hb : ∀ (kV doc pm : Value) (an : Option Addr) (cdv ct : Value) (us : List Value), us.length = ps.length → bindArgs (PySem.W.fnOf x x (defArgs st) (defBody st) (defScope st) .none kV doc pm an cdv ct) ⟨us, []⟩ = pure (ps.zip us))
    (len : ∀ vs H Q E, sp vs H Q E → vs.length = ps.length)
    (body : ∀ (f : Addr) (cdv : Value) (A : Around) (outer : List Env) (s : Shared) (H : Hp) (vs : List V) (Q : VK) (E : XK), Room k (A.deeper (envOfC x (defScope st) s.heap.objs.size f cdv)) → sp vs H Q E →
      ∃ t, PSs (cxOf CX0 P w K mg base N x (defScope st) f cdv A outer s H E).nox (defBody st) t ∧ t { nx := fun _ H' => Q .non H', rt := Q } (start N vs) H) : Cal P w K mg base x (k + 1) ps sp := by
  obtain ⟨f, fd, F, g⟩ := D.ex
  refine ⟨f, fd, F.ok S len fun cdv A outer s H vs Q E hr h => ?_, g, F.kp, F.bindsN hb⟩
  obtain ⟨t, h1, h2⟩ := body f cdv A outer s H vs Q E hr h
  exact ⟨t, h1.nox, h2⟩
theorem MDef.cal (D : MDef K C m q st) (S : FnScope N ps (defScope st))
    (hb : ∀ (kV doc pm : Value) (an : Option Addr) (cdv ct : Value) (us : List Value), us.length = ps.length → bindArgs (PySem.W.fnOf m q (defArgs st) (defBody st) (defScope st) .none kV doc pm an cdv ct) ⟨us, []⟩ = pure (ps.zip us))
    (len : ∀ vs H Q E, sp vs H Q E → vs.length = ps.length)
    (body : ∀ (f : Addr) (cdv : Value) (A : Around) (outer : List Env) (s : Shared) (H : Hp) (vs : List V) (Q : VK) (E : XK), Room k (A.deeper (envOfC q (defScope st) s.heap.objs.size f cdv)) → sp vs H Q E →
      ∃ t, PSs (cxOf CX0 P w K mg base N q (defScope st) f cdv A outer s H E).nox (defBody st) t ∧ t { nx := fun _ H' => Q .non H', rt := Q } (start N vs) H) : MCal P w K mg base C m (k + 1) ps sp := by
  obtain ⟨f, fd, F, g⟩ := D.ex
  refine ⟨f, fd, F.ok S len fun cdv A outer s H vs Q E hr h => ?_, g, F.bindsN hb⟩
  obtain ⟨t, h1, h2⟩ := body f cdv A outer s H vs Q E hr h
  exact ⟨t, h1.nox, h2⟩
end
section
variable {X : Cx} {x m : Str} {k j : Nat} {ps : List Str} {sp : Sp} {C : Addr} {p pos apos : Pos} {e o : Expr} {es : List Expr} {t : TA} {to : TE}
/-- f(e, ..) -/
theorem pcall (c : Cal X.prog X.w X.K X.mg X.base x k ps sp) (hr : Room j X.A) (ha : PA X (e :: es) t) (hk : k ≤ j := by decide) (hg : Gl X x := by rfl) (hdb : (x == ("__debug__" : Str)) = false := by decide)
    (he : starEach (e :: es) X.env = (false, eval e X.env) :: starEach es X.env := by rfl) (hpl : (backTo pos (starEach es X.env)).any (·.1) = false := by rfl) : PE X (.Call (.Name x p) (e :: es) [] pos) (tCall sp [] E0 t) := by
  obtain ⟨f, fd, F, g, kp, b⟩ := c.ex
  exact pe_call F (hr.mono hk) hg g kp b .nil pass0 ha hdb he hpl
/-- o.m(e, ..) -/
theorem pmeth {pl : Sem Bool} (cl : Cls X.K C) (c : MCal X.prog X.w X.K X.mg X.base C m k ps sp) (hr : Room j X.A) (ho : PE X o to) (ha : PA X (e :: es) t) (hk : k ≤ j := by decide)
    (hst : starEach (e :: es) X.env = (false, eval e X.env) :: starEach es X.env := by rfl) (hpl : (backTo pos (starEach es X.env)).any (·.1) = false := by rfl)
    (ht : eval (.Call (.Attribute o m apos) (e :: es) [] pos) X.env = (do
      let ov ← eval o X.env
      standAt apos.atName
      let (f, first) ← holding [ov] (getMethod ov m pl)
      callWith pos f first (backTo pos (starEach (e :: es) X.env)) (backToKw pos (keywordEach [] X.env))) := by rfl) : PE X (.Call (.Attribute o m apos) (e :: es) [] pos) (tMeth C m sp [] E0 to t) := by
  obtain ⟨f, fd, F, mt, b⟩ := c.ex
  exact pe_meth ho cl mt F (hr.mono hk) b .nil pass0 ha hst hpl ht
end

/-! ### what the module has -/
def lets : Str := "abcdefghijklmnopqrstuvwxyzABCDEFGHIJKLMNOPQRSTUVWXYZ"
def digs : Str := "0123456789"
def glb (mg : Str → Option Value) (x : Str) (v : V) : Prop := ∃ u, mg x = some u ∧ RelV v u
structure Txt (K : PySem.W.Frag) (mg : Str → Option Value) (C : Addr) : Prop where
  isinstance_ : mg "isinstance" = none
  int_ : mg "int" = none
  bool_ : mg "bool" = none
  str_ : mg "str" = none
  tuple_ : mg "tuple" = none
  len_ : mg "len" = none
  max_ : mg "max" = none
  min_ : mg "min" = none
  all_ : mg "all" = none
  enumerate_ : mg "enumerate" = none
  range_ : mg "range" = none
  sorted_ : mg "sorted" = none
  abs_ : mg "abs" = none
  divmod_ : mg "divmod" = none
  mUnits : glb mg "MOST_UNITS" (.int 6)
  mDec : glb mg "MOST_DECIMALS" (.int 3)
  mLeast : glb mg "MOST_LEAST" (.int 1000)
  mNumber : glb mg "MOST_NUMBER" (.int 1000000000000000000)
  mDigits : glb mg "MOST_DIGITS" (.int 24)
  mName : glb mg "MOST_NAME" (.int 3)
  mPlace : glb mg "MOST_PLACE" (.int 1000000000)
  figs : glb mg "FIGURES" (.str digs)
  lets : glb mg "LETTERS" (.str lets)
  rnds : ∃ a, mg "ROUNDINGS" = some (.ref a) ∧ ∀ H, SqT K H a [.str "down", .str "up", .str "near", .str "even"]
  pows : ∃ a, mg "POWERS" = some (.ref a) ∧ ∀ H, SqT K H a [.int 1, .int 10, .int 100, .int 1000]
  gLad : mg "Ladder" = some (.ref C)
  cl : Cls K C
  ins : C8.InsC K C
  n1 : NoAttr K C "units"
  n2 : NoAttr K C "decimals"
  n3 : NoAttr K C "rounding"
  n4 : NoAttr K C "carry"
  n5 : NoAttr K C "least"
  n6 : NoAttr K C "told"
  n7 : NoAttr K C "steps"
  n8 : NoAttr K C "thresholds"
  n9 : NoAttr K C "starts"

/-! ### the ladder in the heap -/
def _root_.SF.Rnd.s : Rnd → Str
  | .down => "down"
  | .up => "up"
  | .near => "near"
  | .even => "even"
/-- the units' tuple at a -/
def UnitsAt (H : Hp) (a : Addr) (us : List (Str × Int)) : Prop := ∃ rs : List Addr, H a = some (.tup (rs.map V.ref)) ∧ Paired (fun (r : Addr) (u : Str × Int) => H r = some (.tup [.str u.1, .int u.2])) rs us
theorem UnitsAt.same {H H' : Hp} {a : Addr} {us : List (Str × Int)} (s : Same H H') (h : UnitsAt H a us) : UnitsAt H' a us := by
  obtain ⟨rs, h1, h2⟩ := h
  exact ⟨rs, s _ _ h1, Paired.mapP h2 fun _ _ q => s _ _ q⟩
def stepsV (L : Lad) : List V := (List.range L.k).map fun u => .int (L.step u)
def thrV (L : Lad) : List V := (List.range L.k).map fun u => .int (L.thr u)
def startsV (L : Lad) : List V := (List.range L.k).map fun u => .int (L.start u)
def methods : List Str := ["first_for", "start_of", "mark_for", "parts_for", "text_of", "__len__"]
/-- the instance at p: all but the starts -/
structure PreAt (C : Addr) (H : Hp) (p : Addr) (L : Lad) (fs : List (Str × V)) : Prop where
  ob : ∃ dx, H p = some (.ins C dx fs)
  units : ∃ a, fs.lookup ("units" : Str) = some (.ref a) ∧ UnitsAt H a L.us
  dec : fs.lookup ("decimals" : Str) = some (.int L.dec)
  rnd : fs.lookup ("rounding" : Str) = some (.str L.rnd.s)
  carry : fs.lookup ("carry" : Str) = some (.bl L.carry)
  steps : ∃ a, fs.lookup ("steps" : Str) = some (.ref a) ∧ H a = some (.tup (stepsV L))
  thr : ∃ a, fs.lookup ("thresholds" : Str) = some (.ref a) ∧ H a = some (.tup (thrV L))
  nm : ∀ m ∈ methods, fs.lookup m = none
structure LadAt (C : Addr) (H : Hp) (p : Addr) (L : Lad) : Prop where
  pre : ∃ fs, PreAt C H p L fs ∧ ∃ a, fs.lookup ("starts" : Str) = some (.ref a) ∧ H a = some (.tup (startsV L))
theorem PreAt.same {C : Addr} {H H' : Hp} {p : Addr} {L : Lad} {fs : List (Str × V)} (s : Same H H') (h : PreAt C H p L fs) : PreAt C H' p L fs := by
  obtain ⟨⟨dx, h1⟩, ⟨a, h2, h2'⟩, h3, h4, h5, ⟨b, h6, h6'⟩, ⟨c, h7, h7'⟩, h8⟩ := h
  exact ⟨⟨dx, s _ _ h1⟩, ⟨a, h2, h2'.same s⟩, h3, h4, h5, ⟨b, h6, s _ _ h6'⟩, ⟨c, h7, s _ _ h7'⟩, h8⟩
theorem LadAt.same {C : Addr} {H H' : Hp} {p : Addr} {L : Lad} (s : Same H H') (h : LadAt C H p L) : LadAt C H' p L := by
  obtain ⟨fs, h1, a, h2, h3⟩ := h.pre
  exact ⟨fs, h1.same s, a, h2, s _ _ h3⟩
theorem same_upd {H : Hp} {p : Addr} {o : HO} (h : H p = none) : Same H (upd H p o) := fun b x e => by
  rw [upd_ne (ne_of_none e h)]
  exact e
theorem range_get {n u : Nat} {f : Nat → V} (h : u < n) : ((List.range n).map f)[u]? = some (f u) := by
  rw [List.getElem?_map, List.getElem?_range h]
  rfl
end SFW
end TTextZ

section THeadT
set_option Elab.async false
set_option linter.all false
set_option maxRecDepth 100000
set_option maxHeartbeats 0
namespace SFH
open PySem PySem.Spec PyProof.Rows L2 SFW
/-- a global def; a method of Ladder -/
def gD (x : Str) (i : Nat) : He.DefD := ⟨(x, none), x, x, defArgs (top i), defBody (top i), defScope (top i), [], []⟩
def mD (x q : Str) (j : Nat) : He.DefD := ⟨("Ladder", some x), x, q, defArgs (mth j), defBody (mth j), defScope (mth j), [], []⟩
def dI : He.DefD := ⟨("Ladder", some "__init__"), "__init__", "Ladder.__init__", defArgs (mth 0), defBody (mth 0), defScope (mth 0), [], [("carry", .bl true), ("least", .int 1)]⟩
def fn1 : List He.DefD := [gD "is_integer" 23, gD "is_number" 24, gD "check_number" 25, gD "is_unit" 26, gD "may_follow" 27, gD "check_units" 28, gD "suits" 29,
  dI, mD "first_for" "Ladder.first_for" 1, mD "start_of" "Ladder.start_of" 2, mD "mark_for" "Ladder.mark_for" 3, mD "parts_for" "Ladder.parts_for" 4, mD "text_of" "Ladder.text_of" 5, mD "__len__" "Ladder.__len__" 6]
def fn2 : List He.DefD := [gD "check_ladder" 31, gD "number_in" 32, gD "mark_in" 33, gD "parts_of" 34, gD "check_figure" 35, gD "figure_of" 36, gD "show" 37, gD "range_in" 38,
  gD "range_of" 41, gD "shown_range" 42, gD "next_figure" 43, gD "last_mark" 44, gD "figures_before" 45, gD "place_of_parts" 46, gD "place_for" 47, gD "check_bounds" 48, gD "forms" 49, gD "figure_at" 50, gD "place_of" 51]
def fn3 : List He.DefD := [gD "_law_spring" 53, gD "_law_gulp" 54, gD "_law_some_of" 55, gD "_law_units" 56, gD "_law_told" 57, gD "_law_made" 58, gD "_law_top" 59, gD "_law_right" 60, gD "law" 61]
def fn : List He.DefD := fn1 ++ (fn2 ++ fn3)
def fa1 : List He.Fa := [.glo "is_integer", .glo "is_number", .glo "check_number", .glo "is_unit", .glo "may_follow", .glo "check_units", .glo "suits", .glo "Ladder", .glo "check_ladder", .glo "number_in", .glo "mark_in", .glo "parts_of", .glo "check_figure", .glo "figure_of", .glo "show", .glo "range_in"]
def fa2 : List He.Fa := [.glo "range_of", .glo "shown_range", .glo "next_figure", .glo "last_mark", .glo "figures_before", .glo "place_of_parts", .glo "place_for", .glo "check_bounds", .glo "forms", .glo "figure_at", .glo "place_of"]
def fa3 : List He.Fa := [.glo "_law_spring", .glo "_law_gulp", .glo "_law_some_of", .glo "_law_units", .glo "_law_told", .glo "_law_made", .glo "_law_top", .glo "_law_right", .glo "law"]
def fa4 : List He.Fa := [.free "isinstance", .free "int", .free "bool", .free "str", .free "tuple", .free "len", .free "max", .free "min", .free "all", .free "enumerate", .free "range", .free "sorted", .free "abs", .free "divmod"]
def fa5 : List He.Fa := [.int "MOST_UNITS" 6, .int "MOST_DECIMALS" 3, .int "MOST_LEAST" 1000, .int "MOST_NUMBER" 1000000000000000000, .int "MOST_DIGITS" 24, .int "MOST_NAME" 3, .int "MOST_PLACE" 1000000000, .str "FIGURES" "0123456789", .str "LETTERS" "abcdefghijklmnopqrstuvwxyzABCDEFGHIJKLMNOPQRSTUVWXYZ", .glo "ROUNDINGS", .glo "POWERS"]
def fa6 : List He.Fa := [.cls "Ladder", .mkr "Ladder", .noat "Ladder" "units", .noat "Ladder" "decimals", .noat "Ladder" "rounding", .noat "Ladder" "carry", .noat "Ladder" "least", .noat "Ladder" "told", .noat "Ladder" "steps", .noat "Ladder" "thresholds", .noat "Ladder" "starts",
  .meth "Ladder" "first_for", .meth "Ladder" "start_of", .meth "Ladder" "mark_for", .meth "Ladder" "parts_for", .meth "Ladder" "text_of", .meth "Ladder" "__len__"]
def fa : List He.Fa := fa1 ++ (fa2 ++ (fa3 ++ (fa4 ++ (fa5 ++ fa6))))
/-- what isinstance asks of the class -/
def insB (K : PySem.W.Frag) (C : Addr) : Bool := decide (PySem.W.findIn K (.ref C) "__class__" = some (some (.builtin "object.__class__"))) && (decide (PySem.W.specialIn K (.builtin "object.__class__") "__get__" = some (some (.builtin "getset_descriptor.__get__"))) &&
  (decide (PySem.W.takesIn K (.builtin "object.__class__") = some true) && (decide (PySem.W.mroIn K C (.type "object") = some true) && decide (PySem.W.kitOne K (.ref C) (.ref C) = some true))))
theorem insB_ok {K : PySem.W.Frag} {C : Addr} (cl : Cls K C) (h : insB K C = true) : C8.InsC K C := by
  obtain ⟨h1, h⟩ := Bool.and_eq_true_iff.mp h
  obtain ⟨h2, h⟩ := Bool.and_eq_true_iff.mp h
  obtain ⟨h3, h⟩ := Bool.and_eq_true_iff.mp h
  obtain ⟨h4, h5⟩ := Bool.and_eq_true_iff.mp h
  exact ⟨cl, of_decide_eq_true h1, of_decide_eq_true h2, of_decide_eq_true h3, of_decide_eq_true h4, of_decide_eq_true h5⟩
def ex (K : PySem.W.Frag) : Bool := He.tupB K "ROUNDINGS" [.str "down", .str "up", .str "near", .str "even"] && (He.tupB K "POWERS" [.int 1, .int 10, .int 100, .int 1000] && insB K (He.ga K "Ladder"))
/-! the Hook -/
abbrev AlE : Type := He.AlD × Bool
def obsE (n : Nat) (g : Addr → Option Obj) : AlE := (He.obsD fa fn (He.frG g (He.asD g n)), ex (He.frG g (He.asD g n)))
def valE : AlE := (He.valD fn, true)
def SaysE (K : PySem.W.Frag) : Prop := He.SaysD fa fn K ∧ ex K = true
def hookE (n : Nat) : PySem.W.Hook where
  α := AlE
  obs := fun s => obsE n s.heap.get?
  val := fun _ => valE
  says := fun _ h => ∃ K : PySem.W.Frag, K.In h ∧ SaysE K
  of := fun _ _ e => ⟨_, He.frG_in, congrArg (fun z : AlE => z.1) e, congrArg (fun z : AlE => z.2) e⟩
  keeps := fun _ _ _ ⟨K, hK, c⟩ k => ⟨K, PySem.W.Frag.In.keeps hK k, c⟩
abbrev R : PySem.W.OpenRow := PySem.W.OpenLaw.row PySem.Challenge.rw_shortfigures_k14_whole_figures_counted_i
abbrev hk : PySem.W.Hook := hookE 5
def ob (s : PySem.W.SharedT) : AlE := obsE 5 (HandSHeadRun.getT s)
theorem ob_eq (s : PySem.W.SharedT) : ob s = hk.obs s.abs := by
  have e : HandSHeadRun.getT s = s.abs.heap.get? := funext (HandSHeadRun.getT_eq s)
  show obsE 5 (HandSHeadRun.getT s) = obsE 5 s.abs.heap.get?
  rw [e]
abbrev qv : Program := PySem.W.view R.prog [61]
def nm1 : List Str := ["InputError", "NotALadder", "InvalidDecimals", "InvalidRounding", "InvalidCarry", "InvalidLeast", "InvalidNumber", "InvalidFigure", "InvalidPlace", "NeverShown", "InvalidUnits", "MOST_UNITS", "MOST_DECIMALS", "MOST_LEAST", "MOST_NUMBER", "MOST_DIGITS", "ROUNDINGS", "FIGURES", "LETTERS", "MOST_NAME", "POWERS"]
def nm2 : List Str := ["is_integer", "is_number", "check_number", "is_unit", "may_follow", "check_units", "suits", "Ladder", "check_ladder", "number_in", "mark_in", "parts_of", "check_figure", "figure_of", "show", "range_in", "MOST_PLACE"]
def nm3 : List Str := ["range_of", "shown_range", "next_figure", "last_mark", "figures_before", "place_of_parts", "place_for", "check_bounds", "forms", "figure_at", "place_of", "_law_spring", "_law_gulp", "_law_some_of", "_law_units", "_law_told", "_law_made", "_law_top", "_law_right"]
def names : List Str := nm1 ++ (nm2 ++ nm3)
theorem run (w : World) : HandSHeadRun.RunEq R qv hk ob 6000 names w := by
  intro os
  kernel_rfl
end SFH
end THeadT

section TWalkA
set_option Elab.async false
set_option linter.all false
set_option maxRecDepth 100000
set_option maxHeartbeats 4000000
/-! WalkA: the small checks. -/
namespace SFW
open PySem PySem.Spec PyProof.Rows L2 SFK SF
abbrev big : Int := 1000000000000000000
/-! ### answers that are known -/
theorem bT {p : Prop} [Decidable p] {Q : V → Hp → Prop} {H : Hp} (hp : p) (q : Q (.bl true) H) : Q (.bl (decide p)) H := by
  rw [decide_eq_true hp]
  exact q
theorem bF {p : Prop} [Decidable p] {Q : V → Hp → Prop} {H : Hp} (hp : ¬ p) (q : Q (.bl false) H) : Q (.bl (decide p)) H := by
  rw [decide_eq_false hp]
  exact q
theorem iT {p : Prop} [Decidable p] {A B : Prop} (hp : p) (h : A) : if decide p = true then A else B := by
  rw [if_pos (decide_eq_true hp)]
  exact h
theorem iF {p : Prop} [Decidable p] {A B : Prop} (hp : ¬ p) (h : B) : if decide p = true then A else B := by
  rw [if_neg (by rw [decide_eq_false hp]; exact Bool.false_ne_true)]
  exact h
theorem inT {p : Prop} [Decidable p] {A B : Prop} (hp : ¬ p) (h : A) : if (!decide p) = true then A else B := by
  rw [decide_eq_false hp]
  exact iteT h
theorem inF {p : Prop} [Decidable p] {A B : Prop} (hp : p) (h : B) : if (!decide p) = true then A else B := by
  rw [decide_eq_true hp]
  exact iteF h
theorem sT {K : PySem.W.Frag} {H : Hp} {p : Addr} {xs : List V} (h : H p = some (.tup xs)) : SqT K H p xs := .inl (.inl h)
theorem sL {K : PySem.W.Frag} {H : Hp} {p : Addr} {xs : List V} (h : H p = some (.lst xs)) : SqL K H p xs := .inl (.inl h)
theorem take_snoc {α : Type} {xs : List α} {i : Nat} {y : α} (h : xs[i]? = some y) : xs.take (i + 1) = xs.take i ++ [y] := by
  rw [List.take_add_one, h]
  rfl
theorem take_map {α : Type} {f : α → V} {xs : List α} {i : Nat} {y : α} (h : xs[i]? = some y) : (xs.take (i + 1)).map f = (xs.take i).map f ++ [f y] := by
  rw [take_snoc h, List.map_append]
  rfl
theorem mget {α : Type} {f : α → V} {xs : List α} {i : Nat} {x : V} (h : (xs.map f)[i]? = some x) : ∃ r, xs[i]? = some r ∧ f r = x := by
  rw [List.getElem?_map] at h
  cases e : xs[i]? with
  | none => rw [e] at h; cases h
  | some r => rw [e] at h; exact ⟨r, rfl, Option.some.inj h⟩
/-- a comprehension without a test -/
theorem lc_map {J : It} {n : Nat} {G : Hp → Prop} {Y : Nat → Hp → V → Hp → Prop} (w : Walk J n G Y) {g : TG} {te : TE} {vs : List Nat} {σ : L2.St} {H1 : Hp} {D : Addr} {Qd : Hp → Prop} (Pv : Nat → Hp → Prop) (h0 : Pv 0 (upd H1 D (.lst []))) (hG : ∀ i H, i ≤ n → Pv i H → G H)
    (hs : ∀ i x H H', i < n → Pv i H → Y i H x H' → g x (wipe σ vs) H' fun σ2 H2 => wipe σ2 vs = wipe σ vs ∧
      te σ2 H2 fun y H4 => ∃ acc, H4 D = some (.lst acc) ∧ acc.length < sizeLine ∧ Pv (i + 1) (upd H4 D (.lst (acc ++ [y])))) (hd : ∀ H, Pv n H → Qd H) :
    ∃ W : Nat → Nat → Hp → Prop, (∃ m, W 0 m (upd H1 D (.lst []))) ∧ ∀ i m H, W i m H →
      (J.stop i H ∧ Qd H) ∨ (J.go i H ∧ ∃ Nx : Hp → Prop, (∀ H', Nx H' → ∃ m', m' < m ∧ W (i + 1) m' H') ∧ ∀ x H', J.yld i H x H' → g x (wipe σ vs) H' fun σ2 H2 => wipe σ2 vs = wipe σ vs ∧ tYes σ2 H2 fun b H3 =>
        if b = true then te σ2 H3 fun y H4 => ∃ acc, H4 D = some (.lst acc) ∧ acc.length < sizeLine ∧ Nx (upd H4 D (.lst (acc ++ [y]))) else Nx H3) :=
  lc_it w (tt := tYes) Pv h0 hG (fun i x H H' hi hp hy => hs i x H H' hi hp hy) hd
section
variable {P : Program} {w : World} {K : PySem.W.Frag} {mg : Str → Option Value} {base : Heap} {C : Addr}
/-! ### is_integer -/
def spInteger : Sp := fun vs H Q _ => ∃ i : Int, vs = [.int i] ∧ Q (.bl true) H
theorem sc23 : FnScope ["value"] ["value"] (defScope (top 23)) := ⟨rfl, rfl, rfl, by decide +kernel, rfl, by decide +kernel, by decide +kernel⟩
theorem kit_ii : PySem.W.kitOne K (.type "int") (.type "int") = some true := kit_ty (by decide +kernel)
theorem kit_ib : PySem.W.kitOne K (.type "int") (.type "bool") = some false := kit_ty (by decide +kernel)
theorem kit_bb : PySem.W.kitOne K (.type "bool") (.type "bool") = some true := kit_ty (by decide +kernel)
theorem kit_ss : PySem.W.kitOne K (.type "str") (.type "str") = some true := kit_ty (by decide +kernel)
theorem kit_tt : PySem.W.kitOne K (.type "tuple") (.type "tuple") = some true := kit_ty (by decide +kernel)
theorem ok_integer (T : Txt K mg C) (D : Def K mg "is_integer" (top 23)) : Cal P w K mg base "is_integer" 1 ["value"] spInteger := by
  refine D.cal sc23 (fun _ _ _ _ _ _ us hl => match us, hl with | [_], _ => rfl) (fun vs H Q E h => ?_) (fun f cdv A outer s H vs Q E hr h => ?_)
  · obtain ⟨i, rfl, _⟩ := h
    rfl
  · obtain ⟨i, rfl, q⟩ := h
    refine ⟨_, pss_one (ps_ret (pe_and (pe_callB call_isi (by rfl) T.isinstance_ (by decide +kernel) (pa_cons (pv 0) (pa_cons (pe_bltn (v := .ty "int") (by rfl) T.int_ (by decide +kernel) rfl) pa_nil)))
      (pe_one (pe_not (pe_callB call_isi (by rfl) T.isinstance_ (by decide +kernel) (pa_cons (pv 0) (pa_cons (pe_bltn (v := .ty "bool") (by rfl) T.bool_ (by decide +kernel) rfl) pa_nil))))))), ?_⟩
    refine ⟨_, rfl, .int i, .ty "int", _, _, true, rfl, .ty _, .base (.int i), kit_ii, true, rfl, iteT ?_⟩
    exact ⟨_, rfl, .int i, .ty "bool", _, _, false, rfl, .ty _, .base (.int i), kit_ib, false, rfl, q⟩
/-! ### is_number -/
def spNumber : Sp := fun vs H Q _ => ∃ i : Int, vs = [.int i] ∧ 0 ≤ i ∧ i ≤ big ∧ Q (.bl true) H
theorem sc24 : FnScope ["value"] ["value"] (defScope (top 24)) := ⟨rfl, rfl, rfl, by decide +kernel, rfl, by decide +kernel, by decide +kernel⟩
theorem glb.pe {X : Cx} {x : Str} {v : V} {pos : Pos} (h : glb X.mg x v) (hg : Gl X x := by rfl) (hd : (x == ("__debug__" : Str)) = false := by decide) : PE X (.Name x pos) (tC v) := by
  obtain ⟨u, hm, r⟩ := h
  exact pe_glob hg hm r hd
theorem ok_number (T : Txt K mg C) (D : Def K mg "is_number" (top 24)) (c1 : Cal P w K mg base "is_integer" 1 ["value"] spInteger) : Cal P w K mg base "is_number" 2 ["value"] spNumber := by
  refine D.cal sc24 (fun _ _ _ _ _ _ us hl => match us, hl with | [_], _ => rfl) (fun vs H Q E h => ?_) (fun f cdv A outer s H vs Q E hr h => ?_)
  · obtain ⟨i, rfl, _⟩ := h
    rfl
  · obtain ⟨i, rfl, h0, h1, q⟩ := h
    refine ⟨_, pss_one (ps_ret (pe_and (pcall c1 hr (pa_cons (pv 0) pa_nil)) (pe_one (pe_chain op_le op_le pe_int (pv 0) T.mNumber.pe)))), ?_⟩
    refine ⟨_, rfl, i, rfl, true, rfl, iteT ?_⟩
    refine ⟨_, rfl, 0, i, rfl, rfl, _, rfl, ?_⟩
    exact iT h0 ⟨i, big, rfl, rfl, bT (Q := Q) h1 q⟩
/-! ### check_number -/
def spCkNumber : Sp := fun vs H Q _ => ∃ i : Int, vs = [.int i] ∧ 0 ≤ i ∧ i ≤ big ∧ Q .non H
theorem sc25 : FnScope ["value"] ["value"] (defScope (top 25)) := ⟨rfl, rfl, rfl, by decide +kernel, rfl, by decide +kernel, by decide +kernel⟩
theorem ok_ckNumber (D : Def K mg "check_number" (top 25)) (c1 : Cal P w K mg base "is_number" 2 ["value"] spNumber) : Cal P w K mg base "check_number" 3 ["value"] spCkNumber := by
  refine D.cal sc25 (fun _ _ _ _ _ _ us hl => match us, hl with | [_], _ => rfl) (fun vs H Q E h => ?_) (fun f cdv A outer s H vs Q E hr h => ?_)
  · obtain ⟨i, rfl, _⟩ := h
    rfl
  · obtain ⟨i, rfl, h0, h1, q⟩ := h
    refine ⟨_, pss_one (ps_if (pt_not (pt_val (pcall c1 hr (pa_cons (pv 0) pa_nil)))) pss_never pss_nil), ?_⟩
    exact ⟨_, rfl, i, rfl, h0, h1, true, rfl, iteF q⟩
end
end SFW
end TWalkA

section TWalkB
set_option Elab.async false
set_option linter.all false
set_option maxRecDepth 100000
set_option maxHeartbeats 4000000
/-! WalkB: units that are units. -/
namespace SFW
open PySem PySem.Spec PyProof.Rows L2 SFK SF
structure UnitOk (u : Str × Int) : Prop where
  short : u.1.length ≤ 3
  letters : ∀ c ∈ u.1.cps.toList, c ∈ lets.cps.toList
  lo : 1 ≤ u.2
  hi : u.2 ≤ big
def Follows (u : Str × Int) (before : List (Str × Int)) : Prop := (before = [] ∧ u.2 = 1) ∨ ∃ l b, before = l ++ [b] ∧ u.1 ∉ before.map (·.1) ∧ b.2 < u.2 ∧ u.2 / b.2 * b.2 = u.2 ∧ 1 ≤ b.2 ∧ b.2 ≤ big
structure UOk (us : List (Str × Int)) : Prop where
  n1 : 1 ≤ us.length
  n6 : us.length ≤ 6
  one : ∀ i u, us[i]? = some u → UnitOk u ∧ Follows u (us.take i)
theorem sl63 {n : Nat} (h : n ≤ 1000) : n ≤ sizeLine := Nat.le_of_lt (small1000 h)
theorem all_rep (n : Nat) : (List.replicate n true).all id = true := by
  rw [List.all_eq_true]
  intro x hx
  rw [(List.mem_replicate.mp hx).2]
  rfl
theorem rep_snoc (n : Nat) : (List.replicate n true).map V.bl ++ [V.bl true] = (List.replicate (n + 1) true).map V.bl := by
  rw [List.replicate_succ', List.map_append]
  rfl
theorem rep_len (n : Nat) : ((List.replicate n true).map V.bl).length = n := by
  rw [List.length_map, List.length_replicate]
section
variable {P : Program} {w : World} {K : PySem.W.Frag} {mg : Str → Option Value} {base : Heap} {C : Addr}
/-! ### is_unit -/
def spUnit : Sp := fun vs H Q _ => ∃ (a : Addr) (u : Str × Int), vs = [.ref a] ∧ H a = some (.tup [.str u.1, .int u.2]) ∧ UnitOk u ∧ ∀ H', Same H H' → Q (.bl true) H'
theorem sc26 : FnScope ["value", "sign"] ["value"] (defScope (top 26)) := ⟨rfl, rfl, rfl, by decide +kernel, rfl, by decide +kernel, by decide +kernel⟩
theorem ok_unit (T : Txt K mg C) (D : Def K mg "is_unit" (top 26)) (c1 : Cal P w K mg base "is_integer" 1 ["value"] spInteger) : Cal P w K mg base "is_unit" 2 ["value"] spUnit := by
  refine D.cal sc26 (fun _ _ _ _ _ _ us hl => match us, hl with | [_], _ => rfl) (fun vs H Q E h => ?_) (fun f cdv A outer s H vs Q E hr h => ?_)
  · obtain ⟨a, u, rfl, _⟩ := h
    rfl
  · obtain ⟨a, u, rfl, ha, ok, q⟩ := h
    have hA : SqT K H a [.str u.1, .int u.2] := sT ha
    refine ⟨_, pss_cons (ps_if (PW.pt (pw_or (pt_not (pt_val (pe_callB call_isi (by rfl) T.isinstance_ (by decide +kernel) (pa_cons (pv 0) (pa_cons (pe_bltn (v := .ty "tuple") (by rfl) T.tuple_ (by decide +kernel) rfl) pa_nil)))))
        (pw_or (pt_cmpR op_ne (pe_callB call_len_seq (by rfl) T.len_ PySem.boot_len (pa_cons (pv 0) pa_nil)) pe_int (nomark _))
        (pw_or (pt_not (pt_val (pe_callB call_isi (by rfl) T.isinstance_ (by decide +kernel) (pa_cons (pe_ix ix_tup (pv 0) pe_int (fun _ _ => rfl)) (pa_cons (pe_bltn (v := .ty "str") (by rfl) T.str_ (by decide +kernel) rfl) pa_nil)))))
        (pw_or1 (pt_cmpR op_gt (pe_callB call_len_str (by rfl) T.len_ PySem.boot_len (pa_cons (pe_ix ix_tup (pv 0) pe_int (fun _ _ => rfl)) pa_nil)) T.mName.pe (nomark _)))))))
        (pss_one (ps_ret pe_bl)) pss_nil)
      (pss_one (ps_ret (pe_and (pe_callB (cr_all rfl) (by rfl) T.all_ (by decide +kernel) (pa_cons
          (pe_lc (own := [("sign", 1)]) (g := gName 1) (tt := tYes) rfl sc26.nd (pi_str (pe_ix ix_tup (pv 0) pe_int (fun _ _ => rfl))) (blkOk_by (own := [("sign", 1)]) (N := ["value", "sign"]) (sc := defScope (top 26)) (by decide +kernel))
            (fun _ _ _ _ _ => pg_name (i := 1) sc26.nd rfl (Or.inl rfl)) (fun _ _ _ _ _ => pts_nil) (fun _ _ _ _ _ => pe_cmpR op_in_sign (pv 1) T.lets.pe rfl)) pa_nil))
        (pe_and (pcall c1 hr (pa_cons (pe_ix ix_tup (pv 0) pe_int (fun _ _ => rfl)) pa_nil))
        (pe_one (pe_chain op_le op_le pe_int (pe_ix ix_tup (pv 0) pe_int (fun _ _ => rfl)) T.mNumber.pe)))))), ?_⟩
    refine ⟨_, rfl, .ref a, .ty "tuple", _, _, true, rfl, .ty _, .base (.tup ha), kit_tt, true, rfl, iteF ?_⟩
    refine ⟨_, rfl, a, _, rfl, .inr hA, rfl, _, rfl, inF rfl ?_⟩
    refine ⟨_, rfl, a, _, 0, .str u.1, rfl, rfl, hA, atI_nat (j := 0) rfl, .str u.1, .ty "str", _, _, true, rfl, .ty _, .base (.str _), kit_ss, true, rfl, iteF ?_⟩
    refine ⟨_, rfl, a, _, 0, .str u.1, rfl, rfl, hA, atI_nat (j := 0) rfl, u.1, rfl, sl63 (Nat.le_trans ok.short (by decide)), _, _, rfl, rfl, _, rfl, iF (by have := ok.short; show ¬ (3 : Int) < ((u.1.length : Nat) : Int); omega) ?_⟩
    -- all([sign in LETTERS for sign in value[0]])
    refine ⟨_, rfl, a, _, 0, .str u.1, rfl, rfl, hA, atI_nat (j := 0) rfl, u.1, rfl, fun Dl hD => lc_map walk_str (fun i H' => Same H H' ∧ H' Dl = some (.lst ((List.replicate i true).map V.bl))) ⟨same_upd hD, upd_same⟩ (fun _ _ _ _ => trivial) ?_ ?_⟩
    · rintro i x H1 H2 hi ⟨sm, hL⟩ ⟨rfl, c, hc, rfl⟩
      refine ⟨rfl, _, rfl, c, _, rfl, rfl, ?_⟩
      rw [decide_eq_true (ok.letters c (List.mem_of_getElem? (by rw [Array.getElem?_toList]; exact hc)))]
      refine ⟨_, hL, ?_, fun b o e => ?_, ?_⟩
      · rw [rep_len]
        exact small1000 (by have := ok.short; show i ≤ 1000; have : u.1.cps.size ≤ 3 := this; omega)
      · rw [upd_ne (ne_of_none e hD)]
        exact sm _ _ e
      · rw [upd_same, rep_snoc]
    · rintro H1 ⟨sm, hL⟩
      have hA1 : SqT K H1 a [.str u.1, .int u.2] := sT (sm _ _ ha)
      refine ⟨Dl, _, rfl, sL hL, _, rfl, ?_⟩
      rw [all_rep]
      refine iteT ⟨_, rfl, a, _, 1, .int u.2, rfl, rfl, hA1, atI_nat (j := 1) rfl, u.2, rfl, true, rfl, iteT ?_⟩
      refine ⟨_, rfl, a, _, 1, .int u.2, rfl, rfl, hA1, atI_nat (j := 1) rfl, 1, u.2, rfl, rfl, _, rfl, iT ok.lo ⟨u.2, big, rfl, rfl, bT (Q := Q) ok.hi (q _ sm)⟩⟩
/-! ### may_follow -/
def spFollow : Sp := fun vs H Q _ => ∃ (a b : Addr) (u : Str × Int) (us : List (Str × Int)), vs = [.ref a, .ref b] ∧ H a = some (.tup [.str u.1, .int u.2]) ∧ UnitsAt H b us ∧ us.length ≤ 6 ∧ UnitOk u ∧ Follows u us ∧ ∀ H', Same H H' → Q (.bl true) H'
theorem sc27 : FnScope ["unit", "before", "size", "name", "other"] ["unit", "before"] (defScope (top 27)) := ⟨rfl, rfl, rfl, by decide +kernel, rfl, by decide +kernel, by decide +kernel⟩
theorem inV_str {x : Str} {xs : List Str} (h : x ∉ xs) : inV (.str x) (xs.map V.str) = false := by
  unfold inV
  rw [List.any_eq_false]
  intro y hy
  obtain ⟨z, hz, rfl⟩ := List.mem_map.mp hy
  show ¬ (z == x) = true
  intro e
  have e2 : z = x := beq_iff_eq.mp e
  rw [e2] at hz
  exact h hz
theorem flat_strs (xs : List Str) : (xs.map V.str).all flatV = true := by
  rw [List.all_eq_true]
  intro y hy
  obtain ⟨z, hz, rfl⟩ := List.mem_map.mp hy
  rfl
theorem Paired.get2 {α β : Type} {R : α → β → Prop} : ∀ {xs : List α} {ys : List β} {i : Nat} {y : β}, Paired R xs ys → ys[i]? = some y → ∃ x, xs[i]? = some x ∧ R x y
  | _, _, i, y, .nil, h => by simp at h
  | x :: xs, z :: ys, 0, y, .cons r t, h => by
    have e : z = y := by simpa using h
    subst e
    exact ⟨x, rfl, r⟩
  | x :: xs, z :: ys, i + 1, y, .cons r t, h => by
    have h2 : ys[i]? = some y := by simpa using h
    obtain ⟨x', h3, h4⟩ := Paired.get2 t h2
    exact ⟨x', by simpa using h3, h4⟩
theorem Paired.get1 {α β : Type} {R : α → β → Prop} : ∀ {xs : List α} {ys : List β} {i : Nat} {x : α}, Paired R xs ys → xs[i]? = some x → ∃ y, ys[i]? = some y ∧ R x y
  | _, _, i, x, .nil, h => by simp at h
  | z :: xs, y :: ys, 0, x, .cons r t, h => by
    have e : z = x := by simpa using h
    subst e
    exact ⟨y, rfl, r⟩
  | z :: xs, y :: ys, i + 1, x, .cons r t, h => by
    have h2 : xs[i]? = some x := by simpa using h
    obtain ⟨x', h3, h4⟩ := Paired.get1 t h2
    exact ⟨x', by simpa using h3, h4⟩
theorem Paired.len {α β : Type} {R : α → β → Prop} : ∀ {xs : List α} {ys : List β}, Paired R xs ys → xs.length = ys.length
  | _, _, .nil => rfl
  | _ :: _, _ :: _, .cons _ t => by rw [List.length_cons, List.length_cons, Paired.len t]
theorem Paired.take {α β : Type} {R : α → β → Prop} : ∀ {xs : List α} {ys : List β} (n : Nat), Paired R xs ys → Paired R (xs.take n) (ys.take n)
  | _, _, 0, _ => .nil
  | _, _, _ + 1, .nil => .nil
  | _, _, n + 1, .cons r t => .cons r (Paired.take n t)
theorem Paired.drop {α β : Type} {R : α → β → Prop} : ∀ {xs : List α} {ys : List β} (n : Nat), Paired R xs ys → Paired R (xs.drop n) (ys.drop n)
  | _, _, 0, r => r
  | _, _, _ + 1, .nil => .nil
  | _, _, n + 1, .cons _ t => Paired.drop n t
theorem pow64 : (2 : Int) ^ 64 = 18446744073709551616 := by decide
theorem big64 {i : Int} (h0 : 0 ≤ i) (h : i ≤ big) : -(2 ^ 64) < i ∧ i < 2 ^ 64 := by
  have e : (2 : Int) ^ 64 = 18446744073709551616 := by decide
  rw [e]
  have : i ≤ 1000000000000000000 := h
  omega
theorem divW {j : Int} (h0 : 1 ≤ j) (h : j ≤ big) : CDivW 0 j := by
  refine wide_div (b := 64) (by omega) ?_ (by decide) (by decide)
  have : j ≤ 1000000000000000000 := h
  have e : (2 : Nat) ^ 64 = 18446744073709551616 := by decide
  rw [e]
  omega
theorem ok_follow (T : Txt K mg C) (D : Def K mg "may_follow" (top 27)) : Cal P w K mg base "may_follow" 1 ["unit", "before"] spFollow := by
  refine D.cal sc27 (fun _ _ _ _ _ _ us hl => match us, hl with | [_, _], _ => rfl) (fun vs H Q E h => ?_) (fun f cdv A outer s H vs Q E hr h => ?_)
  · obtain ⟨a, b, u, us, rfl, _⟩ := h
    rfl
  · obtain ⟨a, b, u, us, rfl, ha, ⟨rs, hb, hu⟩, hl6, ok, fo, q⟩ := h
    have hA : SqT K H a [.str u.1, .int u.2] := sT ha
    have hB : SqT K H b (rs.map V.ref) := sT hb
    have hl := Paired.len hu
    refine ⟨_, pss_cons (ps_if (pt_cmpR op_eq (pe_callB call_len_seq (by rfl) T.len_ PySem.boot_len (pa_cons (pv 1) pa_nil)) pe_int (nomark _))
        (pss_one (ps_ret (pe_cmpR op_eq (pe_ix ix_tup (pv 0) pe_int (fun _ _ => rfl)) pe_int (nomark _)))) pss_nil)
      (pss_cons (ps_set (i := 2) sc27.nd rfl (.inl rfl) (pe_ix ix_tup (pe_ix ix_tup (pv 1) (pe_un un_neg pe_int) (fun _ _ => rfl)) pe_int (fun _ _ => rfl)))
      (pss_one (ps_ret (pe_and (pe_cmpR op_notIn_seq (pe_ix ix_tup (pv 0) pe_int (fun _ _ => rfl))
          (pe_lc (own := [("name", 3), ("other", 4)]) (g := gTup K 2 (gCons (gName 3) (gCons (gName 4) gNil))) (tt := tYes) rfl sc27.nd (pi_tup (pv 1)) (blkOk_by (own := [("name", 3), ("other", 4)]) (N := ["unit", "before", "size", "name", "other"]) (sc := defScope (top 27)) (by decide +kernel))
            (fun _ _ _ _ _ => pg_tup rfl (pgs_cons (pg_name (i := 3) sc27.nd rfl (Or.inl rfl)) (pgs_cons (pg_name (i := 4) sc27.nd rfl (Or.inl rfl)) pgs_nil))) (fun _ _ _ _ _ => pts_nil) (fun _ _ _ _ _ => pv 3)) rfl)
        (pe_and (pe_cmpR op_gt (pe_ix ix_tup (pv 0) pe_int (fun _ _ => rfl)) (pv 2) (nomark _))
        (pe_one (pe_cmpR op_eq (pe_op op_mul (pe_op op_fdivW (pe_ix ix_tup (pv 0) pe_int (fun _ _ => rfl)) (pv 2)) (pv 2)) (pe_ix ix_tup (pv 0) pe_int (fun _ _ => rfl)) (nomark _)))))))), ?_⟩
    refine ⟨_, rfl, b, _, rfl, .inr hB, rfl, _, rfl, ?_⟩
    rcases fo with ⟨rfl, e1⟩ | ⟨l, bb, rfl, nin, lt, dv, lo, hi⟩
    · have e0 : rs = [] := List.length_eq_zero_iff.mp hl
      subst e0
      refine iT rfl ?_
      refine ⟨_, rfl, a, _, 1, .int u.2, rfl, rfl, hA, atI_nat (j := 1) rfl, rfl, ?_⟩
      exact bT (Q := Q) (by rw [e1]) (q H (Same.refl H))
    · rw [List.length_append, List.length_singleton] at hl
      refine iF (fun e => ?_) ?_
      · have e2 : (((rs.map V.ref).length : Nat) : Int) = 0 := V.int.inj e
        rw [List.length_map] at e2
        omega
      have hlast : (l ++ [bb])[l.length]? = some bb := by simp
      obtain ⟨r, hr1, hr2⟩ := Paired.get2 hu hlast
      have hat : atI (rs.map V.ref) (-1) = some (.ref r) := by
        have e3 : rs = rs.dropLast ++ [r] := by
          have hne : rs ≠ [] := fun z => by rw [z] at hl; simp at hl
          have := List.dropLast_concat_getLast hne
          have e4 : rs.getLast hne = r := by
            rw [List.getLast_eq_getElem]
            have h5 : rs[rs.length - 1]? = some r := by rw [show rs.length - 1 = l.length by omega]; exact hr1
            have h6 := List.getElem?_eq_some_iff.mp h5
            exact h6.2
          rw [← e4]
          exact this.symm
        rw [e3, List.map_append]
        exact atI_last _ _
      have hR : SqT K H r [.str bb.1, .int bb.2] := sT hr2
      refine ⟨_, rfl, 1, rfl, b, _, -1, .ref r, rfl, rfl, hB, hat, r, _, 1, .int bb.2, rfl, rfl, hR, atI_nat (j := 1) rfl, ?_⟩
      refine ⟨_, rfl, a, _, 0, .str u.1, rfl, rfl, hA, atI_nat (j := 0) rfl, ?_⟩
      refine ⟨_, rfl, b, rfl, ⟨_, hB⟩, fun Dl hD => lc_map (walk_tup (xs := rs.map V.ref)) (fun i H' => Same H H' ∧ H' Dl = some (.lst ((((l ++ [bb]).map (·.1)).take i).map V.str))) ⟨same_upd hD, upd_same⟩ (fun i H' _ p => sT (p.1 _ _ hb)) ?_ ?_⟩
      · rintro i x H1 H2 hi ⟨sm, hL⟩ ⟨rfl, hx⟩
        rw [List.getElem?_map] at hx
        cases hri : rs[i]? with
        | none => rw [hri] at hx; cases hx
        | some r1 =>
          rw [hri] at hx
          have ex : V.ref r1 = x := Option.some.inj hx
          subst ex
          obtain ⟨y, hy1, hy2⟩ := Paired.get1 hu hri
          refine ⟨r1, _, rfl, sT (sm _ _ hy2), rfl, .str y.1, _, rfl, .int y.2, [], rfl, rfl, rfl, .str y.1, rfl, ?_⟩
          refine ⟨_, hL, ?_, fun c o e => ?_, ?_⟩
          · rw [List.length_map, List.length_take]
            exact small1000 (by rw [List.length_map]; have := Nat.min_le_right i (l ++ [bb]).length; omega)
          · rw [upd_ne (ne_of_none e hD)]
            exact sm _ _ e
          · rw [upd_same, take_map (y := y.1) (by rw [List.getElem?_map, hy1]; rfl)]
      · rintro H1 ⟨sm, hL⟩
        have hA1 : SqT K H1 a [.str u.1, .int u.2] := sT (sm _ _ ha)
        rw [List.length_map, Paired.len hu, List.take_of_length_le (by rw [List.length_map]; exact Nat.le_refl _)] at hL
        refine ⟨Dl, _, rfl, .inl (sL hL), rfl, flat_strs _, _, rfl, ?_⟩
        rw [inV_str nin]
        refine iteT ⟨_, rfl, a, _, 1, .int u.2, rfl, rfl, hA1, atI_nat (j := 1) rfl, _, rfl, u.2, bb.2, rfl, rfl, _, rfl, iT lt ?_⟩
        refine ⟨_, rfl, a, _, 1, .int u.2, rfl, rfl, hA1, atI_nat (j := 1) rfl, _, rfl, u.2, bb.2, rfl, rfl, divW lo hi, _, rfl, _, bb.2, rfl, rfl, .inr (big64 (by omega) hi), _, rfl, a, _, 1, .int u.2, rfl, rfl, hA1, atI_nat (j := 1) rfl, rfl, ?_⟩
        exact bT (Q := Q) (congrArg V.int dv) (q _ sm)
end
end SFW
end TWalkB

section TWalkC
set_option Elab.async false
set_option linter.all false
set_option maxRecDepth 100000
set_option maxHeartbeats 4000000
/-! WalkC: check_units, suits. -/
namespace SFW
open PySem PySem.Spec PyProof.Rows L2 SFK SF
theorem cut_to (xs : List V) (i : Nat) : cutV xs none (some (i : Int)) = xs.take i := by
  unfold cutV
  rw [HT.sIx_nat, HT.sIx_none, Nat.sub_zero, List.drop_zero]
  by_cases h : i ≤ xs.length
  · rw [Nat.min_eq_left h]
  · rw [Nat.min_eq_right (by omega), List.take_of_length_le (Nat.le_refl _), List.take_of_length_le (by omega)]
theorem cut_1 (xs : List V) : cutV xs (some 1) none = xs.drop 1 := by
  unfold cutV
  rw [show HT.sIx xs.length 0 (some 1) = min 1 xs.length from HT.sIx_nat xs.length 0 1, HT.sIx_none]
  cases xs with
  | nil => rfl
  | cons x r =>
    rw [show min 1 (x :: r).length = 1 by
      rw [List.length_cons]
      omega]
    show (List.take ((x :: r).length - 1) r) = r
    rw [List.length_cons, Nat.add_sub_cancel]
    exact List.take_length
section
variable {P : Program} {w : World} {K : PySem.W.Frag} {mg : Str → Option Value} {base : Heap} {C : Addr}
/-! ### check_units -/
def spCkUnits : Sp := fun vs H Q _ => ∃ (a : Addr) (us : List (Str × Int)), vs = [.ref a] ∧ UnitsAt H a us ∧ UOk us ∧ ∀ H', Same H H' → Q .non H'
theorem sc28 : FnScope ["value", "index", "unit"] ["value"] (defScope (top 28)) := ⟨rfl, rfl, rfl, by decide +kernel, rfl, by decide +kernel, by decide +kernel⟩
theorem ok_ckUnits (T : Txt K mg C) (D : Def K mg "check_units" (top 28)) (c1 : Cal P w K mg base "is_unit" 2 ["value"] spUnit) (c2 : Cal P w K mg base "may_follow" 1 ["unit", "before"] spFollow) :
    Cal P w K mg base "check_units" 3 ["value"] spCkUnits := by
  refine D.cal sc28 (fun _ _ _ _ _ _ us hl => match us, hl with | [_], _ => rfl) (fun vs H Q E h => ?_) (fun f cdv A outer s H vs Q E hr h => ?_)
  · obtain ⟨a, us, rfl, _⟩ := h
    rfl
  · obtain ⟨a, us, rfl, ⟨rs, ha, hu⟩, ok, q⟩ := h
    have hA : SqT K H a (rs.map V.ref) := sT ha
    have hl := Paired.len hu
    have n1 := ok.n1
    have n6 := ok.n6
    refine ⟨_, pss_cons (ps_if (PW.pt (pw_or (pt_not (pt_val (pe_callB call_isi (by rfl) T.isinstance_ (by decide +kernel) (pa_cons (pv 0) (pa_cons (pe_bltn (v := .ty "tuple") (by rfl) T.tuple_ (by decide +kernel) rfl) pa_nil)))))
        (pw_or1 (pt_not (pt_chain op_le op_le pe_int (pe_callB call_len_seq (by rfl) T.len_ PySem.boot_len (pa_cons (pv 0) pa_nil)) T.mUnits.pe))))) pss_never pss_nil)
      (pss_one (ps_for PassesOwn.never rfl (pi_enumT (by rfl) T.enumerate_ (pa_cons (pv 0) pa_nil))
        (pg_tup rfl (pgs_cons (pg_name (i := 1) sc28.nd rfl (.inl rfl)) (pgs_cons (pg_name (i := 2) sc28.nd rfl (.inl rfl)) pgs_nil)))
        (pss_one (ps_if (PW.pt (pw_or (pt_not (pt_val (pcall c1 hr (pa_cons (pv 2) pa_nil)))) (pw_or1 (pt_not (pt_val (pcall c2 hr (pa_cons (pv 2) (pa_cons (pe_slice sl_tupA (pv 0) po_none (po_some (pv 1))) pa_nil))))))))
          pss_never pss_nil)))), ?_⟩
    refine ⟨_, rfl, .ref a, .ty "tuple", _, _, true, rfl, .ty _, .base (.tup ha), kit_tt, true, rfl, iteF ?_⟩
    refine ⟨_, rfl, a, _, rfl, .inr hA, 1, _, rfl, rfl, _, rfl, ?_⟩
    refine iT (by show (1 : Int) ≤ (((rs.map V.ref).length : Nat) : Int); rw [List.length_map]; omega) ⟨_, 6, rfl, rfl, _, rfl, ?_⟩
    rw [decide_eq_true (show (((rs.map V.ref).length : Nat) : Int) ≤ 6 by rw [List.length_map]; omega)]
    refine iteF ?_
    refine ⟨_, rfl, a, _, rfl, hA, for_it (walk_enumT (xs := rs.map V.ref)) (fun i σ H' => Same H H' ∧ ∃ y z, σ = [some (.ref a), y, z]) ⟨Same.refl H, _, _, rfl⟩ (fun i σ H' _ p => sT (p.1 _ _ ha)) ?_ (fun σ H' p => q H' p.1)⟩
    rintro i x σ H1 H2 hi ⟨sm, y, z, rfl⟩ ⟨Tp, x1, x2, rfl, nT, rfl, e1, e2⟩
    have ex1 : V.int (i : Int) = x1 := Option.some.inj e1
    subst ex1
    obtain ⟨r, hri, rfl⟩ := mget (show (rs.map V.ref)[i]? = some x2 from e2)
    obtain ⟨u, hy1, hy2⟩ := Paired.get1 hu hri
    obtain ⟨uok, fol⟩ := ok.one i u hy1
    have sm2 : Same H (upd H1 Tp (.tup [.int (i : Int), .ref r])) := sm.trans (same_upd nT)
    refine ⟨Tp, _, rfl, sT upd_same, rfl, .int (i : Int), _, rfl, .ref r, [], rfl, rfl, ?_⟩
    refine ⟨_, rfl, r, u, rfl, sm2 _ _ hy2, uok, fun H3 s3 => ⟨true, rfl, iteF ?_⟩⟩
    have sm3 := sm2.trans s3
    rw [List.length_map] at hi
    refine ⟨_, rfl, .ref a, rfl, .int (i : Int), rfl, (i : Int), rfl, a, _, rfl, sT (sm3 _ _ ha), fun wh => ?_, fun _ p np => ?_⟩
    · have w2 := wh.2
      rw [HT.sIx_nat, List.length_map] at w2
      omega
    · have s4 : Same H3 (upd H3 p (.tup (cutV (rs.map V.ref) none (some (i : Int))))) := same_upd np
      have sm4 := sm3.trans s4
      refine ⟨r, p, u, us.take i, rfl, sm4 _ _ hy2, ⟨rs.take i, ?_, Paired.mapP (Paired.take i hu) fun _ _ e => sm4 _ _ e⟩, ?_, uok, fol, fun H5 s5 => ⟨true, rfl, iteF ⟨sm4.trans s5, _, _, rfl⟩⟩⟩
      · rw [upd_same, cut_to, List.map_take]
      · rw [List.length_take]
        omega
/-! ### suits -/
def spSuits : Sp := fun vs H Q _ => ∃ (a : Addr) (us : List (Str × Int)) (d : Nat), vs = [.ref a, .int d] ∧ UnitsAt H a us ∧ 1 ≤ us.length ∧ us.length ≤ 6 ∧ d ≤ 3 ∧ (∀ u ∈ us.tail, u.2 / (2 * p10 d) * (2 * p10 d) = u.2) ∧ ∀ H', Same H H' → Q (.bl true) H'
theorem sc29 : FnScope ["units", "decimals", "part", "name", "size"] ["units", "decimals"] (defScope (top 29)) := ⟨rfl, rfl, rfl, by decide +kernel, rfl, by decide +kernel, by decide +kernel⟩
theorem pow_at {d : Nat} (h : d ≤ 3) : ([.int 1, .int 10, .int 100, .int 1000] : List V)[d]? = some (.int (p10 d)) := by
  have e : d = 0 ∨ d = 1 ∨ d = 2 ∨ d = 3 := by omega
  rcases e with rfl | rfl | rfl | rfl <;> rfl
theorem pow_pe {X : Cx} {x : Str} {pos : Pos} {xs : List V} (h : ∃ a, X.mg x = some (.ref a) ∧ ∀ H, SqT X.K H a xs) (hg : Gl X x := by rfl) (hd : (x == ("__debug__" : Str)) = false := by decide) : PE X (.Name x pos) (fun σ H Q => ∀ a, (∀ H, SqT X.K H a xs) → Q (.ref a) H) := by
  obtain ⟨a, hm, hs⟩ := h
  have z := pe_glob (v := .ref a) (pos := pos) hg hm rfl hd
  exact ⟨fun pins s σ H Q I q => z.run pins s σ H Q I (q a hs)⟩
theorem part_bd (d : Nat) : 2 ≤ 2 * p10 d ∧ 2 * p10 d ≤ 2000 := by
  have := p10_pos d
  have := p10_le d
  omega
theorem fdv {i j : Int} (h : 0 < j) : i.fdiv j = i / j := Int.fdiv_eq_ediv_of_nonneg i (by omega)
theorem tl_ne {α : Type} {xs : List α} (h : 1 ≤ xs.length) : ¬ (HT.sIx xs.length 0 (some 1) = 0 ∧ HT.sIx xs.length xs.length none = xs.length) := by
  rintro ⟨h1, _⟩
  rw [show HT.sIx xs.length 0 (some 1) = min 1 xs.length from HT.sIx_nat xs.length 0 1] at h1
  omega
theorem ok_suits (T : Txt K mg C) (D : Def K mg "suits" (top 29)) (c1 : Cal P w K mg base "is_integer" 1 ["value"] spInteger) : Cal P w K mg base "suits" 2 ["units", "decimals"] spSuits := by
  refine D.cal sc29 (fun _ _ _ _ _ _ us hl => match us, hl with | [_, _], _ => rfl) (fun vs H Q E h => ?_) (fun f cdv A outer s H vs Q E hr h => ?_)
  · obtain ⟨a, us, d, rfl, _⟩ := h
    rfl
  · obtain ⟨a, us, d, rfl, ⟨rs, ha, hu⟩, n1, n6, hd3, hdv, q⟩ := h
    have hA : SqT K H a (rs.map V.ref) := sT ha
    have hl := Paired.len hu
    have pb := part_bd d
    refine ⟨_, pss_cons (ps_if (PW.pt (pw_or (pt_not (pt_val (pcall c1 hr (pa_cons (pv 1) pa_nil)))) (pw_or1 (pt_not (pt_chain op_le op_le pe_int (pv 1) T.mDec.pe))))) (pss_one (ps_ret pe_bl)) pss_nil)
      (pss_cons (ps_set (i := 2) sc29.nd rfl (.inr rfl) (pe_op op_mul pe_int (pe_ix ix_tup (pow_pe T.pows) (pv 1) (fun _ _ => rfl))))
      (pss_one (ps_ret (pe_callB (cr_all rfl) (by rfl) T.all_ (by decide +kernel) (pa_cons
        (pe_lc (own := [("name", 3), ("size", 4)]) (g := gTup K 2 (gCons (gName 3) (gCons (gName 4) gNil))) (tt := tYes) rfl sc29.nd (pi_tup (pe_slice sl_tupA (pv 0) (po_some pe_int) po_none)) (blkOk_by (own := [("name", 3), ("size", 4)]) (N := ["units", "decimals", "part", "name", "size"]) (sc := defScope (top 29)) (by decide +kernel))
            (fun _ _ _ _ _ => pg_tup rfl (pgs_cons (pg_name (i := 3) sc29.nd rfl (Or.inl rfl)) (pgs_cons (pg_name (i := 4) sc29.nd rfl (Or.inl rfl)) pgs_nil))) (fun _ _ _ _ _ => pts_nil)
            (fun _ _ _ _ _ => pe_cmpR op_eq (pe_op op_mul (pe_op op_fdivN (pv 4) (pv 2)) (pv 2)) (pv 4) (nomark _))) pa_nil))))), ?_⟩
    refine ⟨_, rfl, (d : Int), rfl, true, rfl, iteF ?_⟩
    refine ⟨_, rfl, 0, (d : Int), rfl, rfl, _, rfl, iT (by show (0 : Int) ≤ (d : Int); omega) ⟨(d : Int), 3, rfl, rfl, _, rfl, ?_⟩⟩
    rw [decide_eq_true (show (d : Int) ≤ 3 by omega)]
    refine iteF ?_
    intro pa hpa
    refine ⟨_, rfl, pa, _, (d : Int), .int (p10 d), rfl, rfl, hpa _, atI_nat (pow_at hd3), 2, p10 d, rfl, rfl, .inl ⟨by decide, by decide⟩, ?_⟩
    refine ⟨.ref a, rfl, 1, rfl, a, _, rfl, hA, fun wh => absurd wh (tl_ne (by rw [List.length_map]; omega)), fun _ p np => ⟨p, rfl, ⟨_, sT upd_same⟩, fun Dl hD => ?_⟩⟩
    rw [cut_1, ← List.map_drop] at hD ⊢
    generalize hG : upd H p (.tup ((rs.drop 1).map V.ref)) = G at hD ⊢
    have sG : Same H G := by rw [← hG]; exact same_upd np
    have hp : G p = some (.tup ((rs.drop 1).map V.ref)) := by rw [← hG]; exact upd_same
    refine lc_map (walk_tup (xs := (rs.drop 1).map V.ref)) (fun i H' => Same G H' ∧ H' Dl = some (.lst ((List.replicate i true).map V.bl))) ⟨same_upd hD, upd_same⟩ (fun i H' _ z => sT (z.1 _ _ hp)) ?_ ?_
    · rintro i x H1 H2 hi ⟨sm, hL⟩ ⟨rfl, hx⟩
      rw [List.getElem?_map] at hx
      cases hri : (rs.drop 1)[i]? with
      | none => rw [hri] at hx; cases hx
      | some r1 =>
        rw [hri] at hx
        have ex : V.ref r1 = x := Option.some.inj hx
        subst ex
        obtain ⟨y, hy1, hy2⟩ := Paired.get1 (Paired.drop 1 hu) hri
        have hmem : y ∈ us.tail := by
          rw [List.drop_one] at hy1
          exact List.mem_of_getElem? hy1
        refine ⟨r1, _, rfl, sT (sm _ _ (sG _ _ hy2)), rfl, .str y.1, _, rfl, .int y.2, [], rfl, rfl, rfl, ?_⟩
        refine ⟨.int y.2, rfl, .int (2 * p10 d), rfl, y.2, 2 * p10 d, rfl, rfl, ⟨by omega, by omega⟩, .int (2 * p10 d), rfl, _, 2 * p10 d, rfl, rfl, .inr ⟨by rw [pow64]; omega, by rw [pow64]; omega⟩, .int y.2, rfl, rfl, ?_⟩
        rw [decide_eq_true (show V.int (y.2.fdiv (2 * p10 d) * (2 * p10 d)) = V.int y.2 by rw [fdv (by omega), hdv y hmem])]
        refine ⟨_, hL, ?_, fun b o e => ?_, ?_⟩
        · rw [rep_len]
          have := (List.getElem?_eq_some_iff.mp hri).1
          rw [List.length_drop] at this
          exact small1000 (by omega)
        · rw [upd_ne (ne_of_none e hD)]
          exact sm _ _ e
        · rw [upd_same, rep_snoc]
    · rintro H1 ⟨sm, hL⟩
      refine ⟨Dl, _, rfl, sL hL, ?_⟩
      rw [all_rep]
      exact q _ (sG.trans sm)
end
end SFW
end TWalkC

section TWalkD
set_option Elab.async false
set_option linter.all false
set_option maxRecDepth 100000
set_option maxHeartbeats 4000000
/-! WalkD: first_for, start_of, mark_for. -/
namespace SFW
open PySem PySem.Spec PyProof.Rows L2 SFK SF
theorem rs_eq (r r' : Rnd) : (V.str r.s = V.str r'.s) ↔ r = r' := by
  constructor
  · intro h
    have h2 := V.str.inj h
    cases r <;> cases r' <;> first
      | rfl
      | exact absurd h2 (by decide +kernel)
  · intro h
    rw [h]
theorem steps_at {L : Lad} {u : Nat} {i : Int} (e : i = (u : Int)) (h : u < L.k) : atI (stepsV L) i = some (.int (L.step u)) := at_of e (range_get h)
theorem thr_at {L : Lad} {u : Nat} {i : Int} (e : i = (u : Int)) (h : u < L.k) : atI (thrV L) i = some (.int (L.thr u)) := at_of e (range_get h)
theorem starts_at {L : Lad} {u : Nat} {i : Int} (e : i = (u : Int)) (h : u < L.k) : atI (startsV L) i = some (.int (L.start u)) := at_of e (range_get h)
section
variable {P : Program} {w : World} {K : PySem.W.Frag} {mg : Str → Option Value} {base : Heap} {C : Addr}
/-! ### first_for -/
def spFirst (C : Addr) : Sp := fun vs H Q _ => ∃ (p : Addr) (L : Lad) (fs : List (Str × V)) (u : Nat) (i m : Int), vs = [.ref p, .int i, .int m] ∧ i = (u : Int) ∧ PreAt C H p L fs ∧ L.Ok ∧ u < L.k ∧ 0 ≤ m ∧ Q (.int (L.f u m)) H
theorem scF : FnScope ["self", "unit", "mark", "step"] ["self", "unit", "mark"] (defScope (mth 1)) := ⟨rfl, rfl, rfl, by decide +kernel, rfl, by decide +kernel, by decide +kernel⟩
theorem ok_first (T : Txt K mg C) (D : MDef K C "first_for" "Ladder.first_for" (mth 1)) : MCal P w K mg base C "first_for" 1 ["self", "unit", "mark"] (spFirst C) := by
  refine D.cal scF (fun _ _ _ _ _ _ us hl => match us, hl with | [_, _, _], _ => rfl) (fun vs H Q E h => ?_) (fun f cdv A outer s H vs Q E hr h => ?_)
  · obtain ⟨p, L, fs, u, i, m, rfl, _⟩ := h
    rfl
  · obtain ⟨p, L, fs, u, i, m, rfl, ei, PA, ok, hu, hm, q⟩ := h
    obtain ⟨dx, hp⟩ := PA.ob
    obtain ⟨a, hs, ha⟩ := PA.steps
    have s1 := ok.step1 u hu
    have s2 := ok.step_top u hu
    have b64 := big64 (i := L.step u) (by omega) s2
    refine ⟨_, pss_cons (ps_set (i := 3) scF.nd rfl (.inl rfl) (pe_ix ix_tup (pe_fld (pv 0) rfl) (pv 1) (fun _ _ => rfl)))
      (pss_cons (ps_if (PW.pt (pw_or (pt_cmpR op_eq (pv 1) pe_int (nomark _)) (pw_or1 (pt_cmpR op_eq (pe_fld (pv 0) rfl) pe_str (nomark _))))) (pss_one (ps_ret (pe_op op_mul (pv 2) (pv 3)))) pss_nil)
      (pss_cons (ps_if (pt_cmpR op_eq (pe_fld (pv 0) rfl) pe_str (nomark _)) (pss_one (ps_ret (pe_op op_add (pe_op op_mul (pe_op op_sub (pv 2) pe_int) (pv 3)) pe_int))) pss_nil)
      (pss_cons (ps_if (PW.pt (pw_or (pt_cmpR op_eq (pe_fld (pv 0) rfl) pe_str (nomark _)) (pw_or1 (pt_cmpR op_eq (pe_op op_odd (pv 2) pe_int) pe_int (nomark _))))) (pss_one (ps_ret (pe_op op_sub (pe_op op_mul (pv 2) (pv 3)) (pe_op op_fdiv (pv 3) pe_int)))) pss_nil)
      (pss_one (ps_ret (pe_op op_add (pe_op op_sub (pe_op op_mul (pv 2) (pv 3)) (pe_op op_fdiv (pv 3) pe_int)) pe_int)))))), ?_⟩
    refine ⟨_, rfl, p, C, dx, fs, _, rfl, hp, T.cl, T.n7, hs, .int i, rfl, a, _, i, .int (L.step u), rfl, rfl, sT ha, steps_at ei hu, ?_⟩
    have hf : L.f u m = ff L.rnd (u == 0) (L.step u) m := rfl
    rw [hf] at q
    unfold ff at q
    generalize L.step u = st at *
    have mul1 : ∀ {R : Prop} (j : Int), R → ∃ i' j', V.int j = V.int i' ∧ V.int st = V.int j' ∧ CMul i' j' ∧ R := fun j r => ⟨j, st, rfl, rfl, .inr b64, r⟩
    refine ⟨.int i, rfl, rfl, _, rfl, ?_⟩
    by_cases h0 : u = 0
    · subst h0
      rw [if_pos (.inl rfl)] at q
      refine iT (by rw [ei]; rfl) (iteT ⟨.int m, rfl, .int st, rfl, m, st, rfl, rfl, .inr b64, q⟩)
    · refine iF (fun z => h0 (by have := V.int.inj z; omega)) ⟨_, rfl, p, C, dx, fs, _, rfl, hp, T.cl, T.n3, PA.rnd, rfl, _, rfl, ?_⟩
      have z0 : ¬ ((u == 0) = true) := by simpa using h0
      by_cases h1 : L.rnd = .down
      · rw [if_pos (.inr h1)] at q
        refine iT ((rs_eq _ .down).mpr h1) ⟨.int m, rfl, .int st, rfl, m, st, rfl, rfl, .inr b64, q⟩
      · rw [if_neg (fun z => z.elim z0 h1)] at q
        refine iF (fun z => h1 ((rs_eq _ .down).mp z)) ⟨_, rfl, p, C, dx, fs, _, rfl, hp, T.cl, T.n3, PA.rnd, rfl, _, rfl, ?_⟩
        by_cases h2 : L.rnd = .up
        · rw [if_pos h2] at q
          refine iT ((rs_eq _ .up).mpr h2) ⟨.int m, rfl, m, 1, rfl, rfl, .int st, rfl, m - 1, st, rfl, rfl, .inr b64, _, 1, rfl, rfl, q⟩
        · rw [if_neg h2] at q
          refine iF (fun z => h2 ((rs_eq _ .up).mp z)) ⟨_, rfl, p, C, dx, fs, _, rfl, hp, T.cl, T.n3, PA.rnd, rfl, _, rfl, ?_⟩
          by_cases h3 : L.rnd = .near
          · rw [if_pos (.inl h3)] at q
            refine iT ((rs_eq _ .near).mpr h3) (iteT ⟨.int m, rfl, .int st, rfl, m, st, rfl, rfl, .inr b64, .int st, rfl, st, 2, rfl, rfl, ⟨by decide, by decide⟩, _, _, rfl, rfl, q⟩)
          · refine iF (fun z => h3 ((rs_eq _ .near).mp z)) ⟨.int m, rfl, m.toNat, by rw [Int.toNat_of_nonneg hm], rfl, rfl, _, rfl, ?_⟩
            by_cases h4 : m % 2 = 0
            · rw [if_pos (.inr h4)] at q
              refine iT (congrArg V.int (by omega)) ⟨.int m, rfl, .int st, rfl, m, st, rfl, rfl, .inr b64, .int st, rfl, st, 2, rfl, rfl, ⟨by decide, by decide⟩, _, _, rfl, rfl, q⟩
            · rw [if_neg (fun z => z.elim h3 h4)] at q
              refine iF (fun z => h4 (by have := V.int.inj z; omega)) ⟨.int m, rfl, .int st, rfl, m, st, rfl, rfl, .inr b64, .int st, rfl, st, 2, rfl, rfl, ⟨by decide, by decide⟩, _, _, rfl, rfl, _, 1, rfl, rfl, q⟩
/-! ### start_of -/
def spStart (C : Addr) : Sp := fun vs H Q _ => ∃ (p : Addr) (L : Lad) (fs : List (Str × V)) (u : Nat) (i : Int), vs = [.ref p, .int i] ∧ i = (u : Int) ∧ PreAt C H p L fs ∧ L.Ok ∧ u < L.k ∧ Q (.int (L.start u)) H
theorem scS : FnScope ["self", "unit"] ["self", "unit"] (defScope (mth 2)) := ⟨rfl, rfl, rfl, by decide +kernel, rfl, by decide +kernel, by decide +kernel⟩
theorem divW' {i j : Int} (h0 : 1 ≤ j) (h : j ≤ big) : CDivW i j := ⟨(divW h0 h).1, (divW h0 h).2⟩
theorem ok_start (T : Txt K mg C) (D : MDef K C "start_of" "Ladder.start_of" (mth 2)) (c1 : MCal P w K mg base C "first_for" 1 ["self", "unit", "mark"] (spFirst C)) : MCal P w K mg base C "start_of" 2 ["self", "unit"] (spStart C) := by
  refine D.cal scS (fun _ _ _ _ _ _ us hl => match us, hl with | [_, _], _ => rfl) (fun vs H Q E h => ?_) (fun f cdv A outer s H vs Q E hr h => ?_)
  · obtain ⟨p, L, fs, u, i, rfl, _⟩ := h
    rfl
  · obtain ⟨p, L, fs, u, i, rfl, ei, PA, ok, hu, q⟩ := h
    obtain ⟨dx, hp⟩ := PA.ob
    obtain ⟨a, hs, ha⟩ := PA.steps
    obtain ⟨b, ht, hb⟩ := PA.thr
    refine ⟨_, pss_cons (ps_if (PW.pt (pw_or (pt_cmpR op_lt (pv 1) pe_int (nomark _)) (pw_or1 (pt_not (pt_val (pe_fld (pv 0) rfl)))))) (pss_one (ps_ret (pe_ix ix_tup (pe_fld (pv 0) rfl) (pv 1) (fun _ _ => rfl)))) pss_nil)
      (pss_one (ps_ret (pmeth T.cl c1 hr (pv 0) (pa_cons (pe_op op_sub (pv 1) pe_int) (pa_cons (pe_op op_fdivW (pe_ix ix_tup (pe_fld (pv 0) rfl) (pv 1) (fun _ _ => rfl)) (pe_ix ix_tup (pe_fld (pv 0) rfl) (pe_op op_sub (pv 1) pe_int) (fun _ _ => rfl))) pa_nil))))), ?_⟩
    refine ⟨_, rfl, i, 2, rfl, rfl, _, rfl, ?_⟩
    unfold Lad.start at q
    by_cases h2 : u < 2
    · rw [if_pos (.inl h2)] at q
      exact iT (by rw [ei]; omega) (iteT ⟨_, rfl, p, C, dx, fs, _, rfl, hp, T.cl, T.n8, ht, .int i, rfl, b, _, i, .int (L.thr u), rfl, rfl, sT hb, thr_at ei hu, q⟩)
    · refine iF (by rw [ei]; omega) ⟨_, rfl, p, C, dx, fs, _, rfl, hp, T.cl, T.n4, PA.carry, L.carry, rfl, ?_⟩
      cases hc : L.carry with
      | false =>
        rw [if_pos (.inr hc)] at q
        exact iteT ⟨_, rfl, p, C, dx, fs, _, rfl, hp, T.cl, T.n8, ht, .int i, rfl, b, _, i, .int (L.thr u), rfl, rfl, sT hb, thr_at ei hu, q⟩
      | true =>
        rw [if_neg (by rw [hc]; simp; omega)] at q
        have s1 := ok.step1 (u - 1) (by omega)
        have s2 := ok.step_top (u - 1) (by omega)
        have t1 := (ok.thr_top hu).1
        refine iteF ⟨_, rfl, p, dx, fs, rfl, hp, PA.nm _ (.head _), .int i, rfl, i, 1, rfl, rfl, ?_⟩
        refine ⟨.ref p, rfl, p, C, dx, fs, _, rfl, hp, T.cl, T.n8, ht, .int i, rfl, b, _, i, .int (L.thr u), rfl, rfl, sT hb, thr_at ei hu, ?_⟩
        refine ⟨.ref p, rfl, p, C, dx, fs, _, rfl, hp, T.cl, T.n7, hs, .int i, rfl, i, 1, rfl, rfl, a, _, i - 1, .int (L.step (u - 1)), rfl, rfl, sT ha, steps_at (u := u - 1) (by omega) (by omega), ?_⟩
        exact ⟨_, _, rfl, rfl, divW' s1 s2, p, L, fs, u - 1, i - 1, _, rfl, by omega, PA, ok, by omega, Int.ediv_nonneg t1 (by omega), q⟩
/-! ### mark_for -/
def spMark (C : Addr) : Sp := fun vs H Q _ => ∃ (p : Addr) (L : Lad) (fs : List (Str × V)) (u : Nat) (i n : Int), vs = [.ref p, .int i, .int n] ∧ i = (u : Int) ∧ PreAt C H p L fs ∧ L.Ok ∧ u < L.k ∧ 0 ≤ n ∧ Q (.int (L.m u n)) H
theorem scM : FnScope ["self", "unit", "number", "mark"] ["self", "unit", "number"] (defScope (mth 3)) := ⟨rfl, rfl, rfl, by decide +kernel, rfl, by decide +kernel, by decide +kernel⟩
theorem ok_mark (T : Txt K mg C) (D : MDef K C "mark_for" "Ladder.mark_for" (mth 3)) (c1 : MCal P w K mg base C "first_for" 1 ["self", "unit", "mark"] (spFirst C)) : MCal P w K mg base C "mark_for" 2 ["self", "unit", "number"] (spMark C) := by
  refine D.cal scM (fun _ _ _ _ _ _ us hl => match us, hl with | [_, _, _], _ => rfl) (fun vs H Q E h => ?_) (fun f cdv A outer s H vs Q E hr h => ?_)
  · obtain ⟨p, L, fs, u, i, n, rfl, _⟩ := h
    rfl
  · obtain ⟨p, L, fs, u, i, n, rfl, ei, PA, ok, hu, hn, q⟩ := h
    obtain ⟨dx, hp⟩ := PA.ob
    obtain ⟨a, hs, ha⟩ := PA.steps
    have s1 := ok.step1 u hu
    have s2 := ok.step_top u hu
    refine ⟨_, pss_cons (ps_set (i := 3) scM.nd rfl (.inl rfl) (pe_op op_fdivW (pv 2) (pe_ix ix_tup (pe_fld (pv 0) rfl) (pv 1) (fun _ _ => rfl))))
      (pss_one (ps_ret (pe_ifExp (pt_cmpR op_ge (pv 2) (pmeth T.cl c1 hr (pv 0) (pa_cons (pv 1) (pa_cons (pe_op op_add (pv 3) pe_int) pa_nil))) (nomark _)) (pe_op op_add (pv 3) pe_int) (pv 3)))), ?_⟩
    refine ⟨.int n, rfl, .ref p, rfl, p, C, dx, fs, _, rfl, hp, T.cl, T.n7, hs, .int i, rfl, a, _, i, .int (L.step u), rfl, rfl, sT ha, steps_at ei hu, n, _, rfl, rfl, divW' s1 s2, ?_⟩
    have d2 : 0 ≤ n / L.step u := Int.ediv_nonneg hn (by omega)
    refine ⟨.int n, rfl, .ref p, rfl, p, dx, fs, rfl, hp, PA.nm _ (.head _), .int i, rfl, .int (n / L.step u), rfl, n / L.step u, 1, rfl, rfl, p, L, fs, u, i, _, rfl, ei, PA, ok, hu, by omega, ?_⟩
    refine ⟨n, _, rfl, rfl, _, rfl, ?_⟩
    have e : L.m u n = if n ≥ L.f u (n / L.step u + 1) then n / L.step u + 1 else n / L.step u := rfl
    rw [e] at q
    by_cases hc : L.f u (n / L.step u + 1) ≤ n
    · rw [if_pos hc] at q
      exact iT hc ⟨_, rfl, _, 1, rfl, rfl, q⟩
    · rw [if_neg hc] at q
      exact iF hc ⟨_, rfl, q⟩
end
end SFW
end TWalkD

section TMathT
set_option linter.all false
set_option maxRecDepth 100000
set_option maxHeartbeats 1000000
/-! MathT: figures as texts: written and read back. -/
namespace SF
open PySem TL Builtin.Str

/-! ### digits -/
def padL : Nat → Nat → List Nat
  | 0, _ => []
  | d + 1, m => padL d (m / 10) ++ [48 + m % 10]
theorem padL_len : ∀ (d m : Nat), (padL d m).length = d
  | 0, _ => rfl
  | d + 1, m => by
    show (padL d (m / 10) ++ [48 + m % 10]).length = d + 1
    rw [List.length_append, padL_len d, List.length_singleton]
theorem padL_dig : ∀ (d m : Nat), ∀ c ∈ padL d m, 48 ≤ c ∧ c ≤ 57
  | 0, _, c, h => by cases h
  | d + 1, m, c, h => by
    rcases List.mem_append.mp (show c ∈ padL d (m / 10) ++ [48 + m % 10] from h) with h | h
    · exact padL_dig d _ c h
    · rw [List.mem_singleton.mp h]
      omega
theorem numL_dig (m : Nat) : ∀ c ∈ numL m, 48 ≤ c ∧ c ≤ 57 := fun c h => by
  have := numL_digits m c h
  omega
/-- the signs of a number, filled to d + 1 of them, are those of its two parts -/
theorem rjust_figs : ∀ (d m : Nat), List.replicate (d + 1 - (numL m).length) 48 ++ numL m = numL (m / 10 ^ d) ++ padL d m
  | 0, m => by
    have h : 1 ≤ (numL m).length := Nat.succ_le_of_lt (List.length_pos_iff.mpr (numL_ne m))
    rw [show 0 + 1 - (numL m).length = 0 by omega, Nat.pow_zero, Nat.div_one]
    show numL m = numL m ++ []
    rw [List.append_nil]
  | d + 1, m => by
    have ih := rjust_figs d (m / 10)
    have e1 : m / 10 ^ (d + 1) = m / 10 / 10 ^ d := by
      rw [Nat.div_div_eq_div_mul, Nat.pow_succ, Nat.mul_comm]
    rw [e1]
    show _ = numL (m / 10 / 10 ^ d) ++ (padL d (m / 10) ++ [48 + m % 10])
    rw [← List.append_assoc, ← ih]
    by_cases h : m < 10
    · rw [numL_lt h, show m / 10 = 0 by omega, numL_lt (show 0 < 10 by decide), show m % 10 = m by omega]
      show List.replicate (d + 1 + 1 - 1) 48 ++ [48 + m] = List.replicate (d + 1 - 1) 48 ++ [48] ++ [48 + m]
      rw [show d + 1 + 1 - 1 = d + 1 by omega, show d + 1 - 1 = d by omega, List.replicate_succ']
    · rw [numL_step (show 10 ≤ m by omega), List.length_append, List.length_singleton, show d + 1 + 1 - ((numL (m / 10)).length + 1) = d + 1 - (numL (m / 10)).length by omega, List.append_assoc]

/-- reading on -/
def rd (a : Int) (l : List Nat) : Int := l.foldl (fun (t : Int) (c : Nat) => 10 * t + ((c : Int) - 48)) a
theorem rd_app (a : Int) (l r : List Nat) : rd a (l ++ r) = rd (rd a l) r := by
  unfold rd
  rw [List.foldl_append]
theorem rd_one (a : Int) (c : Nat) : rd a [c] = 10 * a + ((c : Int) - 48) := rfl
theorem rd_cons (a : Int) (c : Nat) (r : List Nat) : rd a (c :: r) = rd (10 * a + ((c : Int) - 48)) r := rfl
theorem rd_num (n : Nat) : rd 0 (numL n) = n := by
  induction n using Nat.strongRecOn with
  | _ n ih =>
    by_cases h : n < 10
    · rw [numL_lt h, rd_one]
      omega
    · rw [numL_step (by omega), rd_app, ih (n / 10) (by omega), rd_one]
      omega
theorem rd_pad : ∀ (d m : Nat), rd ((m / 10 ^ d : Nat) : Int) (padL d m) = m
  | 0, m => by
    rw [Nat.pow_zero, Nat.div_one]
    rfl
  | d + 1, m => by
    have ih := rd_pad d (m / 10)
    have e1 : m / 10 ^ (d + 1) = m / 10 / 10 ^ d := by
      rw [Nat.div_div_eq_div_mul, Nat.pow_succ, Nat.mul_comm]
    show rd _ (padL d (m / 10) ++ [48 + m % 10]) = _
    rw [e1, rd_app, ih, rd_one]
    omega
/-- no leading nought, but of nought itself -/
theorem numL_head (n : Nat) : ∃ c r, numL n = c :: r ∧ (c = 48 → numL n = [48]) := by
  induction n using Nat.strongRecOn with
  | _ n ih =>
    by_cases h : n < 10
    · refine ⟨48 + n, [], numL_lt h, fun e => ?_⟩
      rw [numL_lt h, show n = 0 by omega]
    · obtain ⟨c, r, e, z⟩ := ih (n / 10) (by omega)
      have hs := numL_step (show 10 ≤ n by omega)
      refine ⟨c, r ++ [48 + n % 10], by rw [hs, e]; rfl, fun ec => ?_⟩
      have e2 := z ec
      have e3 : numL 0 = [48] := numL_lt (by decide)
      have e4 := numL_inj (e2.trans e3.symm)
      omega

/-! ### the figure of a unit and a mark -/
def figL (plain : Bool) (d m : Nat) : List Nat := if plain = true then numL m else numL (m / 10 ^ d) ++ (46 :: padL d m)
theorem figL_ne (plain : Bool) (d m : Nat) : figL plain d m ≠ [] := by
  unfold figL
  split
  · exact numL_ne m
  · intro e
    have := congrArg List.length e
    rw [List.length_append] at this
    simp at this
/-- its last sign is a figure -/
theorem figL_last (plain : Bool) (d m : Nat) (hd : plain = false → 1 ≤ d) : ∃ l c, figL plain d m = l ++ [c] ∧ 48 ≤ c ∧ c ≤ 57 := by
  have key : ∀ l : List Nat, l ≠ [] → (∀ c ∈ l, 48 ≤ c ∧ c ≤ 57) → ∃ l' c, l = l' ++ [c] ∧ 48 ≤ c ∧ c ≤ 57 := fun l hl h =>
    ⟨l.dropLast, l.getLast hl, (List.dropLast_concat_getLast hl).symm, h _ (List.getLast_mem hl)⟩
  unfold figL
  cases plain with
  | true => exact key _ (numL_ne m) (numL_dig m)
  | false =>
    have h1 := hd rfl
    have hne : padL d m ≠ [] := fun e => by
      have := congrArg List.length e
      rw [padL_len] at this
      simp at this
      omega
    obtain ⟨l, c, e, hc⟩ := key _ hne (padL_dig d m)
    exact ⟨numL (m / 10 ^ d) ++ (46 :: l), c, by rw [e]; simp, hc⟩

/-! ### texts -/
def S (l : List Nat) : Str := ⟨l.toArray⟩
theorem tl_S (l : List Nat) : tl (S l) = l := rfl
theorem len_S (l : List Nat) : (S l).length = l.length := by rw [len_tl]; rfl
theorem S_tl (x : Str) : S (tl x) = x := mk_tl x
theorem S_app (a b : List Nat) : S (a ++ b) = S a ++ S b := ext_tl (by rw [tl_append]; rfl)
theorem num_S (n : Nat) : (Str.ofString (toString ((n : Nat) : Int))) = S (numL n) := ext_tl (tl_num n)
/-- letters off the end -/
theorem rstrip_S {y : Str} {a b : List Nat} {c : Nat} (hb : ∀ x ∈ b, x ∈ tl y) (hc : c ∉ tl y) : Txt.rstripChars (S (a ++ [c] ++ b)) y = S (a ++ [c]) := by
  unfold Txt.rstripChars
  rw [PyProof.Rows.stripBy_eq]
  have h0 : stripLo y.cps.contains false (S (a ++ [c] ++ b)) = 0 := rfl
  rw [h0]
  have hcon : ∀ x, y.cps.contains x = decide (x ∈ tl y) := fun x => by
    rw [Bool.eq_iff_iff, decide_eq_true_iff, Array.contains_iff, Array.mem_def]
  have h1 : stripHi y.cps.contains true (S (a ++ [c] ++ b)) 0 = (a ++ [c]).length := by
    unfold stripHi
    rw [if_pos rfl, List.drop_zero, len_S]
    show (a ++ [c] ++ b).length - (((a ++ [c] ++ b).reverse).takeWhile y.cps.contains).length = _
    rw [List.reverse_append, List.takeWhile_append_of_pos (fun x hx => by
      rw [hcon]
      exact decide_eq_true (hb x (List.mem_reverse.mp hx)))]
    rw [List.reverse_append, List.reverse_singleton]
    show _ - (b.reverse ++ List.takeWhile y.cps.contains (c :: a.reverse)).length = _
    rw [List.takeWhile_cons, hcon c, decide_eq_false hc]
    show (a ++ [c] ++ b).length - (b.reverse ++ []).length = _
    rw [List.append_nil, List.length_reverse, List.length_append (as := a ++ [c])]
    omega
  rw [h1]
  refine ext_tl ?_
  rw [tl_strSub, tl_S, tl_S, List.drop_zero, Nat.sub_zero, List.take_append_of_le_length (Nat.le_refl _), List.take_length]
theorem slice_from (a b : List Nat) : L2.cutS (S (a ++ b)) (some (a.length : Int)) none = S b := by
  refine ext_tl ?_
  unfold L2.cutS
  show ((a ++ b).drop (HT.sIx (S (a ++ b)).length 0 (some (a.length : Int)))).take _ = b
  rw [HT.sIx_nat, HT.sIx_none, len_S, List.length_append, Nat.min_eq_left (Nat.le_add_right _ _), List.drop_left, Nat.add_sub_cancel_left, List.take_length]
theorem slice_neg_to (a b : List Nat) (hb : b ≠ []) : L2.cutS (S (a ++ b)) none (some (-(b.length : Int))) = S a := by
  refine ext_tl ?_
  unfold L2.cutS
  have hb' : 0 < b.length := List.length_pos_iff.mpr hb
  have e : HT.sIx (S (a ++ b)).length (S (a ++ b)).length (some (-(b.length : Int))) = a.length := by
    show (if (-(b.length : Int)) < 0 then ((-(b.length : Int)) + ((S (a ++ b)).length : Int)).toNat else _) = _
    rw [if_pos (by omega), len_S, List.length_append]
    omega
  show ((a ++ b).drop (HT.sIx (S (a ++ b)).length 0 none)).take _ = a
  rw [e, HT.sIx_none, List.drop_zero, Nat.sub_zero, List.take_left]
theorem slice_neg_from (a b : List Nat) (hb : b ≠ []) : L2.cutS (S (a ++ b)) (some (-(b.length : Int))) none = S b := by
  refine ext_tl ?_
  unfold L2.cutS
  have hb' : 0 < b.length := List.length_pos_iff.mpr hb
  have e : HT.sIx (S (a ++ b)).length 0 (some (-(b.length : Int))) = a.length := by
    show (if (-(b.length : Int)) < 0 then ((-(b.length : Int)) + ((S (a ++ b)).length : Int)).toNat else _) = _
    rw [if_pos (by omega), len_S, List.length_append]
    omega
  show ((a ++ b).drop (HT.sIx (S (a ++ b)).length 0 (some (-(b.length : Int))))).take _ = b
  rw [e, HT.sIx_none, len_S, List.length_append, List.drop_left, Nat.add_sub_cancel_left, List.take_length]
theorem rjust_S (d m : Nat) : Txt.rjustF (S (numL m)) ((d : Int) + 1) 48 = S (numL (m / 10 ^ d) ++ padL d m) := by
  rw [← rjust_figs d m]
  refine ext_tl ?_
  unfold Txt.rjustF
  rw [len_S]
  split
  · rename_i h
    rw [show d + 1 - (numL m).length = 0 by omega]
    rfl
  · rename_i h
    show (Array.replicate (((d : Int) + 1).toNat - (S (numL m)).length) 48 ++ (S (numL m)).cps ++ Array.replicate 0 48).toList = _
    rw [len_S, show ((d : Int) + 1).toNat = d + 1 by omega, Array.toList_append, Array.toList_append, Array.toList_replicate, Array.toList_replicate]
    show List.replicate (d + 1 - (numL m).length) 48 ++ numL m ++ [] = List.replicate (d + 1 - (numL m).length) 48 ++ numL m
    rw [List.append_nil]
end SF
end TMathT

section TWalkE
set_option Elab.async false
set_option linter.all false
set_option maxRecDepth 100000
set_option maxHeartbeats 4000000
/-! WalkE: parts_for, text_of, __len__, check_ladder. -/
namespace SFW
open PySem PySem.Spec PyProof.Rows L2 SFK SF TL
abbrev mtop : Int := 1000000000000000000000000
/-- the names -/
structure Nm (L : Lad) : Prop where
  short : ∀ u, u < L.k → (L.name u).length ≤ 3
  letters : ∀ u, u < L.k → ∀ c ∈ tl (L.name u), c ∈ tl lets
  inj : ∀ u v, u < L.k → v < L.k → L.name u = L.name v → u = v
def plain (L : Lad) (u : Nat) : Bool := u == 0 || L.dec == 0
/-- the figure of a unit and a mark -/
def ftxt (L : Lad) (u : Nat) (m : Int) : Str := S (figL (plain L u) L.dec m.toNat ++ tl (L.name u))
theorem us_at {L : Lad} {u : Nat} (h : u < L.k) : L.us[u]? = some (L.name u, L.size u) := by
  have h2 : u < L.us.length := h
  unfold Lad.name Lad.size
  rw [List.getElem?_eq_getElem h2]
  rfl
theorem log_ok {m : Int} (h0 : 0 ≤ m) (h : m < mtop) : m.natAbs.log2 < 1920 := by
  refine PySem.Flt.log2_lt_of (by decide) (Nat.lt_of_lt_of_le (m := 2 ^ 100) ?_ (Nat.pow_le_pow_right (by decide) (by decide)))
  have : m < 1000000000000000000000000 := h
  rw [show (2 : Nat) ^ 100 = 1267650600228229401496703205376 by decide]
  omega
theorem num_len {m : Int} (h0 : 0 ≤ m) (h : m < mtop) : (numL m.toNat).length ≤ 24 := by
  refine numL_len (by decide) ?_
  have : m < 1000000000000000000000000 := h
  rw [show (10 : Nat) ^ 24 = 1000000000000000000000000 by decide]
  omega
section
variable {P : Program} {w : World} {K : PySem.W.Frag} {mg : Str → Option Value} {base : Heap} {C : Addr}
/-! ### parts_for -/
def spParts (C : Addr) : Sp := fun vs H Q _ => ∃ (p : Addr) (L : Lad) (ok : L.Ok) (n : Int), vs = [.ref p, .int n] ∧ LadAt C H p L ∧ 0 ≤ n ∧
  ∀ H' r, Same H H' → H' r = some (.tup [.int ((L.sys ok).unit n : Nat), .int (L.m ((L.sys ok).unit n) n)]) → Q (.ref r) H'
theorem scP : FnScope ["self", "number", "unit", "place", "start"] ["self", "number"] (defScope (mth 4)) := ⟨rfl, rfl, rfl, by decide +kernel, rfl, by decide +kernel, by decide +kernel⟩
theorem ok_parts (T : Txt K mg C) (D : MDef K C "parts_for" "Ladder.parts_for" (mth 4)) (c1 : MCal P w K mg base C "mark_for" 2 ["self", "unit", "number"] (spMark C)) : MCal P w K mg base C "parts_for" 3 ["self", "number"] (spParts C) := by
  refine D.cal scP (fun _ _ _ _ _ _ us hl => match us, hl with | [_, _], _ => rfl) (fun vs H Q E h => ?_) (fun f cdv A outer s H vs Q E hr h => ?_)
  · obtain ⟨p, L, ok, n, rfl, _⟩ := h
    rfl
  · obtain ⟨p, L, ok, n, rfl, LA, hn, q⟩ := h
    obtain ⟨fs, PA, a, hs, ha⟩ := LA.pre
    obtain ⟨dx, hp⟩ := PA.ob
    refine ⟨_, pss_cons (ps_set (i := 2) scP.nd rfl (.inl rfl) (pe_callB (cr_max rfl) (by rfl) T.max_ (by decide +kernel) (pa_cons
        (pe_lc (own := [("place", 3), ("start", 4)]) (g := gTup K 2 (gCons (gName 3) (gCons (gName 4) gNil))) rfl scP.nd (pi_enumT (by rfl) T.enumerate_ (pa_cons (pe_fld (pv 0) rfl) pa_nil)) (blkOk_by (own := [("place", 3), ("start", 4)]) (N := ["self", "number", "unit", "place", "start"]) (sc := defScope (mth 4)) (by decide +kernel))
            (fun _ _ _ _ _ => pg_tup rfl (pgs_cons (pg_name (i := 3) scP.nd rfl (Or.inl rfl)) (pgs_cons (pg_name (i := 4) scP.nd rfl (Or.inl rfl)) pgs_nil))) (fun _ _ _ _ _ => pts_one (pt_cmpR op_le (pv 4) (pv 1) (nomark _))) (fun _ _ _ _ _ => pv 3)) pa_nil)))
      (pss_one (ps_ret (pe_tup (pa_cons (pv 2) (pa_cons (pmeth T.cl c1 hr (pv 0) (pa_cons (pv 2) (pa_cons (pv 1) pa_nil))) pa_nil))))), ?_⟩
    refine ⟨_, rfl, p, C, dx, fs, _, rfl, hp, T.cl, T.n9, hs, a, _, rfl, sT ha, fun Dl hD => ?_⟩
    refine lc_it (walk_enumT (xs := startsV L)) (fun i H' => Same H H' ∧ H' Dl = some (.lst (((List.range i).filter fun u => decide (L.start u ≤ n)).map fun (u : Nat) => V.int (u : Int)))) ⟨same_upd hD, upd_same⟩ (fun i H' _ z => sT (z.1 _ _ ha)) ?_ ?_
    · rintro i x H1 H2 hi ⟨sm, hL⟩ ⟨Tp, x1, x2, rfl, nT, rfl, e1, e2⟩
      have hik : i < L.k := by
        have : (startsV L).length = L.k := by
          unfold startsV
          rw [List.length_map, List.length_range]
        omega
      have ex1 : V.int (i : Int) = x1 := Option.some.inj e1
      subst ex1
      have ex2 : V.int (L.start i) = x2 := Option.some.inj ((range_get hik).symm.trans e2)
      subst ex2
      have nDT : Dl ≠ Tp := ne_of_none hL nT
      refine ⟨Tp, _, rfl, sT upd_same, rfl, .int (i : Int), _, rfl, .int (L.start i), [], rfl, rfl, rfl, ?_⟩
      refine ⟨_, rfl, _, rfl, L.start i, n, rfl, rfl, _, rfl, ?_⟩
      have hr1 : List.range (i + 1) = List.range i ++ [i] := List.range_succ
      by_cases hc : L.start i ≤ n
      · refine iT hc ⟨_, rfl, _, (upd_ne nDT).trans hL, ?_, fun b o e => ?_, ?_⟩
        · rw [List.length_map]
          refine small1000 (Nat.le_trans (List.length_filter_le _ _) ?_)
          rw [List.length_range]
          have := ok.k6
          omega
        · rw [upd_ne (ne_of_none e hD), upd_ne (ne_of_none (sm _ _ e) nT)]
          exact sm _ _ e
        · rw [upd_same, hr1, List.filter_append, List.map_append]
          simp only [List.filter_cons, decide_eq_true hc, if_true, List.filter_nil, List.map_cons, List.map_nil]
      · refine iF hc ⟨fun b o e => ?_, ?_⟩
        · rw [upd_ne (ne_of_none (sm _ _ e) nT)]
          exact sm _ _ e
        · rw [upd_ne nDT, hL, hr1, List.filter_append]
          simp only [List.filter_cons, decide_eq_false hc, Bool.false_eq_true, if_false, List.filter_nil, List.append_nil]
    · rintro H1 ⟨sm, hL⟩
      rw [show (startsV L).length = L.k by unfold startsV; rw [List.length_map, List.length_range]] at hL
      have e3 : (((List.range L.k).filter fun u => decide (L.start u ≤ n)).map fun (u : Nat) => V.int (u : Int)) = (((List.range L.k).filter fun u => decide (L.start u ≤ n)).map fun (u : Nat) => (u : Int)).map V.int := by
        rw [List.map_map]
        rfl
      rw [e3] at hL
      have iu := (L.sys ok).isU_unit hn
      generalize hU : (L.sys ok).unit n = U at *
      have memU : (U : Int) ∈ ((List.range L.k).filter fun u => decide (L.start u ≤ n)).map fun (u : Nat) => (u : Int) :=
        List.mem_map.mpr ⟨U, List.mem_filter.mpr ⟨List.mem_range.mpr iu.1, decide_eq_true iu.2.1⟩, rfl⟩
      refine ⟨Dl, _, rfl, sL hL, List.length_pos_iff.mpr (List.ne_nil_of_mem memU), fun m hm hmax => ?_⟩
      obtain ⟨v, hv, rfl⟩ := List.mem_map.mp hm
      obtain ⟨hv1, hv2⟩ := List.mem_filter.mp hv
      have ev : v = U := by
        have h1 := hmax _ memU
        have h2 := iu.2.2 v (List.mem_range.mp hv1) (of_decide_eq_true hv2)
        omega
      subst ev
      refine ⟨_, rfl, _, rfl, p, dx, fs, rfl, sm _ _ hp, PA.nm _ (.tail _ (.tail _ (.head _))), _, rfl, _, rfl, p, L, fs, v, (v : Int), n, rfl, rfl, PA.same sm, ok, iu.1, hn, ?_⟩
      exact ⟨by show 2 ≤ sizeLine; decide, fun r nr => q _ r (sm.trans (same_upd nr)) upd_same⟩
/-! ### __len__ -/
def spLen (C : Addr) : Sp := fun vs H Q _ => ∃ (p : Addr) (L : Lad) (fs : List (Str × V)), vs = [.ref p] ∧ PreAt C H p L fs ∧ Q (.int (L.k : Nat)) H
theorem scN : FnScope ["self"] ["self"] (defScope (mth 6)) := ⟨rfl, rfl, rfl, by decide +kernel, rfl, by decide +kernel, by decide +kernel⟩
theorem ok_len (T : Txt K mg C) (D : MDef K C "__len__" "Ladder.__len__" (mth 6)) : MCal P w K mg base C "__len__" 1 ["self"] (spLen C) := by
  refine D.cal scN (fun _ _ _ _ _ _ us hl => match us, hl with | [_], _ => rfl) (fun vs H Q E h => ?_) (fun f cdv A outer s H vs Q E hr h => ?_)
  · obtain ⟨p, L, fs, rfl, _⟩ := h
    rfl
  · obtain ⟨p, L, fs, rfl, PA, q⟩ := h
    obtain ⟨dx, hp⟩ := PA.ob
    obtain ⟨a, hs, rs, ha, hu⟩ := PA.units
    refine ⟨_, pss_one (ps_ret (pe_callB call_len_seq (by rfl) T.len_ PySem.boot_len (pa_cons (pe_fld (pv 0) rfl) pa_nil))), ?_⟩
    refine ⟨_, rfl, p, C, dx, fs, _, rfl, hp, T.cl, T.n1, hs, a, _, rfl, .inr (sT ha), ?_⟩
    show Q (.int (((rs.map V.ref).length : Nat) : Int)) H
    rw [List.length_map, Paired.len hu]
    exact q
/-! ### check_ladder -/
def spCkLad (C : Addr) : Sp := fun vs H Q _ => ∃ (p : Addr) (L : Lad), vs = [.ref p] ∧ LadAt C H p L ∧ Q .non H
theorem sc31 : FnScope ["value"] ["value"] (defScope (top 31)) := ⟨rfl, rfl, rfl, by decide +kernel, rfl, by decide +kernel, by decide +kernel⟩
theorem ok_ckLad (T : Txt K mg C) (D : Def K mg "check_ladder" (top 31)) : Cal P w K mg base "check_ladder" 1 ["value"] (spCkLad C) := by
  refine D.cal sc31 (fun _ _ _ _ _ _ us hl => match us, hl with | [_], _ => rfl) (fun vs H Q E h => ?_) (fun f cdv A outer s H vs Q E hr h => ?_)
  · obtain ⟨p, L, rfl, _⟩ := h
    rfl
  · obtain ⟨p, L, rfl, LA, q⟩ := h
    obtain ⟨fs, PA, _⟩ := LA.pre
    obtain ⟨dx, hp⟩ := PA.ob
    refine ⟨_, pss_one (ps_if (pt_not (pt_val (pe_callB (C8.call_isC T.ins) (by rfl) T.isinstance_ (by decide +kernel) (pa_cons (pv 0) (pa_cons (pe_glob (v := .ref C) rfl T.gLad rfl) pa_nil))))) pss_never pss_nil), ?_⟩
    exact ⟨_, rfl, p, dx, fs, rfl, hp, true, rfl, iteF q⟩
/-! ### text_of -/
def spText (C : Addr) : Sp := fun vs H Q _ => ∃ (p : Addr) (L : Lad) (u : Nat) (i m : Int), vs = [.ref p, .int i, .int m] ∧ i = (u : Int) ∧ LadAt C H p L ∧ L.Ok ∧ Nm L ∧ u < L.k ∧ 0 ≤ m ∧ m < mtop ∧ Q (.str (ftxt L u m)) H
theorem scT : FnScope ["self", "unit", "mark", "name", "figures"] ["self", "unit", "mark"] (defScope (mth 5)) := ⟨rfl, rfl, rfl, by decide +kernel, rfl, by decide +kernel, by decide +kernel⟩
theorem ok_text (T : Txt K mg C) (D : MDef K C "text_of" "Ladder.text_of" (mth 5)) : MCal P w K mg base C "text_of" 1 ["self", "unit", "mark"] (spText C) := by
  refine D.cal scT (fun _ _ _ _ _ _ us hl => match us, hl with | [_, _, _], _ => rfl) (fun vs H Q E h => ?_) (fun f cdv A outer s H vs Q E hr h => ?_)
  · obtain ⟨p, L, u, i, m, rfl, _⟩ := h
    rfl
  · obtain ⟨p, L, u, i, m, rfl, ei, LA, ok, nm, hu, hm, ht, q⟩ := h
    obtain ⟨fs, PA, _⟩ := LA.pre
    obtain ⟨dx, hp⟩ := PA.ob
    obtain ⟨a, hs, rs, ha, hus⟩ := PA.units
    obtain ⟨r, hr1, hr2⟩ := Paired.get2 hus (us_at hu)
    have hat : atI (rs.map V.ref) i = some (.ref r) := at_of ei (by rw [List.getElem?_map, hr1]; rfl)
    have lg := log_ok hm ht
    have l24 := num_len hm ht
    have l3 := nm.short u hu
    obtain ⟨k, rfl⟩ : ∃ k : Nat, m = k := ⟨m.toNat, by omega⟩
    rw [Int.toNat_natCast] at l24
    unfold ftxt at q
    rw [Int.toNat_natCast] at q
    refine ⟨_, pss_cons (ps_set (i := 3) scT.nd rfl (.inl rfl) (pe_ix ix_tup (pe_ix ix_tup (pe_fld (pv 0) rfl) (pv 1) (fun _ _ => rfl)) pe_int (fun _ _ => rfl)))
      (pss_cons (ps_if (PW.pt (pw_or (pt_cmpR op_eq (pv 1) pe_int (nomark _)) (pw_or1 (pt_cmpR op_eq (pe_fld (pv 0) rfl) pe_int (nomark _))))) (pss_one (ps_ret (pe_joined (.cons (pe_fmt (pv 2)) (.cons (pe_fmt (pv 3)) .nil))))) pss_nil)
      (pss_cons (ps_set (i := 4) scT.nd rfl (.inl rfl) (pe_bm PySem.F.plainAttrs_str PySem.F.slot_str_rjust PySem.F.type_str_rjust mt_rjust3 (pe_joined1 (pe_fmt (pv 2))) (pa_cons (pe_op op_add (pe_fld (pv 0) rfl) pe_int) (pa_cons pe_str pa_nil))))
      (pss_one (ps_ret (pe_joined (.cons (pe_fmt (pe_slice sl_str (pv 4) po_none (po_some (pe_un un_neg (pe_fld (pv 0) rfl))))) (.cons pe_str (.cons (pe_fmt (pe_slice sl_str (pv 4) (po_some (pe_un un_neg (pe_fld (pv 0) rfl))) po_none)) (.cons (pe_fmt (pv 3)) .nil))))))))), ?_⟩
    refine ⟨_, rfl, p, C, dx, fs, _, rfl, hp, T.cl, T.n1, hs, .int i, rfl, a, _, i, .ref r, rfl, rfl, sT ha, hat, r, _, 0, .str (L.name u), rfl, rfl, sT hr2, atI_nat (j := 0) rfl, ?_⟩
    have eN : (toString ((k : Nat) : Int) : Str) = S (numL k) := num_S k
    have nlen : (tl (L.name u)).length ≤ 3 := by rw [← len_tl]; exact l3
    -- the plain figure
    have pl : plain L u = true → tFmt (tVar 2) [some (V.ref p), some (V.int i), some (V.int (k : Int)), some (V.str (L.name u)), none] H fun x H1 => ∃ y : Str, x = .str y ∧ (Str.empty ++ y).length ≤ sizeLine ∧ tFmt (tVar 3) [some (V.ref p), some (V.int i), some (V.int (k : Int)), some (V.str (L.name u)), none] H1 fun x H2 => ∃ z : Str, x = .str z ∧ (Str.empty ++ y ++ z).length ≤ sizeLine ∧ Q (.str (Str.empty ++ y ++ z)) H2 := fun e => by
      rw [e] at q
      refine ⟨_, rfl, .inr ⟨_, rfl, lg, S (numL k), congrArg V.str eN, ?_, _, rfl, .inl ⟨L.name u, rfl, sl63 (Nat.le_trans l3 (by decide)), L.name u, rfl, ?_, ?_⟩⟩⟩
      · rw [len_tl, tl_append, List.length_append]
        exact sl63 (by show 0 + (numL k).length ≤ 1000; omega)
      · rw [len_tl, tl_append, tl_append, List.length_append, List.length_append]
        exact sl63 (by show 0 + (numL k).length + _ ≤ 1000; omega)
      · have e2 : Str.empty ++ S (numL k) ++ L.name u = S (figL true L.dec k ++ tl (L.name u)) := ext_tl (by rw [tl_append, tl_append]; rfl)
        rw [e2]
        exact q
    refine ⟨_, rfl, rfl, _, rfl, ?_⟩
    by_cases h0 : u = 0
    · refine iT (by rw [ei, h0]; rfl) (iteT (pl ?_))
      unfold plain
      rw [h0]
      rfl
    · refine iF (fun z => h0 (by have := V.int.inj z; omega)) ⟨_, rfl, p, C, dx, fs, _, rfl, hp, T.cl, T.n2, PA.dec, rfl, _, rfl, ?_⟩
      by_cases h1 : L.dec = 0
      · refine iT (by rw [h1]; rfl) (pl ?_)
        unfold plain
        rw [h1]
        simp
      · refine iF (fun z => h1 (by have := V.int.inj z; omega)) ?_
        have ep : plain L u = false := by
          unfold plain
          simp [h0, h1]
        rw [ep] at q
        have d3 := ok.dec3
        have hne : padL L.dec k ≠ [] := fun z => by
          have := congrArg List.length z
          rw [padL_len] at this
          exact h1 this
        have plen := padL_len L.dec k
        have hq : (numL (k / 10 ^ L.dec)).length ≤ 24 := by
          have hle := Nat.div_le_self k (10 ^ L.dec)
          refine numL_len (by decide) ?_
          have : (k : Int) < 1000000000000000000000000 := ht
          rw [show (10 : Nat) ^ 24 = 1000000000000000000000000 by decide]
          omega
        refine ⟨_, rfl, .inr ⟨_, rfl, lg, rfl, _, rfl, p, C, dx, fs, _, rfl, hp, T.cl, T.n2, PA.dec, (L.dec : Int), 1, rfl, rfl, _, _, _, rfl, rfl, ?_, rfl, ?_⟩⟩
        · have e : L.dec = 1 ∨ L.dec = 2 ∨ L.dec = 3 := by omega
          rcases e with e | e | e <;> rw [e] <;> decide +kernel
        · rw [eN, show ((Str.ofString "0").cps.getD 0 0) = 48 by decide +kernel, rjust_S]
          have fl : (S (numL (k / 10 ^ L.dec) ++ padL L.dec k)).length ≤ sizeLine := by
            rw [len_S, List.length_append]
            exact sl63 (by omega)
          have s1 : cutS (S (numL (k / 10 ^ L.dec) ++ padL L.dec k)) none (some (-(L.dec : Int))) = S (numL (k / 10 ^ L.dec)) := by
            have := slice_neg_to (numL (k / 10 ^ L.dec)) (padL L.dec k) hne
            rw [plen] at this
            exact this
          have s2 : cutS (S (numL (k / 10 ^ L.dec) ++ padL L.dec k)) (some (-(L.dec : Int))) none = S (padL L.dec k) := by
            have := slice_neg_from (numL (k / 10 ^ L.dec)) (padL L.dec k) hne
            rw [plen] at this
            exact this
          refine ⟨_, rfl, _, rfl, p, C, dx, fs, _, rfl, hp, T.cl, T.n2, PA.dec, (L.dec : Int), rfl, _, rfl, _, rfl, fl, .inl ⟨_, rfl, ?_, _, rfl, ?_, ?_⟩⟩
          · rw [s1, len_S]
            exact sl63 (by omega)
          · rw [s1, len_tl, tl_append, List.length_append]
            exact sl63 (by show 0 + (numL (k / 10 ^ L.dec)).length ≤ 1000; omega)
          rw [s1]
          refine ⟨_, rfl, ?_, ?_⟩
          · rw [len_tl, tl_append, tl_append, List.length_append, List.length_append]
            exact sl63 (by show 0 + (numL (k / 10 ^ L.dec)).length + 1 ≤ 1000; omega)
          refine ⟨_, rfl, _, rfl, p, C, dx, fs, _, rfl, hp, T.cl, T.n2, PA.dec, (L.dec : Int), rfl, _, rfl, _, rfl, fl, .inl ⟨_, rfl, ?_, _, rfl, ?_, ?_⟩⟩
          · rw [s2, len_S]
            exact sl63 (by omega)
          · rw [s2, len_tl, tl_append, tl_append, tl_append, List.length_append, List.length_append, List.length_append]
            exact sl63 (by show 0 + (numL (k / 10 ^ L.dec)).length + 1 + (padL L.dec k).length ≤ 1000; omega)
          rw [s2]
          refine ⟨_, rfl, .inl ⟨L.name u, rfl, sl63 (Nat.le_trans l3 (by decide)), L.name u, rfl, ?_, ?_⟩⟩
          · rw [len_tl, tl_append, tl_append, tl_append, tl_append, List.length_append, List.length_append, List.length_append, List.length_append]
            exact sl63 (by show 0 + (numL (k / 10 ^ L.dec)).length + 1 + (padL L.dec k).length + _ ≤ 1000; omega)
          · have e2 : Str.empty ++ S (numL (k / 10 ^ L.dec)) ++ Str.ofString "." ++ S (padL L.dec k) ++ L.name u = S (figL false L.dec k ++ tl (L.name u)) := ext_tl (by
              rw [tl_append, tl_append, tl_append, tl_append, tl_S]
              have e5 : tl (Str.ofString ".") = [46] := by decide +kernel
              rw [e5]
              show [] ++ numL (k / 10 ^ L.dec) ++ [46] ++ padL L.dec k ++ tl (L.name u) = numL (k / 10 ^ L.dec) ++ (46 :: padL L.dec k) ++ tl (L.name u)
              simp)
            show Q (.str (Str.empty ++ S (numL (k / 10 ^ L.dec)) ++ Str.ofString "." ++ S (padL L.dec k) ++ L.name u)) H
            rw [e2]
            exact q
end
end SFW
end TWalkE

section TWalkF
set_option Elab.async false
set_option linter.all false
set_option maxRecDepth 100000
set_option maxHeartbeats 4000000
/-! WalkF: a ladder is made. -/
namespace SFW
open PySem PySem.Spec PyProof.Rows L2 SFK SF TL
/-- what a ladder is made of -/
structure Good (L : Lad) : Prop where
  uok : UOk L.us
  dec : L.dec ≤ 3
  part : ∀ u ∈ L.us.tail, u.2 / (2 * p10 L.dec) * (2 * p10 L.dec) = u.2
  le1 : 1 ≤ L.least
  le2 : L.least ≤ 1000
section
variable {L : Lad} (g : Good L)
include g
theorem Good.follows {i : Nat} (hi : i + 1 < L.k) : L.name (i + 1) ∉ (L.us.take (i + 1)).map (·.1) ∧ L.size i < L.size (i + 1) ∧ L.size (i + 1) / L.size i * L.size i = L.size (i + 1) := by
  have h1 := (g.uok.one (i + 1) _ (us_at hi)).2
  have e : L.us.take (i + 1) = L.us.take i ++ [(L.name i, L.size i)] := take_snoc (us_at (show i < L.k by omega))
  rcases h1 with ⟨h2, _⟩ | ⟨l, b, h2, h3, h4, h5, _⟩
  · rw [e] at h2
    simp at h2
  · have e2 := h2
    rw [e] at e2
    have e3 : b = (L.name i, L.size i) := by
      have := List.append_inj_right' e2 rfl
      exact (List.cons.inj this).1.symm
    subst e3
    exact ⟨h3, h4, h5⟩
theorem Good.ok : L.Ok where
  k1 := g.uok.n1
  k6 := g.uok.n6
  s0 := by
    have h1 := (g.uok.one 0 _ (us_at (show 0 < L.k from g.uok.n1))).2
    rcases h1 with ⟨_, h2⟩ | ⟨l, b, h2, _⟩
    · exact h2
    · rw [List.take_zero] at h2
      simp at h2
  up := fun i hi => (g.follows hi).2.1
  mul := fun i hi => ⟨_, (g.follows hi).2.2.symm⟩
  top := fun i hi => (g.uok.one i _ (us_at hi)).1.hi
  part := fun i h0 hi => by
    have hm : (L.name i, L.size i) ∈ L.us.tail := by
      rw [← List.drop_one]
      refine List.mem_of_getElem? (i := i - 1) ?_
      rw [List.getElem?_drop, show 1 + (i - 1) = i by omega]
      exact us_at hi
    have h1 := g.part _ hm
    refine ⟨L.size i / (2 * p10 L.dec), ?_⟩
    rw [Int.mul_comm (2 * p10 L.dec)]
    exact h1.symm
  dec3 := g.dec
  le1 := g.le1
  le2 := g.le2
theorem Good.nm : Nm L where
  short := fun u hu => (g.uok.one u _ (us_at hu)).1.short
  letters := fun u hu => (g.uok.one u _ (us_at hu)).1.letters
  inj := fun u v hu hv e => by
    have key : ∀ a b, a < b → b < L.k → L.name a ≠ L.name b := fun a b hab hb z => by
      obtain ⟨c, rfl⟩ : ∃ c, b = c + 1 := ⟨b - 1, by omega⟩
      refine (g.follows hb).1 ?_
      rw [← z]
      refine List.mem_map.mpr ⟨(L.name a, L.size a), List.mem_of_getElem? (i := a) ?_, rfl⟩
      rw [List.getElem?_take_of_lt (by omega)]
      exact us_at (by omega)
    rcases Nat.lt_trichotomy u v with h | h | h
    · exact absurd e (key u v h hv)
    · exact h
    · exact absurd e.symm (key v u h hu)
end
theorem tail_get {L : Lad} {i : Nat} (h : i + 1 < L.k) : L.us.tail[i]? = some (L.name (i + 1), L.size (i + 1)) := by
  rw [← List.drop_one, List.getElem?_drop, Nat.add_comm]
  exact us_at h
theorem vals_eq {L : Lad} {z : V} {f : Nat → V} {g : Str × Int → V} (h1 : 1 ≤ L.k) (h0 : f 0 = z) (hs : ∀ i, i + 1 < L.k → f (i + 1) = g (L.name (i + 1), L.size (i + 1))) : z :: L.us.tail.map g = (List.range L.k).map f := by
  refine List.ext_getElem? fun i => ?_
  have hl : L.us.tail.length + 1 = L.k := by
    rw [List.length_tail]
    have : 1 ≤ L.us.length := h1
    show L.us.length - 1 + 1 = L.us.length
    omega
  by_cases hi : i < L.k
  · rw [range_get hi]
    cases i with
    | zero => rw [h0]; rfl
    | succ i =>
      rw [List.getElem?_cons_succ, List.getElem?_map, tail_get hi, hs i hi]
      rfl
  · rw [List.getElem?_eq_none (by rw [List.length_cons, List.length_map]; omega), List.getElem?_eq_none (by rw [List.length_map, List.length_range]; omega)]
theorem steps_eq {L : Lad} (h1 : 1 ≤ L.k) : V.int 1 :: L.us.tail.map (fun u => V.int (u.2 / p10 L.dec)) = stepsV L := vals_eq h1 rfl fun i _ => by
  show V.int (L.step (i + 1)) = _
  unfold Lad.step
  rw [if_neg (by omega)]
theorem thr_eq {L : Lad} (h1 : 1 ≤ L.k) : V.int 0 :: L.us.tail.map (fun u => V.int (u.2 * L.least)) = thrV L := vals_eq h1 rfl fun i _ => by
  show V.int (L.thr (i + 1)) = _
  unfold Lad.thr
  rw [if_neg (by omega)]
theorem look_ne {f g : Str} {v : V} {fs : List (Str × V)} (h : ¬ g = f) : (putF f v fs).lookup g = fs.lookup g := by rw [lookup_putF, if_neg h]
theorem look_eq {f : Str} {v : V} {fs : List (Str × V)} : (putF f v fs).lookup f = some v := by rw [lookup_putF, if_pos rfl]
theorem putF_len (f : Str) (v : V) : ∀ fs : List (Str × V), (putF f v fs).length ≤ fs.length + 1
  | [] => Nat.le_refl _
  | (g, x) :: r => by
    show (if g = f then (g, v) :: r else (g, x) :: putF f v r).length ≤ _
    split
    · simp
    · have := putF_len f v r
      simp only [List.length_cons]
      omega
theorem putF_lt {f : Str} {v : V} {fs : List (Str × V)} {n : Nat} (h : fs.length ≤ n) : (putF f v fs).length ≤ n + 1 := Nat.le_trans (putF_len f v fs) (Nat.add_le_add_right h 1)
/-- the fields, all but the starts -/
def fs8 (L : Lad) (a t s h : Addr) : List (Str × V) := putF "thresholds" (.ref h) (putF "steps" (.ref s) (putF "told" (.ref t) (putF "least" (.int L.least) (putF "carry" (.bl L.carry) (putF "rounding" (.str L.rnd.s) (putF "decimals" (.int L.dec) (putF "units" (.ref a) [])))))))
section
variable {L : Lad} {a t s h r : Addr}
theorem fs8_1 : (fs8 L a t s h).lookup ("units" : Str) = some (.ref a) := by
  unfold fs8
  rw [look_ne (by decide +kernel), look_ne (by decide +kernel), look_ne (by decide +kernel), look_ne (by decide +kernel), look_ne (by decide +kernel), look_ne (by decide +kernel), look_ne (by decide +kernel), look_eq]
theorem fs8_2 : (fs8 L a t s h).lookup ("decimals" : Str) = some (.int L.dec) := by
  unfold fs8
  rw [look_ne (by decide +kernel), look_ne (by decide +kernel), look_ne (by decide +kernel), look_ne (by decide +kernel), look_ne (by decide +kernel), look_ne (by decide +kernel), look_eq]
theorem fs8_3 : (fs8 L a t s h).lookup ("rounding" : Str) = some (.str L.rnd.s) := by
  unfold fs8
  rw [look_ne (by decide +kernel), look_ne (by decide +kernel), look_ne (by decide +kernel), look_ne (by decide +kernel), look_ne (by decide +kernel), look_eq]
theorem fs8_4 : (fs8 L a t s h).lookup ("carry" : Str) = some (.bl L.carry) := by
  unfold fs8
  rw [look_ne (by decide +kernel), look_ne (by decide +kernel), look_ne (by decide +kernel), look_ne (by decide +kernel), look_eq]
theorem fs8_7 : (fs8 L a t s h).lookup ("steps" : Str) = some (.ref s) := by
  unfold fs8
  rw [look_ne (by decide +kernel), look_eq]
theorem fs8_8 : (fs8 L a t s h).lookup ("thresholds" : Str) = some (.ref h) := by
  unfold fs8
  rw [look_eq]
theorem fs8_no : ∀ m ∈ methods, (fs8 L a t s h).lookup m = none := by
  intro m hm
  have hc : ∀ f ∈ (["thresholds", "steps", "told", "least", "carry", "rounding", "decimals", "units"] : List Str), ¬ m = f := by
    have : ∀ m ∈ methods, ∀ f ∈ (["thresholds", "steps", "told", "least", "carry", "rounding", "decimals", "units"] : List Str), ¬ m = f := by decide +kernel
    exact this m hm
  unfold fs8
  rw [look_ne (hc _ (.head _)), look_ne (hc _ (.tail _ (.head _))), look_ne (hc _ (.tail _ (.tail _ (.head _)))), look_ne (hc _ (.tail _ (.tail _ (.tail _ (.head _))))), look_ne (hc _ (.tail _ (.tail _ (.tail _ (.tail _ (.head _)))))),
    look_ne (hc _ (.tail _ (.tail _ (.tail _ (.tail _ (.tail _ (.head _))))))), look_ne (hc _ (.tail _ (.tail _ (.tail _ (.tail _ (.tail _ (.tail _ (.head _)))))))), look_ne (hc _ (.tail _ (.tail _ (.tail _ (.tail _ (.tail _ (.tail _ (.tail _ (.head _)))))))))]
  rfl
theorem starts_ne {m : Str} (hm : m ∈ ("units" : Str) :: "decimals" :: "rounding" :: "carry" :: "steps" :: "thresholds" :: methods) : ¬ m = ("starts" : Str) := by
  have : ∀ m ∈ ("units" : Str) :: "decimals" :: "rounding" :: "carry" :: "steps" :: "thresholds" :: methods, ¬ m = ("starts" : Str) := by decide +kernel
  exact this m hm
theorem pre_starts {C : Addr} {H H' : Hp} {p : Addr} {fs : List (Str × V)} {v : V} {dx : Addr} (PA : PreAt C H p L fs) (hp : H' p = some (.ins C dx (putF "starts" v fs))) (kp : ∀ b o, b ≠ p → H b = some o → H' b = some o) : PreAt C H' p L (putF "starts" v fs) := by
  obtain ⟨⟨dx0, h1⟩, ⟨a, h2, rs, h2a, h2b⟩, h3, h4, h5, ⟨b, h6, h6'⟩, ⟨c, h7, h7'⟩, h8⟩ := PA
  have nt : ∀ b xs, H b = some (.tup xs) → b ≠ p := fun b xs e z => by
    rw [z, h1] at e
    cases e
  have kt : ∀ b xs, H b = some (.tup xs) → H' b = some (.tup xs) := fun b xs e => kp _ _ (nt _ _ e) e
  refine ⟨⟨dx, hp⟩, ⟨a, ?_, rs, kt _ _ h2a, Paired.mapP h2b fun _ _ e => kt _ _ e⟩, ?_, ?_, ?_, ⟨b, ?_, kt _ _ h6'⟩, ⟨c, ?_, kt _ _ h7'⟩, fun m hm => ?_⟩
  · rw [look_ne (starts_ne (.head _))]; exact h2
  · rw [look_ne (starts_ne (.tail _ (.head _)))]; exact h3
  · rw [look_ne (starts_ne (.tail _ (.tail _ (.head _))))]; exact h4
  · rw [look_ne (starts_ne (.tail _ (.tail _ (.tail _ (.head _)))))]; exact h5
  · rw [look_ne (starts_ne (.tail _ (.tail _ (.tail _ (.tail _ (.head _))))))]; exact h6
  · rw [look_ne (starts_ne (.tail _ (.tail _ (.tail _ (.tail _ (.tail _ (.head _)))))))]; exact h7
  · rw [look_ne (starts_ne (.tail _ (.tail _ (.tail _ (.tail _ (.tail _ (.tail _ hm)))))))]; exact h8 m hm
end
theorem inV_rnd (r : Rnd) : inV (.str r.s) ([.str "down", .str "up", .str "near", .str "even"] : List V) = true := by
  cases r <;> decide +kernel
end SFW
end TWalkF

section TWalkG
set_option Elab.async false
set_option linter.all false
set_option maxRecDepth 100000
set_option maxHeartbeats 8000000
/-! WalkG: Ladder.__init__. -/
namespace SFW
open PySem PySem.Spec PyProof.Rows L2 SFK SF TL
section
variable {P : Program} {w : World} {K : PySem.W.Frag} {mg : Str → Option Value} {base : Heap} {C : Addr}
structure IDef (K : PySem.W.Frag) (C : Addr) : Prop where
  ex : ∃ (f : Addr) (fd : FuncData), FunD K "__init__" "Ladder.__init__" (defArgs (mth 0)) (defBody (mth 0)) (defScope (mth 0)) [] [("carry", .bl true), ("least", .int 1)] f fd ∧ Mk K C f
def spInit (C : Addr) : Sp := fun vs H Q _ => ∃ (p dx aU : Addr) (L : Lad), vs = [.ref p, .ref aU, .int L.dec, .str L.rnd.s, .bl L.carry, .int L.least] ∧ H p = some (.ins C dx []) ∧ UnitsAt H aU L.us ∧ Good L ∧
  ∀ H', (∀ b o, b ≠ p → H b = some o → H' b = some o) → LadAt C H' p L → Q .non H'
abbrev nI : List Str := ["self", "units", "decimals", "rounding", "carry", "least", "name", "size", "unit"]
theorem scI : FnScope nI ["self", "units", "decimals", "rounding", "carry", "least"] (defScope (mth 0)) := ⟨rfl, rfl, rfl, by decide +kernel, rfl, by decide +kernel, by decide +kernel⟩
/-- all but p -/
def But (p : Addr) (H H' : Hp) : Prop := ∀ b o, b ≠ p → H b = some o → H' b = some o
theorem But.refl {p : Addr} {H : Hp} : But p H H := fun _ _ _ h => h
theorem But.trans {p : Addr} {H H1 H2 : Hp} (a : But p H H1) (b : But p H1 H2) : But p H H2 := fun c o n h => b c o n (a c o n h)
theorem But.same {p : Addr} {H H1 : Hp} (a : Same H H1) : But p H H1 := fun c o _ h => a c o h
theorem But.upd {p : Addr} {H : Hp} {o : HO} : But p H (upd H p o) := fun c x n h => by rw [upd_ne n]; exact h
theorem UnitsAt.but {p : Addr} {H H' : Hp} {a : Addr} {us : List (Str × Int)} {o : HO} (hp : H p = some o) (ho : ∀ xs, o ≠ .tup xs) (s : But p H H') (h : UnitsAt H a us) : UnitsAt H' a us := by
  obtain ⟨rs, h1, h2⟩ := h
  have k : ∀ b xs, H b = some (.tup xs) → H' b = some (.tup xs) := fun b xs e => s _ _ (fun z => by
    rw [z, hp] at e
    exact ho xs (Option.some.inj e)) e
  exact ⟨rs, k _ _ h1, Paired.mapP h2 fun _ _ q => k _ _ q⟩
theorem ok_init (T : Txt K mg C) (D : IDef K C) (c1 : Cal P w K mg base "check_units" 3 ["value"] spCkUnits) (c2 : Cal P w K mg base "suits" 2 ["units", "decimals"] spSuits) (c3 : Cal P w K mg base "is_integer" 1 ["value"] spInteger)
    (c4 : MCal P w K mg base C "start_of" 2 ["self", "unit"] (spStart C)) :
    ∃ (f : Addr) (fd : FuncData), FnOk P w K mg base CX0 4 f fd ["self", "units", "decimals", "rounding", "carry", "least"] (spInit C) ∧ Mk K C f ∧ FunD K "__init__" "Ladder.__init__" (defArgs (mth 0)) (defBody (mth 0)) (defScope (mth 0)) [] [("carry", .bl true), ("least", .int 1)] f fd := by
  obtain ⟨f, fd, F, M⟩ := D.ex
  refine ⟨f, fd, F.ok scI (fun vs H Q E h => ?_) (fun cdv A outer s H vs Q E hr h => ?_), M, F⟩
  · obtain ⟨p, dx, aU, L, rfl, _⟩ := h
    rfl
  · obtain ⟨p, dx, aU, L, rfl, hp, UA, g, q⟩ := h
    have ok := g.ok
    refine ⟨_, PSs.nox (pss_cons (ps_expr (pcall c1 hr (pa_cons (pv 1) pa_nil)))
      (pss_cons (ps_if (pt_not (pt_val (pcall c2 hr (pa_cons (pv 1) (pa_cons (pv 2) pa_nil))))) pss_never pss_nil)
      (pss_cons (ps_if (PW.pt (pw_or (pt_not (pt_val (pe_callB call_isi (by rfl) T.isinstance_ (by decide +kernel) (pa_cons (pv 3) (pa_cons (pe_bltn (v := .ty "str") (by rfl) T.str_ (by decide +kernel) rfl) pa_nil))))) (pw_or1 (pt_cmpR op_notIn_seq (pv 3) (pow_pe T.rnds) rfl)))) pss_never pss_nil)
      (pss_cons (ps_if (pt_not (pt_val (pe_callB call_isi (by rfl) T.isinstance_ (by decide +kernel) (pa_cons (pv 4) (pa_cons (pe_bltn (v := .ty "bool") (by rfl) T.bool_ (by decide +kernel) rfl) pa_nil))))) pss_never pss_nil)
      (pss_cons (ps_if (PW.pt (pw_or (pt_not (pt_val (pcall c3 hr (pa_cons (pv 5) pa_nil)))) (pw_or1 (pt_not (pt_chain op_le op_le pe_int (pv 5) T.mLeast.pe))))) pss_never pss_nil)
      (pss_cons (ps_fld (pv 0) (pv 1) rfl)
      (pss_cons (ps_fld (pv 0) (pv 2) rfl)
      (pss_cons (ps_fld (pv 0) (pv 3) rfl)
      (pss_cons (ps_fld (pv 0) (pv 4) rfl)
      (pss_cons (ps_fld (pv 0) (pv 5) rfl)
      (pss_cons (ps_fld (pv 0) (pe_tup (pa_cons (pv 1) (pa_cons (pv 2) (pa_cons (pv 3) (pa_cons (pv 4) (pa_cons (pv 5) pa_nil)))))) rfl)
      (pss_cons (ps_fld (pv 0) (pe_tup (pa_cons pe_int (StX.pa_star (pe_lc (own := [("name", 6), ("size", 7)]) (g := gTup K 2 (gCons (gName 6) (gCons (gName 7) gNil))) (tt := tYes) (te := tOp (rI CDivN fun i j => .int (i.fdiv j)) (tVar 7) (tOp (rIxT K) (fun σ H Q => ∀ a, (∀ H, SqT K H a [.int 1, .int 10, .int 100, .int 1000]) → Q (.ref a) H) (tVar 2))) rfl scI.nd (pi_tup (pe_slice sl_tupA (pv 1) (po_some pe_int) po_none)) (blkOk_by (own := [("name", 6), ("size", 7)]) (N := nI) (sc := defScope (mth 0)) (by decide +kernel))
            (fun _ _ _ _ _ => pg_tup rfl (pgs_cons (pg_name (i := 6) scI.nd rfl (Or.inl rfl)) (pgs_cons (pg_name (i := 7) scI.nd rfl (Or.inl rfl)) pgs_nil))) (fun _ _ _ _ _ => pts_nil)
            (fun _ _ _ _ _ => pe_op op_fdivN (pv 7) (pe_ix ix_tup (pow_pe T.pows) (pv 2) (fun _ _ => rfl)))) pa_nil))) rfl)
      (pss_cons (ps_fld (pv 0) (pe_tup (pa_cons pe_int (StX.pa_star (pe_lc (own := [("name", 6), ("size", 7)]) (g := gTup K 2 (gCons (gName 6) (gCons (gName 7) gNil))) (tt := tYes) rfl scI.nd (pi_tup (pe_slice sl_tupA (pv 1) (po_some pe_int) po_none)) (blkOk_by (own := [("name", 6), ("size", 7)]) (N := nI) (sc := defScope (mth 0)) (by decide +kernel))
            (fun _ _ _ _ _ => pg_tup rfl (pgs_cons (pg_name (i := 6) scI.nd rfl (Or.inl rfl)) (pgs_cons (pg_name (i := 7) scI.nd rfl (Or.inl rfl)) pgs_nil))) (fun _ _ _ _ _ => pts_nil)
            (fun _ _ _ _ _ => pe_op op_mul (pv 7) (pv 5))) pa_nil))) rfl)
      (pss_one (ps_fld (pv 0) (pe_callTy call_tuple_of (by rfl) T.tuple_ (by decide +kernel) (pa_cons (pe_lc (own := [("unit", 8)]) (g := gName 8) (tt := tYes) rfl scI.nd (pi_range1 (by rfl) T.range_ (pa_cons (pe_callB call_len_seq (by rfl) T.len_ PySem.boot_len (pa_cons (pv 1) pa_nil)) pa_nil)) (blkOk_by (own := [("unit", 8)]) (N := nI) (sc := defScope (mth 0)) (by decide +kernel))
            (fun _ _ _ _ _ => pg_name (i := 8) scI.nd rfl (Or.inl rfl)) (fun _ _ _ _ _ => pts_nil)
            (fun _ _ _ _ _ => pmeth T.cl c4 hr (pv 0) (pa_cons (pv 8) pa_nil))) pa_nil)) rfl))))))))))))))), ?_⟩
    -- the checks
    refine ⟨_, rfl, aU, L.us, rfl, UA, g.uok, fun H1 s1 => ?_⟩
    refine ⟨_, rfl, _, rfl, aU, L.us, L.dec, rfl, UA.same s1, g.uok.n1, g.uok.n6, g.dec, g.part, fun H2 s2 => ⟨true, rfl, iteF ?_⟩⟩
    refine ⟨_, rfl, .str L.rnd.s, .ty "str", _, _, true, rfl, .ty _, .base (.str _), kit_ss, true, rfl, iteF ?_⟩
    refine ⟨_, rfl, fun aR hR => ⟨aR, _, rfl, .inr (hR _), rfl, by decide +kernel, _, rfl, ?_⟩⟩
    rw [inV_rnd]
    refine iteF ⟨_, rfl, .bl L.carry, .ty "bool", _, _, true, rfl, .ty _, .base (.bl _), kit_bb, true, rfl, iteF ?_⟩
    refine ⟨_, rfl, L.least, rfl, true, rfl, iteF ⟨_, rfl, 1, L.least, rfl, rfl, _, rfl, iT g.le1 ⟨L.least, 1000, rfl, rfl, _, rfl, ?_⟩⟩⟩
    rw [decide_eq_true g.le2]
    refine iteF ?_
    have s12 := s1.trans s2
    have hp2 := s12 _ _ hp
    have UA2 := UA.same s12
    have B2 : But p H H2 := But.same s12
    -- the five
    refine ⟨_, rfl, _, rfl, p, C, dx, _, rfl, hp2, T.cl, T.n1, (by show 0 < 1000; decide), ?_⟩
    refine ⟨_, rfl, _, rfl, p, C, dx, _, rfl, upd_same, T.cl, T.n2, (Nat.lt_of_le_of_lt (putF_lt (n := 0) (Nat.le_refl _)) (by decide)), ?_⟩
    rw [upd_upd]
    refine ⟨_, rfl, _, rfl, p, C, dx, _, rfl, upd_same, T.cl, T.n3, (Nat.lt_of_le_of_lt (putF_lt (putF_lt (n := 0) (Nat.le_refl _))) (by decide)), ?_⟩
    rw [upd_upd]
    refine ⟨_, rfl, _, rfl, p, C, dx, _, rfl, upd_same, T.cl, T.n4, (Nat.lt_of_le_of_lt (putF_lt (putF_lt (putF_lt (n := 0) (Nat.le_refl _)))) (by decide)), ?_⟩
    rw [upd_upd]
    refine ⟨_, rfl, _, rfl, p, C, dx, _, rfl, upd_same, T.cl, T.n5, (Nat.lt_of_le_of_lt (putF_lt (putF_lt (putF_lt (putF_lt (n := 0) (Nat.le_refl _))))) (by decide)), ?_⟩
    rw [upd_upd]
    generalize hF5 : putF "least" (.int L.least) (putF "carry" (.bl L.carry) (putF "rounding" (.str L.rnd.s) (putF "decimals" (.int L.dec) (putF "units" (.ref aU) [])))) = F5
    have n5 : F5.length ≤ 5 := by
      rw [← hF5]
      exact putF_lt (putF_lt (putF_lt (putF_lt (putF_lt (n := 0) (Nat.le_refl _)))))
    generalize hG5 : upd H2 p (.ins C dx F5) = G5
    have hp5 : G5 p = some (.ins C dx F5) := by rw [← hG5]; exact upd_same
    have B5 : But p H G5 := B2.trans (by rw [← hG5]; exact But.upd)
    -- told
    refine ⟨_, rfl, _, rfl, _, rfl, _, rfl, _, rfl, (by show 5 ≤ sizeLine; decide), fun aT nT => ?_⟩
    refine ⟨_, rfl, p, C, dx, _, rfl, (upd_ne (ne_of_none hp5 nT)).trans hp5, T.cl, T.n6, Nat.lt_of_le_of_lt n5 (by decide), ?_⟩
    generalize hT6 : upd G5 aT (.tup [V.ref aU, V.int L.dec, V.str L.rnd.s, V.bl L.carry, V.int L.least]) = T6
    generalize hG6 : upd T6 p (.ins C dx (putF "told" (.ref aT) F5)) = G6
    have hp6 : G6 p = some (.ins C dx (putF "told" (.ref aT) F5)) := by rw [← hG6]; exact upd_same
    have sT6 : Same G5 T6 := by rw [← hT6]; exact same_upd nT
    have C6 : But p T6 G6 := by rw [← hG6]; exact But.upd
    have B6 : But p H G6 := (B5.trans (But.same sT6)).trans C6
    have n6 : (putF ("told" : Str) (.ref aT) F5).length ≤ 6 := putF_lt n5
    -- steps
    have kx : ∀ xs, HO.ins C dx [] ≠ .tup xs := fun xs z => by cases z
    have h1k : 1 ≤ L.k := g.uok.n1
    have h6k : L.k ≤ 6 := g.uok.n6
    obtain ⟨rs, ha6, hu6⟩ := UA.but hp kx B6
    have hl6 : rs.length = L.k := Paired.len hu6
    have htl : (rs.drop 1).length + 1 = L.k := by rw [List.length_drop]; omega
    have tailget : ∀ (H' : Hp) (j : Nat) (r1 : Addr), Same G6 H' → (rs.drop 1)[j]? = some r1 → ∃ y : Str × Int, L.us.tail[j]? = some y ∧ H' r1 = some (.tup [.str y.1, .int y.2]) := fun H' j r1 sm e => by
      obtain ⟨y, hy1, hy2⟩ := Paired.get1 (Paired.drop 1 hu6) e
      rw [List.drop_one] at hy1
      exact ⟨y, hy1, sm _ _ hy2⟩
    refine ⟨_, rfl, 1, rfl, aU, _, rfl, sT ha6, fun wh => absurd wh (tl_ne (by rw [List.length_map]; omega)), fun _ z1 nz1 => ⟨z1, rfl, ⟨_, sT upd_same⟩, fun Dl hD => ?_⟩⟩
    rw [cut_1, ← List.map_drop] at hD ⊢
    generalize hZ : upd G6 z1 (.tup ((rs.drop 1).map V.ref)) = Z at hD ⊢
    have sZ : Same G6 Z := by rw [← hZ]; exact same_upd nz1
    have hz1 : Z z1 = some (.tup ((rs.drop 1).map V.ref)) := by rw [← hZ]; exact upd_same
    refine lc_map (walk_tup (xs := (rs.drop 1).map V.ref)) (fun i H' => Same Z H' ∧ H' Dl = some (.lst ((L.us.tail.take i).map fun u => V.int (u.2 / p10 L.dec)))) ⟨same_upd hD, upd_same⟩ (fun i H' _ z => sT (z.1 _ _ hz1)) ?_ ?_
    · rintro i x H3 H4 hi ⟨sm, hL⟩ ⟨rfl, hx⟩
      obtain ⟨r1, hri, rfl⟩ := mget hx
      obtain ⟨y, hy1, hy2⟩ := tailget H4 i r1 (sZ.trans sm) hri
      refine ⟨r1, _, rfl, sT hy2, rfl, .str y.1, _, rfl, .int y.2, [], rfl, rfl, rfl, ?_⟩
      have pp := p10_pos L.dec
      have pl := p10_le L.dec
      refine ⟨.int y.2, rfl, fun pa hpa => ⟨_, rfl, pa, _, (L.dec : Int), .int (p10 L.dec), rfl, rfl, hpa _, atI_nat (pow_at g.dec), y.2, p10 L.dec, rfl, rfl, ⟨by omega, by omega⟩, ?_⟩⟩
      refine ⟨_, hL, ?_, fun b o e => ?_, ?_⟩
      · rw [List.length_map, List.length_take]
        have := List.length_map V.ref (as := rs.drop 1)
        exact small1000 (Nat.le_trans (Nat.min_le_left _ _) (by omega))
      · rw [upd_ne (ne_of_none e hD)]
        exact sm _ _ e
      · rw [upd_same, take_map (f := fun u : Str × Int => V.int (u.2 / p10 L.dec)) hy1]
        show some (HO.lst (_ ++ [V.int (y.2.fdiv (p10 L.dec))])) = _
        rw [fdv (by omega)]
    rintro H7 ⟨sm7, hL7⟩
    have e7 : (L.us.tail.take ((rs.drop 1).map V.ref).length) = L.us.tail := by
      refine List.take_of_length_le ?_
      rw [List.length_map, List.length_tail]
      have : L.us.length = L.k := rfl
      omega
    rw [e7] at hL7
    have s7 : Same G6 H7 := sZ.trans sm7
    refine ⟨Dl, _, rfl, .inr (sL hL7), ?_, fun aS nS => ?_⟩
    · rw [List.append_nil, List.length_cons, List.length_map, List.length_tail]
      have : L.us.length = L.k := rfl
      exact sl63 (by omega)
    rw [List.append_nil, steps_eq h1k] at *
    have hp7 := s7 _ _ hp6
    refine ⟨_, rfl, p, C, dx, _, rfl, (upd_ne (ne_of_none hp7 nS)).trans hp7, T.cl, T.n7, Nat.lt_of_le_of_lt n6 (by decide), ?_⟩
    generalize hT7 : upd H7 aS (.tup (stepsV L)) = T7
    have sT7 : Same H7 T7 := by rw [← hT7]; exact same_upd nS
    have haS7 : T7 aS = some (.tup (stepsV L)) := by rw [← hT7]; exact upd_same
    generalize hG7 : upd T7 p (.ins C dx (putF "steps" (.ref aS) (putF "told" (.ref aT) F5))) = G7
    have hp8 : G7 p = some (.ins C dx (putF "steps" (.ref aS) (putF "told" (.ref aT) F5))) := by rw [← hG7]; exact upd_same
    have C7 : But p T7 G7 := by rw [← hG7]; exact But.upd
    have npT : ∀ b xs, T7 b = some (.tup xs) → b ≠ p := fun b xs e z => by
      rw [z, sT7 _ _ hp7] at e
      cases e
    have B7 : But p H G7 := (B6.trans (But.same (s7.trans sT7))).trans C7
    have haS : G7 aS = some (.tup (stepsV L)) := C7 _ _ (npT _ _ haS7) haS7
    have n7 : (putF ("steps" : Str) (.ref aS) (putF "told" (.ref aT) F5)).length ≤ 7 := putF_lt n6
    -- thresholds
    obtain ⟨rs8, ha8, hu8⟩ := UA.but hp kx B7
    have hl8 : rs8.length = L.k := Paired.len hu8
    have htl8 : (rs8.drop 1).length + 1 = L.k := by rw [List.length_drop]; omega
    refine ⟨_, rfl, 1, rfl, aU, _, rfl, sT ha8, fun wh => absurd wh (tl_ne (by rw [List.length_map]; omega)), fun _ z2 nz2 => ⟨z2, rfl, ⟨_, sT upd_same⟩, fun D2 hD2 => ?_⟩⟩
    rw [cut_1, ← List.map_drop] at hD2 ⊢
    generalize hY : upd G7 z2 (.tup ((rs8.drop 1).map V.ref)) = Y at hD2 ⊢
    have sY : Same G7 Y := by rw [← hY]; exact same_upd nz2
    have hz2 : Y z2 = some (.tup ((rs8.drop 1).map V.ref)) := by rw [← hY]; exact upd_same
    refine lc_map (walk_tup (xs := (rs8.drop 1).map V.ref)) (fun i H' => Same Y H' ∧ H' D2 = some (.lst ((L.us.tail.take i).map fun u => V.int (u.2 * L.least)))) ⟨same_upd hD2, upd_same⟩ (fun i H' _ z => sT (z.1 _ _ hz2)) ?_ ?_
    · rintro i x H3 H4 hi ⟨sm, hL⟩ ⟨rfl, hx⟩
      obtain ⟨r1, hri, rfl⟩ := mget hx
      obtain ⟨y, hy1, hy2⟩ := Paired.get1 (Paired.drop 1 hu8) hri
      rw [List.drop_one] at hy1
      refine ⟨r1, _, rfl, sT (sm _ _ (sY _ _ hy2)), rfl, .str y.1, _, rfl, .int y.2, [], rfl, rfl, rfl, ?_⟩
      have l1 := g.le1
      have l2 := g.le2
      refine ⟨.int y.2, rfl, .int L.least, rfl, y.2, L.least, rfl, rfl, .inr ⟨by rw [pow64]; omega, by rw [pow64]; omega⟩, ?_⟩
      refine ⟨_, hL, ?_, fun b o e => ?_, ?_⟩
      · rw [List.length_map, List.length_take]
        have := List.length_map V.ref (as := rs8.drop 1)
        exact small1000 (Nat.le_trans (Nat.min_le_left _ _) (by omega))
      · rw [upd_ne (ne_of_none e hD2)]
        exact sm _ _ e
      · rw [upd_same, take_map (f := fun u : Str × Int => V.int (u.2 * L.least)) hy1]
    rintro H9 ⟨sm9, hL9⟩
    have e9 : (L.us.tail.take ((rs8.drop 1).map V.ref).length) = L.us.tail := by
      refine List.take_of_length_le ?_
      rw [List.length_map, List.length_tail]
      have : L.us.length = L.k := rfl
      omega
    rw [e9] at hL9
    have s9 : Same G7 H9 := sY.trans sm9
    refine ⟨D2, _, rfl, .inr (sL hL9), ?_, fun aH nH => ?_⟩
    · rw [List.append_nil, List.length_cons, List.length_map, List.length_tail]
      have : L.us.length = L.k := rfl
      exact sl63 (by omega)
    rw [List.append_nil, thr_eq h1k] at *
    have hp9 := s9 _ _ hp8
    refine ⟨_, rfl, p, C, dx, _, rfl, (upd_ne (ne_of_none hp9 nH)).trans hp9, T.cl, T.n8, Nat.lt_of_le_of_lt n7 (by decide), ?_⟩
    generalize hT9 : upd H9 aH (.tup (thrV L)) = T9
    have sT9 : Same H9 T9 := by rw [← hT9]; exact same_upd nH
    have haH9 : T9 aH = some (.tup (thrV L)) := by rw [← hT9]; exact upd_same
    have eF8 : putF ("thresholds" : Str) (.ref aH) (putF "steps" (.ref aS) (putF "told" (.ref aT) F5)) = fs8 L aU aT aS aH := by rw [← hF5]; rfl
    rw [eF8]
    generalize hG9 : upd T9 p (.ins C dx (fs8 L aU aT aS aH)) = G9
    have hpA : G9 p = some (.ins C dx (fs8 L aU aT aS aH)) := by rw [← hG9]; exact upd_same
    have C9 : But p T9 G9 := by rw [← hG9]; exact But.upd
    have npT9 : ∀ b xs, T9 b = some (.tup xs) → b ≠ p := fun b xs e z => by
      rw [z, sT9 _ _ hp9] at e
      cases e
    have B9 : But p H G9 := (B7.trans (But.same (s9.trans sT9))).trans C9
    have haS9 : G9 aS = some (.tup (stepsV L)) := C9 _ _ (npT9 _ _ (sT9 _ _ (s9 _ _ haS))) (sT9 _ _ (s9 _ _ haS))
    have haHG : G9 aH = some (.tup (thrV L)) := C9 _ _ (npT9 _ _ haH9) haH9
    have UA9 := UA.but hp kx B9
    have n8 : (fs8 L aU aT aS aH).length ≤ 8 := by
      rw [← eF8]
      exact putF_lt n7
    have PA : PreAt C G9 p L (fs8 L aU aT aS aH) := ⟨⟨dx, hpA⟩, ⟨aU, fs8_1, UA9⟩, fs8_2, fs8_3, fs8_4, ⟨aS, fs8_7, haS9⟩, ⟨aH, fs8_8, haHG⟩, fs8_no⟩
    -- starts
    obtain ⟨rsA, haA, huA⟩ := UA9
    have hlA : rsA.length = L.k := Paired.len huA
    refine ⟨_, rfl, aU, _, rfl, .inr (sT haA), _, rfl, ?_, ?_, fun D3 hD3 => ?_⟩
    · show -(2 ^ 62 : Int) ≤ (((rsA.map V.ref).length : Nat) : Int)
      omega
    · show (((rsA.map V.ref).length : Nat) : Int) < 2 ^ 62
      rw [List.length_map, hlA]
      omega
    rw [Int.toNat_natCast, List.length_map, hlA]
    refine lc_map (walk_range (lo := 0) (n := L.k)) (fun i H' => Same G9 H' ∧ H' D3 = some (.lst (((List.range L.k).take i).map fun u => V.int (L.start u)))) ⟨same_upd hD3, upd_same⟩ (fun _ _ _ _ => trivial) ?_ ?_
    · rintro i x H3 H4 hi ⟨sm, hL⟩ ⟨rfl, rfl⟩
      refine ⟨rfl, .ref p, rfl, p, dx, _, rfl, sm _ _ hpA, fs8_no _ (.tail _ (.head _)), _, rfl, p, L, _, i, 0 + (i : Int), rfl, by omega, PA.same sm, ok, hi, ?_⟩
      refine ⟨_, hL, ?_, fun b o e => ?_, ?_⟩
      · rw [List.length_map, List.length_take]
        exact small1000 (Nat.le_trans (Nat.min_le_left _ _) (by omega))
      · rw [upd_ne (ne_of_none e hD3)]
        exact sm _ _ e
      · rw [upd_same, take_map (f := fun u => V.int (L.start u)) (List.getElem?_range hi)]
    rintro H10 ⟨sm10, hL10⟩
    rw [List.take_of_length_le (by rw [List.length_range]; exact Nat.le_refl _)] at hL10
    refine ⟨D3, _, rfl, .inl ⟨sL hL10, fun aR nR => ?_⟩⟩
    have hp10 := sm10 _ _ hpA
    refine ⟨_, rfl, p, C, dx, _, rfl, (upd_ne (ne_of_none hp10 nR)).trans hp10, T.cl, T.n9, Nat.lt_of_le_of_lt n8 (by decide), ?_⟩
    have sR : Same H10 (upd H10 aR (.tup ((List.range L.k).map fun u => V.int (L.start u)))) := same_upd nR
    refine q _ ((B9.trans (But.same (sm10.trans sR))).trans But.upd) ⟨_, pre_starts (PA.same (sm10.trans sR)) upd_same (But.upd), aR, look_eq, ?_⟩
    rw [upd_ne (fun z => by
      rw [z, hp10] at nR
      cases nR), upd_same]
    rfl
end
end SFW
end TWalkG

section TWalkH
set_option Elab.async false
set_option linter.all false
set_option maxRecDepth 100000
set_option maxHeartbeats 4000000
/-! WalkH: figures read back: number_in, mark_in, parts_of, check_figure. -/
namespace SFW
open PySem PySem.Spec PyProof.Rows L2 SFK SF TL
theorem occ_dig {c : Nat} (h1 : 48 ≤ c) (h2 : c ≤ 57) : Builtin.Str.occurrences digs ⟨#[c]⟩ 0 digs.length 1 = [c - 48] := by
  have e : c = 48 ∨ c = 49 ∨ c = 50 ∨ c = 51 ∨ c = 52 ∨ c = 53 ∨ c = 54 ∨ c = 55 ∨ c = 56 ∨ c = 57 := by omega
  rcases e with rfl | rfl | rfl | rfl | rfl | rfl | rfl | rfl | rfl | rfl <;> decide +kernel
theorem mem_dig {c : Nat} (h1 : 48 ≤ c) (h2 : c ≤ 57) : c ∈ digs.cps.toList := by
  have e : c = 48 ∨ c = 49 ∨ c = 50 ∨ c = 51 ∨ c = 52 ∨ c = 53 ∨ c = 54 ∨ c = 55 ∨ c = 56 ∨ c = 57 := by omega
  rcases e with rfl | rfl | rfl | rfl | rfl | rfl | rfl | rfl | rfl | rfl <;> decide +kernel
theorem dig_let {c : Nat} (h1 : 48 ≤ c) (h2 : c ≤ 57) : c ∉ tl lets := by
  have e : c = 48 ∨ c = 49 ∨ c = 50 ∨ c = 51 ∨ c = 52 ∨ c = 53 ∨ c = 54 ∨ c = 55 ∨ c = 56 ∨ c = 57 := by omega
  rcases e with rfl | rfl | rfl | rfl | rfl | rfl | rfl | rfl | rfl | rfl <;> decide +kernel
theorem S_inj {a b : List Nat} (h : S a = S b) : a = b := by
  have := congrArg tl h
  exact this
theorem S_nil : S [] = Str.ofString "" := ext_tl (by decide +kernel)
theorem S_0 : S [48] = Str.ofString "0" := ext_tl (by decide +kernel)
theorem S_pt : S [46] = Str.ofString "." := ext_tl (by decide +kernel)
theorem rd_take {l : List Nat} {i c : Nat} (a : Int) (h : l[i]? = some c) : rd a (l.take (i + 1)) = 10 * rd a (l.take i) + ((c : Int) - 48) := by
  rw [take_snoc h, rd_app, rd_one]
section
variable {P : Program} {w : World} {K : PySem.W.Frag} {mg : Str → Option Value} {base : Heap} {C : Addr}
/-! ### number_in -/
def spNumIn : Sp := fun vs H Q _ => ∃ l : List Nat, vs = [.str (S l)] ∧ l ≠ [] ∧ l.length ≤ 100 ∧ (∀ c ∈ l, 48 ≤ c ∧ c ≤ 57) ∧ (∀ c r, l = c :: r → c = 48 → l = [48]) ∧ ∀ H', Same H H' → Q (.int (rd 0 l)) H'
theorem sc32 : FnScope ["text", "sign", "found"] ["text"] (defScope (top 32)) := ⟨rfl, rfl, rfl, by decide +kernel, rfl, by decide +kernel, by decide +kernel⟩
theorem ok_numIn (T : Txt K mg C) (D : Def K mg "number_in" (top 32)) : Cal P w K mg base "number_in" 1 ["text"] spNumIn := by
  refine D.cal sc32 (fun _ _ _ _ _ _ us hl => match us, hl with | [_], _ => rfl) (fun vs H Q E h => ?_) (fun f cdv A outer s H vs Q E hr h => ?_)
  · obtain ⟨l, rfl, _⟩ := h
    rfl
  · obtain ⟨l, rfl, hne, h100, hd, hz, q⟩ := h
    have hsz : (S l).cps.size = l.length := by
      show l.toArray.size = l.length
      simp
    refine ⟨_, pss_cons (ps_if (PW.pt (pw_or (pt_cmpR op_eq (pv 0) pe_str (nomark _)) (pw_or (pt_not (pt_val (pe_callB (cr_all rfl) (by rfl) T.all_ (by decide +kernel) (pa_cons
          (pe_lc (own := [("sign", 1)]) (g := gName 1) (tt := tYes) rfl sc32.nd (pi_str (pv 0)) (blkOk_by (own := [("sign", 1)]) (N := ["text", "sign", "found"]) (sc := defScope (top 32)) (by decide +kernel))
            (fun _ _ _ _ _ => pg_name (i := 1) sc32.nd rfl (Or.inl rfl)) (fun _ _ _ _ _ => pts_nil) (fun _ _ _ _ _ => pe_cmpR op_in_sign (pv 1) T.figs.pe rfl)) pa_nil))))
        (pw_or1 (PW.pt (pw_and (pt_cmpR op_eq (pe_ix ix_str (pv 0) pe_int (fun _ _ => rfl)) pe_str (nomark _)) (pw_and1 (pt_cmpR op_ne (pv 0) pe_str (nomark _)))))))))
        (pss_one (ps_ret pe_non)) pss_nil)
      (pss_cons (ps_set (i := 2) sc32.nd rfl (.inl rfl) pe_int)
      (pss_cons (ps_for PassesOwn.never rfl (pi_str (pv 0)) (pg_name (i := 1) sc32.nd rfl (Or.inl rfl))
        (pss_one (ps_set (i := 2) sc32.nd rfl (.inl rfl) (pe_op op_add (pe_op op_mul pe_int (pv 2)) (pe_bm PySem.F.plainAttrs_str PySem.F.slot_str_index PySem.F.type_str_index mt_sindex T.figs.pe (pa_cons (pv 1) pa_nil))))))
      (pss_one (ps_ret (pv 2))))), ?_⟩
    refine ⟨_, rfl, rfl, _, rfl, iF (fun e => ?_) ?_⟩
    · have e1 := V.str.inj e
      rw [← S_nil] at e1
      exact hne (S_inj e1)
    refine ⟨_, rfl, _, rfl, fun Dl hD => lc_map walk_str (fun i H' => Same H H' ∧ H' Dl = some (.lst ((List.replicate i true).map V.bl))) ⟨same_upd hD, upd_same⟩ (fun _ _ _ _ => trivial) ?_ ?_⟩
    · rintro i x H1 H2 hi ⟨sm, hL⟩ ⟨rfl, c, hc, rfl⟩
      have hc2 : l[i]? = some c := by
        have : (S l).cps[i]? = some c := hc
        rw [show (S l).cps = l.toArray from rfl] at this
        simpa using this
      obtain ⟨d1, d2⟩ := hd c (List.mem_of_getElem? hc2)
      refine ⟨rfl, _, rfl, c, _, rfl, rfl, ?_⟩
      rw [decide_eq_true (mem_dig d1 d2)]
      refine ⟨_, hL, ?_, fun b o e => ?_, ?_⟩
      · rw [rep_len]
        exact small1000 (by omega)
      · rw [upd_ne (ne_of_none e hD)]
        exact sm _ _ e
      · rw [upd_same, rep_snoc]
    rintro H1 ⟨sm, hL⟩
    refine ⟨Dl, _, rfl, sL hL, _, rfl, ?_⟩
    rw [all_rep]
    refine iteF ?_
    obtain ⟨c0, r0, el⟩ : ∃ c r, l = c :: r := by
      cases l with
      | nil => exact absurd rfl hne
      | cons c r => exact ⟨c, r, rfl⟩
    refine ⟨_, rfl, S l, 0, c0, rfl, rfl, by rw [len_S]; exact sl63 (by omega), atI_nat (j := 0) (by rw [show (S l).cps.toList = l from rfl, el]; rfl), rfl, _, rfl, ?_⟩
    -- the loop, once the test is done
    have loop : tSeq (tAsg (tC (.int 0)) (gName 2)) (tSeq (tFor (iStr (tVar 0)) (gName 1) (tAsg (tOp (rI0 fun i j => .int (i + j)) (tOp (rI CMul fun i j => .int (i * j)) (tC (.int 10)) (tVar 2)) (tBM K "str" (fun x xs H Q => ∃ a b i rest, x = .str a ∧ xs = [.str b] ∧ Builtin.Str.occurrences a b 0 a.length 1 = i :: rest ∧ Q (.int (i : Nat)) H) (tC (.str digs)) (tCons (tVar 1) tNil))) (gName 2))) (tRet (tVar 2)))
        { nx := fun _ H' => Q .non H', rt := Q } [some (.str (S l)), none, none] H1 := by
      refine ⟨_, rfl, _, rfl, for_it walk_str (fun i σ H' => H' = H1 ∧ ∃ y, σ = [some (.str (S l)), y, some (.int (rd 0 (l.take i)))]) ⟨rfl, none, rfl⟩ (fun _ _ _ _ _ => trivial) ?_ ?_⟩
      · rintro i x σ H2 H3 hi ⟨rfl, y, rfl⟩ ⟨rfl, c, hc, rfl⟩
        have hc2 : l[i]? = some c := by
          have : (S l).cps[i]? = some c := hc
          rw [show (S l).cps = l.toArray from rfl] at this
          simpa using this
        obtain ⟨d1, d2⟩ := hd c (List.mem_of_getElem? hc2)
        refine ⟨_, rfl, 10, _, rfl, rfl, .inl ⟨by decide, by decide⟩, rfl, .str ⟨#[c]⟩, rfl, digs, ⟨#[c]⟩, c - 48, [], rfl, rfl, occ_dig d1 d2, _, _, rfl, rfl, rfl, some (.str ⟨#[c]⟩), ?_⟩
        rw [rd_take 0 hc2, show (((c - 48 : Nat)) : Int) = (c : Int) - 48 by omega]
        rfl
      · rintro σ H2 ⟨rfl, y, rfl⟩
        refine ⟨_, rfl, ?_⟩
        have e : l.take (S l).cps.size = l := by
          rw [hsz, List.take_length]
        show Q (.int (rd 0 (l.take (S l).cps.size))) H2
        rw [e]
        exact q H2 sm
    by_cases h48 : c0 = 48
    · have e1 := hz c0 r0 el h48
      refine iT (by rw [h48]; exact congrArg V.str S_0) ⟨_, rfl, rfl, _, rfl, ?_⟩
      rw [decide_eq_true (show V.str (S l) = V.str (Str.ofString "0") by rw [e1, S_0])]
      exact iteF loop
    · refine iF (fun e => h48 ?_) (iteF loop)
      have e1 := V.str.inj e
      rw [← S_0] at e1
      exact (List.cons.inj (S_inj (show S [c0] = S [48] from e1))).1
/-! ### mark_in -/
def spMarkIn (C : Addr) : Sp := fun vs H Q _ => ∃ (p : Addr) (L : Lad) (u k : Nat) (i : Int), vs = [.ref p, .int i, .str (S (figL (plain L u) L.dec k))] ∧ i = (u : Int) ∧ LadAt C H p L ∧ L.dec ≤ 3 ∧ (k : Int) < mtop ∧ ∀ H', Same H H' → Q (.int k) H'
abbrev n33 : List Str := ["ladder", "unit", "text", "whole", "point", "rest", "sign", "first", "found"]
theorem sc33 : FnScope n33 ["ladder", "unit", "text"] (defScope (top 33)) := ⟨rfl, rfl, rfl, by decide +kernel, rfl, by decide +kernel, by decide +kernel⟩
theorem num_len' {k j : Nat} (h : (k : Int) < mtop) (hj : j ≤ k) : (numL j).length ≤ 24 := by
  refine numL_len (by decide) ?_
  have : (k : Int) < 1000000000000000000000000 := h
  rw [show (10 : Nat) ^ 24 = 1000000000000000000000000 by decide]
  omega
theorem num_head {j c : Nat} {r : List Nat} (e : numL j = c :: r) (h : c = 48) : numL j = [48] := by
  obtain ⟨c', r', e', z⟩ := numL_head j
  rw [e] at e'
  have := (List.cons.inj e').1
  exact z (by omega)
theorem ok_markIn (T : Txt K mg C) (D : Def K mg "mark_in" (top 33)) (c1 : Cal P w K mg base "number_in" 1 ["text"] spNumIn) : Cal P w K mg base "mark_in" 2 ["ladder", "unit", "text"] (spMarkIn C) := by
  refine D.cal sc33 (fun _ _ _ _ _ _ us hl => match us, hl with | [_, _, _], _ => rfl) (fun vs H Q E h => ?_) (fun f cdv A outer s H vs Q E hr h => ?_)
  · obtain ⟨p, L, u, k, i, rfl, _⟩ := h
    rfl
  · obtain ⟨p, L, u, k, i, rfl, ei, LA, hd3, hk, q⟩ := h
    obtain ⟨fs, PA, _⟩ := LA.pre
    obtain ⟨dx, hp⟩ := PA.ob
    refine ⟨_, pss_cons (ps_if (PW.pt (pw_or (pt_cmpR op_eq (pv 1) pe_int (nomark _)) (pw_or1 (pt_cmpR op_eq (pe_fld (pv 0) rfl) pe_int (nomark _))))) (pss_one (ps_ret (pcall c1 hr (pa_cons (pv 2) pa_nil)))) pss_nil)
      (pss_cons (ps_asg (pe_partition (pv 2) pe_str) (pg_tup rfl (pgs_cons (pg_name (i := 3) sc33.nd rfl (.inl rfl)) (pgs_cons (pg_name (i := 4) sc33.nd rfl (.inl rfl)) (pgs_cons (pg_name (i := 5) sc33.nd rfl (.inl rfl)) pgs_nil)))))
      (pss_cons (ps_if (PW.pt (pw_or (pt_cmpR op_eq (pv 4) pe_str (nomark _)) (pw_or (pt_cmpR op_ne (pe_callB call_len_str (by rfl) T.len_ PySem.boot_len (pa_cons (pv 5) pa_nil)) (pe_fld (pv 0) rfl) (nomark _))
          (pw_or1 (pt_not (pt_val (pe_callB (cr_all rfl) (by rfl) T.all_ (by decide +kernel) (pa_cons
          (pe_lc (own := [("sign", 6)]) (g := gName 6) (tt := tYes) rfl sc33.nd (pi_str (pv 5)) (blkOk_by (own := [("sign", 6)]) (N := n33) (sc := defScope (top 33)) (by decide +kernel))
            (fun _ _ _ _ _ => pg_name (i := 6) sc33.nd rfl (Or.inl rfl)) (fun _ _ _ _ _ => pts_nil) (fun _ _ _ _ _ => pe_cmpR op_in_sign (pv 6) T.figs.pe rfl)) pa_nil))))))))
        (pss_one (ps_ret pe_non)) pss_nil)
      (pss_cons (ps_set (i := 7) sc33.nd rfl (.inl rfl) (pcall c1 hr (pa_cons (pv 3) pa_nil)))
      (pss_cons (ps_if (pt_cmpR op_isN (pv 7) pe_non (nomark _)) (pss_one (ps_ret pe_non)) pss_nil)
      (pss_cons (ps_set (i := 8) sc33.nd rfl (.inl rfl) (pv 7))
      (pss_cons (ps_for PassesOwn.never rfl (pi_str (pv 5)) (pg_name (i := 6) sc33.nd rfl (Or.inl rfl))
        (pss_one (ps_set (i := 8) sc33.nd rfl (.inl rfl) (pe_op op_add (pe_op op_mul pe_int (pv 8)) (pe_bm PySem.F.plainAttrs_str PySem.F.slot_str_index PySem.F.type_str_index mt_sindex T.figs.pe (pa_cons (pv 6) pa_nil))))))
      (pss_one (ps_ret (pv 8))))))))), ?_⟩
    have num : plain L u = true → ∃ v, (L2.start n33 [V.ref p, V.int i, V.str (S (figL (plain L u) L.dec k))])[2]? = some (some v) ∧ spNumIn ([v] ++ []) H Q E0 := fun e => by
      rw [e]
      refine ⟨_, rfl, numL k, rfl, numL_ne k, Nat.le_trans (num_len' hk (Nat.le_refl _)) (by decide), numL_dig k, fun c r e1 e2 => num_head e1 e2, fun H' s' => ?_⟩
      rw [rd_num]
      exact q H' s'
    refine ⟨_, rfl, rfl, _, rfl, ?_⟩
    by_cases h0 : u = 0
    · refine iT (by rw [ei, h0]; rfl) (iteT (num ?_))
      unfold plain
      rw [h0]
      rfl
    · refine iF (fun z => h0 (by have := V.int.inj z; omega)) ⟨_, rfl, p, C, dx, fs, _, rfl, hp, T.cl, T.n2, PA.dec, rfl, _, rfl, ?_⟩
      by_cases h1 : L.dec = 0
      · refine iT (by rw [h1]; rfl) (num ?_)
        unfold plain
        rw [h1]
        simp
      · refine iF (fun z => h1 (by have := V.int.inj z; omega)) ?_
        have ep : plain L u = false := by
          unfold plain
          simp [h0, h1]
        rw [ep]
        have hle := Nat.div_le_self k (10 ^ L.dec)
        have lA := num_len' hk hle
        have lB := padL_len L.dec k
        have dB := padL_dig L.dec k
        have eT : S (figL false L.dec k) = S (numL (k / 10 ^ L.dec)) ++ Str.ofString "." ++ S (padL L.dec k) := by
          rw [← S_pt, ← S_app, ← S_app]
          show S (numL (k / 10 ^ L.dec) ++ (46 :: padL L.dec k)) = _
          rw [List.append_assoc]
          rfl
        have ePart : Txt.partition (S (figL false L.dec k)) (Str.ofString ".") = (S (numL (k / 10 ^ L.dec)), Str.ofString ".", S (padL L.dec k)) := by
          rw [eT]
          refine partition_app (s := 46) (S := []) (by decide +kernel) fun hm => ?_
          have := numL_dig _ _ (show 46 ∈ numL (k / 10 ^ L.dec) from hm)
          omega
        refine ⟨_, rfl, ⟨_, rfl⟩, _, _, rfl, rfl, by decide +kernel, ?_, fun z nz => ?_⟩
        · rw [len_S]
          show (numL (k / 10 ^ L.dec) ++ (46 :: padL L.dec k)).length ≤ sizeLine
          rw [List.length_append, List.length_cons]
          exact sl63 (by omega)
        rw [ePart]
        have sz : Same H (upd H z (.tup [.str (S (numL (k / 10 ^ L.dec))), .str (Str.ofString "."), .str (S (padL L.dec k))])) := same_upd nz
        generalize hZ : upd H z (.tup [.str (S (numL (k / 10 ^ L.dec))), .str (Str.ofString "."), .str (S (padL L.dec k))]) = Z at sz
        have hz : Z z = some (.tup [.str (S (numL (k / 10 ^ L.dec))), .str (Str.ofString "."), .str (S (padL L.dec k))]) := by rw [← hZ]; exact upd_same
        refine ⟨z, _, rfl, sT hz, rfl, _, _, rfl, _, _, rfl, _, [], rfl, rfl, ?_⟩
        generalize hB : padL L.dec k = B at *
        have hsz : (S B).cps.size = B.length := by
          show B.toArray.size = B.length
          simp
        have getB : ∀ {i c : Nat}, (S B).cps[i]? = some c → B[i]? = some c := fun {i c} hc => by
          rw [show (S B).cps = B.toArray from rfl] at hc
          simpa using hc
        refine ⟨_, rfl, rfl, _, rfl, iF (fun e => absurd (V.str.inj e) (by decide +kernel)) ?_⟩
        refine ⟨_, rfl, S B, rfl, by rw [len_S]; exact sl63 (by omega), _, rfl, p, C, dx, fs, _, rfl, sz _ _ hp, T.cl, T.n2, PA.dec, rfl, _, rfl, inF (by rw [len_S, lB]) ?_⟩
        refine ⟨_, rfl, S B, rfl, fun Dl hD => lc_map walk_str (fun i H' => Same Z H' ∧ H' Dl = some (.lst ((List.replicate i true).map V.bl))) ⟨same_upd hD, upd_same⟩ (fun _ _ _ _ => trivial) ?_ ?_⟩
        · rintro i x H1 H2 hi ⟨sm, hL⟩ ⟨rfl, c, hc, rfl⟩
          obtain ⟨d1, d2⟩ := dB c (List.mem_of_getElem? (getB hc))
          refine ⟨rfl, _, rfl, c, _, rfl, rfl, ?_⟩
          rw [decide_eq_true (mem_dig d1 d2)]
          refine ⟨_, hL, ?_, fun b o e => ?_, ?_⟩
          · rw [rep_len]
            exact small1000 (by omega)
          · rw [upd_ne (ne_of_none e hD)]
            exact sm _ _ e
          · rw [upd_same, rep_snoc]
        rintro H1 ⟨sm, hL⟩
        refine ⟨Dl, _, rfl, sL hL, _, rfl, ?_⟩
        rw [all_rep]
        refine iteF ?_
        refine ⟨_, rfl, numL (k / 10 ^ L.dec), rfl, numL_ne _, by omega, numL_dig _, fun c r e1 e2 => num_head e1 e2, fun H2 s2 => ?_⟩
        rw [rd_num]
        refine ⟨_, rfl, rfl, _, rfl, iF (fun e => nomatch e) ?_⟩
        have sAll := (sz.trans sm).trans s2
        have eR : rd ((k / 10 ^ L.dec : Nat) : Int) B = k := by
          rw [← hB]
          exact rd_pad L.dec k
        refine ⟨_, rfl, _, rfl, S B, rfl, for_it walk_str (fun i σ H' => H' = H2 ∧ ∃ y, σ = [some (.ref p), some (.int _), some (.str _), some (.str _), some (.str _), some (.str (S B)), y, some (.int _), some (.int (rd ((k / 10 ^ L.dec : Nat) : Int) (B.take i)))]) ⟨rfl, none, rfl⟩ (fun _ _ _ _ _ => trivial) ?_ ?_⟩
        · rintro i x σ H3 H4 hi ⟨rfl, y, rfl⟩ ⟨rfl, c, hc, rfl⟩
          obtain ⟨d1, d2⟩ := dB c (List.mem_of_getElem? (getB hc))
          refine ⟨_, rfl, 10, _, rfl, rfl, .inl ⟨by decide, by decide⟩, rfl, .str ⟨#[c]⟩, rfl, digs, ⟨#[c]⟩, c - 48, [], rfl, rfl, occ_dig d1 d2, _, _, rfl, rfl, rfl, some (.str ⟨#[c]⟩), ?_⟩
          rw [rd_take _ (getB hc), show (((c - 48 : Nat)) : Int) = (c : Int) - 48 by omega]
          rfl
        · rintro σ H3 ⟨rfl, y, rfl⟩
          refine ⟨_, rfl, ?_⟩
          show Q (.int (rd ((k / 10 ^ L.dec : Nat) : Int) (B.take (S B).cps.size))) H3
          rw [hsz, List.take_length, eR]
          exact q H3 sAll
end
end SFW
end TWalkH

section TWalkI
set_option Elab.async false
set_option linter.all false
set_option maxRecDepth 100000
set_option maxHeartbeats 4000000
/-! WalkI: parts_of, check_figure, figure_of, show. -/
namespace SFW
open PySem PySem.Spec PyProof.Rows L2 SFK SF TL
section
variable {P : Program} {w : World} {K : PySem.W.Frag} {mg : Str → Option Value} {base : Heap} {C : Addr}
/-! ### parts_of -/
def spPartsOf (C : Addr) : Sp := fun vs H Q _ => ∃ (p : Addr) (L : Lad) (u k : Nat), vs = [.ref p, .str (ftxt L u k)] ∧ LadAt C H p L ∧ L.Ok ∧ Nm L ∧ u < L.k ∧ (k : Int) < mtop ∧
  ∀ H' r, Same H H' → H' r = some (.tup [.int u, .int k]) → Q (.ref r) H'
abbrev n34 : List Str := ["ladder", "text", "figures", "name", "unit", "pair", "mark"]
theorem sc34 : FnScope n34 ["ladder", "text"] (defScope (top 34)) := ⟨rfl, rfl, rfl, by decide +kernel, rfl, by decide +kernel, by decide +kernel⟩
theorem figL_len {L : Lad} {u k : Nat} (hd : L.dec ≤ 3) (hk : (k : Int) < mtop) : (figL (plain L u) L.dec k).length ≤ 28 := by
  have h1 := num_len' hk (Nat.le_refl k)
  have h2 := num_len' hk (Nat.div_le_self k (10 ^ L.dec))
  have h3 := padL_len L.dec k
  unfold figL
  split
  · omega
  · rw [List.length_append, List.length_cons]
    omega
theorem ok_partsOf (T : Txt K mg C) (D : Def K mg "parts_of" (top 34)) (c1 : Cal P w K mg base "mark_in" 2 ["ladder", "unit", "text"] (spMarkIn C)) : Cal P w K mg base "parts_of" 3 ["ladder", "text"] (spPartsOf C) := by
  refine D.cal sc34 (fun _ _ _ _ _ _ us hl => match us, hl with | [_, _], _ => rfl) (fun vs H Q E h => ?_) (fun f cdv A outer s H vs Q E hr h => ?_)
  · obtain ⟨p, L, u, k, rfl, _⟩ := h
    rfl
  · obtain ⟨p, L, u, k, rfl, LA, ok, nm, hu, hk, q⟩ := h
    obtain ⟨fs, PA, _⟩ := LA.pre
    obtain ⟨dx, hp⟩ := PA.ob
    obtain ⟨a, hs, rs, ha, hus⟩ := PA.units
    have hl := Paired.len hus
    have h3 := nm.short u hu
    have h3' : (tl (L.name u)).length ≤ 3 := by rw [← len_tl]; exact h3
    have h28 := figL_len (u := u) ok.dec3 hk
    refine ⟨_, pss_cons (ps_if (pt_not (pt_val (pe_callB call_isi (by rfl) T.isinstance_ (by decide +kernel) (pa_cons (pv 1) (pa_cons (pe_bltn (v := .ty "str") (by rfl) T.str_ (by decide +kernel) rfl) pa_nil))))) (pss_one (ps_ret pe_non)) pss_nil)
      (pss_cons (ps_set (i := 2) sc34.nd rfl (.inl rfl) (pe_bm PySem.F.plainAttrs_str PySem.F.slot_str_rstrip PySem.F.type_str_rstrip mt_rstripChars (pv 1) (pa_cons T.lets.pe pa_nil)))
      (pss_cons (ps_set (i := 3) sc34.nd rfl (.inl rfl) (pe_slice sl_str (pv 1) (po_some (pe_callB call_len_str (by rfl) T.len_ PySem.boot_len (pa_cons (pv 2) pa_nil))) po_none))
      (pss_cons (ps_for PassesOwn.never rfl (pi_enumT (by rfl) T.enumerate_ (pa_cons (pe_fld (pv 0) rfl) pa_nil))
        (pg_tup rfl (pgs_cons (pg_name (i := 4) sc34.nd rfl (.inl rfl)) (pgs_cons (pg_name (i := 5) sc34.nd rfl (.inl rfl)) pgs_nil)))
        (pss_one (ps_if (pt_cmpR op_eq (pe_ix ix_tup (pv 5) pe_int (fun _ _ => rfl)) (pv 3) (nomark _))
          (pss_cons (ps_set (i := 6) sc34.nd rfl (.inl rfl) (pcall c1 hr (pa_cons (pv 0) (pa_cons (pv 4) (pa_cons (pv 2) pa_nil)))))
          (pss_one (ps_ret (pe_ifExp (PW.pt (pw_or (pt_cmpR op_isN (pv 6) pe_non (nomark _)) (pw_or1 (pt_cmpR op_gt (pe_callB call_len_str (by rfl) T.len_ PySem.boot_len (pa_cons (pe_joined1 (pe_fmt (pv 6))) pa_nil)) T.mDigits.pe (nomark _))))) pe_non (pe_tup (pa_cons (pv 4) (pa_cons (pv 6) pa_nil))))))) pss_nil)))
      (pss_one (ps_ret pe_non))))), ?_⟩
    refine ⟨_, rfl, .str _, .ty "str", _, _, true, rfl, .ty _, .base (.str _), kit_ss, true, rfl, iteF ?_⟩
    have eF : ftxt L u k = S (figL (plain L u) L.dec k ++ tl (L.name u)) := by
      unfold ftxt
      rw [Int.toNat_natCast]
    have lenT : (ftxt L u k).length ≤ sizeLine := by
      rw [eF, len_S, List.length_append]
      exact sl63 (by omega)
    have eStrip : Txt.rstripChars (ftxt L u k) lets = S (figL (plain L u) L.dec k) := by
      obtain ⟨l, c, e, d1, d2⟩ := figL_last (plain L u) L.dec k (fun z => by
        unfold plain at z
        simp at z
        omega)
      rw [eF, e]
      exact rstrip_S (nm.letters u hu) (dig_let d1 d2)
    refine ⟨_, rfl, rfl, _, _, rfl, rfl, lenT, ?_⟩
    rw [eStrip]
    refine ⟨_, rfl, _, rfl, S (figL (plain L u) L.dec k), rfl, by rw [len_S]; exact sl63 (by omega), _, rfl, _, rfl, lenT, ?_⟩
    rw [eF, len_S, slice_from, S_tl]
    refine ⟨_, rfl, p, C, dx, fs, _, rfl, hp, T.cl, T.n1, hs, a, _, rfl, sT ha, for_it (walk_enumT (xs := rs.map V.ref)) (fun i σ H' => i ≤ u ∧ Same H H' ∧ ∃ y z m, σ = [some (.ref p), some (.str (S (figL (plain L u) L.dec k ++ tl (L.name u)))), some (.str (S (figL (plain L u) L.dec k))), some (.str (L.name u)), y, z, m]) ⟨Nat.zero_le _, Same.refl H, _, _, _, rfl⟩ (fun i σ H' _ z => sT (z.2.1 _ _ ha)) ?_ ?_⟩
    · rintro i x σ H1 H2 hi ⟨hiu, sm, y, z, m, rfl⟩ ⟨Tp, x1, x2, rfl, nT, rfl, e1, e2⟩
      have ex1 : V.int (i : Int) = x1 := Option.some.inj e1
      subst ex1
      obtain ⟨r, hri, rfl⟩ := mget (show (rs.map V.ref)[i]? = some x2 from e2)
      obtain ⟨un, hy1, hy2⟩ := Paired.get1 hus hri
      have hik : i < L.k := by omega
      have eun : un = (L.name i, L.size i) := Option.some.inj (hy1.symm.trans (us_at hik))
      subst eun
      have sm2 : Same H (upd H1 Tp (.tup [.int (i : Int), .ref r])) := sm.trans (same_upd nT)
      refine ⟨Tp, _, rfl, sT upd_same, rfl, .int (i : Int), _, rfl, .ref r, [], rfl, rfl, ?_⟩
      refine ⟨_, rfl, r, _, 0, .str (L.name i), rfl, rfl, sT (sm2 _ _ hy2), atI_nat (j := 0) rfl, _, rfl, rfl, _, rfl, ?_⟩
      by_cases hn : L.name i = L.name u
      · have eiu := nm.inj i u hik hu hn
        subst eiu
        refine iT (congrArg V.str hn) ?_
        refine ⟨_, rfl, _, rfl, _, rfl, p, L, i, k, (i : Int), rfl, rfl, LA.same sm2, ok.dec3, hk, fun H3 s3 => ?_⟩
        refine ⟨_, rfl, rfl, _, rfl, iF (fun e => nomatch e) ?_⟩
        refine ⟨_, rfl, .inr ⟨_, rfl, log_ok (by omega) hk, _, rfl, ?_, _, 24, rfl, rfl, _, rfl, iF ?_ ?_⟩⟩
        · rw [num_S, len_S]
          have := num_len' hk (Nat.le_refl k)
          exact sl63 (by omega)
        · rw [num_S, len_S]
          have := num_len' hk (Nat.le_refl k)
          omega
        · exact ⟨_, rfl, _, rfl, by show 2 ≤ sizeLine; decide, fun rr nr => q _ rr ((sm2.trans s3).trans (same_upd nr)) upd_same⟩
      · refine iF (fun e => hn (V.str.inj e)) ?_
        have hne : i ≠ u := fun e => hn (by rw [e])
        exact ⟨by omega, sm2, _, _, _, rfl⟩
    · rintro σ H1 ⟨hiu, _⟩
      rw [List.length_map] at hiu
      have : L.us.length = L.k := rfl
      omega
/-! ### check_figure -/
def spCkFig (C : Addr) : Sp := fun vs H Q _ => ∃ (p : Addr) (L : Lad) (u k : Nat), vs = [.ref p, .str (ftxt L u k)] ∧ LadAt C H p L ∧ L.Ok ∧ Nm L ∧ u < L.k ∧ (k : Int) < mtop ∧ ∀ H', Same H H' → Q .non H'
theorem sc35 : FnScope ["ladder", "value"] ["ladder", "value"] (defScope (top 35)) := ⟨rfl, rfl, rfl, by decide +kernel, rfl, by decide +kernel, by decide +kernel⟩
theorem ok_ckFig (D : Def K mg "check_figure" (top 35)) (c1 : Cal P w K mg base "parts_of" 3 ["ladder", "text"] (spPartsOf C)) : Cal P w K mg base "check_figure" 4 ["ladder", "value"] (spCkFig C) := by
  refine D.cal sc35 (fun _ _ _ _ _ _ us hl => match us, hl with | [_, _], _ => rfl) (fun vs H Q E h => ?_) (fun f cdv A outer s H vs Q E hr h => ?_)
  · obtain ⟨p, L, u, k, rfl, _⟩ := h
    rfl
  · obtain ⟨p, L, u, k, rfl, LA, ok, nm, hu, hk, q⟩ := h
    refine ⟨_, pss_one (ps_if (pt_cmpR op_isN (pcall c1 hr (pa_cons (pv 0) (pa_cons (pv 1) pa_nil))) pe_non (nomark _)) pss_never pss_nil), ?_⟩
    exact ⟨_, rfl, _, rfl, p, L, u, k, rfl, LA, ok, nm, hu, hk, fun H' r s' _ => ⟨rfl, _, rfl, iF (fun e => nomatch e) (q H' s')⟩⟩
/-! ### figure_of -/
/-- the figure of a number -/
def fig (L : Lad) (ok : L.Ok) (n : Int) : Str := ftxt L ((L.sys ok).unit n) (L.m ((L.sys ok).unit n) n)
def spFigOf (C : Addr) : Sp := fun vs H Q _ => ∃ (p : Addr) (L : Lad) (ok : L.Ok) (n : Int), vs = [.ref p, .int n] ∧ LadAt C H p L ∧ Nm L ∧ 0 ≤ n ∧ L.m ((L.sys ok).unit n) n < mtop ∧ ∀ H', Same H H' → Q (.str (fig L ok n)) H'
theorem sc36 : FnScope ["ladder", "number", "unit", "mark"] ["ladder", "number"] (defScope (top 36)) := ⟨rfl, rfl, rfl, by decide +kernel, rfl, by decide +kernel, by decide +kernel⟩
theorem ok_figOf (T : Txt K mg C) (D : Def K mg "figure_of" (top 36)) (c1 : MCal P w K mg base C "parts_for" 3 ["self", "number"] (spParts C)) (c2 : MCal P w K mg base C "text_of" 1 ["self", "unit", "mark"] (spText C)) : Cal P w K mg base "figure_of" 4 ["ladder", "number"] (spFigOf C) := by
  refine D.cal sc36 (fun _ _ _ _ _ _ us hl => match us, hl with | [_, _], _ => rfl) (fun vs H Q E h => ?_) (fun f cdv A outer s H vs Q E hr h => ?_)
  · obtain ⟨p, L, ok, n, rfl, _⟩ := h
    rfl
  · obtain ⟨p, L, ok, n, rfl, LA, nm, hn, hm, q⟩ := h
    obtain ⟨fs, PA, _⟩ := LA.pre
    obtain ⟨dx, hp⟩ := PA.ob
    have hu := (L.sys ok).unit_lt n
    have m0 := (ok.m_le hu hn).2
    refine ⟨_, pss_cons (ps_asg (pmeth T.cl c1 hr (pv 0) (pa_cons (pv 1) pa_nil)) (pg_tup rfl (pgs_cons (pg_name (i := 2) sc36.nd rfl (.inl rfl)) (pgs_cons (pg_name (i := 3) sc36.nd rfl (.inl rfl)) pgs_nil))))
      (pss_one (ps_ret (pmeth T.cl c2 hr (pv 0) (pa_cons (pv 2) (pa_cons (pv 3) pa_nil))))), ?_⟩
    refine ⟨_, rfl, p, dx, fs, rfl, hp, PA.nm _ (.tail _ (.tail _ (.tail _ (.head _)))), _, rfl, p, L, ok, n, rfl, LA, hn, fun H1 r s1 hr1 => ?_⟩
    refine ⟨r, _, rfl, sT hr1, rfl, _, _, rfl, _, [], rfl, rfl, ?_⟩
    exact ⟨_, rfl, p, dx, fs, rfl, s1 _ _ hp, PA.nm _ (.tail _ (.tail _ (.tail _ (.tail _ (.head _))))), _, rfl, _, rfl, p, L, _, _, _, rfl, rfl, LA.same s1, ok, nm, hu, m0, hm, q H1 s1⟩
/-! ### show -/
def spShow (C : Addr) : Sp := fun vs H Q _ => ∃ (p : Addr) (L : Lad) (ok : L.Ok) (n : Int), vs = [.ref p, .int n] ∧ LadAt C H p L ∧ Nm L ∧ 0 ≤ n ∧ n ≤ big ∧ ∀ H', Same H H' → Q (.str (fig L ok n)) H'
theorem sc37 : FnScope ["ladder", "number"] ["ladder", "number"] (defScope (top 37)) := ⟨rfl, rfl, rfl, by decide +kernel, rfl, by decide +kernel, by decide +kernel⟩
theorem ok_show (D : Def K mg "show" (top 37)) (c1 : Cal P w K mg base "check_ladder" 1 ["value"] (spCkLad C)) (c2 : Cal P w K mg base "check_number" 3 ["value"] spCkNumber) (c3 : Cal P w K mg base "figure_of" 4 ["ladder", "number"] (spFigOf C)) : Cal P w K mg base "show" 5 ["ladder", "number"] (spShow C) := by
  refine D.cal sc37 (fun _ _ _ _ _ _ us hl => match us, hl with | [_, _], _ => rfl) (fun vs H Q E h => ?_) (fun f cdv A outer s H vs Q E hr h => ?_)
  · obtain ⟨p, L, ok, n, rfl, _⟩ := h
    rfl
  · obtain ⟨p, L, ok, n, rfl, LA, nm, hn, hb, q⟩ := h
    have hu := (L.sys ok).unit_lt n
    have m1 := (ok.m_le hu hn).1
    refine ⟨_, pss_cons (ps_expr (pcall c1 hr (pa_cons (pv 0) pa_nil))) (pss_cons (ps_expr (pcall c2 hr (pa_cons (pv 1) pa_nil))) (pss_one (ps_ret (pcall c3 hr (pa_cons (pv 0) (pa_cons (pv 1) pa_nil)))))), ?_⟩
    exact ⟨_, rfl, p, L, rfl, LA, _, rfl, n, rfl, hn, hb, _, rfl, _, rfl, p, L, ok, n, rfl, LA, nm, hn, by have : n ≤ 1000000000000000000 := hb; show L.m _ n < 1000000000000000000000000; omega, q⟩
end
end SFW
end TWalkI

section TWalkJ
set_option Elab.async false
set_option linter.all false
set_option maxRecDepth 100000
set_option maxHeartbeats 4000000
/-! WalkJ: range_in .. place_of. -/
namespace SFW
open PySem PySem.Spec PyProof.Rows L2 SFK SF TL
section
variable {P : Program} {w : World} {K : PySem.W.Frag} {mg : Str → Option Value} {base : Heap} {C : Addr}
/-! ### range_in -/
/-- a shown figure, ready to be read -/
structure Fg (C : Addr) (H : Hp) (p : Addr) (L : Lad) (ok : L.Ok) (u k : Nat) : Prop where
  la : LadAt C H p L
  nm : Nm L
  sh : (L.sys ok).Shown u k
  kt : (k : Int) < mtop
theorem Fg.hu {C : Addr} {H : Hp} {p : Addr} {L : Lad} {ok : L.Ok} {u k : Nat} (g : Fg C H p L ok u k) : u < L.k := g.sh.1
theorem Fg.same {C : Addr} {H H' : Hp} {p : Addr} {L : Lad} {ok : L.Ok} {u k : Nat} (g : Fg C H p L ok u k) (s : Same H H') : Fg C H' p L ok u k := ⟨g.la.same s, g.nm, g.sh, g.kt⟩
def spRangeIn (C : Addr) : Sp := fun vs H Q _ => ∃ (p : Addr) (L : Lad) (ok : L.Ok) (u k : Nat), vs = [.ref p, .str (ftxt L u k)] ∧ Fg C H p L ok u k ∧
  ∀ H' r, Same H H' → H' r = some (.tup [.int ((L.sys ok).lo u k), .int ((L.sys ok).hi u k)]) → Q (.ref r) H'
abbrev n38 : List Str := ["ladder", "text", "unit", "mark", "low", "high"]
theorem sc38 : FnScope n38 ["ladder", "text"] (defScope (top 38)) := ⟨rfl, rfl, rfl, by decide +kernel, rfl, by decide +kernel, by decide +kernel⟩
theorem ok_rangeIn (T : Txt K mg C) (D : Def K mg "range_in" (top 38)) (c1 : Cal P w K mg base "parts_of" 3 ["ladder", "text"] (spPartsOf C)) (c2 : MCal P w K mg base C "first_for" 1 ["self", "unit", "mark"] (spFirst C))
    (c3 : MCal P w K mg base C "__len__" 1 ["self"] (spLen C)) : Cal P w K mg base "range_in" 4 ["ladder", "text"] (spRangeIn C) := by
  refine D.cal sc38 (fun _ _ _ _ _ _ us hl => match us, hl with | [_, _], _ => rfl) (fun vs H Q E h => ?_) (fun f cdv A outer s H vs Q E hr h => ?_)
  · obtain ⟨p, L, ok, u, k, rfl, _⟩ := h
    rfl
  · obtain ⟨p, L, ok, u, k, rfl, g, q⟩ := h
    have hu := g.hu
    obtain ⟨fs, PA, a, hs, ha⟩ := g.la.pre
    obtain ⟨dx, hp⟩ := PA.ob
    obtain ⟨fl, fdl, Fl, mtl, bl⟩ := c3.ex
    have h6 := ok.k6
    refine ⟨_, pss_cons (ps_asg (pcall c1 hr (pa_cons (pv 0) (pa_cons (pv 1) pa_nil))) (pg_tup rfl (pgs_cons (pg_name (i := 2) sc38.nd rfl (.inl rfl)) (pgs_cons (pg_name (i := 3) sc38.nd rfl (.inl rfl)) pgs_nil))))
      (pss_cons (ps_set (i := 4) sc38.nd rfl (.inl rfl) (pe_callB (call_max2 rfl) (by rfl) T.max_ (by decide +kernel) (pa_cons (pmeth T.cl c2 hr (pv 0) (pa_cons (pv 2) (pa_cons (pv 3) pa_nil))) (pa_cons (pe_ix ix_tup (pe_fld (pv 0) rfl) (pv 2) (fun _ _ => rfl)) pa_nil))))
      (pss_cons (ps_set (i := 5) sc38.nd rfl (.inl rfl) (pe_op op_sub (pmeth T.cl c2 hr (pv 0) (pa_cons (pv 2) (pa_cons (pe_op op_add (pv 3) pe_int) pa_nil))) pe_int))
      (pss_cons (ps_if (pt_cmpR op_lt (pe_op op_add (pv 2) pe_int) (pe_callB (call_lenOwn (n := 1) mtl.at_ mtl.fn (Fl.raw bl .nil) (hr.mono (by decide))) (by rfl) T.len_ PySem.boot_len (pa_cons (pv 0) pa_nil)) (nomark _))
          (pss_one (ps_set (i := 5) sc38.nd rfl (.inl rfl) (pe_callB (call_min2 rfl) (by rfl) T.min_ (by decide +kernel) (pa_cons (pv 5) (pa_cons (pe_op op_sub (pe_ix ix_tup (pe_fld (pv 0) rfl) (pe_op op_add (pv 2) pe_int) (fun _ _ => rfl)) pe_int) pa_nil))))) pss_nil)
      (pss_one (ps_ret (pe_ifExp (pt_cmpR op_le (pv 4) (pv 5) (nomark _)) (pe_tup (pa_cons (pv 4) (pa_cons (pv 5) pa_nil))) pe_non)))))), ?_⟩
    refine ⟨_, rfl, _, rfl, p, L, u, k, rfl, g.la, ok, g.nm, hu, g.kt, fun H1 r s1 hr1 => ?_⟩
    refine ⟨r, _, rfl, sT hr1, rfl, _, _, rfl, _, [], rfl, rfl, ?_⟩
    have PA1 := PA.same s1
    have hp1 := s1 _ _ hp
    have ha1 := s1 _ _ ha
    refine ⟨_, rfl, p, dx, fs, rfl, hp1, PA.nm _ (.head _), _, rfl, _, rfl, p, L, fs, u, _, _, rfl, rfl, PA1, ok, hu, by omega, ?_⟩
    refine ⟨_, rfl, p, C, dx, fs, _, rfl, hp1, T.cl, T.n9, hs, _, rfl, a, _, _, _, rfl, rfl, sT ha1, starts_at rfl hu, _, _, rfl, ?_⟩
    refine ⟨_, rfl, p, dx, fs, rfl, hp1, PA.nm _ (.head _), _, rfl, _, rfl, _, 1, rfl, rfl, p, L, fs, u, _, _, rfl, rfl, PA1, ok, hu, by omega, _, 1, rfl, rfl, ?_⟩
    refine ⟨_, rfl, _, 1, rfl, rfl, _, rfl, p, dx, fs, rfl, hp1, p, L, fs, rfl, PA1, _, rfl, by omega, by omega, _, _, rfl, rfl, _, rfl, ?_⟩
    have fin : ∀ h : Int, h = (L.sys ok).hi u k → tIf (tTest (tOp (rI0 fun i j => .bl (decide (i ≤ j))) (tVar 4) (tVar 5))) (tTup (tCons (tVar 4) (tCons (tVar 5) tNil))) (tC .non) [some (.ref p), some (.str (ftxt L u k)), some (.int (u : Int)), some (.int (k : Int)), some (.int ((L.sys ok).lo u k)), some (.int h)] H1 Q := fun h e => by
      refine ⟨_, rfl, _, rfl, _, _, rfl, rfl, _, rfl, iT (by rw [e]; exact g.sh.2) ?_⟩
      refine ⟨_, rfl, _, rfl, by show 2 ≤ sizeLine; decide, fun z nz => q _ z (s1.trans (same_upd nz)) ?_⟩
      rw [upd_same, e]
    by_cases hc : u + 1 < L.k
    · refine iT (by omega) ⟨_, rfl, _, rfl, p, C, dx, fs, _, rfl, hp1, T.cl, T.n9, hs, _, rfl, _, 1, rfl, rfl, a, _, _, _, rfl, rfl, sT ha1, starts_at (u := u + 1) (by omega) hc, _, 1, rfl, rfl, _, _, rfl, ?_⟩
      refine fin _ ?_
      show _ = (if u + 1 < L.k then _ else _)
      rw [if_pos hc]
      rfl
    · refine iF (by omega) (fin _ ?_)
      show _ = (if u + 1 < L.k then _ else _)
      rw [if_neg hc]
      rfl
/-! ### range_of, shown_range -/
theorem sc41 : FnScope ["ladder", "text"] ["ladder", "text"] (defScope (top 41)) := ⟨rfl, rfl, rfl, by decide +kernel, rfl, by decide +kernel, by decide +kernel⟩
theorem ok_rangeOf (D : Def K mg "range_of" (top 41)) (c1 : Cal P w K mg base "check_ladder" 1 ["value"] (spCkLad C)) (c2 : Cal P w K mg base "check_figure" 4 ["ladder", "value"] (spCkFig C)) (c3 : Cal P w K mg base "range_in" 4 ["ladder", "text"] (spRangeIn C)) :
    Cal P w K mg base "range_of" 5 ["ladder", "text"] (spRangeIn C) := by
  refine D.cal sc41 (fun _ _ _ _ _ _ us hl => match us, hl with | [_, _], _ => rfl) (fun vs H Q E h => ?_) (fun f cdv A outer s H vs Q E hr h => ?_)
  · obtain ⟨p, L, ok, u, k, rfl, _⟩ := h
    rfl
  · obtain ⟨p, L, ok, u, k, rfl, g, q⟩ := h
    refine ⟨_, pss_cons (ps_expr (pcall c1 hr (pa_cons (pv 0) pa_nil))) (pss_cons (ps_expr (pcall c2 hr (pa_cons (pv 0) (pa_cons (pv 1) pa_nil)))) (pss_one (ps_ret (pcall c3 hr (pa_cons (pv 0) (pa_cons (pv 1) pa_nil)))))), ?_⟩
    exact ⟨_, rfl, p, L, rfl, g.la, _, rfl, _, rfl, p, L, u, k, rfl, g.la, ok, g.nm, g.hu, g.kt, fun H1 s1 => ⟨_, rfl, _, rfl, p, L, ok, u, k, rfl, g.same s1, fun H' r s' hr' => q H' r (s1.trans s') hr'⟩⟩
theorem sc42 : FnScope ["ladder", "text", "found"] ["ladder", "text"] (defScope (top 42)) := ⟨rfl, rfl, rfl, by decide +kernel, rfl, by decide +kernel, by decide +kernel⟩
theorem ok_shownRange (D : Def K mg "shown_range" (top 42)) (c1 : Cal P w K mg base "range_of" 5 ["ladder", "text"] (spRangeIn C)) : Cal P w K mg base "shown_range" 6 ["ladder", "text"] (spRangeIn C) := by
  refine D.cal sc42 (fun _ _ _ _ _ _ us hl => match us, hl with | [_, _], _ => rfl) (fun vs H Q E h => ?_) (fun f cdv A outer s H vs Q E hr h => ?_)
  · obtain ⟨p, L, ok, u, k, rfl, _⟩ := h
    rfl
  · obtain ⟨p, L, ok, u, k, rfl, g, q⟩ := h
    refine ⟨_, pss_cons (ps_set (i := 2) sc42.nd rfl (.inl rfl) (pcall c1 hr (pa_cons (pv 0) (pa_cons (pv 1) pa_nil)))) (pss_cons (ps_if (pt_cmpR op_isN (pv 2) pe_non (nomark _)) pss_never pss_nil) (pss_one (ps_ret (pv 2)))), ?_⟩
    exact ⟨_, rfl, _, rfl, p, L, ok, u, k, rfl, g, fun H' r s' hr' => ⟨_, rfl, rfl, _, rfl, iF (fun e => nomatch e) ⟨_, rfl, q H' r s' hr'⟩⟩⟩
/-! ### next_figure -/
def spNext (C : Addr) : Sp := fun vs H Q _ => ∃ (p : Addr) (L : Lad) (ok : L.Ok) (u k : Nat), vs = [.ref p, .str (ftxt L u k)] ∧ Fg C H p L ok u k ∧ L.m ((L.sys ok).unit ((L.sys ok).hi u k + 1)) ((L.sys ok).hi u k + 1) < mtop ∧
  ∀ H', Same H H' → Q (.str (fig L ok ((L.sys ok).hi u k + 1))) H'
theorem sc43 : FnScope ["ladder", "text"] ["ladder", "text"] (defScope (top 43)) := ⟨rfl, rfl, rfl, by decide +kernel, rfl, by decide +kernel, by decide +kernel⟩
theorem ok_next (D : Def K mg "next_figure" (top 43)) (c1 : Cal P w K mg base "figure_of" 4 ["ladder", "number"] (spFigOf C)) (c2 : Cal P w K mg base "shown_range" 6 ["ladder", "text"] (spRangeIn C)) : Cal P w K mg base "next_figure" 7 ["ladder", "text"] (spNext C) := by
  refine D.cal sc43 (fun _ _ _ _ _ _ us hl => match us, hl with | [_, _], _ => rfl) (fun vs H Q E h => ?_) (fun f cdv A outer s H vs Q E hr h => ?_)
  · obtain ⟨p, L, ok, u, k, rfl, _⟩ := h
    rfl
  · obtain ⟨p, L, ok, u, k, rfl, g, hm, q⟩ := h
    refine ⟨_, pss_one (ps_ret (pcall c1 hr (pa_cons (pv 0) (pa_cons (pe_op op_add (pe_ix ix_tup (pcall c2 hr (pa_cons (pv 0) (pa_cons (pv 1) pa_nil))) pe_int (fun _ _ => rfl)) pe_int) pa_nil)))), ?_⟩
    refine ⟨_, rfl, _, rfl, _, rfl, p, L, ok, u, k, rfl, g, fun H1 r s1 hr1 => ?_⟩
    have h0 := (L.sys ok).lo_nonneg (x := k) g.hu
    have h1 := g.sh.2
    exact ⟨r, _, 1, _, rfl, rfl, sT hr1, atI_nat (j := 1) rfl, _, 1, rfl, rfl, p, L, ok, _, rfl, g.la.same s1, g.nm, by omega, hm, fun H' s' => q H' (s1.trans s')⟩
/-! ### last_mark, figures_before -/
def spLast (C : Addr) : Sp := fun vs H Q _ => ∃ (p : Addr) (L : Lad) (ok : L.Ok) (u : Nat) (i : Int), vs = [.ref p, .int i] ∧ i = (u : Int) ∧ LadAt C H p L ∧ u + 1 < L.k ∧ Q (.int (L.m u (L.start (u + 1) - 1))) H
theorem sc44 : FnScope ["ladder", "unit"] ["ladder", "unit"] (defScope (top 44)) := ⟨rfl, rfl, rfl, by decide +kernel, rfl, by decide +kernel, by decide +kernel⟩
theorem ok_last (T : Txt K mg C) (D : Def K mg "last_mark" (top 44)) (c1 : MCal P w K mg base C "mark_for" 2 ["self", "unit", "number"] (spMark C)) : Cal P w K mg base "last_mark" 3 ["ladder", "unit"] (spLast C) := by
  refine D.cal sc44 (fun _ _ _ _ _ _ us hl => match us, hl with | [_, _], _ => rfl) (fun vs H Q E h => ?_) (fun f cdv A outer s H vs Q E hr h => ?_)
  · obtain ⟨p, L, ok, u, i, rfl, _⟩ := h
    rfl
  · obtain ⟨p, L, ok, u, i, rfl, ei, LA, hu, q⟩ := h
    obtain ⟨fs, PA, a, hs, ha⟩ := LA.pre
    obtain ⟨dx, hp⟩ := PA.ob
    have h1 := ok.start_up u hu
    have h2 := (ok.start_top (show u < L.k by omega)).1
    refine ⟨_, pss_one (ps_ret (pmeth T.cl c1 hr (pv 0) (pa_cons (pv 1) (pa_cons (pe_op op_sub (pe_ix ix_tup (pe_fld (pv 0) rfl) (pe_op op_add (pv 1) pe_int) (fun _ _ => rfl)) pe_int) pa_nil)))), ?_⟩
    refine ⟨_, rfl, p, dx, fs, rfl, hp, PA.nm _ (.tail _ (.tail _ (.head _))), _, rfl, _, rfl, p, C, dx, fs, _, rfl, hp, T.cl, T.n9, hs, _, rfl, _, 1, rfl, rfl, a, _, _, _, rfl, rfl, sT ha, starts_at (u := u + 1) (by omega) hu, _, 1, rfl, rfl, ?_⟩
    exact ⟨p, L, fs, u, _, _, rfl, ei, PA, ok, by omega, by omega, q⟩
def spBefore (C : Addr) : Sp := fun vs H Q _ => ∃ (p : Addr) (L : Lad) (ok : L.Ok) (u : Nat) (i : Int), vs = [.ref p, .int i] ∧ i = (u : Int) ∧ LadAt C H p L ∧ u < L.k ∧ Q (.int ((L.sys ok).bf u)) H
theorem sc45 : FnScope ["ladder", "unit", "found", "smaller"] ["ladder", "unit"] (defScope (top 45)) := ⟨rfl, rfl, rfl, by decide +kernel, rfl, by decide +kernel, by decide +kernel⟩
theorem ok_before (T : Txt K mg C) (D : Def K mg "figures_before" (top 45)) (c1 : MCal P w K mg base C "mark_for" 2 ["self", "unit", "number"] (spMark C)) (c2 : Cal P w K mg base "last_mark" 3 ["ladder", "unit"] (spLast C)) : Cal P w K mg base "figures_before" 4 ["ladder", "unit"] (spBefore C) := by
  refine D.cal sc45 (fun _ _ _ _ _ _ us hl => match us, hl with | [_, _], _ => rfl) (fun vs H Q E h => ?_) (fun f cdv A outer s H vs Q E hr h => ?_)
  · obtain ⟨p, L, ok, u, i, rfl, _⟩ := h
    rfl
  · obtain ⟨p, L, ok, u, i, rfl, ei, LA, hu, q⟩ := h
    obtain ⟨fs, PA, a, hs, ha⟩ := LA.pre
    obtain ⟨dx, hp⟩ := PA.ob
    have h6 := ok.k6
    refine ⟨_, pss_cons (ps_set (i := 2) sc45.nd rfl (.inl rfl) pe_int)
      (pss_cons (ps_for PassesOwn.never rfl (pi_range1 (by rfl) T.range_ (pa_cons (pv 1) pa_nil)) (pg_name (i := 3) sc45.nd rfl (Or.inl rfl))
        (pss_one (ps_if (pt_cmpR op_lt (pe_ix ix_tup (pe_fld (pv 0) rfl) (pv 3) (fun _ _ => rfl)) (pe_ix ix_tup (pe_fld (pv 0) rfl) (pe_op op_add (pv 3) pe_int) (fun _ _ => rfl)) (nomark _))
          (pss_one (ps_aug (i := 2) sc45.nd rfl (.inl rfl) (pe_op op_add (pe_op op_sub (pcall c2 hr (pa_cons (pv 0) (pa_cons (pv 3) pa_nil))) (pmeth T.cl c1 hr (pv 0) (pa_cons (pv 3) (pa_cons (pe_ix ix_tup (pe_fld (pv 0) rfl) (pv 3) (fun _ _ => rfl)) pa_nil)))) pe_int) ip_add)) pss_nil)))
      (pss_one (ps_ret (pv 2)))), ?_⟩
    refine ⟨_, rfl, i, rfl, by omega, by omega, ?_⟩
    rw [show i.toNat = u by omega]
    refine for_it (walk_range (lo := 0) (n := u)) (fun j σ H' => H' = H ∧ ∃ y, σ = [some (.ref p), some (.int i), some (.int ((L.sys ok).bf j)), y]) ⟨rfl, none, rfl⟩ (fun _ _ _ _ _ => trivial) ?_ ?_
    · rintro j x σ H1 H2 hj ⟨rfl, y, rfl⟩ ⟨rfl, rfl⟩
      have h1 := ok.start_up j (by omega)
      have h2 := (ok.start_top (show j < L.k by omega)).1
      refine ⟨_, rfl, p, C, dx, fs, _, rfl, hp, T.cl, T.n9, hs, _, rfl, a, _, _, _, rfl, rfl, sT ha, starts_at (u := j) (by omega) (by omega), ?_⟩
      refine ⟨_, rfl, p, C, dx, fs, _, rfl, hp, T.cl, T.n9, hs, _, rfl, _, 1, rfl, rfl, a, _, _, _, rfl, rfl, sT ha, starts_at (u := j + 1) (by omega) (by omega), _, _, rfl, rfl, _, rfl, iT h1 ?_⟩
      refine ⟨_, rfl, _, rfl, _, rfl, p, L, ok, j, _, rfl, by omega, LA, by omega, ?_⟩
      refine ⟨_, rfl, p, dx, fs, rfl, hp, PA.nm _ (.tail _ (.tail _ (.head _))), _, rfl, _, rfl, p, C, dx, fs, _, rfl, hp, T.cl, T.n9, hs, _, rfl, a, _, _, _, rfl, rfl, sT ha, starts_at (u := j) (by omega) (by omega), ?_⟩
      refine ⟨p, L, fs, j, _, _, rfl, by omega, PA, ok, by omega, h2, _, _, rfl, rfl, _, 1, rfl, rfl, _, _, rfl, rfl, rfl, some (V.int (0 + (j : Int))), ?_⟩
      show [some (V.ref p), some (V.int i), some (V.int ((L.sys ok).bf j + (L.m j (L.start (j + 1) - 1) - L.m j (L.start j) + 1))), some (V.int (0 + (j : Int)))] = _
      rw [(L.sys ok).bf_succ (show j + 1 < L.k by omega)]
      rfl
    · rintro σ H1 ⟨rfl, y, rfl⟩
      exact ⟨_, rfl, q⟩
/-! ### place_of_parts, place_for -/
def spPlaceP (C : Addr) : Sp := fun vs H Q _ => ∃ (p : Addr) (L : Lad) (ok : L.Ok) (u : Nat) (m : Int), vs = [.ref p, .int u, .int m] ∧ LadAt C H p L ∧ u < L.k ∧ Q (.int ((L.sys ok).plp u m)) H
theorem sc46 : FnScope ["ladder", "unit", "mark"] ["ladder", "unit", "mark"] (defScope (top 46)) := ⟨rfl, rfl, rfl, by decide +kernel, rfl, by decide +kernel, by decide +kernel⟩
theorem ok_placeP (T : Txt K mg C) (D : Def K mg "place_of_parts" (top 46)) (c1 : MCal P w K mg base C "mark_for" 2 ["self", "unit", "number"] (spMark C)) (c2 : Cal P w K mg base "figures_before" 4 ["ladder", "unit"] (spBefore C)) : Cal P w K mg base "place_of_parts" 5 ["ladder", "unit", "mark"] (spPlaceP C) := by
  refine D.cal sc46 (fun _ _ _ _ _ _ us hl => match us, hl with | [_, _, _], _ => rfl) (fun vs H Q E h => ?_) (fun f cdv A outer s H vs Q E hr h => ?_)
  · obtain ⟨p, L, ok, u, m, rfl, _⟩ := h
    rfl
  · obtain ⟨p, L, ok, u, m, rfl, LA, hu, q⟩ := h
    obtain ⟨fs, PA, a, hs, ha⟩ := LA.pre
    obtain ⟨dx, hp⟩ := PA.ob
    have h2 := (ok.start_top hu).1
    refine ⟨_, pss_one (ps_ret (pe_op op_sub (pe_op op_add (pcall c2 hr (pa_cons (pv 0) (pa_cons (pv 1) pa_nil))) (pv 2)) (pmeth T.cl c1 hr (pv 0) (pa_cons (pv 1) (pa_cons (pe_ix ix_tup (pe_fld (pv 0) rfl) (pv 1) (fun _ _ => rfl)) pa_nil))))), ?_⟩
    refine ⟨_, rfl, _, rfl, p, L, ok, u, _, rfl, rfl, LA, hu, _, rfl, _, _, rfl, rfl, ?_⟩
    refine ⟨_, rfl, p, dx, fs, rfl, hp, PA.nm _ (.tail _ (.tail _ (.head _))), _, rfl, _, rfl, p, C, dx, fs, _, rfl, hp, T.cl, T.n9, hs, _, rfl, a, _, _, _, rfl, rfl, sT ha, starts_at (u := u) rfl hu, ?_⟩
    exact ⟨p, L, fs, u, _, _, rfl, rfl, PA, ok, hu, h2, _, _, rfl, rfl, q⟩
def spPlaceF (C : Addr) : Sp := fun vs H Q _ => ∃ (p : Addr) (L : Lad) (ok : L.Ok) (n : Int), vs = [.ref p, .int n] ∧ LadAt C H p L ∧ 0 ≤ n ∧ ∀ H', Same H H' → Q (.int ((L.sys ok).pl n)) H'
theorem sc47 : FnScope ["ladder", "number", "unit", "mark"] ["ladder", "number"] (defScope (top 47)) := ⟨rfl, rfl, rfl, by decide +kernel, rfl, by decide +kernel, by decide +kernel⟩
theorem ok_placeF (T : Txt K mg C) (D : Def K mg "place_for" (top 47)) (c1 : MCal P w K mg base C "parts_for" 3 ["self", "number"] (spParts C)) (c2 : Cal P w K mg base "place_of_parts" 5 ["ladder", "unit", "mark"] (spPlaceP C)) : Cal P w K mg base "place_for" 6 ["ladder", "number"] (spPlaceF C) := by
  refine D.cal sc47 (fun _ _ _ _ _ _ us hl => match us, hl with | [_, _], _ => rfl) (fun vs H Q E h => ?_) (fun f cdv A outer s H vs Q E hr h => ?_)
  · obtain ⟨p, L, ok, n, rfl, _⟩ := h
    rfl
  · obtain ⟨p, L, ok, n, rfl, LA, hn, q⟩ := h
    obtain ⟨fs, PA, a, hs, ha⟩ := LA.pre
    obtain ⟨dx, hp⟩ := PA.ob
    refine ⟨_, pss_cons (ps_asg (pmeth T.cl c1 hr (pv 0) (pa_cons (pv 1) pa_nil)) (pg_tup rfl (pgs_cons (pg_name (i := 2) sc47.nd rfl (.inl rfl)) (pgs_cons (pg_name (i := 3) sc47.nd rfl (.inl rfl)) pgs_nil))))
      (pss_one (ps_ret (pcall c2 hr (pa_cons (pv 0) (pa_cons (pv 2) (pa_cons (pv 3) pa_nil)))))), ?_⟩
    refine ⟨_, rfl, p, dx, fs, rfl, hp, PA.nm _ (.tail _ (.tail _ (.tail _ (.head _)))), _, rfl, p, L, ok, n, rfl, LA, hn, fun H1 r s1 hr1 => ?_⟩
    exact ⟨r, _, rfl, sT hr1, rfl, _, _, rfl, _, [], rfl, rfl, _, rfl, _, rfl, _, rfl, p, L, ok, _, _, rfl, LA.same s1, (L.sys ok).unit_lt n, q H1 s1⟩
/-! ### check_bounds, forms -/
def spBounds : Sp := fun vs H Q _ => ∃ a b : Int, vs = [.int a, .int b] ∧ 0 ≤ a ∧ a ≤ b ∧ b ≤ big ∧ Q .non H
theorem sc48 : FnScope ["low", "high"] ["low", "high"] (defScope (top 48)) := ⟨rfl, rfl, rfl, by decide +kernel, rfl, by decide +kernel, by decide +kernel⟩
theorem ok_bounds (D : Def K mg "check_bounds" (top 48)) (c1 : Cal P w K mg base "check_number" 3 ["value"] spCkNumber) : Cal P w K mg base "check_bounds" 4 ["low", "high"] spBounds := by
  refine D.cal sc48 (fun _ _ _ _ _ _ us hl => match us, hl with | [_, _], _ => rfl) (fun vs H Q E h => ?_) (fun f cdv A outer s H vs Q E hr h => ?_)
  · obtain ⟨a, b, rfl, _⟩ := h
    rfl
  · obtain ⟨a, b, rfl, h0, h1, h2, q⟩ := h
    refine ⟨_, pss_cons (ps_expr (pcall c1 hr (pa_cons (pv 0) pa_nil))) (pss_cons (ps_expr (pcall c1 hr (pa_cons (pv 1) pa_nil))) (pss_one (ps_if (pt_cmpR op_lt (pv 1) (pv 0) (nomark _)) pss_never pss_nil))), ?_⟩
    exact ⟨_, rfl, a, rfl, h0, by omega, _, rfl, b, rfl, by omega, h2, _, rfl, _, rfl, _, _, rfl, rfl, _, rfl, iF (by omega) q⟩
def spForms (C : Addr) : Sp := fun vs H Q _ => ∃ (p : Addr) (L : Lad) (ok : L.Ok) (a b : Int), vs = [.ref p, .int a, .int b] ∧ LadAt C H p L ∧ 0 ≤ a ∧ a ≤ b ∧ b ≤ big ∧ ∀ H', Same H H' → Q (.int ((L.sys ok).pl b - (L.sys ok).pl a + 1)) H'
theorem sc49 : FnScope ["ladder", "low", "high"] ["ladder", "low", "high"] (defScope (top 49)) := ⟨rfl, rfl, rfl, by decide +kernel, rfl, by decide +kernel, by decide +kernel⟩
theorem ok_forms (D : Def K mg "forms" (top 49)) (c1 : Cal P w K mg base "check_ladder" 1 ["value"] (spCkLad C)) (c2 : Cal P w K mg base "check_bounds" 4 ["low", "high"] spBounds) (c3 : Cal P w K mg base "place_for" 6 ["ladder", "number"] (spPlaceF C)) : Cal P w K mg base "forms" 7 ["ladder", "low", "high"] (spForms C) := by
  refine D.cal sc49 (fun _ _ _ _ _ _ us hl => match us, hl with | [_, _, _], _ => rfl) (fun vs H Q E h => ?_) (fun f cdv A outer s H vs Q E hr h => ?_)
  · obtain ⟨p, L, ok, a, b, rfl, _⟩ := h
    rfl
  · obtain ⟨p, L, ok, a, b, rfl, LA, h0, h1, h2, q⟩ := h
    refine ⟨_, pss_cons (ps_expr (pcall c1 hr (pa_cons (pv 0) pa_nil))) (pss_cons (ps_expr (pcall c2 hr (pa_cons (pv 1) (pa_cons (pv 2) pa_nil))))
      (pss_one (ps_ret (pe_op op_add (pe_op op_sub (pcall c3 hr (pa_cons (pv 0) (pa_cons (pv 2) pa_nil))) (pcall c3 hr (pa_cons (pv 0) (pa_cons (pv 1) pa_nil)))) pe_int)))), ?_⟩
    exact ⟨_, rfl, p, L, rfl, LA, _, rfl, _, rfl, a, b, rfl, h0, h1, h2, _, rfl, _, rfl, p, L, ok, b, rfl, LA, by omega, fun H1 s1 => ⟨_, rfl, _, rfl, p, L, ok, a, rfl, LA.same s1, h0, fun H2 s2 => ⟨_, _, rfl, rfl, _, 1, rfl, rfl, q H2 (s1.trans s2)⟩⟩⟩
/-! ### figure_at -/
def spFigAt (C : Addr) : Sp := fun vs H Q _ => ∃ (p : Addr) (L : Lad) (ok : L.Ok) (n : Int), vs = [.ref p, .int n] ∧ LadAt C H p L ∧ Nm L ∧ 0 ≤ n ∧ n ≤ 1000000 ∧
  ∀ (u : Nat) (H' : Hp), (L.sys ok).IsP n u → Same H H' → Q (.str (ftxt L u (n - (L.sys ok).bf u + L.m u (L.start u)))) H'
abbrev n50 : List Str := ["ladder", "place", "unit", "other"]
theorem sc50 : FnScope n50 ["ladder", "place"] (defScope (top 50)) := ⟨rfl, rfl, rfl, by decide +kernel, rfl, by decide +kernel, by decide +kernel⟩
theorem isP_ex {S : Sys} {n : Int} (hn : 0 ≤ n) : ∃ u, S.IsP n u := by
  have key : ∀ j, j < S.k → ∃ u, u ≤ j ∧ S.bf u ≤ n ∧ ∀ v, v ≤ j → S.bf v ≤ n → v ≤ u := by
    intro j
    induction j with
    | zero => exact fun _ => ⟨0, Nat.le_refl _, hn, fun v hv _ => hv⟩
    | succ j ih =>
      intro hj
      obtain ⟨u, h1, h2, h3⟩ := ih (by omega)
      by_cases hc : S.bf (j + 1) ≤ n
      · exact ⟨j + 1, Nat.le_refl _, hc, fun v hv _ => hv⟩
      · refine ⟨u, by omega, h2, fun v hv hb => ?_⟩
        rcases Nat.lt_or_ge v (j + 1) with q | q
        · exact h3 v (by omega) hb
        · exact absurd (show S.bf (j + 1) ≤ n by rw [show j + 1 = v by omega]; exact hb) hc
  have hk := S.k1
  obtain ⟨u, h1, h2, h3⟩ := key (S.k - 1) (by omega)
  exact ⟨u, by omega, h2, fun v hv hb => h3 v (by omega) hb⟩
theorem ok_figAt (T : Txt K mg C) (D : Def K mg "figure_at" (top 50)) (c1 : Cal P w K mg base "check_ladder" 1 ["value"] (spCkLad C)) (c2 : Cal P w K mg base "is_integer" 1 ["value"] spInteger) (c3 : Cal P w K mg base "figures_before" 4 ["ladder", "unit"] (spBefore C))
    (c4 : MCal P w K mg base C "mark_for" 2 ["self", "unit", "number"] (spMark C)) (c5 : MCal P w K mg base C "text_of" 1 ["self", "unit", "mark"] (spText C)) (c6 : MCal P w K mg base C "__len__" 1 ["self"] (spLen C)) : Cal P w K mg base "figure_at" 5 ["ladder", "place"] (spFigAt C) := by
  refine D.cal sc50 (fun _ _ _ _ _ _ us hl => match us, hl with | [_, _], _ => rfl) (fun vs H Q E h => ?_) (fun f cdv A outer s H vs Q E hr h => ?_)
  · obtain ⟨p, L, ok, n, rfl, _⟩ := h
    rfl
  · obtain ⟨p, L, ok, n, rfl, LA, nm, hn, hn2, q⟩ := h
    obtain ⟨fs, PA, a, hs, ha⟩ := LA.pre
    obtain ⟨dx, hp⟩ := PA.ob
    obtain ⟨fl, fdl, Fl, mtl, bl⟩ := c6.ex
    have h6 := ok.k6
    refine ⟨_, pss_cons (ps_expr (pcall c1 hr (pa_cons (pv 0) pa_nil)))
      (pss_cons (ps_if (PW.pt (pw_or (pt_not (pt_val (pcall c2 hr (pa_cons (pv 1) pa_nil)))) (pw_or1 (pt_not (pt_chain op_le op_le pe_int (pv 1) T.mPlace.pe))))) pss_never pss_nil)
      (pss_cons (ps_set (i := 2) sc50.nd rfl (.inl rfl) (pe_callB (cr_max rfl) (by rfl) T.max_ (by decide +kernel) (pa_cons
        (pe_lc (own := [("other", 3)]) (g := gName 3) rfl sc50.nd (pi_range1 (by rfl) T.range_ (pa_cons (pe_callB (call_lenOwn (n := 1) mtl.at_ mtl.fn (Fl.raw bl .nil) (hr.mono (by decide))) (by rfl) T.len_ PySem.boot_len (pa_cons (pv 0) pa_nil)) pa_nil)) (blkOk_by (own := [("other", 3)]) (N := n50) (sc := defScope (top 50)) (by decide +kernel))
            (fun _ _ _ _ _ => pg_name (i := 3) sc50.nd rfl (Or.inl rfl)) (fun _ _ _ _ _ => pts_one (pt_cmpR op_le (pcall c3 hr (pa_cons (pv 0) (pa_cons (pv 3) pa_nil))) (pv 1) (nomark _))) (fun _ _ _ _ _ => pv 3)) pa_nil)))
      (pss_one (ps_ret (pmeth T.cl c5 hr (pv 0) (pa_cons (pv 2) (pa_cons (pe_op op_add (pe_op op_sub (pv 1) (pcall c3 hr (pa_cons (pv 0) (pa_cons (pv 2) pa_nil)))) (pmeth T.cl c4 hr (pv 0) (pa_cons (pv 2) (pa_cons (pe_ix ix_tup (pe_fld (pv 0) rfl) (pv 2) (fun _ _ => rfl)) pa_nil)))) pa_nil))))))), ?_⟩
    refine ⟨_, rfl, p, L, rfl, LA, _, rfl, n, rfl, true, rfl, iteF ⟨_, rfl, 0, n, rfl, rfl, _, rfl, iT hn ⟨n, 1000000000, rfl, rfl, _, rfl, ?_⟩⟩⟩
    rw [decide_eq_true (show n ≤ 1000000000 by omega)]
    refine iteF ?_
    refine ⟨_, rfl, p, dx, fs, rfl, hp, p, L, fs, rfl, PA, _, rfl, by omega, by omega, _, rfl, by omega, by omega, fun Dl hD => ?_⟩
    rw [Int.toNat_natCast]
    refine lc_it (walk_range (lo := 0) (n := L.k)) (fun i H' => Same H H' ∧ H' Dl = some (.lst (((List.range i).filter fun u => decide ((L.sys ok).bf u ≤ n)).map fun (u : Nat) => V.int (u : Int)))) ⟨same_upd hD, upd_same⟩ (fun _ _ _ _ => trivial) ?_ ?_
    · rintro i x H1 H2 hi ⟨sm, hL⟩ ⟨rfl, rfl⟩
      have hr1 : List.range (i + 1) = List.range i ++ [i] := List.range_succ
      refine ⟨rfl, _, rfl, _, rfl, p, L, ok, i, _, rfl, by omega, LA.same sm, hi, _, rfl, _, _, rfl, rfl, _, rfl, ?_⟩
      by_cases hc : (L.sys ok).bf i ≤ n
      · refine iT hc ⟨_, rfl, _, hL, ?_, fun b o e => ?_, ?_⟩
        · rw [List.length_map]
          refine small1000 (Nat.le_trans (List.length_filter_le _ _) ?_)
          rw [List.length_range]
          omega
        · rw [upd_ne (ne_of_none e hD)]
          exact sm _ _ e
        · rw [upd_same, hr1, List.filter_append, List.map_append]
          simp only [List.filter_cons, decide_eq_true hc, if_true, List.filter_nil, List.map_cons, List.map_nil, Int.zero_add]
      · refine iF hc ⟨sm, ?_⟩
        rw [hL, hr1, List.filter_append]
        simp only [List.filter_cons, decide_eq_false hc, Bool.false_eq_true, if_false, List.filter_nil, List.append_nil]
    · rintro H1 ⟨sm, hL⟩
      have e3 : (((List.range L.k).filter fun u => decide ((L.sys ok).bf u ≤ n)).map fun (u : Nat) => V.int (u : Int)) = (((List.range L.k).filter fun u => decide ((L.sys ok).bf u ≤ n)).map fun (u : Nat) => (u : Int)).map V.int := by
        rw [List.map_map]
        rfl
      rw [e3] at hL
      obtain ⟨U, iu⟩ := isP_ex (S := L.sys ok) hn
      have memU : (U : Int) ∈ ((List.range L.k).filter fun u => decide ((L.sys ok).bf u ≤ n)).map fun (u : Nat) => (u : Int) :=
        List.mem_map.mpr ⟨U, List.mem_filter.mpr ⟨List.mem_range.mpr iu.1, decide_eq_true iu.2.1⟩, rfl⟩
      refine ⟨Dl, _, rfl, sL hL, List.length_pos_iff.mpr (List.ne_nil_of_mem memU), fun m hm hmax => ?_⟩
      obtain ⟨v, hv, rfl⟩ := List.mem_map.mp hm
      obtain ⟨hv1, hv2⟩ := List.mem_filter.mp hv
      have ev : v = U := by
        have h1 := hmax _ memU
        have h2 := iu.2.2 v (List.mem_range.mp hv1) (of_decide_eq_true hv2)
        omega
      subst ev
      have hv : v < L.k := iu.1
      have hst := ok.start_top hv
      have hml := ok.m_le hv hst.1
      have hbf := iu.2.1
      have hbf0 := (L.sys ok).bf_nonneg (u := v) hv
      have hp1 := sm _ _ hp
      refine ⟨_, rfl, p, dx, fs, rfl, hp1, PA.nm _ (.tail _ (.tail _ (.tail _ (.tail _ (.head _))))), _, rfl, _, rfl, _, rfl, _, rfl, p, L, ok, v, _, rfl, rfl, LA.same sm, hv, _, _, rfl, rfl, ?_⟩
      refine ⟨_, rfl, p, dx, fs, rfl, hp1, PA.nm _ (.tail _ (.tail _ (.head _))), _, rfl, _, rfl, p, C, dx, fs, _, rfl, hp1, T.cl, T.n9, hs, _, rfl, a, _, _, _, rfl, rfl, sT (sm _ _ ha), starts_at (u := v) rfl hv, ?_⟩
      refine ⟨p, L, fs, v, _, _, rfl, rfl, PA.same sm, ok, hv, hst.1, _, _, rfl, rfl, ?_⟩
      exact ⟨p, L, v, _, _, rfl, rfl, LA.same sm, ok, nm, hv, by omega, by show _ < (1000000000000000000000000 : Int); omega, q v H1 iu sm⟩
/-! ### place_of -/
def spPlaceOf (C : Addr) : Sp := fun vs H Q _ => ∃ (p : Addr) (L : Lad) (ok : L.Ok) (u k : Nat), vs = [.ref p, .str (ftxt L u k)] ∧ Fg C H p L ok u k ∧ ∀ H', Same H H' → Q (.int ((L.sys ok).plp u k)) H'
theorem sc51 : FnScope ["ladder", "text", "unit", "mark"] ["ladder", "text"] (defScope (top 51)) := ⟨rfl, rfl, rfl, by decide +kernel, rfl, by decide +kernel, by decide +kernel⟩
theorem ok_placeOf (D : Def K mg "place_of" (top 51)) (c1 : Cal P w K mg base "shown_range" 6 ["ladder", "text"] (spRangeIn C)) (c2 : Cal P w K mg base "parts_of" 3 ["ladder", "text"] (spPartsOf C)) (c3 : Cal P w K mg base "place_of_parts" 5 ["ladder", "unit", "mark"] (spPlaceP C)) :
    Cal P w K mg base "place_of" 7 ["ladder", "text"] (spPlaceOf C) := by
  refine D.cal sc51 (fun _ _ _ _ _ _ us hl => match us, hl with | [_, _], _ => rfl) (fun vs H Q E h => ?_) (fun f cdv A outer s H vs Q E hr h => ?_)
  · obtain ⟨p, L, ok, u, k, rfl, _⟩ := h
    rfl
  · obtain ⟨p, L, ok, u, k, rfl, g, q⟩ := h
    refine ⟨_, pss_cons (ps_expr (pcall c1 hr (pa_cons (pv 0) (pa_cons (pv 1) pa_nil))))
      (pss_cons (ps_asg (pcall c2 hr (pa_cons (pv 0) (pa_cons (pv 1) pa_nil))) (pg_tup rfl (pgs_cons (pg_name (i := 2) sc51.nd rfl (.inl rfl)) (pgs_cons (pg_name (i := 3) sc51.nd rfl (.inl rfl)) pgs_nil))))
      (pss_one (ps_ret (pcall c3 hr (pa_cons (pv 0) (pa_cons (pv 2) (pa_cons (pv 3) pa_nil))))))), ?_⟩
    refine ⟨_, rfl, _, rfl, p, L, ok, u, k, rfl, g, fun H1 r s1 _ => ?_⟩
    have g1 := g.same s1
    refine ⟨_, rfl, _, rfl, p, L, u, k, rfl, g1.la, ok, g1.nm, g1.hu, g1.kt, fun H2 r2 s2 h2 => ?_⟩
    exact ⟨r2, _, rfl, sT h2, rfl, _, _, rfl, _, [], rfl, rfl, _, rfl, _, rfl, _, rfl, p, L, ok, u, _, rfl, g1.la.same s2, g1.hu, q H2 (s1.trans s2)⟩
end
end SFW
end TWalkJ

section TWalkK
set_option Elab.async false
set_option linter.all false
set_option maxRecDepth 100000
set_option maxHeartbeats 4000000
/-! WalkK: the law's draws: spring, gulp, some_of. -/
namespace SFW
open PySem PySem.Spec PyProof.Rows L2 SFK SF TL
/-- the spring at sp -/
def Spr (H : Hp) (sp : Addr) : Prop := ∃ a b c : Int, H sp = some (.lst [.int a, .int b, .int c]) ∧ 0 ≤ b
theorem Spr.same {H H' : Hp} {sp : Addr} (s : Same H H') (h : Spr H sp) : Spr H' sp := by
  obtain ⟨a, b, c, e, hb⟩ := h
  exact ⟨a, b, c, s _ _ e, hb⟩
theorem Spr.ne {H : Hp} {sp b : Addr} {o : HO} (h : Spr H sp) (e : H b = some o) (ho : ∀ xs, o ≠ .lst xs) : b ≠ sp := fun z => by
  obtain ⟨x, y, c, e2, _⟩ := h
  rw [z, e2] at e
  exact ho _ (Option.some.inj e).symm
theorem Spr.ne_none {H : Hp} {sp b : Addr} (h : Spr H sp) (e : H b = none) : b ≠ sp := fun z => by
  obtain ⟨x, y, c, e2, _⟩ := h
  rw [z, e2] at e
  cases e
theorem But.tup {H H' : Hp} {sp b : Addr} {xs : List V} (s : But sp H H') (h : Spr H sp) (e : H b = some (.tup xs)) : H' b = some (.tup xs) := s _ _ (h.ne e fun _ z => by cases z) e
theorem But.units {H H' : Hp} {sp a : Addr} {us : List (Str × Int)} (s : But sp H H') (h : Spr H sp) (e : UnitsAt H a us) : UnitsAt H' a us := by
  obtain ⟨rs, h1, h2⟩ := e
  exact ⟨rs, s.tup h h1, Paired.mapP h2 fun _ _ q => s.tup h q⟩
theorem divP {i j : Int} (h1 : 1 ≤ j) (h2 : j ≤ big) : CDivP i j := by
  refine ⟨by omega, ?_⟩
  have hl : j.natAbs.log2 < 64 := PySem.Flt.log2_lt_of (by decide) (by
    have : j ≤ 1000000000000000000 := h2
    rw [show (2 : Nat) ^ 64 = 18446744073709551616 by decide]
    omega)
  show (decide ((if j == 0 then 0 else j.natAbs.log2 / 30 + 1) > 300) && _) = false
  rw [decide_eq_false (by split <;> omega), Bool.false_and]
theorem modpos : (0 : Int) < 1999999859 := by decide
theorem modB (i : Int) {j : Int} (h : 1 ≤ j) : 0 ≤ i % j ∧ i % j < j := ⟨Int.emod_nonneg i (by omega), Int.emod_lt_of_pos i (by omega)⟩
section
variable {P : Program} {w : World} {K : PySem.W.Frag} {mg : Str → Option Value} {base : Heap} {C : Addr}
/-! ### spring -/
def spSpring (K : PySem.W.Frag) : Sp := fun vs H Q _ => ∃ (a : Addr) (ns : List Int) (k : Nat), vs = [.ref a, .int k] ∧ SqL K H a (ns.map V.int) ∧ ns.length ≤ 63 ∧ ∀ H' p, Same H H' → H p = none → Spr H' p → Q (.ref p) H'
abbrev n53 : List Str := ["_law_script", "_law_k", "_law_own", "_law_mixed", "_law_entry"]
theorem sc53 : FnScope n53 ["_law_script", "_law_k"] (defScope (top 53)) := ⟨rfl, rfl, rfl, by decide +kernel, rfl, by decide +kernel, by decide +kernel⟩
theorem ok_spring (T : Txt K mg C) (D : Def K mg "_law_spring" (top 53)) : Cal P w K mg base "_law_spring" 1 ["_law_script", "_law_k"] (spSpring K) := by
  refine D.cal sc53 (fun _ _ _ _ _ _ us hl => match us, hl with | [_, _], _ => rfl) (fun vs H Q E h => ?_) (fun f cdv A outer s H vs Q E hr h => ?_)
  · obtain ⟨a, ns, k, rfl, _⟩ := h
    rfl
  · obtain ⟨a, ns, k, rfl, hA, h63, q⟩ := h
    refine ⟨_, pss_cons (ps_set (i := 2) sc53.nd rfl (.inl rfl) (pe_ifExp (pt_cmpR op_lt (pv 1) (pe_callB call_len_seq (by rfl) T.len_ PySem.boot_len (pa_cons (pv 0) pa_nil)) (nomark _))
        (pe_callTy call_int1 (by rfl) T.int_ (by decide +kernel) (pa_cons (pe_ix ix_list (pv 0) (pv 1) (fun _ _ => rfl)) pa_nil)) (pe_op op_add (pe_op op_mul pe_int (pv 1)) pe_int)))
      (pss_cons (ps_set (i := 3) sc53.nd rfl (.inl rfl) (pe_op op_add pe_int (pe_op op_mul pe_int (pv 1))))
      (pss_cons (ps_for PassesOwn.never rfl (pi_list (pe_slice sl_list (pv 0) po_none (po_some pe_int))) (pg_name (i := 4) sc53.nd rfl (Or.inl rfl))
        (pss_one (ps_set (i := 3) sc53.nd rfl (.inl rfl) (pe_op op_mod (pe_callTy call_int1 (by rfl) T.int_ (by decide +kernel) (pa_cons (pe_op op_add (pe_op op_mul (pv 3) pe_int) (pe_op op_mod (pe_callTy call_int1 (by rfl) T.int_ (by decide +kernel) (pa_cons (pv 4) pa_nil)) pe_int)) pa_nil)) pe_int))))
      (pss_one (ps_ret (pe_lst (pa_cons pe_int (pa_cons (pe_ifExp (PW.pt (pw_or (pt_cmpR op_lt (pv 2) pe_int (nomark _)) (pw_or1 (pt_cmpR op_ge (pv 2) (pe_op op_pow pe_int pe_int) (nomark _))))) (pe_callB call_abs (by rfl) T.abs_ (by decide +kernel) (pa_cons (pv 2) pa_nil)) pe_int)
        (pa_cons (pe_op op_mod (pe_callTy call_int1 (by rfl) T.int_ (by decide +kernel) (pa_cons (pe_op op_add (pe_op op_mul (pv 3) pe_int) (pe_op op_mod (pv 2) pe_int)) pa_nil)) pe_int) pa_nil)))))))), ?_⟩
    -- what follows, whatever own is
    have go : ∀ own : Int, tSeq (tAsg (tOp (rI0 fun i j => .int (i + j)) (tC (.int 60013)) (tOp (rI CMul fun i j => .int (i * j)) (tC (.int 1709)) (tVar 1))) (gName 3))
        (tSeq (tFor (iList K (tSl (rSlL K) (tVar 0) tNoPart (tPart (tC (.int 13))))) (gName 4) (tAsg (tOp (rI (fun _ j => 0 < j) fun i j => .int (i % j)) (tCB (fun xs H Q => (∃ i, xs = [.int i] ∧ Q (.int i) H) ∨ ∃ k, xs = [.bl k] ∧ Q (.int (if k then 1 else 0)) H) (tCons (tOp (rI0 fun i j => .int (i + j)) (tOp (rI CMul fun i j => .int (i * j)) (tVar 3) (tC (.int 38699))) (tOp (rI (fun _ j => 0 < j) fun i j => .int (i % j)) (tCB (fun xs H Q => (∃ i, xs = [.int i] ∧ Q (.int i) H) ∨ ∃ k, xs = [.bl k] ∧ Q (.int (if k then 1 else 0)) H) (tCons (tVar 4) tNil)) (tC (.int 1999999859)))) tNil)) (tC (.int 1999999859))) (gName 3)))
        (tRet (tLst (tCons (tC (.int 3)) (tCons (tIf (tOr (tTest (tOp (rI0 fun i j => .bl (decide (i < j))) (tVar 2) (tC (.int 0)))) (tTest (tOp (rI0 fun i j => .bl (decide (j ≤ i))) (tVar 2) (tOp (rI CPow fun i j => .int (i ^ j.toNat)) (tC (.int 10)) (tC (.int 13)))))) (tCB (fun xs H Q => ∃ i, xs = [.int i] ∧ Q (.int (if i < 0 then -i else i)) H) (tCons (tVar 2) tNil)) (tC (.int 0)))
          (tCons (tOp (rI (fun _ j => 0 < j) fun i j => .int (i % j)) (tCB (fun xs H Q => (∃ i, xs = [.int i] ∧ Q (.int i) H) ∨ ∃ k, xs = [.bl k] ∧ Q (.int (if k then 1 else 0)) H) (tCons (tOp (rI0 fun i j => .int (i + j)) (tOp (rI CMul fun i j => .int (i * j)) (tVar 3) (tC (.int 11))) (tOp (rI (fun _ j => 0 < j) fun i j => .int (i % j)) (tVar 2) (tC (.int 1999999859)))) tNil)) (tC (.int 1999999859))) tNil))))))
        { nx := fun _ H' => Q .non H', rt := Q } [some (.ref a), some (.int (k : Int)), some (.int own), none, none] H := fun own => by
      refine ⟨_, rfl, 1709, (k : Int), rfl, rfl, .inl ⟨by decide, by decide⟩, 60013, _, rfl, rfl, ?_⟩
      refine ⟨_, rfl, 13, rfl, a, _, rfl, hA, fun z nz => ⟨z, rfl, ⟨_, sL upd_same⟩, ?_⟩⟩
      have e13 : cutV (ns.map V.int) none (some 13) = (ns.take 13).map V.int := by
        rw [show (13 : Int) = ((13 : Nat) : Int) from rfl, cut_to, List.map_take]
      rw [e13]
      have sz : Same H (upd H z (.lst ((ns.take 13).map V.int))) := same_upd nz
      generalize hZ : upd H z (.lst ((ns.take 13).map V.int)) = Z at sz
      have hz : Z z = some (.lst ((ns.take 13).map V.int)) := by rw [← hZ]; exact upd_same
      refine for_it (walk_list (xs := (ns.take 13).map V.int)) (fun i σ H' => H' = Z ∧ ∃ (mx : Int) (y : Option V), σ = [some (.ref a), some (.int (k : Int)), some (.int own), some (.int mx), y]) ⟨rfl, _, none, rfl⟩ (fun i σ H' _ p => by rw [p.1]; exact sL hz) ?_ ?_
      · rintro i x σ H1 H2 hi ⟨rfl, mx, y, rfl⟩ ⟨rfl, hx⟩
        obtain ⟨e, _, rfl⟩ := mget hx
        refine ⟨_, rfl, mx, 38699, rfl, rfl, .inr ⟨by decide, by decide⟩, _, rfl, .inl ⟨e, rfl, e, 1999999859, rfl, rfl, modpos, _, _, rfl, rfl, .inl ⟨_, rfl, _, 1999999859, rfl, rfl, modpos, rfl, _, _, rfl⟩⟩⟩
      · rintro σ H1 ⟨rfl, mx, y, rfl⟩
        have fin : ∀ v : Int, 0 ≤ v → (tCons (tOp (rI (fun _ j => 0 < j) fun i j => .int (i % j)) (tCB (fun xs H Q => (∃ i, xs = [.int i] ∧ Q (.int i) H) ∨ ∃ k, xs = [.bl k] ∧ Q (.int (if k then 1 else 0)) H) (tCons (tOp (rI0 fun i j => .int (i + j)) (tOp (rI CMul fun i j => .int (i * j)) (tVar 3) (tC (.int 11))) (tOp (rI (fun _ j => 0 < j) fun i j => .int (i % j)) (tVar 2) (tC (.int 1999999859)))) tNil)) (tC (.int 1999999859))) tNil)
            [some (.ref a), some (.int (k : Int)), some (.int own), some (.int mx), y] H1 fun ys H' => ([V.int 3, V.int v] ++ ys).length ≤ sizeLine ∧ ∀ p, H' p = none → Q (.ref p) (upd H' p (.lst ([V.int 3, V.int v] ++ ys))) := fun v hv => by
          refine ⟨_, rfl, mx, 11, rfl, rfl, .inr ⟨by decide, by decide⟩, _, rfl, own, 1999999859, rfl, rfl, modpos, _, _, rfl, rfl, .inl ⟨_, rfl, _, 1999999859, rfl, rfl, modpos, by show 3 ≤ sizeLine; decide, fun p np => ?_⟩⟩
          exact q _ p (sz.trans (same_upd np)) (sz.free np) ⟨3, v, _, upd_same, hv⟩
        refine ⟨_, rfl, own, 0, rfl, rfl, _, rfl, ?_⟩
        by_cases c1 : own < 0
        · refine iT c1 (iteT ⟨_, rfl, own, rfl, fin _ ?_⟩)
          rw [if_pos c1]
          omega
        · refine iF c1 ⟨_, rfl, 10, 13, rfl, rfl, ⟨by decide, by decide, by decide⟩, own, _, rfl, rfl, _, rfl, ?_⟩
          by_cases c2 : (10 : Int) ^ (13 : Int).toNat ≤ own
          · refine iT c2 ⟨_, rfl, own, rfl, fin _ ?_⟩
            rw [if_neg c1]
            omega
          · exact iF c2 (fin 0 (Int.le_refl _))
    refine ⟨_, rfl, _, rfl, a, _, rfl, .inl hA, _, _, rfl, rfl, _, rfl, ?_⟩
    by_cases hk : (k : Int) < (((ns.map V.int).length : Nat) : Int)
    · have hk2 : k < ns.length := by
        rw [List.length_map] at hk
        omega
      refine iT hk ⟨_, rfl, _, rfl, a, _, (k : Int), .int ns[k], rfl, rfl, hA, atI_nat (by rw [List.getElem?_map, List.getElem?_eq_getElem hk2]; rfl), .inl ⟨_, rfl, go _⟩⟩
    · exact iF hk ⟨_, rfl, 37, (k : Int), rfl, rfl, .inl ⟨by decide, by decide⟩, _, 13, rfl, rfl, go _⟩
/-! ### gulp -/
def spGulp : Sp := fun vs H Q _ => ∃ (sp : Addr) (many : Int), vs = [.ref sp, .int many] ∧ Spr H sp ∧ 1 ≤ many ∧ many ≤ big ∧ ∀ (H' : Hp) (d : Int), But sp H H' → Spr H' sp → 0 ≤ d → d < many → Q (.int d) H'
theorem sc54 : FnScope ["_law_spring_here", "_law_many", "_law_digit"] ["_law_spring_here", "_law_many"] (defScope (top 54)) := ⟨rfl, rfl, rfl, by decide +kernel, rfl, by decide +kernel, by decide +kernel⟩
theorem ok_gulp (T : Txt K mg C) (D : Def K mg "_law_gulp" (top 54)) : Cal P w K mg base "_law_gulp" 1 ["_law_spring_here", "_law_many"] spGulp := by
  refine D.cal sc54 (fun _ _ _ _ _ _ us hl => match us, hl with | [_, _], _ => rfl) (fun vs H Q E h => ?_) (fun f cdv A outer s H vs Q E hr h => ?_)
  · obtain ⟨sp, many, rfl, _⟩ := h
    rfl
  · obtain ⟨sp, many, rfl, ⟨a, b, c, hs, hb⟩, m1, m2, q⟩ := h
    refine ⟨_, pss_cons (ps_asg (pe_op op_add (pe_ix ix_list (pv 0) pe_int (fun _ _ => rfl)) pe_int) (pg_sub (pv 0) pe_int set_list))
      (pss_cons (ps_if (pt_cmpR op_gt (pe_ix ix_list (pv 0) pe_int (fun _ _ => rfl)) pe_int (nomark _))
        (pss_cons (ps_asg (pe_callB call_divmodW (by rfl) T.divmod_ (by decide +kernel) (pa_cons (pe_callTy call_int1 (by rfl) T.int_ (by decide +kernel) (pa_cons (pe_ix ix_list (pv 0) pe_int (fun _ _ => rfl)) pa_nil)) (pa_cons (pv 1) pa_nil)))
          (pg_tup rfl (pgs_cons (pg_sub (pv 0) pe_int set_list) (pgs_cons (pg_name (i := 2) sc54.nd rfl (.inl rfl)) pgs_nil))))
        (pss_one (ps_ret (pv 2)))) pss_nil)
      (pss_cons (ps_asg (pe_op op_mod (pe_callTy call_int1 (by rfl) T.int_ (by decide +kernel) (pa_cons (pe_op op_add (pe_op op_add (pe_op op_mul (pe_ix ix_list (pv 0) pe_int (fun _ _ => rfl)) pe_int) (pe_op op_mul (pe_ix ix_list (pv 0) pe_int (fun _ _ => rfl)) pe_int)) (pe_op op_mul (pe_op op_fdivN (pe_ix ix_list (pv 0) pe_int (fun _ _ => rfl)) pe_int) pe_int)) pa_nil)) pe_int) (pg_sub (pv 0) pe_int set_list))
      (pss_one (ps_ret (pe_op op_mod (pe_callTy call_int1 (by rfl) T.int_ (by decide +kernel) (pa_cons (pe_op op_fdivN (pe_ix ix_list (pv 0) pe_int (fun _ _ => rfl)) pe_int) pa_nil)) (pv 1)))))), ?_⟩
    refine ⟨_, rfl, sp, _, 0, .int a, rfl, rfl, sL hs, atI_nat (j := 0) rfl, a, 5, rfl, rfl, _, rfl, sp, _, 0, 0, rfl, rfl, hs, rfl, ?_⟩
    show tSeq _ _ _ _ (upd H sp (.lst [.int (a + 5), .int b, .int c]))
    generalize hG : upd H sp (.lst [.int (a + 5), .int b, .int c]) = G
    have hg : G sp = some (.lst [.int (a + 5), .int b, .int c]) := by rw [← hG]; exact upd_same
    have bG : But sp H G := by rw [← hG]; exact But.upd
    refine ⟨_, rfl, sp, _, 1, .int b, rfl, rfl, sL hg, atI_nat (j := 1) rfl, b, 0, rfl, rfl, _, rfl, ?_⟩
    by_cases hc : 0 < b
    · refine iT hc ⟨_, rfl, sp, _, 1, .int b, rfl, rfl, sL hg, atI_nat (j := 1) rfl, .inl ⟨b, rfl, _, rfl, b, many, rfl, divP m1 m2, fun z nz => ?_⟩⟩
      have nzs : sp ≠ z := ne_of_none hg nz
      have bZ : But sp G (upd G z (.tup [.int (b / many), .int (b % many)])) := But.same (same_upd nz)
      refine ⟨z, _, rfl, sT upd_same, rfl, _, _, rfl, _, rfl, sp, _, 1, 1, rfl, rfl, (upd_ne nzs).trans hg, rfl, _, [], rfl, rfl, _, rfl, ?_⟩
      exact q _ _ ((bG.trans bZ).trans But.upd) ⟨_, _, _, upd_same, Int.ediv_nonneg hb (by omega)⟩ (modB b m1).1 (modB b m1).2
    · refine iF hc ⟨_, rfl, sp, _, 2, .int c, rfl, rfl, sL hg, atI_nat (j := 2) rfl, c, 46021, rfl, rfl, .inr ⟨by decide, by decide⟩, ?_⟩
      refine ⟨_, rfl, sp, _, 0, .int (a + 5), rfl, rfl, sL hg, atI_nat (j := 0) rfl, a + 5, 80021, rfl, rfl, .inr ⟨by decide, by decide⟩, _, _, rfl, rfl, ?_⟩
      refine ⟨_, rfl, sp, _, 2, .int c, rfl, rfl, sL hg, atI_nat (j := 2) rfl, c, 3001, rfl, rfl, ⟨by decide, by decide⟩, _, 31, rfl, rfl, .inr ⟨by decide, by decide⟩, _, _, rfl, rfl, .inl ⟨_, rfl, _, 1999999859, rfl, rfl, modpos, ?_⟩⟩
      refine ⟨_, rfl, sp, _, 2, 2, rfl, rfl, hg, rfl, ?_⟩
      generalize hcc : (c * 46021 + (a + 5) * 80021 + c.fdiv 3001 * 31) % 1999999859 = cc
      refine ⟨_, rfl, sp, [.int (a + 5), .int b, .int cc], 2, .int cc, rfl, rfl, sL (by rw [upd_same, ← hcc]; rfl), atI_nat (j := 2) rfl, cc, 263, rfl, rfl, ⟨by decide, by decide⟩, .inl ⟨_, rfl, _, rfl, _, many, rfl, rfl, by omega, ?_⟩⟩
      exact q _ _ (bG.trans But.upd) ⟨a + 5, b, _, upd_same, hb⟩ (modB _ m1).1 (modB _ m1).2
/-! ### some_of -/
def spSome : Sp := fun vs H Q _ => ∃ (sp t : Addr) (xs : List V), vs = [.ref sp, .ref t] ∧ Spr H sp ∧ t ≠ sp ∧ (H t = some (.lst xs) ∨ H t = some (.tup xs)) ∧ 1 ≤ xs.length ∧ xs.length ≤ 1000 ∧ ∀ (H' : Hp) (x : V), But sp H H' → Spr H' sp → x ∈ xs → Q x H'
theorem sc55 : FnScope ["_law_spring_here", "_law_things"] ["_law_spring_here", "_law_things"] (defScope (top 55)) := ⟨rfl, rfl, rfl, by decide +kernel, rfl, by decide +kernel, by decide +kernel⟩
theorem ok_some (T : Txt K mg C) (D : Def K mg "_law_some_of" (top 55)) (c1 : Cal P w K mg base "_law_gulp" 1 ["_law_spring_here", "_law_many"] spGulp) : Cal P w K mg base "_law_some_of" 2 ["_law_spring_here", "_law_things"] spSome := by
  refine D.cal sc55 (fun _ _ _ _ _ _ us hl => match us, hl with | [_, _], _ => rfl) (fun vs H Q E h => ?_) (fun f cdv A outer s H vs Q E hr h => ?_)
  · obtain ⟨sp, t, xs, rfl, _⟩ := h
    rfl
  · obtain ⟨sp, t, xs, rfl, hsp, nt, ht, h1, h2, q⟩ := h
    refine ⟨_, pss_one (ps_ret (pe_ix ix_seq (pv 1) (pcall c1 hr (pa_cons (pv 0) (pa_cons (pe_callB call_len_seq (by rfl) T.len_ PySem.boot_len (pa_cons (pv 1) pa_nil)) pa_nil))) (fun _ _ => rfl))), ?_⟩
    have hS : ∀ H', But sp H H' → SqL K H' t xs ∨ SqT K H' t xs := fun H' b => by
      rcases ht with ht | ht
      · exact .inl (sL (b _ _ nt ht))
      · exact .inr (sT (b _ _ nt ht))
    refine ⟨_, rfl, _, rfl, _, rfl, t, xs, rfl, hS H But.refl, sp, ((xs.length : Nat) : Int), rfl, hsp, by omega, by show _ ≤ (1000000000000000000 : Int); omega, fun H' d b' s' d0 d1 => ?_⟩
    have hd : d.toNat < xs.length := by omega
    have hg : xs[d.toNat]? = some xs[d.toNat] := List.getElem?_eq_getElem hd
    have hat : atI xs d = some xs[d.toNat] := at_of (by omega) hg
    rcases hS H' b' with z | z
    · exact .inl ⟨t, xs, d, _, rfl, rfl, z, hat, q H' _ b' s' (List.mem_of_getElem? hg)⟩
    · exact .inr (.inl ⟨t, xs, d, _, rfl, rfl, z, hat, q H' _ b' s' (List.mem_of_getElem? hg)⟩)
end
end SFW
end TWalkK

section TWalkL
set_option Elab.async false
set_option linter.all false
set_option maxRecDepth 100000
set_option maxHeartbeats 8000000
/-! WalkL: the law's units. -/
namespace SFW
open PySem PySem.Spec PyProof.Rows L2 SFK SF TL
/-! ### units that are drawn -/
theorem UOk.nil_snoc {u : Str × Int} (h : UnitOk u) (h1 : u.2 = 1) : UOk [u] := ⟨by simp, by simp, fun i v e => by
  cases i with
  | zero =>
    have : u = v := by simpa using e
    subst this
    exact ⟨h, .inl ⟨rfl, h1⟩⟩
  | succ i => simp at e⟩
theorem UOk.snoc {us : List (Str × Int)} {u : Str × Int} (h : UOk us) (hl : us.length < 6) (hu : UnitOk u) (hf : Follows u us) : UOk (us ++ [u]) := by
  refine ⟨by rw [List.length_append]; simp, by rw [List.length_append, List.length_singleton]; omega, fun i v e => ?_⟩
  by_cases hi : i < us.length
  · rw [List.getElem?_append_left hi] at e
    rw [List.take_append_of_le_length (by omega)]
    exact h.one i v e
  · have hi2 : i = us.length := by
      have := (List.getElem?_eq_some_iff.mp e).1
      rw [List.length_append, List.length_singleton] at this
      omega
    subst hi2
    rw [List.getElem?_append_right (Nat.le_refl _), Nat.sub_self] at e
    have : u = v := by simpa using e
    subst this
    rw [List.take_left]
    exact ⟨hu, hf⟩
def real5 : List (Str × Int) := [("", 1), ("K", 1000), ("M", 1000000), ("G", 1000000000), ("T", 1000000000000)]
theorem short_ok {s : Str} {z : Int} (h : (decide (s.length ≤ 3) && s.cps.toList.all fun c => decide (c ∈ lets.cps.toList)) = true) (h1 : 1 ≤ z) (h2 : z ≤ big) : UnitOk (s, z) := by
  obtain ⟨a, b⟩ := Bool.and_eq_true_iff.mp h
  exact ⟨of_decide_eq_true a, fun c hc => of_decide_eq_true (List.all_eq_true.mp b c hc), h1, h2⟩
theorem real_ok : ∀ d, d < 5 → UOk (real5.take (1 + d)) := by
  have r0 : UOk (real5.take 1) := UOk.nil_snoc (short_ok (by decide +kernel) (by decide) (by decide)) rfl
  have r1 : UOk (real5.take 2) := r0.snoc (by decide) (short_ok (s := "K") (z := 1000) (by decide +kernel) (by decide) (by decide)) (.inr ⟨[], ("", 1), rfl, by decide +kernel, by decide, by decide, by decide, by decide⟩)
  have r2 : UOk (real5.take 3) := r1.snoc (by decide) (short_ok (s := "M") (z := 1000000) (by decide +kernel) (by decide) (by decide)) (.inr ⟨[("", 1)], ("K", 1000), rfl, by decide +kernel, by decide, by decide, by decide, by decide⟩)
  have r3 : UOk (real5.take 4) := r2.snoc (by decide) (short_ok (s := "G") (z := 1000000000) (by decide +kernel) (by decide) (by decide)) (.inr ⟨[("", 1), ("K", 1000)], ("M", 1000000), rfl, by decide +kernel, by decide, by decide, by decide, by decide⟩)
  have r4 : UOk (real5.take 5) := r3.snoc (by decide) (short_ok (s := "T") (z := 1000000000000) (by decide +kernel) (by decide) (by decide)) (.inr ⟨[("", 1), ("K", 1000), ("M", 1000000)], ("G", 1000000000), rfl, by decide +kernel, by decide, by decide, by decide, by decide⟩)
  intro d hd
  have e : d = 0 ∨ d = 1 ∨ d = 2 ∨ d = 3 ∨ d = 4 := by omega
  rcases e with rfl | rfl | rfl | rfl | rfl
  · exact r0
  · exact r1
  · exact r2
  · exact r3
  · exact r4
theorem real_even : ∀ u ∈ real5.tail, u.2 % 2 = 0 := by decide +kernel
def nm6 : List Str := ["", "K", "M", "g", "Tx", "abc"]
def nmAt (i : Nat) : Str := (nm6[i % 6]?).getD Str.empty
theorem nmAt_ok (i : Nat) : (decide ((nmAt i).length ≤ 3) && (nmAt i).cps.toList.all fun c => decide (c ∈ lets.cps.toList)) = true := by
  have h : i % 6 < 6 := Nat.mod_lt i (by decide)
  unfold nmAt
  generalize i % 6 = j at h
  have e : j = 0 ∨ j = 1 ∨ j = 2 ∨ j = 3 ∨ j = 4 ∨ j = 5 := by omega
  rcases e with rfl | rfl | rfl | rfl | rfl | rfl <;> decide +kernel
theorem nm6_inj : ∀ a b, a < 6 → b < 6 → (nm6[a]?).getD Str.empty = (nm6[b]?).getD Str.empty → a = b := by
  intro a b ha hb
  have ea : a = 0 ∨ a = 1 ∨ a = 2 ∨ a = 3 ∨ a = 4 ∨ a = 5 := by omega
  have eb : b = 0 ∨ b = 1 ∨ b = 2 ∨ b = 3 ∨ b = 4 ∨ b = 5 := by omega
  rcases ea with rfl | rfl | rfl | rfl | rfl | rfl <;> rcases eb with rfl | rfl | rfl | rfl | rfl | rfl <;> first
    | exact fun _ => rfl
    | (intro h; exact absurd h (by decide +kernel))
/-- so far: i units drawn, the next size s -/
structure DI (shift i : Nat) (us : List (Str × Int)) (s : Int) : Prop where
  len : us.length = i
  nms : ∀ j u, us[j]? = some u → u.1 = nmAt (j + shift)
  zero : i = 0 → us = [] ∧ s = 1
  pos : 0 < i → UOk us ∧ (∃ l b, us = l ++ [b] ∧ b.2 < s ∧ s / b.2 * b.2 = s ∧ 1 ≤ b.2 ∧ b.2 ≤ big) ∧ s % 2 = 0
  even : ∀ u ∈ us.tail, u.2 % 2 = 0
  lo : 1 ≤ s
  hi : s ≤ 120000 * 21 ^ i
theorem DI.start (shift : Nat) : DI shift 0 [] 1 := ⟨rfl, fun j u e => by simp at e, fun _ => ⟨rfl, rfl⟩, fun h => absurd h (by decide), fun u hu => by simp at hu, by decide, by decide⟩
theorem pow21 {i : Nat} (h : i ≤ 6) : (120000 : Int) * 21 ^ i ≤ 10291945320000 := by
  have e : i = 0 ∨ i = 1 ∨ i = 2 ∨ i = 3 ∨ i = 4 ∨ i = 5 ∨ i = 6 := by omega
  rcases e with rfl | rfl | rfl | rfl | rfl | rfl | rfl <;> decide
theorem DI.step {shift i : Nat} {us : List (Str × Int)} {s s' : Int} (d : DI shift i us s) (hi : i < 6) (h1 : s < s') (h2 : s' / s * s = s') (h3 : s' % 2 = 0) (h4 : s' ≤ 120000 * 21 ^ (i + 1)) : DI shift (i + 1) (us ++ [(nmAt (i + shift), s)]) s' := by
  have p21 := pow21 (show i ≤ 6 by omega)
  have hs : s ≤ big := by
    have := d.hi
    show s ≤ 1000000000000000000
    omega
  have lo := d.lo
  have uo : UnitOk (nmAt (i + shift), s) := short_ok (nmAt_ok _) lo hs
  have ev : i = 0 ∨ 0 < i := by omega
  refine ⟨by rw [List.length_append, d.len]; rfl, fun j u e => ?_, fun h => absurd h (by omega), fun _ => ⟨?_, ⟨us, (nmAt (i + shift), s), rfl, h1, h2, lo, hs⟩, h3⟩, ?_, by omega, h4⟩
  · by_cases hj : j < us.length
    · rw [List.getElem?_append_left hj] at e
      exact d.nms j u e
    · have hj2 : j = us.length := by
        have := (List.getElem?_eq_some_iff.mp e).1
        rw [List.length_append, List.length_singleton] at this
        omega
      subst hj2
      rw [List.getElem?_append_right (Nat.le_refl _), Nat.sub_self] at e
      have : (nmAt (i + shift), s) = u := by simpa using e
      rw [← this, d.len]
  · rcases ev with h0 | h0
    · obtain ⟨rfl, rfl⟩ := d.zero h0
      exact UOk.nil_snoc uo rfl
    · obtain ⟨uok, ⟨l, b, e, b1, b2, b3, b4⟩, _⟩ := d.pos h0
      refine uok.snoc (by rw [d.len]; exact hi) uo (.inr ⟨l, b, e, fun hm => ?_, b1, b2, b3, b4⟩)
      obtain ⟨v, hv, ev⟩ := List.mem_map.mp hm
      obtain ⟨j, hj, ej⟩ := List.mem_iff_getElem.mp hv
      have e1 := d.nms j v (by rw [List.getElem?_eq_getElem hj, ej])
      have e2 : nmAt (j + shift) = nmAt (i + shift) := e1.symm.trans ev
      have e3 := nm6_inj _ _ (Nat.mod_lt _ (by decide)) (Nat.mod_lt _ (by decide)) e2
      have := d.len
      omega
  · intro u hu
    rcases ev with h0 | h0
    · obtain ⟨rfl, rfl⟩ := d.zero h0
      simp at hu
    · obtain ⟨uok, _, e2⟩ := d.pos h0
      have hne : us ≠ [] := fun z => by
        have := d.len
        rw [z] at this
        simp at this
        omega
      rw [List.tail_append_of_ne_nil hne] at hu
      rcases List.mem_append.mp hu with hu | hu
      · exact d.even u hu
      · rw [List.mem_singleton.mp hu]
        exact e2
theorem DI.bigs {shift i : Nat} {us : List (Str × Int)} {s : Int} (d : DI shift i us s) (h : 0 < i) : ∀ u ∈ us, u.2 ≤ big := fun u hu => by
  obtain ⟨j, hj, ej⟩ := List.mem_iff_getElem.mp hu
  exact ((d.pos h).1.one j u (by rw [List.getElem?_eq_getElem hj, ej])).1.hi
end SFW
end TWalkL

section TWalkM
set_option Elab.async false
set_option linter.all false
set_option maxRecDepth 100000
set_option maxHeartbeats 8000000
/-! WalkM: _law_units. -/
namespace SFW
open PySem PySem.Spec PyProof.Rows L2 SFK SF TL
section
variable {P : Program} {w : World} {K : PySem.W.Frag} {mg : Str → Option Value} {base : Heap} {C : Addr}
def spUnits : Sp := fun vs H Q _ => ∃ (sp : Addr) (d : Nat) (sm : Bool), vs = [.ref sp, .int (2 * p10 d), .bl sm] ∧ Spr H sp ∧ ∀ (H' : Hp) (r : Addr) (us : List (Str × Int)), But sp H H' → Spr H' sp → UnitsAt H' r us → UOk us → (∀ u ∈ us.tail, u.2 % 2 = 0) → Q (.ref r) H'
abbrev n56 : List Str := ["_law_spring_here", "_law_part", "_law_small", "_law_names", "_law_found", "_law_size_here", "_law_shift", "_law_k", "_law_first", "_law_unit"]
theorem sc56 : FnScope n56 ["_law_spring_here", "_law_part", "_law_small"] (defScope (top 56)) := ⟨rfl, rfl, rfl, by decide +kernel, rfl, by decide +kernel, by decide +kernel⟩
theorem nm_get (i : Nat) : (nm6.map V.str)[i % 6]? = some (.str (nmAt i)) := by
  have h : i % 6 < 6 := Nat.mod_lt i (by decide)
  unfold nmAt
  generalize i % 6 = j at h
  have e : j = 0 ∨ j = 1 ∨ j = 2 ∨ j = 3 ∨ j = 4 ∨ j = 5 := by omega
  rcases e with rfl | rfl | rfl | rfl | rfl | rfl <;> rfl
theorem Paired.snoc {α β : Type} {R : α → β → Prop} {x : α} {y : β} (r : R x y) : ∀ {xs : List α} {ys : List β}, Paired R xs ys → Paired R (xs ++ [x]) (ys ++ [y])
  | _, _, .nil => .cons r .nil
  | _, _, .cons q t => .cons q (Paired.snoc r t)
theorem ok_units (T : Txt K mg C) (D : Def K mg "_law_units" (top 56)) (c1 : Cal P w K mg base "_law_gulp" 1 ["_law_spring_here", "_law_many"] spGulp) : Cal P w K mg base "_law_units" 2 ["_law_spring_here", "_law_part", "_law_small"] spUnits := by
  refine D.cal sc56 (fun _ _ _ _ _ _ us hl => match us, hl with | [_, _, _], _ => rfl) (fun vs H Q E h => ?_) (fun f cdv A outer s H vs Q E hr h => ?_)
  · obtain ⟨sp, d, sm, rfl, _⟩ := h
    rfl
  · obtain ⟨sp, d, sm, rfl, hsp, q⟩ := h
    have pb := part_bd d
    refine ⟨_, pss_cons (ps_if (PW.pt (pw_and (pt_not (pt_val (pv 2))) (pw_and1 (pt_cmpR op_eq (pcall c1 hr (pa_cons (pv 0) (pa_cons pe_int pa_nil))) pe_int (nomark _)))))
        (pss_one (ps_ret (pe_slice sl_tupA (pe_tup (pa_cons (pe_tup (pa_cons pe_str (pa_cons pe_int pa_nil))) (pa_cons (pe_tup (pa_cons pe_str (pa_cons pe_int pa_nil))) (pa_cons (pe_tup (pa_cons pe_str (pa_cons (pe_op op_pow pe_int pe_int) pa_nil))) (pa_cons (pe_tup (pa_cons pe_str (pa_cons (pe_op op_pow pe_int pe_int) pa_nil)))
          (pa_cons (pe_tup (pa_cons pe_str (pa_cons (pe_op op_pow pe_int pe_int) pa_nil))) pa_nil)))))) po_none (po_some (pe_op op_add pe_int (pcall c1 hr (pa_cons (pv 0) (pa_cons pe_int pa_nil)))))))) pss_nil)
      (pss_cons (ps_par3 (i := 3) (j := 4) (l := 5) rfl sc56.nd rfl rfl rfl (by decide) (by decide) (by decide) rfl rfl rfl
        (pa_cons (pe_lst (pa_cons pe_str (pa_cons pe_str (pa_cons pe_str (pa_cons pe_str (pa_cons pe_str (pa_cons pe_str pa_nil))))))) (pa_cons (pe_lst pa_nil) (pa_cons pe_int pa_nil))) (by rfl))
      (pss_cons (ps_set (i := 6) sc56.nd rfl (.inl rfl) (pcall c1 hr (pa_cons (pv 0) (pa_cons pe_int pa_nil))))
      (pss_cons (ps_for PassesOwn.never rfl (pi_range1 (by rfl) T.range_ (pa_cons (pe_op op_add pe_int (pcall c1 hr (pa_cons (pv 0) (pa_cons (pe_ifExp (pt_val (pv 2)) pe_int pe_int) pa_nil)))) pa_nil)) (pg_name (i := 7) sc56.nd rfl (Or.inl rfl))
        (pss_cons (ps_expr (pe_bm PySem.F.plainAttrs_list PySem.F.slot_list_append PySem.F.type_list_append mt_append (pv 4) (pa_cons (pe_tup (pa_cons (pe_ix ix_list (pv 3) (pe_op op_mod (pe_callTy call_int1 (by rfl) T.int_ (by decide +kernel) (pa_cons (pe_op op_add (pv 7) (pv 6)) pa_nil)) pe_int) (fun _ _ => rfl)) (pa_cons (pv 5) pa_nil))) pa_nil)))
        (pss_cons (ps_set (i := 8) sc56.nd rfl (.inl rfl) (pe_op op_mul (pv 1) (pe_op op_add pe_int (pcall c1 hr (pa_cons (pv 0) (pa_cons (pe_ifExp (pt_val (pv 2)) pe_int pe_int) pa_nil))))))
        (pss_one (ps_set (i := 5) sc56.nd rfl (.inl rfl) (pe_ifExp (pt_cmpR op_eq (pv 7) pe_int (nomark _)) (pv 8) (pe_op op_mul (pv 5) (pe_op op_add pe_int (pcall c1 hr (pa_cons (pv 0) (pa_cons (pe_ifExp (pt_val (pv 2)) pe_int pe_int) pa_nil)))))))))))
      (pss_one (ps_ret (pe_callTy call_tuple_of (by rfl) T.tuple_ (by decide +kernel) (pa_cons
        (pe_lc (own := [("_law_unit", 9)]) (g := gName 9) (tt := tTest (tOp (rI0 fun i j => .bl (decide (i ≤ j))) (tOp (rIxT K) (tVar 9) (tC (.int 1))) (tOp (rI CPow fun i j => .int (i ^ j.toNat)) (tC (.int 10)) (tC (.int 18))))) rfl sc56.nd (pi_list (pv 4)) (blkOk_by (own := [("_law_unit", 9)]) (N := n56) (sc := defScope (top 56)) (by decide +kernel))
            (fun _ _ _ _ _ => pg_name (i := 9) sc56.nd rfl (Or.inl rfl)) (fun _ _ _ _ _ => pts_one (pt_cmpR op_le (pe_ix ix_tup (pv 9) pe_int (fun _ _ => rfl)) (pe_op op_pow pe_int pe_int) (nomark _))) (fun _ _ _ _ _ => pv 9)) pa_nil))))))), ?_⟩
    -- the drawn ones
    have draw : ∀ H0, But sp H H0 → Spr H0 sp → tSeq (tPar3 3 4 5 (tCons (tLst (tCons (tC (.str "")) (tCons (tC (.str "K")) (tCons (tC (.str "M")) (tCons (tC (.str "g")) (tCons (tC (.str "Tx")) (tCons (tC (.str "abc")) tNil))))))) (tCons (tLst tNil) (tCons (tC (.int 1)) tNil))))
      (tSeq (tAsg (tCall spGulp [] E0 (tCons (tVar 0) (tCons (tC (.int 6)) tNil))) (gName 6))
      (tSeq (tFor (iRng1 (tCons (tOp (rI0 fun i j => .int (i + j)) (tC (.int 1)) (tCall spGulp [] E0 (tCons (tVar 0) (tCons (tIf (tB (tVar 2)) (tC (.int 4)) (tC (.int 6))) tNil)))) tNil)) (gName 7)
        (tSeq (tDrop (tBM K "list" rAppend (tVar 4) (tCons (tTup (tCons (tOp (rIxL K) (tVar 3) (tOp (rI (fun _ j => 0 < j) fun i j => .int (i % j)) (tCB (fun xs H Q => (∃ i, xs = [.int i] ∧ Q (.int i) H) ∨ ∃ k, xs = [.bl k] ∧ Q (.int (if k then 1 else 0)) H) (tCons (tOp (rI0 fun i j => .int (i + j)) (tVar 7) (tVar 6)) tNil)) (tC (.int 6)))) (tCons (tVar 5) tNil))) tNil)))
        (tSeq (tAsg (tOp (rI CMul fun i j => .int (i * j)) (tVar 1) (tOp (rI0 fun i j => .int (i + j)) (tC (.int 1)) (tCall spGulp [] E0 (tCons (tVar 0) (tCons (tIf (tB (tVar 2)) (tC (.int 4)) (tC (.int 60))) tNil))))) (gName 8))
          (tAsg (tIf (tTest (tOp rEq (tVar 7) (tC (.int 0)))) (tVar 8) (tOp (rI CMul fun i j => .int (i * j)) (tVar 5) (tOp (rI0 fun i j => .int (i + j)) (tC (.int 2)) (tCall spGulp [] E0 (tCons (tVar 0) (tCons (tIf (tB (tVar 2)) (tC (.int 5)) (tC (.int 20))) tNil)))))) (gName 5)))))
        (tRet (tCB (fun xs H Q => ∃ p ys, xs = [.ref p] ∧ ((SqL K H p ys ∧ ∀ l, H l = none → Q (.ref l) (upd H l (.tup ys))) ∨ (SqT K H p ys ∧ Q (.ref p) H))) (tCons (tLc (iList K (tVar 4)) (gName 9) (tTest (tOp (rI0 fun i j => .bl (decide (i ≤ j))) (tOp (rIxT K) (tVar 9) (tC (.int 1))) (tOp (rI CPow fun i j => .int (i ^ j.toNat)) (tC (.int 10)) (tC (.int 18))))) (tVar 9) [9]) tNil)))))
        { nx := fun _ H' => Q .non H', rt := Q } [some (.ref sp), some (.int (2 * p10 d)), some (.bl sm), none, none, none, none, none, none, none] H0 := fun H0 b0 s0 => by
      have cond : ∀ (σ : L2.St) (H1 : Hp) (a b : Int) (R : VK), σ[2]? = some (some (.bl sm)) → (∀ m, (m = a ∨ m = b) → R (.int m) H1) → tIf (tB (tVar 2)) (tC (.int a)) (tC (.int b)) σ H1 R := fun σ H1 a b R e z => by
        refine ⟨_, e, sm, rfl, ?_⟩
        cases sm with
        | true => exact iteT (z a (.inl rfl))
        | false => exact iteF (z b (.inr rfl))
      refine ⟨by show 6 ≤ sizeLine; decide, fun aN nN => ⟨Nat.zero_le _, fun aF nF => ⟨_, _, _, rfl, ?_⟩⟩⟩
      have nNF : aN ≠ aF := ne_of_none upd_same nF
      have nF0 : H0 aF = none := by
        rw [upd_ne nNF.symm] at nF
        exact nF
      have nSN : aN ≠ sp := s0.ne_none nN
      have nSF : aF ≠ sp := s0.ne_none nF0
      generalize hG : upd (upd H0 aN (.lst [V.str "", V.str "K", V.str "M", V.str "g", V.str "Tx", V.str "abc"])) aF (.lst []) = G
      have sG : Same H0 G := by rw [← hG]; exact (same_upd nN).trans (same_upd nF)
      have hN : G aN = some (.lst (nm6.map V.str)) := by
        rw [← hG, upd_ne nNF, upd_same]
        rfl
      have hF : G aF = some (.lst []) := by rw [← hG, upd_same]
      have bG : But sp H G := b0.trans (But.same sG)
      have newF : H aF = none := by
        cases e : H aF with
        | none => rfl
        | some o =>
          rw [b0 _ _ nSF e] at nF0
          cases nF0
      refine ⟨_, rfl, sp, 6, rfl, s0.same sG, by decide, by decide, fun H1 sh b1 s1 sh0 sh1 => ?_⟩
      obtain ⟨shift, rfl⟩ : ∃ k : Nat, sh = k := ⟨sh.toNat, by omega⟩
      have hN1 := b1 _ _ nSN hN
      have hF1 := b1 _ _ nSF hF
      refine ⟨_, rfl, cond _ _ _ _ _ rfl fun m hm => ⟨sp, m, rfl, s1, by rcases hm with rfl | rfl <;> decide, by rcases hm with rfl | rfl <;> decide, fun H2 g2 b2 s2 g0 g1 => ⟨_, _, rfl, rfl, ?_⟩⟩⟩
      have m6 : m ≤ 6 := by rcases hm with rfl | rfl <;> decide
      obtain ⟨n, rfl⟩ : ∃ n : Nat, g2 = n := ⟨g2.toNat, by omega⟩
      refine ⟨1 + (n : Int), rfl, by omega, by omega, ?_⟩
      rw [show (1 + (n : Int)).toNat = n + 1 by omega]
      refine for_it (walk_range (lo := 0) (n := n + 1)) (fun i σ H' => ∃ (us : List (Str × Int)) (rs : List Addr) (s : Int) (y7 y8 : Option V), DI shift i us s ∧ But sp H H' ∧ Spr H' sp ∧ H' aN = some (.lst (nm6.map V.str)) ∧ H' aF = some (.lst (rs.map V.ref)) ∧ Paired (fun (r : Addr) (u : Str × Int) => H' r = some (.tup [.str u.1, .int u.2])) rs us ∧
        σ = [some (.ref sp), some (.int (2 * p10 d)), some (.bl sm), some (.ref aN), some (.ref aF), some (.int s), some (.int (shift : Int)), y7, y8, none]) ⟨[], [], 1, none, none, DI.start shift, (bG.trans b1).trans b2, s2, b2 _ _ nSN hN1, b2 _ _ nSF hF1, .nil, rfl⟩ (fun _ _ _ _ _ => trivial) ?_ ?_
      · rintro i x σ H3 H4 hi ⟨us, rs, s, y7, y8, di, b3, s3, hN3, hF3, pr, rfl⟩ ⟨rfl, rfl⟩
        have hl := Paired.len pr
        have hlen := di.len
        have his : (0 : Int) + (i : Int) + (shift : Int) = ((i + shift : Nat) : Int) := by omega
        refine ⟨_, rfl, .inl ⟨rfl, _, sL hF3⟩, ?_⟩
        refine ⟨_, rfl, _, rfl, _, rfl, _, _, rfl, rfl, .inl ⟨_, rfl, _, 6, rfl, rfl, (by show (0 : Int) < 6; decide), aN, _, _, .str (nmAt (i + shift)), rfl, rfl, sL hN3, ?_, ?_⟩⟩
        · rw [his]
          exact at_of (j := (i + shift) % 6) (by omega) (nm_get _)
        refine ⟨_, rfl, by show 2 ≤ sizeLine; decide, fun t nt => ?_⟩
        have nFt : aF ≠ t := ne_of_none hF3 nt
        have nNt : aN ≠ t := ne_of_none hN3 nt
        have nSt : sp ≠ t := (s3.ne_none nt).symm
        refine ⟨aF, _, _, rfl, rfl, (upd_ne nFt).trans hF3, ?_, ?_⟩
        · rw [List.length_map]
          exact small1000 (by omega)
        generalize hM : upd (upd H4 t (.tup [V.str (nmAt (i + shift)), V.int s])) aF (.lst (rs.map V.ref ++ [V.ref t])) = M
        have hFM : M aF = some (.lst ((rs ++ [t]).map V.ref)) := by
          rw [← hM, upd_same, List.map_append]
          rfl
        have kM : ∀ b o, b ≠ aF → H4 b = some o → M b = some o := fun b o nb e => by
          rw [← hM, upd_ne nb, upd_ne (ne_of_none e nt)]
          exact e
        have htM : M t = some (.tup [V.str (nmAt (i + shift)), V.int s]) := by
          rw [← hM, upd_ne nFt.symm, upd_same]
        have bM : But sp H M := fun b o nb e => kM b o (fun z => by
          rw [z, newF] at e
          cases e) (b3 b o nb e)
        have sM : Spr M sp := by
          obtain ⟨a1, a2, a3, e1, e2⟩ := s3
          exact ⟨a1, a2, a3, kM _ _ nSF.symm e1, e2⟩
        have hNM := kM _ _ nNF hN3
        have prM : Paired (fun (r : Addr) (u : Str × Int) => M r = some (.tup [.str u.1, .int u.2])) (rs ++ [t]) (us ++ [(nmAt (i + shift), s)]) :=
          Paired.snoc (R := fun (r : Addr) (u : Str × Int) => M r = some (.tup [.str u.1, .int u.2])) (x := t) (y := (nmAt (i + shift), s)) htM (Paired.mapP pr fun r u e => kM _ _ (fun z => by
            rw [z, hF3] at e
            cases e) e)
        refine ⟨_, rfl, _, rfl, cond _ _ _ _ _ rfl fun m1 hm1 => ⟨sp, m1, rfl, sM, by rcases hm1 with rfl | rfl <;> decide, by rcases hm1 with rfl | rfl <;> decide, fun H5 g5 b5 s5 g50 g51 => ?_⟩⟩
        have m60 : m1 ≤ 60 := by rcases hm1 with rfl | rfl <;> decide
        refine ⟨1, g5, rfl, rfl, 2 * p10 d, 1 + g5, rfl, rfl, .inl ⟨by rw [pow64]; omega, by rw [pow64]; omega⟩, ?_⟩
        have hN5 := b5 _ _ nSN hNM
        have hF5 := b5 _ _ nSF hFM
        have pr5 : Paired (fun (r : Addr) (u : Str × Int) => H5 r = some (.tup [.str u.1, .int u.2])) (rs ++ [t]) (us ++ [(nmAt (i + shift), s)]) := Paired.mapP prM fun r u e => b5.tup sM e
        have bH5 := bM.trans b5
        have p21 := pow21 (show i ≤ 6 by omega)
        have plo := di.lo
        have phi := di.hi
        refine ⟨_, rfl, rfl, _, rfl, ?_⟩
        by_cases h0 : i = 0
        · subst h0
          obtain ⟨rfl, rfl⟩ := di.zero rfl
          refine iT rfl ⟨_, rfl, _, _, _, _, _, di.step (s' := 2 * p10 d * (1 + g5)) (by decide) ?_ ?_ ?_ ?_, bH5, s5, hN5, hF5, pr5, rfl⟩
          · have : 2 * p10 d * 1 ≤ 2 * p10 d * (1 + g5) := Int.mul_le_mul_of_nonneg_left (by omega) (by omega)
            omega
          · omega
          · rw [Int.mul_assoc, Int.mul_emod_right]
          · have : 2 * p10 d * (1 + g5) ≤ 2000 * (1 + g5) := Int.mul_le_mul_of_nonneg_right (by omega) (by omega)
            show _ ≤ (120000 : Int) * 21 ^ 1
            rw [show (21 : Int) ^ 1 = 21 by decide]
            omega
        · refine iF (fun z => h0 (by have := V.int.inj z; omega)) ⟨_, rfl, _, rfl, cond _ _ _ _ _ rfl fun m2 hm2 => ⟨sp, m2, rfl, s5, by rcases hm2 with rfl | rfl <;> decide, by rcases hm2 with rfl | rfl <;> decide, fun H6 g6 b6 s6 g60 g61 => ?_⟩⟩
          have m20 : m2 ≤ 20 := by rcases hm2 with rfl | rfl <;> decide
          have hev := (di.pos (by omega)).2.2
          refine ⟨2, g6, rfl, rfl, s, 2 + g6, rfl, rfl, .inr ⟨by rw [pow64]; omega, by rw [pow64]; omega⟩, _, _, _, _, _, di.step (s' := s * (2 + g6)) (by omega) ?_ ?_ ?_ ?_, bH5.trans b6, s6, b6 _ _ nSN hN5, b6 _ _ nSF hF5, Paired.mapP pr5 fun r u e => b6.tup s5 e, rfl⟩
          · have : s * 2 ≤ s * (2 + g6) := Int.mul_le_mul_of_nonneg_left (by omega) (by omega)
            omega
          · rw [mul_self_div s (2 + g6) (by omega), Int.mul_comm]
          · rw [Int.mul_emod, hev, Int.zero_mul]
            rfl
          · have a1 : s * (2 + g6) ≤ s * 21 := Int.mul_le_mul_of_nonneg_left (by omega) (by omega)
            have a2 : (120000 : Int) * 21 ^ (i + 1) = 120000 * 21 ^ i * 21 := by rw [Int.pow_succ, Int.mul_assoc]
            rw [a2]
            have a3 : s * 21 ≤ 120000 * 21 ^ i * 21 := Int.mul_le_mul_of_nonneg_right phi (by decide)
            omega
      · rintro σ H3 ⟨us, rs, s, y7, y8, di, b3, s3, hN3, hF3, pr, rfl⟩
        have hl := Paired.len pr
        have hlen := di.len
        have bigs := di.bigs (by omega)
        refine ⟨_, rfl, aF, rfl, ⟨_, sL hF3⟩, fun Dl hD => ?_⟩
        refine lc_it (walk_list (xs := rs.map V.ref)) (fun i H' => Same H3 H' ∧ H' Dl = some (.lst ((rs.take i).map V.ref))) ⟨same_upd hD, upd_same⟩ (fun i H' _ z => sL (z.1 _ _ hF3)) ?_ ?_
        · rintro i x H4 H5 hi ⟨sm4, hL⟩ ⟨rfl, hx⟩
          obtain ⟨r, hri, rfl⟩ := mget hx
          obtain ⟨u, hy1, hy2⟩ := Paired.get1 pr hri
          have ub : u.2 ≤ (10 : Int) ^ (18 : Int).toNat := bigs u (List.mem_of_getElem? hy1)
          refine ⟨rfl, _, rfl, r, _, 1, .int u.2, rfl, rfl, sT (sm4 _ _ hy2), atI_nat (j := 1) rfl, 10, 18, rfl, rfl, ⟨by decide, by decide, by decide⟩, _, _, rfl, rfl, _, rfl, iT ub ?_⟩
          refine ⟨_, rfl, _, hL, ?_, fun c o e => ?_, ?_⟩
          · rw [List.length_map, List.length_take]
            exact small1000 (Nat.le_trans (Nat.min_le_right _ _) (by omega))
          · rw [upd_ne (ne_of_none e hD)]
            exact sm4 _ _ e
          · rw [upd_same, take_map (f := V.ref) hri]
        · rintro H4 ⟨sm4, hL⟩
          rw [List.length_map, List.take_length] at hL
          refine ⟨Dl, _, rfl, .inl ⟨sL hL, fun r nr => ?_⟩⟩
          have s5 : Same H3 (upd H4 r (.tup (rs.map V.ref))) := sm4.trans (same_upd nr)
          exact q _ r us (b3.trans (But.same s5)) (s3.same s5) ⟨rs, upd_same, Paired.mapP pr fun _ _ e => s5 _ _ e⟩ (di.pos (by omega)).1 di.even
    -- small, or not
    refine ⟨_, rfl, sm, rfl, ?_⟩
    cases hsm : sm with
    | true =>
      subst hsm
      exact iteF (iteF (draw H But.refl hsp))
    | false =>
      subst hsm
      refine iteT ⟨_, rfl, sp, 2, rfl, hsp, by decide, by decide, fun H1 g b1 s1 g0 g1 => ⟨rfl, _, rfl, ?_⟩⟩
      by_cases hg : g = 0
      · refine iT (congrArg V.int hg) ?_
        refine ⟨by show 2 ≤ sizeLine; decide, fun t1 k1 => ⟨by show 2 ≤ sizeLine; decide, fun t2 k2 => ?_⟩⟩
        refine ⟨10, 6, rfl, rfl, ⟨by decide, by decide, by decide⟩, by show 2 ≤ sizeLine; decide, fun t3 k3 => ?_⟩
        refine ⟨10, 9, rfl, rfl, ⟨by decide, by decide, by decide⟩, by show 2 ≤ sizeLine; decide, fun t4 k4 => ?_⟩
        refine ⟨10, 12, rfl, rfl, ⟨by decide, by decide, by decide⟩, by show 2 ≤ sizeLine; decide, fun t5 k5 => ?_⟩
        refine ⟨by show 5 ≤ sizeLine; decide, fun t6 k6 => ?_⟩
        have z1 := same_upd (o := .tup [V.str "", V.int 1]) k1
        have z2 := same_upd (o := .tup [V.str "K", V.int 1000]) k2
        have z3 := same_upd (o := .tup [V.str "M", V.int (10 ^ (6 : Int).toNat)]) k3
        have z4 := same_upd (o := .tup [V.str "G", V.int (10 ^ (9 : Int).toNat)]) k4
        have z5 := same_upd (o := .tup [V.str "T", V.int (10 ^ (12 : Int).toNat)]) k5
        have z6 := same_upd (o := .tup [V.ref t1, V.ref t2, V.ref t3, V.ref t4, V.ref t5]) k6
        have zAll := ((((z1.trans z2).trans z3).trans z4).trans z5).trans z6
        refine ⟨_, rfl, sp, 5, rfl, s1.same zAll, by decide, by decide, fun H2 g2 b2 s2 h0 h1 => ⟨1, g2, rfl, rfl, _, rfl, ?_⟩⟩
        have sAll := s1.same zAll
        have hT := b2.tup sAll (show _ = some (HO.tup _) from upd_same)
        have hp5 : Paired (fun (r : Addr) (u : Str × Int) => H2 r = some (.tup [.str u.1, .int u.2])) [t1, t2, t3, t4, t5] real5 :=
          .cons (b2.tup sAll (z6 _ _ (z5 _ _ (z4 _ _ (z3 _ _ (z2 _ _ upd_same)))))) (.cons (b2.tup sAll (z6 _ _ (z5 _ _ (z4 _ _ (z3 _ _ upd_same))))) (.cons (b2.tup sAll (z6 _ _ (z5 _ _ (z4 _ _ upd_same)))) (.cons (b2.tup sAll (z6 _ _ (z5 _ _ upd_same))) (.cons (b2.tup sAll (z6 _ _ upd_same)) .nil))))
        obtain ⟨n, rfl⟩ : ∃ n : Nat, g2 = n := ⟨g2.toNat, by omega⟩
        have hn5 : n < 5 := by omega
        have bAll : But sp H H2 := (b1.trans (But.same zAll)).trans b2
        have en : (1 + (n : Int)) = ((1 + n : Nat) : Int) := by omega
        have uo := real_ok n hn5
        have ev : ∀ u ∈ (real5.take (1 + n)).tail, u.2 % 2 = 0 := fun u hu => by
          refine real_even u ?_
          rw [← List.drop_one] at hu ⊢
          rw [List.drop_take] at hu
          exact List.mem_of_mem_take hu
        have pt := Paired.take (1 + n) hp5
        refine ⟨t6, _, rfl, sT hT, fun wh => ?_, fun wh r nr => ?_⟩
        · have w2 := wh.2
          rw [en, HT.sIx_nat] at w2
          have e4 : n = 4 := by
            have : min (1 + n) 5 = 5 := w2
            omega
          subst e4
          exact q _ t6 _ bAll s2 ⟨[t1, t2, t3, t4, t5], hT, hp5⟩ uo ev
        · have sr : Same H2 (upd H2 r (.tup (cutV [V.ref t1, V.ref t2, V.ref t3, V.ref t4, V.ref t5] none (some (1 + (n : Int)))))) := same_upd nr
          refine q _ r _ (bAll.trans (But.same sr)) (s2.same sr) ⟨[t1, t2, t3, t4, t5].take (1 + n), ?_, Paired.mapP pt fun _ _ e => sr _ _ e⟩ uo ev
          rw [upd_same, en, cut_to, List.map_take]
          rfl
      · exact iF (fun z => hg (V.int.inj z)) (draw H1 b1 s1)
end
end SFW
end TWalkM

section TWalkN
set_option Elab.async false
set_option linter.all false
set_option maxRecDepth 100000
set_option maxHeartbeats 8000000
/-! WalkN: _law_told, _law_made, _law_top. -/
namespace SFW
open PySem PySem.Spec PyProof.Rows L2 SFK SF TL
/-- what is told of a ladder, at r -/
def TolAt (H : Hp) (r : Addr) (L : Lad) : Prop := ∃ aU, H r = some (.tup [.ref aU, .int L.dec, .str L.rnd.s, .bl L.carry, .int L.least]) ∧ UnitsAt H aU L.us
theorem TolAt.same {H H' : Hp} {r : Addr} {L : Lad} (s : Same H H') (h : TolAt H r L) : TolAt H' r L := by
  obtain ⟨a, h1, h2⟩ := h
  exact ⟨a, s _ _ h1, h2.same s⟩
theorem TolAt.but {H H' : Hp} {sp r : Addr} {L : Lad} (s : But sp H H') (hs : Spr H sp) (h : TolAt H r L) : TolAt H' r L := by
  obtain ⟨a, h1, h2⟩ := h
  exact ⟨a, s.tup hs h1, s.units hs h2⟩
theorem tw_pow (n : Nat) (h : n ≤ 1000000) : CPow 10 (n : Int) := ⟨by omega, by omega, by decide⟩
section
variable {P : Program} {w : World} {K : PySem.W.Frag} {mg : Str → Option Value} {base : Heap} {C : Addr}
/-! ### told -/
def spTold : Sp := fun vs H Q _ => ∃ (sp : Addr) (sm : Bool), vs = [.ref sp, .bl sm] ∧ Spr H sp ∧ ∀ (H' : Hp) (r : Addr) (L : Lad), But sp H H' → Spr H' sp → TolAt H' r L → Good L → Q (.ref r) H'
abbrev n57 : List Str := ["_law_spring_here", "_law_small", "_law_power", "_law_part", "_law_units_here", "_law_sort", "_law_name", "_law_size_here"]
theorem sc57 : FnScope n57 ["_law_spring_here", "_law_small"] (defScope (top 57)) := ⟨rfl, rfl, rfl, by decide +kernel, rfl, by decide +kernel, by decide +kernel⟩
theorem ok_told (T : Txt K mg C) (D : Def K mg "_law_told" (top 57)) (c1 : Cal P w K mg base "_law_gulp" 1 ["_law_spring_here", "_law_many"] spGulp) (c2 : Cal P w K mg base "_law_some_of" 2 ["_law_spring_here", "_law_things"] spSome)
    (c3 : Cal P w K mg base "_law_units" 2 ["_law_spring_here", "_law_part", "_law_small"] spUnits) : Cal P w K mg base "_law_told" 3 ["_law_spring_here", "_law_small"] spTold := by
  refine D.cal sc57 (fun _ _ _ _ _ _ us hl => match us, hl with | [_, _], _ => rfl) (fun vs H Q E h => ?_) (fun f cdv A outer s H vs Q E hr h => ?_)
  · obtain ⟨sp, sm, rfl, _⟩ := h
    rfl
  · obtain ⟨sp, sm, rfl, hsp, q⟩ := h
    refine ⟨_, pss_cons (ps_set (i := 2) sc57.nd rfl (.inl rfl) (pcall c2 hr (pa_cons (pv 0) (pa_cons (pe_ifExp (pt_val (pv 1)) (pe_lst (pa_cons pe_int (pa_cons pe_int (pa_cons pe_int pa_nil)))) (pe_lst (pa_cons pe_int (pa_cons pe_int (pa_cons pe_int (pa_cons pe_int (pa_cons pe_int pa_nil))))))) pa_nil))))
      (pss_cons (ps_set (i := 3) sc57.nd rfl (.inr rfl) (pe_op op_mul pe_int (pe_ix ix_list (pe_lst (pa_cons pe_int (pa_cons pe_int (pa_cons pe_int (pa_cons pe_int pa_nil))))) (pv 2) (fun _ _ => rfl))))
      (pss_cons (ps_set (i := 4) sc57.nd rfl (.inl rfl) (pcall c3 hr (pa_cons (pv 0) (pa_cons (pv 3) (pa_cons (pv 1) pa_nil)))))
      (pss_cons (ps_if (pt_not (pt_val (pe_callB (cr_all rfl) (by rfl) T.all_ (by decide +kernel) (pa_cons
        (pe_lc (own := [("_law_name", 6), ("_law_size_here", 7)]) (g := gTup K 2 (gCons (gName 6) (gCons (gName 7) gNil))) (tt := tYes) rfl sc57.nd (pi_tup (pe_slice sl_tupA (pv 4) (po_some pe_int) po_none)) (blkOk_by (own := [("_law_name", 6), ("_law_size_here", 7)]) (N := n57) (sc := defScope (top 57)) (by decide +kernel))
            (fun _ _ _ _ _ => pg_tup rfl (pgs_cons (pg_name (i := 6) sc57.nd rfl (Or.inl rfl)) (pgs_cons (pg_name (i := 7) sc57.nd rfl (Or.inl rfl)) pgs_nil))) (fun _ _ _ _ _ => pts_nil)
            (fun _ _ _ _ _ => pe_cmpR op_eq (pe_op op_mul (pe_op op_fdivN (pv 7) (pv 3)) (pv 3)) (pv 7) (nomark _))) pa_nil)))) (pss_one (ps_set (i := 2) sc57.nd rfl (.inl rfl) pe_int)) pss_nil)
      (pss_cons (ps_set (i := 5) sc57.nd rfl (.inl rfl) (pcall c2 hr (pa_cons (pv 0) (pa_cons (pe_lst (pa_cons pe_str (pa_cons pe_str (pa_cons pe_str (pa_cons pe_str pa_nil))))) pa_nil))))
      (pss_one (ps_ret (pe_tup (pa_cons (pv 4) (pa_cons (pv 2) (pa_cons (pv 5) (pa_cons (pe_cmpR op_eq (pcall c1 hr (pa_cons (pv 0) (pa_cons pe_int pa_nil))) pe_int (nomark _))
        (pa_cons (pcall c2 hr (pa_cons (pv 0) (pa_cons (pe_lst (pa_cons pe_int (pa_cons pe_int (pa_cons pe_int (pa_cons pe_int (pa_cons (pe_ifExp (pt_val (pv 1)) pe_int pe_int) pa_nil)))))) pa_nil))) pa_nil)))))))))))), ?_⟩
    -- power
    have some1 : ∀ (l : Addr) (xs : List V) (H0 : Hp) (R : VK), H0 l = none → Spr H0 sp → 1 ≤ xs.length → xs.length ≤ 1000 → (∀ (H' : Hp) (x : V), But sp H0 H' → Spr H' sp → x ∈ xs → R x H') → spSome [.ref sp, .ref l] (upd H0 l (.lst xs)) R E0 := fun l xs H0 R nl s0 l1 l2 z =>
      ⟨sp, l, xs, rfl, s0.same (same_upd nl), s0.ne_none nl, .inl upd_same, l1, l2, fun H' x b' s' hx => z H' x (fun c o nc e => b' c o nc (same_upd nl _ _ e)) s' hx⟩
    refine ⟨_, rfl, _, rfl, sm, rfl, ?_⟩
    have go : ∀ (H1 : Hp) (d : Nat), But sp H H1 → Spr H1 sp → d ≤ 3 → tSeq (tAsg (tOp (rI CMul fun i j => .int (i * j)) (tC (.int 2)) (tOp (rIxL K) (tLst (tCons (tC (.int 1)) (tCons (tC (.int 10)) (tCons (tC (.int 100)) (tCons (tC (.int 1000)) tNil))))) (tVar 2))) (gName 3))
      (tSeq (tAsg (tCall spUnits [] E0 (tCons (tVar 0) (tCons (tVar 3) (tCons (tVar 1) tNil)))) (gName 4))
      (tSeq (tIfS (tNot (tB (tCB (rAll K) (tCons (tLc (iTup K (tSl (rSlA K) (tVar 4) (tPart (tC (.int 1))) tNoPart)) (gTup K 2 (gCons (gName 6) (gCons (gName 7) gNil))) tYes (tOp rEq (tOp (rI CMul fun i j => .int (i * j)) (tOp (rI CDivN fun i j => .int (i.fdiv j)) (tVar 7) (tVar 3)) (tVar 3)) (tVar 7)) [6, 7]) tNil)))) (tAsg (tC (.int 0)) (gName 2)) tNext)
      (tSeq (tAsg (tCall spSome [] E0 (tCons (tVar 0) (tCons (tLst (tCons (tC (.str "down")) (tCons (tC (.str "up")) (tCons (tC (.str "near")) (tCons (tC (.str "even")) tNil))))) tNil))) (gName 5))
        (tRet (tTup (tCons (tVar 4) (tCons (tVar 2) (tCons (tVar 5) (tCons (tOp rEq (tCall spGulp [] E0 (tCons (tVar 0) (tCons (tC (.int 2)) tNil))) (tC (.int 0)))
          (tCons (tCall spSome [] E0 (tCons (tVar 0) (tCons (tLst (tCons (tC (.int 1)) (tCons (tC (.int 1)) (tCons (tC (.int 1)) (tCons (tC (.int 2)) (tCons (tIf (tB (tVar 1)) (tC (.int 7)) (tC (.int 100))) tNil)))))) tNil))) tNil))))))))))
        { nx := fun _ H' => Q .non H', rt := Q } [some (.ref sp), some (.bl sm), some (.int d), none, none, none, none, none] H1 := fun H1 d b1 s1 hd => by
      have pb := part_bd d
      refine ⟨by show 4 ≤ sizeLine; decide, fun l nl => ⟨_, rfl, l, _, (d : Int), .int (p10 d), rfl, rfl, sL upd_same, atI_nat (pow_at hd), 2, p10 d, rfl, rfl, .inl ⟨by decide, by decide⟩, ?_⟩⟩
      have s1l := s1.same (same_upd (o := .lst [V.int 1, V.int 10, V.int 100, V.int 1000]) nl)
      refine ⟨_, rfl, _, rfl, _, rfl, sp, d, sm, rfl, s1l, fun H2 aU us b2 s2 ua uok ev => ?_⟩
      have b2' : But sp H H2 := (b1.trans (But.same (same_upd nl))).trans b2
      -- what follows, with the power that is left
      have rest : ∀ (H3 : Hp) (d' : Nat), But sp H2 H3 → Spr H3 sp → d' ≤ 3 → (∀ u ∈ us.tail, u.2 / (2 * p10 d') * (2 * p10 d') = u.2) → tSeq (tAsg (tCall spSome [] E0 (tCons (tVar 0) (tCons (tLst (tCons (tC (.str "down")) (tCons (tC (.str "up")) (tCons (tC (.str "near")) (tCons (tC (.str "even")) tNil))))) tNil))) (gName 5))
        (tRet (tTup (tCons (tVar 4) (tCons (tVar 2) (tCons (tVar 5) (tCons (tOp rEq (tCall spGulp [] E0 (tCons (tVar 0) (tCons (tC (.int 2)) tNil))) (tC (.int 0)))
          (tCons (tCall spSome [] E0 (tCons (tVar 0) (tCons (tLst (tCons (tC (.int 1)) (tCons (tC (.int 1)) (tCons (tC (.int 1)) (tCons (tC (.int 2)) (tCons (tIf (tB (tVar 1)) (tC (.int 7)) (tC (.int 100))) tNil)))))) tNil))) tNil)))))))
        { nx := fun _ H' => Q .non H', rt := Q } [some (.ref sp), some (.bl sm), some (.int d'), some (.int (2 * p10 d)), some (.ref aU), none, none, none] H3 := fun H3 d' b3 s3 hd' hp => by
        refine ⟨_, rfl, by show 4 ≤ sizeLine; decide, fun l2 nl2 => some1 l2 _ H3 _ nl2 s3 (by decide) (by decide) fun H4 x b4 s4 hx => ?_⟩
        obtain ⟨rn, rfl⟩ : ∃ rn : Rnd, x = .str rn.s := by
          simp only [List.mem_cons, List.not_mem_nil, or_false] at hx
          rcases hx with e | e | e | e
          · exact ⟨.down, e⟩
          · exact ⟨.up, e⟩
          · exact ⟨.near, e⟩
          · exact ⟨.even, e⟩
        refine ⟨_, rfl, _, rfl, _, rfl, _, rfl, sp, 2, rfl, s4, by decide, by decide, fun H5 g b5 s5 g0 g1 => ⟨rfl, _, rfl, _, rfl, sm, rfl, ?_⟩⟩
        have fin : ∀ (lz : Int), (lz = 7 ∨ lz = 100) → tNil [some (.ref sp), some (.bl sm), some (.int d'), some (.int (2 * p10 d)), some (.ref aU), some (.str rn.s), none, none] H5 fun ys H6 => ([V.int 1, V.int 1, V.int 1, V.int 2, V.int lz] ++ ys).length ≤ sizeLine ∧ ∀ p, H6 p = none → spSome [.ref sp, .ref p] (upd H6 p (.lst ([V.int 1, V.int 1, V.int 1, V.int 2, V.int lz] ++ ys))) (fun v H7 => ([V.ref aU, V.int d', V.str rn.s, V.bl (decide (V.int g = V.int 0)), v] : List V).length ≤ sizeLine ∧ ∀ p, H7 p = none → Q (.ref p) (upd H7 p (.tup [V.ref aU, V.int d', V.str rn.s, V.bl (decide (V.int g = V.int 0)), v]))) E0 := fun lz hlz => by
          refine ⟨by show 5 ≤ sizeLine; decide, fun l3 nl3 => some1 l3 _ H5 _ nl3 s5 (by show 1 ≤ 5; decide) (by show 5 ≤ 1000; decide) fun H6 x b6 s6 hx => ?_⟩
          obtain ⟨le, rfl, e1, e2⟩ : ∃ le : Int, x = .int le ∧ 1 ≤ le ∧ le ≤ 1000 := by
            simp only [List.append_nil, List.mem_cons, List.not_mem_nil, or_false] at hx
            rcases hx with e | e | e | e | e
            · exact ⟨1, e, by decide, by decide⟩
            · exact ⟨1, e, by decide, by decide⟩
            · exact ⟨1, e, by decide, by decide⟩
            · exact ⟨2, e, by decide, by decide⟩
            · exact ⟨lz, e, by omega, by omega⟩
          refine ⟨by show 5 ≤ sizeLine; decide, fun r nr => ?_⟩
          have sr := same_upd (o := .tup [V.ref aU, V.int d', V.str rn.s, V.bl (decide (V.int g = V.int 0)), V.int le]) nr
          have ua6 := b6.units s5 (b5.units s4 (b4.units s3 (b3.units s2 ua)))
          exact q _ r ⟨us, d', rn, decide (V.int g = V.int 0), le⟩ (((((b2'.trans b3).trans b4).trans b5).trans b6).trans (But.same sr)) (s6.same sr) ⟨aU, upd_same, ua6.same sr⟩ ⟨uok, hd', hp, e1, e2⟩
        cases hsm : sm with
        | true => rw [hsm] at fin; exact iteT (fin 7 (.inl rfl))
        | false => rw [hsm] at fin; exact iteF (fin 100 (.inr rfl))
      -- the test
      obtain ⟨rs, ha, hu⟩ := ua
      have hl := Paired.len hu
      have n1 := uok.n1
      have n6 := uok.n6
      refine ⟨_, rfl, 1, rfl, aU, _, rfl, sT ha, fun wh => absurd wh (tl_ne (by rw [List.length_map]; omega)), fun _ z nz => ⟨z, rfl, ⟨_, sT upd_same⟩, fun Dl hD => ?_⟩⟩
      rw [cut_1, ← List.map_drop] at hD ⊢
      generalize hZ : upd H2 z (.tup ((rs.drop 1).map V.ref)) = Z at hD ⊢
      have sZ : Same H2 Z := by rw [← hZ]; exact same_upd nz
      have hz : Z z = some (.tup ((rs.drop 1).map V.ref)) := by rw [← hZ]; exact upd_same
      refine lc_map (walk_tup (xs := (rs.drop 1).map V.ref)) (fun i H' => Same Z H' ∧ H' Dl = some (.lst ((us.tail.take i).map fun u => V.bl (decide (V.int (u.2.fdiv (2 * p10 d) * (2 * p10 d)) = V.int u.2))))) ⟨same_upd hD, upd_same⟩ (fun i H' _ y => sT (y.1 _ _ hz)) ?_ ?_
      · rintro i x H3 H4 hi ⟨sm3, hL⟩ ⟨rfl, hx⟩
        obtain ⟨r1, hri, rfl⟩ := mget hx
        obtain ⟨y, hy1, hy2⟩ := Paired.get1 (Paired.drop 1 hu) hri
        rw [List.drop_one] at hy1
        refine ⟨r1, _, rfl, sT (sm3 _ _ (sZ _ _ hy2)), rfl, .str y.1, _, rfl, .int y.2, [], rfl, rfl, rfl, ?_⟩
        refine ⟨.int y.2, rfl, .int (2 * p10 d), rfl, y.2, 2 * p10 d, rfl, rfl, ⟨by omega, by omega⟩, .int (2 * p10 d), rfl, _, 2 * p10 d, rfl, rfl, .inr ⟨by rw [pow64]; omega, by rw [pow64]; omega⟩, .int y.2, rfl, rfl, ?_⟩
        refine ⟨_, hL, ?_, fun b o e => ?_, ?_⟩
        · rw [List.length_map, List.length_take]
          have := List.length_map V.ref (as := rs.drop 1)
          exact small1000 (Nat.le_trans (Nat.min_le_left _ _) (by rw [this, List.length_drop] at hi; omega))
        · rw [upd_ne (ne_of_none e hD)]
          exact sm3 _ _ e
        · rw [upd_same, take_map (f := fun u : Str × Int => V.bl (decide (V.int (u.2.fdiv (2 * p10 d) * (2 * p10 d)) = V.int u.2))) hy1]
      · rintro H3 ⟨sm3, hL⟩
        rw [List.take_of_length_le (by rw [List.length_map, List.length_tail, List.length_drop]; omega)] at hL
        have s23 : Same H2 H3 := sZ.trans sm3
        have e3 : (us.tail.map fun u => V.bl (decide (V.int (u.2.fdiv (2 * p10 d) * (2 * p10 d)) = V.int u.2))) = (us.tail.map fun u => decide (V.int (u.2.fdiv (2 * p10 d) * (2 * p10 d)) = V.int u.2)).map V.bl := by
          rw [List.map_map]
          rfl
        rw [e3] at hL
        refine ⟨Dl, _, rfl, sL hL, _, rfl, ?_⟩
        cases hall : (us.tail.map fun u => decide (V.int (u.2.fdiv (2 * p10 d) * (2 * p10 d)) = V.int u.2)).all id with
        | true =>
          refine iteF (rest H3 d (But.same s23) (s2.same s23) hd fun u hu2 => ?_)
          have h1 := List.all_eq_true.mp hall (decide (V.int (u.2.fdiv (2 * p10 d) * (2 * p10 d)) = V.int u.2)) (List.mem_map.mpr ⟨u, hu2, rfl⟩)
          have h2 := V.int.inj (of_decide_eq_true h1)
          rw [fdv (by omega)] at h2
          exact h2
        | false =>
          refine iteT (rest H3 0 (But.same s23) (s2.same s23) (by decide) fun u hu2 => ?_)
          have h1 := ev u hu2
          show u.2 / (2 * 1) * (2 * 1) = u.2
          omega
    cases hsm : sm with
    | true =>
      rw [hsm] at go
      refine iteT ⟨by show 3 ≤ sizeLine; decide, fun l nl => some1 l _ H _ nl hsp (by decide) (by decide) fun H1 x b1 s1 hx => ?_⟩
      obtain ⟨d, hd, rfl⟩ : ∃ d : Nat, d ≤ 3 ∧ x = .int (d : Int) := by
        simp only [List.mem_cons, List.not_mem_nil, or_false] at hx
        rcases hx with e | e | e
        · exact ⟨0, by decide, e⟩
        · exact ⟨0, by decide, e⟩
        · exact ⟨1, by decide, e⟩
      exact go H1 d b1 s1 hd
    | false =>
      rw [hsm] at go
      refine iteF ⟨by show 5 ≤ sizeLine; decide, fun l nl => some1 l _ H _ nl hsp (by decide) (by decide) fun H1 x b1 s1 hx => ?_⟩
      obtain ⟨d, hd, rfl⟩ : ∃ d : Nat, d ≤ 3 ∧ x = .int (d : Int) := by
        simp only [List.mem_cons, List.not_mem_nil, or_false] at hx
        rcases hx with e | e | e | e | e
        · exact ⟨0, by decide, e⟩
        · exact ⟨1, by decide, e⟩
        · exact ⟨1, by decide, e⟩
        · exact ⟨2, by decide, e⟩
        · exact ⟨3, by decide, e⟩
      exact go H1 d b1 s1 hd
end
end SFW
end TWalkN

section TWalkO
set_option Elab.async false
set_option linter.all false
set_option maxRecDepth 100000
set_option maxHeartbeats 8000000
/-! WalkO: _law_made, _law_top. -/
namespace SFW
open PySem PySem.Spec PyProof.Rows L2 SFK SF TL
section
variable {P : Program} {w : World} {K : PySem.W.Frag} {mg : Str → Option Value} {base : Heap} {C : Addr}
/-! ### made -/
def spMade (C : Addr) : Sp := fun vs H Q _ => ∃ (r : Addr) (L : Lad), vs = [.ref r] ∧ TolAt H r L ∧ Good L ∧ ∀ (H' : Hp) (p : Addr), Same H H' → LadAt C H' p L → Q (.ref p) H'
abbrev n58 : List Str := ["_law_told_here", "_law_a", "_law_b", "_law_c", "_law_d", "_law_e"]
theorem sc58 : FnScope n58 ["_law_told_here"] (defScope (top 58)) := ⟨rfl, rfl, rfl, by decide +kernel, rfl, by decide +kernel, by decide +kernel⟩
theorem ok_made (T : Txt K mg C) (D : Def K mg "_law_made" (top 58)) (c1 : ∃ (f : Addr) (fd : FuncData), FnOk P w K mg base CX0 4 f fd ["self", "units", "decimals", "rounding", "carry", "least"] (spInit C) ∧ Mk K C f ∧ FunD K "__init__" "Ladder.__init__" (defArgs (mth 0)) (defBody (mth 0)) (defScope (mth 0)) [] [("carry", .bl true), ("least", .int 1)] f fd) :
    Cal P w K mg base "_law_made" 6 ["_law_told_here"] (spMade C) := by
  obtain ⟨fI, fdI, FI, MI, DI⟩ := c1
  obtain ⟨mv, kb⟩ := DI.kbinds0 (ps := ["self", "units", "decimals", "rounding", "carry", "least"]) 4 ["carry", "least"] [] (fun {α} vs (_ : List α) zs => vs ++ zs) (by simp) (fun q hq => by cases hq) (fun r1 _ r3 => r1.append r3)
    (fun D doc pm an cdv ct us mv ws l1 l2 l3 => match us, l1, ws, l3 with | [_, _, _, _], _, [_, _], _ => by rfl)
  refine D.cal sc58 (fun _ _ _ _ _ _ us hl => match us, hl with | [_], _ => rfl) (fun vs H Q E h => ?_) (fun f cdv A outer s H vs Q E hr h => ?_)
  · obtain ⟨r, L, rfl, _⟩ := h
    rfl
  · obtain ⟨r, L, rfl, ⟨aU, hR, ua⟩, g, q⟩ := h
    refine ⟨_, pss_cons (ps_asg (pv 0) (pg_tup rfl (pgs_cons (pg_name (i := 1) sc58.nd rfl (.inl rfl)) (pgs_cons (pg_name (i := 2) sc58.nd rfl (.inl rfl)) (pgs_cons (pg_name (i := 3) sc58.nd rfl (.inl rfl)) (pgs_cons (pg_name (i := 4) sc58.nd rfl (.inl rfl)) (pgs_cons (pg_name (i := 5) sc58.nd rfl (.inl rfl)) pgs_nil)))))))
      (pss_one (ps_ret (pe_makeK (n := 3) MI FI hr rfl T.gLad kb pass0 (pa_cons (pv 1) (pa_cons (pv 2) (pa_cons (pv 3) pa_nil))) (pk_cons (pv 4) (pk_cons (pv 5) pk_nil))))), ?_⟩
    refine ⟨_, rfl, r, _, rfl, sT hR, rfl, _, _, rfl, _, _, rfl, _, _, rfl, _, _, rfl, _, [], rfl, rfl, ?_⟩
    refine ⟨_, rfl, _, rfl, _, rfl, _, rfl, _, rfl, rfl, rfl, fun x dx nx ndx hne => ?_⟩
    have s1 : Same H (upd (upd H dx (.own x)) x (.ins C dx [])) := fun b o e => by
      rw [upd_ne (ne_of_none e nx), upd_ne (ne_of_none e ndx)]
      exact e
    refine ⟨x, dx, aU, L, rfl, upd_same, ua.same s1, g, fun H' kp la => ⟨rfl, q H' x (fun b o e => kp b o (ne_of_none e nx) (s1 b o e)) la⟩⟩
/-! ### top -/
def spTop : Sp := fun vs H Q _ => ∃ (sp r : Addr) (L : Lad), vs = [.ref sp, .ref r] ∧ Spr H sp ∧ TolAt H r L ∧ Good L ∧ ∀ (H' : Hp) (n : Int), But sp H H' → Spr H' sp → 0 ≤ n → n ≤ big → Q (.int n) H'
abbrev n59 : List Str := ["_law_spring_here", "_law_told_here", "_law_way", "_law_unit_here", "_law_step", "_law_near_here", "_law_half"]
theorem sc59 : FnScope n59 ["_law_spring_here", "_law_told_here"] (defScope (top 59)) := ⟨rfl, rfl, rfl, by decide +kernel, rfl, by decide +kernel, by decide +kernel⟩
theorem ten18 : (10 : Int) ^ (18 : Int).toNat = big := by decide
theorem ten7 : (10 : Int) ^ (7 : Int).toNat = 10000000 := by decide
/-- within 0 and 10 ** 18 -/
def clip (z : Int) : Int := if (if z < big then z else big) > 0 then (if z < big then z else big) else 0
theorem clip_ok (z : Int) : 0 ≤ clip z ∧ clip z ≤ big := by
  have hb : (0 : Int) ≤ big := by decide
  unfold clip
  by_cases h : z < big
  · rw [if_pos h]; split <;> omega
  · rw [if_neg h]; split <;> omega
theorem ok_top (T : Txt K mg C) (D : Def K mg "_law_top" (top 59)) (c1 : Cal P w K mg base "_law_gulp" 1 ["_law_spring_here", "_law_many"] spGulp) (c2 : Cal P w K mg base "_law_some_of" 2 ["_law_spring_here", "_law_things"] spSome) :
    Cal P w K mg base "_law_top" 3 ["_law_spring_here", "_law_told_here"] spTop := by
  refine D.cal sc59 (fun _ _ _ _ _ _ us hl => match us, hl with | [_, _], _ => rfl) (fun vs H Q E h => ?_) (fun f cdv A outer s H vs Q E hr h => ?_)
  · obtain ⟨sp, r, L, rfl, _⟩ := h
    rfl
  · obtain ⟨sp, r, L, rfl, hsp, tol, g, q⟩ := h
    have ok := g.ok
    refine ⟨_, pss_cons (ps_par (i := 2) (j := 3) rfl sc59.nd rfl rfl (by decide) rfl rfl (pa_cons (pcall c1 hr (pa_cons (pv 0) (pa_cons pe_int pa_nil))) (pa_cons (pcall c2 hr (pa_cons (pv 0) (pa_cons (pe_ix ix_tup (pv 1) pe_int (fun _ _ => rfl)) pa_nil))) pa_nil)) (by rfl))
      (pss_cons (ps_set (i := 4) sc59.nd rfl (.inl rfl) (pe_callB (call_max2 rfl) (by rfl) T.max_ (by decide +kernel) (pa_cons pe_int (pa_cons (pe_op op_fdivN (pe_ix ix_tup (pv 3) pe_int (fun _ _ => rfl)) (pe_ix ix_list (pe_lst (pa_cons pe_int (pa_cons pe_int (pa_cons pe_int (pa_cons pe_int pa_nil))))) (pe_ix ix_tup (pv 1) pe_int (fun _ _ => rfl)) (fun _ _ => rfl))) pa_nil))))
      (pss_cons (ps_set (i := 5) sc59.nd rfl (.inl rfl) (pe_op op_sub (pcall c1 hr (pa_cons (pv 0) (pa_cons pe_int pa_nil))) pe_int))
      (pss_cons (ps_if (pt_cmpR op_eq (pv 2) pe_int (nomark _)) (pss_one (ps_ret (pcall c1 hr (pa_cons (pv 0) (pa_cons (pcall c2 hr (pa_cons (pv 0) (pa_cons (pe_lst (pa_cons pe_int (pa_cons pe_int (pa_cons (pe_op op_pow pe_int pe_int) (pa_cons (pe_op op_pow pe_int pe_int) pa_nil))))) pa_nil))) pa_nil))))) pss_nil)
      (pss_cons (ps_if (pt_cmpR op_eq (pv 2) pe_int (nomark _)) (pss_one (ps_ret (pe_callB (call_max2 rfl) (by rfl) T.max_ (by decide +kernel) (pa_cons pe_int (pa_cons (pe_callB (call_min2 rfl) (by rfl) T.min_ (by decide +kernel) (pa_cons (pe_op op_pow pe_int pe_int) (pa_cons (pe_op op_add (pe_op op_mul (pe_ix ix_tup (pv 1) pe_int (fun _ _ => rfl)) (pe_ix ix_tup (pv 3) pe_int (fun _ _ => rfl))) (pv 5)) pa_nil))) pa_nil))))) pss_nil)
      (pss_cons (ps_if (pt_cmpR op_eq (pv 2) pe_int (nomark _)) (pss_one (ps_ret (pe_callB (call_max2 rfl) (by rfl) T.max_ (by decide +kernel) (pa_cons pe_int (pa_cons (pe_callB (call_min2 rfl) (by rfl) T.min_ (by decide +kernel) (pa_cons (pe_op op_pow pe_int pe_int) (pa_cons (pe_op op_add (pe_op op_sub (pe_op op_mul (pe_ix ix_tup (pv 1) pe_int (fun _ _ => rfl)) (pe_ix ix_tup (pv 3) pe_int (fun _ _ => rfl))) (pe_op op_fdiv (pv 4) pe_int)) (pv 5)) pa_nil))) pa_nil))))) pss_nil)
      (pss_cons (ps_set (i := 6) sc59.nd rfl (.inl rfl) (pe_op op_mul (pe_op op_fdiv (pv 4) pe_int) (pe_op op_add pe_int (pe_op op_mul pe_int (pcall c1 hr (pa_cons (pv 0) (pa_cons pe_int pa_nil)))))))
      (pss_one (ps_ret (pe_callB (call_max2 rfl) (by rfl) T.max_ (by decide +kernel) (pa_cons pe_int (pa_cons (pe_callB (call_min2 rfl) (by rfl) T.min_ (by decide +kernel) (pa_cons (pe_op op_pow pe_int pe_int) (pa_cons (pe_op op_add (pe_ifExp (pt_cmpR op_eq (pv 2) pe_int (nomark _)) (pv 6) (pe_op op_mul (pv 4) (pcall c1 hr (pa_cons (pv 0) (pa_cons pe_int pa_nil))))) (pv 5)) pa_nil))) pa_nil))))))))))), ?_⟩
    -- way, unit
    refine ⟨_, rfl, sp, 5, rfl, hsp, by decide, by decide, fun H1 way b1 s1 w0 w1 => ?_⟩
    have tol1 := tol.but b1 hsp
    obtain ⟨aU, hR1, rs, hU1, hu1⟩ := id tol1
    have hlen := Paired.len hu1
    have n1 := g.uok.n1
    have n6 := g.uok.n6
    refine ⟨_, rfl, _, rfl, r, _, 0, .ref aU, rfl, rfl, sT hR1, atI_nat (j := 0) rfl, ?_⟩
    refine ⟨sp, aU, rs.map V.ref, rfl, s1, s1.ne hU1 (fun _ z => by cases z), .inr hU1, by rw [List.length_map]; omega, by rw [List.length_map]; omega, fun H2 x b2 s2 hx => ?_⟩
    obtain ⟨r1, hr1, rfl⟩ := List.mem_map.mp hx
    obtain ⟨j, hj, ej⟩ := List.mem_iff_getElem.mp hr1
    obtain ⟨u, hy1, hy2⟩ := Paired.get1 hu1 (show rs[j]? = some r1 by rw [List.getElem?_eq_getElem hj, ej])
    have uok := (g.uok.one j u hy1).1
    have tol2 := tol1.but b2 s1
    obtain ⟨aU2, hR2, _⟩ := id tol2
    have hr2 : H2 r1 = some (.tup [.str u.1, .int u.2]) := b2.tup s1 hy2
    have b12 := b1.trans b2
    have ulo := uok.lo
    have uhi : u.2 ≤ 1000000000000000000 := uok.hi
    have pp := p10_pos L.dec
    have pl := p10_le L.dec
    refine ⟨_, _, rfl, ?_⟩
    -- step
    refine ⟨_, rfl, r1, _, 1, .int u.2, rfl, rfl, sT hr2, atI_nat (j := 1) rfl, by show 4 ≤ sizeLine; decide, fun l nl => ?_⟩
    have sl := same_upd (o := .lst [V.int 1, V.int 10, V.int 100, V.int 1000]) nl
    have s2l := s2.same sl
    refine ⟨_, rfl, r, _, 1, .int L.dec, rfl, rfl, sT (sl _ _ hR2), atI_nat (j := 1) rfl, l, _, (L.dec : Int), .int (p10 L.dec), rfl, rfl, sL upd_same, atI_nat (pow_at g.dec), u.2, p10 L.dec, rfl, rfl, ⟨by omega, by omega⟩, 1, _, rfl, ?_⟩
    generalize hst : (if u.2.fdiv (p10 L.dec) > 1 then u.2.fdiv (p10 L.dec) else 1) = st
    have st1 : 1 ≤ st ∧ st ≤ 1000000000000000000 := by
      rw [← hst, fdv (by omega)]
      have := Int.ediv_le_self (p10 L.dec) (show 0 ≤ u.2 by omega)
      split <;> omega
    obtain ⟨st1, st2⟩ := st1
    have s60 : ∀ z : Int, 0 ≤ z → z ≤ 1000000000000000000 → CMul z z := fun z h0 h1 => .inl (big64 h0 h1)
    -- near
    refine ⟨_, rfl, sp, 5, rfl, s2l, by decide, by decide, fun H3 nr b3 s3 nr0 nr1 => ⟨nr, 2, rfl, rfl, ?_⟩⟩
    have b13 : But sp H H3 := (b12.trans (But.same sl)).trans b3
    have tol3 := (tol2.same sl).but b3 s2l
    obtain ⟨aU3, hR3, _⟩ := id tol3
    have hr3 : H3 r1 = some (.tup [.str u.1, .int u.2]) := b3.tup s2l (sl _ _ hr2)
    have l1 := g.le1
    have l2 := g.le2
    have out : ∀ (z : Int) (H' : Hp), But sp H H' → Spr H' sp → Q (.int (if (if z < (10 : Int) ^ (18 : Int).toNat then z else (10 : Int) ^ (18 : Int).toNat) > 0 then (if z < (10 : Int) ^ (18 : Int).toNat then z else (10 : Int) ^ (18 : Int).toNat) else 0)) H' := fun z H' b' s' => by
      rw [ten18]
      exact q H' (clip z) b' s' (clip_ok z).1 (clip_ok z).2
    refine ⟨_, rfl, rfl, _, rfl, ?_⟩
    by_cases hw0 : way = 0
    · refine iT (congrArg V.int hw0) ?_
      refine ⟨_, rfl, _, rfl, 10, 7, rfl, rfl, ⟨by decide, by decide, by decide⟩, 10, 18, rfl, rfl, ⟨by decide, by decide, by decide⟩, by show 4 ≤ sizeLine; decide, fun l4 nl4 => ?_⟩
      have sl4 := same_upd (o := .lst [V.int 20, V.int 3000, V.int (10 ^ (7 : Int).toNat), V.int (10 ^ (18 : Int).toNat)]) nl4
      refine ⟨sp, l4, _, rfl, s3.same sl4, s3.ne_none nl4, .inl upd_same, by show 1 ≤ 4; decide, by show 4 ≤ 1000; decide, fun H4 x b4 s4 hx => ?_⟩
      obtain ⟨mn, rfl, m1, m2⟩ : ∃ mn : Int, x = .int mn ∧ 1 ≤ mn ∧ mn ≤ big := by
        simp only [List.mem_cons, List.not_mem_nil, or_false] at hx
        rcases hx with e | e | e | e
        · exact ⟨20, e, by decide, by decide⟩
        · exact ⟨3000, e, by decide, by decide⟩
        · exact ⟨_, e, by decide, by decide⟩
        · exact ⟨_, e, by decide, by decide⟩
      exact ⟨sp, mn, rfl, s4, m1, m2, fun H5 d b5 s5 d0 d1 => q H5 d (((b13.trans (But.same sl4)).trans b4).trans b5) s5 d0 (by omega)⟩
    · refine iF (fun z => hw0 (V.int.inj z)) ⟨_, rfl, rfl, _, rfl, ?_⟩
      by_cases hw1 : way = 1
      · refine iT (congrArg V.int hw1) ⟨10, 18, rfl, rfl, ⟨by decide, by decide, by decide⟩, _, rfl, r, _, 4, .int L.least, rfl, rfl, sT hR3, atI_nat (j := 4) rfl, _, rfl, r1, _, 1, .int u.2, rfl, rfl, sT hr3, atI_nat (j := 1) rfl, L.least, u.2, rfl, rfl, .inl ⟨by rw [pow64]; omega, by rw [pow64]; omega⟩, _, rfl, _, _, rfl, rfl, _, _, rfl, 0, _, rfl, out _ _ b13 s3⟩
      · refine iF (fun z => hw1 (V.int.inj z)) ⟨_, rfl, rfl, _, rfl, ?_⟩
        by_cases hw2 : way = 2
        · refine iT (congrArg V.int hw2) ⟨10, 18, rfl, rfl, ⟨by decide, by decide, by decide⟩, _, rfl, r, _, 4, .int L.least, rfl, rfl, sT hR3, atI_nat (j := 4) rfl, _, rfl, r1, _, 1, .int u.2, rfl, rfl, sT hr3, atI_nat (j := 1) rfl, L.least, u.2, rfl, rfl, .inl ⟨by rw [pow64]; omega, by rw [pow64]; omega⟩, _, rfl, st, 2, rfl, rfl, ⟨by decide, by decide⟩, _, _, rfl, rfl, _, rfl, _, _, rfl, rfl, _, _, rfl, 0, _, rfl, out _ _ b13 s3⟩
        · refine iF (fun z => hw2 (V.int.inj z)) ⟨_, rfl, st, 2, rfl, rfl, ⟨by decide, by decide⟩, _, rfl, sp, 3000, rfl, s3, by decide, by decide, fun H4 g4 b4 s4 g40 g41 => ?_⟩
          refine ⟨2, g4, rfl, rfl, .inl ⟨by decide, by decide⟩, 1, _, rfl, rfl, _, _, rfl, rfl, .inl ⟨by rw [pow64]; omega, by rw [pow64]; omega⟩, ?_⟩
          refine ⟨10, 18, rfl, rfl, ⟨by decide, by decide, by decide⟩, _, rfl, rfl, _, rfl, ?_⟩
          by_cases hw3 : way = 3
          · exact iT (congrArg V.int hw3) ⟨_, rfl, _, rfl, _, _, rfl, rfl, _, _, rfl, 0, _, rfl, out _ _ (b13.trans b4) s4⟩
          · exact iF (fun z => hw3 (V.int.inj z)) ⟨_, rfl, _, rfl, sp, 3000, rfl, s4, by decide, by decide, fun H5 g5 b5 s5 g50 g51 => ⟨st, g5, rfl, rfl, .inl ⟨by rw [pow64]; omega, by rw [pow64]; omega⟩, _, rfl, _, _, rfl, rfl, _, _, rfl, 0, _, rfl, out _ _ ((b13.trans b4).trans b5) s5⟩⟩
end
end SFW
end TWalkO

section TMathR
set_option Elab.async false
set_option linter.all false
set_option maxRecDepth 100000
set_option maxHeartbeats 4000000
/-! MathR: figures are told apart by their texts; the plain law's parts. -/
namespace SFW
open PySem PySem.Spec PyProof.Rows L2 SFK SF TL
/-! ### texts tell figures apart -/
theorem ftxt_nat {L : Lad} {u k : Nat} : ftxt L u k = S (figL (plain L u) L.dec k ++ tl (L.name u)) := by
  unfold ftxt
  rw [Int.toNat_natCast]
theorem ftxt_toNat {L : Lad} {u : Nat} {m : Int} : ftxt L u (m.toNat : Nat) = ftxt L u m := by
  unfold ftxt
  rw [Int.toNat_natCast]
theorem strip_ftxt {L : Lad} (nm : Nm L) {u k : Nat} (hu : u < L.k) : Txt.rstripChars (ftxt L u k) lets = S (figL (plain L u) L.dec k) := by
  obtain ⟨l, c, e, d1, d2⟩ := figL_last (plain L u) L.dec k (fun z => by
    unfold plain at z
    simp at z
    omega)
  rw [ftxt_nat, e]
  exact rstrip_S (nm.letters u hu) (dig_let d1 d2)
theorem figL_inj {p : Bool} {d a b : Nat} (h : figL p d a = figL p d b) : a = b := by
  cases p with
  | true =>
    have h2 : numL a = numL b := h
    have h3 := rd_num a
    rw [h2, rd_num b] at h3
    omega
  | false =>
    have h2 : numL (a / 10 ^ d) ++ (46 :: padL d a) = numL (b / 10 ^ d) ++ (46 :: padL d b) := h
    have h3 := List.append_inj_right' h2 (by rw [List.length_cons, List.length_cons, padL_len, padL_len])
    have h4 := List.append_inj_left' h2 (by rw [List.length_cons, List.length_cons, padL_len, padL_len])
    have h5 : padL d a = padL d b := (List.cons.inj h3).2
    have e1 := rd_num (a / 10 ^ d)
    rw [h4, rd_num] at e1
    have e2 := rd_pad d a
    rw [← e1, h5, rd_pad] at e2
    omega
theorem ftxt_inj {L : Lad} (nm : Nm L) {u v a b : Nat} (hu : u < L.k) (hv : v < L.k) (h : ftxt L u a = ftxt L v b) : u = v ∧ a = b := by
  have h1 := strip_ftxt nm (k := a) hu
  rw [h, strip_ftxt nm hv] at h1
  have h2 := S_inj h1
  rw [ftxt_nat, ftxt_nat, ← h2] at h
  have h3 := S_inj h
  have h4 : tl (L.name u) = tl (L.name v) := List.append_cancel_left h3
  have h5 : L.name u = L.name v := by rw [← S_tl (L.name u), h4, S_tl]
  have h6 := nm.inj u v hu hv h5
  subst h6
  exact ⟨rfl, (figL_inj h2).symm⟩
section
variable {L : Lad} {ok : L.Ok}
/-- the figure of n has unit and mark -/
theorem fig_nat {n : Int} (hn : 0 ≤ n) : fig L ok n = ftxt L ((L.sys ok).unit n) ((L.m ((L.sys ok).unit n) n).toNat : Nat) := by
  rw [ftxt_toNat]
  rfl
theorem mk_nat {n : Int} (hn : 0 ≤ n) : ((L.m ((L.sys ok).unit n) n).toNat : Int) = L.m ((L.sys ok).unit n) n := by
  have := (ok.m_le ((L.sys ok).unit_lt n) hn).2
  omega
theorem fig_eq (nm : Nm L) {a b : Int} (ha : 0 ≤ a) (hb : 0 ≤ b) : fig L ok a = fig L ok b ↔ ((L.sys ok).unit a = (L.sys ok).unit b ∧ L.m ((L.sys ok).unit a) a = L.m ((L.sys ok).unit b) b) := by
  constructor
  · intro h
    rw [fig_nat ha, fig_nat hb] at h
    obtain ⟨h1, h2⟩ := ftxt_inj nm ((L.sys ok).unit_lt a) ((L.sys ok).unit_lt b) h
    refine ⟨h1, ?_⟩
    rw [← mk_nat ha, ← mk_nat hb, h2]
  · rintro ⟨h1, h2⟩
    unfold fig
    rw [h1] at h2 ⊢
    rw [h2]
/-- the same figure, or the next place -/
theorem same_ok (nm : Nm L) {b : Int} (hb : 0 ≤ b) : (L.sys ok).pl (b + 1) = (L.sys ok).pl b + (if decide (V.str (fig L ok b) = V.str (fig L ok (b + 1))) = true then 0 else 1) := by
  have h := (L.sys ok).pl_succ hb
  by_cases hc : fig L ok b = fig L ok (b + 1)
  · rw [if_pos (decide_eq_true (congrArg V.str hc))]
    have h2 := (fig_eq nm hb (by omega)).mp hc
    rcases h with ⟨_, _, h3⟩ | ⟨h3, _⟩
    · omega
    · exact absurd ⟨h2.1.symm, h2.2.symm⟩ h3
  · rw [if_neg (by rw [decide_eq_false (fun z => hc (V.str.inj z))]; exact Bool.false_ne_true)]
    rcases h with ⟨h1, h2, _⟩ | ⟨_, h3⟩
    · exact absurd ((fig_eq nm hb (by omega)).mpr ⟨h1.symm, h2.symm⟩) hc
    · exact h3
/-- a figure by its place -/
structure At (L : Lad) (ok : L.Ok) (n : Int) (u k : Nat) : Prop where
  sh : (L.sys ok).Shown u k
  pl : (L.sys ok).plp u k = n
theorem At.kt {n : Int} {u k : Nat} (h : At L ok n u k) (hn : n ≤ 1000000) : (k : Int) < mtop := by
  have h1 := h.pl
  have hu : u < L.k := h.sh.1
  have hst := ok.start_top hu
  have hm := ok.m_le hu hst.1
  have hbf := (L.sys ok).bf_nonneg (u := u) hu
  have e : (L.sys ok).plp u k = (L.sys ok).bf u + k - L.m u (L.start u) := rfl
  rw [e] at h1
  show _ < (1000000000000000000000000 : Int)
  omega
theorem At.first {n : Int} {u : Nat} (h : (L.sys ok).IsP n u) : At L ok n u (n - (L.sys ok).bf u + L.m u (L.start u)).toNat ∧ ftxt L u (n - (L.sys ok).bf u + L.m u (L.start u)) = ftxt L u ((n - (L.sys ok).bf u + L.m u (L.start u)).toNat : Nat) := by
  have hs := (L.sys ok).at_shown h
  have hu : u < L.k := h.1
  have hst := ok.start_top hu
  have hm := ok.m_le hu hst.1
  have hb := h.2.1
  have e : (((n - (L.sys ok).bf u + L.m u (L.start u)).toNat : Nat) : Int) = n - (L.sys ok).bf u + L.m u (L.start u) := by omega
  refine ⟨⟨?_, ?_⟩, ftxt_toNat.symm⟩
  · rw [e]
    exact hs.1
  · rw [e]
    exact hs.2
theorem At.pl_lo {n : Int} {u k : Nat} (h : At L ok n u k) : (L.sys ok).pl ((L.sys ok).lo u k) = n := by
  rw [(L.sys ok).pl_of h.sh.1 (Int.le_refl _) h.sh.2, h.pl]
theorem At.pl_hi {n : Int} {u k : Nat} (h : At L ok n u k) : (L.sys ok).pl ((L.sys ok).hi u k) = n := by
  rw [(L.sys ok).pl_of h.sh.1 h.sh.2 (Int.le_refl _), h.pl]
theorem At.hi0 {n : Int} {u k : Nat} (h : At L ok n u k) : 0 ≤ (L.sys ok).hi u k := by
  have := (L.sys ok).lo_nonneg (x := k) h.sh.1
  have := h.sh.2
  omega
/-- the next figure -/
theorem At.next {n : Int} {u k : Nat} (h : At L ok n u k) : ∃ u' k' : Nat, At L ok (n + 1) u' k' ∧ fig L ok ((L.sys ok).hi u k + 1) = ftxt L u' k' ∧ L.m ((L.sys ok).unit ((L.sys ok).hi u k + 1)) ((L.sys ok).hi u k + 1) = k' ∧ (L.sys ok).lo u k ≤ (L.sys ok).lo u' k' := by
  have h0 := h.hi0
  have hn : 0 ≤ (L.sys ok).hi u k + 1 := by omega
  have hp := (L.sys ok).pl_next h.sh
  have hh := h.pl_hi
  have hl := h.sh.2
  generalize (L.sys ok).hi u k + 1 = x at hn hp ⊢
  have e := mk_nat (ok := ok) hn
  have hs := (L.sys ok).shown_of hn
  have em : (L.sys ok).m ((L.sys ok).unit x) x = L.m ((L.sys ok).unit x) x := rfl
  have hA : At L ok (n + 1) ((L.sys ok).unit x) (L.m ((L.sys ok).unit x) x).toNat := by
    refine ⟨by rw [e]; exact hs, ?_⟩
    rw [e]
    have : (L.sys ok).pl x = (L.sys ok).plp ((L.sys ok).unit x) (L.m ((L.sys ok).unit x) x) := rfl
    rw [← this, hp, h.pl]
  refine ⟨_, _, hA, fig_nat hn, e.symm, ?_⟩
  have h1 := hA.pl_lo
  have h2 := (L.sys ok).lo_nonneg (x := ((L.m ((L.sys ok).unit x) x).toNat : Nat)) hA.sh.1
  rcases Int.lt_or_le ((L.sys ok).lo ((L.sys ok).unit x) ((L.m ((L.sys ok).unit x) x).toNat : Nat)) ((L.sys ok).lo u k) with q | q
  · have h3 := (L.sys ok).pl_mono h2 (Int.le_of_lt q)
    rw [h1, h.pl_lo] at h3
    omega
  · exact q
theorem mark_top {n : Int} (hn : 0 ≤ n) (h : n ≤ big) : ((L.m ((L.sys ok).unit n) n).toNat : Int) < mtop := by
  have h1 := ok.m_le ((L.sys ok).unit_lt n) hn
  have h2 : n ≤ 1000000000000000000 := h
  show _ < (1000000000000000000000000 : Int)
  omega
end
theorem LadAt.but {C : Addr} {H H' : Hp} {sp p : Addr} {L : Lad} (s : But sp H H') (hs : Spr H sp) (h : LadAt C H p L) : LadAt C H' p L := by
  obtain ⟨fs, ⟨⟨dx, h1⟩, ⟨a, h2, h2'⟩, h3, h4, h5, ⟨b, h6, h6'⟩, ⟨c, h7, h7'⟩, h8⟩, d, h9, h9'⟩ := h.pre
  exact ⟨fs, ⟨⟨dx, s _ _ (hs.ne h1 fun _ z => by cases z) h1⟩, ⟨a, h2, s.units hs h2'⟩, h3, h4, h5, ⟨b, h6, s.tup hs h6'⟩, ⟨c, h7, s.tup hs h7'⟩, h8⟩, d, h9, s.tup hs h9'⟩
end SFW
end TMathR

section TWalkP
set_option Elab.async false
set_option linter.all false
set_option maxRecDepth 100000
set_option maxHeartbeats 8000000
/-! WalkP: _law_right. -/
namespace SFW
open PySem PySem.Spec PyProof.Rows L2 SFK SF TL
theorem Spr.upd_ne {H : Hp} {sp b : Addr} {o : HO} (h : Spr H sp) (n : b ≠ sp) : Spr (upd H b o) sp := by
  obtain ⟨x, y, c, e, hb⟩ := h
  exact ⟨x, y, c, by rw [L2.upd_ne n.symm]; exact e, hb⟩
section
variable {P : Program} {w : World} {K : PySem.W.Frag} {mg : Str → Option Value} {base : Heap} {C : Addr}
def spRight : Sp := fun vs H Q _ => ∃ sp : Addr, vs = [.ref sp] ∧ Spr H sp ∧ ∀ H', But sp H H' → Q (.bl true) H'
abbrev n60 : List Str := ["_law_spring_here", "_law_again", "_law_told_here", "_law_made_here", "_law_turn", "_law_a", "_law_b", "_law_c", "_law_same", "_law_both", "_law_first", "_law_last", "_law_spot", "_law_steps_here", "_law_line", "_law_k"]
theorem sc60 : FnScope n60 ["_law_spring_here"] (defScope (top 60)) := ⟨rfl, rfl, rfl, by decide +kernel, rfl, by decide +kernel, by decide +kernel⟩
abbrev bC (v : Int) : V := .int v
abbrev tMin : List V → Hp → VK → Prop := fun xs H Q => ∃ i j, xs = [.int i, .int j] ∧ Q (.int (if j < i then j else i)) H
abbrev tTen : TE := tOp (rI CPow fun i j => .int (i ^ j.toNat)) (tC (.int 10)) (tC (.int 18))
abbrev tForms (C : Addr) (p a b : TE) : TE := tCall (spForms C) [] E0 (tCons p (tCons a (tCons b tNil)))
abbrev tShow (C : Addr) (p a : TE) : TE := tCall (spShow C) [] E0 (tCons p (tCons a tNil))
theorem cp18 : CPow 10 18 := ⟨by decide, by decide, by decide⟩
/-- the test for the same figure -/
theorem and_ok {L : Lad} (g : Good L) {σ : L2.St} {H : Hp} {p : Addr} {b : Int} {Q : VK} (e3 : σ[3]? = some (some (.ref p))) (e6 : σ[6]? = some (some (.int b))) (la : LadAt C H p L) (b0 : 0 ≤ b) (b1 : b ≤ big)
    (h : ∀ (sm : Bool) (H' : Hp), Same H H' → (b < big → (L.sys g.ok).pl (b + 1) = (L.sys g.ok).pl b + (if sm = true then 0 else 1)) → Q (.bl sm) H') :
    tAndV (tOp (rI0 fun i j => .bl (decide (i < j))) (tVar 6) tTen) (tOp rEq (tShow C (tVar 3) (tVar 6)) (tShow C (tVar 3) (tCB tMin (tCons tTen (tCons (tOp (rI0 fun i j => .int (i + j)) (tVar 6) (tC (.int 1))) tNil))))) σ H Q := by
  refine ⟨_, e6, 10, 18, rfl, rfl, cp18, b, _, rfl, rfl, _, rfl, ?_⟩
  rw [ten18]
  by_cases hc : b < big
  · refine iT hc ⟨_, e3, _, e6, p, L, g.ok, b, rfl, la, g.nm, b0, b1, fun H1 s1 => ?_⟩
    refine ⟨_, e3, 10, 18, rfl, rfl, cp18, _, e6, b, 1, rfl, rfl, _, _, rfl, ?_⟩
    rw [ten18]
    have hm : (if b + 1 < big then b + 1 else big) = b + 1 := by split <;> omega
    rw [hm]
    exact ⟨p, L, g.ok, b + 1, rfl, la.same s1, g.nm, by omega, by omega, fun H2 s2 => ⟨rfl, h _ H2 (s1.trans s2) fun _ => same_ok g.nm b0⟩⟩
  · exact iF hc (h false H (Same.refl H) fun z => absurd z hc)
/-- the range of b's figure: one figure -/
theorem part2 {L : Lad} (g : Good L) {H : Hp} {p : Addr} {a b : Int} {D : Ends} {y0 y1 y2 y4 y7 y8 y9 y10 y11 y12 y13 y14 y15 : Option V} (la : LadAt C H p L) (a0 : 0 ≤ a) (ab : a ≤ b) (b1 : b ≤ big)
    (h : ∀ (H' : Hp) (z10 z11 : Option V), Same H H' → D.nx [y0, y1, y2, some (.ref p), y4, some (.int a), some (.int b), y7, y8, y9, z10, z11, y12, y13, y14, y15] H') :
    tSeq (tAsg (tCall (spRangeIn C) [] E0 (tCons (tVar 3) (tCons (tShow C (tVar 3) (tVar 6)) tNil))) (gTup K 2 (gCons (gName 10) (gCons (gName 11) gNil))))
      (tIfS (tOr (tTest (tOp rNe (tForms C (tVar 3) (tVar 10) (tCB tMin (tCons (tVar 11) (tCons tTen tNil)))) (tC (.int 1)))) (tTest (tOp rNe (tForms C (tVar 3) (tVar 5) (tVar 5)) (tC (.int 1))))) tNever tNext)
      D [y0, y1, y2, some (.ref p), y4, some (.int a), some (.int b), y7, y8, y9, y10, y11, y12, y13, y14, y15] H := by
  have b0 : 0 ≤ b := by omega
  have ok := g.ok
  refine ⟨_, rfl, _, rfl, _, rfl, p, L, ok, b, rfl, la, g.nm, b0, b1, fun H1 s1 => ?_⟩
  have sh := (L.sys ok).shown_of b0
  have ll := (L.sys ok).lo_le b0
  have mn := mk_nat (ok := ok) b0
  have em : (L.sys ok).m ((L.sys ok).unit b) b = L.m ((L.sys ok).unit b) b := rfl
  have kt := mark_top (ok := ok) b0 b1
  rw [em, ← mn] at sh ll
  have hf := fig_nat (ok := ok) b0
  rw [hf]
  generalize (L.m ((L.sys ok).unit b) b).toNat = k at *
  generalize (L.sys ok).unit b = u at *
  have la1 := la.same s1
  refine ⟨p, L, ok, u, k, rfl, ⟨la1, g.nm, sh, kt⟩, fun H2 r s2 hr => ⟨r, _, rfl, sT hr, rfl, _, _, rfl, _, [], rfl, rfl, ?_⟩⟩
  have la2 := la1.same s2
  have lo0 := (L.sys ok).lo_nonneg (x := k) sh.1
  refine ⟨_, rfl, _, rfl, _, rfl, 10, 18, rfl, rfl, cp18, _, _, rfl, ?_⟩
  rw [ten18]
  generalize hx : (if big < (L.sys ok).hi u k then big else (L.sys ok).hi u k) = x
  have x1 : b ≤ x ∧ x ≤ (L.sys ok).hi u k ∧ x ≤ big := by
    rw [← hx]
    split <;> omega
  have px : (L.sys ok).pl x = (L.sys ok).plp u k := (L.sys ok).pl_of sh.1 (by omega) x1.2.1
  have pf : (L.sys ok).pl ((L.sys ok).lo u k) = (L.sys ok).plp u k := (L.sys ok).pl_of sh.1 (Int.le_refl _) sh.2
  refine ⟨p, L, ok, _, x, rfl, la2, lo0, by omega, x1.2.2, fun H3 s3 => ⟨rfl, _, rfl, inF (congrArg V.int (by omega)) ?_⟩⟩
  refine ⟨_, rfl, _, rfl, _, rfl, p, L, ok, a, a, rfl, la2.same s3, a0, Int.le_refl _, by omega, fun H4 s4 => ⟨rfl, _, rfl, inF (congrArg V.int (by omega)) ?_⟩⟩
  exact h H4 _ _ (((s1.trans s2).trans s3).trans s4)
theorem ok_right (T : Txt K mg C) (D : Def K mg "_law_right" (top 60)) (c1 : Cal P w K mg base "_law_gulp" 1 ["_law_spring_here", "_law_many"] spGulp) (c2 : Cal P w K mg base "_law_told" 3 ["_law_spring_here", "_law_small"] spTold)
    (c3 : Cal P w K mg base "_law_made" 6 ["_law_told_here"] (spMade C)) (c4 : Cal P w K mg base "_law_top" 3 ["_law_spring_here", "_law_told_here"] spTop) (c5 : Cal P w K mg base "show" 5 ["ladder", "number"] (spShow C)) (c6 : Cal P w K mg base "forms" 7 ["ladder", "low", "high"] (spForms C))
    (c7 : Cal P w K mg base "range_of" 5 ["ladder", "text"] (spRangeIn C)) (c8 : Cal P w K mg base "figure_at" 5 ["ladder", "place"] (spFigAt C)) (c9 : Cal P w K mg base "next_figure" 7 ["ladder", "text"] (spNext C)) (c0 : Cal P w K mg base "place_of" 7 ["ladder", "text"] (spPlaceOf C)) :
    Cal P w K mg base "_law_right" 8 ["_law_spring_here"] spRight := by
  refine D.cal sc60 (fun _ _ _ _ _ _ us hl => match us, hl with | [_], _ => rfl) (fun vs H Q E h => ?_) (fun f cdv A outer s H vs Q E hr h => ?_)
  · obtain ⟨sp, rfl, _⟩ := h
    rfl
  · obtain ⟨sp, rfl, hsp, q⟩ := h
    refine ⟨_, pss_cons (ps_for PassesOwn.never rfl (pi_range1 (by rfl) T.range_ (pa_cons pe_int pa_nil)) (pg_name (i := 1) sc60.nd rfl (Or.inl rfl))
        (pss_cons (ps_set (i := 2) sc60.nd rfl (.inr rfl) (pcall c2 hr (pa_cons (pv 0) (pa_cons (pe_cmpR op_eq (pcall c1 hr (pa_cons (pv 0) (pa_cons pe_int pa_nil))) pe_int (nomark _)) pa_nil))))
        (pss_cons (ps_set (i := 3) sc60.nd rfl (.inl rfl) (pcall c3 hr (pa_cons (pv 2) pa_nil)))
        (pss_cons (ps_for PassesOwn.never rfl (pi_range1 (by rfl) T.range_ (pa_cons pe_int pa_nil)) (pg_name (i := 4) sc60.nd rfl (Or.inl rfl))
          (pss_cons (ps_asg (pe_callB cr_sorted (by rfl) T.sorted_ (by decide +kernel) (pa_cons
              (pe_lc (own := [("_law_k", 15)]) (g := gName 15) (tt := tYes) rfl sc60.nd (pi_range1 (by rfl) T.range_ (pa_cons pe_int pa_nil)) (blkOk_by (own := [("_law_k", 15)]) (N := n60) (sc := defScope (top 60)) (by decide +kernel))
                (fun _ _ _ _ _ => pg_name (i := 15) sc60.nd rfl (Or.inl rfl)) (fun _ _ _ _ _ => pts_nil) (fun _ _ _ _ _ => pcall c4 hr (pa_cons (pv 0) (pa_cons (pv 2) pa_nil)))) pa_nil))
            (pg_lst rfl (pgs_cons (pg_name (i := 5) sc60.nd rfl (Or.inl rfl)) (pgs_cons (pg_name (i := 6) sc60.nd rfl (Or.inl rfl)) (pgs_cons (pg_name (i := 7) sc60.nd rfl (Or.inl rfl)) pgs_nil)))))
          (pss_cons (ps_set (i := 8) sc60.nd rfl (.inl rfl) (pe_and (pe_cmpR op_lt (pv 6) (pe_op op_pow pe_int pe_int) (nomark _)) (pe_one (pe_cmpR op_eq (pcall c5 hr (pa_cons (pv 3) (pa_cons (pv 6) pa_nil)))
              (pcall c5 hr (pa_cons (pv 3) (pa_cons (pe_callB (call_min2 rfl) (by rfl) T.min_ (by decide +kernel) (pa_cons (pe_op op_pow pe_int pe_int) (pa_cons (pe_op op_add (pv 6) pe_int) pa_nil))) pa_nil))) (nomark _)))))
          (pss_cons (ps_if (pt_cmpR op_lt (pv 6) (pv 7) (nomark _))
            (pss_cons (ps_set (i := 9) sc60.nd rfl (.inl rfl) (pe_op op_add (pcall c6 hr (pa_cons (pv 3) (pa_cons (pv 5) (pa_cons (pv 6) pa_nil)))) (pcall c6 hr (pa_cons (pv 3) (pa_cons (pe_op op_add (pv 6) pe_int) (pa_cons (pv 7) pa_nil))))))
            (pss_one (ps_if (pt_cmpR op_ne (pe_op op_sub (pv 9) (pe_callTy call_int1 (by rfl) T.int_ (by decide +kernel) (pa_cons (pv 8) pa_nil))) (pcall c6 hr (pa_cons (pv 3) (pa_cons (pv 5) (pa_cons (pv 7) pa_nil)))) (nomark _)) pss_never pss_nil))) pss_nil)
          (pss_cons (ps_asg (pcall c7 hr (pa_cons (pv 3) (pa_cons (pcall c5 hr (pa_cons (pv 3) (pa_cons (pv 6) pa_nil))) pa_nil))) (pg_tup rfl (pgs_cons (pg_name (i := 10) sc60.nd rfl (.inl rfl)) (pgs_cons (pg_name (i := 11) sc60.nd rfl (.inl rfl)) pgs_nil))))
          (pss_one (ps_if (PW.pt (pw_or (pt_cmpR op_ne (pcall c6 hr (pa_cons (pv 3) (pa_cons (pv 10) (pa_cons (pe_callB (call_min2 rfl) (by rfl) T.min_ (by decide +kernel) (pa_cons (pv 11) (pa_cons (pe_op op_pow pe_int pe_int) pa_nil))) pa_nil)))) pe_int (nomark _))
            (pw_or1 (pt_cmpR op_ne (pcall c6 hr (pa_cons (pv 3) (pa_cons (pv 5) (pa_cons (pv 5) pa_nil)))) pe_int (nomark _))))) pss_never pss_nil)))))))
        (pss_cons (ps_par (i := 12) (j := 13) rfl sc60.nd rfl rfl (by decide) rfl rfl (pa_cons (pcall c1 hr (pa_cons (pv 0) (pa_cons pe_int pa_nil))) (pa_cons (pcall c1 hr (pa_cons (pv 0) (pa_cons pe_int pa_nil))) pa_nil)) (by rfl))
        (pss_cons (ps_set (i := 14) sc60.nd rfl (.inl rfl) (pcall c8 hr (pa_cons (pv 3) (pa_cons (pv 12) pa_nil))))
        (pss_cons (ps_set (i := 10) sc60.nd rfl (.inl rfl) (pe_ix ix_tup (pcall c7 hr (pa_cons (pv 3) (pa_cons (pv 14) pa_nil))) pe_int (fun _ _ => rfl)))
        (pss_cons (ps_for PassesOwn.never rfl (pi_range1 (by rfl) T.range_ (pa_cons (pv 13) pa_nil)) (pg_name (i := 4) sc60.nd rfl (Or.inl rfl))
          (pss_one (ps_set (i := 14) sc60.nd rfl (.inl rfl) (pcall c9 hr (pa_cons (pv 3) (pa_cons (pv 14) pa_nil))))))
        (pss_cons (ps_if (pt_cmpR op_ne (pcall c0 hr (pa_cons (pv 3) (pa_cons (pv 14) pa_nil))) (pe_op op_add (pv 12) (pv 13)) (nomark _)) pss_never pss_nil)
        (pss_one (ps_if (PW.pt (pw_and (pt_cmpR op_le (pe_ix ix_tup (pcall c7 hr (pa_cons (pv 3) (pa_cons (pv 14) pa_nil))) pe_int (fun _ _ => rfl)) (pe_op op_pow pe_int pe_int) (nomark _))
          (pw_and1 (pt_cmpR op_ne (pcall c6 hr (pa_cons (pv 3) (pa_cons (pv 10) (pa_cons (pe_ix ix_tup (pcall c7 hr (pa_cons (pv 3) (pa_cons (pv 14) pa_nil))) pe_int (fun _ _ => rfl)) pa_nil)))) (pe_op op_add (pv 13) pe_int) (nomark _))))) pss_never pss_nil))))))))))) (pss_one (ps_ret pe_bl)), ?_⟩
    refine ⟨5, rfl, by decide, by decide, ?_⟩
    refine for_it (walk_range (lo := 0) (n := 5)) (fun i σ H' => But sp H H' ∧ Spr H' sp ∧ ∃ x1 x2 x3 x4 x5 x6 x7 x8 x9 x10 x11 x12 x13 x14 x15 : Option V, σ = [some (.ref sp), x1, x2, x3, x4, x5, x6, x7, x8, x9, x10, x11, x12, x13, x14, x15])
      ⟨But.refl, hsp, none, none, none, none, none, none, none, none, none, none, none, none, none, none, none, rfl⟩ (fun _ _ _ _ _ => trivial) ?_ ?_
    · rintro i x σ H1 H2 hi ⟨b1, s1, x1, x2, x3, x4, x5, x6, x7, x8, x9, x10, x11, x12, x13, x14, x15, rfl⟩ ⟨rfl, rfl⟩
      refine ⟨_, rfl, _, rfl, sp, 3, rfl, s1, by decide, by decide, fun H3 d b3 s3 d0 d1 => ⟨rfl, sp, _, rfl, s3, fun H4 r L b4 s4 t4 g => ?_⟩⟩
      have ok := g.ok
      refine ⟨_, rfl, r, L, rfl, t4, g, fun H5 p s45 l5 => ?_⟩
      have b5 : But sp H H5 := ((b1.trans b3).trans b4).trans (But.same s45)
      have s5 := s4.same s45
      have t5 := t4.same s45
      refine ⟨4, rfl, by decide, by decide, ?_⟩
      refine for_it (walk_range (lo := 0) (n := 4)) (fun i σ H' => But sp H5 H' ∧ Spr H' sp ∧ ∃ x1 x4 x5 x6 x7 x8 x9 x10 x11 x12 x13 x14 x15 : Option V, σ = [some (.ref sp), x1, some (.ref r), some (.ref p), x4, x5, x6, x7, x8, x9, x10, x11, x12, x13, x14, x15])
        ⟨But.refl, s5, _, _, _, _, _, _, _, _, _, _, _, _, _, rfl⟩ (fun _ _ _ _ _ => trivial) ?_ ?_
      · rintro i2 x σ H6 H7 hi2 ⟨b6, s6, x1, x4, x5, x6, x7, x8, x9, x10, x11, x12, x13, x14, x15, rfl⟩ ⟨rfl, rfl⟩
        refine ⟨3, rfl, by decide, by decide, fun Dl hD => ?_⟩
        have nD := s6.ne_none hD
        refine lc_map (walk_range (lo := 0) (n := 3)) (fun i H' => But sp H7 H' ∧ Spr H' sp ∧ ∃ ns : List Int, ns.length = i ∧ (∀ n ∈ ns, 0 ≤ n ∧ n ≤ big) ∧ H' Dl = some (.lst (ns.map V.int)))
          ⟨But.same (same_upd hD), s6.same (same_upd hD), [], rfl, by simp, upd_same⟩ (fun _ _ _ _ => trivial) ?_ ?_
        · rintro j x H8 H9 hj ⟨b8, s8, ns, hl, hb, hL⟩ ⟨rfl, rfl⟩
          refine ⟨rfl, _, rfl, _, rfl, sp, r, L, rfl, s8, (t5.but b6 s5).but b8 s6, g, fun H10 n b10 s10 n0 n1 => ?_⟩
          refine ⟨_, b10 _ _ nD hL, ?_, fun b o nb e => ?_, s10.upd_ne nD, ns ++ [n], ?_, ?_, ?_⟩
          · rw [List.length_map, hl]
            exact small64 (by omega)
          · rw [L2.upd_ne (ne_of_none e hD)]
            exact (b8.trans b10) b o nb e
          · rw [List.length_append, hl]
            rfl
          · intro m hm
            rcases List.mem_append.mp hm with z | z
            · exact hb m z
            · rw [List.mem_singleton.mp z]
              exact ⟨n0, n1⟩
          · rw [upd_same, List.map_append]
            rfl
        · rintro H8 ⟨b8, s8, ns, hl, hb, hL⟩
          refine ⟨Dl, ns, rfl, sL hL, by omega, fun ns' q' hp hs hq => ?_⟩
          have hl3 : ns'.length = 3 := by rw [hp.length_eq, hl]
          obtain ⟨a, b, c, rfl⟩ : ∃ a b c, ns' = [a, b, c] := match ns', hl3 with | [a, b, c], _ => ⟨a, b, c, rfl⟩
          have hab : a ≤ b := (List.pairwise_cons.mp hs).1 b (by simp)
          have hbc : b ≤ c := (List.pairwise_cons.mp (List.pairwise_cons.mp hs).2).1 c (by simp)
          have ha := hb a (hp.mem_iff.mp (by simp))
          have hc := hb c (hp.mem_iff.mp (by simp))
          have sq := same_upd (o := .lst ([a, b, c].map V.int)) hq
          refine ⟨q', _, rfl, sL upd_same, rfl, _, _, rfl, _, _, rfl, _, [], rfl, rfl, ?_⟩
          generalize hG : upd H8 q' (.lst ([a, b, c].map V.int)) = G at sq
          have b9 : But sp H5 G := (b6.trans b8).trans (But.same sq)
          have s9 := s8.same sq
          have l9 := l5.but b9 s5
          refine and_ok g rfl rfl l9 (by omega) (by omega) fun sm H10 s10 hsm => ?_
          have l10 := l9.same s10
          have fin : ∀ (H' : Hp) (y1 y4 y5 y6 y7 y8 y9 y10 y11 y12 y13 y14 y15 : Option V), Same H10 H' → But sp H5 H' ∧ Spr H' sp ∧ ∃ x1 x4 x5 x6 x7 x8 x9 x10 x11 x12 x13 x14 x15 : Option V, [some (V.ref sp), y1, some (V.ref r), some (V.ref p), y4, y5, y6, y7, y8, y9, y10, y11, y12, y13, y14, y15] = [some (V.ref sp), x1, some (V.ref r), some (V.ref p), x4, x5, x6, x7, x8, x9, x10, x11, x12, x13, x14, x15] := fun H' y1 y4 y5 y6 y7 y8 y9 y10 y11 y12 y13 y14 y15 s' =>
            ⟨b9.trans (But.same (s10.trans s')), s9.same (s10.trans s'), y1, y4, y5, y6, y7, y8, y9, y10, y11, y12, y13, y14, y15, rfl⟩
          refine ⟨_, rfl, _, rfl, b, c, rfl, rfl, _, rfl, ?_⟩
          by_cases hlt : b < c
          · refine iT hlt ?_
            refine ⟨_, rfl, _, rfl, _, rfl, p, L, ok, a, b, rfl, l10, ha.1, hab, by omega, fun H11 s11 => ?_⟩
            refine ⟨_, rfl, _, rfl, b, 1, rfl, rfl, _, rfl, p, L, ok, b + 1, c, rfl, l10.same s11, by omega, by omega, hc.2, fun H12 s12 => ⟨_, _, rfl, rfl, ?_⟩⟩
            refine ⟨_, rfl, _, rfl, .inr ⟨sm, rfl, _, _, rfl, rfl, ?_⟩⟩
            refine ⟨_, rfl, _, rfl, _, rfl, p, L, ok, a, c, rfl, (l10.same s11).same s12, ha.1, by omega, hc.2, fun H13 s13 => ⟨rfl, _, rfl, inF (congrArg V.int ?_) ?_⟩⟩
            · have e := hsm (by omega)
              cases sm <;> simp at e ⊢ <;> omega
            · exact part2 g (((l10.same s11).same s12).same s13) ha.1 hab (by omega) fun H' z10 z11 s' => fin H' _ _ _ _ _ _ _ _ _ _ _ _ _ (((s11.trans s12).trans s13).trans s')
          · refine iF hlt ?_
            exact part2 g l10 ha.1 hab (by omega) fun H' z10 z11 s' => fin H' _ _ _ _ _ _ _ _ _ _ _ _ _ s'
      · rintro σ H6 ⟨b6, s6, x1, x4, x5, x6, x7, x8, x9, x10, x11, x12, x13, x14, x15, rfl⟩
        refine ⟨_, rfl, sp, 3000, rfl, s6, by decide, by decide, fun H7 spot b7 s7 d0 d1 => ⟨_, rfl, sp, 25, rfl, s7, by decide, by decide, fun H8 steps b8 s8 e0 e1 => ⟨_, _, rfl, ?_⟩⟩⟩
        obtain ⟨N, rfl⟩ : ∃ N : Nat, steps = N := ⟨steps.toNat, by omega⟩
        have b58 : But sp H5 H8 := (b6.trans b7).trans b8
        have l8 := l5.but b58 s5
        refine ⟨_, rfl, _, rfl, p, L, ok, spot, rfl, l8, g.nm, d0, by omega, fun u0 H9 iu s9 => ?_⟩
        obtain ⟨hA, eA⟩ := At.first (ok := ok) iu
        rw [eA]
        generalize (spot - (L.sys ok).bf u0 + L.m u0 (L.start u0)).toNat = k0 at hA
        have l9 := l8.same s9
        refine ⟨_, rfl, _, rfl, p, L, ok, u0, k0, rfl, ⟨l9, g.nm, hA.sh, hA.kt (by omega)⟩, fun H10 rr s10 hrr => ⟨rr, _, 0, _, rfl, rfl, sT hrr, atI_nat (j := 0) rfl, ?_⟩⟩
        refine ⟨_, rfl, (N : Int), rfl, by omega, by omega, ?_⟩
        rw [Int.toNat_natCast]
        have l10 := l9.same s10
        refine for_it (walk_range (lo := 0) (n := N)) (fun (j : Nat) σ H' => ∃ u k : Nat, At L ok (spot + j) u k ∧ (L.sys ok).lo u0 k0 ≤ (L.sys ok).lo u k ∧ Same H10 H' ∧ ∃ y4, σ = [some (.ref sp), x1, some (.ref r), some (.ref p), y4, x5, x6, x7, x8, x9, some (.int ((L.sys ok).lo u0 k0)), x11, some (.int spot), some (.int (N : Int)), some (.str (ftxt L u k)), x15])
          ⟨u0, k0, by rw [show spot + ((0 : Nat) : Int) = spot by omega]; exact hA, Int.le_refl _, Same.refl _, _, rfl⟩ (fun _ _ _ _ _ => trivial) ?_ ?_
        · rintro j x σ H11 H12 hj ⟨u, k, hA1, hlo, sm, y4, rfl⟩ ⟨rfl, rfl⟩
          obtain ⟨u', k', hA2, hf, hm, hlo2⟩ := hA1.next
          have hA3 : At L ok (spot + ((j + 1 : Nat) : Int)) u' k' := by
            rw [show spot + ((j + 1 : Nat) : Int) = spot + j + 1 by omega]
            exact hA2
          refine ⟨_, rfl, _, rfl, p, L, ok, u, k, rfl, ⟨l10.same sm, g.nm, hA1.sh, hA1.kt (by omega)⟩, by rw [hm]; exact hA3.kt (by omega), fun H13 s13 => ?_⟩
          rw [hf]
          exact ⟨u', k', hA3, by omega, sm.trans s13, _, rfl⟩
        · rintro σ H11 ⟨u, k, hA1, hlo, sm, y4, rfl⟩
          have l11 := l10.same sm
          have kt := hA1.kt (by omega)
          refine ⟨_, rfl, _, rfl, p, L, ok, u, k, rfl, ⟨l11, g.nm, hA1.sh, kt⟩, fun H12 s12 => ⟨_, rfl, _, rfl, _, _, rfl, rfl, rfl, _, rfl, inF (congrArg V.int hA1.pl) ?_⟩⟩
          have l12 := l11.same s12
          refine ⟨_, rfl, _, rfl, p, L, ok, u, k, rfl, ⟨l12, g.nm, hA1.sh, kt⟩, fun H13 r3 s13 hr3 => ⟨r3, _, 0, _, rfl, rfl, sT hr3, atI_nat (j := 0) rfl, 10, 18, rfl, rfl, cp18, _, _, rfl, rfl, _, rfl, ?_⟩⟩
          have l13 := l12.same s13
          have b13 : But sp H8 H13 := But.same ((((s9.trans s10).trans sm).trans s12).trans s13)
          rw [ten18]
          by_cases hbig : (L.sys ok).lo u k ≤ big
          · refine iT hbig ⟨_, rfl, _, rfl, _, rfl, _, rfl, p, L, ok, u, k, rfl, ⟨l13, g.nm, hA1.sh, kt⟩, fun H14 r4 s14 hr4 => ⟨r4, _, 0, _, rfl, rfl, sT hr4, atI_nat (j := 0) rfl, ?_⟩⟩
            refine ⟨p, L, ok, _, _, rfl, l13.same s14, (L.sys ok).lo_nonneg hA.sh.1, hlo, hbig, fun H15 s15 => ⟨_, rfl, _, 1, rfl, rfl, rfl, _, rfl, inF (congrArg V.int ?_) ?_⟩⟩
            · rw [hA1.pl_lo, hA.pl_lo]
              omega
            · have b15 : But sp H8 H15 := b13.trans (But.same (s14.trans s15))
              exact ⟨(b5.trans b58).trans b15, s8.same (((((s9.trans s10).trans sm).trans s12).trans s13).trans (s14.trans s15)), _, _, _, _, _, _, _, _, _, _, _, _, _, _, _, rfl⟩
          · exact iF hbig (iteF ⟨(b5.trans b58).trans b13, s8.same ((((s9.trans s10).trans sm).trans s12).trans s13), _, _, _, _, _, _, _, _, _, _, _, _, _, _, _, rfl⟩)
    · rintro σ H1 ⟨b1, s1, x1, x2, x3, x4, x5, x6, x7, x8, x9, x10, x11, x12, x13, x14, x15, rfl⟩
      exact q H1 b1
end
end SFW
end TWalkP

section TWalkQ
set_option Elab.async false
set_option linter.all false
set_option maxRecDepth 100000
set_option maxHeartbeats 8000000
/-! WalkQ: law. -/
namespace SFW
open PySem PySem.Spec PyProof.Rows L2 SFK SF TL
theorem SqL.keeps {K : PySem.W.Frag} {H H' : Hp} {a : Addr} {xs : List V} (e : Same H H') (h : SqL K H a xs) : SqL K H' a xs :=
  h.elim (fun h => .inl (h.elim (fun h => .inl (e _ _ h)) fun ⟨o, h⟩ => .inr ⟨o, e _ _ h⟩)) fun h => .inr h
section
variable {P : Program} {w : World} {K : PySem.W.Frag} {mg : Str → Option Value} {base : Heap} {C : Addr}
def spLaw (K : PySem.W.Frag) : Sp := fun vs H Q _ => ∃ (a : Addr) (ns : List Int), vs = [.ref a] ∧ SqL K H a (ns.map V.int) ∧ ns.length ≤ 63 ∧ ∀ H', Q (.bl true) H'
theorem sc61 : FnScope ["_law_script", "_law_k"] ["_law_script"] (defScope (top 61)) := ⟨rfl, rfl, rfl, by decide +kernel, rfl, by decide +kernel, by decide +kernel⟩
theorem ok_law {f : Addr} {fd : FuncData} (T : Txt K mg C) (F : FunD K "law" "law" (defArgs (top 61)) (defBody (top 61)) (defScope (top 61)) [] [] f fd) (c1 : Cal P w K mg base "_law_spring" 1 ["_law_script", "_law_k"] (spSpring K)) (c2 : Cal P w K mg base "_law_right" 8 ["_law_spring_here"] spRight) : FnOk P w K mg base CX0 9 f fd ["_law_script"] (spLaw K) := by
  refine F.ok sc61 (fun vs H Q E h => ?_) (fun cdv A outer s H vs Q E hr h => ?_)
  · obtain ⟨a, ns, rfl, _⟩ := h
    rfl
  · obtain ⟨a, ns, rfl, hA, h63, q⟩ := h
    refine ⟨_, PSs.nox (pss_one (ps_ret (pe_callB (cr_all rfl) (by rfl) T.all_ (by decide +kernel) (pa_cons
      (pe_lc (own := [("_law_k", 1)]) (g := gName 1) (tt := tYes) rfl sc61.nd (pi_range1 (by rfl) T.range_ (pa_cons (pe_callB (call_max2 rfl) (by rfl) T.max_ (by decide +kernel) (pa_cons pe_int (pa_cons (pe_callB (call_min2 rfl) (by rfl) T.min_ (by decide +kernel) (pa_cons (pe_callB call_len_seq (by rfl) T.len_ PySem.boot_len (pa_cons (pv 0) pa_nil)) (pa_cons pe_int pa_nil))) pa_nil))) pa_nil))
        (blkOk_by (own := [("_law_k", 1)]) (N := ["_law_script", "_law_k"]) (sc := defScope (top 61)) (by decide +kernel))
        (fun _ _ _ _ _ => pg_name (i := 1) sc61.nd rfl (Or.inl rfl)) (fun _ _ _ _ _ => pts_nil) (fun _ _ _ _ _ => pcall c2 hr (pa_cons (pcall c1 hr (pa_cons (pv 0) (pa_cons (pv 1) pa_nil))) pa_nil))) pa_nil)))), ?_⟩
    refine ⟨_, rfl, a, _, rfl, .inl hA, _, 5, rfl, 2, _, rfl, ?_⟩
    generalize hm : (if (if (5 : Int) < (((ns.map V.int).length : Nat) : Int) then (5 : Int) else (((ns.map V.int).length : Nat) : Int)) > 2 then (if (5 : Int) < (((ns.map V.int).length : Nat) : Int) then (5 : Int) else (((ns.map V.int).length : Nat) : Int)) else 2) = m
    have mb : 2 ≤ m ∧ m ≤ 5 := by
      rw [← hm]
      split <;> split <;> omega
    refine ⟨m, rfl, by omega, by omega, fun Dl hD => ?_⟩
    obtain ⟨N, rfl⟩ : ∃ N : Nat, m = N := ⟨m.toNat, by omega⟩
    rw [Int.toNat_natCast]
    refine lc_map (walk_range (lo := 0) (n := N)) (fun i H' => Same H H' ∧ H' Dl = some (.lst ((List.replicate i true).map V.bl))) ⟨same_upd hD, upd_same⟩ (fun _ _ _ _ => trivial) ?_ ?_
    · rintro i x H1 H2 hi ⟨sm, hL⟩ ⟨rfl, rfl⟩
      refine ⟨rfl, _, rfl, _, rfl, a, ns, i, ?_, SqL.keeps sm hA, h63, fun H3 p s3 np sp3 => ⟨p, rfl, sp3, fun H4 b4 => ?_⟩⟩
      · show [V.ref a, V.int (0 + (i : Int))] = _
        rw [Int.zero_add]
      · have nd : Dl ≠ p := ne_of_none hL np
        refine ⟨_, b4 _ _ nd (s3 _ _ hL), ?_, fun b o e => ?_, ?_⟩
        · rw [rep_len]
          exact small64 (by omega)
        · rw [L2.upd_ne (ne_of_none e hD)]
          exact b4 _ _ (ne_of_none (sm _ _ e) np) (s3 _ _ (sm _ _ e))
        · rw [upd_same, rep_snoc]
    · rintro H1 ⟨sm, hL⟩
      refine ⟨Dl, _, rfl, sL hL, ?_⟩
      rw [all_rep]
      exact q H1
end
end SFW
end TWalkQ

section TFactsT
set_option Elab.async false
set_option linter.all false
set_option maxRecDepth 100000
set_option maxHeartbeats 8000000
/-! FactsT: what the head tells; the chain of promises; the law's def. -/
namespace SFH
open PySem PySem.Spec PyProof.Rows L2 SFW
section
variable {K : PySem.W.Frag} {h : Heap} {mg : Str → Option Value} (X : K.In h) (G : h.Ns mainGlobals mg) (c : SaysE K)
include X G c
theorem gdef {x : Str} {i : Nat} (j k : Nat) (h1 : fn[j]? = some (gD x i) := by rfl) (h2 : fa[k]? = some (.glo x) := by rfl) : Def K mg x (SFW.top i) := by
  obtain ⟨fd, F⟩ := c.1.def_ j h1
  exact ⟨_, fd, F, He.glo_ok X G (c.1.fact k h2)⟩
omit X G in
theorem mdef {m q : Str} {i : Nat} (j k : Nat) (h1 : fn[j]? = some (mD m q i) := by rfl) (h2 : fa[k]? = some (.meth "Ladder" m) := by rfl) : MDef K (He.ga K "Ladder") m q (mth i) := by
  obtain ⟨fd, F⟩ := c.1.def_ j h1
  exact ⟨_, fd, F, He.meth_ok (c.1.fact k h2)⟩
theorem gint {x : Str} {i : Int} (k : Nat) (h2 : fa[k]? = some (.int x i) := by rfl) : glb mg x (.int i) := by
  obtain ⟨t, e⟩ := He.int_ok X G (c.1.fact k h2)
  exact ⟨_, e, ⟨_, rfl⟩⟩
theorem gstr {x z : Str} (k : Nat) (h2 : fa[k]? = some (.str x z) := by rfl) : glb mg x (.str z) := by
  obtain ⟨t, e⟩ := He.str_ok X G (c.1.fact k h2)
  exact ⟨_, e, ⟨_, rfl⟩⟩
theorem gfree {x : Str} (k : Nat) (h2 : fa[k]? = some (.free x) := by rfl) : mg x = none := He.free_ok X G (c.1.fact k h2)
omit X G in
theorem gno {f : Str} (k : Nat) (h2 : fa[k]? = some (.noat "Ladder" f) := by rfl) : NoAttr K (He.ga K "Ladder") f := He.noat_ok (c.1.fact k h2)
theorem txt : Txt K mg (He.ga K "Ladder") := by
  have cl : Cls K (He.ga K "Ladder") := He.cls_ok (c.1.fact 61 rfl)
  obtain ⟨e1, e⟩ := Bool.and_eq_true_iff.mp c.2
  obtain ⟨e2, e3⟩ := Bool.and_eq_true_iff.mp e
  exact {
    isinstance_ := gfree X G c 36
    int_ := gfree X G c 37
    bool_ := gfree X G c 38
    str_ := gfree X G c 39
    tuple_ := gfree X G c 40
    len_ := gfree X G c 41
    max_ := gfree X G c 42
    min_ := gfree X G c 43
    all_ := gfree X G c 44
    enumerate_ := gfree X G c 45
    range_ := gfree X G c 46
    sorted_ := gfree X G c 47
    abs_ := gfree X G c 48
    divmod_ := gfree X G c 49
    mUnits := gint X G c 50
    mDec := gint X G c 51
    mLeast := gint X G c 52
    mNumber := gint X G c 53
    mDigits := gint X G c 54
    mName := gint X G c 55
    mPlace := gint X G c 56
    figs := gstr X G c 57
    lets := gstr X G c 58
    rnds := ⟨_, He.glo_ok X G (c.1.fact 59 rfl), fun H => He.tupB_ok e1 H⟩
    pows := ⟨_, He.glo_ok X G (c.1.fact 60 rfl), fun H => He.tupB_ok e2 H⟩
    gLad := He.glo_ok X G (c.1.fact 7 rfl)
    cl := cl
    ins := insB_ok cl e3
    n1 := gno c 63
    n2 := gno c 64
    n3 := gno c 65
    n4 := gno c 66
    n5 := gno c 67
    n6 := gno c 68
    n7 := gno c 69
    n8 := gno c 70
    n9 := gno c 71 }
omit X G in
theorem idef : IDef K (He.ga K "Ladder") := by
  obtain ⟨fd, F⟩ := c.1.def_ 7 (d := dI) rfl
  exact ⟨_, fd, F, He.mkr_ok (c.1.fact 62 rfl)⟩
theorem facts {P : Program} {w : World} {f : Addr} (hfa : mg ("law" : Str) = some (.ref f)) :
    ∃ fd : FuncData, (∀ (s : Shared) (v : Value), BindsTo s fd ⟨[v], []⟩ [("_law_script", v)]) ∧ ∀ base : Heap, K.In base → base.Ns mainGlobals mg → FnOk P w K mg base CX0 9 f fd ["_law_script"] (spLaw K) := by
  have T := txt X G c
  obtain ⟨fd, F⟩ := c.1.def_ 41 (d := gD "law" 61) rfl
  have ef : He.fAd K (gD "law" 61).at_ = f := by
    have e : mg ("law" : Str) = some (.ref (He.ga K "law")) := He.glo_ok X G (c.1.fact 35 rfl)
    rw [hfa] at e
    exact (Value.ref.inj (Option.some.inj e)).symm
  rw [ef] at F
  refine ⟨fd, fun s v => FunD.bindsA (ps := ["_law_script"]) F (fun _ _ _ _ _ _ us hl => match us, hl with | [_], _ => rfl) s [v] rfl, fun base _ _ => ?_⟩
  have aInt : Cal P w K mg base "is_integer" 1 ["value"] spInteger := ok_integer T (gdef X G c 0 0)
  have aNum : Cal P w K mg base "is_number" 2 ["value"] spNumber := ok_number T (gdef X G c 1 1) aInt
  have aCkN : Cal P w K mg base "check_number" 3 ["value"] spCkNumber := ok_ckNumber (gdef X G c 2 2) aNum
  have aUnit : Cal P w K mg base "is_unit" 2 ["value"] spUnit := ok_unit T (gdef X G c 3 3) aInt
  have aFol : Cal P w K mg base "may_follow" 1 ["unit", "before"] spFollow := ok_follow T (gdef X G c 4 4)
  have aCkU : Cal P w K mg base "check_units" 3 ["value"] spCkUnits := ok_ckUnits T (gdef X G c 5 5) aUnit aFol
  have aSuits : Cal P w K mg base "suits" 2 ["units", "decimals"] spSuits := ok_suits T (gdef X G c 6 6) aInt
  have mFirst : MCal P w K mg base (He.ga K "Ladder") "first_for" 1 ["self", "unit", "mark"] (spFirst _) := ok_first T (mdef c 8 72)
  have mStart : MCal P w K mg base (He.ga K "Ladder") "start_of" 2 ["self", "unit"] (spStart _) := ok_start T (mdef c 9 73) mFirst
  have mMark : MCal P w K mg base (He.ga K "Ladder") "mark_for" 2 ["self", "unit", "number"] (spMark _) := ok_mark T (mdef c 10 74) mFirst
  have mParts : MCal P w K mg base (He.ga K "Ladder") "parts_for" 3 ["self", "number"] (spParts _) := ok_parts T (mdef c 11 75) mMark
  have mText : MCal P w K mg base (He.ga K "Ladder") "text_of" 1 ["self", "unit", "mark"] (spText _) := ok_text T (mdef c 12 76)
  have mLen : MCal P w K mg base (He.ga K "Ladder") "__len__" 1 ["self"] (spLen _) := ok_len T (mdef c 13 77)
  have aInit := ok_init (P := P) (w := w) (base := base) T (idef c) aCkU aSuits aInt mStart
  have aCkL : Cal P w K mg base "check_ladder" 1 ["value"] (spCkLad _) := ok_ckLad T (gdef X G c 14 8)
  have aNumIn : Cal P w K mg base "number_in" 1 ["text"] spNumIn := ok_numIn T (gdef X G c 15 9)
  have aMarkIn : Cal P w K mg base "mark_in" 2 ["ladder", "unit", "text"] (spMarkIn _) := ok_markIn T (gdef X G c 16 10) aNumIn
  have aPartsOf : Cal P w K mg base "parts_of" 3 ["ladder", "text"] (spPartsOf _) := ok_partsOf T (gdef X G c 17 11) aMarkIn
  have aCkFig : Cal P w K mg base "check_figure" 4 ["ladder", "value"] (spCkFig _) := ok_ckFig (gdef X G c 18 12) aPartsOf
  have aFigOf : Cal P w K mg base "figure_of" 4 ["ladder", "number"] (spFigOf _) := ok_figOf T (gdef X G c 19 13) mParts mText
  have aShow : Cal P w K mg base "show" 5 ["ladder", "number"] (spShow _) := ok_show (gdef X G c 20 14) aCkL aCkN aFigOf
  have aRangeIn : Cal P w K mg base "range_in" 4 ["ladder", "text"] (spRangeIn _) := ok_rangeIn T (gdef X G c 21 15) aPartsOf mFirst mLen
  have aRangeOf : Cal P w K mg base "range_of" 5 ["ladder", "text"] (spRangeIn _) := ok_rangeOf (gdef X G c 22 16) aCkL aCkFig aRangeIn
  have aShownR : Cal P w K mg base "shown_range" 6 ["ladder", "text"] (spRangeIn _) := ok_shownRange (gdef X G c 23 17) aRangeOf
  have aNext : Cal P w K mg base "next_figure" 7 ["ladder", "text"] (spNext _) := ok_next (gdef X G c 24 18) aFigOf aShownR
  have aLast : Cal P w K mg base "last_mark" 3 ["ladder", "unit"] (spLast _) := ok_last T (gdef X G c 25 19) mMark
  have aBefore : Cal P w K mg base "figures_before" 4 ["ladder", "unit"] (spBefore _) := ok_before T (gdef X G c 26 20) mMark aLast
  have aPlaceP : Cal P w K mg base "place_of_parts" 5 ["ladder", "unit", "mark"] (spPlaceP _) := ok_placeP T (gdef X G c 27 21) mMark aBefore
  have aPlaceF : Cal P w K mg base "place_for" 6 ["ladder", "number"] (spPlaceF _) := ok_placeF T (gdef X G c 28 22) mParts aPlaceP
  have aBounds : Cal P w K mg base "check_bounds" 4 ["low", "high"] spBounds := ok_bounds (gdef X G c 29 23) aCkN
  have aForms : Cal P w K mg base "forms" 7 ["ladder", "low", "high"] (spForms _) := ok_forms (gdef X G c 30 24) aCkL aBounds aPlaceF
  have aFigAt : Cal P w K mg base "figure_at" 5 ["ladder", "place"] (spFigAt _) := ok_figAt T (gdef X G c 31 25) aCkL aInt aBefore mMark mText mLen
  have aPlaceOf : Cal P w K mg base "place_of" 7 ["ladder", "text"] (spPlaceOf _) := ok_placeOf (gdef X G c 32 26) aShownR aPartsOf aPlaceP
  have lSpring : Cal P w K mg base "_law_spring" 1 ["_law_script", "_law_k"] (spSpring K) := ok_spring T (gdef X G c 33 27)
  have lGulp : Cal P w K mg base "_law_gulp" 1 ["_law_spring_here", "_law_many"] spGulp := ok_gulp T (gdef X G c 34 28)
  have lSome : Cal P w K mg base "_law_some_of" 2 ["_law_spring_here", "_law_things"] spSome := ok_some T (gdef X G c 35 29) lGulp
  have lUnits : Cal P w K mg base "_law_units" 2 ["_law_spring_here", "_law_part", "_law_small"] spUnits := ok_units T (gdef X G c 36 30) lGulp
  have lTold : Cal P w K mg base "_law_told" 3 ["_law_spring_here", "_law_small"] spTold := ok_told T (gdef X G c 37 31) lGulp lSome lUnits
  have lMade : Cal P w K mg base "_law_made" 6 ["_law_told_here"] (spMade _) := ok_made T (gdef X G c 38 32) aInit
  have lTop : Cal P w K mg base "_law_top" 3 ["_law_spring_here", "_law_told_here"] spTop := ok_top T (gdef X G c 39 33) lGulp lSome
  have lRight : Cal P w K mg base "_law_right" 8 ["_law_spring_here"] spRight := ok_right T (gdef X G c 40 34) lGulp lTold lMade lTop aShow aForms aRangeOf aFigAt aNext aPlaceOf
  exact ok_law T F lSpring lRight
end
end SFH
end TFactsT

section TEndT
set_option Elab.async false
set_option linter.all false
set_option maxRecDepth 100000
open PySem PySem.W PySem.Calls PyProof.Rows
set_option maxHeartbeats 0 in
theorem PySem.Challenge.cw_shortfigures_k14_whole_figures_counted_i_holds : PySem.Challenge.rw_shortfigures_k14_whole_figures_counted_i.Holds := by
  w_on; o_law
  refine HandSHeadRun.head_any (r := OpenLaw.row PySem.Challenge.rw_shortfigures_k14_whole_figures_counted_i) (q := view (OpenLaw.row PySem.Challenge.rw_shortfigures_k14_whole_figures_counted_i).prog [61]) (H := SFH.hk) (ob := SFH.ob) (M := 6000) (loose := SFH.names) (d := HandSHeadRun.topDef (OpenLaw.row PySem.Challenge.rw_shortfigures_k14_whole_figures_counted_i).prog 61) (kwd := []) SFH.ob_eq
    (by kernel_rfl) (fun s => by kernel_rfl) SFH.run (by kernel_rfl) (by kernel_rfl) (by kernel_rfl) (by rfl) (by first | assumption | decide +kernel) (by decide +kernel) ⟨rfl, rfl, rfl, rfl, rfl, by decide +kernel⟩ ?hw ?hc
  case hw => w_witness2
  case hc =>
    refine L2.walk_ofE (l := PySem.Challenge.rw_shortfigures_k14_whole_figures_counted_i) (n := 63) (k := 9) (x := "_law_script") (CX := L2.CX0) rfl (by decide) (by kernel_rfl) ⟨rfl, by decide, by decide⟩ ?F (fun _ _ _ _ z => z)
    intro w mg fa h Y G hmg0
    obtain ⟨K, KX, c⟩ := Y
    have hmg : mg ("law" : PySem.Str) = some (.ref fa) := by
      have e : (HandSHeadRun.topDef (OpenLaw.row PySem.Challenge.rw_shortfigures_k14_whole_figures_counted_i).prog 61).name = ("law" : PySem.Str) := by kernel_rfl
      rw [← e]
      exact hmg0
    obtain ⟨fd, hb, hF⟩ := SFH.facts (P := (PySem.Challenge.rw_shortfigures_k14_whole_figures_counted_i).prog) (w := w) KX G c hmg
    exact ⟨K, fd, SFW.spLaw K, KX, hb, fun H a ns hl _ hS => ⟨a, ns, rfl, hS, hl, fun _ => rfl⟩, hF⟩
end TEndT
