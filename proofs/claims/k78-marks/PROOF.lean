import PyProof.Rows.All
import Wide.All
import OpenK.AllK
import Wide.FinOn
import HandS.ForMost
import HandS.Wide
import HandS.WideBits
import HandS.IsInst
import HandS.Walk
import KE.GoesEnum
import PySem.Challenge.RW_neverleapt_k78_whole_shares_rounded_to_m
set_option Elab.async false
set_option linter.all false
set_option exponentiation.threshold 1000
set_option maxRecDepth 100000
set_option maxHeartbeats 8000000
-- piece: NlMath
/-! the mathematics of the law: marks of fractions, Euclid's steps -/
namespace NL
inductive How where
  | down | up | near | even

/-- the mark of n / b, n being counted in marks -/
def markI (h : How) (n b : Int) : Int :=
  match h with
  | .down => n / b
  | .up => n / b + (if 0 < n % b then 1 else 0)
  | .near => n / b + (if b ≤ 2 * (n % b) then 1 else 0)
  | .even => n / b + (if b < 2 * (n % b) ∨ (2 * (n % b) = b ∧ n / b % 2 = 1) then 1 else 0)

theorem parts {n b : Int} (hb : 0 < b) : n = n / b * b + n % b ∧ 0 ≤ n % b ∧ n % b < b := by
  refine ⟨?_, Int.emod_nonneg _ (by omega), Int.emod_lt_of_pos _ hb⟩
  have h := Int.emod_def n b
  have h2 : b * (n / b) = n / b * b := Int.mul_comm _ _
  omega

theorem down_ok {n b : Int} (hb : 0 < b) : markI .down n b * b ≤ n ∧ n < (markI .down n b + 1) * b := by
  obtain ⟨h1, h2, h3⟩ := parts (n := n) hb
  show n / b * b ≤ n ∧ n < (n / b + 1) * b
  rw [Int.add_mul, Int.one_mul]
  omega

theorem up_ok {n b : Int} (hb : 0 < b) : (markI .up n b - 1) * b < n ∧ n ≤ markI .up n b * b := by
  obtain ⟨h1, h2, h3⟩ := parts (n := n) hb
  show (n / b + (if 0 < n % b then 1 else 0) - 1) * b < n ∧ n ≤ (n / b + (if 0 < n % b then 1 else 0)) * b
  split
  · rw [Int.add_sub_cancel, Int.add_mul, Int.one_mul]
    omega
  · rw [Int.add_zero, Int.sub_mul, Int.one_mul]
    omega

theorem two_mul_mul (q b : Int) : 2 * q * b = 2 * (q * b) := Int.mul_assoc _ _ _

theorem near_ok {n b : Int} (hb : 0 < b) : (2 * markI .near n b - 1) * b ≤ 2 * n ∧ 2 * n < (2 * markI .near n b + 1) * b := by
  obtain ⟨h1, h2, h3⟩ := parts (n := n) hb
  show (2 * (n / b + (if b ≤ 2 * (n % b) then 1 else 0)) - 1) * b ≤ 2 * n ∧ 2 * n < (2 * (n / b + (if b ≤ 2 * (n % b) then 1 else 0)) + 1) * b
  split
  · rw [Int.sub_mul, Int.add_mul, Int.one_mul, two_mul_mul, Int.add_mul, Int.one_mul]
    omega
  · rw [Int.sub_mul, Int.add_mul, Int.one_mul, two_mul_mul, Int.add_zero]
    omega

/-- the amount as Python's abs gives it -/
def absI (i : Int) : Int := if i < 0 then -i else i

theorem even_ok {n b : Int} (hb : 0 < b) : 2 * absI (n - markI .even n b * b) < b ∨ (2 * absI (n - markI .even n b * b) = b ∧ markI .even n b % 2 = 0) := by
  obtain ⟨h1, h2, h3⟩ := parts (n := n) hb
  have em : markI .even n b = n / b + (if b < 2 * (n % b) ∨ (2 * (n % b) = b ∧ n / b % 2 = 1) then 1 else 0) := rfl
  rw [em]
  split
  · rename_i hc
    rw [Int.add_mul, Int.one_mul]
    have e : n - (n / b * b + b) = n % b - b := by omega
    rw [e]
    unfold absI
    rw [if_pos (by omega)]
    rcases hc with hc | ⟨hc, hq⟩
    · left; omega
    · right; omega
  · rename_i hc
    rw [Int.add_zero]
    have e : n - n / b * b = n % b := by omega
    rw [e]
    unfold absI
    rw [if_neg (by omega)]
    by_cases hl : 2 * (n % b) < b
    · left; exact hl
    · right
      have hn : ¬ b < 2 * (n % b) := fun z => hc (.inl z)
      have h5 : 2 * (n % b) = b := by omega
      refine ⟨h5, ?_⟩
      have h6 : ¬ n / b % 2 = 1 := fun z => hc (.inr ⟨h5, z⟩)
      omega

theorem neg_parts {n b : Int} (hb : 0 < b) : (n % b = 0 ∧ (-n) / b = -(n / b) ∧ (-n) % b = 0) ∨ (0 < n % b ∧ (-n) / b = -(n / b) - 1 ∧ (-n) % b = b - n % b) := by
  obtain ⟨h1, h2, h3⟩ := parts (n := n) hb
  by_cases hz : n % b = 0
  · left
    refine ⟨hz, ?_⟩
    have key := (Int.ediv_emod_unique (a := -n) (b := b) (r := 0) (q := -(n / b)) hb).mpr ⟨by rw [Int.mul_neg, Int.mul_comm]; omega, Int.le_refl _, hb⟩
    exact key
  · right
    refine ⟨by omega, ?_⟩
    have key := (Int.ediv_emod_unique (a := -n) (b := b) (r := b - n % b) (q := -(n / b) - 1) hb).mpr ⟨by rw [Int.mul_sub, Int.mul_neg, Int.mul_comm, Int.mul_one]; omega, by omega, by omega⟩
    exact key

theorem neg_up {n b : Int} (hb : 0 < b) : markI .up (-n) b = 0 - markI .down n b := by
  show (-n) / b + (if 0 < (-n) % b then 1 else 0) = 0 - n / b
  have h3 := Int.emod_lt_of_pos n hb
  rcases neg_parts (n := n) hb with ⟨h, e1, e2⟩ | ⟨h, e1, e2⟩
  · rw [e1, e2, if_neg (by omega)]; omega
  · rw [e1, e2, if_pos (by omega)]; omega

theorem neg_even {n b : Int} (hb : 0 < b) : markI .even (-n) b = 0 - markI .even n b := by
  show (-n) / b + (if b < 2 * ((-n) % b) ∨ (2 * ((-n) % b) = b ∧ (-n) / b % 2 = 1) then 1 else 0) = 0 - (n / b + (if b < 2 * (n % b) ∨ (2 * (n % b) = b ∧ n / b % 2 = 1) then 1 else 0))
  have h3 := Int.emod_lt_of_pos n hb
  rcases neg_parts (n := n) hb with ⟨h, e1, e2⟩ | ⟨h, e1, e2⟩
  · rw [e1, e2, h, if_neg (by omega), if_neg (by omega)]; omega
  · rw [e1, e2]
    by_cases c : b < 2 * (n % b) ∨ (2 * (n % b) = b ∧ n / b % 2 = 1)
    · rw [if_pos c, if_neg (by omega)]; omega
    · rw [if_neg c, if_pos (by omega)]; omega

theorem down_ten {a u b : Int} (hb : 0 < b) : markI .down (a * (10 * u)) b / 10 = markI .down (a * u) b := by
  show a * (10 * u) / b / 10 = a * u / b
  rw [Int.ediv_ediv, if_neg (by omega), Int.sub_zero, Int.mul_left_comm, Int.mul_comm b 10, Int.mul_ediv_mul_of_pos _ _ (by decide)]

theorem mark_exact {h : How} {t u : Int} (hu : 0 < u) : markI h (t * u) u = t := by
  have e1 : t * u / u = t := Int.mul_ediv_cancel _ (by omega)
  have e2 : t * u % u = 0 := Int.mul_emod_left _ _
  cases h
  · exact e1
  · show t * u / u + (if 0 < t * u % u then 1 else 0) = t
    rw [e1, e2, if_neg (by omega)]; omega
  · show t * u / u + (if u ≤ 2 * (t * u % u) then 1 else 0) = t
    rw [e1, e2, if_neg (by omega)]; omega
  · show t * u / u + (if u < 2 * (t * u % u) ∨ (2 * (t * u % u) = u ∧ t * u / u % 2 = 1) then 1 else 0) = t
    rw [e1, e2, if_neg (by omega)]; omega

theorem natAbs_div_le (n : Int) {b : Int} (hb : 0 < b) : (n / b).natAbs ≤ n.natAbs + 1 := by
  obtain ⟨h1, h2, h3⟩ := parts (n := n) hb
  rcases Int.lt_or_le (n / b) 0 with hq | hq
  · have h4 : (n / b + 1) * b ≤ (n / b + 1) * 1 := Int.mul_le_mul_of_nonpos_left (by omega) (by omega)
    rw [Int.add_mul, Int.one_mul] at h4
    omega
  · have h4 : n / b * 1 ≤ n / b * b := Int.mul_le_mul_of_nonneg_left (by omega) hq
    omega

theorem mark_le (h : How) (n : Int) {b : Int} (hb : 0 < b) : (markI h n b).natAbs ≤ n.natAbs + 2 := by
  have h0 := natAbs_div_le n hb
  cases h
  · show (n / b).natAbs ≤ _
    omega
  · show (n / b + (if 0 < n % b then 1 else 0)).natAbs ≤ _
    split <;> omega
  · show (n / b + (if b ≤ 2 * (n % b) then 1 else 0)).natAbs ≤ _
    split <;> omega
  · show (n / b + (if b < 2 * (n % b) ∨ (2 * (n % b) = b ∧ n / b % 2 = 1) then 1 else 0)).natAbs ≤ _
    split <;> omega

/-! ### the greatest common divisor -/
def gI (a b : Int) : Int := (Int.gcd a b : Nat)
theorem gI_nonneg (a b : Int) : 0 ≤ gI a b := Int.natCast_nonneg _
theorem gI_pos {a b : Int} (hb : 0 < b) : 0 < gI a b := by
  have h : Int.gcd a b ≠ 0 := fun z => by
    have := (Int.gcd_eq_zero_iff.mp z).2
    omega
  show (0 : Int) < ((Int.gcd a b : Nat) : Int)
  omega
theorem gI_le {a b : Int} (hb : 0 < b) : gI a b ≤ b := by
  have h : Int.gcd a b ∣ b.natAbs := Int.gcd_dvd_natAbs_right a b
  have h2 := Nat.le_of_dvd (by omega) h
  show ((Int.gcd a b : Nat) : Int) ≤ b
  omega
theorem gI_abs (a b : Int) : gI (absI a) (absI b) = gI a b := by
  have e : ∀ z : Int, (absI z).natAbs = z.natAbs := fun z => by
    unfold absI
    split <;> omega
  show ((Int.gcd (absI a) (absI b) : Nat) : Int) = ((Int.gcd a b : Nat) : Int)
  unfold Int.gcd
  rw [e, e]
theorem gI_step {x y : Int} (hx : 0 ≤ x) (hy : 0 < y) : gI y (x % y) = gI x y := by
  obtain ⟨m, rfl⟩ := Int.eq_ofNat_of_zero_le hx
  obtain ⟨n, rfl⟩ := Int.eq_ofNat_of_zero_le (Int.le_of_lt hy)
  show ((Int.gcd (n : Int) ((m : Int) % (n : Int)) : Nat) : Int) = ((Int.gcd (m : Int) (n : Int) : Nat) : Int)
  rw [← Int.natCast_emod]
  unfold Int.gcd
  simp only [Int.natAbs_natCast]
  rw [Nat.gcd_comm n (m % n), ← Nat.gcd_rec, Nat.gcd_comm]
theorem gI_zero {x : Int} (hx : 0 ≤ x) : gI x 0 = x := by
  show ((Int.gcd x 0 : Nat) : Int) = x
  rw [Int.gcd_zero_right]
  omega
theorem gI_neg (a b : Int) : gI (0 - a) b = gI a b := by
  show ((Int.gcd (0 - a) b : Nat) : Int) = ((Int.gcd a b : Nat) : Int)
  rw [Int.zero_sub, Int.neg_gcd]
theorem gI_low {a b : Int} (hb : 0 < b) : gI (a / gI a b) (b / gI a b) = 1 := by
  have hp : 0 < Int.gcd a b := by
    have := gI_pos (a := a) hb
    show 0 < Int.gcd a b
    have e : gI a b = ((Int.gcd a b : Nat) : Int) := rfl
    omega
  show ((Int.gcd (a / ((Int.gcd a b : Nat) : Int)) (b / ((Int.gcd a b : Nat) : Int)) : Nat) : Int) = 1
  rw [Int.gcd_ediv_gcd_ediv_gcd (by omega)]
  rfl
theorem low_pos {a b : Int} (hb : 0 < b) : 0 < b / gI a b := by
  have h1 := gI_pos (a := a) hb
  have h2 := gI_le (a := a) hb
  exact Int.ediv_pos_of_pos_of_dvd hb (by omega) (Int.gcd_dvd_right a b)
theorem low_exact {h : How} {t u : Int} (hu : 0 < u) : markI h (t / gI t u * u) (u / gI t u) = t := by
  have h1 : gI t u ∣ t := Int.gcd_dvd_left t u
  have h2 : gI t u ∣ u := Int.gcd_dvd_right t u
  have hp := low_pos (a := t) hu
  have e : t / gI t u * u = t * (u / gI t u) := by
    rw [← Int.mul_ediv_assoc t h2, Int.mul_comm t u, Int.mul_ediv_assoc u h1, Int.mul_comm]
  rw [e]
  exact mark_exact hp

/-- what holds between two turns of the law's own Euclid -/
structure GInv (a b : Int) (i : Nat) (x y : Int) : Prop where
  x0 : 0 ≤ x
  y0 : 0 ≤ y
  g : gI x y = gI a b
  small : (i = 0 ∧ x = absI a ∧ y = absI b) ∨ (0 < i ∧ y < x ∧ x * y * 2 ^ i < 2 ^ 390)
theorem absI_nonneg (a : Int) : 0 ≤ absI a := by
  unfold absI
  split <;> omega
theorem GInv.start (a b : Int) : GInv a b 0 (absI a) (absI b) := ⟨absI_nonneg a, absI_nonneg b, gI_abs a b, .inl ⟨rfl, rfl, rfl⟩⟩
theorem GInv.turn {a b : Int} {i : Nat} {x y : Int} (hb : b.natAbs < 2 ^ 190) (h : GInv a b i x y) (hy : y ≠ 0) : GInv a b (i + 1) y (x % y) := by
  have y0 : 0 < y := by have := h.y0; omega
  have m0 := Int.emod_nonneg x (show y ≠ 0 from hy)
  have m1 := Int.emod_lt_of_pos x y0
  refine ⟨h.y0, m0, (gI_step h.x0 y0).trans h.g, .inr ⟨Nat.succ_pos _, m1, ?_⟩⟩
  rcases h.small with ⟨e, ex, ey⟩ | ⟨i0, hlt, hs⟩
  · subst e
    have hyb : y < 2 ^ 190 := by
      rw [ey]
      unfold absI
      split <;> omega
    have k1 : y * (x % y) ≤ y * y := Int.mul_le_mul_of_nonneg_left (by omega) (by omega)
    have k2 : y * y ≤ y * 2 ^ 190 := Int.mul_le_mul_of_nonneg_left (by omega) (by omega)
    have k3 : y * 2 ^ 190 ≤ 2 ^ 190 * 2 ^ 190 := Int.mul_le_mul_of_nonneg_right (by omega) (by decide)
    have e1 : (2 : Int) ^ (0 + 1) = 2 := rfl
    rw [e1]
    have e2 : (2 : Int) ^ 190 * 2 ^ 190 * 2 < 2 ^ 390 := by decide
    omega
  · have hd : 2 * (x % y) ≤ x := by
      obtain ⟨p1, p2, p3⟩ := parts (n := x) y0
      have q1 : 1 ≤ x / y := by
        rcases Int.lt_or_le (x / y) 1 with z | z
        · have : x / y * y ≤ 0 := Int.mul_nonpos_of_nonpos_of_nonneg (by omega) (by omega)
          omega
        · exact z
      have q2 : 1 * y ≤ x / y * y := Int.mul_le_mul_of_nonneg_right q1 (by omega)
      omega
    have e1 : y * (x % y) * 2 ^ (i + 1) = y * (2 * (x % y)) * 2 ^ i := by
      rw [Int.pow_succ, Int.mul_comm (2 ^ i) 2, ← Int.mul_assoc, Int.mul_assoc y, Int.mul_comm (x % y) 2]
    rw [e1]
    have k1 : y * (2 * (x % y)) ≤ y * x := Int.mul_le_mul_of_nonneg_left hd (by omega)
    have k2 : y * (2 * (x % y)) * 2 ^ i ≤ y * x * 2 ^ i := Int.mul_le_mul_of_nonneg_right k1 (Int.pow_nonneg (by decide))
    rw [Int.mul_comm y x] at k2
    omega
theorem GInv.last {a b : Int} {x y : Int} (h : GInv a b 400 x y) : x = gI a b := by
  have e : y = 0 := by
    rcases h.small with ⟨e, _⟩ | ⟨_, hlt, hs⟩
    · cases e
    · rcases Int.lt_or_le 0 y with hy | hy
      · have k1 : 1 * 1 ≤ x * y := Int.mul_le_mul (by omega) (by omega) (by decide) h.x0
        have k2 : 1 * 2 ^ 400 ≤ x * y * 2 ^ 400 := Int.mul_le_mul_of_nonneg_right (by omega) (by decide)
        have k3 : (2 : Int) ^ 390 < 1 * 2 ^ 400 := by decide
        omega
      · have := h.y0
        omega
  have hg := h.g
  rw [e, gI_zero h.x0] at hg
  exact hg
theorem GInv.stop {a b : Int} {i : Nat} {x y : Int} (h : GInv a b i x y) (e : y = 0) : x = gI a b := by
  have hg := h.g
  rw [e, gI_zero h.x0] at hg
  exact hg
end NL

-- piece: NlBase
/-! the text by places, the promises -/
namespace NL
open PySem PySem.Spec PyProof.Rows L2
def topN (i : Nat) : Stmt := PySem.Challenge.pw_neverleapt_k78_whole_shares_rounded_to_m.main.body.getD i (.Pass ⟨0, 0, 0, 0⟩)
abbrev sInteger : Stmt := topN 6
abbrev sWithin : Stmt := topN 7
abbrev sFrom : Stmt := topN 8
abbrev sPair : Stmt := topN 9
abbrev sDivisor : Stmt := topN 10
abbrev sShare : Stmt := topN 11
abbrev sCkShare : Stmt := topN 12
abbrev sCkPlaces : Stmt := topN 16
abbrev sCkHow : Stmt := topN 17
abbrev sMarkOf : Stmt := topN 18
abbrev sMark : Stmt := topN 19
abbrev sPot : Stmt := topN 21
abbrev sDraw : Stmt := topN 22
abbrev sAny : Stmt := topN 23
abbrev sGcd : Stmt := topN 24
abbrev sLow : Stmt := topN 25
abbrev sPick : Stmt := topN 26
abbrev sRight : Stmt := topN 27
abbrev sLaw : Stmt := topN 28

/-- a def that is called by its name -/
structure Cal (P : Program) (w : World) (K : PySem.W.Frag) (mg : Str → Option Value) (base : Heap) (k : Nat) (x : Str) (f : Addr) (fd : FuncData) (ps : List Str) (sp : Sp) : Prop where
  G : FnOk P w K mg base CX0 k f fd ps sp
  m : mg x = some (.ref f)
  kp : PySem.W.keepIn K (.ref f) = true
  b : Binds K fd ps []

/-- the built-ins that the text names stand as they were -/
structure Bl (mg : Str → Option Value) : Prop where
  isi : mg "isinstance" = none
  int : mg "int" = none
  bool : mg "bool" = none
  tup : mg "tuple" = none
  str : mg "str" = none
  len : mg "len" = none
  abs : mg "abs" = none
  dvm : mg "divmod" = none
  rng : mg "range" = none
  sum : mg "sum" = none
  enu : mg "enumerate" = none

/-- the text of a way to round -/
def How.s : How → Str
  | .down => "down"
  | .up => "up"
  | .near => "near"
  | .even => "even"

/-! ### promises of the program's defs -/
def spInteger : Sp := fun vs H Q _ => ∃ i : Int, vs = [.int i] ∧ Q (.bl true) H
def spWithin : Sp := fun vs H Q _ => ∃ i lo hi : Int, vs = [.int i, .int lo, .int hi] ∧ lo ≤ i ∧ i ≤ hi ∧ Q (.bl true) H
def spFrom : Sp := fun vs H Q _ => ∃ i lo : Int, vs = [.int i, .int lo] ∧ lo ≤ i ∧ Q (.bl true) H
def spPair : Sp := fun vs H Q _ => ∃ (t : Addr) (x y : V), vs = [.ref t] ∧ H t = some (.tup [x, y]) ∧ Q (.bl true) H
def spDivisor : Sp := fun vs H Q _ => ∃ a b : Int, vs = [.int a, .int b] ∧ Q (.int (gI a b)) H
def spShare : Sp := fun vs H Q _ => ∃ (t : Addr) (a b : Int), vs = [.ref t] ∧ H t = some (.tup [.int a, .int b]) ∧ 0 < b ∧ gI a b = 1 ∧ Q (.bl true) H
def spCkShare : Sp := fun vs H Q _ => ∃ (t : Addr) (a b : Int), vs = [.ref t] ∧ H t = some (.tup [.int a, .int b]) ∧ 0 < b ∧ gI a b = 1 ∧ Q .non H
def spCkPlaces : Sp := fun vs H Q _ => ∃ p : Nat, vs = [.int (p : Int)] ∧ p ≤ 6 ∧ Q .non H
def spCkHow : Sp := fun vs H Q _ => ∃ h : How, vs = [.str h.s] ∧ Q .non H
def spMarkOf : Sp := fun vs H Q _ => ∃ (n b u : Int) (h : How), vs = [.int n, .int b, .int u, .str h.s] ∧ 0 < b ∧ b.natAbs < 2 ^ 200 ∧ n.natAbs < 2 ^ 200 ∧ 0 < u ∧ u ≤ 1000000 ∧ ∀ H', Same H H' → Q (.int (markI h (n * u) b)) H'
/-- ten to the places -/
def unit (p : Nat) : Int := 10 ^ p
def spMark : Sp := fun vs H Q _ => ∃ (t : Addr) (a b : Int) (p : Nat) (h : How), vs = [.ref t, .int (p : Int), .str h.s] ∧ H t = some (.tup [.int a, .int b]) ∧ 0 < b ∧ gI a b = 1 ∧ b.natAbs < 2 ^ 200 ∧ a.natAbs < 2 ^ 200 ∧ p ≤ 6 ∧
  ∀ H', Same H H' → Q (.int (markI h (a * unit p) b)) H'

/-! ### promises of the law's defs -/
/-- the tuples stand as they stood -/
def Keep (H H' : Hp) : Prop := ∀ b xs, H b = some (.tup xs) → H' b = some (.tup xs)
theorem Keep.refl (H : Hp) : Keep H H := fun _ _ h => h
theorem Keep.trans {H H1 H2 : Hp} (a : Keep H H1) (b : Keep H1 H2) : Keep H H2 := fun c o h => b c o (a c o h)
theorem Same.keep {H H' : Hp} (a : Same H H') : Keep H H' := fun c o h => a c _ h
/-- what the draws are made of: a list of four at p -/
def Pot (H : Hp) (p : Addr) : Prop := ∃ (gl sl : Addr) (gs ss : List Int) (t c : Int), H p = some (.lst [.ref gl, .ref sl, .int t, .int c]) ∧ H gl = some (.lst (gs.map V.int)) ∧ H sl = some (.lst (ss.map V.int)) ∧ gl ≠ sl ∧ ss ≠ []
theorem Pot.same {H H' : Hp} {p : Addr} (h : Pot H p) (s : Same H H') : Pot H' p := by
  obtain ⟨gl, sl, gs, ss, t, c, h1, h2, h3, h4⟩ := h
  exact ⟨gl, sl, gs, ss, t, c, s _ _ h1, s _ _ h2, s _ _ h3, h4⟩
theorem same_upd {H : Hp} {p : Addr} {o : HO} (h : H p = none) : Same H (upd H p o) := fun b x e => by
  rw [upd_ne (ne_of_none e h)]
  exact e
theorem keep_lst {H : Hp} {p : Addr} {xs ys : List V} (h : H p = some (.lst xs)) : Keep H (upd H p (.lst ys)) := fun b zs e => by
  rw [upd_ne (ne_of e h (by intro z; cases z))]
  exact e
def spPot (K : PySem.W.Frag) : Sp := fun vs H Q _ => ∃ (a : Addr) (ns : List Int), vs = [.ref a] ∧ SqL K H a (ns.map V.int) ∧ ns.length ≤ 63 ∧ ∀ H' p, Pot H' p → Q (.ref p) H'
def spDraw : Sp := fun vs H Q _ => ∃ (p : Addr) (n : Int), vs = [.ref p, .int n] ∧ 0 < n ∧ n.natAbs < 2 ^ 200 ∧ Pot H p ∧ ∀ H' r, Keep H H' → Pot H' p → 0 ≤ r → r < n → Q (.int r) H'
def spAny : Sp := fun vs H Q _ => ∃ (p t : Addr) (xs : List Int), vs = [.ref p, .ref t] ∧ Pot H p ∧ H t = some (.tup (xs.map V.int)) ∧ xs ≠ [] ∧ xs.length ≤ 100 ∧ ∀ H' x, Keep H H' → Pot H' p → x ∈ xs → Q (.int x) H'
def spGcd : Sp := fun vs H Q _ => ∃ a b : Int, vs = [.int a, .int b] ∧ b.natAbs < 2 ^ 190 ∧ Q (.int (gI a b)) H
def spLow : Sp := fun vs H Q _ => ∃ a b : Int, vs = [.int a, .int b] ∧ 0 < b ∧ b.natAbs < 2 ^ 190 ∧ ∀ H' t, Same H H' → H' t = some (.tup [.int (a / gI a b), .int (b / gI a b)]) → Q (.ref t) H'
def spPick : Sp := fun vs H Q _ => ∃ p : Addr, vs = [.ref p] ∧ Pot H p ∧ ∀ H' t a b, Pot H' p → H' t = some (.tup [.int a, .int b]) → 0 < b → gI a b = 1 → a.natAbs < 2 ^ 100 → b.natAbs < 2 ^ 100 → Q (.ref t) H'
def spRight : Sp := fun vs H Q _ => ∃ (n b : Int) (h : How), vs = [.int (markI h n b), .str h.s, .int n, .int b] ∧ 0 < b ∧ n.natAbs < 2 ^ 200 ∧ b.natAbs < 2 ^ 200 ∧ Q (.bl true) H
def spLaw (K : PySem.W.Frag) : Sp := fun vs H Q _ => ∃ (a : Addr) (ns : List Int), vs = [.ref a] ∧ SqL K H a (ns.map V.int) ∧ ns.length ≤ 63 ∧ ∀ H', Q (.bl true) H'

/-! ### the scopes -/
theorem scInteger : FnScope ["thing"] ["thing"] (defScope sInteger) := ⟨rfl, rfl, rfl, by decide +kernel, rfl, by decide +kernel, by decide +kernel⟩
theorem scWithin : FnScope ["thing", "least", "most"] ["thing", "least", "most"] (defScope sWithin) := ⟨rfl, rfl, rfl, by decide +kernel, rfl, by decide +kernel, by decide +kernel⟩
theorem scFrom : FnScope ["thing", "least"] ["thing", "least"] (defScope sFrom) := ⟨rfl, rfl, rfl, by decide +kernel, rfl, by decide +kernel, by decide +kernel⟩
theorem scPair : FnScope ["thing"] ["thing"] (defScope sPair) := ⟨rfl, rfl, rfl, by decide +kernel, rfl, by decide +kernel, by decide +kernel⟩
theorem scDivisor : FnScope ["one", "other"] ["one", "other"] (defScope sDivisor) := ⟨rfl, rfl, rfl, by decide +kernel, rfl, by decide +kernel, by decide +kernel⟩
theorem scShare : FnScope ["thing"] ["thing"] (defScope sShare) := ⟨rfl, rfl, rfl, by decide +kernel, rfl, by decide +kernel, by decide +kernel⟩
theorem scCkShare : FnScope ["thing"] ["thing"] (defScope sCkShare) := ⟨rfl, rfl, rfl, by decide +kernel, rfl, by decide +kernel, by decide +kernel⟩
theorem scCkPlaces : FnScope ["thing"] ["thing"] (defScope sCkPlaces) := ⟨rfl, rfl, rfl, by decide +kernel, rfl, by decide +kernel, by decide +kernel⟩
theorem scCkHow : FnScope ["thing"] ["thing"] (defScope sCkHow) := ⟨rfl, rfl, rfl, by decide +kernel, rfl, by decide +kernel, by decide +kernel⟩
theorem scMarkOf : FnScope ["points", "tries", "unit", "how", "low", "rest"] ["points", "tries", "unit", "how"] (defScope sMarkOf) := ⟨rfl, rfl, rfl, by decide +kernel, rfl, by decide +kernel, by decide +kernel⟩
theorem scMark : FnScope ["share", "places", "how"] ["share", "places", "how"] (defScope sMark) := ⟨rfl, rfl, rfl, by decide +kernel, rfl, by decide +kernel, by decide +kernel⟩
theorem scPot : FnScope ["_law_script", "_law_cells", "_law_greats", "_law_smalls", "_law_item"] ["_law_script"] (defScope sPot) := ⟨rfl, rfl, rfl, by decide +kernel, rfl, by decide +kernel, by decide +kernel⟩
theorem scDraw : FnScope ["_law_pot_here", "_law_many", "_law_turn", "_law_number", "_law_seed"] ["_law_pot_here", "_law_many"] (defScope sDraw) := ⟨rfl, rfl, rfl, by decide +kernel, rfl, by decide +kernel, by decide +kernel⟩
theorem scAny : FnScope ["_law_pot_here", "_law_items"] ["_law_pot_here", "_law_items"] (defScope sAny) := ⟨rfl, rfl, rfl, by decide +kernel, rfl, by decide +kernel, by decide +kernel⟩
theorem scGcd : FnScope ["_law_one", "_law_other", "_law_turn"] ["_law_one", "_law_other"] (defScope sGcd) := ⟨rfl, rfl, rfl, by decide +kernel, rfl, by decide +kernel, by decide +kernel⟩
theorem scLow : FnScope ["_law_top", "_law_bottom", "_law_part"] ["_law_top", "_law_bottom"] (defScope sLow) := ⟨rfl, rfl, rfl, by decide +kernel, rfl, by decide +kernel, by decide +kernel⟩
theorem scPick : FnScope ["_law_pot_here", "_law_kind"] ["_law_pot_here"] (defScope sPick) := ⟨rfl, rfl, rfl, by decide +kernel, rfl, by decide +kernel, by decide +kernel⟩
theorem scRight : FnScope ["_law_told", "_law_how", "_law_top", "_law_bottom", "_law_far"] ["_law_told", "_law_how", "_law_top", "_law_bottom"] (defScope sRight) := ⟨rfl, rfl, rfl, by decide +kernel, rfl, by decide +kernel, by decide +kernel⟩
theorem scLaw : FnScope ["_law_script", "_law_pot_here", "_law_turn", "_law_share", "_law_places", "_law_unit", "_law_how", "_law_told", "_law_at", "_law_whole"] ["_law_script"] (defScope sLaw) := ⟨rfl, rfl, rfl, by decide +kernel, rfl, by decide +kernel, by decide +kernel⟩
end NL

-- piece: NlChecks
/-! the walks of the checks -/
namespace NL
open PySem PySem.Spec PyProof.Rows L2
theorem ifD {c A B : Prop} [Decidable c] (hc : c) (h : A) : if decide c = true then A else B := by
  rw [decide_eq_true hc]
  exact iteT h
theorem ifN {c A B : Prop} [Decidable c] (hc : ¬ c) (h : B) : if decide c = true then A else B := by
  rw [decide_eq_false hc]
  exact iteF h
theorem qD {c : Prop} [Decidable c] {Q : VK} {H : Hp} (hc : c) (h : Q (.bl true) H) : Q (.bl (decide c)) H := by
  rw [decide_eq_true hc]
  exact h
/-- a tuple that the top wrote -/
def KT (K : PySem.W.Frag) (a : Addr) (xs : List V) : Prop := ∃ (o : Obj) (its : Array Value) (n : Nat), K.lookup a = some o ∧ o.cls = .type "tuple" ∧ o.data = .seq its n ∧ its.size ≤ sizeLine ∧ Vals xs its.toList
theorem KT.at {K : PySem.W.Frag} {a : Addr} {xs : List V} (h : KT K a xs) (H : Hp) : SqT K H a xs := .inr h
def unitsV : List V := [.int 1, .int 10, .int 100, .int 1000, .int 10000, .int 100000, .int 1000000]
def howsV : List V := [.str "down", .str "up", .str "near", .str "even"]
theorem how_in (h : How) : inV (.str h.s) howsV = true := by cases h <;> decide +kernel
section
variable {P : Program} {w : World} {K : PySem.W.Frag} {mg : Str → Option Value} {base : Heap}
theorem ok_integer {f : Addr} {fd : FuncData} (F : Fun K "is_integer" "is_integer" sInteger f fd) (b : Bl mg) : FnOk P w K mg base CX0 1 f fd ["thing"] spInteger := by
  refine F.ok scInteger (fun vs H Q E h => ?_) (fun cdv A outer s H vs Q E hr h => ?_)
  · obtain ⟨i, rfl, _⟩ := h
    rfl
  · obtain ⟨i, rfl, q⟩ := h
    refine ⟨_, pss_one (ps_ret (pe_and (pe_callB call_isi (by rfl) b.isi boot_isinstance (pa_cons (pv 0) (pa_cons (pe_bltn (v := .ty "int") (by rfl) b.int boot_int rfl) pa_nil)))
      (pe_one (pe_not (pe_callB call_isi (by rfl) b.isi boot_isinstance (pa_cons (pv 0) (pa_cons (pe_bltn (v := .ty "bool") (by rfl) b.bool boot_bool rfl) pa_nil))))))), ?_⟩
    refine ⟨_, rfl, .int i, .ty "int", .type "int", .type "int", true, rfl, .ty "int", .base (.int i), kit_ty (by decide +kernel), true, rfl, ?_⟩
    refine iteT ⟨_, rfl, .int i, .ty "bool", .type "int", .type "bool", false, rfl, .ty "bool", .base (.int i), kit_ty (by decide +kernel), false, rfl, q⟩
theorem ok_within {f fI : Addr} {fd fdI : FuncData} (F : Fun K "is_within" "is_within" sWithin f fd) (I : Cal P w K mg base 1 "is_integer" fI fdI ["thing"] spInteger) : FnOk P w K mg base CX0 2 f fd ["thing", "least", "most"] spWithin := by
  refine F.ok scWithin (fun vs H Q E h => ?_) (fun cdv A outer s H vs Q E hr h => ?_)
  · obtain ⟨i, lo, hi, rfl, _⟩ := h
    rfl
  · obtain ⟨i, lo, hi, rfl, h1, h2, q⟩ := h
    refine ⟨_, pss_one (ps_ret (pe_and (pe_call I.G hr (by rfl) I.m I.kp I.b .nil pass0 (pa_cons (pv 0) pa_nil)) (pe_one (pe_chain op_le op_le (pv 1) (pv 0) (pv 2))))), ?_⟩
    refine ⟨_, rfl, i, rfl, true, rfl, iteT ⟨_, rfl, _, rfl, lo, i, rfl, rfl, _, rfl, ifD h1 ⟨_, rfl, i, hi, rfl, rfl, ?_⟩⟩⟩
    exact qD (Q := Q) h2 q
theorem ok_from {f fI : Addr} {fd fdI : FuncData} (F : Fun K "is_from" "is_from" sFrom f fd) (I : Cal P w K mg base 1 "is_integer" fI fdI ["thing"] spInteger) : FnOk P w K mg base CX0 2 f fd ["thing", "least"] spFrom := by
  refine F.ok scFrom (fun vs H Q E h => ?_) (fun cdv A outer s H vs Q E hr h => ?_)
  · obtain ⟨i, lo, rfl, _⟩ := h
    rfl
  · obtain ⟨i, lo, rfl, h1, q⟩ := h
    refine ⟨_, pss_one (ps_ret (pe_and (pe_call I.G hr (by rfl) I.m I.kp I.b .nil pass0 (pa_cons (pv 0) pa_nil)) (pe_one (pe_cmpR op_ge (pv 0) (pv 1) (nomark _))))), ?_⟩
    refine ⟨_, rfl, i, rfl, true, rfl, iteT ⟨_, rfl, _, rfl, i, lo, rfl, rfl, ?_⟩⟩
    exact qD (Q := Q) h1 q
theorem ok_pair {f : Addr} {fd : FuncData} (F : Fun K "is_pair" "is_pair" sPair f fd) (b : Bl mg) : FnOk P w K mg base CX0 1 f fd ["thing"] spPair := by
  refine F.ok scPair (fun vs H Q E h => ?_) (fun cdv A outer s H vs Q E hr h => ?_)
  · obtain ⟨t, x, y, rfl, _⟩ := h
    rfl
  · obtain ⟨t, x, y, rfl, ht, q⟩ := h
    refine ⟨_, pss_one (ps_ret (pe_and (pe_callB call_isi (by rfl) b.isi boot_isinstance (pa_cons (pv 0) (pa_cons (pe_bltn (v := .ty "tuple") (by rfl) b.tup boot_tuple rfl) pa_nil)))
      (pe_one (pe_cmpR op_eq (pe_callB call_len_seq (by rfl) b.len PySem.boot_len (pa_cons (pv 0) pa_nil)) pe_int (nomark _))))), ?_⟩
    refine ⟨_, rfl, .ref t, .ty "tuple", .type "tuple", .type "tuple", true, rfl, .ty "tuple", .base (.tup ht), kit_ty (by decide +kernel), true, rfl, ?_⟩
    refine iteT ⟨_, rfl, t, [x, y], rfl, .inr (SqT.of ht), rfl, ?_⟩
    exact qD (Q := Q) rfl q
theorem ok_divisor {f : Addr} {fd : FuncData} (F : Fun K "common_divisor" "common_divisor" sDivisor f fd) (b : Bl mg) : FnOk P w K mg base CX0 1 f fd ["one", "other"] spDivisor := by
  refine F.ok scDivisor (fun vs H Q E h => ?_) (fun cdv A outer s H vs Q E hr h => ?_)
  · obtain ⟨x, y, rfl, _⟩ := h
    rfl
  · obtain ⟨x, y, rfl, q⟩ := h
    refine ⟨_, pss_cons (ps_set (i := 0) scDivisor.nd rfl (Or.inl rfl) (pe_callB call_abs (by rfl) b.abs boot_abs (pa_cons (pv 0) pa_nil)))
      (pss_cons (ps_set (i := 1) scDivisor.nd rfl (Or.inl rfl) (pe_callB call_abs (by rfl) b.abs boot_abs (pa_cons (pv 1) pa_nil)))
      (pss_cons (ps_while PassesOwn.never (pt_cmpR op_gt (pv 1) pe_int (nomark _))
        (pss_one (ps_par (i := 0) (j := 1) (by rfl) scDivisor.nd rfl rfl (by decide) rfl rfl (pa_cons (pv 1) (pa_cons (pe_op op_mod (pv 0) (pv 1)) pa_nil)) (by rfl))))
      (pss_one (ps_ret (pv 0))))), ?_⟩
    refine ⟨_, rfl, x, rfl, _, rfl, y, rfl, ?_⟩
    refine ⟨fun m σ H' => ∃ u v : Int, σ = [some (.int u), some (.int v)] ∧ H' = H ∧ 0 ≤ u ∧ 0 ≤ v ∧ gI u v = gI x y ∧ m = v.toNat, ⟨_, absI x, absI y, rfl, rfl, absI_nonneg x, absI_nonneg y, gI_abs x y, rfl⟩, ?_⟩
    rintro m σ H' ⟨u, v, rfl, rfl, u0, v0, hg, rfl⟩
    refine ⟨_, rfl, v, 0, rfl, rfl, _, rfl, ?_⟩
    by_cases hv : 0 < v
    · refine ifD hv ⟨fun σ' H'' => ∃ u' v' : Int, σ' = [some (.int u'), some (.int v')] ∧ H'' = H' ∧ 0 ≤ u' ∧ 0 ≤ v' ∧ gI u' v' = gI x y ∧ v' < v, ?_, ?_⟩
      · rintro σ' H'' ⟨u', v', e1, e2, e3, e4, e5, e6⟩
        exact ⟨v'.toNat, by omega, u', v', e1, e2, e3, e4, e5, rfl⟩
      · refine ⟨_, rfl, _, rfl, _, rfl, u, v, rfl, rfl, hv, _, _, rfl, v, u % v, rfl, rfl, v0, Int.emod_nonneg _ (by omega), (gI_step u0 hv).trans hg, Int.emod_lt_of_pos _ hv⟩
    · refine ifN hv ?_
      have e : v = 0 := by omega
      subst e
      rw [gI_zero u0] at hg
      refine ⟨_, rfl, ?_⟩
      rw [hg]
      exact q
theorem ok_share {f fP fI fF fD : Addr} {fd fdP fdI fdF fdD : FuncData} (F : Fun K "is_share" "is_share" sShare f fd) (Pa : Cal P w K mg base 1 "is_pair" fP fdP ["thing"] spPair) (I : Cal P w K mg base 1 "is_integer" fI fdI ["thing"] spInteger)
    (Fr : Cal P w K mg base 2 "is_from" fF fdF ["thing", "least"] spFrom) (D : Cal P w K mg base 1 "common_divisor" fD fdD ["one", "other"] spDivisor) : FnOk P w K mg base CX0 3 f fd ["thing"] spShare := by
  refine F.ok scShare (fun vs H Q E h => ?_) (fun cdv A outer s H vs Q E hr h => ?_)
  · obtain ⟨t, x, y, rfl, _⟩ := h
    rfl
  · obtain ⟨t, x, y, rfl, ht, hy, hg, q⟩ := h
    have hr1 : Room 1 _ := hr.mono (by decide)
    refine ⟨_, pss_cons (ps_if (PW.pt (pw_or (pt_not (pt_val (pe_call Pa.G hr1 (by rfl) Pa.m Pa.kp Pa.b .nil pass0 (pa_cons (pv 0) pa_nil))))
        (pw_or (pt_not (pt_val (pe_call I.G hr1 (by rfl) I.m I.kp I.b .nil pass0 (pa_cons (pe_ix ix_tup (pv 0) pe_int (fun _ _ => rfl)) pa_nil))))
          (pw_or1 (pt_not (pt_val (pe_call Fr.G hr (by rfl) Fr.m Fr.kp Fr.b .nil pass0 (pa_cons (pe_ix ix_tup (pv 0) pe_int (fun _ _ => rfl)) (pa_cons pe_int pa_nil)))))))))
        (pss_one (ps_ret pe_bl)) pss_nil)
      (pss_one (ps_ret (pe_cmpR op_eq (pe_call D.G hr1 (by rfl) D.m D.kp D.b .nil pass0 (pa_cons (pe_ix ix_tup (pv 0) pe_int (fun _ _ => rfl)) (pa_cons (pe_ix ix_tup (pv 0) pe_int (fun _ _ => rfl)) pa_nil))) pe_int (nomark _)))), ?_⟩
    have hs : SqT K H t [.int x, .int y] := SqT.of ht
    refine ⟨_, rfl, t, _, _, rfl, ht, true, rfl, iteF ⟨_, rfl, t, _, 0, .int x, rfl, rfl, hs, atI_nat (j := 0) rfl, x, rfl, true, rfl, iteF ⟨_, rfl, t, _, 1, .int y, rfl, rfl, hs, atI_nat (j := 1) rfl, y, 1, rfl, hy, true, rfl, iteF ?_⟩⟩⟩
    refine ⟨_, rfl, t, _, 0, .int x, rfl, rfl, hs, atI_nat (j := 0) rfl, _, rfl, t, _, 1, .int y, rfl, rfl, hs, atI_nat (j := 1) rfl, x, y, rfl, rfl, ?_⟩
    exact qD (Q := Q) (by rw [hg]) q
theorem ok_ckshare {f fS : Addr} {fd fdS : FuncData} (F : Fun K "check_share" "check_share" sCkShare f fd) (S : Cal P w K mg base 3 "is_share" fS fdS ["thing"] spShare) : FnOk P w K mg base CX0 4 f fd ["thing"] spCkShare := by
  refine F.ok scCkShare (fun vs H Q E h => ?_) (fun cdv A outer s H vs Q E hr h => ?_)
  · obtain ⟨t, x, y, rfl, _⟩ := h
    rfl
  · obtain ⟨t, x, y, rfl, ht, hy, hg, q⟩ := h
    refine ⟨_, pss_one (ps_if (pt_not (pt_val (pe_call S.G hr (by rfl) S.m S.kp S.b .nil pass0 (pa_cons (pv 0) pa_nil)))) pss_never pss_nil), ?_⟩
    exact ⟨_, rfl, t, x, y, rfl, ht, hy, hg, true, rfl, iteF q⟩
theorem ok_ckplaces {f fW aU : Addr} {fd fdW : FuncData} (F : Fun K "check_places" "check_places" sCkPlaces f fd) (W : Cal P w K mg base 2 "is_within" fW fdW ["thing", "least", "most"] spWithin) (b : Bl mg) (mU : mg "UNITS" = some (.ref aU)) (kU : KT K aU unitsV) :
    FnOk P w K mg base CX0 3 f fd ["thing"] spCkPlaces := by
  refine F.ok scCkPlaces (fun vs H Q E h => ?_) (fun cdv A outer s H vs Q E hr h => ?_)
  · obtain ⟨p, rfl, _⟩ := h
    rfl
  · obtain ⟨p, rfl, hp, q⟩ := h
    refine ⟨_, pss_one (ps_if (pt_not (pt_val (pe_call W.G hr (by rfl) W.m W.kp W.b .nil pass0 (pa_cons (pv 0) (pa_cons pe_int (pa_cons (pe_op op_sub (pe_callB call_len_seq (by rfl) b.len PySem.boot_len (pa_cons (pe_glob (v := .ref aU) (by rfl) mU rfl) pa_nil)) pe_int) pa_nil)))))) pss_never pss_nil), ?_⟩
    refine ⟨_, rfl, aU, unitsV, rfl, .inr (kU.at H), _, _, rfl, rfl, p, 0, 6, rfl, by omega, by omega, true, rfl, iteF q⟩
theorem ok_ckhow {f aH : Addr} {fd : FuncData} (F : Fun K "check_how" "check_how" sCkHow f fd) (b : Bl mg) (mH : mg "HOWS" = some (.ref aH)) (kH : KT K aH howsV) : FnOk P w K mg base CX0 1 f fd ["thing"] spCkHow := by
  refine F.ok scCkHow (fun vs H Q E h => ?_) (fun cdv A outer s H vs Q E hr h => ?_)
  · obtain ⟨p, rfl, _⟩ := h
    rfl
  · obtain ⟨p, rfl, q⟩ := h
    refine ⟨_, pss_one (ps_if (PW.pt (pw_or (pt_not (pt_val (pe_callB call_isi (by rfl) b.isi boot_isinstance (pa_cons (pv 0) (pa_cons (pe_bltn (v := .ty "str") (by rfl) b.str boot_str rfl) pa_nil)))))
      (pw_or1 (pt_cmpR op_notIn_seq (pv 0) (pe_glob (v := .ref aH) (by rfl) mH rfl) (by rfl))))) pss_never pss_nil), ?_⟩
    refine ⟨_, rfl, .str p.s, .ty "str", .type "str", .type "str", true, rfl, .ty "str", .base (.str _), kit_ty (by decide +kernel), true, rfl, iteF ?_⟩
    refine ⟨_, rfl, aH, howsV, rfl, .inr (kH.at H), rfl, rfl, _, rfl, ?_⟩
    rw [how_in p]
    exact iteF q
end
end NL

-- piece: NlMark
/-! the walks of mark_of and mark -/
namespace NL
open PySem PySem.Spec PyProof.Rows L2
theorem units_at : ∀ {p : Nat}, p ≤ 6 → unitsV[p]? = some (.int (unit p))
  | 0, _ => rfl
  | 1, _ => rfl
  | 2, _ => rfl
  | 3, _ => rfl
  | 4, _ => rfl
  | 5, _ => rfl
  | 6, _ => rfl
  | p + 7, h => absurd h (by omega)
theorem unit_pos : ∀ {p : Nat}, p ≤ 6 → 0 < unit p ∧ unit p ≤ 1000000
  | 0, _ => by decide
  | 1, _ => by decide
  | 2, _ => by decide
  | 3, _ => by decide
  | 4, _ => by decide
  | 5, _ => by decide
  | 6, _ => by decide
  | p + 7, h => absurd h (by omega)
theorem div_fits {n u b : Int} (hn : n.natAbs < 2 ^ 200) (u0 : 0 < u) (u1 : u ≤ 1000000) (hb : 0 < b) : CDivP (n * u) b := by
  have hu : u.natAbs < 2 ^ 20 := by omega
  have h := PyProof.Rows.intBits_le (wide_lt hn hu)
  exact divp_ok hb (by omega)
section
variable {P : Program} {w : World} {K : PySem.W.Frag} {mg : Str → Option Value} {base : Heap}
theorem ok_markof {f : Addr} {fd : FuncData} (F : Fun K "mark_of" "mark_of" sMarkOf f fd) (b : Bl mg) : FnOk P w K mg base CX0 1 f fd ["points", "tries", "unit", "how"] spMarkOf := by
  refine F.ok scMarkOf (fun vs H Q E h => ?_) (fun cdv A outer s H vs Q E hr h => ?_)
  · obtain ⟨n, d, u, h, rfl, _⟩ := h
    rfl
  · obtain ⟨n, d, u, h, rfl, hd, hd2, hn, u0, u1, q⟩ := h
    refine ⟨_, pss_cons (ps_asg (pe_callB call_divmodW (by rfl) b.dvm boot_divmod (pa_cons (pe_op op_mul (pv 0) (pv 2)) (pa_cons (pv 1) pa_nil)))
          (pg_tup (by rfl) (pgs_cons (pg_name (i := 4) scMarkOf.nd rfl (.inl rfl)) (pgs_cons (pg_name (i := 5) scMarkOf.nd rfl (.inl rfl)) pgs_nil))))
      (pss_cons (ps_if (pt_cmpR op_eq (pv 3) pe_str (nomark _)) (pss_one (ps_ret (pv 4))) pss_nil)
      (pss_cons (ps_if (pt_cmpR op_eq (pv 3) pe_str (nomark _)) (pss_one (ps_ret (pe_op op_add (pv 4) (pe_callTy call_int1 (by rfl) b.int boot_int (pa_cons (pe_cmpR op_gt (pv 5) pe_int (nomark _)) pa_nil))))) pss_nil)
      (pss_cons (ps_if (pt_cmpR op_eq (pv 3) pe_str (nomark _)) (pss_one (ps_ret (pe_op op_add (pv 4) (pe_callTy call_int1 (by rfl) b.int boot_int (pa_cons (pe_cmpR op_ge (pe_op op_mul pe_int (pv 5)) (pv 1) (nomark _)) pa_nil))))) pss_nil)
      (pss_one (ps_ret (pe_op op_add (pv 4) (pe_callTy call_int1 (by rfl) b.int boot_int (pa_cons (pe_or (pe_cmpR op_gt (pe_op op_mul pe_int (pv 5)) (pv 1) (nomark _))
        (pe_one (pe_and (pe_cmpR op_eq (pe_op op_mul pe_int (pv 5)) (pv 1) (nomark _)) (pe_one (pe_cmpR op_eq (pe_op op_mod (pv 4) pe_int) pe_int (nomark _)))))) pa_nil)))))))), ?_⟩
    have r1 := Int.emod_nonneg (n * u) (show d ≠ 0 by omega)
    have r2 := Int.emod_lt_of_pos (n * u) hd
    refine ⟨_, rfl, _, rfl, n, u, rfl, rfl, .inr ⟨by omega, by omega⟩, _, rfl, n * u, d, rfl, div_fits hn u0 u1 hd, fun p hp => ?_⟩
    have sm : Same H (upd H p (.tup [.int (n * u / d), .int (n * u % d)])) := same_upd hp
    refine ⟨p, _, rfl, SqT.of upd_same, rfl, _, _, rfl, _, _, rfl, rfl, ?_⟩
    refine ⟨_, rfl, rfl, _, rfl, ?_⟩
    cases h with
    | down => exact ifD rfl ⟨_, rfl, q _ sm⟩
    | up =>
      refine ifN (by decide +kernel) ⟨_, rfl, rfl, _, rfl, ifD rfl ⟨_, rfl, _, rfl, _, 0, rfl, rfl, .inr ⟨_, rfl, _, _, rfl, rfl, ?_⟩⟩⟩
      have k := q _ sm
      have e : markI .up (n * u) d = n * u / d + (if decide (0 < n * u % d) = true then 1 else 0) := by
        show n * u / d + (if 0 < n * u % d then 1 else 0) = _
        by_cases c : 0 < n * u % d
        · rw [if_pos c, if_pos (decide_eq_true c)]
        · rw [if_neg c, if_neg (by rw [decide_eq_false c]; decide)]
      rw [e] at k
      exact k
    | near =>
      refine ifN (by decide +kernel) ⟨_, rfl, rfl, _, rfl, ifN (by decide +kernel) ⟨_, rfl, rfl, _, rfl, ifD rfl ⟨_, rfl, _, rfl, 2, _, rfl, rfl, .inl ⟨by decide, by decide⟩, _, rfl, _, d, rfl, rfl, .inr ⟨_, rfl, _, _, rfl, rfl, ?_⟩⟩⟩⟩
      have k := q _ sm
      have e : markI .near (n * u) d = n * u / d + (if decide (d ≤ 2 * (n * u % d)) = true then 1 else 0) := by
        show n * u / d + (if d ≤ 2 * (n * u % d) then 1 else 0) = _
        by_cases c : d ≤ 2 * (n * u % d)
        · rw [if_pos c, if_pos (decide_eq_true c)]
        · rw [if_neg c, if_neg (by rw [decide_eq_false c]; decide)]
      rw [e] at k
      exact k
    | even =>
      refine ifN (by decide +kernel) ⟨_, rfl, rfl, _, rfl, ifN (by decide +kernel) ⟨_, rfl, rfl, _, rfl, ifN (by decide +kernel) ?_⟩⟩
      have k := q _ sm
      refine ⟨_, rfl, _, rfl, 2, _, rfl, rfl, .inl ⟨by decide, by decide⟩, _, rfl, _, d, rfl, rfl, _, rfl, ?_⟩
      by_cases c1 : d < 2 * (n * u % d)
      · have e : markI .even (n * u) d = n * u / d + 1 := by
          show n * u / d + (if d < 2 * (n * u % d) ∨ (2 * (n * u % d) = d ∧ n * u / d % 2 = 1) then 1 else 0) = _
          rw [if_pos (.inl c1)]
        rw [e] at k
        exact ifD c1 (.inr ⟨_, rfl, _, _, rfl, rfl, k⟩)
      · refine ifN c1 ⟨_, rfl, 2, _, rfl, rfl, .inl ⟨by decide, by decide⟩, _, rfl, rfl, _, rfl, ?_⟩
        by_cases c2 : 2 * (n * u % d) = d
        · refine ifD (show V.int (2 * (n * u % d)) = V.int d by rw [c2]) ⟨_, rfl, _, 2, rfl, rfl, (show (0 : Int) < 2 by decide), rfl, .inr ⟨_, rfl, _, _, rfl, rfl, ?_⟩⟩
          by_cases c3 : n * u / d % 2 = 1
          · have e : markI .even (n * u) d = n * u / d + 1 := by
              show n * u / d + (if d < 2 * (n * u % d) ∨ (2 * (n * u % d) = d ∧ n * u / d % 2 = 1) then 1 else 0) = _
              rw [if_pos (.inr ⟨c2, c3⟩)]
            rw [e] at k
            rw [decide_eq_true (show V.int (n * u / d % 2) = V.int 1 by rw [c3])]
            exact k
          · have e : markI .even (n * u) d = n * u / d + 0 := by
              show n * u / d + (if d < 2 * (n * u % d) ∨ (2 * (n * u % d) = d ∧ n * u / d % 2 = 1) then 1 else 0) = _
              rw [if_neg (by omega)]
            rw [e] at k
            rw [decide_eq_false (show ¬ V.int (n * u / d % 2) = V.int 1 from fun z => c3 (V.int.inj z))]
            exact k
        · have e : markI .even (n * u) d = n * u / d + 0 := by
            show n * u / d + (if d < 2 * (n * u % d) ∨ (2 * (n * u % d) = d ∧ n * u / d % 2 = 1) then 1 else 0) = _
            rw [if_neg (by omega)]
          rw [e] at k
          exact ifN (fun z => c2 (V.int.inj z)) (.inr ⟨_, rfl, _, _, rfl, rfl, k⟩)
theorem ok_mark {f fS fP fH fM aU : Addr} {fd fdS fdP fdH fdM : FuncData} (F : Fun K "mark" "mark" sMark f fd) (S : Cal P w K mg base 4 "check_share" fS fdS ["thing"] spCkShare) (Pl : Cal P w K mg base 3 "check_places" fP fdP ["thing"] spCkPlaces)
    (Ho : Cal P w K mg base 1 "check_how" fH fdH ["thing"] spCkHow) (M : Cal P w K mg base 1 "mark_of" fM fdM ["points", "tries", "unit", "how"] spMarkOf) (mU : mg "UNITS" = some (.ref aU)) (kU : KT K aU unitsV) :
    FnOk P w K mg base CX0 5 f fd ["share", "places", "how"] spMark := by
  refine F.ok scMark (fun vs H Q E h => ?_) (fun cdv A outer s H vs Q E hr h => ?_)
  · obtain ⟨t, x, y, p, h, rfl, _⟩ := h
    rfl
  · obtain ⟨t, x, y, p, h, rfl, ht, hy, hg, hy2, hx2, hp, q⟩ := h
    have hr1 : Room 1 _ := hr.mono (by decide)
    have hr3 : Room 3 _ := hr.mono (by decide)
    refine ⟨_, pss_cons (ps_expr (pe_call S.G hr (by rfl) S.m S.kp S.b .nil pass0 (pa_cons (pv 0) pa_nil)))
      (pss_cons (ps_expr (pe_call Pl.G hr3 (by rfl) Pl.m Pl.kp Pl.b .nil pass0 (pa_cons (pv 1) pa_nil)))
      (pss_cons (ps_expr (pe_call Ho.G hr1 (by rfl) Ho.m Ho.kp Ho.b .nil pass0 (pa_cons (pv 2) pa_nil)))
      (pss_one (ps_ret (pe_call M.G hr1 (by rfl) M.m M.kp M.b .nil pass0 (pa_cons (pe_ix ix_tup (pv 0) pe_int (fun _ _ => rfl)) (pa_cons (pe_ix ix_tup (pv 0) pe_int (fun _ _ => rfl))
        (pa_cons (pe_ix ix_tup (pe_glob (v := .ref aU) (by rfl) mU rfl) (pv 1) (fun _ _ => rfl)) (pa_cons (pv 2) pa_nil))))))))), ?_⟩
    have hs : SqT K H t [.int x, .int y] := SqT.of ht
    obtain ⟨u0, u1⟩ := unit_pos hp
    refine ⟨_, rfl, t, x, y, rfl, ht, hy, hg, _, rfl, p, rfl, hp, _, rfl, h, rfl, ?_⟩
    refine ⟨_, rfl, t, _, 0, .int x, rfl, rfl, hs, atI_nat (j := 0) rfl, _, rfl, t, _, 1, .int y, rfl, rfl, hs, atI_nat (j := 1) rfl, _, rfl, aU, unitsV, p, .int (unit p), rfl, rfl, kU.at H, atI_nat (units_at hp), _, rfl, ?_⟩
    exact ⟨x, y, unit p, h, rfl, hy, hy2, hx2, u0, u1, q⟩
end
end NL

-- piece: NlGcd
/-! the walks of the law's gcd, low, draw, any -/
namespace NL
open PySem PySem.Spec PyProof.Rows L2
section
variable {P : Program} {w : World} {K : PySem.W.Frag} {mg : Str → Option Value} {base : Heap}
theorem ok_gcd {f : Addr} {fd : FuncData} (F : Fun K "_law_gcd" "_law_gcd" sGcd f fd) (b : Bl mg) : FnOk P w K mg base CX0 1 f fd ["_law_one", "_law_other"] spGcd := by
  refine F.ok scGcd (fun vs H Q E h => ?_) (fun cdv A outer s H vs Q E hr h => ?_)
  · obtain ⟨x, y, rfl, _⟩ := h
    rfl
  · obtain ⟨x, y, rfl, hy, q⟩ := h
    refine ⟨_, pss_cons (ps_par (i := 0) (j := 1) (by rfl) scGcd.nd rfl rfl (by decide) rfl rfl (pa_cons (pe_callB call_abs (by rfl) b.abs boot_abs (pa_cons (pv 0) pa_nil)) (pa_cons (pe_callB call_abs (by rfl) b.abs boot_abs (pa_cons (pv 1) pa_nil)) pa_nil)) (by rfl))
      (pss_cons (ps_for PassesOwn.never rfl (pi_range1 rfl b.rng (pa_cons pe_int pa_nil)) (pg_name (i := 2) scGcd.nd rfl (Or.inl rfl))
        (pss_cons (ps_if (pt_cmpR op_eq (pv 1) pe_int (nomark _)) (pss_one ps_break) pss_nil)
          (pss_one (ps_par (i := 0) (j := 1) (by rfl) scGcd.nd rfl rfl (by decide) rfl rfl (pa_cons (pv 1) (pa_cons (pe_op op_mod (pv 0) (pv 1)) pa_nil)) (by rfl)))))
      (pss_one (ps_ret (pv 0)))), ?_⟩
    refine ⟨_, rfl, x, rfl, _, rfl, y, rfl, _, _, rfl, ?_⟩
    refine ⟨400, rfl, by decide, by decide, for_range (n := 400) (fun i σ H' => ∃ (u v : Int) (z : Option V), σ = [some (.int u), some (.int v), z] ∧ H' = H ∧ GInv x y i u v)
      ⟨absI x, absI y, none, rfl, rfl, GInv.start x y⟩ ?_ ?_⟩
    · rintro i σ H' hi ⟨u, v, z, rfl, rfl, g⟩
      refine ⟨_, rfl, rfl, _, rfl, ?_⟩
      by_cases hv : v = 0
      · refine ifD (by rw [hv]) ?_
        refine ⟨_, rfl, ?_⟩
        rw [g.stop hv]
        exact q
      · have v0 : 0 < v := by
          have := g.y0
          omega
        refine ifN (fun z => hv (V.int.inj z)) ⟨_, rfl, _, rfl, _, rfl, u, v, rfl, rfl, v0, _, _, rfl, v, u % v, _, rfl, rfl, g.turn hy hv⟩
    · rintro σ H' ⟨u, v, z, rfl, rfl, g⟩
      refine ⟨_, rfl, ?_⟩
      rw [g.last]
      exact q
theorem ok_low {f fG : Addr} {fd fdG : FuncData} (F : Fun K "_law_low" "_law_low" sLow f fd) (G : Cal P w K mg base 1 "_law_gcd" fG fdG ["_law_one", "_law_other"] spGcd) : FnOk P w K mg base CX0 2 f fd ["_law_top", "_law_bottom"] spLow := by
  refine F.ok scLow (fun vs H Q E h => ?_) (fun cdv A outer s H vs Q E hr h => ?_)
  · obtain ⟨x, y, rfl, _⟩ := h
    rfl
  · obtain ⟨x, y, rfl, hy0, hy, q⟩ := h
    refine ⟨_, pss_cons (ps_set (i := 2) scLow.nd rfl (Or.inl rfl) (pe_call G.G hr (by rfl) G.m G.kp G.b .nil pass0 (pa_cons (pv 0) (pa_cons (pv 1) pa_nil))))
      (pss_one (ps_ret (pe_tup (pa_cons (pe_op op_fdivW (pv 0) (pv 2)) (pa_cons (pe_op op_fdivW (pv 1) (pv 2)) pa_nil))))), ?_⟩
    have g0 := gI_pos (a := x) hy0
    have g1 := gI_le (a := x) hy0
    have hw : ∀ i : Int, CDivW i (gI x y) := fun i => wide_div g0 (b := 190) (by omega) (by decide) (by decide)
    refine ⟨_, rfl, _, rfl, x, y, rfl, hy, _, rfl, _, rfl, _, _, rfl, rfl, hw _, _, rfl, _, rfl, _, _, rfl, rfl, hw _, (by show 2 ≤ sizeLine; decide), fun p hp => ?_⟩
    exact q _ p (same_upd hp) upd_same
end
end NL

-- piece: NlDraw
/-! the walks of the law's draw, any -/
namespace NL
open PySem PySem.Spec PyProof.Rows L2
theorem lst_ne {g : Addr} {r : List V} {gs : List Int} : HO.lst (.ref g :: r) ≠ HO.lst (gs.map V.int) := by
  intro z
  injection z with z
  cases gs <;> simp at z
theorem ixn {n j : Nat} (hj : j < n) : ixN n (j : Int) = some j := by
  unfold ixN
  rw [if_pos (by omega), if_pos (by omega)]
  simp
section
variable {P : Program} {w : World} {K : PySem.W.Frag} {mg : Str → Option Value} {base : Heap}
theorem ok_draw {f : Addr} {fd : FuncData} (F : Fun K "_law_draw" "_law_draw" sDraw f fd) (b : Bl mg) : FnOk P w K mg base CX0 1 f fd ["_law_pot_here", "_law_many"] spDraw := by
  refine F.ok scDraw (fun vs H Q E h => ?_) (fun cdv A outer s H vs Q E hr h => ?_)
  · obtain ⟨p, n, rfl, _⟩ := h
    rfl
  · obtain ⟨p, n, rfl, n0, n1, ⟨gl, sl, gs, ss, t, c, h1, h2, h3, hgs, hss⟩, q⟩ := h
    have npg : p ≠ gl := ne_of h1 h2 lst_ne
    have nps : p ≠ sl := ne_of h1 h3 lst_ne
    refine ⟨_, pss_cons (ps_set (i := 2) scDraw.nd rfl (Or.inl rfl) (pe_ix ix_list (pv 0) pe_int (fun _ _ => rfl)))
      (pss_cons (ps_asg (pe_op op_add (pv 2) pe_int) (pg_sub (pv 0) pe_int set_list))
      (pss_cons (ps_if (pt_cmpR op_gt (pe_callB call_len_seq (by rfl) b.len PySem.boot_len (pa_cons (pe_ix ix_list (pv 0) pe_int (fun _ _ => rfl)) pa_nil)) pe_int (nomark _))
        (pss_cons (ps_set (i := 3) scDraw.nd rfl (Or.inl rfl) (pe_ix ix_list (pe_ix ix_list (pv 0) pe_int (fun _ _ => rfl)) pe_int (fun _ _ => rfl)))
        (pss_cons (ps_asg (pe_op op_fdivW (pv 3) (pv 1)) (pg_sub (pe_ix ix_list (pv 0) pe_int (fun _ _ => rfl)) pe_int set_list))
        (pss_cons (ps_if (pt_cmpR op_lt (pv 3) (pv 1) (nomark _)) (pss_one (ps_expr (pe_bm PySem.F.plainAttrs_list PySem.F.slot_list_pop PySem.F.type_list_pop mt_popAt (pe_ix ix_list (pv 0) pe_int (fun _ _ => rfl)) (pa_cons pe_int pa_nil)))) pss_nil)
        (pss_one (ps_ret (pe_op op_mod (pe_callTy call_int1 (by rfl) b.int boot_int (pa_cons (pv 3) pa_nil)) (pv 1)))))))
        pss_nil)
      (pss_cons (ps_set (i := 4) scDraw.nd rfl (Or.inl rfl) (pe_op op_add (pe_op op_add (pe_op op_mul (pe_ix ix_list (pe_ix ix_list (pv 0) pe_int (fun _ _ => rfl)) (pe_op op_mod (pe_callTy call_int1 (by rfl) b.int boot_int (pa_cons (pv 2) pa_nil)) (pe_callB call_len_seq (by rfl) b.len PySem.boot_len (pa_cons (pe_ix ix_list (pv 0) pe_int (fun _ _ => rfl)) pa_nil))) (fun _ _ => rfl)) pe_int) (pe_op op_mul pe_int (pv 2))) (pe_op op_mul (pe_ix ix_list (pv 0) pe_int (fun _ _ => rfl)) pe_int)))
      (pss_cons (ps_set (i := 3) scDraw.nd rfl (Or.inl rfl) (pe_op op_mod (pe_callTy call_int1 (by rfl) b.int boot_int (pa_cons (pe_op op_add (pe_op op_mul (pv 4) pe_int) pe_int) pa_nil)) pe_int))
      (pss_cons (ps_set (i := 3) scDraw.nd rfl (Or.inl rfl) (pe_op op_mod (pe_callTy call_int1 (by rfl) b.int boot_int (pa_cons (pe_op op_mul (pv 3) (pe_op op_add (pe_op op_fdiv (pv 3) pe_int) pe_int)) pa_nil)) pe_int))
      (pss_cons (ps_set (i := 3) scDraw.nd rfl (Or.inl rfl) (pe_op op_mod (pe_callTy call_int1 (by rfl) b.int boot_int (pa_cons (pe_op op_add (pe_op op_mul (pv 3) (pe_op op_add (pe_op op_fdiv (pv 3) pe_int) pe_int)) (pv 2)) pa_nil)) pe_int))
      (pss_one (ps_ret (pe_op op_mod (pe_callTy call_int1 (by rfl) b.int boot_int (pa_cons (pe_op op_fdiv (pv 3) pe_int) pa_nil)) (pv 1)))))))))), ?_⟩
    refine ⟨_, rfl, p, _, 2, .int t, rfl, rfl, SqL.of h1, atI_nat (j := 2) rfl, _, rfl, t, 1, rfl, rfl, _, rfl, p, _, 2, 2, rfl, rfl, h1, rfl, ?_⟩
    have k1 : Keep H (upd H p (.lst [.ref gl, .ref sl, .int (t + 1), .int c])) := keep_lst h1
    have p1 : (upd H p (.lst [.ref gl, .ref sl, .int (t + 1), .int c])) p = some (.lst [.ref gl, .ref sl, .int (t + 1), .int c]) := upd_same
    have g1 : (upd H p (.lst [.ref gl, .ref sl, .int (t + 1), .int c])) gl = some (.lst (gs.map V.int)) := by rw [upd_ne npg.symm]; exact h2
    have s1 : (upd H p (.lst [.ref gl, .ref sl, .int (t + 1), .int c])) sl = some (.lst (ss.map V.int)) := by rw [upd_ne nps.symm]; exact h3
    show tSeq _ _ _ _ (upd H p (.lst [.ref gl, .ref sl, .int (t + 1), .int c]))
    generalize upd H p (.lst [.ref gl, .ref sl, .int (t + 1), .int c]) = H1 at k1 p1 g1 s1 ⊢
    refine ⟨_, rfl, p, _, 0, .ref gl, rfl, rfl, SqL.of p1, atI_nat (j := 0) rfl, gl, _, rfl, .inl (SqL.of g1), _, 0, rfl, rfl, _, rfl, ?_⟩
    cases gs with
    | cons g gr =>
      refine ifD (show (0 : Int) < (((g :: gr).map V.int).length : Nat) by simp) ?_
      refine ⟨_, rfl, p, _, 0, .ref gl, rfl, rfl, SqL.of p1, atI_nat (j := 0) rfl, gl, _, 0, .int g, rfl, rfl, SqL.of g1, atI_nat (j := 0) rfl, ?_⟩
      refine ⟨_, rfl, _, rfl, g, n, rfl, rfl, wide_div n0 n1 (by decide) (by decide), _, rfl, p, _, 0, .ref gl, rfl, rfl, SqL.of p1, atI_nat (j := 0) rfl, gl, _, 0, 0, rfl, rfl, g1, ixn (j := 0) (by simp), ?_⟩
      have k2 : Keep H1 (upd H1 gl (.lst (((g / n) :: gr).map V.int))) := keep_lst g1
      have p2 : (upd H1 gl (.lst (((g / n) :: gr).map V.int))) p = some (.lst [.ref gl, .ref sl, .int (t + 1), .int c]) := by rw [upd_ne npg]; exact p1
      have g2 : (upd H1 gl (.lst (((g / n) :: gr).map V.int))) gl = some (.lst (((g / n) :: gr).map V.int)) := upd_same
      have s2 : (upd H1 gl (.lst (((g / n) :: gr).map V.int))) sl = some (.lst (ss.map V.int)) := by rw [upd_ne hgs.symm]; exact s1
      show tSeq _ _ _ _ (upd H1 gl (.lst (((g / n) :: gr).map V.int)))
      generalize upd H1 gl (.lst (((g / n) :: gr).map V.int)) = H2 at k2 p2 g2 s2 ⊢
      have r0 := Int.emod_nonneg g (show n ≠ 0 by omega)
      have r1 := Int.emod_lt_of_pos g n0
      refine ⟨_, rfl, _, rfl, g, n, rfl, rfl, _, rfl, ite2 (fun _ => ?_) (fun _ => ?_)⟩
      · refine ⟨_, rfl, p, _, 0, .ref gl, rfl, rfl, SqL.of p2, atI_nat (j := 0) rfl, .inl ⟨rfl, _, SqL.of g2⟩, gl, _, 0, 0, .int (g / n), rfl, rfl, g2, by decide, by decide, by simp [seqIndex?], rfl, ?_⟩
        have k3 : Keep H2 (upd H2 gl (.lst (gr.map V.int))) := keep_lst g2
        refine ⟨_, rfl, .inl ⟨_, rfl, _, rfl, g, n, rfl, rfl, n0, ?_⟩⟩
        exact q _ _ (k1.trans (k2.trans k3)) ⟨gl, sl, gr, ss, t + 1, c, by rw [upd_ne npg]; exact p2, upd_same, by rw [upd_ne hgs.symm]; exact s2, hgs, hss⟩ r0 r1
      · refine ⟨_, rfl, .inl ⟨_, rfl, _, rfl, g, n, rfl, rfl, n0, ?_⟩⟩
        exact q _ _ (k1.trans k2) ⟨gl, sl, _, ss, t + 1, c, p2, g2, s2, hgs, hss⟩ r0 r1
    | nil =>
      refine iteF ?_
      have ls : 0 < ss.length := List.length_pos_iff.mpr hss
      have m0 : (0 : Int) < ((ss.map V.int).length : Nat) := by rw [List.length_map]; omega
      have j0 := Int.emod_nonneg t (show (((ss.map V.int).length : Nat) : Int) ≠ 0 by omega)
      have j1 := Int.emod_lt_of_pos t m0
      obtain ⟨v, hv⟩ : ∃ v, (ss.map V.int)[(t % (((ss.map V.int).length : Nat) : Int)).toNat]? = some (V.int v) := by
        have hl : (t % (((ss.map V.int).length : Nat) : Int)).toNat < ss.length := by
          rw [List.length_map] at j0 j1 ⊢
          omega
        exact ⟨ss[(t % (((ss.map V.int).length : Nat) : Int)).toNat], by rw [List.getElem?_map, List.getElem?_eq_getElem hl]; rfl⟩
      refine ⟨_, rfl, p, _, 1, .ref sl, rfl, rfl, SqL.of p1, atI_nat (j := 1) rfl, _, rfl, .inl ⟨_, rfl, _, rfl, p, _, 1, .ref sl, rfl, rfl, SqL.of p1, atI_nat (j := 1) rfl, sl, _, rfl, .inl (SqL.of s1), _, _, rfl, rfl, m0, ?_⟩⟩
      refine ⟨sl, _, _, .int v, rfl, rfl, SqL.of s1, at_of (Int.toNat_of_nonneg j0).symm hv, v, 7919, rfl, rfl, .inr ⟨by decide, by decide⟩, _, rfl, 104729, t, rfl, rfl, .inl ⟨by decide, by decide⟩, _, _, rfl, rfl, ?_⟩
      refine ⟨_, rfl, p, _, 3, .int c, rfl, rfl, SqL.of p1, atI_nat (j := 3) rfl, c, 31, rfl, rfl, .inr ⟨by decide, by decide⟩, _, _, rfl, rfl, ?_⟩
      show tSeq _ _ _ [_, _, _, _, some (V.int (v * 7919 + 104729 * t + c * 31))] _
      generalize v * 7919 + 104729 * t + c * 31 = sd
      refine ⟨_, rfl, sd, 48271, rfl, rfl, .inr ⟨by decide, by decide⟩, _, 11, rfl, rfl, .inl ⟨_, rfl, _, 2147483647, rfl, rfl, (show (0 : Int) < 2147483647 by decide), ?_⟩⟩
      have a0 : 0 ≤ (sd * 48271 + 11) % 2147483647 ∧ (sd * 48271 + 11) % 2147483647 < 2147483647 := by omega
      show tSeq _ _ _ [_, _, _, some (V.int ((sd * 48271 + 11) % 2147483647)), _] _
      generalize (sd * 48271 + 11) % 2147483647 = x1 at a0 ⊢
      refine ⟨_, rfl, _, rfl, x1, 1009, rfl, rfl, ⟨by decide, by decide⟩, _, 69621, rfl, rfl, x1, _, rfl, rfl, .inl ⟨by omega, by omega⟩, .inl ⟨_, rfl, _, 2147483629, rfl, rfl, (show (0 : Int) < 2147483629 by decide), ?_⟩⟩
      have a1 : 0 ≤ (x1 * (x1 / 1009 + 69621)) % 2147483629 ∧ (x1 * (x1 / 1009 + 69621)) % 2147483629 < 2147483629 := by omega
      show tSeq _ _ _ [_, _, _, some (V.int ((x1 * (x1 / 1009 + 69621)) % 2147483629)), _] _
      generalize (x1 * (x1 / 1009 + 69621)) % 2147483629 = x2 at a1 ⊢
      refine ⟨_, rfl, _, rfl, x2, 2003, rfl, rfl, ⟨by decide, by decide⟩, _, 40692, rfl, rfl, x2, _, rfl, rfl, .inl ⟨by omega, by omega⟩, _, rfl, _, t, rfl, rfl, .inl ⟨_, rfl, _, 2147483399, rfl, rfl, (show (0 : Int) < 2147483399 by decide), ?_⟩⟩
      refine ⟨_, rfl, _, 64, rfl, rfl, ⟨by decide, by decide⟩, .inl ⟨_, rfl, _, rfl, _, n, rfl, rfl, n0, ?_⟩⟩
      exact q _ _ k1 ⟨gl, sl, [], ss, t + 1, c, p1, g1, s1, hgs, hss⟩ (Int.emod_nonneg _ (by omega)) (Int.emod_lt_of_pos _ n0)
theorem ok_any {f fD : Addr} {fd fdD : FuncData} (F : Fun K "_law_any" "_law_any" sAny f fd) (b : Bl mg) (D : Cal P w K mg base 1 "_law_draw" fD fdD ["_law_pot_here", "_law_many"] spDraw) : FnOk P w K mg base CX0 2 f fd ["_law_pot_here", "_law_items"] spAny := by
  refine F.ok scAny (fun vs H Q E h => ?_) (fun cdv A outer s H vs Q E hr h => ?_)
  · obtain ⟨p, t, xs, rfl, _⟩ := h
    rfl
  · obtain ⟨p, t, xs, rfl, hp, ht, hne, hl, q⟩ := h
    refine ⟨_, pss_one (ps_ret (pe_ix ix_tup (pv 1) (pe_call D.G hr (by rfl) D.m D.kp D.b .nil pass0 (pa_cons (pv 0) (pa_cons (pe_callB call_len_seq (by rfl) b.len PySem.boot_len (pa_cons (pv 1) pa_nil)) pa_nil))) (fun _ _ => rfl))), ?_⟩
    have l0 : 0 < xs.length := List.length_pos_iff.mpr hne
    refine ⟨_, rfl, _, rfl, _, rfl, t, _, rfl, .inr (SqT.of ht), p, _, rfl, by rw [List.length_map]; omega, ?_, hp, fun H' r k hp' r0 r1 => ?_⟩
    · have e : ((((xs.map V.int).length : Nat) : Int)).natAbs ≤ 100 := by rw [List.length_map]; omega
      exact Nat.lt_of_le_of_lt e (by decide)
    · rw [List.length_map] at r1
      have hr2 : r.toNat < xs.length := by omega
      refine ⟨t, _, r, .int xs[r.toNat], rfl, rfl, SqT.of (k _ _ ht), at_of (Int.toNat_of_nonneg r0).symm (by rw [List.getElem?_map, List.getElem?_eq_getElem hr2]; rfl), ?_⟩
      exact q _ _ k hp' (List.getElem_mem hr2)
end
end NL

-- piece: NlRight
/-! the walk of the law's is_right -/
namespace NL
open PySem PySem.Spec PyProof.Rows L2
section
variable {P : Program} {w : World} {K : PySem.W.Frag} {mg : Str → Option Value} {base : Heap}
theorem ok_right {f : Addr} {fd : FuncData} (F : Fun K "_law_is_right" "_law_is_right" sRight f fd) (b : Bl mg) : FnOk P w K mg base CX0 1 f fd ["_law_told", "_law_how", "_law_top", "_law_bottom"] spRight := by
  refine F.ok scRight (fun vs H Q E h => ?_) (fun cdv A outer s H vs Q E hr h => ?_)
  · obtain ⟨n, d, h, rfl, _⟩ := h
    rfl
  · obtain ⟨n, d, h, rfl, hd, hn, hd2, q⟩ := h
    refine ⟨_, pss_cons (ps_if (PW.pt (pw_or (pt_val (pe_callB call_isi (by rfl) b.isi boot_isinstance (pa_cons (pv 0) (pa_cons (pe_bltn (v := .ty "bool") (by rfl) b.bool boot_bool rfl) pa_nil))))
        (pw_or1 (pt_not (pt_val (pe_callB call_isi (by rfl) b.isi boot_isinstance (pa_cons (pv 0) (pa_cons (pe_bltn (v := .ty "int") (by rfl) b.int boot_int rfl) pa_nil)))))))) (pss_one (ps_ret pe_bl)) pss_nil)
      (pss_cons (ps_if (pt_cmpR op_eq (pv 1) pe_str (nomark _)) (pss_one (ps_ret (pe_chain op_le op_lt (pe_op op_mulW (pv 0) (pv 3)) (pv 2) (pe_op op_mulW (pe_op op_add (pv 0) pe_int) (pv 3))))) pss_nil)
      (pss_cons (ps_if (pt_cmpR op_eq (pv 1) pe_str (nomark _)) (pss_one (ps_ret (pe_chain op_lt op_le (pe_op op_mulW (pe_op op_sub (pv 0) pe_int) (pv 3)) (pv 2) (pe_op op_mulW (pv 0) (pv 3))))) pss_nil)
      (pss_cons (ps_if (pt_cmpR op_eq (pv 1) pe_str (nomark _)) (pss_one (ps_ret (pe_chain op_le op_lt (pe_op op_mulW (pe_op op_sub (pe_op op_mul pe_int (pv 0)) pe_int) (pv 3)) (pe_op op_mul pe_int (pv 2)) (pe_op op_mulW (pe_op op_add (pe_op op_mul pe_int (pv 0)) pe_int) (pv 3))))) pss_nil)
      (pss_cons (ps_set (i := 4) scRight.nd rfl (Or.inl rfl) (pe_op op_mul pe_int (pe_callB call_abs (by rfl) b.abs boot_abs (pa_cons (pe_op op_sub (pv 2) (pe_op op_mulW (pv 0) (pv 3))) pa_nil))))
      (pss_one (ps_ret (pe_or (pe_cmpR op_lt (pv 4) (pv 3) (nomark _)) (pe_one (pe_and (pe_cmpR op_eq (pv 4) (pv 3) (nomark _)) (pe_one (pe_cmpR op_eq (pe_op op_mod (pe_callTy call_int1 (by rfl) b.int boot_int (pa_cons (pv 0) pa_nil)) pe_int) pe_int (nomark _)))))))))))), ?_⟩
    refine ⟨_, rfl, .int _, .ty "bool", .type "int", .type "bool", false, rfl, .ty "bool", .base (.int _), kit_ty (by decide +kernel), false, rfl, iteF ?_⟩
    refine ⟨_, rfl, .int _, .ty "int", .type "int", .type "int", true, rfl, .ty "int", .base (.int _), kit_ty (by decide +kernel), true, rfl, iteF ?_⟩
    have hm := mark_le h n hd
    have w1 : ∀ i : Int, i.natAbs ≤ 2 * (markI h n d).natAbs + 1 → CMulW i d := fun i hi => wide_mul (a := 210) (b := 200) (by omega) hd2 (by decide) (by decide) (by decide)
    refine ⟨_, rfl, rfl, _, rfl, ?_⟩
    cases h with
    | down =>
      obtain ⟨h1, h2⟩ := down_ok (n := n) hd
      refine ifD rfl ⟨_, rfl, _, rfl, _, _, rfl, rfl, w1 _ (by omega), _, rfl, _, _, rfl, rfl, _, rfl, ifD h1 ⟨_, rfl, _, _, rfl, rfl, _, rfl, _, _, rfl, rfl, w1 _ (by omega), _, _, rfl, rfl, ?_⟩⟩
      exact qD (Q := Q) h2 q
    | up =>
      obtain ⟨h1, h2⟩ := up_ok (n := n) hd
      refine ifN (by decide +kernel) ⟨_, rfl, rfl, _, rfl, ifD rfl ⟨_, rfl, _, _, rfl, rfl, _, rfl, _, _, rfl, rfl, w1 _ (by omega), _, rfl, _, _, rfl, rfl, _, rfl, ifD h1 ⟨_, rfl, _, rfl, _, _, rfl, rfl, w1 _ (by omega), _, _, rfl, rfl, ?_⟩⟩⟩
      exact qD (Q := Q) h2 q
    | near =>
      obtain ⟨h1, h2⟩ := near_ok (n := n) hd
      refine ifN (by decide +kernel) ⟨_, rfl, rfl, _, rfl, ifN (by decide +kernel) ⟨_, rfl, rfl, _, rfl, ifD rfl ⟨_, rfl, 2, _, rfl, rfl, .inl ⟨by decide, by decide⟩, _, _, rfl, rfl, _, rfl, _, _, rfl, rfl, w1 _ (by omega), _, rfl, 2, _, rfl, rfl, .inl ⟨by decide, by decide⟩, _, _, rfl, rfl, _, rfl,
        ifD h1 ⟨_, rfl, 2, _, rfl, rfl, .inl ⟨by decide, by decide⟩, _, _, rfl, rfl, _, rfl, _, _, rfl, rfl, w1 _ (by omega), _, _, rfl, rfl, ?_⟩⟩⟩⟩
      exact qD (Q := Q) h2 q
    | even =>
      have h1 := even_ok (n := n) hd
      refine ifN (by decide +kernel) ⟨_, rfl, rfl, _, rfl, ifN (by decide +kernel) ⟨_, rfl, rfl, _, rfl, ifN (by decide +kernel) ?_⟩⟩
      refine ⟨_, rfl, _, rfl, _, rfl, _, _, rfl, rfl, w1 _ (by omega), _, _, rfl, rfl, _, rfl, 2, _, rfl, rfl, .inl ⟨by decide, by decide⟩, ?_⟩
      by_cases c1 : 2 * absI (n - markI .even n d * d) < d
      · exact ⟨_, rfl, _, rfl, _, _, rfl, rfl, _, rfl, ifD c1 q⟩
      · obtain ⟨c2, c3⟩ := h1.resolve_left c1
        refine ⟨_, rfl, _, rfl, _, _, rfl, rfl, _, rfl, ifN c1 ⟨_, rfl, _, rfl, rfl, _, rfl, ifD (show V.int (2 * absI (n - markI .even n d * d)) = V.int d by rw [c2]) ⟨_, rfl, .inl ⟨_, rfl, _, 2, rfl, rfl, (show (0 : Int) < 2 by decide), rfl, ?_⟩⟩⟩⟩
        exact qD (Q := Q) (show V.int (markI .even n d % 2) = V.int 0 by rw [c3]) q
end
end NL

-- piece: NlPot
/-! the walk of the law's pot -/
namespace NL
open PySem PySem.Spec PyProof.Rows L2
theorem cut_ints (ns : List Int) (lo hi : Option Int) : ∃ ms : List Int, cutV (ns.map V.int) lo hi = ms.map V.int ∧ ms.length ≤ ns.length := by
  refine ⟨(ns.drop (HT.sIx (ns.map V.int).length 0 lo)).take (HT.sIx (ns.map V.int).length (ns.map V.int).length hi - HT.sIx (ns.map V.int).length 0 lo), ?_, ?_⟩
  · unfold cutV
    rw [List.map_take, List.map_drop]
  · rw [List.length_take, List.length_drop]
    omega
theorem int_at {ms : List Int} {i : Nat} {x : V} (h : (ms.map V.int)[i]? = some x) : ∃ u, x = V.int u ∧ i < ms.length := by
  have hl := (List.getElem?_eq_some_iff.mp h).1
  rw [List.length_map] at hl
  rw [List.getElem?_map, List.getElem?_eq_getElem hl] at h
  exact ⟨_, (Option.some.inj h).symm, hl⟩
/-- at D a list of at most i ints is made, over the list of ms at c -/
def Made (ms : List Int) (c D : Addr) (i : Nat) (H : Hp) : Prop := H c = some (.lst (ms.map V.int)) ∧ c ≠ D ∧ ∃ cs : List Int, H D = some (.lst (cs.map V.int)) ∧ cs.length ≤ i
theorem Made.start {ms : List Int} {c D : Addr} {H : Hp} (h : H c = some (.lst (ms.map V.int))) (hD : H D = none) : Made ms c D 0 (upd H D (.lst [])) := by
  have n := ne_of_none h hD
  exact ⟨by rw [upd_ne n]; exact h, n, [], upd_same, Nat.le_refl _⟩
theorem Made.more {ms : List Int} {c D : Addr} {i : Nat} {H : Hp} (h : Made ms c D i H) (hi : i < ms.length) (hm : ms.length ≤ 63) (u : Int) : ∃ acc, H D = some (.lst acc) ∧ acc.length < sizeLine ∧ Made ms c D (i + 1) (upd H D (.lst (acc ++ [V.int u]))) := by
  obtain ⟨h1, n, cs, h2, hl⟩ := h
  refine ⟨cs.map V.int, h2, by rw [List.length_map]; exact small1000 (by omega), by rw [upd_ne n]; exact h1, n, cs ++ [u], ?_, by rw [List.length_append, List.length_singleton]; omega⟩
  rw [upd_same, List.map_append]
  rfl
theorem Made.skip {ms : List Int} {c D : Addr} {i : Nat} {H : Hp} (h : Made ms c D i H) : Made ms c D (i + 1) H := by
  obtain ⟨h1, n, cs, h2, hl⟩ := h
  exact ⟨h1, n, cs, h2, by omega⟩
section
variable {P : Program} {w : World} {K : PySem.W.Frag} {mg : Str → Option Value} {base : Heap}
abbrev nPot : List Str := ["_law_script", "_law_cells", "_law_greats", "_law_smalls", "_law_item"]
theorem ok_pot {f : Addr} {fd : FuncData} (F : Fun K "_law_pot" "_law_pot" sPot f fd) (b : Bl mg) : FnOk P w K mg base CX0 1 f fd ["_law_script"] (spPot K) := by
  refine F.ok scPot (fun vs H Q E h => ?_) (fun cdv A outer s H vs Q E hr h => ?_)
  · obtain ⟨a, ns, rfl, _⟩ := h
    rfl
  · obtain ⟨a, ns, rfl, hS, hlen, q⟩ := h
    refine ⟨_, pss_cons (ps_setLc (i := 1) (own := [("_law_item", 4)]) (g := gName 4) (tt := tYes) (by rfl) scPot.nd rfl rfl (sw_true rfl rfl rfl (by decide +kernel)) (pi_list (pe_slice sl_list (pv 0) po_none (po_some pe_int)))
          (blkOk_by (own := [("_law_item", 4)]) (N := nPot) (sc := defScope sPot) (by decide +kernel)) (fun _ _ _ _ _ => pg_name (i := 4) scPot.nd rfl (Or.inl rfl)) (fun _ _ _ _ _ => pts_nil)
          (fun _ _ _ _ _ => pe_callTy call_int1 (by rfl) b.int boot_int (pa_cons (pv 4) pa_nil)))
      (pss_cons (ps_setLc (i := 2) (own := [("_law_item", 4)]) (g := gName 4) (by rfl) scPot.nd rfl rfl (sw_true rfl rfl rfl (by decide +kernel)) (pi_list (pv 1))
          (blkOk_by (own := [("_law_item", 4)]) (N := nPot) (sc := defScope sPot) (by decide +kernel)) (fun _ _ _ _ _ => pg_name (i := 4) scPot.nd rfl (Or.inl rfl))
          (fun _ _ _ _ _ => pts_one (pt_cmpR op_ge (pe_callB call_abs (by rfl) b.abs boot_abs (pa_cons (pv 4) pa_nil)) (pe_op op_pow pe_int pe_int) (nomark _)))
          (fun _ _ _ _ _ => pe_callB call_abs (by rfl) b.abs boot_abs (pa_cons (pv 4) pa_nil)))
      (pss_cons (ps_set (i := 3) scPot.nd rfl (Or.inl rfl) (pe_op op_cat (pe_lc (own := [("_law_item", 4)]) (g := gName 4) (by rfl) scPot.nd (pi_list (pv 1))
          (blkOk_by (own := [("_law_item", 4)]) (N := nPot) (sc := defScope sPot) (by decide +kernel)) (fun _ _ _ _ _ => pg_name (i := 4) scPot.nd rfl (Or.inl rfl))
          (fun _ _ _ _ _ => pts_one (pt_cmpR op_lt (pe_callB call_abs (by rfl) b.abs boot_abs (pa_cons (pv 4) pa_nil)) (pe_op op_pow pe_int pe_int) (nomark _)))
          (fun _ _ _ _ _ => pe_op op_mod (pe_callTy call_int1 (by rfl) b.int boot_int (pa_cons (pv 4) pa_nil)) pe_int))
          (pe_lst (pa_cons (pe_op op_add (pe_callB call_len_seq (by rfl) b.len PySem.boot_len (pa_cons (pv 1) pa_nil)) pe_int) pa_nil))))
      (pss_one (ps_ret (pe_lst (pa_cons (pv 2) (pa_cons (pv 3) (pa_cons pe_int (pa_cons (pe_op op_mod (pe_callTy call_int1 (by rfl) b.int boot_int (pa_cons (pe_callB (cr_sum (by rfl)) (by rfl) b.sum boot_sum (pa_cons (pv 3) pa_nil)) pa_nil)) pe_int) pa_nil))))))))), ?_⟩
    -- cells
    refine ⟨.ref a, rfl, 63, rfl, a, ns.map V.int, rfl, hS, fun c hc => ⟨c, rfl, ⟨_, SqL.of upd_same⟩, fun D hD => ?_⟩⟩
    obtain ⟨ms, ems, hms⟩ := cut_ints ns none (some 63)
    have hm63 : ms.length ≤ 63 := by omega
    have uc : (upd H c (.lst (cutV (ns.map V.int) none (some 63)))) c = some (.lst (ms.map V.int)) := by rw [upd_same, ems]
    refine lc_list (K := K) (a := c) (xs := ms.map V.int) (Made ms c D) (Made.start uc hD) (fun i H' _ h => SqL.of h.1) (fun i x H' hx h => ?_) (fun H' h => ?_)
    · obtain ⟨u, rfl, hi⟩ := int_at hx
      exact ⟨rfl, iteT (B := Made ms c D (i + 1) H') ⟨_, rfl, .inl ⟨u, rfl, h.more hi hm63 u⟩⟩⟩
    obtain ⟨_, _, cs, hD1, hcs⟩ := h
    rw [List.length_map] at hcs
    have hc63 : cs.length ≤ 63 := by omega
    -- greats
    refine ⟨_, rfl, D, rfl, ⟨_, SqL.of hD1⟩, fun G hG => ?_⟩
    refine lc_list (K := K) (a := D) (xs := cs.map V.int) (Made cs D G) (Made.start hD1 hG) (fun i H' _ h => SqL.of h.1) (fun i x H' hx h => ?_) (fun H2 h => ?_)
    · obtain ⟨u, rfl, hi⟩ := int_at hx
      refine ⟨rfl, _, rfl, u, rfl, _, _, rfl, rfl, ⟨by decide, by decide, by decide⟩, _, _, rfl, rfl, _, rfl, ite2 (fun _ => ?_) (fun _ => h.skip)⟩
      exact ⟨_, rfl, u, rfl, h.more hi hc63 _⟩
    obtain ⟨hD2, nDG, gs, hG2, hgs⟩ := h
    -- smalls
    refine ⟨_, rfl, D, rfl, ⟨_, SqL.of hD2⟩, fun S hS2 => ?_⟩
    have nSG : G ≠ S := ne_of_none hG2 hS2
    refine lc_list (K := K) (a := D) (xs := cs.map V.int) (fun i H' => Made cs D S i H' ∧ H' G = some (.lst (gs.map V.int))) ⟨Made.start hD2 hS2, by rw [upd_ne nSG]; exact hG2⟩ (fun i H' _ h => SqL.of h.1.1) (fun i x H' hx h => ?_) (fun H3 h => ?_)
    · obtain ⟨u, rfl, hi⟩ := int_at hx
      refine ⟨rfl, _, rfl, u, rfl, _, _, rfl, rfl, ⟨by decide, by decide, by decide⟩, _, _, rfl, rfl, _, rfl, ite2 (fun _ => ?_) (fun _ => ⟨h.1.skip, h.2⟩)⟩
      refine ⟨_, rfl, .inl ⟨u, rfl, _, _, rfl, rfl, (show (0 : Int) < 1000000007 by decide), ?_⟩⟩
      obtain ⟨acc, k1, k2, k3⟩ := h.1.more hi hc63 (u % 1000000007)
      exact ⟨acc, k1, k2, k3, by rw [upd_ne nSG]; exact h.2⟩
    obtain ⟨⟨hD3, nDS, ss, hS3, hss⟩, hG3⟩ := h
    rw [List.length_map] at hss
    refine ⟨_, rfl, D, _, rfl, .inl (SqL.of hD3), _, _, rfl, rfl, (by show 1 ≤ sizeLine; decide), fun L hL => ?_⟩
    have nSL : S ≠ L := ne_of_none hS3 hL
    have nGL : G ≠ L := ne_of_none hG3 hL
    refine ⟨S, L, _, _, rfl, rfl, by rw [upd_ne nSL]; exact hS3, upd_same, ?_, fun T hT => ?_⟩
    · rw [List.length_map]
      exact Nat.le_of_lt (small1000 (by show ss.length + 1 ≤ 1000; omega))
    have nGT : G ≠ T := fun e => by
      rw [← e, upd_ne nGL, hG3] at hT
      cases hT
    have eT : ∀ v : Int, ss.map V.int ++ [V.int v] = (ss ++ [v]).map V.int := fun v => by rw [List.map_append]; rfl
    refine ⟨_, rfl, _, rfl, _, rfl, T, ss ++ [_], rfl, SqL.of (by rw [upd_same]; exact congrArg (fun z => some (HO.lst z)) (eT _)), .inl ⟨_, rfl, _, _, rfl, rfl, (show (0 : Int) < 999983 by decide), (by show 4 ≤ sizeLine; decide), fun p hp => ?_⟩⟩
    have nGp : G ≠ p := fun e => by
      rw [← e, upd_ne nGT, upd_ne nGL, hG3] at hp
      cases hp
    have nTp : T ≠ p := fun e => by
      rw [← e, upd_same] at hp
      cases hp
    refine q _ p ⟨G, T, gs, ss ++ [(((cs.map V.int).length : Nat) : Int) + 1], 0, _, upd_same, ?_, ?_, nGT, by simp⟩
    · rw [upd_ne nGp, upd_ne nGT, upd_ne nGL]
      exact hG3
    · rw [upd_ne nTp, upd_same]
      exact congrArg (fun z => some (HO.lst z)) (eT _)
end
end NL

-- piece: NlPick
/-! the walk of the law's pick -/
namespace NL
open PySem PySem.Spec PyProof.Rows L2
theorem low_small {x g : Int} (hg : 0 < g) (hx : x.natAbs < 2 ^ 99) : (x / g).natAbs < 2 ^ 100 := by
  have := natAbs_div_le x hg
  omega
theorem p28 : (10 : Int) ^ (28 : Int).toNat = 10000000000000000000000000000 := by decide
theorem p8 : (10 : Int) ^ (8 : Int).toNat = 100000000 := by decide
theorem p9 : (10 : Int) ^ (9 : Int).toNat = 1000000000 := by decide
section
variable {P : Program} {w : World} {K : PySem.W.Frag} {mg : Str → Option Value} {base : Heap}
theorem ok_pick {f fD fA fL : Addr} {fd fdD fdA fdL : FuncData} (F : Fun K "_law_pick" "_law_pick" sPick f fd) (D : Cal P w K mg base 1 "_law_draw" fD fdD ["_law_pot_here", "_law_many"] spDraw)
    (A2 : Cal P w K mg base 2 "_law_any" fA fdA ["_law_pot_here", "_law_items"] spAny) (L : Cal P w K mg base 2 "_law_low" fL fdL ["_law_top", "_law_bottom"] spLow) : FnOk P w K mg base CX0 3 f fd ["_law_pot_here"] spPick := by
  refine F.ok scPick (fun vs H Q E h => ?_) (fun cdv A outer s H vs Q E hr h => ?_)
  · obtain ⟨p, rfl, _⟩ := h
    rfl
  · obtain ⟨p, rfl, hp, q⟩ := h
    have hr1 : Room 1 _ := hr.mono (by decide)
    refine ⟨_, pss_cons (ps_set (i := 1) scPick.nd rfl (Or.inl rfl) (pe_call D.G hr1 (by rfl) D.m D.kp D.b .nil pass0 (pa_cons (pv 0) (pa_cons pe_int pa_nil))))
      (pss_cons (ps_if (pt_cmpR op_eq (pv 1) pe_int (nomark _)) (pss_one (ps_ret (pe_call L.G hr (by rfl) L.m L.kp L.b .nil pass0
          (pa_cons (pe_op op_sub (pe_call D.G hr1 (by rfl) D.m D.kp D.b .nil pass0 (pa_cons (pv 0) (pa_cons (pe_op op_mul pe_int (pe_op op_pow pe_int pe_int)) pa_nil))) (pe_op op_pow pe_int pe_int))
          (pa_cons (pe_op op_add (pe_op op_pow pe_int pe_int) (pe_call D.G hr1 (by rfl) D.m D.kp D.b .nil pass0 (pa_cons (pv 0) (pa_cons (pe_op op_pow pe_int pe_int) pa_nil)))) pa_nil))))) pss_nil)
      (pss_cons (ps_if (pt_cmpR op_eq (pv 1) pe_int (nomark _)) (pss_one (ps_ret (pe_call L.G hr (by rfl) L.m L.kp L.b .nil pass0
          (pa_cons (pe_op op_sub (pe_call D.G hr1 (by rfl) D.m D.kp D.b .nil pass0 (pa_cons (pv 0) (pa_cons pe_int pa_nil))) pe_int)
          (pa_cons (pe_op op_mul (pe_call A2.G hr (by rfl) A2.m A2.kp A2.b .nil pass0 (pa_cons (pv 0) (pa_cons (pe_tup (pa_cons pe_int (pa_cons pe_int (pa_cons pe_int (pa_cons pe_int pa_nil))))) pa_nil)))
            (pe_call A2.G hr (by rfl) A2.m A2.kp A2.b .nil pass0 (pa_cons (pv 0) (pa_cons (pe_tup (pa_cons pe_int (pa_cons pe_int (pa_cons pe_int (pa_cons pe_int pa_nil))))) pa_nil)))) pa_nil))))) pss_nil)
      (pss_cons (ps_if (pt_cmpR op_eq (pv 1) pe_int (nomark _)) (pss_one (ps_ret (pe_call L.G hr (by rfl) L.m L.kp L.b .nil pass0
          (pa_cons (pe_op op_sub (pe_op op_add (pe_op op_mul pe_int (pe_call D.G hr1 (by rfl) D.m D.kp D.b .nil pass0 (pa_cons (pv 0) (pa_cons (pe_op op_pow pe_int pe_int) pa_nil)))) pe_int) (pe_op op_pow pe_int pe_int))
          (pa_cons (pe_op op_mul pe_int (pe_call A2.G hr (by rfl) A2.m A2.kp A2.b .nil pass0 (pa_cons (pv 0) (pa_cons (pe_tup (pa_cons pe_int (pa_cons pe_int (pa_cons pe_int (pa_cons pe_int (pa_cons pe_int (pa_cons pe_int (pa_cons pe_int pa_nil)))))))) pa_nil)))) pa_nil))))) pss_nil)
      (pss_one (ps_ret (pe_call L.G hr (by rfl) L.m L.kp L.b .nil pass0
          (pa_cons (pe_op op_sub (pe_call D.G hr1 (by rfl) D.m D.kp D.b .nil pass0 (pa_cons (pv 0) (pa_cons pe_int pa_nil))) pe_int)
          (pa_cons (pe_op op_add pe_int (pe_call D.G hr1 (by rfl) D.m D.kp D.b .nil pass0 (pa_cons (pv 0) (pa_cons pe_int pa_nil)))) pa_nil)))))))), ?_⟩
    have fin : ∀ (H1 : Hp) (x y : Int), Pot H1 p → 0 < y → x.natAbs < 2 ^ 99 → y.natAbs < 2 ^ 99 → ∀ H' t, Same H1 H' → H' t = some (.tup [.int (x / gI x y), .int (y / gI x y)]) → Q (.ref t) H' := fun H1 x y h1 y0 hx hy H' t sm ht =>
      q H' t _ _ (h1.same sm) ht (low_pos y0) (gI_low y0) (low_small (gI_pos y0) hx) (low_small (gI_pos y0) hy)
    have cp : ∀ (i j : Int), 0 ≤ j → j ≤ 1000000 → i.natAbs < 2 ^ 64 → CPow i j := fun i j a b c => ⟨a, b, c⟩
    refine ⟨_, rfl, p, 4, rfl, by decide, by decide, hp, fun H1 kd k1 hp1 _ _ => ?_⟩
    refine ⟨_, rfl, rfl, _, rfl, ite2 (fun _ => ?_) (fun _ => ⟨_, rfl, rfl, _, rfl, ite2 (fun _ => ?_) (fun _ => ⟨_, rfl, rfl, _, rfl, ite2 (fun _ => ?_) (fun _ => ?_)⟩)⟩)⟩
    · refine ⟨_, rfl, _, _, rfl, rfl, cp _ _ (by decide) (by decide) (by decide), 2, _, rfl, rfl, .inl ⟨by decide, by decide⟩, p, 20000000000000000000000000000, congrArg (fun z => [V.ref p, V.int (2 * z)]) p28, by decide, by decide, hp1, fun H2 r k2 hp2 r0 r1 => ?_⟩
      refine ⟨_, _, rfl, rfl, cp _ _ (by decide) (by decide) (by decide), _, _, rfl, rfl, _, _, rfl, rfl, cp _ _ (by decide) (by decide) (by decide), _, rfl, _, _, rfl, rfl, cp _ _ (by decide) (by decide) (by decide), p, 10000000000000000000000000000, congrArg (fun z => [V.ref p, V.int z]) p28, by decide, by decide, hp2, fun H3 r' k3 hp3 r0' r1' => ?_⟩
      refine ⟨_, _, rfl, rfl, r - 10000000000000000000000000000, 100000000 + r', ?_, by omega, by omega, fin H3 _ _ hp3 (by omega) (by omega) (by omega)⟩
      show [V.int (r - 10 ^ (28 : Int).toNat), V.int (10 ^ (8 : Int).toNat + r')] = _
      rw [p28, p8]
    · refine ⟨_, rfl, p, 4001, rfl, by decide, by decide, hp1, fun H2 r k2 hp2 r0 r1 => ?_⟩
      refine ⟨_, _, rfl, rfl, _, rfl, by decide, fun t ht => ⟨p, t, [1, 10, 100, 1000], rfl, hp2.same (same_upd ht), upd_same, by decide, by decide, fun H3 x k3 hp3 hx => ?_⟩⟩
      refine ⟨_, rfl, by decide, fun t' ht' => ⟨p, t', [1, 2, 3, 20], rfl, hp3.same (same_upd ht'), upd_same, by decide, by decide, fun H4 y k4 hp4 hy => ?_⟩⟩
      have bx : 1 ≤ x ∧ x ≤ 1000 := by
        simp only [List.mem_cons, List.not_mem_nil, or_false] at hx
        omega
      have cy : y = 1 ∨ y = 2 ∨ y = 3 ∨ y = 20 := by
        simp only [List.mem_cons, List.not_mem_nil, or_false] at hy
        exact hy
      have bxy : 0 < x * y ∧ x * y ≤ 20000 := by
        rcases cy with rfl | rfl | rfl | rfl <;> omega
      exact ⟨x, y, rfl, rfl, .inl ⟨by omega, by omega⟩, r - 2000, x * y, rfl, by omega, by omega, fin H4 _ _ hp4 (by omega) (by omega) (by omega)⟩
    · refine ⟨_, rfl, _, _, rfl, rfl, cp _ _ (by decide) (by decide) (by decide), p, 1000000000, congrArg (fun z => [V.ref p, V.int z]) p9, by decide, by decide, hp1, fun H2 r k2 hp2 r0 r1 => ?_⟩
      refine ⟨2, _, rfl, rfl, .inl ⟨by decide, by decide⟩, _, _, rfl, rfl, _, _, rfl, rfl, cp _ _ (by decide) (by decide) (by decide), _, _, rfl, rfl, _, rfl, by decide, fun t ht => ⟨p, t, [1, 10, 100, 1000, 10000, 100000, 1000000], rfl, hp2.same (same_upd ht), upd_same, by decide, by decide, fun H3 x k3 hp3 hx => ?_⟩⟩
      have bx : 1 ≤ x ∧ x ≤ 1000000 := by
        simp only [List.mem_cons, List.not_mem_nil, or_false] at hx
        omega
      refine ⟨2, x, rfl, rfl, .inl ⟨by decide, by decide⟩, 2 * r + 1 - 1000000000, 2 * x, ?_, by omega, by omega, fin H3 _ _ hp3 (by omega) (by omega) (by omega)⟩
      show [V.int (2 * r + 1 - 10 ^ (9 : Int).toNat), V.int (2 * x)] = _
      rw [p9]
    · refine ⟨_, rfl, p, 61, rfl, by decide, by decide, hp1, fun H2 r k2 hp2 r0 r1 => ?_⟩
      refine ⟨_, _, rfl, rfl, _, rfl, p, 12, rfl, by decide, by decide, hp2, fun H3 r' k3 hp3 r0' r1' => ?_⟩
      exact ⟨_, _, rfl, rfl, r - 30, 1 + r', rfl, by omega, by omega, fin H3 _ _ hp3 (by omega) (by omega) (by omega)⟩
end
end NL

-- piece: NlEnum
/-! enumerate of a tuple, walked by a for: the rule that the layer has for lists alone -/
namespace NL
open PySem PySem.Spec PyProof.Rows L2
/-- enumerate.__new__ over a tuple, by what its iterator begins with -/
theorem enum_new_at {v : Value} {o : Obj} {G : Heap → Prop} (B : Begins v o G) :
    Meets (Builtin.«enumerate.__new__» ⟨[.type "enumerate", v], []⟩) (fun _ R s => G s.heap ∧
      R (.ok (.ret (.ref (s.heap.push o).objs.size))) { s with heap := (s.heap.push o).push { cls := .type "enumerate", data := .fields #[.none, .bool false, .ref s.heap.objs.size, rawInt 0, .none, .none] } }) :=
  .of_wp fun pr wo ar R st hyp => by
    obtain ⟨hp, ge, dr, tk, os⟩ := st
    obtain ⟨hG, hR⟩ := hyp
    have subE := sub_enumerate
    have begin : ∀ {A' : Around} {E : Value → Shared → Prop} {Q : Value → Shared → Prop}, Q (.ref hp.objs.size) ⟨hp.push o, ge, dr, tk, os⟩ → wpAny (model pr wo) A' (pyIter v) Q E ⟨hp, ge, dr, tk, os⟩ :=
      fun q => B.iter pr wo _ _ ⟨hp, ge, dr, tk, os⟩ _ hG q
    wp_walk using begin
    refine wpAny_stack_any fun fr => wpAny_pure ?_
    split
    · rename_i cc _ _ _ _ _
      cases (cc == Value.type "enumerate")
      · wp_walk using begin
        exact ⟨_, rfl, hR⟩
      · wp_walk using begin
        exact ⟨_, rfl, hR⟩
    · wp_walk using begin
      exact ⟨_, rfl, hR⟩
theorem enum_call_at {prog : Program} {w : World} {A : Around} {E : Value → Shared → Prop} {s : Shared} {v : Value} {o : Obj} {G : Heap → Prop} {Q : Value → Shared → Prop} (B : Begins v o G) (hG : G s.heap)
    (hq : ∀ h', IsEnum h' (s.heap.objs.size + 1) s.heap.objs.size 0 .none → h'.get? s.heap.objs.size = some o → (∀ b u, s.heap.get? b = some u → h'.get? b = some u) → Q (.ref (s.heap.objs.size + 1)) { s with heap := h' }) :
    wpAny (model prog w) A (call (.type "enumerate") [v]) Q E s := by
  refine callType_new F.called_enumerate (by decide) (F.typeCall_enumerate_1 _) (F.newCall_enumerate_1 _) (fun z => F.args_object_init_2 z _) F.entry_enumerate_new (enum_new_at B) ⟨hG, ?_⟩
  have sz : (s.heap.push o).objs.size = s.heap.objs.size + 1 := Heap.size_push ..
  show _ ∧ _
  rw [sz]
  have isE : IsEnum ((s.heap.push o).push { cls := .type "enumerate", data := .fields #[.none, .bool false, .ref s.heap.objs.size, rawInt 0, .none, .none] }) (s.heap.objs.size + 1) s.heap.objs.size 0 .none := by
    have z := Heap.get?_push_size (s.heap.push o) (o := { cls := .type "enumerate", data := .fields #[.none, .bool false, .ref s.heap.objs.size, rawInt 0, .none, .none] }) rfl
    rw [sz] at z
    exact z
  exact ⟨⟨_, isE, rfl⟩, hq _ isE (Heap.get?_push_of_some _ (Heap.get?_push_size _ B.free)) fun b u z => Heap.get?_push_of_some _ (Heap.get?_push_of_some _ z)⟩

/-- the tuple at a as it stands, each item in a new pair -/
def ItE (K : PySem.W.Frag) (a : Addr) : It where
  go := fun i H => ∃ (xs : List V) (x : V), SqT K H a xs ∧ xs[i]? = some x
  yld := fun i H v H' => ∃ (T : Addr) (x : V), v = .ref T ∧ H T = none ∧ H' = upd H T (.tup [.int (i : Nat), x]) ∧ ∀ xs, SqT K H a xs → xs[i]? = some x
  stop := fun i H => ∃ xs : List V, SqT K H a xs ∧ xs.length = i
theorem turn_enumT {P : Program} {w : World} {K : PySem.W.Frag} {elts : List Expr} {kk : Nat} {tpos : Pos} (a e it : Addr) (hei : e ≠ it) (hae : a ≠ e) (hai : a ≠ it) :
    Turn P w K (.Tuple elts kk tpos) (ItE K a) [e, it] e (fun i h => (∃ old, IsEnum h e it ((i : Nat) : Int) old) ∧ h.IsTupleIter it a i) where
  mem := List.mem_cons_self
  obj := fun i h st b hb => by
    obtain ⟨⟨old, he⟩, ⟨o, ho, _, hd⟩⟩ := st
    rcases List.mem_cons.mp hb with z | hb
    · subst z
      exact ⟨_, he, fun v q => nomatch q⟩
    · rw [List.mem_singleton.mp hb]
      exact ⟨o, ho, fun v q => by rw [hd] at q; cases q⟩
  keep := fun i h h' st k => ⟨⟨_, k e List.mem_cons_self _ st.1.choose_spec⟩, st.2.at fun o q => k it (List.mem_cons_of_mem _ (List.mem_singleton.mpr rfl)) o q⟩
  item := by
    intro X eP eW eK calm i pins s σ H E I fps st hgo
    subst eP eW eK
    obtain ⟨⟨old, he⟩, hit⟩ := st
    obtain ⟨xs, x, hq, hx⟩ := hgo
    obtain ⟨its, rv, p, hz⟩ := I.tuple hq
    have lt_i : i < its.toArray.size := by
      have h1 := (List.getElem?_eq_some_iff.mp hx).1
      have h2 := rv.length
      rw [List.size_toArray]
      omega
    have e_lt : e < s.heap.objs.size := Heap.lt_size he
    have it_lt : it < s.heap.objs.size := by
      obtain ⟨_, z, _⟩ := hit
      exact Heap.lt_size z
    have pT : s.heap.IsTuple a its.toArray := p
    have efp : e ∉ [it, a] := fun m => by
      rcases List.mem_cons.mp m with z | z
      · exact hei z
      · exact hae (List.mem_singleton.mp z).symm
    refine wpAny_pyNext_enum_itemD (Draws.tuple (A := X.A.in1) (I.ok.hd calm) it a hai its.toArray) he ⟨hit, pT⟩ lt_i hei efp fun u h' tk hu ho st' hT _ kp => ?_
    obtain ⟨u', hu', ru⟩ := rv.get hx
    have eu : u' = u := by
      have z : its.toArray[i]? = some u := hu
      rw [List.getElem?_toArray] at z
      exact Option.some.inj (hu'.symm.trans z)
    subst eu
    refine ⟨_, rfl, wpAny_letOwnedTupleGo_enum (s := { s with heap := h', toks := tk + 1 }) ho fun h2 he2 sb => ?_⟩
    have hT2 : h2.get? s.heap.objs.size = some { cls := .type "tuple", data := .seq #[.int i tk, u'] } := (sb.2 _ (Nat.ne_of_gt e_lt)).trans hT
    have made : ObjOk X.prog X.w (upd H s.heap.objs.size (.tup [.int (i : Nat), x])) h2 s.heap.objs.size (.tup [.int (i : Nat), x]) :=
      ⟨by show 2 ≤ sizeLine; decide, [.int i tk, u'], .cons ⟨_, rfl⟩ (.cons ru .nil), ⟨_, hT2, rfl, _, rfl⟩⟩
    have I1 : Inv X pins σ (upd H s.heap.objs.size (.tup [.int (i : Nat), x])) { s with heap := h2, toks := tk + 1 } := by
      refine I.turnedNew (ch := [e, it]) (fun b ob hb q => ?_) fps (Nat.le_refl _) made
      have b1 : b ≠ e := fun z => hb (by rw [z]; exact List.mem_cons_self)
      have b2 : b ≠ it := fun z => hb (by rw [z]; exact List.mem_cons_of_mem _ (List.mem_singleton.mpr rfl))
      exact (sb.2 b b1).trans (kp b ob b1 b2 q)
    refine ⟨.ref s.heap.objs.size, _, I1, rfl, ⟨_, x, rfl, I.hok.fresh (Nat.le_refl _), rfl, fun ys hy => by rw [I.tuple_inj hy hq]; exact hx⟩, ⟨⟨u', ?_⟩, st'.1.at fun o q => (sb.2 it hei.symm).trans q⟩, fun b hb => ?_⟩
    · have e1 : ((i + 1 : Nat) : Int) = (i : Int) + 1 := by omega
      rw [e1]
      exact he2
    · have b_lt : b < s.heap.objs.size := by
        rcases List.mem_cons.mp hb with z | z
        · rw [z]
          exact e_lt
        · rw [List.mem_singleton.mp z]
          exact it_lt
      rw [upd_ne (Nat.ne_of_lt b_lt)]
      exact (fps b hb).1
  done := by
    intro X eP eW eK calm i pins s σ H E I fps st hstop
    subst eP eW eK
    obtain ⟨⟨old, he⟩, hit⟩ := st
    obtain ⟨xs, hq, hx⟩ := hstop
    obtain ⟨its, rv, p, hz⟩ := I.tuple hq
    obtain ⟨f0, f1, f2, f3, f4, f5⟩ := fps it (List.mem_cons_of_mem _ (List.mem_singleton.mpr rfl))
    have en : its.toArray.size = i := by
      rw [List.size_toArray, ← rv.length]
      exact hx
    have pT : s.heap.IsTuple a its.toArray := p
    refine wpAny_pyNext_enum_endD (Draws.tuple (A := X.A.in1) (I.ok.hd calm) it a hai its.toArray) he ⟨by rw [en]; exact hit, pT⟩ fun h' eb => ⟨rfl, ?_⟩
    exact I.turned (t' := s.toks) (fun b o hb q => eb b o hb q) f0 f1 f3 f4 f5
  self := fun A i s Q E st h => wpAny_pyIter_enum st.1.choose_spec h
def iEnumT (K : PySem.W.Frag) (ta : TA) : TI := fun σ H R => ta σ H fun vs H1 => ∃ a xs, vs = [.ref a] ∧ SqT K H1 a xs ∧ R (ItE K a) H1
theorem pi_enumT {X : Cx} {e : Expr} {ta : TA} {p pos tpos : Pos} {elts : List Expr} {kk : Nat} (hg : Gl X "enumerate") (hm : X.mg "enumerate" = none) (ha : PA X [e] ta) (hs : starEach [e] X.env = [(false, eval e X.env)] := by rfl) :
    PI X (.Tuple elts kk tpos) (.Call (.Name "enumerate" p) [e] [] pos) (iEnumT X.K ta) := by
  constructor
  intro pins s σ H R I h
  refine Call_ (ld_blt I hg hm boot_enumerate (PyProof.Rows.callWith_type1 (thn (ha.run pos pins s σ H _ I h) fun us s1 ⟨vs, H1, I1, r1, q1⟩ => ?_) hs rfl))
  obtain ⟨a, xs, rfl, hq, q⟩ := q1
  cases r1 with
  | cons r rr =>
    cases rr
    cases r
    obtain ⟨its, rv, pt, hz⟩ := I1.tuple hq
    have a_lt : a < s1.heap.objs.size := pt.lt
    refine enum_call_at (begins_tuple a its.toArray) (show s1.heap.IsTuple a its.toArray from pt) fun h' he hit hk => wpAny_pyIter_enum he ?_
    have I2 : Inv X pins σ H1 { s1 with heap := h' } := I1.kept (t' := s1.toks) hk
    refine ⟨s1.heap.objs.size + 1, [s1.heap.objs.size + 1, s1.heap.objs.size], _, _, H1, rfl, I2, turn_enumT a (s1.heap.objs.size + 1) s1.heap.objs.size (Nat.succ_ne_self _) (Nat.ne_of_lt (Nat.lt_succ_of_lt a_lt)) (Nat.ne_of_lt a_lt), ⟨⟨.none, he⟩, ⟨_, hit, rfl, rfl⟩⟩, fun b hb => ?_, q⟩
    have ge : s1.heap.objs.size ≤ b := by
      rcases List.mem_cons.mp hb with z | z
      · rw [z]
        exact Nat.le_add_right _ _
      · rw [List.mem_singleton.mp z]
        exact Nat.le_refl _
    exact I1.fpOk ge (I1.hok.fresh ge)
/-- a for over it -/
theorem for_enumT {K : PySem.W.Frag} {a : Addr} {xs : List V} {g : TG} {tb : TS} {D : Ends} {σ : L2.St} {H : Hp} (Pv : Nat → L2.St → Hp → Prop) (h0 : Pv 0 σ H) (hl : ∀ i σ H, i ≤ xs.length → Pv i σ H → SqT K H a xs)
    (hs : ∀ i x T σ H, xs[i]? = some x → Pv i σ H → H T = none → g (.ref T) σ (upd H T (.tup [.int (i : Nat), x])) fun σ2 H2 => tb { D with nx := Pv (i + 1), ct := Pv (i + 1), bk := D.nx } σ2 H2) (hd : ∀ σ H, Pv xs.length σ H → D.nx σ H) :
    ∃ W : Nat → Nat → L2.St → Hp → Prop, (∃ m, W 0 m σ H) ∧ ∀ i m σ H, W i m σ H →
      ((ItE K a).stop i H ∧ D.nx σ H) ∨ ((ItE K a).go i H ∧ ∃ N : L2.St → Hp → Prop, (∀ σ' H', N σ' H' → ∃ m', m' < m ∧ W (i + 1) m' σ' H') ∧ ∀ x H', (ItE K a).yld i H x H' → g x σ H' fun σ2 H2 => tb { D with nx := N, ct := N, bk := D.nx } σ2 H2) := by
  refine ⟨fun i m σ H => m + i = xs.length ∧ Pv i σ H, ⟨xs.length, rfl, h0⟩, ?_⟩
  rintro i m σ H ⟨em, pv⟩
  have q := hl i σ H (by omega) pv
  by_cases c : i < xs.length
  · refine .inr ⟨⟨xs, xs[i], q, List.getElem?_eq_getElem c⟩, Pv (i + 1), fun σ' H' p' => ⟨m - 1, by omega, by omega, p'⟩, fun v H' y => ?_⟩
    obtain ⟨T, x, rfl, nT, rfl, fx⟩ := y
    exact hs i x T σ H (fx xs q) pv nT
  · have e : i = xs.length := by omega
    subst e
    exact .inl ⟨⟨xs, q, rfl⟩, hd σ H pv⟩
end NL

-- piece: NlLaw
/-! the walk of the law -/
namespace NL
open PySem PySem.Spec PyProof.Rows L2
def allHows : List How := [.down, .up, .near, .even]
theorem hows_at {i : Nat} {x : V} (h : howsV[i]? = some x) : ∃ r : How, x = .str r.s ∧ allHows[i]? = some r := by
  have e : howsV = allHows.map fun r => V.str r.s := rfl
  rw [e, List.getElem?_map] at h
  cases q : allHows[i]? with
  | none =>
    rw [q] at h
    cases h
  | some r =>
    rw [q] at h
    exact ⟨r, (Option.some.inj h).symm, rfl⟩
def toldV (n d : Int) : List V := allHows.map fun r => V.int (markI r n d)
theorem told_at {n d : Int} {i : Nat} {r : How} (h : allHows[i]? = some r) : (toldV n d)[i]? = some (.int (markI r n d)) := by
  unfold toldV
  rw [List.getElem?_map, h]
  rfl
theorem told_take {n d : Int} {i : Nat} {r : How} (h : allHows[i]? = some r) : (toldV n d).take i ++ [V.int (markI r n d)] = (toldV n d).take (i + 1) := by
  rw [List.take_add_one, told_at h]
  rfl
theorem told_all (n d : Int) : (toldV n d).take howsV.length = toldV n d := rfl
theorem told_short (n d : Int) (i : Nat) : ((toldV n d).take i).length < sizeLine := by
  refine small1000 ?_
  rw [List.length_take]
  have : (toldV n d).length = 4 := rfl
  omega
theorem told_same {m u : Int} (hu : 0 < u) : toldV (m / gI m u * u) (u / gI m u) = [.int m, .int m, .int m, .int m] := by
  show [V.int (markI .down _ _), V.int (markI .up _ _), V.int (markI .near _ _), V.int (markI .even _ _)] = _
  rw [low_exact hu, low_exact hu, low_exact hu, low_exact hu]
theorem unit_succ (p : Nat) : unit (p + 1) = 10 * unit p := by
  show (10 : Int) ^ (p + 1) = 10 * 10 ^ p
  rw [Int.pow_succ, Int.mul_comm]
theorem neg_mul (a u : Int) : (0 - a) * u = -(a * u) := by
  rw [Int.zero_sub, Int.neg_mul]
theorem small_mul {a u : Int} (ha : a.natAbs < 2 ^ 100) (h0 : 0 < u) (h1 : u ≤ 1000000) : (a * u).natAbs < 2 ^ 120 := wide_lt (b := 20) ha (by omega)
theorem same_more {H0 H : Hp} {D : Addr} {o : HO} (s : Same H0 H) (hD : H0 D = none) : Same H0 (upd H D o) := fun c z e => by
  rw [upd_ne (ne_of_none e hD)]
  exact s c z e
theorem dp_four (K : PySem.W.Frag) (H : Hp) {l : Addr} {m : Int} (h : H l = some (.lst [.int m, .int m, .int m, .int m])) : Dp K H (.ref l) (.list [.int m, .int m, .int m, .int m]) :=
  .lst (SqL.of h) (.cons (.int m) (.cons (.int m) (.cons (.int m) (.cons (.int m) .nil))))
theorem four_eq (m : Int) : PyData.eqv (.list [.int m, .int m, .int m, .int m]) (.list [.int m, .int m, .int m, .int m]) = true := SeqAt.eqv_refl _ rfl
abbrev nLaw : List Str := ["_law_script", "_law_pot_here", "_law_turn", "_law_share", "_law_places", "_law_unit", "_law_how", "_law_told", "_law_at", "_law_whole"]
section
variable {P : Program} {w : World} {K : PySem.W.Frag} {mg : Str → Option Value} {base : Heap}
theorem ok_law {f fPo fPi fDr fMa fRi fLo : Addr} {fd fdPo fdPi fdDr fdMa fdRi fdLo : FuncData} (F : Fun K "law" "law" sLaw f fd) (b : Bl mg) (PO : Cal P w K mg base 1 "_law_pot" fPo fdPo ["_law_script"] (spPot K)) (PI : Cal P w K mg base 3 "_law_pick" fPi fdPi ["_law_pot_here"] spPick)
    (D : Cal P w K mg base 1 "_law_draw" fDr fdDr ["_law_pot_here", "_law_many"] spDraw) (M : Cal P w K mg base 5 "mark" fMa fdMa ["share", "places", "how"] spMark) (R : Cal P w K mg base 1 "_law_is_right" fRi fdRi ["_law_told", "_law_how", "_law_top", "_law_bottom"] spRight)
    (LO : Cal P w K mg base 2 "_law_low" fLo fdLo ["_law_top", "_law_bottom"] spLow) : FnOk P w K mg base CX0 6 f fd ["_law_script"] (spLaw K) := by
  refine F.ok scLaw (fun vs H Q E h => ?_) (fun cdv A outer s H vs Q E hr h => ?_)
  · obtain ⟨a, ns, rfl, _⟩ := h
    rfl
  · obtain ⟨a, ns, rfl, hS, hlen, q⟩ := h
    have hr1 : Room 1 _ := hr.mono (by decide)
    have hr2 : Room 2 _ := hr.mono (by decide)
    have hr3 : Room 3 _ := hr.mono (by decide)
    refine ⟨_, pss_cons (ps_set (i := 1) scLaw.nd rfl (Or.inl rfl) (pe_call PO.G hr1 (by rfl) PO.m PO.kp PO.b .nil pass0 (pa_cons (pv 0) pa_nil)))
      (pss_cons (ps_for PassesOwn.never rfl (pi_range1 rfl b.rng (pa_cons pe_int pa_nil)) (pg_name (i := 2) scLaw.nd rfl (Or.inl rfl))
        (pss_cons (ps_set (i := 3) scLaw.nd rfl (Or.inr rfl) (pe_call PI.G hr3 (by rfl) PI.m PI.kp PI.b .nil pass0 (pa_cons (pv 1) pa_nil)))
        (pss_one (ps_for PassesOwn.never rfl (pi_tup (pe_tup (pa_cons (pe_call D.G hr1 (by rfl) D.m D.kp D.b .nil pass0 (pa_cons (pv 1) (pa_cons pe_int pa_nil))) (pa_cons (pe_call D.G hr1 (by rfl) D.m D.kp D.b .nil pass0 (pa_cons (pv 1) (pa_cons pe_int pa_nil))) pa_nil)))) (pg_name (i := 4) scLaw.nd rfl (Or.inr rfl))
          (pss_cons (ps_set (i := 5) scLaw.nd rfl (Or.inl rfl) (pe_ix ix_tup (pe_tup (pa_cons pe_int (pa_cons pe_int (pa_cons pe_int (pa_cons pe_int (pa_cons pe_int (pa_cons pe_int (pa_cons pe_int pa_nil)))))))) (pv 4) (fun _ _ => rfl)))
          (pss_cons (ps_setLc (i := 7) (own := [("_law_how", 6)]) (g := gName 6) (tt := tYes) (by rfl) scLaw.nd rfl rfl (sw_true rfl rfl rfl (by decide +kernel)) (pi_tup (pe_tup (pa_cons pe_str (pa_cons pe_str (pa_cons pe_str (pa_cons pe_str pa_nil))))))
              (blkOk_by (own := [("_law_how", 6)]) (N := nLaw) (sc := defScope sLaw) (by decide +kernel)) (fun _ _ _ _ _ => pg_name (i := 6) scLaw.nd rfl (Or.inl rfl)) (fun _ _ _ _ _ => pts_nil)
              (fun _ _ _ _ _ => pe_call M.G hr (by rfl) M.m M.kp M.b .nil pass0 (pa_cons (pv 3) (pa_cons (pv 4) (pa_cons (pv 6) pa_nil)))))
          (pss_cons (ps_for PassesOwn.never rfl (pi_enumT (by rfl) b.enu (pa_cons (pe_tup (pa_cons pe_str (pa_cons pe_str (pa_cons pe_str (pa_cons pe_str pa_nil))))) pa_nil)) (pg_tup (by rfl) (pgs_cons (pg_name (i := 8) scLaw.nd rfl (Or.inl rfl)) (pgs_cons (pg_name (i := 6) scLaw.nd rfl (Or.inl rfl)) pgs_nil)))
              (pss_one (ps_if (pt_not (pt_val (pe_call R.G hr1 (by rfl) R.m R.kp R.b .nil pass0 (pa_cons (pe_ix ix_list (pv 7) (pv 8) (fun _ _ => rfl)) (pa_cons (pv 6) (pa_cons (pe_op op_mul (pe_ix ix_tup (pv 3) pe_int (fun _ _ => rfl)) (pv 5)) (pa_cons (pe_ix ix_tup (pv 3) pe_int (fun _ _ => rfl)) pa_nil))))))) (pss_one (ps_ret pe_bl)) pss_nil)))
          (pss_cons (ps_if (pt_cmpR op_ne (pe_call M.G hr (by rfl) M.m M.kp M.b .nil pass0 (pa_cons (pe_tup (pa_cons (pe_op op_sub pe_int (pe_ix ix_tup (pv 3) pe_int (fun _ _ => rfl))) (pa_cons (pe_ix ix_tup (pv 3) pe_int (fun _ _ => rfl)) pa_nil))) (pa_cons (pv 4) (pa_cons pe_str pa_nil)))) (pe_op op_sub pe_int (pe_ix ix_list (pv 7) pe_int (fun _ _ => rfl))) (nomark _)) (pss_one (ps_ret pe_bl)) pss_nil)
          (pss_cons (ps_if (pt_cmpR op_ne (pe_call M.G hr (by rfl) M.m M.kp M.b .nil pass0 (pa_cons (pe_tup (pa_cons (pe_op op_sub pe_int (pe_ix ix_tup (pv 3) pe_int (fun _ _ => rfl))) (pa_cons (pe_ix ix_tup (pv 3) pe_int (fun _ _ => rfl)) pa_nil))) (pa_cons (pv 4) (pa_cons pe_str pa_nil)))) (pe_op op_sub pe_int (pe_ix ix_list (pv 7) pe_int (fun _ _ => rfl))) (nomark _)) (pss_one (ps_ret pe_bl)) pss_nil)
          (pss_cons (ps_if (PW.pt (pw_and (pt_cmpR op_lt (pv 4) pe_int (nomark _)) (pw_and1 (pt_cmpR op_ne (pe_op op_fdiv (pe_call M.G hr (by rfl) M.m M.kp M.b .nil pass0 (pa_cons (pv 3) (pa_cons (pe_op op_add (pv 4) pe_int) (pa_cons pe_str pa_nil)))) pe_int) (pe_ix ix_list (pv 7) pe_int (fun _ _ => rfl)) (nomark _))))) (pss_one (ps_ret pe_bl)) pss_nil)
          (pss_cons (ps_set (i := 9) scLaw.nd rfl (Or.inr rfl) (pe_call LO.G hr2 (by rfl) LO.m LO.kp LO.b .nil pass0 (pa_cons (pe_ix ix_list (pv 7) pe_int (fun _ _ => rfl)) (pa_cons (pv 5) pa_nil))))
          (pss_one (ps_if (pt_cmpR (op_neD hr.units) (pe_lc (own := [("_law_how", 6)]) (g := gName 6) (tt := tYes) (by rfl) scLaw.nd (pi_tup (pe_tup (pa_cons pe_str (pa_cons pe_str (pa_cons pe_str (pa_cons pe_str pa_nil))))))
              (blkOk_by (own := [("_law_how", 6)]) (N := nLaw) (sc := defScope sLaw) (by decide +kernel)) (fun _ _ _ _ _ => pg_name (i := 6) scLaw.nd rfl (Or.inl rfl)) (fun _ _ _ _ _ => pts_nil)
              (fun _ _ _ _ _ => pe_call M.G hr (by rfl) M.m M.kp M.b .nil pass0 (pa_cons (pv 9) (pa_cons (pv 4) (pa_cons (pv 6) pa_nil)))))
              (pe_op op_rep (pe_lst (pa_cons (pe_ix ix_list (pv 7) pe_int (fun _ _ => rfl)) pa_nil)) pe_int) (nomark _)) (pss_one (ps_ret pe_bl)) pss_nil)))))))))))))
      (pss_one (ps_ret pe_bl))), ?_⟩
    -- the pot
    refine ⟨_, rfl, a, ns, rfl, hS, hlen, fun H1 p hp => ?_⟩
    refine ⟨5, rfl, by decide, by decide, for_range (n := 5) (fun i σ H' => ∃ v2 v3 v4 v5 v6 v7 v8 v9 : Option V, σ = [some (.ref a), some (.ref p), v2, v3, v4, v5, v6, v7, v8, v9] ∧ Pot H' p)
      ⟨none, none, none, none, none, none, none, none, rfl, hp⟩ ?_ (fun σ H' _ => q H')⟩
    rintro i σ H2 hi ⟨v2, v3, v4, v5, v6, v7, v8, v9, rfl, hp2⟩
    -- the share
    refine ⟨_, rfl, p, rfl, hp2, fun H3 t x y hp3 ht3 hy hg hx1 hy1 => ?_⟩
    -- the places
    refine ⟨_, rfl, p, 7, rfl, by decide, by decide, hp3, fun H4 r k4 hp4 r0 r1 => ⟨_, rfl, p, 6, rfl, by decide, by decide, hp4, fun H5 r' k5 hp5 r0' r1' => ⟨(by show 2 ≤ sizeLine; decide), fun T hT => ⟨T, rfl, ⟨_, SqT.of upd_same⟩, ?_⟩⟩⟩⟩
    have ht5 : H5 t = some (.tup [.int x, .int y]) := k5 _ _ (k4 _ _ ht3)
    refine for_tup (K := K) (a := T) (xs := [.int r, .int r']) (fun i σ H' => ∃ v2 v4 v5 v6 v7 v8 v9 : Option V, σ = [some (.ref a), some (.ref p), v2, some (.ref t), v4, v5, v6, v7, v8, v9] ∧ Pot H' p ∧ H' t = some (.tup [.int x, .int y]) ∧ H' T = some (.tup [.int r, .int r']))
      ⟨_, v4, v5, v6, v7, v8, v9, rfl, hp5.same (same_upd hT), same_upd hT _ _ ht5, upd_same⟩ (fun i σ H' _ h => ?_) ?_ (fun σ H' h => ?_)
    · obtain ⟨_, _, _, _, _, _, _, _, _, _, h⟩ := h
      exact SqT.of h
    · rintro j z σ H6 hz ⟨v2, v4, v5, v6, v7, v8, v9, rfl, hp6, ht6, hT6⟩
      obtain ⟨pl, rfl, hpl⟩ : ∃ pl : Nat, z = .int (pl : Int) ∧ pl ≤ 6 := by
        match j, hz with
        | 0, hz => exact ⟨r.toNat, by rw [Int.toNat_of_nonneg r0]; exact (Option.some.inj hz).symm, by omega⟩
        | 1, hz => exact ⟨r'.toNat, by rw [Int.toNat_of_nonneg r0']; exact (Option.some.inj hz).symm, by omega⟩
        | j + 2, hz => cases hz
      clear hz
      obtain ⟨u0, u1⟩ := unit_pos hpl
      have hn := small_mul hx1 u0 u1
      have hx2 : x.natAbs < 2 ^ 200 := Nat.lt_trans hx1 (by decide)
      have hy2 : y.natAbs < 2 ^ 200 := Nat.lt_trans hy1 (by decide)
      -- the unit
      refine ⟨by decide, fun tu htu => ⟨_, rfl, tu, unitsV, pl, .int (unit pl), rfl, rfl, SqT.of upd_same, atI_nat (units_at hpl), ?_⟩⟩
      have s7 : Same H6 (upd H6 tu (.tup unitsV)) := same_upd htu
      -- told
      refine ⟨by decide, fun ts hts => ⟨ts, rfl, ⟨_, SqT.of upd_same⟩, fun L hL => ?_⟩⟩
      have s8 : Same H6 (upd (upd H6 tu (.tup unitsV)) ts (.tup howsV)) := s7.trans (same_upd hts)
      have c8 : (upd (upd H6 tu (.tup unitsV)) ts (.tup howsV)) ts = some (.tup howsV) := upd_same
      refine lc_tup (K := K) (a := ts) (xs := howsV) (fun i H' => Same (upd (upd H6 tu (.tup unitsV)) ts (.tup howsV)) H' ∧ H' L = some (.lst ((toldV (x * unit pl) y).take i))) ⟨same_more (Same.refl _) hL, upd_same⟩ (fun i H' _ h => SqT.of (h.1 _ _ c8)) (fun i v H' hv h => ?_) (fun H9 h => ?_)
      · obtain ⟨how, rfl, hh⟩ := hows_at hv
        obtain ⟨sm, eL⟩ := h
        refine ⟨rfl, iteT (B := Same (upd (upd H6 tu (.tup unitsV)) ts (.tup howsV)) H' ∧ H' L = some (.lst ((toldV (x * unit pl) y).take (i + 1)))) ?_⟩
        refine ⟨_, rfl, _, rfl, _, rfl, t, x, y, pl, how, rfl, sm _ _ (s8 _ _ ht6), hy, hg, hy2, hx2, hpl, fun H'' sm2 => ?_⟩
        refine ⟨_, sm2 _ _ eL, told_short _ _ _, same_more (sm.trans sm2) hL, ?_⟩
        rw [upd_same, told_take hh]
      obtain ⟨sm9, eL9⟩ := h
      rw [told_all] at eL9
      have s9 : Same H6 H9 := s8.trans sm9
      clear sm9 c8 s8 s7
      -- each by its own bounds
      refine ⟨by decide, fun te hte => ⟨te, howsV, rfl, SqT.of upd_same, ?_⟩⟩
      have s10 : Same H9 (upd H9 te (.tup howsV)) := same_upd hte
      have c10 : (upd H9 te (.tup howsV)) te = some (.tup howsV) := upd_same
      refine for_enumT (K := K) (a := te) (xs := howsV) (fun i σ H' => Same (upd H9 te (.tup howsV)) H' ∧ ∃ v6 v8 : Option V, σ = [some (.ref a), some (.ref p), v2, some (.ref t), some (.int (pl : Int)), some (.int (unit pl)), v6, some (.ref L), v8, v9]) ⟨Same.refl _, v6, v8, rfl⟩ (fun i σ H' _ h => SqT.of (h.1 _ _ c10)) ?_ ?_
      · rintro i v Tn σ H' hv ⟨sm, w6, w8, rfl⟩ hTn
        obtain ⟨how, rfl, hh⟩ := hows_at hv
        have sn : Same H' (upd H' Tn (.tup [.int (i : Nat), .str how.s])) := same_upd hTn
        have st : Same H9 (upd H' Tn (.tup [.int (i : Nat), .str how.s])) := s10.trans (sm.trans sn)
        refine ⟨Tn, _, rfl, SqT.of upd_same, rfl, _, _, rfl, _, _, rfl, rfl, ?_⟩
        refine ⟨_, rfl, _, rfl, L, _, i, .int (markI how (x * unit pl) y), rfl, rfl, SqL.of (st _ _ eL9), atI_nat (told_at hh), _, rfl, _, rfl, t, _, 0, .int x, rfl, rfl, SqT.of (st _ _ (s9 _ _ ht6)), atI_nat (j := 0) rfl, _, rfl, x, unit pl, rfl, rfl, .inr ⟨by omega, by omega⟩, _, rfl, t, _, 1, .int y, rfl, rfl, SqT.of (st _ _ (s9 _ _ ht6)), atI_nat (j := 1) rfl, ?_⟩
        refine ⟨x * unit pl, y, how, rfl, hy, Nat.lt_trans hn (by decide), hy2, true, rfl, iteF ⟨sm.trans sn, _, _, rfl⟩⟩
      rintro σ H10 ⟨sm10, w6, w8, rfl⟩
      have t10 : Same H9 H10 := s10.trans sm10
      have ht10 := t10 _ _ (s9 _ _ ht6)
      have eL10 := t10 _ _ eL9
      have s11 : Same H6 H10 := s9.trans t10
      clear t10 sm10 c10 s10 s9 eL9
      have tA : atI (toldV (x * unit pl) y) 0 = some (.int (markI .down (x * unit pl) y)) := atI_nat (j := 0) rfl
      have tC : atI (toldV (x * unit pl) y) 2 = some (.int (markI .near (x * unit pl) y)) := atI_nat (j := 2) rfl
      have tD : atI (toldV (x * unit pl) y) 3 = some (.int (markI .even (x * unit pl) y)) := atI_nat (j := 3) rfl
      have xA : atI [V.int x, V.int y] 0 = some (.int x) := atI_nat (j := 0) rfl
      have xB : atI [V.int x, V.int y] 1 = some (.int y) := atI_nat (j := 1) rfl
      have nx2 : (0 - x).natAbs < 2 ^ 200 := by omega
      -- mirrored, up
      refine ⟨_, rfl, t, _, 0, _, rfl, rfl, SqT.of ht10, xA, 0, x, rfl, rfl, _, rfl, t, _, 1, _, rfl, rfl, SqT.of ht10, xB, (by show 2 ≤ sizeLine; decide), fun tn htn => ?_⟩
      refine ⟨_, rfl, tn, 0 - x, y, pl, .up, rfl, upd_same, hy, (gI_neg x y).trans hg, hy2, nx2, hpl, fun H11 sm11 => ?_⟩
      have t11 : Same H10 H11 := (same_upd htn).trans sm11
      refine ⟨_, rfl, L, _, 0, _, rfl, rfl, SqL.of (t11 _ _ eL10), tA, 0, _, rfl, rfl, rfl, _, rfl, iteNS (show V.int (markI .up ((0 - x) * unit pl) y) = V.int (0 - markI .down (x * unit pl) y) by rw [neg_mul, neg_up hy]) ?_⟩
      -- mirrored, even
      refine ⟨_, rfl, t, _, 0, _, rfl, rfl, SqT.of (t11 _ _ ht10), xA, 0, x, rfl, rfl, _, rfl, t, _, 1, _, rfl, rfl, SqT.of (t11 _ _ ht10), xB, (by show 2 ≤ sizeLine; decide), fun tm htm => ?_⟩
      refine ⟨_, rfl, tm, 0 - x, y, pl, .even, rfl, upd_same, hy, (gI_neg x y).trans hg, hy2, nx2, hpl, fun H12 sm12 => ?_⟩
      have t12 : Same H10 H12 := t11.trans ((same_upd htm).trans sm12)
      refine ⟨_, rfl, L, _, 3, _, rfl, rfl, SqL.of (t12 _ _ eL10), tD, 0, _, rfl, rfl, rfl, _, rfl, iteNS (show V.int (markI .even ((0 - x) * unit pl) y) = V.int (0 - markI .even (x * unit pl) y) by rw [neg_mul, neg_even hy]) ?_⟩
      clear t11 sm11 sm12
      -- more places
      refine ⟨_, rfl, _, 6, rfl, rfl, _, rfl, ?_⟩
      have hm := mark_le .near (x * unit pl) hy
      have g0 := gI_pos (a := markI .near (x * unit pl) y) u0
      have hm2 : (markI .near (x * unit pl) y / gI (markI .near (x * unit pl) y) (unit pl)).natAbs < 2 ^ 200 := by
        have := natAbs_div_le (markI .near (x * unit pl) y) g0
        omega
      have hu2 : (unit pl / gI (markI .near (x * unit pl) y) (unit pl)).natAbs < 2 ^ 200 := by
        have := natAbs_div_le (unit pl) g0
        omega
      by_cases c6 : (pl : Int) < 6
      refine ifD c6 ⟨_, rfl, _, rfl, _, _, rfl, rfl, t, x, y, pl + 1, .down, rfl, t12 _ _ ht10, hy, hg, hy2, hx2, by omega, fun HZ sm13 => ?_⟩
      have tz : Same H10 HZ := t12.trans sm13
      clear sm13
      refine ⟨_, 10, rfl, rfl, ⟨by decide, by decide⟩, _, rfl, L, _, 0, _, rfl, rfl, SqL.of (tz _ _ eL10), tA, rfl, _, rfl, iteNS (show V.int (markI .down (x * unit (pl + 1)) y / 10) = V.int (markI .down (x * unit pl) y) by rw [unit_succ, down_ten hy]) ?_⟩
      rotate_left
      refine ifN c6 ?_
      have tz : Same H10 H12 := t12
      generalize H12 = HZ at tz ⊢
      all_goals
        -- a share that is a mark
        refine ⟨_, rfl, L, _, 2, _, rfl, rfl, SqL.of (tz _ _ eL10), tC, _, rfl, markI .near (x * unit pl) y, unit pl, rfl, u0, by omega, fun H14 tw sm14 htw => ?_⟩
        have t14 : Same H10 H14 := tz.trans sm14
        refine ⟨by decide, fun tq htq => ⟨tq, rfl, ⟨_, SqT.of upd_same⟩, fun LD hLD => ?_⟩⟩
        have s15 : Same H14 (upd H14 tq (.tup howsV)) := same_upd htq
        have c15 : (upd H14 tq (.tup howsV)) tq = some (.tup howsV) := upd_same
        refine lc_tup (K := K) (a := tq) (xs := howsV) (fun i H' => Same (upd H14 tq (.tup howsV)) H' ∧ H' LD = some (.lst ((toldV (markI .near (x * unit pl) y / gI (markI .near (x * unit pl) y) (unit pl) * unit pl) (unit pl / gI (markI .near (x * unit pl) y) (unit pl))).take i)))
          ⟨same_more (Same.refl _) hLD, upd_same⟩ (fun i H' _ h => SqT.of (h.1 _ _ c15)) (fun i v H' hv h => ?_) (fun H16 h => ?_)
        · obtain ⟨how, rfl, hh⟩ := hows_at hv
          obtain ⟨sm, eL⟩ := h
          refine ⟨rfl, iteT (B := Same (upd H14 tq (.tup howsV)) H' ∧ H' LD = some (.lst ((toldV (markI .near (x * unit pl) y / gI (markI .near (x * unit pl) y) (unit pl) * unit pl) (unit pl / gI (markI .near (x * unit pl) y) (unit pl))).take (i + 1)))) ?_⟩
          refine ⟨_, rfl, _, rfl, _, rfl, tw, _, _, pl, how, rfl, sm _ _ (s15 _ _ htw), low_pos u0, gI_low u0, hu2, hm2, hpl, fun H'' sm2 => ?_⟩
          refine ⟨_, sm2 _ _ eL, told_short _ _ _, same_more (sm.trans sm2) hLD, ?_⟩
          rw [upd_same, told_take hh]
        obtain ⟨sm16, eD⟩ := h
        rw [told_all, told_same u0] at eD
        have t16 : Same H10 H16 := t14.trans (s15.trans sm16)
        refine ⟨_, rfl, L, _, 2, _, rfl, rfl, SqL.of (t16 _ _ eL10), tC, (by show 1 ≤ sizeLine; decide), fun l hl => ⟨l, 4, _, rfl, rfl, upd_same, by decide, by decide, (by show 1 * 4 ≤ sizeLine; decide), fun r2 hr2 => ?_⟩⟩
        have t17 : Same H16 (upd H16 l (.lst [.int (markI .near (x * unit pl) y)])) := same_upd hl
        have t18 := t17.trans (same_upd (o := .lst (List.replicate (4 : Int).toNat [V.int (markI .near (x * unit pl) y)]).flatten) hr2)
        refine ⟨_, _, dp_four K _ (t18 _ _ eD), dp_four K _ upd_same, rfl, rfl, _, rfl, ?_⟩
        rw [four_eq]
        refine iteF ?_
        have tend := s11.trans (t16.trans t18)
        exact ⟨_, _, _, _, _, _, _, rfl, hp6.same tend, tend _ _ ht6, tend _ _ hT6⟩
    · obtain ⟨v2, v4, v5, v6, v7, v8, v9, rfl, hpe, _, _⟩ := h
      exact ⟨_, _, _, _, _, _, _, _, rfl, hpe⟩
end
end NL

-- piece: NlEnd
/-! what the top has written, joined -/
namespace NL
open PySem PySem.Spec PyProof.Rows L2
/-- a def of the text stands in the written part under its name -/
def DefAt (K : PySem.W.Frag) (mg : Str → Option Value) (x : Str) (st : Stmt) : Prop := ∃ (f : Addr) (fd : FuncData), Fun K x x st f fd ∧ mg x = some (.ref f)
theorem def_mk {K : PySem.W.Frag} {h : Heap} {mg : Str → Option Value} {x : Str} {st : Stmt} {f : Addr} {od an : Option Addr} {sl : Array (Option Value)} {oc kV dc pm cd ct : Value} (X : K.In h) (G : h.Ns mainGlobals mg)
    (a : PySem.W.nsIn K mainGlobals x = some (some (.ref f))) (l : K.lookup f = some ⟨oc, od, .func (PySem.W.fnOf x x (defArgs st) (defBody st) (defScope st) .none kV dc pm an cd ct), sl⟩) (c : PySem.W.codeIn K cd x = true) (k : PySem.W.keepIn K (.ref f) = true) : DefAt K mg x st :=
  ⟨f, _, fun_mk (st := st) l c k, PySem.W.mg_of X G a⟩
theorem cal {P : Program} {w : World} {K : PySem.W.Frag} {mg : Str → Option Value} {base : Heap} {k : Nat} {x : Str} {st : Stmt} {ps : List Str} {sp : Sp} (d : DefAt K mg x st)
    (hb : ∀ (kV doc pm : Value) (an : Option Addr) (cdv ct : Value) (us : List Value), us.length = ps.length → bindArgs (PySem.W.fnOf x x (defArgs st) (defBody st) (defScope st) .none kV doc pm an cdv ct) ⟨us, []⟩ = pure (ps.zip us))
    (ok : ∀ (f : Addr) (fd : FuncData), Fun K x x st f fd → FnOk P w K mg base CX0 k f fd ps sp) : ∃ (f : Addr) (fd : FuncData), Cal P w K mg base k x f fd ps sp := by
  obtain ⟨f, fd, F, m⟩ := d
  exact ⟨f, fd, ok f fd F, m, F.kp, F.binds hb⟩
/-- a tuple of the top stands under its name -/
def TupAt (K : PySem.W.Frag) (mg : Str → Option Value) (x : Str) (xs : List V) : Prop := ∃ a : Addr, KT K a xs ∧ mg x = some (.ref a)
theorem units_mk {K : PySem.W.Frag} {h : Heap} {mg : Str → Option Value} {a : Addr} {dd : Option Addr} {n : Nat} {sl : Array (Option Value)} {t0 t1 t2 t3 t4 t5 t6 : Tok} (X : K.In h) (G : h.Ns mainGlobals mg) (e : PySem.W.nsIn K mainGlobals "UNITS" = some (some (.ref a)))
    (l : K.lookup a = some ⟨.type "tuple", dd, .seq #[.int 1 t0, .int 10 t1, .int 100 t2, .int 1000 t3, .int 10000 t4, .int 100000 t5, .int 1000000 t6] n, sl⟩) : TupAt K mg "UNITS" unitsV :=
  ⟨a, ⟨_, _, n, l, rfl, rfl, (by show 7 ≤ sizeLine; decide), .cons ⟨_, rfl⟩ (.cons ⟨_, rfl⟩ (.cons ⟨_, rfl⟩ (.cons ⟨_, rfl⟩ (.cons ⟨_, rfl⟩ (.cons ⟨_, rfl⟩ (.cons ⟨_, rfl⟩ .nil))))))⟩, PySem.W.mg_of X G e⟩
theorem hows_mk {K : PySem.W.Frag} {h : Heap} {mg : Str → Option Value} {a : Addr} {dd : Option Addr} {n : Nat} {sl : Array (Option Value)} {t0 t1 t2 t3 : Tok} (X : K.In h) (G : h.Ns mainGlobals mg) (e : PySem.W.nsIn K mainGlobals "HOWS" = some (some (.ref a)))
    (l : K.lookup a = some ⟨.type "tuple", dd, .seq #[.str "down" t0, .str "up" t1, .str "near" t2, .str "even" t3] n, sl⟩) : TupAt K mg "HOWS" howsV :=
  ⟨a, ⟨_, _, n, l, rfl, rfl, (by show 4 ≤ sizeLine; decide), .cons ⟨_, rfl⟩ (.cons ⟨_, rfl⟩ (.cons ⟨_, rfl⟩ (.cons ⟨_, rfl⟩ .nil)))⟩, PySem.W.mg_of X G e⟩
/-- all that the law leans on -/
structure Top (K : PySem.W.Frag) (mg : Str → Option Value) : Prop where
  b : Bl mg
  U : TupAt K mg "UNITS" unitsV
  H : TupAt K mg "HOWS" howsV
  d6 : DefAt K mg "is_integer" sInteger
  d7 : DefAt K mg "is_within" sWithin
  d8 : DefAt K mg "is_from" sFrom
  d9 : DefAt K mg "is_pair" sPair
  d10 : DefAt K mg "common_divisor" sDivisor
  d11 : DefAt K mg "is_share" sShare
  d12 : DefAt K mg "check_share" sCkShare
  d16 : DefAt K mg "check_places" sCkPlaces
  d17 : DefAt K mg "check_how" sCkHow
  d18 : DefAt K mg "mark_of" sMarkOf
  d19 : DefAt K mg "mark" sMark
  d21 : DefAt K mg "_law_pot" sPot
  d22 : DefAt K mg "_law_draw" sDraw
  d23 : DefAt K mg "_law_any" sAny
  d24 : DefAt K mg "_law_gcd" sGcd
  d25 : DefAt K mg "_law_low" sLow
  d26 : DefAt K mg "_law_pick" sPick
  d27 : DefAt K mg "_law_is_right" sRight
theorem Top.ok {P : Program} {w : World} {K : PySem.W.Frag} {mg : Str → Option Value} {base : Heap} {f : Addr} {fd : FuncData} (T : Top K mg) (F : Fun K "law" "law" sLaw f fd) : FnOk P w K mg base CX0 6 f fd ["_law_script"] (spLaw K) := by
  obtain ⟨aU, kU, mU⟩ := T.U
  obtain ⟨aH, kH, mH⟩ := T.H
  obtain ⟨_, _, cI⟩ := cal (P := P) (w := w) (base := base) (ps := ["thing"]) T.d6 (fun _ _ _ _ _ _ us hl => match us, hl with | [_], _ => rfl) fun _ _ F => ok_integer F T.b
  obtain ⟨_, _, cW⟩ := cal (P := P) (w := w) (base := base) (ps := ["thing", "least", "most"]) T.d7 (fun _ _ _ _ _ _ us hl => match us, hl with | [_, _, _], _ => rfl) fun _ _ F => ok_within F cI
  obtain ⟨_, _, cF⟩ := cal (P := P) (w := w) (base := base) (ps := ["thing", "least"]) T.d8 (fun _ _ _ _ _ _ us hl => match us, hl with | [_, _], _ => rfl) fun _ _ F => ok_from F cI
  obtain ⟨_, _, cP⟩ := cal (P := P) (w := w) (base := base) (ps := ["thing"]) T.d9 (fun _ _ _ _ _ _ us hl => match us, hl with | [_], _ => rfl) fun _ _ F => ok_pair F T.b
  obtain ⟨_, _, cD⟩ := cal (P := P) (w := w) (base := base) (ps := ["one", "other"]) T.d10 (fun _ _ _ _ _ _ us hl => match us, hl with | [_, _], _ => rfl) fun _ _ F => ok_divisor F T.b
  obtain ⟨_, _, cS⟩ := cal (P := P) (w := w) (base := base) (ps := ["thing"]) T.d11 (fun _ _ _ _ _ _ us hl => match us, hl with | [_], _ => rfl) fun _ _ F => ok_share F cP cI cF cD
  obtain ⟨_, _, cC⟩ := cal (P := P) (w := w) (base := base) (ps := ["thing"]) T.d12 (fun _ _ _ _ _ _ us hl => match us, hl with | [_], _ => rfl) fun _ _ F => ok_ckshare F cS
  obtain ⟨_, _, cL⟩ := cal (P := P) (w := w) (base := base) (ps := ["thing"]) T.d16 (fun _ _ _ _ _ _ us hl => match us, hl with | [_], _ => rfl) fun _ _ F => ok_ckplaces F cW T.b mU kU
  obtain ⟨_, _, cH⟩ := cal (P := P) (w := w) (base := base) (ps := ["thing"]) T.d17 (fun _ _ _ _ _ _ us hl => match us, hl with | [_], _ => rfl) fun _ _ F => ok_ckhow F T.b mH kH
  obtain ⟨_, _, cO⟩ := cal (P := P) (w := w) (base := base) (ps := ["points", "tries", "unit", "how"]) T.d18 (fun _ _ _ _ _ _ us hl => match us, hl with | [_, _, _, _], _ => rfl) fun _ _ F => ok_markof F T.b
  obtain ⟨_, _, cM⟩ := cal (P := P) (w := w) (base := base) (ps := ["share", "places", "how"]) T.d19 (fun _ _ _ _ _ _ us hl => match us, hl with | [_, _, _], _ => rfl) fun _ _ F => ok_mark F cC cL cH cO mU kU
  obtain ⟨_, _, lP⟩ := cal (P := P) (w := w) (base := base) (ps := ["_law_script"]) T.d21 (fun _ _ _ _ _ _ us hl => match us, hl with | [_], _ => rfl) fun _ _ F => ok_pot F T.b
  obtain ⟨_, _, lD⟩ := cal (P := P) (w := w) (base := base) (ps := ["_law_pot_here", "_law_many"]) T.d22 (fun _ _ _ _ _ _ us hl => match us, hl with | [_, _], _ => rfl) fun _ _ F => ok_draw F T.b
  obtain ⟨_, _, lA⟩ := cal (P := P) (w := w) (base := base) (ps := ["_law_pot_here", "_law_items"]) T.d23 (fun _ _ _ _ _ _ us hl => match us, hl with | [_, _], _ => rfl) fun _ _ F => ok_any F T.b lD
  obtain ⟨_, _, lG⟩ := cal (P := P) (w := w) (base := base) (ps := ["_law_one", "_law_other"]) T.d24 (fun _ _ _ _ _ _ us hl => match us, hl with | [_, _], _ => rfl) fun _ _ F => ok_gcd F T.b
  obtain ⟨_, _, lL⟩ := cal (P := P) (w := w) (base := base) (ps := ["_law_top", "_law_bottom"]) T.d25 (fun _ _ _ _ _ _ us hl => match us, hl with | [_, _], _ => rfl) fun _ _ F => ok_low F lG
  obtain ⟨_, _, lK⟩ := cal (P := P) (w := w) (base := base) (ps := ["_law_pot_here"]) T.d26 (fun _ _ _ _ _ _ us hl => match us, hl with | [_], _ => rfl) fun _ _ F => ok_pick F lD lA lL
  obtain ⟨_, _, lR⟩ := cal (P := P) (w := w) (base := base) (ps := ["_law_told", "_law_how", "_law_top", "_law_bottom"]) T.d27 (fun _ _ _ _ _ _ us hl => match us, hl with | [_, _, _, _], _ => rfl) fun _ _ F => ok_right F T.b
  exact ok_law F T.b lP lK lD cM lR lL
theorem law_mk {l : PySem.W.OpenLaw} {w : World} {K : PySem.W.Frag} {h : Heap} {mg : Str → Option Value} {fa f : Addr} {od an : Option Addr} {sl : Array (Option Value)} {oc kV dc pm cd ct : Value} (X : K.In h) (G : h.Ns mainGlobals mg) (hfa : mg "law" = some (.ref fa)) (T : Top K mg)
    (a : PySem.W.nsIn K mainGlobals "law" = some (some (.ref f))) (lk : K.lookup f = some ⟨oc, od, .func (PySem.W.fnOf "law" "law" (defArgs sLaw) (defBody sLaw) (defScope sLaw) .none kV dc pm an cd ct), sl⟩) (c : PySem.W.codeIn K cd "law" = true) (k : PySem.W.keepIn K (.ref f) = true) :
    ∃ fd : FuncData, (∀ (s : Shared) (v : Value), BindsTo s fd ⟨[v], []⟩ [("_law_script", v)]) ∧ ∀ base : Heap, K.In base → base.Ns mainGlobals mg → FnOk l.prog w K mg base CX0 6 fa fd ["_law_script"] (spLaw K) := by
  have e := hfa.symm.trans (PySem.W.mg_of X G a)
  cases e
  exact ⟨PySem.W.fnOf "law" "law" (defArgs sLaw) (defBody sLaw) (defScope sLaw) .none kV dc pm an cd ct, fun s v => .of_eq rfl, fun base _ _ => T.ok (fun_mk (st := sLaw) lk c k)⟩
theorem walk {l : PySem.W.OpenLaw} {q : Program} {loose : List Str} {XP : (Str → Option Value) → Heap → Prop} {YP : World → Heap → Prop} {d : DefRec} {K : Params → PySem.W.Frag} (hn : l.most = some 63) (hdf : d.params.defaults = [])
    (hY : ∀ (w : World) (h : Heap), YP w h → (K w.params).In h)
    (F : ∀ (w : World) (mg : Str → Option Value) (fa : Addr) (h : Heap), (K w.params).In h → h.Ns mainGlobals mg → mg d.name = some (.ref fa) →
      ∃ fd : FuncData, (∀ (s : Shared) (u : Value), BindsTo s fd ⟨[u], []⟩ [("_law_script", u)]) ∧ ∀ base : Heap, (K w.params).In base → base.Ns mainGlobals mg → FnOk l.prog w (K w.params) mg base CX0 6 fa fd ["_law_script"] (spLaw (K w.params))) :
    PySem.W.WalkO q loose XP YP l.row.toRowW d [] (fun f vs => PySem.call f vs) :=
  L2.walk_of (n := 63) (k := 6) (x := "_law_script") (CX := fun _ => CX0) (sp := fun w => spLaw (K w.params)) hn (by decide) hdf ⟨rfl, by decide, by decide⟩ hY F (fun _ _ a ns hl _ hS => ⟨a, ns, rfl, hS, hl, fun _ => rfl⟩) fun _ _ _ _ _ z => z
end NL

-- piece: NlFin
open PySem PySem.W PyProof.Rows
set_option maxRecDepth 100000 in
set_option maxHeartbeats 0 in
theorem PySem.Challenge.cw_neverleapt_k78_whole_shares_rounded_to_m_holds : PySem.Challenge.rw_neverleapt_k78_whole_shares_rounded_to_m.Holds := by
  w_on; o_law; k_head; (case hw => w_witness2)
  k_fill
  refine NL.walk (l := PySem.Challenge.rw_neverleapt_k78_whole_shares_rounded_to_m) rfl rfl (fun w h Y => PySem.W.kIn_of Y) ?F
  case F =>
    intro w mg fa h KX G hmg
    refine' NL.law_mk KX G hmg ?T ?a ?l ?c ?k
    case T =>
      refine' ⟨⟨PySem.W.mg_none_of KX G ?n1, PySem.W.mg_none_of KX G ?n2, PySem.W.mg_none_of KX G ?n3, PySem.W.mg_none_of KX G ?n4, PySem.W.mg_none_of KX G ?n5, PySem.W.mg_none_of KX G ?n6, PySem.W.mg_none_of KX G ?n7, PySem.W.mg_none_of KX G ?n8, PySem.W.mg_none_of KX G ?n9, PySem.W.mg_none_of KX G ?n10, PySem.W.mg_none_of KX G ?n11⟩,
        NL.units_mk KX G ?u1 ?u2, NL.hows_mk KX G ?h1 ?h2,
        NL.def_mk KX G ?a6 ?l6 ?c6 ?k6, NL.def_mk KX G ?a7 ?l7 ?c7 ?k7, NL.def_mk KX G ?a8 ?l8 ?c8 ?k8, NL.def_mk KX G ?a9 ?l9 ?c9 ?k9, NL.def_mk KX G ?a10 ?l10 ?c10 ?k10, NL.def_mk KX G ?a11 ?l11 ?c11 ?k11, NL.def_mk KX G ?a12 ?l12 ?c12 ?k12,
        NL.def_mk KX G ?a16 ?l16 ?c16 ?k16, NL.def_mk KX G ?a17 ?l17 ?c17 ?k17, NL.def_mk KX G ?a18 ?l18 ?c18 ?k18, NL.def_mk KX G ?a19 ?l19 ?c19 ?k19,
        NL.def_mk KX G ?a21 ?l21 ?c21 ?k21, NL.def_mk KX G ?a22 ?l22 ?c22 ?k22, NL.def_mk KX G ?a23 ?l23 ?c23 ?k23, NL.def_mk KX G ?a24 ?l24 ?c24 ?k24, NL.def_mk KX G ?a25 ?l25 ?c25 ?k25, NL.def_mk KX G ?a26 ?l26 ?c26 ?k26, NL.def_mk KX G ?a27 ?l27 ?c27 ?k27⟩
      (case n1 => k_is); (case n2 => k_is); (case n3 => k_is); (case n4 => k_is); (case n5 => k_is); (case n6 => k_is); (case n7 => k_is); (case n8 => k_is); (case n9 => k_is); (case n10 => k_is); (case n11 => k_is)
      (case u1 => k_is); (case u2 => k_is); (case h1 => k_is); (case h2 => k_is)
      (case a6 => k_is); (case l6 => k_is); (case c6 => k_is); (case k6 => k_is)
      (case a7 => k_is); (case l7 => k_is); (case c7 => k_is); (case k7 => k_is)
      (case a8 => k_is); (case l8 => k_is); (case c8 => k_is); (case k8 => k_is)
      (case a9 => k_is); (case l9 => k_is); (case c9 => k_is); (case k9 => k_is)
      (case a10 => k_is); (case l10 => k_is); (case c10 => k_is); (case k10 => k_is)
      (case a11 => k_is); (case l11 => k_is); (case c11 => k_is); (case k11 => k_is)
      (case a12 => k_is); (case l12 => k_is); (case c12 => k_is); (case k12 => k_is)
      (case a16 => k_is); (case l16 => k_is); (case c16 => k_is); (case k16 => k_is)
      (case a17 => k_is); (case l17 => k_is); (case c17 => k_is); (case k17 => k_is)
      (case a18 => k_is); (case l18 => k_is); (case c18 => k_is); (case k18 => k_is)
      (case a19 => k_is); (case l19 => k_is); (case c19 => k_is); (case k19 => k_is)
      (case a21 => k_is); (case l21 => k_is); (case c21 => k_is); (case k21 => k_is)
      (case a22 => k_is); (case l22 => k_is); (case c22 => k_is); (case k22 => k_is)
      (case a23 => k_is); (case l23 => k_is); (case c23 => k_is); (case k23 => k_is)
      (case a24 => k_is); (case l24 => k_is); (case c24 => k_is); (case k24 => k_is)
      (case a25 => k_is); (case l25 => k_is); (case c25 => k_is); (case k25 => k_is)
      (case a26 => k_is); (case l26 => k_is); (case c26 => k_is); (case k26 => k_is)
      (case a27 => k_is); (case l27 => k_is); (case c27 => k_is); (case k27 => k_is)
    (case a => k_is)
    (case l => k_is)
    (case c => k_is)
    (case k => k_is)
#print axioms PySem.Challenge.cw_neverleapt_k78_whole_shares_rounded_to_m_holds
