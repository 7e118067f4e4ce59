import PyProof.Rows.All
import Wide.All
import OpenK.AllK
import Wide.FinOn
import HandS.ForMost
import HandS.ForExc
import HandS.Wide
import HandS.IsInst
import HandS.Defaults
import HandS.ExcIs
import HandS.ExcBuiltin
import HandS.Flow
import HandS.Style
import HandS.MakeKwOnly
import HandS.Comp
import HandS.Deep
import HandS.More
import KE.KDictCopyH
import HandS.Sort
import HandS.Conv
import HandS.TupAny
import HandS.OwnEq
import HandS.CallLocal
import HandS.Strs
import HandS.SetKeys
import HandS.SetBool
import KE.GoesEnum
import KE.KUnpackStar
import KE.SortData
import HandS.ExcInit
import HandS.ExcField
import HandS.ExcValue
import KE.KExcInit
import KE.KExcIs
import HandS.Nested
import KE.SortKeyHeap
import KE.KLam
import KE.KNestM
import HandS.EndTab
import HandS.DictComp
import HandS.DictTup
import HandS.WordsDict
import HandS.IntHex
import PyProof.ReprRoads
import KE.DataFind
import HandS.FStr
import HandS.Text
import HandS.Iter
import HandS.RaiseMore
import PySem.Challenge.RW_crestpool_k58_what_parts_two_lists
set_option Elab.async false
set_option linter.all false
set_option maxRecDepth 100000
set_option maxHeartbeats 4000000
namespace Cr
/-- a fraction's numbers are below 2 ^ n -/
def Sz (n : Nat) (r : Rat) : Prop := r.num.natAbs < 2 ^ n ∧ r.den < 2 ^ n
theorem Sz.mono {n m : Nat} {r : Rat} (h : Sz n r) (k : n ≤ m) : Sz m r :=
  have e : 2 ^ n ≤ 2 ^ m := Nat.pow_le_pow_right (by decide) k
  ⟨Nat.lt_of_lt_of_le h.1 e, Nat.lt_of_lt_of_le h.2 e⟩
theorem lt_two {a n : Nat} (h : a < 2 ^ n) {b m : Nat} (k : b < 2 ^ m) : a * b < 2 ^ (n + m) := by
  rw [Nat.pow_add]; exact Nat.mul_lt_mul'' h k
/-- the numbers of a quotient in lowest terms are no greater -/
theorem divInt_num_le (t b : Int) (hb : b ≠ 0) : (Rat.divInt t b).num.natAbs ≤ t.natAbs := by
  rw [Rat.num_divInt, Int.natAbs_ediv_of_dvd]
  · refine Nat.le_trans (Nat.div_le_self _ _) ?_
    rw [Int.natAbs_mul, Int.natAbs_sign, if_neg hb, Nat.one_mul]
    exact Nat.le_refl _
  · exact Int.dvd_trans (Int.gcd_dvd_right _ _) (Int.dvd_mul_left _ _)
theorem divInt_den_le (t b : Int) (hb : b ≠ 0) : (Rat.divInt t b).den ≤ b.natAbs := by
  rw [Rat.den_divInt, if_neg hb]
  exact Nat.div_le_self _ _
theorem divInt_sz {t b : Int} {n : Nat} (hb : b ≠ 0) (h1 : t.natAbs < 2 ^ n) (h2 : b.natAbs < 2 ^ n) : Sz n (Rat.divInt t b) :=
  ⟨Nat.lt_of_le_of_lt (divInt_num_le t b hb) h1, Nat.lt_of_le_of_lt (divInt_den_le t b hb) h2⟩
theorem rat_add (r s : Rat) : Rat.divInt (r.num * s.den + s.num * r.den) (r.den * s.den) = r + s := by
  have h1 : (r.den : Int) ≠ 0 := by have := r.den_pos; omega
  have h2 : (s.den : Int) ≠ 0 := by have := s.den_pos; omega
  rw [← Rat.divInt_add_divInt _ _ h1 h2, Rat.num_divInt_den, Rat.num_divInt_den]
theorem rat_sub (r s : Rat) : Rat.divInt (r.num * s.den - s.num * r.den) (r.den * s.den) = r - s := by
  have e := rat_add r (-s)
  rw [Rat.neg_num, Rat.neg_den] at e
  rw [Rat.sub_eq_add_neg, ← e, Int.neg_mul, Int.sub_eq_add_neg]
theorem rat_mul (r s : Rat) : Rat.divInt (r.num * s.num) (r.den * s.den) = r * s := by
  rw [← Rat.divInt_mul_divInt, Rat.num_divInt_den, Rat.num_divInt_den]
theorem den_ne (r : Rat) : (r.den : Int) ≠ 0 := by have := r.den_pos; omega
theorem natAbs_lt_mul {a b : Int} {n m : Nat} (h : a.natAbs < 2 ^ n) (k : b.natAbs < 2 ^ m) : (a * b).natAbs < 2 ^ (n + m) := by
  rw [Int.natAbs_mul]; exact lt_two h k
theorem natAbs_lt_add {a b : Int} {n : Nat} (h : a.natAbs < 2 ^ n) (k : b.natAbs < 2 ^ n) : (a + b).natAbs < 2 ^ (n + 1) := by
  have := Int.natAbs_add_le a b
  rw [Nat.pow_succ]; omega
theorem natAbs_lt_sub {a b : Int} {n : Nat} (h : a.natAbs < 2 ^ n) (k : b.natAbs < 2 ^ n) : (a - b).natAbs < 2 ^ (n + 1) := by
  have := Int.natAbs_add_le a (-b)
  rw [Int.natAbs_neg] at this
  rw [Int.sub_eq_add_neg, Nat.pow_succ]; omega
theorem sz0 : Sz 4000 0 := by unfold Sz; exact ⟨Nat.pow_pos (by decide), Nat.one_lt_two_pow (by decide)⟩
theorem Sz.dA {n : Nat} {r : Rat} (h : Sz n r) : (r.den : Int).natAbs < 2 ^ n := by rw [Int.natAbs_natCast]; exact h.2
theorem pw_le {a n m : Nat} (h : a < 2 ^ n) (k : n ≤ m) : a < 2 ^ m := Nat.lt_of_lt_of_le h (Nat.pow_le_pow_right (by decide) k)
theorem Sz.add {n m : Nat} {r s : Rat} (h : Sz n r) (k : Sz m s) : Sz (n + m + 1) (r + s) := by
  rw [← rat_add]
  refine divInt_sz ?_ ?_ ?_
  · exact Int.mul_ne_zero (den_ne r) (den_ne s)
  · refine natAbs_lt_add (natAbs_lt_mul h.1 k.dA) ?_
    rw [Nat.add_comm]
    exact natAbs_lt_mul k.1 h.dA
  · exact pw_le (natAbs_lt_mul h.dA k.dA) (by omega)
theorem Sz.sub {n m : Nat} {r s : Rat} (h : Sz n r) (k : Sz m s) : Sz (n + m + 1) (r - s) := by
  rw [← rat_sub]
  refine divInt_sz ?_ ?_ ?_
  · exact Int.mul_ne_zero (den_ne r) (den_ne s)
  · refine natAbs_lt_sub (natAbs_lt_mul h.1 k.dA) ?_
    rw [Nat.add_comm]
    exact natAbs_lt_mul k.1 h.dA
  · exact pw_le (natAbs_lt_mul h.dA k.dA) (by omega)
theorem Sz.mul {n m : Nat} {r s : Rat} (h : Sz n r) (k : Sz m s) : Sz (n + m) (r * s) := by
  rw [← rat_mul]
  refine divInt_sz ?_ ?_ ?_
  · exact Int.mul_ne_zero (den_ne r) (den_ne s)
  · exact natAbs_lt_mul h.1 k.1
  · exact natAbs_lt_mul h.dA k.dA
theorem Sz.neg {n : Nat} {r : Rat} (h : Sz n r) : Sz n (-r) := by
  unfold Sz; rw [Rat.neg_num, Rat.neg_den, Int.natAbs_neg]; exact h
theorem num_ne {s : Rat} (h : s ≠ 0) : s.num ≠ 0 := fun e => h (Rat.num_eq_zero.mp e)
theorem rat_div (r s : Rat) : Rat.divInt (r.num * s.den) (r.den * s.num) = r / s := by
  rw [Rat.div_def, ← Rat.num_divInt_den s, Rat.inv_divInt, ← Rat.divInt_mul_divInt, Rat.num_divInt_den]
  rw [Rat.num_divInt_den]
theorem Sz.div {n m : Nat} {r s : Rat} (h : Sz n r) (k : Sz m s) (h0 : s ≠ 0) : Sz (n + m) (r / s) := by
  rw [← rat_div]
  refine divInt_sz ?_ ?_ ?_
  · exact Int.mul_ne_zero (den_ne r) (num_ne h0)
  · exact natAbs_lt_mul h.1 k.dA
  · exact natAbs_lt_mul h.dA k.1
/-- what the two lowest-terms loops end with -/
def lowG (t b : Int) : Int := if b < 0 then -((Nat.gcd t.natAbs b.natAbs : Nat) : Int) else ((Nat.gcd t.natAbs b.natAbs : Nat) : Int)
theorem gcd_pos {t b : Int} (hb : b ≠ 0) : 0 < Nat.gcd t.natAbs b.natAbs := Nat.gcd_pos_of_pos_right _ (by omega)
theorem low_num {t b : Int} (hb : b ≠ 0) : t.fdiv (lowG t b) = (Rat.divInt t b).num := by
  have hg := gcd_pos (t := t) hb
  have hd : ((Nat.gcd t.natAbs b.natAbs : Nat) : Int) ∣ t := by
    have := Int.gcd_dvd_left t b
    exact this
  have e : Int.gcd b t = Nat.gcd t.natAbs b.natAbs := by show Nat.gcd b.natAbs t.natAbs = _; exact Nat.gcd_comm _ _
  rw [Rat.num_divInt, e]
  unfold lowG
  obtain ⟨k, hk⟩ := hd
  generalize hgg : Nat.gcd t.natAbs b.natAbs = g at *
  by_cases h : b < 0
  · rw [if_pos h, Int.sign_eq_neg_one_of_neg h, hk]
    rw [Int.fdiv_eq_ediv_of_dvd (by rw [Int.neg_dvd]; exact Int.dvd_mul_right _ _)]
    rw [Int.ediv_neg, Int.mul_ediv_cancel_left _ (by omega)]
    rw [show (-1 : Int) * (↑g * k) = ↑g * (-k) by rw [Int.mul_neg]; omega, Int.mul_ediv_cancel_left _ (by omega)]
  · rw [if_neg h, Int.sign_eq_one_of_pos (by omega), hk]
    rw [Int.fdiv_eq_ediv_of_dvd (Int.dvd_mul_right _ _), Int.one_mul]
theorem low_den {t b : Int} (hb : b ≠ 0) : b.fdiv (lowG t b) = ((Rat.divInt t b).den : Int) := by
  have hg := gcd_pos (t := t) hb
  have hd : ((Nat.gcd t.natAbs b.natAbs : Nat) : Int) ∣ b := by
    have := Int.gcd_dvd_right t b
    exact this
  have e : Int.gcd b t = Nat.gcd t.natAbs b.natAbs := by show Nat.gcd b.natAbs t.natAbs = _; exact Nat.gcd_comm _ _
  rw [Rat.den_divInt, if_neg hb, e]
  unfold lowG
  obtain ⟨k, hk⟩ := hd
  generalize hgg : Nat.gcd t.natAbs b.natAbs = g at *
  have ea : b.natAbs = g * k.natAbs := by rw [hk, Int.natAbs_mul, Int.natAbs_natCast]
  rw [ea, Nat.mul_div_cancel_left _ hg]
  by_cases h : b < 0
  · rw [if_pos h, hk]
    rw [Int.fdiv_eq_ediv_of_dvd (by rw [Int.neg_dvd]; exact Int.dvd_mul_right _ _)]
    rw [Int.ediv_neg, Int.mul_ediv_cancel_left _ (by omega)]
    have : k < 0 := by
      rcases Int.lt_or_le k 0 with q | q
      · exact q
      · exfalso; have := Int.mul_nonneg (show (0 : Int) ≤ g by omega) q; omega
    omega
  · rw [if_neg h, hk]
    rw [Int.fdiv_eq_ediv_of_dvd (Int.dvd_mul_right _ _), Int.mul_ediv_cancel_left _ (by omega)]
    have : 0 ≤ k := by
      rcases Int.lt_or_le k 0 with q | q
      · exfalso
        have := Int.mul_neg_of_pos_of_neg (show (0 : Int) < g by omega) q; omega
      · exact q
    omega
/-- one turn of the loop -/
theorem gcd_turn (a b : Nat) : Nat.gcd b (a % b) = Nat.gcd a b := by
  rw [Nat.gcd_comm a b, Nat.gcd_rec b a, Nat.gcd_comm]
end Cr
namespace Cr
/-- sums of fractions -/
theorem foldl_add (a : Rat) (rs : List Rat) : rs.foldl (· + ·) a = rs.foldl (· + ·) 0 + a := by
  induction rs generalizing a with
  | nil => show a = 0 + a; grind
  | cons r rs ih =>
    rw [List.foldl_cons, List.foldl_cons, ih (a + r), ih (0 + r)]
    grind
theorem foldl_rev (rs : List Rat) : rs.reverse.foldl (· + ·) 0 = rs.foldl (· + ·) 0 := by
  induction rs with
  | nil => rfl
  | cons r rs ih =>
    rw [List.reverse_cons, List.foldl_append, ih, List.foldl_cons, List.foldl_cons, List.foldl_nil, foldl_add (0 + r)]
    grind
theorem foldl_sz {n m : Nat} (rs : List Rat) (h : ∀ r, r ∈ rs → Sz n r) (a : Rat) (ha : Sz m a) : Sz (m + (n + 1) * rs.length) (rs.foldl (· + ·) a) := by
  induction rs generalizing a m with
  | nil => exact ha.mono (by simp)
  | cons r rs ih =>
    rw [List.foldl_cons]
    refine (ih (fun x hx => h x (List.mem_cons_of_mem _ hx)) (a + r) (ha.add (h r List.mem_cons_self))).mono ?_
    rw [List.length_cons, Nat.mul_add]
    omega
end Cr
namespace Cr
theorem divInt_pos {t b : Int} (h : 0 < t) (k : 0 < b) : 0 < Rat.divInt t b := by
  rw [Rat.divInt_eq_div, Rat.div_def]
  exact Rat.mul_pos (by exact_mod_cast h) (Rat.inv_pos.mpr (by exact_mod_cast k))
/-- the fee in a lot -/
def feeR (w m : Rat) (rate : Int) : Rat := if m < w then (w - m) * Rat.divInt rate 10000 else 0
theorem sz1 {n : Nat} (h : 0 < n) : Sz n 0 := by unfold Sz; exact ⟨Nat.pow_pos (by decide), Nat.one_lt_two_pow (by omega)⟩
theorem feeR_sz {n : Nat} {w m : Rat} {rate : Int} (h : Sz n w) (k : Sz n m) (r0 : 0 ≤ rate) (r1 : rate ≤ 10000) : Sz (2 * n + 65) (feeR w m rate) := by
  unfold feeR
  split
  · exact ((h.sub k).mul (divInt_sz (n := 64) (by decide) (by omega) (by omega))).mono (by omega)
  · exact sz1 (by omega)
end Cr

namespace Cr
/-- the fee in a part of a lot -/
theorem feeR_part {w m r : Rat} {i : Int} (h : 0 < r) : feeR (w * r) (m * r) i = feeR w m i * r := by
  unfold feeR
  by_cases c : m < w
  · rw [if_pos c, if_pos (Rat.mul_lt_mul_of_pos_right c h)]
    grind
  · rw [if_neg c, if_neg (fun z => c ((Rat.mul_lt_mul_right h).mp z))]
    grind
theorem cents {i : Int} : Rat.divInt i 10000 + Rat.divInt (10000 - i) 10000 = 1 := by
  rw [Rat.divInt_eq_div, Rat.divInt_eq_div]
  push_cast
  grind
end Cr
namespace Cr
/-- top and bottom bounded apart -/
def Sz2 (n d : Nat) (r : Rat) : Prop := r.num.natAbs < 2 ^ n ∧ r.den < 2 ^ d
theorem Sz2.mono {n d n' d' : Nat} {r : Rat} (h : Sz2 n d r) (k : n ≤ n') (k' : d ≤ d') : Sz2 n' d' r := ⟨pw_le h.1 k, pw_le h.2 k'⟩
theorem Sz2.sz {n d m : Nat} {r : Rat} (h : Sz2 n d r) (k : n ≤ m) (k' : d ≤ m) : Sz m r := ⟨pw_le h.1 k, pw_le h.2 k'⟩
theorem Sz2.add {n d m e : Nat} {r s : Rat} (h : Sz2 n d r) (k : Sz2 m e s) {x : Nat} (h1 : n + e ≤ x) (h2 : m + d ≤ x) : Sz2 (x + 1) (d + e) (r + s) := by
  rw [← rat_add]
  have hb : (r.den : Int) * s.den ≠ 0 := Int.mul_ne_zero (den_ne r) (den_ne s)
  have ad : (r.den : Int).natAbs < 2 ^ d := by rw [Int.natAbs_natCast]; exact h.2
  have bd : (s.den : Int).natAbs < 2 ^ e := by rw [Int.natAbs_natCast]; exact k.2
  refine ⟨Nat.lt_of_le_of_lt (divInt_num_le _ _ hb) (natAbs_lt_add (pw_le (natAbs_lt_mul h.1 bd) h1) (pw_le (natAbs_lt_mul k.1 ad) h2)), Nat.lt_of_le_of_lt (divInt_den_le _ _ hb) (natAbs_lt_mul ad bd)⟩
theorem Sz2.toSz {n d : Nat} {r : Rat} (h : Sz2 n d r) : Sz (n + d) r := h.sz (Nat.le_add_right _ _) (Nat.le_add_left _ _)
theorem Sz2.mul {n d m e : Nat} {r s : Rat} (h : Sz2 n d r) (k : Sz2 m e s) : Sz2 (n + m) (d + e) (r * s) := by
  rw [← rat_mul]
  have hb : (r.den : Int) * s.den ≠ 0 := Int.mul_ne_zero (den_ne r) (den_ne s)
  have ad : (r.den : Int).natAbs < 2 ^ d := by rw [Int.natAbs_natCast]; exact h.2
  have bd : (s.den : Int).natAbs < 2 ^ e := by rw [Int.natAbs_natCast]; exact k.2
  exact ⟨Nat.lt_of_le_of_lt (divInt_num_le _ _ hb) (natAbs_lt_mul h.1 k.1), Nat.lt_of_le_of_lt (divInt_den_le _ _ hb) (natAbs_lt_mul ad bd)⟩
theorem divInt_sz2 {t b : Int} {n d : Nat} (hb : b ≠ 0) (h1 : t.natAbs < 2 ^ n) (h2 : b.natAbs < 2 ^ d) : Sz2 n d (Rat.divInt t b) :=
  ⟨Nat.lt_of_le_of_lt (divInt_num_le t b hb) h1, Nat.lt_of_le_of_lt (divInt_den_le t b hb) h2⟩
end Cr

namespace Cr
open PySem PySem.Spec PyProof.Rows L2
abbrev St := L2.St

/-! ### rules that take any of several kinds -/
theorem opR_or {X : Cx} {f : Value → Value → Sem Value} {r1 r2 : R2} (h1 : OpR X f r1) (h2 : OpR X f r2) : OpR X f (fun x y H Q => r1 x y H Q ∨ r2 x y H Q) := by
  intro pins s σ H x y v u Q I rx ry h
  rcases h with h | h
  · exact h1 pins s σ H x y v u Q I rx ry h
  · exact h2 pins s σ H x y v u Q I rx ry h
def CDivZ (_ j : Int) : Prop := j ≠ 0 ∧ j.natAbs.log2 < 9000
def CMulZ (i j : Int) : Prop := CMul i j ∨ CMulW i j
def rAddI : R2 := rI0 fun i j => .int (i + j)
def rAddS : R2 := fun x y H Q => ∃ i j, x = .str i ∧ y = .str j ∧ i.length + j.length ≤ sizeLine ∧ Q (.str (i ++ j)) H
def rAddU (K : PySem.W.Frag) : R2 := fun x y H Q => rAddI x y H Q ∨ rAddS x y H Q ∨ rCat x y H Q ∨ rCatT K x y H Q
def rSubU : R2 := rI0 fun i j => .int (i - j)
def rMulI : R2 := rI CMulZ fun i j => .int (i * j)
def rMulU : R2 := fun x y H Q => rMulI x y H Q ∨ rRep x y H Q
def rDivU : R2 := rI CDivZ fun i j => .int (i.fdiv j)
def rModU : R2 := rI (fun _ j => j ≠ 0) fun i j => .int (i.fmod j)
def rPowU : R2 := rI CPow fun i j => .int (i ^ j.toNat)
def rLtI : R2 := rI0 fun i j => .bl (decide (i < j))
def rLeI : R2 := rI0 fun i j => .bl (decide (i ≤ j))
def rGtI : R2 := rI0 fun i j => .bl (decide (j < i))
def rGeI : R2 := rI0 fun i j => .bl (decide (j ≤ i))
def rLenU (K : PySem.W.Frag) : List V → Hp → VK → Prop := fun xs H Q => ∃ x n, xs = [x] ∧ LenV K x H n ∧ Q (.int n) H
def rAbsU : List V → Hp → VK → Prop := fun xs H Q => ∃ i, xs = [.int i] ∧ Q (.int (if i < 0 then -i else i)) H
def rMaxU : List V → Hp → VK → Prop := fun xs H Q => ∃ i j, xs = [.int i, .int j] ∧ Q (.int (if j > i then j else i)) H
def rMinU : List V → Hp → VK → Prop := fun xs H Q => ∃ i j, xs = [.int i, .int j] ∧ Q (.int (if j < i then j else i)) H
def rListU (K : PySem.W.Frag) : List V → Hp → VK → Prop := fun xs H Q => ∃ p ys, xs = [.ref p] ∧ (SqL K H p ys ∨ SqT K H p ys) ∧ ∀ l, H l = none → Q (.ref l) (upd H l (.lst ys))
def rTupU (K : PySem.W.Frag) : List V → Hp → VK → Prop := fun xs H Q => ∃ p ys, xs = [.ref p] ∧ ((SqL K H p ys ∧ ∀ l, H l = none → Q (.ref l) (upd H l (.tup ys))) ∨ (SqT K H p ys ∧ Q (.ref p) H))
def rSlU (K : PySem.W.Frag) : V → Option Int → Option Int → Hp → VK → Prop := fun x lo hi H Q => rSlL K x lo hi H Q ∨ rSlT K x lo hi H Q
def rNegU : V → Hp → VK → Prop := rU fun i => .int (-i)
section
variable {X : Cx}
theorem op_addU : OpR X (binaryOp .Add) (rAddU X.K) := opR_or op_add (opR_or op_add_str (opR_or op_cat op_catT))
theorem op_subU : OpR X (binaryOp .Sub) rSubU := op_sub
theorem op_mulI : OpR X (binaryOp .Mult) rMulI := opI fun _ _ _ _ _ _ _ hc q => mul_int q (hc.elim CMul.ok CMulW.ok)
theorem op_mulU : OpR X (binaryOp .Mult) rMulU := opR_or op_mulI op_rep
theorem op_divU : OpR X (binaryOp .FloorDiv) rDivU := opI fun _ _ _ _ _ _ _ hc q => floordiv_int hc.1 q (.inl (PyProof.noPylong_of_log2 hc.2))
theorem op_modU : OpR X (binaryOp .Mod) rModU := op_modN
theorem op_powU : OpR X (binaryOp .Pow) rPowU := op_pow
theorem op_ltI : OpR X (compareOp .Lt) rLtI := op_lt
theorem op_leI : OpR X (compareOp .LtE) rLeI := op_le
theorem op_gtI : OpR X (compareOp .Gt) rGtI := op_gt
theorem op_geI : OpR X (compareOp .GtE) rGeI := op_ge
theorem call_lenU : CallR X (.builtin "len") (rLenU X.K) := call_len
theorem call_absU : CallR X (.builtin "abs") rAbsU := call_abs
theorem call_maxU (hc : X.calm = true) : CallR X (.builtin "max") rMaxU := call_max2 hc
theorem call_minU (hc : X.calm = true) : CallR X (.builtin "min") rMinU := call_min2 hc
theorem call_listU : CallR X (.type "list") (rListU X.K) := call_list_of
theorem call_tupU : CallR X (.type "tuple") (rTupU X.K) := call_tuple_of
theorem sl_seqU : SlR X (rSlU X.K) := SlR.or sl_list sl_tup
theorem un_negU : UnR X (unaryOp .USub) rNegU := un_neg
end
def tTruU (K : PySem.W.Frag) (ta : TE) : TT := fun σ H Q => ta σ H fun x H' => ∃ k, TruV K x H' k ∧ Q k H'
theorem pt_tru {X : Cx} {a : Expr} {ta : TE} (ha : PE X a ta) (he : ∀ whole, isTrue a X.env whole = (do let v ← whole; standAt a.pos; holding [v] (truthy v)) := by intro _; rfl) : PT X a (tTruU X.K ta) := pt_truth ha he

/-! ### heaps -/
def isT : HO → Bool
  | .tup _ => true
  | .frz _ (.tup _) => true
  | _ => false
/-- tuples stay -/
def KT (H H' : Hp) : Prop := ∀ a o, H a = some o → isT o = true → H' a = some o
theorem KT.refl (H : Hp) : KT H H := fun _ _ h _ => h
theorem KT.trans {H H1 H2 : Hp} (a : KT H H1) (b : KT H1 H2) : KT H H2 := fun x o h t => b x o (a x o h t) t
theorem kt_same {H H' : Hp} (s : Same H H') : KT H H' := fun a o h _ => s a o h
theorem kt_new {H : Hp} {p : Addr} {o : HO} (h : H p = none) : KT H (upd H p o) := fun a u e _ => by rw [upd_ne (ne_of_none e h)]; exact e
theorem kt_mut {H : Hp} {p : Addr} {o o' : HO} (h : H p = some o) (t : isT o = false) : KT H (upd H p o') := fun a u e k => by
  rw [upd_ne (fun z => by subst z; rw [h] at e; cases e; rw [t] at k; cases k)]; exact e
theorem ne_on {H : Hp} {a b : Addr} {o : HO} (h' : H b = none) (h : H a = some o) : a ≠ b := ne_of_none h h'
theorem at_same {H H' : Hp} {a : Addr} {o : HO} (s : Same H H') (h : H a = some o) : H' a = some o := s a o h
theorem free_on {H H' : Hp} {l : Addr} (h : H' l = none) (e : Same H H') : H l = none := e.free h
theorem same_new {H : Hp} {p : Addr} {o : HO} (h : H p = none) : Same H (upd H p o) := fun a u e => by rw [upd_ne (ne_of_none e h)]; exact e
/-- what H0 knows stays where an object that H0 does not know is changed -/
theorem same_mut {H0 H : Hp} {p : Addr} {o : HO} (s : Same H0 H) (h : H0 p = none) : Same H0 (upd H p o) := fun a u e => by rw [upd_ne (ne_of_none e h)]; exact s a u e
/-- all but what stands at b stays; a list stands at b -/
structure But (b : Addr) (H H' : Hp) : Prop where
  oth : ∀ a o, a ≠ b → H a = some o → H' a = some o
  lst : ∃ xs, H b = some (.lst xs)
theorem kt_but {b : Addr} {H H' : Hp} (s : But b H H') : KT H H' := fun a o h t => s.oth a o (fun z => by subst z; obtain ⟨xs, e⟩ := s.lst; rw [e] at h; cases h; cases t) h
theorem sqT_kt {K : PySem.W.Frag} {H H' : Hp} {a : Addr} {xs : List V} (k : KT H H') (h : SqT K H a xs) : SqT K H' a xs := by
  rcases h with (h | ⟨o, h⟩) | h
  · exact .inl (.inl (k _ _ h rfl))
  · exact .inl (.inr ⟨o, k _ _ h rfl⟩)
  · exact .inr h

/-! ### data of tuples, ints, texts, truths, None -/
mutual
inductive Dt (K : PySem.W.Frag) (H : Hp) : V → PyData → Prop
  | non : Dt K H .non .none
  | bl (b : Bool) : Dt K H (.bl b) (.bool b)
  | int (i : Int) : Dt K H (.int i) (.int i)
  | str (x : Str) : Dt K H (.str x) (.str x)
  | tup {a : Addr} {xs : List V} {ds : List PyData} : SqT K H a xs → DtAll K H xs ds → Dt K H (.ref a) (.tuple ds)
inductive DtAll (K : PySem.W.Frag) (H : Hp) : List V → List PyData → Prop
  | nil : DtAll K H [] []
  | cons {v : V} {vs : List V} {d : PyData} {ds : List PyData} : Dt K H v d → DtAll K H vs ds → DtAll K H (v :: vs) (d :: ds)
end
section
variable {K : PySem.W.Frag} {H H' : Hp}
mutual
theorem Dt.mono (k : KT H H') : ∀ {v : V} {d : PyData}, Dt K H v d → Dt K H' v d
  | _, _, .non => .non
  | _, _, .bl b => .bl b
  | _, _, .int i => .int i
  | _, _, .str x => .str x
  | _, _, .tup h a => .tup (sqT_kt k h) (DtAll.mono k a)
theorem DtAll.mono (k : KT H H') : ∀ {vs : List V} {ds : List PyData}, DtAll K H vs ds → DtAll K H' vs ds
  | _, _, .nil => .nil
  | _, _, .cons h a => .cons (Dt.mono k h) (DtAll.mono k a)
end
mutual
theorem Dt.dp : ∀ {v : V} {d : PyData}, Dt K H v d → Dp K H v d
  | _, _, .non => .non
  | _, _, .bl b => .bl b
  | _, _, .int i => .int i
  | _, _, .str x => .str x
  | _, _, .tup h a => .tup h (DtAll.dp a)
theorem DtAll.dp : ∀ {vs : List V} {ds : List PyData}, DtAll K H vs ds → DpAll K H vs ds
  | _, _, .nil => .nil
  | _, _, .cons h a => .cons (Dt.dp h) (DtAll.dp a)
end
theorem Dt.int_eq {v : V} {i : Int} (h : Dt K H v (.int i)) : v = .int i := by cases h; rfl
theorem Dt.bl_eq {v : V} {i : Bool} (h : Dt K H v (.bool i)) : v = .bl i := by cases h; rfl
theorem Dt.str_eq {v : V} {i : Str} (h : Dt K H v (.str i)) : v = .str i := by cases h; rfl
theorem Dt.tup_inv {v : V} {ds : List PyData} (h : Dt K H v (.tuple ds)) : ∃ a xs, v = .ref a ∧ SqT K H a xs ∧ DtAll K H xs ds := by
  cases h with
  | tup h a => exact ⟨_, _, rfl, h, a⟩
theorem DtAll.len {vs : List V} {ds : List PyData} (h : DtAll K H vs ds) : vs.length = ds.length := by
  induction ds generalizing vs with
  | nil => cases h; rfl
  | cons d ds ih => cases h with | cons h a => exact congrArg Nat.succ (ih a)
theorem DtAll.get {vs : List V} {ds : List PyData} (h : DtAll K H vs ds) {i : Nat} {d : PyData} (e : ds[i]? = some d) : ∃ v, vs[i]? = some v ∧ Dt K H v d := by
  induction ds generalizing vs i with
  | nil => cases e
  | cons d' ds ih =>
    cases h with
    | cons h a =>
      cases i with
      | zero => cases e; exact ⟨_, rfl, h⟩
      | succ i => obtain ⟨v, e1, e2⟩ := ih a e; exact ⟨v, e1, e2⟩
theorem DtAll.append {vs ws : List V} {ds es : List PyData} (h : DtAll K H vs ds) (h2 : DtAll K H ws es) : DtAll K H (vs ++ ws) (ds ++ es) := by
  induction ds generalizing vs with
  | nil => cases h; exact h2
  | cons d ds ih => cases h with | cons h a => exact .cons h (ih a)
theorem dt_new {p : Addr} {xs : List V} {ds : List PyData} (h : DtAll K H xs ds) (n : H p = none) : Dt K (upd H p (.tup xs)) (.ref p) (.tuple ds) :=
  .tup (.inl (.inl upd_same)) (h.mono (kt_new n))
/-- a fraction -/
def fr (r : Rat) : PyData := .tuple [.int r.num, .int r.den]
end

/-! ### readings step by step -/
theorem cxK0 {CX : CXT} {P : Program} {w : World} {K : PySem.W.Frag} {mg : Str → Option Value} {base : Heap} {N : List Str} {qual : Str} {scope : Scope} {f : Addr} {cd : Value} {A : Around} {outer : List Env} {s : Shared} {H : Hp} {E : XK} : (cxOf CX P w K mg base N qual scope f cd A outer s H E).nox.K = K := rfl
theorem cxK1 {CX : CXT} {P : Program} {w : World} {K : PySem.W.Frag} {mg : Str → Option Value} {base : Heap} {N : List Str} {qual : Str} {scope : Scope} {f : Addr} {cd : Value} {A : Around} {outer : List Env} {s : Shared} {H : Hp} {E : XK} : (cxOf CX P w K mg base N qual scope f cd A outer s H E).K = K := rfl
section
variable {K : PySem.W.Frag} {σ : St} {H : Hp} {Q : VK} {D : Ends}
theorem s_seq {t u : TS} (h : t { D with nx := u D } σ H) : tSeq t u D σ H := h
theorem s_next (h : D.nx σ H) : tNext D σ H := h
theorem s_brk (h : D.bk σ H) : tBreak D σ H := h
theorem s_cont (h : D.ct σ H) : tCont D σ H := h
theorem s_asg {te : TE} {g : TG} (h : te σ H fun x H1 => g x σ H1 D.nx) : tAsg te g D σ H := h
theorem s_gname {i : Nat} {v : V} {N : St → Hp → Prop} (h : N (σ.set i (some v)) H) : gName i v σ H N := h
theorem s_gsub {to ti : TE} {t : TSet} {v : V} {N : St → Hp → Prop} (h : to σ H fun o H1 => ti σ H1 fun i H2 => t o i v H2 fun H3 => N σ H3) : gSub to ti t v σ H N := h
theorem s_drop {te : TE} (h : te σ H fun _ H1 => D.nx σ H1) : tDrop te D σ H := h
theorem s_ret {te : TE} (h : te σ H D.rt) : tRet te D σ H := h
theorem s_retN (h : D.rt .non H) : tRetN D σ H := h
theorem s_par {i j : Nat} {ta tb : TE} (h : ta σ H fun x H1 => tb σ H1 fun y H2 => D.nx ((σ.set i (some x)).set j (some y)) H2) : tPar i j (tCons ta (tCons tb tNil)) D σ H :=
  (show ta σ H fun x H1 => tb σ H1 fun y H2 => ∃ v w, [x, y] = [v, w] ∧ D.nx ((σ.set i (some v)).set j (some w)) H2 from by
    have e : (fun x H1 => tb σ H1 fun y H2 => ∃ v w, [x, y] = [v, w] ∧ D.nx ((σ.set i (some v)).set j (some w)) H2) = (fun x H1 => tb σ H1 fun y H2 => D.nx ((σ.set i (some x)).set j (some y)) H2) := by
      funext x H1
      have e2 : (fun (y : V) (H2 : Hp) => ∃ v w, [x, y] = [v, w] ∧ D.nx ((σ.set i (some v)).set j (some w)) H2) = (fun y H2 => D.nx ((σ.set i (some x)).set j (some y)) H2) := by
        funext y H2
        refine propext ⟨fun ⟨v, w, e, n⟩ => ?_, fun n => ⟨x, y, rfl, n⟩⟩
        cases e
        exact n
      rw [e2]
    rw [e]
    exact h)
theorem s_if {c : TT} {t u : TS} (h : c σ H fun b H1 => if b = true then t D σ H1 else u D σ H1) : tIfS c t u D σ H := h
theorem s_ifE {c : TT} {ta tb : TE} (h : c σ H fun b H1 => if b = true then ta σ H1 Q else tb σ H1 Q) : tIf c ta tb σ H Q := h
theorem s_itT {A B : Prop} (h : A) : if true = true then A else B := iteT h
theorem s_itF {A B : Prop} (h : B) : if false = true then A else B := iteF h
theorem s_itNT {A B : Prop} (h : B) : if (!true) = true then A else B := iteF h
theorem s_itNF {A B : Prop} (h : A) : if (!false) = true then A else B := iteT h
theorem s_iteD {c A B : Prop} {inst : Decidable c} (h1 : c → A) (h2 : ¬ c → B) : if (@decide c inst) = true then A else B := by
  by_cases h : c
  · rw [decide_eq_true h]; exact iteT (h1 h)
  · rw [decide_eq_false h]; exact iteF (h2 h)
theorem s_iteN {c A B : Prop} {inst : Decidable c} (h1 : ¬ c → A) (h2 : c → B) : if (!@decide c inst) = true then A else B := by
  by_cases h : c
  · rw [decide_eq_true h]; exact iteF (h2 h)
  · rw [decide_eq_false h]; exact iteT (h1 h)
theorem s_iteB {b : Bool} {A B : Prop} (h1 : b = true → A) (h2 : b = false → B) : if b = true then A else B := by
  cases b with
  | true => exact iteT (h1 rfl)
  | false => exact iteF (h2 rfl)
theorem s_var {i : Nat} {v : V} (e : σ[i]? = some (some v)) (h : Q v H) : tVar i σ H Q := ⟨v, e, h⟩
theorem s_v0 {v : V} {σ : St} (h : Q v H) : tVar 0 (some v :: σ) H Q := ⟨v, rfl, h⟩
theorem s_g0 {y : Option V} {v : V} {σ : St} {N : St → Hp → Prop} (h : N (some v :: σ) H) : gName 0 v (y :: σ) H N := h
theorem s_v1 {x0 : Option V} {v : V} {σ : St} (h : Q v H) : tVar 1 (x0 :: some v :: σ) H Q := ⟨v, rfl, h⟩
theorem s_g1 {x0 : Option V} {y : Option V} {v : V} {σ : St} {N : St → Hp → Prop} (h : N (x0 :: some v :: σ) H) : gName 1 v (x0 :: y :: σ) H N := h
theorem s_v2 {x0 x1 : Option V} {v : V} {σ : St} (h : Q v H) : tVar 2 (x0 :: x1 :: some v :: σ) H Q := ⟨v, rfl, h⟩
theorem s_g2 {x0 x1 : Option V} {y : Option V} {v : V} {σ : St} {N : St → Hp → Prop} (h : N (x0 :: x1 :: some v :: σ) H) : gName 2 v (x0 :: x1 :: y :: σ) H N := h
theorem s_v3 {x0 x1 x2 : Option V} {v : V} {σ : St} (h : Q v H) : tVar 3 (x0 :: x1 :: x2 :: some v :: σ) H Q := ⟨v, rfl, h⟩
theorem s_g3 {x0 x1 x2 : Option V} {y : Option V} {v : V} {σ : St} {N : St → Hp → Prop} (h : N (x0 :: x1 :: x2 :: some v :: σ) H) : gName 3 v (x0 :: x1 :: x2 :: y :: σ) H N := h
theorem s_v4 {x0 x1 x2 x3 : Option V} {v : V} {σ : St} (h : Q v H) : tVar 4 (x0 :: x1 :: x2 :: x3 :: some v :: σ) H Q := ⟨v, rfl, h⟩
theorem s_g4 {x0 x1 x2 x3 : Option V} {y : Option V} {v : V} {σ : St} {N : St → Hp → Prop} (h : N (x0 :: x1 :: x2 :: x3 :: some v :: σ) H) : gName 4 v (x0 :: x1 :: x2 :: x3 :: y :: σ) H N := h
theorem s_v5 {x0 x1 x2 x3 x4 : Option V} {v : V} {σ : St} (h : Q v H) : tVar 5 (x0 :: x1 :: x2 :: x3 :: x4 :: some v :: σ) H Q := ⟨v, rfl, h⟩
theorem s_g5 {x0 x1 x2 x3 x4 : Option V} {y : Option V} {v : V} {σ : St} {N : St → Hp → Prop} (h : N (x0 :: x1 :: x2 :: x3 :: x4 :: some v :: σ) H) : gName 5 v (x0 :: x1 :: x2 :: x3 :: x4 :: y :: σ) H N := h
theorem s_v6 {x0 x1 x2 x3 x4 x5 : Option V} {v : V} {σ : St} (h : Q v H) : tVar 6 (x0 :: x1 :: x2 :: x3 :: x4 :: x5 :: some v :: σ) H Q := ⟨v, rfl, h⟩
theorem s_g6 {x0 x1 x2 x3 x4 x5 : Option V} {y : Option V} {v : V} {σ : St} {N : St → Hp → Prop} (h : N (x0 :: x1 :: x2 :: x3 :: x4 :: x5 :: some v :: σ) H) : gName 6 v (x0 :: x1 :: x2 :: x3 :: x4 :: x5 :: y :: σ) H N := h
theorem s_v7 {x0 x1 x2 x3 x4 x5 x6 : Option V} {v : V} {σ : St} (h : Q v H) : tVar 7 (x0 :: x1 :: x2 :: x3 :: x4 :: x5 :: x6 :: some v :: σ) H Q := ⟨v, rfl, h⟩
theorem s_g7 {x0 x1 x2 x3 x4 x5 x6 : Option V} {y : Option V} {v : V} {σ : St} {N : St → Hp → Prop} (h : N (x0 :: x1 :: x2 :: x3 :: x4 :: x5 :: x6 :: some v :: σ) H) : gName 7 v (x0 :: x1 :: x2 :: x3 :: x4 :: x5 :: x6 :: y :: σ) H N := h
theorem s_v8 {x0 x1 x2 x3 x4 x5 x6 x7 : Option V} {v : V} {σ : St} (h : Q v H) : tVar 8 (x0 :: x1 :: x2 :: x3 :: x4 :: x5 :: x6 :: x7 :: some v :: σ) H Q := ⟨v, rfl, h⟩
theorem s_g8 {x0 x1 x2 x3 x4 x5 x6 x7 : Option V} {y : Option V} {v : V} {σ : St} {N : St → Hp → Prop} (h : N (x0 :: x1 :: x2 :: x3 :: x4 :: x5 :: x6 :: x7 :: some v :: σ) H) : gName 8 v (x0 :: x1 :: x2 :: x3 :: x4 :: x5 :: x6 :: x7 :: y :: σ) H N := h
theorem s_v9 {x0 x1 x2 x3 x4 x5 x6 x7 x8 : Option V} {v : V} {σ : St} (h : Q v H) : tVar 9 (x0 :: x1 :: x2 :: x3 :: x4 :: x5 :: x6 :: x7 :: x8 :: some v :: σ) H Q := ⟨v, rfl, h⟩
theorem s_g9 {x0 x1 x2 x3 x4 x5 x6 x7 x8 : Option V} {y : Option V} {v : V} {σ : St} {N : St → Hp → Prop} (h : N (x0 :: x1 :: x2 :: x3 :: x4 :: x5 :: x6 :: x7 :: x8 :: some v :: σ) H) : gName 9 v (x0 :: x1 :: x2 :: x3 :: x4 :: x5 :: x6 :: x7 :: x8 :: y :: σ) H N := h
theorem s_v10 {x0 x1 x2 x3 x4 x5 x6 x7 x8 x9 : Option V} {v : V} {σ : St} (h : Q v H) : tVar 10 (x0 :: x1 :: x2 :: x3 :: x4 :: x5 :: x6 :: x7 :: x8 :: x9 :: some v :: σ) H Q := ⟨v, rfl, h⟩
theorem s_g10 {x0 x1 x2 x3 x4 x5 x6 x7 x8 x9 : Option V} {y : Option V} {v : V} {σ : St} {N : St → Hp → Prop} (h : N (x0 :: x1 :: x2 :: x3 :: x4 :: x5 :: x6 :: x7 :: x8 :: x9 :: some v :: σ) H) : gName 10 v (x0 :: x1 :: x2 :: x3 :: x4 :: x5 :: x6 :: x7 :: x8 :: x9 :: y :: σ) H N := h
theorem s_v11 {x0 x1 x2 x3 x4 x5 x6 x7 x8 x9 x10 : Option V} {v : V} {σ : St} (h : Q v H) : tVar 11 (x0 :: x1 :: x2 :: x3 :: x4 :: x5 :: x6 :: x7 :: x8 :: x9 :: x10 :: some v :: σ) H Q := ⟨v, rfl, h⟩
theorem s_g11 {x0 x1 x2 x3 x4 x5 x6 x7 x8 x9 x10 : Option V} {y : Option V} {v : V} {σ : St} {N : St → Hp → Prop} (h : N (x0 :: x1 :: x2 :: x3 :: x4 :: x5 :: x6 :: x7 :: x8 :: x9 :: x10 :: some v :: σ) H) : gName 11 v (x0 :: x1 :: x2 :: x3 :: x4 :: x5 :: x6 :: x7 :: x8 :: x9 :: x10 :: y :: σ) H N := h
theorem s_v12 {x0 x1 x2 x3 x4 x5 x6 x7 x8 x9 x10 x11 : Option V} {v : V} {σ : St} (h : Q v H) : tVar 12 (x0 :: x1 :: x2 :: x3 :: x4 :: x5 :: x6 :: x7 :: x8 :: x9 :: x10 :: x11 :: some v :: σ) H Q := ⟨v, rfl, h⟩
theorem s_g12 {x0 x1 x2 x3 x4 x5 x6 x7 x8 x9 x10 x11 : Option V} {y : Option V} {v : V} {σ : St} {N : St → Hp → Prop} (h : N (x0 :: x1 :: x2 :: x3 :: x4 :: x5 :: x6 :: x7 :: x8 :: x9 :: x10 :: x11 :: some v :: σ) H) : gName 12 v (x0 :: x1 :: x2 :: x3 :: x4 :: x5 :: x6 :: x7 :: x8 :: x9 :: x10 :: x11 :: y :: σ) H N := h
theorem s_v13 {x0 x1 x2 x3 x4 x5 x6 x7 x8 x9 x10 x11 x12 : Option V} {v : V} {σ : St} (h : Q v H) : tVar 13 (x0 :: x1 :: x2 :: x3 :: x4 :: x5 :: x6 :: x7 :: x8 :: x9 :: x10 :: x11 :: x12 :: some v :: σ) H Q := ⟨v, rfl, h⟩
theorem s_g13 {x0 x1 x2 x3 x4 x5 x6 x7 x8 x9 x10 x11 x12 : Option V} {y : Option V} {v : V} {σ : St} {N : St → Hp → Prop} (h : N (x0 :: x1 :: x2 :: x3 :: x4 :: x5 :: x6 :: x7 :: x8 :: x9 :: x10 :: x11 :: x12 :: some v :: σ) H) : gName 13 v (x0 :: x1 :: x2 :: x3 :: x4 :: x5 :: x6 :: x7 :: x8 :: x9 :: x10 :: x11 :: x12 :: y :: σ) H N := h
theorem s_v14 {x0 x1 x2 x3 x4 x5 x6 x7 x8 x9 x10 x11 x12 x13 : Option V} {v : V} {σ : St} (h : Q v H) : tVar 14 (x0 :: x1 :: x2 :: x3 :: x4 :: x5 :: x6 :: x7 :: x8 :: x9 :: x10 :: x11 :: x12 :: x13 :: some v :: σ) H Q := ⟨v, rfl, h⟩
theorem s_g14 {x0 x1 x2 x3 x4 x5 x6 x7 x8 x9 x10 x11 x12 x13 : Option V} {y : Option V} {v : V} {σ : St} {N : St → Hp → Prop} (h : N (x0 :: x1 :: x2 :: x3 :: x4 :: x5 :: x6 :: x7 :: x8 :: x9 :: x10 :: x11 :: x12 :: x13 :: some v :: σ) H) : gName 14 v (x0 :: x1 :: x2 :: x3 :: x4 :: x5 :: x6 :: x7 :: x8 :: x9 :: x10 :: x11 :: x12 :: x13 :: y :: σ) H N := h
theorem s_v15 {x0 x1 x2 x3 x4 x5 x6 x7 x8 x9 x10 x11 x12 x13 x14 : Option V} {v : V} {σ : St} (h : Q v H) : tVar 15 (x0 :: x1 :: x2 :: x3 :: x4 :: x5 :: x6 :: x7 :: x8 :: x9 :: x10 :: x11 :: x12 :: x13 :: x14 :: some v :: σ) H Q := ⟨v, rfl, h⟩
theorem s_g15 {x0 x1 x2 x3 x4 x5 x6 x7 x8 x9 x10 x11 x12 x13 x14 : Option V} {y : Option V} {v : V} {σ : St} {N : St → Hp → Prop} (h : N (x0 :: x1 :: x2 :: x3 :: x4 :: x5 :: x6 :: x7 :: x8 :: x9 :: x10 :: x11 :: x12 :: x13 :: x14 :: some v :: σ) H) : gName 15 v (x0 :: x1 :: x2 :: x3 :: x4 :: x5 :: x6 :: x7 :: x8 :: x9 :: x10 :: x11 :: x12 :: x13 :: x14 :: y :: σ) H N := h
theorem s_v16 {x0 x1 x2 x3 x4 x5 x6 x7 x8 x9 x10 x11 x12 x13 x14 x15 : Option V} {v : V} {σ : St} (h : Q v H) : tVar 16 (x0 :: x1 :: x2 :: x3 :: x4 :: x5 :: x6 :: x7 :: x8 :: x9 :: x10 :: x11 :: x12 :: x13 :: x14 :: x15 :: some v :: σ) H Q := ⟨v, rfl, h⟩
theorem s_g16 {x0 x1 x2 x3 x4 x5 x6 x7 x8 x9 x10 x11 x12 x13 x14 x15 : Option V} {y : Option V} {v : V} {σ : St} {N : St → Hp → Prop} (h : N (x0 :: x1 :: x2 :: x3 :: x4 :: x5 :: x6 :: x7 :: x8 :: x9 :: x10 :: x11 :: x12 :: x13 :: x14 :: x15 :: some v :: σ) H) : gName 16 v (x0 :: x1 :: x2 :: x3 :: x4 :: x5 :: x6 :: x7 :: x8 :: x9 :: x10 :: x11 :: x12 :: x13 :: x14 :: x15 :: y :: σ) H N := h
theorem s_v17 {x0 x1 x2 x3 x4 x5 x6 x7 x8 x9 x10 x11 x12 x13 x14 x15 x16 : Option V} {v : V} {σ : St} (h : Q v H) : tVar 17 (x0 :: x1 :: x2 :: x3 :: x4 :: x5 :: x6 :: x7 :: x8 :: x9 :: x10 :: x11 :: x12 :: x13 :: x14 :: x15 :: x16 :: some v :: σ) H Q := ⟨v, rfl, h⟩
theorem s_g17 {x0 x1 x2 x3 x4 x5 x6 x7 x8 x9 x10 x11 x12 x13 x14 x15 x16 : Option V} {y : Option V} {v : V} {σ : St} {N : St → Hp → Prop} (h : N (x0 :: x1 :: x2 :: x3 :: x4 :: x5 :: x6 :: x7 :: x8 :: x9 :: x10 :: x11 :: x12 :: x13 :: x14 :: x15 :: x16 :: some v :: σ) H) : gName 17 v (x0 :: x1 :: x2 :: x3 :: x4 :: x5 :: x6 :: x7 :: x8 :: x9 :: x10 :: x11 :: x12 :: x13 :: x14 :: x15 :: x16 :: y :: σ) H N := h
theorem s_c {v : V} (h : Q v H) : tC v σ H Q := h
theorem s_op {r : R2} {ta tb : TE} (h : ta σ H fun x H1 => tb σ H1 fun y H2 => r x y H2 Q) : tOp r ta tb σ H Q := h
theorem s_un {r : V → Hp → VK → Prop} {ta : TE} (h : ta σ H fun x H1 => r x H1 Q) : tUn r ta σ H Q := h
def NewT (xs : List V) (H : Hp) (Q : VK) : Prop := xs.length ≤ sizeLine ∧ ∀ p, H p = none → Q (.ref p) (upd H p (.tup xs))
def NewL (xs : List V) (H : Hp) (Q : VK) : Prop := xs.length ≤ sizeLine ∧ ∀ p, H p = none → Q (.ref p) (upd H p (.lst xs))
theorem s_tup {ta : TA} (h : ta σ H fun xs H1 => NewT xs H1 Q) : tTup ta σ H Q := h
theorem s_lst {ta : TA} (h : ta σ H fun xs H1 => NewL xs H1 Q) : tLst ta σ H Q := h
theorem s_newT {xs : List V} (z : xs.length ≤ sizeLine) (h : ∀ p, H p = none → Q (.ref p) (upd H p (.tup xs))) : NewT xs H Q := ⟨z, h⟩
theorem s_newL {xs : List V} (z : xs.length ≤ sizeLine) (h : ∀ p, H p = none → Q (.ref p) (upd H p (.lst xs))) : NewL xs H Q := ⟨z, h⟩
theorem size_le {xs : List V} (h : xs.length ≤ 1000) : xs.length ≤ sizeLine := Nat.le_of_lt (L2.small1000 h)
theorem size_le2 {n : Nat} (h : n ≤ 1000) : n ≤ sizeLine := Nat.le_of_lt (L2.small1000 h)
-- for
def ForR (J : It) (g : TG) (tb : TS) (D : Ends) (σ : St) (H1 : Hp) : Prop := ∃ W : Nat → Nat → St → Hp → Prop, (∃ m, W 0 m σ H1) ∧ ∀ i m σ H, W i m σ H →
  (J.stop i H ∧ D.nx σ H) ∨ (J.go i H ∧ ∃ N : St → Hp → Prop, (∀ σ' H', N σ' H' → ∃ m', m' < m ∧ W (i + 1) m' σ' H') ∧ ∀ x H', J.yld i H x H' → g x σ H' fun σ2 H2 => tb { D with nx := N, ct := N, bk := D.nx } σ2 H2)
theorem s_for {wi : TI} {g : TG} {tb : TS} (h : wi σ H fun J H1 => ForR J g tb D σ H1) : tFor wi g tb D σ H := h
theorem s_iList {tl : TE} {R : It → Hp → Prop} (h : tl σ H fun x H1 => ∃ a, x = .ref a ∧ (∃ xs, SqL K H1 a xs) ∧ R (Itl K a) H1) : iList K tl σ H R := h
theorem s_iTup {tl : TE} {R : It → Hp → Prop} (h : tl σ H fun x H1 => ∃ a, x = .ref a ∧ (∃ xs, SqT K H1 a xs) ∧ R (Itt K a) H1) : iTup K tl σ H R := h
theorem s_isL {p : Addr} {xs : List V} {N : Addr → Prop} (hs : SqL K H p xs) (h : N p) : ∃ a, V.ref p = V.ref a ∧ (∃ xs, SqL K H a xs) ∧ N a := ⟨p, rfl, ⟨xs, hs⟩, h⟩
theorem s_rng1 {ta : TA} {R : It → Hp → Prop} (h : ta σ H fun vs H1 => ∃ j : Int, vs = [.int j] ∧ -(2 ^ 62) ≤ j ∧ j < 2 ^ 62 ∧ R (Itr 0 j.toNat) H1) : iRng1 ta σ H R := h
theorem s_isR1 {i : Int} {N : Int → Prop} (l1 : -(2 ^ 62) ≤ i) (l2 : i < 2 ^ 62) (h : N i) : ∃ j : Int, [V.int i] = [V.int j] ∧ -(2 ^ 62) ≤ j ∧ j < 2 ^ 62 ∧ N j := ⟨i, rfl, l1, l2, h⟩
theorem f_list {a : Addr} {xs : List V} {g : TG} {tb : TS} (Pv : Nat → St → Hp → Prop) (h0 : Pv 0 σ H) (hl : ∀ i σ H, i ≤ xs.length → Pv i σ H → SqL K H a xs)
    (hs : ∀ i x σ H, xs[i]? = some x → Pv i σ H → g x σ H fun σ2 H2 => tb { D with nx := Pv (i + 1), ct := Pv (i + 1), bk := D.nx } σ2 H2) (hd : ∀ σ H, Pv xs.length σ H → D.nx σ H) : ForR (Itl K a) g tb D σ H := for_list Pv h0 hl hs hd
theorem f_range {lo : Int} {n : Nat} {g : TG} {tb : TS} (Pv : Nat → St → Hp → Prop) (h0 : Pv 0 σ H)
    (hs : ∀ i σ H, i < n → Pv i σ H → g (.int (lo + i)) σ H fun σ2 H2 => tb { D with nx := Pv (i + 1), ct := Pv (i + 1), bk := D.nx } σ2 H2) (hd : ∀ σ H, Pv n σ H → D.nx σ H) : ForR (Itr lo n) g tb D σ H := for_range Pv h0 hs hd
/-- a walk over a list that changes no heap; the slots i, j are the body's -/
theorem f_all2 {a : Addr} {xs : List V} {g : TG} {tb : TS} (Φ : Hp → V → Prop) (i j : Nat) (hs : SqL K H a xs) (hx : ∀ x, x ∈ xs → Φ H x) (hi : ∃ y z, (σ.set i y).set j z = σ)
    (turn : ∀ x y z, Φ H x → g x ((σ.set i y).set j z) H fun σ2 H2 => tb { D with nx := fun σ' H' => (∃ y z, σ' = (σ.set i y).set j z) ∧ H' = H, ct := fun σ' H' => (∃ y z, σ' = (σ.set i y).set j z) ∧ H' = H, bk := D.nx } σ2 H2)
    (fin : ∀ y z, D.nx ((σ.set i y).set j z) H) : ForR (Itl K a) g tb D σ H := by
  refine f_list (xs := xs) (fun _ σ' H' => (∃ y z, σ' = (σ.set i y).set j z) ∧ H' = H) ⟨?_, rfl⟩ ?_ ?_ ?_
  · obtain ⟨y, z, e⟩ := hi
    exact ⟨y, z, e.symm⟩
  · rintro _ _ _ _ ⟨_, rfl⟩
    exact hs
  · rintro n x σ' H' e ⟨⟨y, z, rfl⟩, rfl⟩
    exact turn x y z (hx x (List.mem_of_getElem? e))
  · rintro σ' H' ⟨⟨y, z, rfl⟩, rfl⟩
    exact fin y z
/-- the slots js hold what f tells -/
def sets (σ : St) (js : List Nat) (f : Nat → Option V) : St := js.foldl (fun s j => s.set j (f j)) σ
def Upd (js : List Nat) (σ σ' : St) : Prop := ∃ f, σ' = sets σ js f
theorem i_of {σ' : St} {js : List Nat} (h : σ' = sets σ js (fun j => (σ'[j]?).join)) : Upd js σ σ' := ⟨_, h⟩
/-- a walk over a list: the slots js are the body's, R holds of the heap -/
theorem f_each {a : Addr} {xs : List V} {g : TG} {tb : TS} (js : List Nat) (R : Nat → Hp → Prop) (r0 : R 0 H) (h0 : σ = sets σ js (fun j => (σ[j]?).join)) (hs : ∀ n H', R n H' → SqL K H' a xs)
    (turn : ∀ n x f H1, xs[n]? = some x → R n H1 → g x (sets σ js f) H1 fun σ2 H2 => tb { D with nx := fun σ' H' => Upd js σ σ' ∧ R (n + 1) H', ct := fun σ' H' => Upd js σ σ' ∧ R (n + 1) H', bk := D.nx } σ2 H2)
    (fin : ∀ f H1, R xs.length H1 → D.nx (sets σ js f) H1) : ForR (Itl K a) g tb D σ H := by
  refine f_list (xs := xs) (fun n σ' H' => Upd js σ σ' ∧ R n H') ⟨i_of h0, r0⟩ ?_ ?_ ?_
  · rintro n _ H' _ ⟨_, r⟩
    exact hs n H' r
  · rintro n x σ' H' e ⟨⟨f, rfl⟩, r⟩
    exact turn n x f H' e r
  · rintro σ' H' ⟨⟨f, rfl⟩, r⟩
    exact fin f H' r
/-- the same where the turn lays new things alone -/
theorem f_eachS {a : Addr} {xs : List V} {g : TG} {tb : TS} (Φ : Hp → V → Prop) (js : List Nat) (hs : SqL K H a xs) (h0 : σ = sets σ js (fun j => (σ[j]?).join)) (hx : ∀ x, x ∈ xs → Φ H x)
    (turn : ∀ x f H1, Same H H1 → Φ H x → g x (sets σ js f) H1 fun σ2 H2 => tb { D with nx := fun σ' H' => Upd js σ σ' ∧ Same H H', ct := fun σ' H' => Upd js σ σ' ∧ Same H H', bk := D.nx } σ2 H2)
    (fin : ∀ f H1, Same H H1 → D.nx (sets σ js f) H1) : ForR (Itl K a) g tb D σ H :=
  f_each (xs := xs) js (fun _ H' => Same H H') (Same.refl H) h0 (fun _ _ r => r.seq hs) (fun _ x f H1 e r => turn x f H1 r (hx x (List.mem_of_getElem? e))) fin
theorem r_each {lo : Int} {m : Nat} {g : TG} {tb : TS} (js : List Nat) (R : Nat → Hp → Prop) (r0 : R 0 H) (h0 : σ = sets σ js (fun j => (σ[j]?).join))
    (turn : ∀ n f H1, n < m → R n H1 → g (.int (lo + n)) (sets σ js f) H1 fun σ2 H2 => tb { D with nx := fun σ' H' => Upd js σ σ' ∧ R (n + 1) H', ct := fun σ' H' => Upd js σ σ' ∧ R (n + 1) H', bk := D.nx } σ2 H2)
    (fin : ∀ f H1, R m H1 → D.nx (sets σ js f) H1) : ForR (Itr lo m) g tb D σ H := by
  refine f_range (fun n σ' H' => Upd js σ σ' ∧ R n H') ⟨i_of h0, r0⟩ ?_ ?_
  · rintro n σ' H' e ⟨⟨f, rfl⟩, r⟩
    exact turn n f H' e r
  · rintro σ' H' ⟨⟨f, rfl⟩, r⟩
    exact fin f H' r
theorem s_ixR0 {a : Addr} {v0 : V} {vs : List V} (hs : H a = some (.tup (v0 :: vs))) (h : Q v0 H) : rIx K (.ref a) (.int 0) H Q := .inr (.inl ⟨a, _, 0, _, rfl, rfl, SqT.of hs, atI_nat (j := 0) rfl, h⟩)
theorem s_ixR1 {a : Addr} {v0 v1 : V} {vs : List V} (hs : H a = some (.tup (v0 :: v1 :: vs))) (h : Q v1 H) : rIx K (.ref a) (.int 1) H Q := .inr (.inl ⟨a, _, 1, _, rfl, rfl, SqT.of hs, atI_nat (j := 1) rfl, h⟩)
theorem s_ixR2 {a : Addr} {v0 v1 v2 : V} {vs : List V} (hs : H a = some (.tup (v0 :: v1 :: v2 :: vs))) (h : Q v2 H) : rIx K (.ref a) (.int 2) H Q := .inr (.inl ⟨a, _, 2, _, rfl, rfl, SqT.of hs, atI_nat (j := 2) rfl, h⟩)
theorem s_ixR3 {a : Addr} {v0 v1 v2 v3 : V} {vs : List V} (hs : H a = some (.tup (v0 :: v1 :: v2 :: v3 :: vs))) (h : Q v3 H) : rIx K (.ref a) (.int 3) H Q := .inr (.inl ⟨a, _, 3, _, rfl, rfl, SqT.of hs, atI_nat (j := 3) rfl, h⟩)
theorem s_addT {x y : V} {ds es : List PyData} (hx : Dt K H x (.tuple ds)) (hy : Dt K H y (.tuple es)) (n1 : ds ≠ []) (n2 : es ≠ []) (l : ds.length + es.length ≤ 1000) (h : ∀ v H', Same H H' → Dt K H' v (.tuple (ds ++ es)) → Q v H') : rAddU K x y H Q := by
  obtain ⟨a, xs, rfl, hs, ha⟩ := hx.tup_inv
  obtain ⟨b, ys, rfl, ht, hb⟩ := hy.tup_inv
  have e1 := ha.len
  have e2 := hb.len
  refine .inr (.inr (.inr ⟨a, b, xs, ys, rfl, rfl, hs, ht, fun z => n1 ?_, Nat.le_of_lt (L2.small1000 (by omega)), fun z => absurd ?_ n2, fun _ p hp => h _ _ (same_new hp) (dt_new (ha.append hb) hp)⟩))
  · subst z; exact List.length_eq_zero_iff.mp e1.symm
  · subst z; exact List.length_eq_zero_iff.mp e2.symm
theorem s_addT1 {x y : V} {d : PyData} {es : List PyData} (hx : Dt K H x (.tuple [d])) (hy : Dt K H y (.tuple es)) (n2 : es ≠ []) (l : 1 + es.length ≤ 1000) (h : ∀ v H', Same H H' → Dt K H' v (.tuple (d :: es)) → Q v H') : rAddU K x y H Q := s_addT hx hy (List.cons_ne_nil _ _) n2 l h
/-- a list of data -/
theorem s_addL {a b : Addr} {xs ys : List V} (hx : H a = some (.lst xs)) (hy : H b = some (.lst ys)) (z : xs.length + ys.length ≤ sizeLine) (h : ∀ p, H p = none → Q (.ref p) (upd H p (.lst (xs ++ ys)))) : rAddU K (.ref a) (.ref b) H Q :=
  .inr (.inr (.inl ⟨a, b, xs, ys, rfl, rfl, hx, hy, z, h⟩))
def RevQ (K : PySem.W.Frag) (x : V) (H : Hp) (Q : VK) : Prop := ∃ p xs, x = .ref p ∧ SqL K H p xs ∧ ∀ l, H l = none → Q (.ref l) (upd H l (.lst xs.reverse))
theorem s_revL {te : TE} (h : te σ H fun x H1 => RevQ K x H1 Q) : tRevL K te σ H Q := h
theorem s_isRev {p : Addr} {xs : List V} (hs : SqL K H p xs) (h : ∀ l, H l = none → Q (.ref l) (upd H l (.lst xs.reverse))) : RevQ K (.ref p) H Q := ⟨p, xs, rfl, hs, h⟩
/-- two lists of the same fractions -/
def lay : PyData → Bool := fun d => d.canLay0 && decide (d.depth ≤ 64)
theorem frs_lay : ∀ rs : List Rat, PyData.canLayAll0 (rs.map fr) = true
  | [] => by simp [PyData.canLayAll0]
  | r :: rs => by rw [List.map_cons, PyData.canLayAll0, frs_lay rs]; rfl
theorem frs_depth : ∀ rs : List Rat, PyData.depthAll (rs.map fr) ≤ 2
  | [] => by simp [PyData.depthAll]
  | r :: rs => by
    have h := frs_depth rs
    have h1 : (fr r).depth ≤ 2 := by show PyData.depth (.tuple [.int r.num, .int r.den]) ≤ 2; simp [PyData.depth, PyData.depthAll]
    simp only [List.map_cons, PyData.depthAll]
    omega
theorem sh_frs (rs : List Rat) : SeqAt.shaped (.list (rs.map fr)) = true := by
  have h1 := frs_lay rs
  have h2 := frs_depth rs
  unfold SeqAt.shaped
  rw [Bool.and_eq_true]
  refine ⟨by rw [PyData.canLay0]; exact h1, decide_eq_true (by simp only [PyData.depth]; omega)⟩
theorem s_eqLF {a b : Addr} {vs ws : List V} {rs : List Rat} (ha : SqL K H a vs) (hb : SqL K H b ws) (da : DtAll K H vs (rs.map fr)) (db : DtAll K H ws (rs.map fr)) (h : Q (.bl true) H) : rEqD K (.ref a) (.ref b) H Q :=
  ⟨_, _, .lst ha da.dp, .lst hb db.dp, sh_frs rs, sh_frs rs, by rw [SeqAt.eqv_refl _ (SeqAt.canLay_of_shaped (sh_frs rs))]; exact h⟩
theorem DtAll.rev {vs : List V} {ds : List PyData} (h : DtAll K H vs ds) : DtAll K H vs.reverse ds.reverse := by
  induction ds generalizing vs with
  | nil => cases h; exact .nil
  | cons d ds ih => cases h with | cons h a => rw [List.reverse_cons, List.reverse_cons]; exact (ih a).append (.cons h .nil)
-- slices
theorem s_sl {r : V → Option Int → Option Int → Hp → VK → Prop} {te : TE} {tl th : TO} (h : te σ H fun x H1 => tl σ H1 fun l H2 => th σ H2 fun u H3 => r x l u H3 Q) : tSl r te tl th σ H Q := h
theorem s_noPart {N : Option Int → Hp → Prop} (h : N none H) : tNoPart σ H N := h
theorem s_part {t : TE} {N : Option Int → Hp → Prop} (h : t σ H fun x H1 => ∃ i, x = .int i ∧ N (some i) H1) : tPart t σ H N := h
theorem s_isI {i : Int} {N : Int → Prop} (h : N i) : ∃ j, V.int i = V.int j ∧ N j := ⟨i, rfl, h⟩
theorem s_slL {a : Addr} {xs : List V} {lo hi : Option Int} (hs : SqL K H a xs) (h : ∀ p, H p = none → Q (.ref p) (upd H p (.lst (cutV xs lo hi)))) : rSlU K (.ref a) lo hi H Q := .inl ⟨a, xs, rfl, hs, h⟩
theorem cut_ints (ns : List Int) (lo hi : Option Int) : ∃ ms : List Int, cutV (ns.map V.int) lo hi = ms.map V.int :=
  ⟨(ns.drop (HT.sIx (ns.map V.int).length 0 lo)).take (HT.sIx (ns.map V.int).length (ns.map V.int).length hi - HT.sIx (ns.map V.int).length 0 lo), by unfold cutV; rw [List.map_take, List.map_drop]⟩
theorem s_listL {a : Addr} {xs : List V} (hs : SqL K H a xs) (h : ∀ p, H p = none → Q (.ref p) (upd H p (.lst xs))) : rListU K [.ref a] H Q := ⟨a, xs, rfl, .inl hs, h⟩
/-- some item of a list -/
theorem s_menu {a : Addr} {xs : List V} {i : Int} (hs : SqL K H a xs) (h0 : 0 ≤ i) (h1 : i < xs.length) (h : ∀ v, v ∈ xs → Q v H) : rIx K (.ref a) (.int i) H Q := by
  obtain ⟨j, rfl⟩ : ∃ j : Nat, i = (j : Int) := ⟨i.toNat, by omega⟩
  have hj : j < xs.length := by omega
  exact .inl ⟨a, xs, _, xs[j], rfl, rfl, hs, atI_nat (List.getElem?_eq_getElem hj), h _ (List.getElem_mem hj)⟩
theorem s_menuP {a : Addr} {xs : List V} {i : Int} (Φ : Hp → V → Prop) (hs : SqL K H a xs) (h0 : 0 ≤ i) (h1 : i < xs.length) (hx : ∀ v, v ∈ xs → Φ H v) (h : ∀ v, Φ H v → Q v H) : rIx K (.ref a) (.int i) H Q :=
  s_menu hs h0 h1 fun v hv => h v (hx v hv)
theorem s_menuI {a : Addr} {xs : List V} {i : Int} (lo hi : Int) (hs : SqL K H a xs) (h0 : 0 ≤ i) (h1 : i < xs.length) (hx : ∀ v, v ∈ xs → ∃ z, v = .int z ∧ lo ≤ z ∧ z ≤ hi) (h : ∀ z, lo ≤ z → z ≤ hi → Q (.int z) H) : rIx K (.ref a) (.int i) H Q :=
  s_menu hs h0 h1 fun v hv => by
    obtain ⟨z, rfl, a, b⟩ := hx v hv
    exact h z a b
theorem s_app {to : TE} {t : TA} {r : V → List V → Hp → VK → Prop} {T : String} (h : to σ H fun x H1 => tyV K T x H1 ∧ t σ H1 fun xs H2 => r x xs H2 Q) : tBM K T r to t σ H Q := h
theorem s_tyL {a : Addr} {xs : List V} {N : Prop} (hs : SqL K H a xs) (h : N) : tyV K "list" (.ref a) H ∧ N := ⟨.inl ⟨rfl, xs, hs⟩, h⟩
theorem s_append {a : Addr} {xs : List V} {y : V} (hs : H a = some (.lst xs)) (z : xs.length < sizeLine) (h : Q .non (upd H a (.lst (xs ++ [y])))) : rAppend (.ref a) [y] H Q := ⟨a, xs, y, rfl, rfl, hs, z, h⟩
theorem s_nil {N : List V → Hp → Prop} (h : N [] H) : tNil σ H N := h
theorem s_cons {ta : TE} {tr : TA} {N : List V → Hp → Prop} (h : ta σ H fun x H1 => tr σ H1 fun xs H2 => N (x :: xs) H2) : tCons ta tr σ H N := h
theorem s_cb {r : List V → Hp → VK → Prop} {t : TA} (h : t σ H fun vs H1 => r vs H1 Q) : tCB r t σ H Q := h
theorem s_call {sp : Sp} {dvs : List V} {E : XK} {t : TA} (h : t σ H fun vs H1 => sp (vs ++ dvs) H1 Q E) : tCall sp dvs E t σ H Q := h
theorem s_test {t : TE} {N : Bool → Hp → Prop} (h : t σ H fun x H' => ∃ k, x = .bl k ∧ N k H') : tTest t σ H N := h
theorem s_B {t : TE} {N : Bool → Hp → Prop} (h : t σ H fun x H' => ∃ k, x = .bl k ∧ N k H') : tB t σ H N := h
theorem s_tru {t : TE} {N : Bool → Hp → Prop} (h : t σ H fun x H' => ∃ k, TruV K x H' k ∧ N k H') : tTruU K t σ H N := h
theorem s_isB {k : Bool} {N : Bool → Prop} (h : N k) : ∃ k', V.bl k = V.bl k' ∧ N k' := ⟨k, rfl, h⟩
theorem s_truI {i : Int} {N : Bool → Prop} (h : N (i != 0)) : ∃ k, TruV K (.int i) H k ∧ N k := ⟨_, rfl, h⟩
theorem s_truB {b : Bool} {N : Bool → Prop} (h : N b) : ∃ k, TruV K (.bl b) H k ∧ N k := ⟨_, rfl, h⟩
theorem s_and {t u : TT} {N : Bool → Hp → Prop} (h : t σ H fun c H1 => if c = true then u σ H1 N else N false H1) : tAnd t u σ H N := h
theorem s_or {t u : TT} {N : Bool → Hp → Prop} (h : t σ H fun c H1 => if c = true then N true H1 else u σ H1 N) : tOr t u σ H N := h
theorem s_not {t : TT} {N : Bool → Hp → Prop} (h : t σ H fun c H1 => N (!c) H1) : tNot t σ H N := h
theorem s_andV {ta tb : TE} (h : ta σ H fun x H1 => ∃ c, x = .bl c ∧ if c = true then tb σ H1 Q else Q (.bl false) H1) : tAndV ta tb σ H Q := h
theorem s_orV {ta tb : TE} (h : ta σ H fun x H1 => ∃ c, x = .bl c ∧ if c = true then Q (.bl true) H1 else tb σ H1 Q) : tOrV ta tb σ H Q := h
theorem s_notV {ta : TE} (h : ta σ H fun x H1 => ∃ c, x = .bl c ∧ Q (.bl (!c)) H1) : tNotV ta σ H Q := h
theorem s_chain {r r' : R2} {ta tb tc : TE} (h : ta σ H fun x H1 => tb σ H1 fun y H2 => r x y H2 fun z H3 => ∃ k, z = .bl k ∧ if k = true then tc σ H3 fun w H4 => r' y w H4 Q else Q (.bl false) H3) : tChain r r' ta tb tc σ H Q := by
  first
    | exact h
    | (unfold tChain; exact h)
-- by values
theorem s_addI {i j : Int} (h : Q (.int (i + j)) H) : rAddU K (.int i) (.int j) H Q := .inl ⟨i, j, rfl, rfl, h⟩
theorem s_addS {i j : Str} (l : i.length + j.length ≤ sizeLine) (h : Q (.str (i ++ j)) H) : rAddU K (.str i) (.str j) H Q := .inr (.inl ⟨i, j, rfl, rfl, l, h⟩)
theorem s_subI {i j : Int} (h : Q (.int (i - j)) H) : rSubU (.int i) (.int j) H Q := ⟨i, j, rfl, rfl, h⟩
theorem s_mulI {i j : Int} (c : CMulZ i j) (h : Q (.int (i * j)) H) : rMulU (.int i) (.int j) H Q := .inl ⟨i, j, rfl, rfl, c, h⟩
theorem s_divI {i j : Int} (c : CDivZ i j) (h : Q (.int (i.fdiv j)) H) : rDivU (.int i) (.int j) H Q := ⟨i, j, rfl, rfl, c, h⟩
theorem s_modI {i j : Int} (c : j ≠ 0) (h : Q (.int (i.fmod j)) H) : rModU (.int i) (.int j) H Q := ⟨i, j, rfl, rfl, c, h⟩
theorem s_powI {i j : Int} (c : CPow i j) (h : Q (.int (i ^ j.toNat)) H) : rPowU (.int i) (.int j) H Q := ⟨i, j, rfl, rfl, c, h⟩
theorem s_pow2 (h : Q (.int 100) H) : rPowU (.int 10) (.int 2) H Q := s_powI ⟨by decide, by decide, by decide⟩ (by exact h)
theorem s_pow3 (h : Q (.int 1000) H) : rPowU (.int 10) (.int 3) H Q := s_powI ⟨by decide, by decide, by decide⟩ (by exact h)
theorem s_pow4 (h : Q (.int 10000) H) : rPowU (.int 10) (.int 4) H Q := s_powI ⟨by decide, by decide, by decide⟩ (by exact h)
theorem s_pow5 (h : Q (.int 100000) H) : rPowU (.int 10) (.int 5) H Q := s_powI ⟨by decide, by decide, by decide⟩ (by exact h)
theorem s_pow6 (h : Q (.int 1000000) H) : rPowU (.int 10) (.int 6) H Q := s_powI ⟨by decide, by decide, by decide⟩ (by exact h)
theorem s_pow7 (h : Q (.int 10000000) H) : rPowU (.int 10) (.int 7) H Q := s_powI ⟨by decide, by decide, by decide⟩ (by exact h)
theorem s_pow8 (h : Q (.int 100000000) H) : rPowU (.int 10) (.int 8) H Q := s_powI ⟨by decide, by decide, by decide⟩ (by exact h)
theorem s_pow9 (h : Q (.int 1000000000) H) : rPowU (.int 10) (.int 9) H Q := s_powI ⟨by decide, by decide, by decide⟩ (by exact h)
theorem s_pow10 (h : Q (.int 10000000000) H) : rPowU (.int 10) (.int 10) H Q := s_powI ⟨by decide, by decide, by decide⟩ (by exact h)
theorem s_pow12 (h : Q (.int 1000000000000) H) : rPowU (.int 10) (.int 12) H Q := s_powI ⟨by decide, by decide, by decide⟩ (by exact h)
theorem s_negI {i : Int} (h : Q (.int (-i)) H) : rNegU (.int i) H Q := ⟨i, rfl, h⟩
theorem s_ltI {i j : Int} (h : Q (.bl (decide (i < j))) H) : rLtI (.int i) (.int j) H Q := ⟨i, j, rfl, rfl, h⟩
theorem s_leI {i j : Int} (h : Q (.bl (decide (i ≤ j))) H) : rLeI (.int i) (.int j) H Q := ⟨i, j, rfl, rfl, h⟩
theorem s_gtI {i j : Int} (h : Q (.bl (decide (j < i))) H) : rGtI (.int i) (.int j) H Q := ⟨i, j, rfl, rfl, h⟩
theorem s_geI {i j : Int} (h : Q (.bl (decide (j ≤ i))) H) : rGeI (.int i) (.int j) H Q := ⟨i, j, rfl, rfl, h⟩
theorem eqvI (i j : Int) : PyData.eqv (.int i) (.int j) = decide (i = j) := by
  simp only [PyData.eqv]
  by_cases h : i = j <;> simp [h]
theorem eqvB (i j : Bool) : PyData.eqv (.bool i) (.bool j) = decide (i = j) := by
  cases i <;> cases j <;> (simp only [PyData.eqv]; rfl)
theorem shI (i : Int) : SeqAt.shaped (.int i) = true := rfl
theorem shB (i : Bool) : SeqAt.shaped (.bool i) = true := rfl
theorem s_eqI {i j : Int} (h : Q (.bl (decide (i = j))) H) : rEqD K (.int i) (.int j) H Q := ⟨_, _, .int i, .int j, shI i, shI j, by rw [eqvI]; exact h⟩
theorem s_neI {i j : Int} (h : Q (.bl (!decide (i = j))) H) : rNeD K (.int i) (.int j) H Q := ⟨_, _, .int i, .int j, shI i, shI j, by rw [eqvI]; exact h⟩
theorem s_eqB {i j : Bool} (h : Q (.bl (decide (i = j))) H) : rEqD K (.bl i) (.bl j) H Q := ⟨_, _, .bl i, .bl j, shB i, shB j, by rw [eqvB]; exact h⟩
theorem s_neB {i j : Bool} (h : Q (.bl (!decide (i = j))) H) : rNeD K (.bl i) (.bl j) H Q := ⟨_, _, .bl i, .bl j, shB i, shB j, by rw [eqvB]; exact h⟩
/-- two data -/
theorem s_eqD {x y : V} {d e : PyData} (hx : Dt K H x d) (hy : Dt K H y e) (sd : SeqAt.shaped d = true) (se : SeqAt.shaped e = true) (h : Q (.bl (PyData.eqv d e)) H) : rEqD K x y H Q := ⟨d, e, hx.dp, hy.dp, sd, se, h⟩
theorem s_neD {x y : V} {d e : PyData} (hx : Dt K H x d) (hy : Dt K H y e) (sd : SeqAt.shaped d = true) (se : SeqAt.shaped e = true) (h : Q (.bl (!PyData.eqv d e)) H) : rNeD K x y H Q := ⟨d, e, hx.dp, hy.dp, sd, se, h⟩
theorem shfr (r : Rat) : SeqAt.shaped (fr r) = true := rfl
theorem eqvfr (r s : Rat) : PyData.eqv (fr r) (fr s) = decide (r = s) := by
  have e : PyData.eqv (fr r) (fr s) = ((r.num == s.num) && (((r.den : Int) == (s.den : Int)) && true)) := by simp only [fr, PyData.eqv, PyData.eqvAll]
  rw [e]
  by_cases h : r = s
  · subst h; simp
  · have : ¬ (r.num = s.num ∧ (r.den : Int) = s.den) := fun ⟨a, b⟩ => h (Rat.ext a (by omega))
    rw [decide_eq_false h]
    by_cases h1 : r.num = s.num
    · have h2 : ¬ (r.den : Int) = s.den := fun z => this ⟨h1, z⟩
      rw [beq_eq_false_iff_ne.mpr h2]; simp
    · rw [beq_eq_false_iff_ne.mpr h1]; simp
theorem s_eqF {x y : V} {d e : Rat} (hx : Dt K H x (fr d)) (hy : Dt K H y (fr e)) (h : Q (.bl (decide (d = e))) H) : rEqD K x y H Q := ⟨_, _, hx.dp, hy.dp, shfr _, shfr _, by rw [eqvfr]; exact h⟩
theorem s_neF {x y : V} {d e : Rat} (hx : Dt K H x (fr d)) (hy : Dt K H y (fr e)) (h : Q (.bl (!decide (d = e))) H) : rNeD K x y H Q := ⟨_, _, hx.dp, hy.dp, shfr _, shfr _, by rw [eqvfr]; exact h⟩
theorem s_eqFF {x y : V} {d : Rat} (hx : Dt K H x (fr d)) (hy : Dt K H y (fr d)) (h : Q (.bl true) H) : rEqD K x y H Q := s_eqF hx hy (by rw [decide_eq_true rfl]; exact h)
theorem s_neFF {x y : V} {d : Rat} (hx : Dt K H x (fr d)) (hy : Dt K H y (fr d)) (h : Q (.bl false) H) : rNeD K x y H Q := s_neF hx hy (by rw [decide_eq_true rfl]; exact h)
theorem sh2 (a b : Rat) : SeqAt.shaped (.tuple [fr a, fr b]) = true := rfl
theorem s_eqD2 {x y : V} {a b : Rat} (hx : Dt K H x (.tuple [fr a, fr b])) (hy : Dt K H y (.tuple [fr a, fr b])) (h : Q (.bl true) H) : rEqD K x y H Q := s_eqD hx hy (sh2 a b) (sh2 a b) (by rw [SeqAt.eqv_refl _ (SeqAt.canLay_of_shaped (sh2 a b))]; exact h)
theorem s_neD2 {x y : V} {a b : Rat} (hx : Dt K H x (.tuple [fr a, fr b])) (hy : Dt K H y (.tuple [fr a, fr b])) (h : Q (.bl false) H) : rNeD K x y H Q := s_neD hx hy (sh2 a b) (sh2 a b) (by rw [SeqAt.eqv_refl _ (SeqAt.canLay_of_shaped (sh2 a b))]; exact h)
-- subscripts
theorem atI_of {α : Type} {xs : List α} {i : Nat} {v : α} (h : xs[i]? = some v) : atI xs (i : Int) = some v := atI_nat h
theorem DtAll.at {vs : List V} {ds : List PyData} (h : DtAll K H vs ds) {i : Int} {d : PyData} (e : atI ds i = some d) : ∃ v, atI vs i = some v ∧ Dt K H v d := by
  unfold atI at e ⊢
  rw [h.len]
  cases q : ixN ds.length i with
  | none => rw [q] at e; cases e
  | some j => rw [q] at e; exact h.get e
theorem s_ixT {x : V} {ds : List PyData} {i : Int} {d : PyData} (hx : Dt K H x (.tuple ds)) (e : atI ds i = some d) (h : ∀ v, Dt K H v d → Q v H) : rIx K x (.int i) H Q := by
  obtain ⟨a, xs, rfl, hs, ha⟩ := hx.tup_inv
  obtain ⟨v, e1, e2⟩ := ha.at e
  exact .inr (.inl ⟨a, xs, i, v, rfl, rfl, hs, e1, h v e2⟩)
theorem s_ixTi {x : V} {ds : List PyData} {i : Int} {z : Int} (hx : Dt K H x (.tuple ds)) (e : atI ds i = some (.int z)) (h : Q (.int z) H) : rIx K x (.int i) H Q :=
  s_ixT hx e fun v hv => by rw [hv.int_eq]; exact h
theorem s_ixTs {x : V} {ds : List PyData} {i : Int} {z : Str} (hx : Dt K H x (.tuple ds)) (e : atI ds i = some (.str z)) (h : Q (.str z) H) : rIx K x (.int i) H Q :=
  s_ixT hx e fun v hv => by rw [hv.str_eq]; exact h
theorem s_ixF0 {x : V} {r : Rat} (hx : Dt K H x (fr r)) (h : Q (.int r.num) H) : rIx K x (.int 0) H Q := s_ixTi (i := 0) hx rfl h
theorem s_ixF1 {x : V} {r : Rat} (hx : Dt K H x (fr r)) (h : Q (.int r.den) H) : rIx K x (.int 1) H Q := s_ixTi (i := 1) hx rfl h
theorem s_ixL {a : Addr} {xs : List V} {i : Int} {v : V} (hs : SqL K H a xs) (e : atI xs i = some v) (h : Q v H) : rIx K (.ref a) (.int i) H Q := .inl ⟨a, xs, i, v, rfl, rfl, hs, e, h⟩
theorem s_ixS {z : Str} {i : Int} {c : Nat} (l : z.length ≤ sizeLine) (e : atI z.cps.toList i = some c) (h : Q (.str ⟨#[c]⟩) H) : rIx K (.str z) (.int i) H Q := .inr (.inr ⟨z, i, c, rfl, rfl, l, e, h⟩)
theorem s_setL {a : Addr} {xs : List V} {i : Int} {j : Nat} {v : V} {N : Hp → Prop} (hs : H a = some (.lst xs)) (e : ixN xs.length i = some j) (h : N (upd H a (.lst (xs.set j v)))) : rSetL (.ref a) (.int i) v H N := ⟨a, xs, i, j, rfl, rfl, hs, e, h⟩
theorem s_ixT0 {x : V} {d0 : PyData} {ds : List PyData} (hx : Dt K H x (.tuple (d0 :: ds))) (h : ∀ v, Dt K H v d0 → Q v H) : rIx K x (.int 0) H Q := s_ixT hx (atI_nat (j := 0) rfl) h
theorem s_ixL0 {a : Addr} {v0 : V} {vs : List V} (hs : SqL K H a (v0 :: vs)) (h : Q v0 H) : rIx K (.ref a) (.int 0) H Q := s_ixL hs (atI_nat (j := 0) rfl) h
theorem s_setL0 {a : Addr} {v0 v : V} {vs : List V} {N : Hp → Prop} (hs : H a = some (.lst (v0 :: vs))) (h : N (upd H a (.lst (v :: vs)))) : rSetL (.ref a) (.int 0) v H N := s_setL (j := 0) hs (by show ixN _ ((0 : Nat) : Int) = some 0; unfold ixN; rw [if_pos (by omega), if_pos (by simp only [List.length_cons]; omega)]; rfl) h
theorem s_ixT1 {x : V} {d0 d1 : PyData} {ds : List PyData} (hx : Dt K H x (.tuple (d0 :: d1 :: ds))) (h : ∀ v, Dt K H v d1 → Q v H) : rIx K x (.int 1) H Q := s_ixT hx (atI_nat (j := 1) rfl) h
theorem s_ixL1 {a : Addr} {v0 v1 : V} {vs : List V} (hs : SqL K H a (v0 :: v1 :: vs)) (h : Q v1 H) : rIx K (.ref a) (.int 1) H Q := s_ixL hs (atI_nat (j := 1) rfl) h
theorem s_setL1 {a : Addr} {v0 v1 v : V} {vs : List V} {N : Hp → Prop} (hs : H a = some (.lst (v0 :: v1 :: vs))) (h : N (upd H a (.lst (v0 :: v :: vs)))) : rSetL (.ref a) (.int 1) v H N := s_setL (j := 1) hs (by show ixN _ ((1 : Nat) : Int) = some 1; unfold ixN; rw [if_pos (by omega), if_pos (by simp only [List.length_cons]; omega)]; rfl) h
theorem s_ixT2 {x : V} {d0 d1 d2 : PyData} {ds : List PyData} (hx : Dt K H x (.tuple (d0 :: d1 :: d2 :: ds))) (h : ∀ v, Dt K H v d2 → Q v H) : rIx K x (.int 2) H Q := s_ixT hx (atI_nat (j := 2) rfl) h
theorem s_ixL2 {a : Addr} {v0 v1 v2 : V} {vs : List V} (hs : SqL K H a (v0 :: v1 :: v2 :: vs)) (h : Q v2 H) : rIx K (.ref a) (.int 2) H Q := s_ixL hs (atI_nat (j := 2) rfl) h
theorem s_setL2 {a : Addr} {v0 v1 v2 v : V} {vs : List V} {N : Hp → Prop} (hs : H a = some (.lst (v0 :: v1 :: v2 :: vs))) (h : N (upd H a (.lst (v0 :: v1 :: v :: vs)))) : rSetL (.ref a) (.int 2) v H N := s_setL (j := 2) hs (by show ixN _ ((2 : Nat) : Int) = some 2; unfold ixN; rw [if_pos (by omega), if_pos (by simp only [List.length_cons]; omega)]; rfl) h
theorem s_ixT3 {x : V} {d0 d1 d2 d3 : PyData} {ds : List PyData} (hx : Dt K H x (.tuple (d0 :: d1 :: d2 :: d3 :: ds))) (h : ∀ v, Dt K H v d3 → Q v H) : rIx K x (.int 3) H Q := s_ixT hx (atI_nat (j := 3) rfl) h
theorem s_ixL3 {a : Addr} {v0 v1 v2 v3 : V} {vs : List V} (hs : SqL K H a (v0 :: v1 :: v2 :: v3 :: vs)) (h : Q v3 H) : rIx K (.ref a) (.int 3) H Q := s_ixL hs (atI_nat (j := 3) rfl) h
theorem s_setL3 {a : Addr} {v0 v1 v2 v3 v : V} {vs : List V} {N : Hp → Prop} (hs : H a = some (.lst (v0 :: v1 :: v2 :: v3 :: vs))) (h : N (upd H a (.lst (v0 :: v1 :: v2 :: v :: vs)))) : rSetL (.ref a) (.int 3) v H N := s_setL (j := 3) hs (by show ixN _ ((3 : Nat) : Int) = some 3; unfold ixN; rw [if_pos (by omega), if_pos (by simp only [List.length_cons]; omega)]; rfl) h
theorem s_ixT4 {x : V} {d0 d1 d2 d3 d4 : PyData} {ds : List PyData} (hx : Dt K H x (.tuple (d0 :: d1 :: d2 :: d3 :: d4 :: ds))) (h : ∀ v, Dt K H v d4 → Q v H) : rIx K x (.int 4) H Q := s_ixT hx (atI_nat (j := 4) rfl) h
theorem s_ixL4 {a : Addr} {v0 v1 v2 v3 v4 : V} {vs : List V} (hs : SqL K H a (v0 :: v1 :: v2 :: v3 :: v4 :: vs)) (h : Q v4 H) : rIx K (.ref a) (.int 4) H Q := s_ixL hs (atI_nat (j := 4) rfl) h
theorem s_setL4 {a : Addr} {v0 v1 v2 v3 v4 v : V} {vs : List V} {N : Hp → Prop} (hs : H a = some (.lst (v0 :: v1 :: v2 :: v3 :: v4 :: vs))) (h : N (upd H a (.lst (v0 :: v1 :: v2 :: v3 :: v :: vs)))) : rSetL (.ref a) (.int 4) v H N := s_setL (j := 4) hs (by show ixN _ ((4 : Nat) : Int) = some 4; unfold ixN; rw [if_pos (by omega), if_pos (by simp only [List.length_cons]; omega)]; rfl) h
theorem s_ixT5 {x : V} {d0 d1 d2 d3 d4 d5 : PyData} {ds : List PyData} (hx : Dt K H x (.tuple (d0 :: d1 :: d2 :: d3 :: d4 :: d5 :: ds))) (h : ∀ v, Dt K H v d5 → Q v H) : rIx K x (.int 5) H Q := s_ixT hx (atI_nat (j := 5) rfl) h
theorem s_ixL5 {a : Addr} {v0 v1 v2 v3 v4 v5 : V} {vs : List V} (hs : SqL K H a (v0 :: v1 :: v2 :: v3 :: v4 :: v5 :: vs)) (h : Q v5 H) : rIx K (.ref a) (.int 5) H Q := s_ixL hs (atI_nat (j := 5) rfl) h
theorem s_setL5 {a : Addr} {v0 v1 v2 v3 v4 v5 v : V} {vs : List V} {N : Hp → Prop} (hs : H a = some (.lst (v0 :: v1 :: v2 :: v3 :: v4 :: v5 :: vs))) (h : N (upd H a (.lst (v0 :: v1 :: v2 :: v3 :: v4 :: v :: vs)))) : rSetL (.ref a) (.int 5) v H N := s_setL (j := 5) hs (by show ixN _ ((5 : Nat) : Int) = some 5; unfold ixN; rw [if_pos (by omega), if_pos (by simp only [List.length_cons]; omega)]; rfl) h
-- calls of built-ins
theorem s_lenL {a : Addr} {xs : List V} (hs : SqL K H a xs) (h : Q (.int xs.length) H) : rLenU K [.ref a] H Q := ⟨.ref a, xs.length, rfl, .inl ⟨xs, hs, rfl⟩, h⟩
theorem s_lenT {x : V} {ds : List PyData} (hx : Dt K H x (.tuple ds)) (h : Q (.int ds.length) H) : rLenU K [x] H Q := by
  obtain ⟨a, xs, rfl, hs, ha⟩ := hx.tup_inv
  exact ⟨.ref a, xs.length, rfl, .inr ⟨xs, hs, rfl⟩, by rw [ha.len]; exact h⟩
theorem size1 {a : V} : [a].length ≤ sizeLine := by show 1 ≤ sizeLine; decide
theorem size2 {a b : V} : [a, b].length ≤ sizeLine := by show 2 ≤ sizeLine; decide
theorem size3 {a b c : V} : [a, b, c].length ≤ sizeLine := by show 3 ≤ sizeLine; decide
theorem size4 {a b c d : V} : [a, b, c, d].length ≤ sizeLine := by show 4 ≤ sizeLine; decide
theorem abs_if (i : Int) : (if i < 0 then -i else i) = (i.natAbs : Int) := by
  by_cases h : i < 0
  · rw [if_pos h]; omega
  · rw [if_neg h]; omega
theorem s_abs {i : Int} (h : Q (.int (i.natAbs : Int)) H) : rAbsU [.int i] H Q := ⟨i, rfl, by rw [abs_if]; exact h⟩
theorem lt_dec (r s : Rat) : decide (r.num * (s.den : Int) < s.num * (r.den : Int)) = decide (r < s) := by
  by_cases h : r < s
  · rw [decide_eq_true h, decide_eq_true ((Rat.lt_iff r s).mp h)]
  · rw [decide_eq_false h, decide_eq_false (fun z => h ((Rat.lt_iff r s).mpr z))]
theorem mz_of {i j : Int} {n m : Nat} (h : i.natAbs < 2 ^ n) (k : j.natAbs < 2 ^ m) (h0 : 0 < n) (k0 : 0 < m) (l : n + m ≤ 1000000) : CMulZ i j := .inr (wide_mul h k h0 k0 l)
theorem mz_nd {r s : Rat} (h : Sz 400000 r) (k : Sz 400000 s) : CMulZ r.num s.den := mz_of h.1 k.dA (by decide) (by decide) (by decide)
theorem mz_nn {r s : Rat} (h : Sz 400000 r) (k : Sz 400000 s) : CMulZ r.num s.num := mz_of h.1 k.1 (by decide) (by decide) (by decide)
theorem mz_dd {r s : Rat} (h : Sz 400000 r) (k : Sz 400000 s) : CMulZ r.den s.den := mz_of h.dA k.dA (by decide) (by decide) (by decide)
theorem mz_dn {r s : Rat} (h : Sz 400000 r) (k : Sz 400000 s) : CMulZ r.den s.num := mz_of h.dA k.1 (by decide) (by decide) (by decide)
theorem cz_l {i j : Int} (h : -18446744073709551616 < i) (k : i < 18446744073709551616) : CMulZ i j := .inl (.inl ⟨h, k⟩)
theorem cz_r {i j : Int} (h : -18446744073709551616 < j) (k : j < 18446744073709551616) : CMulZ i j := .inl (.inr ⟨h, k⟩)
theorem dz_of {i j : Int} {n : Nat} (h : j ≠ 0) (k : j.natAbs < 2 ^ n) (h0 : 0 < n) (l : n ≤ 9000) : CDivZ i j := ⟨h, Nat.lt_of_lt_of_le (PySem.Flt.log2_lt_of h0 k) l⟩
theorem dz_sm {i j : Int} (h : 0 < j) (k : j < 18446744073709551616) : CDivZ i j := dz_of (n := 64) (by omega) (by omega) (by decide) (by decide)
theorem s_max {i j : Int} (h : Q (.int (if j > i then j else i)) H) : rMaxU [.int i, .int j] H Q := ⟨i, j, rfl, h⟩
theorem s_min {i j : Int} (h : Q (.int (if j < i then j else i)) H) : rMinU [.int i, .int j] H Q := ⟨i, j, rfl, h⟩
theorem kit_ii : kitB "int" "int" = some true := by decide +kernel
theorem kit_ib : kitB "int" "bool" = some false := by decide +kernel
theorem kit_bi : kitB "bool" "int" = some true := by decide +kernel
theorem kit_bb : kitB "bool" "bool" = some true := by decide +kernel
theorem kit_tt : kitB "tuple" "tuple" = some true := by decide +kernel
theorem s_isII {i : Int} (h : Q (.bl true) H) : rIsi K [.int i, .ty "int"] H Q := ⟨_, _, _, _, true, rfl, .ty _, .base (.int i), kit_ty kit_ii, h⟩
theorem s_isIB {i : Int} (h : Q (.bl false) H) : rIsi K [.int i, .ty "bool"] H Q := ⟨_, _, _, _, false, rfl, .ty _, .base (.int i), kit_ty kit_ib, h⟩
theorem s_isBI {b : Bool} (h : Q (.bl true) H) : rIsi K [.bl b, .ty "int"] H Q := ⟨_, _, _, _, true, rfl, .ty _, .base (.bl b), kit_ty kit_bi, h⟩
theorem s_isBB {b : Bool} (h : Q (.bl true) H) : rIsi K [.bl b, .ty "bool"] H Q := ⟨_, _, _, _, true, rfl, .ty _, .base (.bl b), kit_ty kit_bb, h⟩
theorem Dt.tyT {x : V} {ds : List PyData} (hx : Dt K H x (.tuple ds)) : TyX K H x (.type "tuple") := by
  obtain ⟨a, xs, rfl, hs, _⟩ := hx.tup_inv
  rcases hs with (h | ⟨o, h⟩) | ⟨o, its, n, h, c, _⟩
  · exact .base (.tup h)
  · exact .fTuple h
  · exact .kTuple h c
theorem s_isTT {x : V} {ds : List PyData} (hx : Dt K H x (.tuple ds)) (h : Q (.bl true) H) : rIsi K [x, .ty "tuple"] H Q := ⟨_, _, _, _, true, rfl, .ty _, hx.tyT, kit_ty kit_tt, h⟩
end
/-! ### the law's bag: [the script's numbers, how many are taken, what is left of a great one, the salt] -/
def Bag (H : Hp) (b l : Addr) : Prop := ∃ (ns : List Int) (p r z : Int), H b = some (.lst [.ref l, .int p, .int r, .int z]) ∧ H l = some (.lst (ns.map V.int)) ∧ 0 ≤ p ∧ -(2 ^ 40) < z ∧ z < 2 ^ 40 ∧ l ≠ b
theorem Bag.same {H H' : Hp} {b l : Addr} (s : Same H H') (h : Bag H b l) : Bag H' b l := by
  obtain ⟨ns, p, r, z, h1, h2, h3⟩ := h
  exact ⟨ns, p, r, z, s _ _ h1, s _ _ h2, h3⟩
theorem Bag.upd {H : Hp} {b l q : Addr} {o : HO} (h : Bag H b l) (n1 : q ≠ b) (n2 : q ≠ l) : Bag (upd H q o) b l := by
  obtain ⟨ns, p, r, z, h1, h2, h3⟩ := h
  exact ⟨ns, p, r, z, (upd_ne n1.symm).trans h1, (upd_ne n2.symm).trans h2, h3⟩
theorem Bag.ne1 {H : Hp} {b l q : Addr} (h : Bag H b l) (n : H q = none) : q ≠ b := fun e => by
  obtain ⟨_, _, _, _, h1, _⟩ := h
  rw [e, h1] at n
  cases n
theorem Bag.ne2 {H : Hp} {b l q : Addr} (h : Bag H b l) (n : H q = none) : q ≠ l := fun e => by
  obtain ⟨_, _, _, _, _, h1, _⟩ := h
  rw [e, h1] at n
  cases n
theorem Bag.ne1' {H : Hp} {b l q : Addr} (n : H q = none) (h : Bag H b l) : q ≠ b := h.ne1 n
theorem Bag.ne2' {H : Hp} {b l q : Addr} (n : H q = none) (h : Bag H b l) : q ≠ l := h.ne2 n
theorem Bag.new {H : Hp} {b l q : Addr} {o : HO} (h : Bag H b l) (n : H q = none) : Bag (L2.upd H q o) b l := h.same (same_new n)
theorem but_of {H H' : Hp} {b l : Addr} (h : Bag H b l) (k : ∀ a o, a ≠ b → H a = some o → H' a = some o) : But b H H' := ⟨k, by obtain ⟨_, _, _, _, h1, _⟩ := h; exact ⟨_, h1⟩⟩
theorem But.same {H H1 H2 : Hp} {b : Addr} (s : But b H H1) (t : Same H1 H2) : But b H H2 := ⟨fun a o n h => t _ _ (s.oth a o n h), s.lst⟩
theorem But.trans {H H1 H2 : Hp} {b : Addr} (s : But b H H1) (t : But b H1 H2) : But b H H2 := ⟨fun a o n h => t.oth a o n (s.oth a o n h), s.lst⟩
theorem But.ofSame {H H1 : Hp} {b l : Addr} (h : Bag H b l) (t : Same H H1) : But b H H1 := but_of h fun a o _ e => t a o e
theorem but_mut {H H1 : Hp} {b q : Addr} {o : HO} (s : But b H H1) (n : H q = none) : But b H (upd H1 q o) := ⟨fun a u k h => by rw [upd_ne (ne_of_none h n)]; exact s.oth a u k h, s.lst⟩
theorem But.free {H H1 : Hp} {b q : Addr} (s : But b H H1) (nb : q ≠ b) (h : H1 q = none) : H q = none := by
  cases e : H q with
  | none => rfl
  | some o => rw [s.oth q o nb e] at h; cases h
/-- a def upon data that lays nothing -/
def spV {α : Type} (K : PySem.W.Frag) (arg : α → List PyData) (pre : α → Prop) (res : α → V) : Sp := fun vs H Q _ => ∃ x : α, DtAll K H vs (arg x) ∧ pre x ∧ Q (res x) H
theorem spV.len {α : Type} {K : PySem.W.Frag} {arg : α → List PyData} {pre : α → Prop} {res : α → V} {n : Nat} (hn : ∀ x, (arg x).length = n) {vs : List V} {H : Hp} {Q : VK} {E : XK} (h : spV K arg pre res vs H Q E) : vs.length = n := by
  obtain ⟨x, h, _⟩ := h
  exact h.len.trans (hn x)
theorem da1 {K : PySem.W.Frag} {H : Hp} {vs : List V} {a : PyData} (h : DtAll K H vs [a]) : ∃ x, vs = [x] ∧ Dt K H x a := by
  cases h with | cons h t => cases t; exact ⟨_, rfl, h⟩
theorem da2 {K : PySem.W.Frag} {H : Hp} {vs : List V} {a b : PyData} (h : DtAll K H vs [a, b]) : ∃ x y, vs = [x, y] ∧ Dt K H x a ∧ Dt K H y b := by
  cases h with | cons h t => obtain ⟨y, rfl, k⟩ := da1 t; exact ⟨_, _, rfl, h, k⟩
theorem da3 {K : PySem.W.Frag} {H : Hp} {vs : List V} {a b c : PyData} (h : DtAll K H vs [a, b, c]) : ∃ x y z, vs = [x, y, z] ∧ Dt K H x a ∧ Dt K H y b ∧ Dt K H z c := by
  cases h with | cons h t => obtain ⟨y, z, rfl, k⟩ := da2 t; exact ⟨_, _, _, rfl, h, k⟩
/-- a draw: args behind the bag, what is asked of them, what comes -/
def spB {α : Type} (K : PySem.W.Frag) (arg : α → List PyData) (pre : α → Prop) (post : α → PyData → Prop) : Sp := fun vs H Q _ => ∃ (b l : Addr) (ws : List V) (x : α), vs = .ref b :: ws ∧ Bag H b l ∧ DtAll K H ws (arg x) ∧ pre x ∧
  ∀ v d H', But b H H' → Bag H' b l → post x d → Dt K H' v d → Q v H'
/-- a def upon data -/
def spP {α : Type} (K : PySem.W.Frag) (arg : α → List PyData) (pre : α → Prop) (res : α → PyData) : Sp := fun vs H Q _ => ∃ x : α, DtAll K H vs (arg x) ∧ pre x ∧ ∀ v H', Same H H' → Dt K H' v (res x) → Q v H'
theorem spB.len {α : Type} {K : PySem.W.Frag} {arg : α → List PyData} {pre : α → Prop} {post : α → PyData → Prop} {n : Nat} (hn : ∀ x, (arg x).length = n) {vs : List V} {H : Hp} {Q : VK} {E : XK} (h : spB K arg pre post vs H Q E) : vs.length = n + 1 := by
  obtain ⟨b, l, ws, x, rfl, _, h, _⟩ := h
  exact congrArg Nat.succ (h.len.trans (hn x))
theorem spP.len {α : Type} {K : PySem.W.Frag} {arg : α → List PyData} {pre : α → Prop} {res : α → PyData} {n : Nat} (hn : ∀ x, (arg x).length = n) {vs : List V} {H : Hp} {Q : VK} {E : XK} (h : spP K arg pre res vs H Q E) : vs.length = n := by
  obtain ⟨x, h, _⟩ := h
  exact h.len.trans (hn x)
end Cr

namespace Cr
open PySem PySem.Spec PyProof.Rows L2
/-! ### own error classes without an __init__ of their own -/
structure ExcT (K : PySem.W.Frag) (mg : Str → Option Value) (x : Str) (C : Addr) (bm : List Value) (new : String) : Prop where
  g : mg x = some (.ref C)
  q : PySem.W.excIn K C bm new = true
  k : PySem.W.keepIn K (.ref C) = true
  s : PySem.W.subIn K (.ref C) (.type "BaseException") = some true
  t : PySem.W.typeIn K (.ref C) = some (.type "type")
  hd : PySem.W.hasDictIn K C = true
  self : PySem.W.subIn K (.ref C) (.ref C) = some true
theorem ExcT.te {K : PySem.W.Frag} {mg : Str → Option Value} {x : Str} {C : Addr} {bm : List Value} {new : String} (T : ExcT K mg x C bm new) : PySem.W.exmOne K (.ref C) (.ref C) = some true := PySem.W.exm_ref T.s T.hd T.t T.self
section
variable {X : Cx} {pos : Pos}
/-- C(), an own error without arguments -/
theorem pmk_own0 {C : Addr} {bmB : List Value} {B newId initId : String} {x : Str} {p : Pos} (F : ExcBaseFacts B newId initId bmB) (q : PySem.W.excIn X.K C bmB newId = true) (gC : X.mg x = some (.ref C))
    (kC : PySem.W.keepIn X.K (.ref C) = true) (r : Raises X (.ref C)) (hg : Gl X x) (hdb : (x == ("__debug__" : Str)) = false := by decide) :
    PMk X (.Call (.Name x p) [] [] pos) (fun _ H Q => Q (.ref C) none H) := by
  intro pins s σ H Q I h
  refine wpAny_Call_Name_kw (ld_glob I hg gC ?_ hdb)
  refine PySem.W.callWith_K0 I.kIn kC ?_
  show wpAny _ _ (call (.ref C) []) _ _ _
  obtain ⟨bm, N, nm, qn, bs, hdct, sn, sub, ab, col, dd, k0, k1, k2, k3, k5, mN, hC, hN, hni, T⟩ := exc_obj I.kIn q
  refine wpAny_call_exc_subT F T hC hN hni (fun h' e hm => ?_) (Nat.zero_le _)
  exact mk_of I hm r h (I.hok.gone hm.new)
end
/-! ### calls with keywords -/
theorem kb1 {K : PySem.W.Frag} {x qual : Str} {params : Arguments} {body : List Stmt} {scope : Scope} {dvs : List V} {kws : List (Str × V)} {f : Addr} {fd : FuncData} {ps : List Str} (F : FunD K x qual params body scope dvs kws f fd) (n : Nat) (ks : List Str)
    (g : {α : Type} → List α → List α → List α → List α) (hd : dvs ≠ [])
    (hrel : ∀ {vs ds zs : List V} {us its ws : List Value}, Vals vs us → Vals ds its → Vals zs ws → Vals (g vs ds zs) (g us its ws))
    (h : ∀ (T : Addr) (kV doc pm : Value) (an : Option Addr) (cdv ct : Value) (us its ws : List Value), us.length = n → its.length = dvs.length → ws.length = ks.length →
      ∃ k, bindArgs (PySem.W.fnOf x qual params body scope (.ref T) kV doc pm an cdv ct) ⟨us, ks.zip ws⟩ = seqItems? (.ref T) >>= k ∧ k (some its.toArray) = pure (ps.zip (g us its ws))) :
    ∃ its : List Value, KBn K fd ps n ks (fun us ws => g us its ws) (fun vs zs => g vs dvs zs) := by
  obtain ⟨oc, od, dV, kV, doc, pm, an, cdv, ct, osl, rfl, lk, hcd, hD, hK⟩ := F.ex
  rcases hD with ⟨e, _⟩ | ⟨_, T, o, its, m, rfl, lT, oT, rT⟩
  · exact absurd e hd
  · refine ⟨its, ⟨fun s us ws X l1 l2 => ?_, fun r1 r2 => hrel r1 rT r2⟩⟩
    obtain ⟨k, e1, e2⟩ := h T kV doc pm an cdv ct us its ws l1 rT.length.symm l2
    refine BindsTo.of_looks fun M => ?_
    rw [e1]
    exact looks_items X lT oT (.of_pure e2)
/-- f(k = v, ..) -/
theorem pe_callN0 {X : Cx} {CX : CXT} {k : Nat} {f : Addr} {fd : FuncData} {ps ks : List Str} {sp : Sp} {E : XK} {x : Str} {p pos : Pos} {kws : List Keyword} {tk : TA} {g : List Value → List Value → List Value} {gV : List V → List V → List V}
    (F : FnOk X.prog X.w X.K X.mg X.base CX k f fd ps sp) (hr : Room k X.A) (hg : Gl X x) (hm : X.mg x = some (.ref f)) (hk : PySem.W.keepIn X.K (.ref f) = true) (hb : KBn X.K fd ps 0 ks g gV) (hx : Passes CX X E)
    (hkw : PK X kws tk) (hall : (backToKw pos (keywordEach kws X.env)).all (·.1.isSome) = true := by rfl) (hks : (backToKw pos (keywordEach kws X.env)).filterMap (·.1) = ks := by rfl)
    (hdb : (x == ("__debug__" : Str)) = false := by decide)
    (hpl : ((backTo pos (starEach [] X.env)).any (·.1) || (backToKw pos (keywordEach kws X.env)).any (·.1.isNone)) = false := by rfl) :
    PE X (.Call (.Name x p) [] kws pos) (tCallN 0 ks.length sp gV E tNil tk) := by
  refine ⟨fun pins s σ H Q I h => ?_⟩
  refine wpAny_Call_Name_kw (ld_glob I hg hm ?_ hdb)
  refine PySem.W.callWith_KW0 (h₀ := X.base) I.ok.mod.kin hk hall ?_ hpl
  refine thn (hkw.run pos pins s σ H _ I h) fun ws s2 ⟨zs, H2, I2, rz, l1, l2, q2⟩ => ⟨I2.kIn, ?_⟩
  rw [hks]
  exact run_fnN (us := []) (vs := []) F hr hb hx I2 .nil rz rfl l2 q2
theorem kit_sub {K : PySem.W.Frag} {D : Addr} {n : String} {b : Bool} (m : PySem.W.kitMeta n = true) (e : PySem.W.subIn K (.ref D) (.type n) = some b) : PySem.W.kitOne K (.ref D) (.type n) = some b := by
  show (if (Value.ref D == Value.type n) = true then some true else (if PySem.W.kitMeta n = true then PySem.W.subIn K (.ref D) (.type n) else none)) = some b
  rw [if_neg (by intro h; cases (beq_iff_eq.mp h)), if_pos m]
  exact e
/-- isinstance of the error that the suite holds -/
def rIsX (K : PySem.W.Frag) (D a : Addr) (cls : Value) (d : Option Addr) : List V → Hp → VK → Prop := fun xs H Q => cls = .ref D ∧ d = none ∧ rIsE K D a xs H Q
theorem call_isX {X : Cx} {a D : Addr} {oe : Obj} {pn : List (Addr × Obj)} {cls : Value} {d : Option Addr} (C : ExcC X.K D) (hz : Zc cls d oe) (hf : ∃ vs, oe.data = .fields vs) : CallR (X.suite a ((a, oe) :: pn)) (.builtin "isinstance") (rIsX X.K D a cls d) := by
  intro pins s σ H xs us Q I r h
  obtain ⟨rfl, rfl, h⟩ := h
  exact call_isE C hz hf pins s σ H xs us Q I r h
section
variable {K : PySem.W.Frag} {σ : St} {H : Hp} {Q : VK} {D : Ends}
theorem s_callS {sp : Sp} {E : St → XK} {t : TA} (h : t σ H fun vs H1 => sp vs H1 Q (E σ)) : tCallS sp E t σ H Q := h
theorem s_caught {C : Addr} {ts : Addr → Value → Option Addr → TS} {Wout : WX} {d : Option Addr} (e : PySem.W.exmOne K (.ref C) (.ref C) = some true) (h : ∀ a, H a = none → ts a (.ref C) d D σ H) : wOnly K (.ref C) ts Wout D (.ref C) d σ H :=
  ⟨true, e, fun _ a ha => h a ha, fun z => Bool.noConfusion z⟩
theorem s_callN {n m : Nat} {sp : Sp} {gV : List V → List V → List V} {E : XK} {t tk : TA} (h : t σ H fun vs H1 => tk σ H1 fun zs H2 => vs.length = n ∧ zs.length = m ∧ sp (gV vs zs) H2 Q E) : tCallN n m sp gV E t tk σ H Q := h
theorem s_lens {vs zs : List V} {n m : Nat} {N : Prop} (h1 : vs.length = n) (h2 : zs.length = m) (h : N) : vs.length = n ∧ zs.length = m ∧ N := ⟨h1, h2, h⟩
theorem s_isX {D a : Addr} {n : String} {b : Bool} (e : PySem.W.kitOne K (.ref D) (.type n) = some b) (h : Q (.bl b) H) : rIsX K D a (.ref D) none [.ref a, .ty n] H Q := ⟨rfl, rfl, .ty n, .type n, b, rfl, fun _ r => r, e, h⟩
theorem s_caughtAs {C : Addr} {i : Nat} {ts : Addr → Value → Option Addr → TS} {Wout : WX} {d : Option Addr} (e : PySem.W.exmOne K (.ref C) (.ref C) = some true)
    (h : ∀ a, H a = none → ts a (.ref C) d { nx := fun σ' H' => D.nx (σ'.set i none) H', rt := D.rt, bk := fun σ' H' => D.bk (σ'.set i none) H', ct := fun σ' H' => D.ct (σ'.set i none) H' } (σ.set i (some (.ref a))) H) : wAs K (.ref C) i ts Wout D (.ref C) d σ H :=
  ⟨true, e, fun _ => h, fun z => Bool.noConfusion z⟩
end
/-! ### lots: instances that never change once they are made -/
def isZ : HO → Bool
  | .ins _ _ _ => true
  | o => isT o
def KI (H H' : Hp) : Prop := ∀ a o, H a = some o → isZ o = true → H' a = some o
theorem isZ_T {o : HO} (h : isT o = true) : isZ o = true := by cases o <;> first | exact h | rfl
theorem KI.kt {H H' : Hp} (k : KI H H') : KT H H' := fun a o h t => k a o h (isZ_T t)
theorem ki_same {H H' : Hp} (s : Same H H') : KI H H' := fun a o h _ => s a o h
theorem ki_new {H : Hp} {p : Addr} {o : HO} (h : H p = none) : KI H (upd H p o) := fun a u e _ => by rw [upd_ne (ne_of_none e h)]; exact e
theorem ki_mut {H : Hp} {p : Addr} {o o' : HO} (h : H p = some o) (t : isZ o = false) : KI H (upd H p o') := fun a u e k => by
  rw [upd_ne (fun z => by subst z; rw [h] at e; cases e; rw [t] at k; cases k)]; exact e
theorem ki_but {b : Addr} {H H' : Hp} (s : But b H H') : KI H H' := fun a o h t => s.oth a o (fun z => by subst z; obtain ⟨xs, e⟩ := s.lst; rw [e] at h; cases h; cases t) h
def IsLot (K : PySem.W.Frag) (C : Addr) (H : Hp) (v : V) (w m : Rat) : Prop := ∃ (a dx : Addr) (x y : V), v = .ref a ∧ H a = some (.ins C dx [(("worth" : Str), x), (("mark" : Str), y)]) ∧ Dt K H x (fr w) ∧ Dt K H y (fr m)
section
variable {K : PySem.W.Frag} {C : Addr} {H H' : Hp} {v : V} {w m : Rat} {Q : VK} {σ : St}
theorem IsLot.mono (k : KI H H') (h : IsLot K C H v w m) : IsLot K C H' v w m := by
  obtain ⟨a, dx, x, y, e, h1, h2, h3⟩ := h
  exact ⟨a, dx, x, y, e, k _ _ h1 rfl, h2.mono k.kt, h3.mono k.kt⟩
theorem wm : ¬ (("worth" : Str) = "mark") := by decide +kernel
def FldQ (K : PySem.W.Frag) (x : V) (f : Str) (H : Hp) (Q : VK) : Prop := ∃ a C dx fs v, x = V.ref a ∧ H a = some (.ins C dx fs) ∧ Cls K C ∧ NoAttr K C f ∧ fs.lookup f = some v ∧ Q v H
theorem s_fld {ta : TE} {f : Str} (h : ta σ H fun x H1 => FldQ K x f H1 Q) : tFld K ta f σ H Q := h
theorem s_worth (h : IsLot K C H v w m) (c : Cls K C) (n : NoAttr K C "worth") (q : ∀ x, Dt K H x (fr w) → Q x H) : FldQ K v "worth" H Q := by
  obtain ⟨a, dx, x, y, e, h1, h2, h3⟩ := h
  exact ⟨a, C, dx, _, x, e, h1, c, n, by
    show List.lookup ("worth" : Str) [(("worth" : Str), x), (("mark" : Str), y)] = some x
    rw [List.lookup_cons, show (("worth" : Str) == "worth") = true by decide +kernel], q x h2⟩
theorem s_mark (h : IsLot K C H v w m) (c : Cls K C) (n : NoAttr K C "mark") (q : ∀ x, Dt K H x (fr m) → Q x H) : FldQ K v "mark" H Q := by
  obtain ⟨a, dx, x, y, e, h1, h2, h3⟩ := h
  exact ⟨a, C, dx, _, y, e, h1, c, n, by
    show List.lookup ("mark" : Str) [(("worth" : Str), x), (("mark" : Str), y)] = some y
    rw [List.lookup_cons, show (("mark" : Str) == "worth") = false by decide +kernel]
    rfl, q y h3⟩
def MethQ (C : Addr) (m : Str) (x : V) (H : Hp) (N : Prop) : Prop := ∃ a dx fs, x = V.ref a ∧ H a = some (.ins C dx fs) ∧ fs.lookup m = none ∧ N
theorem s_meth {mn : Str} {sp : Sp} {dvs : List V} {E : XK} {ta : TE} {t : TA} (h : ta σ H fun x H1 => MethQ C mn x H1 (t σ H1 fun vs H2 => sp (x :: (vs ++ dvs)) H2 Q E)) : tMeth C mn sp dvs E ta t σ H Q := h
theorem s_mlot {mn : Str} {N : Prop} (h : IsLot K C H v w m) (e1 : (mn == ("worth" : Str)) = false) (e2 : (mn == ("mark" : Str)) = false) (n : N) : MethQ C mn v H N := by
  obtain ⟨a, dx, x, y, e, h1, _⟩ := h
  exact ⟨a, dx, _, e, h1, by
    rw [List.lookup_cons, e1, List.lookup_cons, e2]
    rfl, n⟩
def MakeQ (C : Addr) (sp : Sp) (dvs : List V) (E : XK) (vs : List V) (H : Hp) (Q : VK) : Prop := ∀ x dx, H x = none → H dx = none → dx ≠ x →
  sp (.ref x :: (vs ++ dvs)) (upd (upd H dx (.own x)) x (.ins C dx [])) (fun v H2 => v = .non ∧ Q (.ref x) H2) E
theorem s_make {sp : Sp} {dvs : List V} {E : XK} {t : TA} (h : t σ H fun vs H1 => MakeQ C sp dvs E vs H1 Q) : tMake C sp dvs E t σ H Q := h
end
end Cr
namespace Cr
open PySem PySem.Spec PyProof.Rows L2
theorem units65 {k : Nat} {A : Around} (r : Room k A) : A.units + 65 < cLine := by have := r.un; omega
/-! ### a cut behind a statement; list comprehensions; more of built-ins -/
inductive A2 {α β : Type} (R : α → β → Prop) : List α → List β → Prop
  | nil : A2 R [] []
  | cons {x : α} {y : β} {xs : List α} {ys : List β} : R x y → A2 R xs ys → A2 R (x :: xs) (y :: ys)
theorem A2.mono {α β : Type} {R S : α → β → Prop} (h : ∀ x y, R x y → S x y) : ∀ {xs : List α} {ys : List β}, A2 R xs ys → A2 S xs ys
  | _, _, .nil => .nil
  | _, _, .cons a b => .cons (h _ _ a) (A2.mono h b)
theorem A2.snoc {α β : Type} {R : α → β → Prop} {x : α} {y : β} (r : R x y) : ∀ {xs : List α} {ys : List β}, A2 R xs ys → A2 R (xs ++ [x]) (ys ++ [y])
  | _, _, .nil => .cons r .nil
  | _, _, .cons a b => .cons a (A2.snoc r b)
theorem A2.len {α β : Type} {R : α → β → Prop} : ∀ {xs : List α} {ys : List β}, A2 R xs ys → xs.length = ys.length
  | _, _, .nil => rfl
  | _, _, .cons _ b => congrArg Nat.succ (A2.len b)
section
variable {K : PySem.W.Frag} {σ : St} {H : Hp} {Q : VK} {D : Ends}
theorem s_cut {t : TS} (js : List Nat) (I : (Nat → Option V) → Hp → Prop) (h : ∀ N' : St → Hp → Prop, (∀ σ' H', σ' = sets σ js (fun j => (σ'[j]?).join) → I (fun j => (σ'[j]?).join) H' → N' σ' H') → t { D with nx := N' } σ H)
    (hN : ∀ f H', I f H' → D.nx (sets σ js f) H') : t D σ H := h D.nx fun σ' H' e i => by rw [e]; exact hN _ H' i
def LcR (J : It) (g : TG) (tt : TT) (te : TE) (vs : List Nat) (σ : St) (H1 : Hp) (Q : VK) : Prop := ∀ D, H1 D = none → ∃ W : Nat → Nat → Hp → Prop, (∃ m, W 0 m (upd H1 D (.lst []))) ∧ ∀ i m H, W i m H →
  (J.stop i H ∧ Q (.ref D) H) ∨ (J.go i H ∧ ∃ Nx : Hp → Prop, (∀ H', Nx H' → ∃ m', m' < m ∧ W (i + 1) m' H') ∧ ∀ x H', J.yld i H x H' → g x (wipe σ vs) H' fun σ2 H2 => wipe σ2 vs = wipe σ vs ∧ tt σ2 H2 fun b H3 =>
    if b = true then te σ2 H3 fun y H4 => ∃ acc, H4 D = some (.lst acc) ∧ acc.length < sizeLine ∧ Nx (upd H4 D (.lst (acc ++ [y]))) else Nx H3)
theorem s_lc {wi : TI} {g : TG} {tt : TT} {te : TE} {vs : List Nat} (h : wi σ H fun J H1 => LcR J g tt te vs σ H1 Q) : tLc wi g tt te vs σ H Q := h
/-- what may happen to the heap at a turn -/
structure Stp (H1 : Hp) (S : Hp → Hp → Prop) : Prop where
  s0 : S H1 H1
  tr : ∀ A B, S H1 A → S A B → S H1 B
  new : ∀ A p o, S H1 A → H1 p = none → S H1 (upd A p o)
  ki : ∀ A B, S A B → KI A B
  keep : ∀ A B p ys, H1 p = none → S H1 A → S A B → A p = some (.lst ys) → B p = some (.lst ys)
theorem stp_same (H1 : Hp) : Stp H1 Same := ⟨Same.refl _, fun _ _ a b => a.trans b, fun _ _ _ a n => same_mut a n, fun _ _ a => ki_same a, fun _ _ _ _ _ _ b e => b _ _ e⟩
def ButB (b l : Addr) : Hp → Hp → Prop := fun A B => But b A B ∧ Bag B b l
theorem stp_but {b l : Addr} {H1 : Hp} (h : Bag H1 b l) : Stp H1 (ButB b l) :=
  ⟨⟨But.ofSame h (Same.refl _), h⟩, fun _ _ a c => ⟨a.1.trans c.1, c.2⟩, fun _ _ _ a n => ⟨but_mut a.1 n, a.2.upd (h.ne1 n) (h.ne2 n)⟩, fun _ _ a => ki_but a.1, fun _ _ _ _ n _ c e => c.1.oth _ _ (h.ne1 n) e⟩
/-- the turns of a list comprehension without a test, over any things that come one by one -/
theorem A2.at {α β : Type} {R : α → β → Prop} : ∀ {xs : List α} {ys : List β}, A2 R xs ys → ∀ {i : Nat} {x : α}, xs[i]? = some x → ∃ y, ys[i]? = some y ∧ R x y
  | _, _, .cons a _, 0, _, e => ⟨_, rfl, by cases e; exact a⟩
  | _, _, .cons _ b, i + 1, _, e => A2.at b (i := i) e
theorem c_core {α : Type} {g : TG} {te : TE} {vs : List Nat} {H1 : Hp} {xs : List V} {zs : List α} {S : Hp → Hp → Prop} (St : Stp H1 S) (P : Hp → V → α → Prop) (R : Hp → α → V → Prop) (pm : ∀ A B x z, KI A B → P A x z → P B x z) (rm : ∀ A B z y, KI A B → R A z y → R B z y)
    (hx : A2 (P H1) xs zs) (hz : xs.length ≤ 1000) {J : It}
    (turn : ∀ x z A (N : V → Hp → Prop), z ∈ zs → P A x z → S H1 A → (∀ y B, S A B → R B z y → N y B) → g x (wipe σ vs) A fun σ2 B => wipe σ2 vs = wipe σ vs ∧ te σ2 B N)
    (fin : ∀ p ys A, S H1 A → H1 p = none → A p = some (.lst ys) → A2 (R A) zs ys → Q (.ref p) A)
    (run : ∀ (D : Addr) (Pv : Nat → Hp → Prop), Pv 0 (upd H1 D (.lst [])) → (∀ i H, Pv i H → S H1 H) →
      (∀ i x H, xs[i]? = some x → Pv i H → g x (wipe σ vs) H fun σ2 H2 => wipe σ2 vs = wipe σ vs ∧ tYes σ2 H2 fun b H3 => if b = true then te σ2 H3 fun y H4 => ∃ acc, H4 D = some (.lst acc) ∧ acc.length < sizeLine ∧ Pv (i + 1) (upd H4 D (.lst (acc ++ [y]))) else Pv (i + 1) H3) →
      (∀ H, Pv xs.length H → Q (.ref D) H) →
      ∃ W : Nat → Nat → Hp → Prop, (∃ m, W 0 m (upd H1 D (.lst []))) ∧ ∀ i m H, W i m H →
      (J.stop i H ∧ Q (.ref D) H) ∨ (J.go i H ∧ ∃ Nx : Hp → Prop, (∀ H', Nx H' → ∃ m', m' < m ∧ W (i + 1) m' H') ∧ ∀ x H', J.yld i H x H' → g x (wipe σ vs) H' fun σ2 H2 => wipe σ2 vs = wipe σ vs ∧ tYes σ2 H2 fun b H3 =>
        if b = true then te σ2 H3 fun y H4 => ∃ acc, H4 D = some (.lst acc) ∧ acc.length < sizeLine ∧ Nx (upd H4 D (.lst (acc ++ [y]))) else Nx H3)) :
    LcR J g tYes te vs σ H1 Q := by
  intro p hp
  have lx := hx.len
  refine run p (fun i A => i ≤ xs.length ∧ S H1 A ∧ ∃ ys, A p = some (.lst ys) ∧ A2 (R A) (zs.take i) ys) ⟨Nat.zero_le _, St.new _ _ _ St.s0 hp, [], upd_same, .nil⟩ (fun i A h => h.2.1) ?_ ?_
  · rintro i x A e ⟨hi, hs, ys, h1, h2⟩
    obtain ⟨z, ez, pz⟩ := hx.at e
    refine turn x z A _ (List.mem_of_getElem? ez) (pm _ _ _ _ (St.ki _ _ hs) pz) hs fun y B sb r => ?_
    have hlt : i < xs.length := (List.getElem?_eq_some_iff.mp e).1
    have e3 := St.keep _ _ _ _ hp hs sb h1
    have hl : ys.length = i := by rw [← h2.len, List.length_take]; omega
    have k : KI B (upd B p (.lst (ys ++ [y]))) := ki_mut e3 rfl
    refine ⟨ys, e3, L2.small1000 (by omega), by omega, St.new _ _ _ (St.tr _ _ hs sb) hp, ys ++ [y], upd_same, ?_⟩
    have et : zs.take (i + 1) = zs.take i ++ [z] := by rw [List.take_add_one, ez]; rfl
    rw [et]
    exact .snoc (rm _ _ _ _ k r) (h2.mono fun u v z => rm _ _ _ _ k (rm _ _ _ _ (St.ki _ _ sb) z))
  · rintro A ⟨_, hs, ys, h1, h2⟩
    rw [lx, List.take_length] at h2
    exact fin p ys A hs hp h1 h2
theorem c_list {α : Type} {a : Addr} {xs : List V} {zs : List α} {g : TG} {te : TE} {vs : List Nat} {S : Hp → Hp → Prop} (St : Stp H S) (P : Hp → V → α → Prop) (R : Hp → α → V → Prop) (pm : ∀ A B x z, KI A B → P A x z → P B x z) (rm : ∀ A B z y, KI A B → R A z y → R B z y)
    (hl : ∀ A, S H A → SqL K A a xs) (hx : A2 (P H) xs zs) (hz : xs.length ≤ 1000)
    (turn : ∀ x z A (N : V → Hp → Prop), z ∈ zs → P A x z → S H A → (∀ y B, S A B → R B z y → N y B) → g x (wipe σ vs) A fun σ2 B => wipe σ2 vs = wipe σ vs ∧ te σ2 B N)
    (fin : ∀ p ys A, S H A → H p = none → A p = some (.lst ys) → A2 (R A) zs ys → Q (.ref p) A) : LcR (Itl K a) g tYes te vs σ H Q :=
  c_core St P R pm rm hx hz turn fin fun _ Pv h0 hS hs hd => lc_list Pv h0 (fun i A _ p => hl A (hS i A p)) hs hd
/-- over a list of these, things of the heap laid alone -/
theorem c_listS {α : Type} {a : Addr} {xs : List V} {zs : List α} {g : TG} {te : TE} {vs : List Nat} (P : Hp → V → α → Prop) (R : Hp → α → V → Prop) (pm : ∀ A B x z, KI A B → P A x z → P B x z) (rm : ∀ A B z y, KI A B → R A z y → R B z y)
    (hs : SqL K H a xs) (hx : A2 (P H) xs zs) (hz : xs.length ≤ 1000)
    (turn : ∀ x z A (N : V → Hp → Prop), z ∈ zs → P A x z → Same H A → (∀ y B, Same A B → R B z y → N y B) → g x (wipe σ vs) A fun σ2 B => wipe σ2 vs = wipe σ vs ∧ te σ2 B N)
    (fin : ∀ p ys A, Same H A → H p = none → A p = some (.lst ys) → A2 (R A) zs ys → Q (.ref p) A) : LcR (Itl K a) g tYes te vs σ H Q :=
  c_list (stp_same H) P R pm rm (fun _ s => s.seq hs) hx hz turn fin
theorem a2_range {lo : Int} (n : Nat) : A2 (fun (x : V) (i : Nat) => x = .int (lo + i)) ((List.range n).map fun (i : Nat) => V.int (lo + i)) (List.range n) := by
  induction n with
  | zero => exact .nil
  | succ n ih => rw [List.range_succ, List.map_append]; exact A2.snoc (R := fun (x : V) (i : Nat) => x = .int (lo + i)) rfl ih
theorem c_range {lo : Int} {n : Nat} {g : TG} {te : TE} {vs : List Nat} {S : Hp → Hp → Prop} (St : Stp H S) (R : Hp → Nat → V → Prop) (rm : ∀ A B z y, KI A B → R A z y → R B z y) (hz : n ≤ 1000)
    (turn : ∀ (i : Nat) A (N : V → Hp → Prop), i < n → S H A → (∀ y B, S A B → R B i y → N y B) → g (.int (lo + i)) (wipe σ vs) A fun σ2 B => wipe σ2 vs = wipe σ vs ∧ te σ2 B N)
    (fin : ∀ p ys A, S H A → H p = none → A p = some (.lst ys) → A2 (R A) (List.range n) ys → Q (.ref p) A) : LcR (Itr lo n) g tYes te vs σ H Q := by
  have hl : ((List.range n).map fun (i : Nat) => V.int (lo + i)).length = n := by rw [List.length_map, List.length_range]
  refine c_core (xs := (List.range n).map fun (i : Nat) => V.int (lo + i)) (zs := List.range n) St (fun _ x i => x = .int (lo + i)) R (fun _ _ _ _ _ h => h) rm (a2_range n) (by omega) (fun x i A N hm e s k => ?_) fin fun _ Pv h0 hS hs hd => lc_range Pv h0 (fun i A hi p => hs i _ A (by rw [List.getElem?_map, List.getElem?_range hi]; rfl) p) (by rw [hl] at hd; exact hd)
  subst e
  exact turn i A N (List.mem_range.mp hm) s k
-- int(x), x is None
def rIntU : List V → Hp → VK → Prop := fun xs H Q => (∃ i, xs = [.int i] ∧ Q (.int i) H) ∨ ∃ k, xs = [.bl k] ∧ Q (.int (if k then 1 else 0)) H
theorem call_intU {X : Cx} : CallR X (.type "int") rIntU := call_int1
theorem s_intB {b : Bool} (h : Q (.int (if b = true then 1 else 0)) H) : rIntU [.bl b] H Q := .inr ⟨b, rfl, h⟩
theorem s_intT (h : Q (.int 1) H) : rIntU [.bl true] H Q := s_intB h
theorem s_intF (h : Q (.int 0) H) : rIntU [.bl false] H Q := s_intB h
theorem s_intBt {c : Prop} {inst : Decidable c} (h0 : c) (h : Q (.int 1) H) : rIntU [.bl (@decide c inst)] H Q := s_intB (by rw [decide_eq_true h0]; exact h)
theorem s_intBf {c : Prop} {inst : Decidable c} (h0 : ¬ c) (h : Q (.int 0) H) : rIntU [.bl (@decide c inst)] H Q := s_intB (by rw [decide_eq_false h0]; exact h)
theorem s_intI {i : Int} (h : Q (.int i) H) : rIntU [.int i] H Q := .inl ⟨i, rfl, h⟩
def rIsU : R2 := fun x y H Q => y = .non ∧ Q (.bl (decide (x = .non))) H
theorem op_isU {X : Cx} : OpR X (compareOp .Is) rIsU := op_isN
def rNotU : R2 := fun x y H Q => y = .non ∧ Q (.bl (!decide (x = .non))) H
theorem op_notU {X : Cx} : OpR X (compareOp .IsNot) rNotU := op_notN
theorem s_isNN (h : Q (.bl true) H) : rIsU .non .non H Q := ⟨rfl, by rw [decide_eq_true rfl]; exact h⟩
theorem s_isRN {a : Addr} (h : Q (.bl false) H) : rIsU (.ref a) .non H Q := ⟨rfl, by rw [decide_eq_false (fun z => by cases z)]; exact h⟩
theorem s_isTN {x : V} {ds : List PyData} (hx : Dt K H x (.tuple ds)) (h : Q (.bl false) H) : rIsU x .non H Q := by
  obtain ⟨a, xs, rfl, _⟩ := hx.tup_inv
  exact s_isRN h
theorem s_isFN {x : V} {r : Rat} (hx : Dt K H x (fr r)) (h : Q (.bl false) H) : rIsU x .non H Q := s_isTN (ds := [.int r.num, .int r.den]) hx h
theorem s_ntNN (h : Q (.bl false) H) : rNotU .non .non H Q := ⟨rfl, by rw [decide_eq_true rfl]; exact h⟩
theorem s_ntRN {a : Addr} (h : Q (.bl true) H) : rNotU (.ref a) .non H Q := ⟨rfl, by rw [decide_eq_false (fun z => by cases z)]; exact h⟩
theorem s_ntTN {x : V} {ds : List PyData} (hx : Dt K H x (.tuple ds)) (h : Q (.bl true) H) : rNotU x .non H Q := by
  obtain ⟨a, xs, rfl, _⟩ := hx.tup_inv
  exact s_ntRN h
theorem s_ntFN {x : V} {r : Rat} (hx : Dt K H x (fr r)) (h : Q (.bl true) H) : rNotU x .non H Q := s_ntTN (ds := [.int r.num, .int r.den]) hx h
theorem s_eqFt {x y : V} {d e : Rat} (hx : Dt K H x (fr d)) (hy : Dt K H y (fr e)) (h0 : d = e) (h : Q (.bl true) H) : rEqD K x y H Q := s_eqF hx hy (by rw [decide_eq_true h0]; exact h)
theorem s_eqFf {x y : V} {d e : Rat} (hx : Dt K H x (fr d)) (hy : Dt K H y (fr e)) (h0 : ¬ d = e) (h : Q (.bl false) H) : rEqD K x y H Q := s_eqF hx hy (by rw [decide_eq_false h0]; exact h)
theorem s_neFt {x y : V} {d e : Rat} (hx : Dt K H x (fr d)) (hy : Dt K H y (fr e)) (h0 : d = e) (h : Q (.bl false) H) : rNeD K x y H Q := s_neF hx hy (by rw [decide_eq_true h0]; exact h)
theorem s_neFf {x y : V} {d e : Rat} (hx : Dt K H x (fr d)) (hy : Dt K H y (fr e)) (h0 : ¬ d = e) (h : Q (.bl true) H) : rNeD K x y H Q := s_neF hx hy (by rw [decide_eq_false h0]; exact h)
theorem s_eqBB {i : Bool} (h : Q (.bl true) H) : rEqD K (.bl i) (.bl i) H Q := s_eqB (by rw [decide_eq_true rfl]; exact h)
theorem s_neBB {i : Bool} (h : Q (.bl false) H) : rNeD K (.bl i) (.bl i) H Q := s_neB (by rw [decide_eq_true rfl]; exact h)
theorem s_neFT (h : Q (.bl true) H) : rNeD K (.bl false) (.bl true) H Q := s_neB h
theorem s_neTF (h : Q (.bl true) H) : rNeD K (.bl true) (.bl false) H Q := s_neB h
theorem s_eqFT (h : Q (.bl false) H) : rEqD K (.bl false) (.bl true) H Q := s_eqB h
theorem s_eqTF (h : Q (.bl false) H) : rEqD K (.bl true) (.bl false) H Q := s_eqB h
theorem dt_zn {p : Addr} (n : H p = none) : Dt K (upd H p (.tup [.int 0, .int 1])) (.ref p) (fr 0) := dt_new (ds := [.int 0, .int 1]) (.cons (.int 0) (.cons (.int 1) .nil)) n
theorem dt_1n {p : Addr} (n : H p = none) : Dt K (upd H p (.tup [.int 1, .int 1])) (.ref p) (fr 1) := dt_new (ds := [.int 1, .int 1]) (.cons (.int 1) (.cons (.int 1) .nil)) n
theorem Dt.non_eq {v : V} (h : Dt K H v .none) : v = .non := by cases h; rfl
theorem s_cutI {c : Bool} {t u : TS} (js : List Nat) (I : (Nat → Option V) → Hp → Prop) (h : ∀ N' : St → Hp → Prop, (∀ σ' H', σ' = sets σ js (fun j => (σ'[j]?).join) → I (fun j => (σ'[j]?).join) H' → N' σ' H') → if c = true then t { D with nx := N' } σ H else u { D with nx := N' } σ H)
    (hN : ∀ f H', I f H' → D.nx (sets σ js f) H') : if c = true then t D σ H else u D σ H := h D.nx fun σ' H' e i => by rw [e]; exact hN _ H' i
theorem s_neNN (h : Q (.bl false) H) : rNeD K .non .non H Q := ⟨_, _, .non, .non, rfl, rfl, by simpa [PyData.eqv] using h⟩
theorem s_eqNN (h : Q (.bl true) H) : rEqD K .non .non H Q := ⟨_, _, .non, .non, rfl, rfl, by simpa [PyData.eqv] using h⟩
theorem eqv2 (a b c d : Rat) : PyData.eqv (.tuple [fr a, fr b]) (.tuple [fr c, fr d]) = decide (a = c ∧ b = d) := by
  have e : PyData.eqv (.tuple [fr a, fr b]) (.tuple [fr c, fr d]) = (PyData.eqv (fr a) (fr c) && (PyData.eqv (fr b) (fr d) && true)) := by simp only [PyData.eqv, PyData.eqvAll]
  rw [e, eqvfr, eqvfr]
  by_cases h1 : a = c <;> by_cases h2 : b = d <;> simp [h1, h2]
theorem s_eqP {x y : V} {a b c d : Rat} (hx : Dt K H x (.tuple [fr a, fr b])) (hy : Dt K H y (.tuple [fr c, fr d])) (h : Q (.bl (decide (a = c ∧ b = d))) H) : rEqD K x y H Q := s_eqD hx hy (sh2 a b) (sh2 c d) (by rw [eqv2]; exact h)
theorem s_neP {x y : V} {a b c d : Rat} (hx : Dt K H x (.tuple [fr a, fr b])) (hy : Dt K H y (.tuple [fr c, fr d])) (h : Q (.bl (!decide (a = c ∧ b = d))) H) : rNeD K x y H Q := s_neD hx hy (sh2 a b) (sh2 c d) (by rw [eqv2]; exact h)
theorem s_eqPf {x y : V} {a b c d : Rat} (hx : Dt K H x (.tuple [fr a, fr b])) (hy : Dt K H y (.tuple [fr c, fr d])) (n : ¬ (a = c ∧ b = d)) (h : Q (.bl false) H) : rEqD K x y H Q := s_eqP hx hy (by rw [decide_eq_false n]; exact h)
theorem s_nePf {x y : V} {a b c d : Rat} (hx : Dt K H x (.tuple [fr a, fr b])) (hy : Dt K H y (.tuple [fr c, fr d])) (n : ¬ (a = c ∧ b = d)) (h : Q (.bl true) H) : rNeD K x y H Q := s_neP hx hy (by rw [decide_eq_false n]; exact h)
/-- l.index(x) -/
theorem s_index {a : Addr} {vs : List V} {ds : List PyData} {y : V} {d : PyData} (j : Nat) {z : PyData} (hs : SqL K H a vs) (ha : DtAll K H vs ds) (hy : Dt K H y d) (sl : SeqAt.shaped (.list ds) = true) (sd : SeqAt.shaped d = true) (e : ds[j]? = some z) (ez : PyData.eqv z d = true)
    (no : ∀ (m : Nat) (z' : PyData), m < j → ds[m]? = some z' → PyData.eqv z' d = false) (h : Q (.int (j : Nat)) H) : rIndexD K (.ref a) [y] H Q :=
  ⟨a, y, d, ds, j, z, rfl, rfl, .lst hs ha.dp, hy.dp, sl, sd, e, ez, no, h⟩
theorem sh22 (a b c d : Rat) : SeqAt.shaped (.list [.tuple [fr a, fr b], .tuple [fr c, fr d]]) = true := rfl
theorem s_idx0 {p : Addr} {v0 v1 y : V} {a b c d : Rat} (hs : SqL K H p [v0, v1]) (h0 : Dt K H v0 (.tuple [fr a, fr b])) (h1 : Dt K H v1 (.tuple [fr c, fr d])) (hy : Dt K H y (.tuple [fr a, fr b])) (h : Q (.int 0) H) : rIndexD K (.ref p) [y] H Q :=
  s_index 0 hs (.cons h0 (.cons h1 .nil)) hy (sh22 a b c d) (sh2 a b) rfl (by rw [eqv2, decide_eq_true ⟨rfl, rfl⟩]) (fun m _ hm _ => absurd hm (Nat.not_lt_zero _)) h
theorem s_idx1 {p : Addr} {v0 v1 y : V} {a b c d : Rat} (hs : SqL K H p [v0, v1]) (h0 : Dt K H v0 (.tuple [fr a, fr b])) (h1 : Dt K H v1 (.tuple [fr c, fr d])) (hy : Dt K H y (.tuple [fr c, fr d])) (n : ¬ (a = c ∧ b = d)) (h : Q (.int 1) H) : rIndexD K (.ref p) [y] H Q :=
  s_index 1 hs (.cons h0 (.cons h1 .nil)) hy (sh22 a b c d) (sh2 c d) rfl (by rw [eqv2, decide_eq_true ⟨rfl, rfl⟩]) (fun m z' hm hz => by
    obtain rfl : m = 0 := by omega
    cases hz
    rw [eqv2, decide_eq_false n]) h
end
end Cr
namespace Cr
open PySem PySem.Spec PyProof.Rows L2
/-! ### tuples of any length taken apart and put together -/
section
variable {K : PySem.W.Frag} {σ : St} {H : Hp} {Q : VK} {D : Ends}
theorem DtAll.take {vs : List V} {ds : List PyData} (h : DtAll K H vs ds) : ∀ n : Nat, DtAll K H (vs.take n) (ds.take n) := by
  induction ds generalizing vs with
  | nil => cases h; intro n; rw [List.take_nil, List.take_nil]; exact .nil
  | cons d ds ih =>
    cases h with
    | cons h a =>
      intro n
      cases n with
      | zero => exact .nil
      | succ n => exact .cons h (ih a n)
theorem DtAll.drop {vs : List V} {ds : List PyData} (h : DtAll K H vs ds) : ∀ n : Nat, DtAll K H (vs.drop n) (ds.drop n) := by
  induction ds generalizing vs with
  | nil => cases h; intro n; rw [List.drop_nil, List.drop_nil]; exact .nil
  | cons d ds ih =>
    cases h with
    | cons h a =>
      intro n
      cases n with
      | zero => exact .cons h a
      | succ n => exact ih a n
theorem s_gtup {n : Nat} {t : TGs} {x : V} {ds : List PyData} {N : St → Hp → Prop} (hx : Dt K H x (.tuple ds)) (e : ds.length = n) (h : ∀ xs, DtAll K H xs ds → t xs σ H N) : gTup K n t x σ H N := by
  obtain ⟨a, xs, rfl, hs, ha⟩ := hx.tup_inv
  exact ⟨a, xs, rfl, hs, ha.len.trans e, h xs ha⟩
theorem s_gcons {t : TG} {u : TGs} {xs : List V} {d : PyData} {ds : List PyData} {N : St → Hp → Prop} (hx : DtAll K H xs (d :: ds)) (h : ∀ v r, Dt K H v d → DtAll K H r ds → t v σ H fun σ' H' => u r σ' H' N) : gCons t u xs σ H N := by
  cases hx with
  | cons a b => exact ⟨_, _, rfl, h _ _ a b⟩
theorem s_gnil {xs : List V} {N : St → Hp → Prop} (hx : DtAll K H xs []) (h : N σ H) : gNil xs σ H N := by
  cases hx
  exact ⟨rfl, h⟩
theorem cut_hi {α : Type} (xs : List α) {hi : Int} (h0 : 0 ≤ hi) : (xs.drop (HT.sIx xs.length 0 none)).take (HT.sIx xs.length xs.length (some hi) - HT.sIx xs.length 0 none) = xs.take hi.toNat := by
  obtain ⟨k, rfl⟩ : ∃ k : Nat, hi = (k : Int) := ⟨hi.toNat, by omega⟩
  rw [HT.sIx_nat, HT.sIx_none, List.drop_zero, Int.toNat_natCast, Nat.sub_zero]
  by_cases h : k ≤ xs.length
  · rw [Nat.min_eq_left h]
  · rw [Nat.min_eq_right (by omega), List.take_length, List.take_of_length_le (by omega)]
theorem cut_lo {α : Type} (xs : List α) {lo : Int} (h0 : 0 ≤ lo) : (xs.drop (HT.sIx xs.length 0 (some lo))).take (HT.sIx xs.length xs.length none - HT.sIx xs.length 0 (some lo)) = xs.drop lo.toNat := by
  obtain ⟨k, rfl⟩ : ∃ k : Nat, lo = (k : Int) := ⟨lo.toNat, by omega⟩
  rw [HT.sIx_nat, HT.sIx_none, Int.toNat_natCast]
  by_cases h : k ≤ xs.length
  · rw [Nat.min_eq_left h, List.take_of_length_le (by rw [List.length_drop]; omega)]
  · rw [Nat.min_eq_right (by omega), List.drop_eq_nil_of_le (Nat.le_refl _), List.drop_eq_nil_of_le (by omega), List.take_nil]
theorem cut_two {α : Type} (xs : List α) {lo hi : Int} (h0 : 0 ≤ lo) (h1 : 0 ≤ hi) : (xs.drop (HT.sIx xs.length 0 (some lo))).take (HT.sIx xs.length xs.length (some hi) - HT.sIx xs.length 0 (some lo)) = (xs.drop lo.toNat).take (hi.toNat - lo.toNat) := by
  obtain ⟨k, rfl⟩ : ∃ k : Nat, lo = (k : Int) := ⟨lo.toNat, by omega⟩
  obtain ⟨j, rfl⟩ : ∃ j : Nat, hi = (j : Int) := ⟨hi.toNat, by omega⟩
  rw [HT.sIx_nat, HT.sIx_nat, Int.toNat_natCast, Int.toNat_natCast]
  by_cases h : k ≤ xs.length
  · rw [Nat.min_eq_left h]
    by_cases g : j ≤ xs.length
    · rw [Nat.min_eq_left g]
    · rw [Nat.min_eq_right (by omega), List.take_of_length_le (by rw [List.length_drop]; omega), List.take_of_length_le (by rw [List.length_drop]; omega)]
  · rw [Nat.min_eq_right (show xs.length ≤ k by omega), List.drop_eq_nil_of_le (Nat.le_refl _), List.drop_eq_nil_of_le (by omega), List.take_nil, List.take_nil]
theorem cutV_hi (xs : List V) {hi : Int} (h0 : 0 ≤ hi) : cutV xs none (some hi) = xs.take hi.toNat := cut_hi xs h0
theorem cutV_lo (xs : List V) {lo : Int} (h0 : 0 ≤ lo) : cutV xs (some lo) none = xs.drop lo.toNat := cut_lo xs h0
theorem cutV_two (xs : List V) {lo hi : Int} (h0 : 0 ≤ lo) (h1 : 0 ≤ hi) : cutV xs (some lo) (some hi) = (xs.drop lo.toNat).take (hi.toNat - lo.toNat) := cut_two xs h0 h1
/-- t[:n], t[n:], t[n:m] of a tuple of data, never the whole -/
theorem s_slThi {x : V} {ds : List PyData} {hi : Int} (hx : Dt K H x (.tuple ds)) (h0 : 0 ≤ hi) (h1 : hi < ds.length) (h : ∀ v H', Same H H' → Dt K H' v (.tuple (ds.take hi.toNat)) → Q v H') : rSlU K x none (some hi) H Q := by
  obtain ⟨a, xs, rfl, hs, ha⟩ := hx.tup_inv
  have e := ha.len
  refine .inr ⟨a, xs, rfl, hs, fun z => ?_, fun p hp => h _ _ (same_new hp) ?_⟩
  · obtain ⟨k, rfl⟩ : ∃ k : Nat, hi = (k : Int) := ⟨hi.toNat, by omega⟩
    have z2 := z.2
    rw [HT.sIx_nat] at z2
    omega
  · rw [cutV_hi xs h0]
    exact dt_new (ha.take _) hp
theorem s_slTlo {x : V} {ds : List PyData} {lo : Int} (hx : Dt K H x (.tuple ds)) (h0 : 0 < lo) (h1 : 0 < ds.length) (h : ∀ v H', Same H H' → Dt K H' v (.tuple (ds.drop lo.toNat)) → Q v H') : rSlU K x (some lo) none H Q := by
  obtain ⟨a, xs, rfl, hs, ha⟩ := hx.tup_inv
  have e := ha.len
  refine .inr ⟨a, xs, rfl, hs, fun z => ?_, fun p hp => h _ _ (same_new hp) ?_⟩
  · obtain ⟨k, rfl⟩ : ∃ k : Nat, lo = (k : Int) := ⟨lo.toNat, by omega⟩
    have z1 := z.1
    rw [HT.sIx_nat] at z1
    omega
  · rw [cutV_lo xs (by omega)]
    exact dt_new (ha.drop _) hp
theorem s_slT2 {x : V} {ds : List PyData} {lo hi : Int} (hx : Dt K H x (.tuple ds)) (h0 : 0 < lo) (h1 : 0 ≤ hi) (h2 : 0 < ds.length) (h : ∀ v H', Same H H' → Dt K H' v (.tuple ((ds.drop lo.toNat).take (hi.toNat - lo.toNat))) → Q v H') : rSlU K x (some lo) (some hi) H Q := by
  obtain ⟨a, xs, rfl, hs, ha⟩ := hx.tup_inv
  have e := ha.len
  refine .inr ⟨a, xs, rfl, hs, fun z => ?_, fun p hp => h _ _ (same_new hp) ?_⟩
  · obtain ⟨k, rfl⟩ : ∃ k : Nat, lo = (k : Int) := ⟨lo.toNat, by omega⟩
    have z1 := z.1
    rw [HT.sIx_nat] at z1
    omega
  · rw [cutV_two xs (by omega) h1]
    exact dt_new ((ha.drop _).take _) hp
/-- tuple(xs), list(t) -/
theorem s_tupL {p : Addr} {ys : List V} {ds : List PyData} (hs : SqL K H p ys) (ha : DtAll K H ys ds) (h : ∀ v H', Same H H' → Dt K H' v (.tuple ds) → Q v H') : rTupU K [.ref p] H Q :=
  ⟨p, ys, rfl, .inl ⟨hs, fun l hl => h _ _ (same_new hl) (dt_new ha hl)⟩⟩
theorem s_tupT {x : V} {ds : List PyData} (hx : Dt K H x (.tuple ds)) (h : Q x H) : rTupU K [x] H Q := by
  obtain ⟨a, xs, rfl, hs, ha⟩ := hx.tup_inv
  exact ⟨a, xs, rfl, .inr ⟨hs, h⟩⟩
theorem s_listT {x : V} {ds : List PyData} (hx : Dt K H x (.tuple ds)) (h : ∀ l ys H', Same H H' → H l = none → H' l = some (.lst ys) → DtAll K H' ys ds → Q (.ref l) H') : rListU K [x] H Q := by
  obtain ⟨a, xs, rfl, hs, ha⟩ := hx.tup_inv
  exact ⟨a, xs, rfl, .inr hs, fun l hl => h l xs _ (same_new hl) hl upd_same (ha.mono (kt_new hl))⟩
theorem s_addTG {x y : V} {ds es : List PyData} (hx : Dt K H x (.tuple ds)) (hy : Dt K H y (.tuple es)) (n1 : ds ≠ []) (l : ds.length + es.length ≤ 1000) (h : ∀ v H', Same H H' → Dt K H' v (.tuple (ds ++ es)) → Q v H') : rAddU K x y H Q := by
  by_cases n2 : es = []
  · subst n2
    have hx2 := hx
    obtain ⟨a, xs, rfl, hs, ha⟩ := hx.tup_inv
    obtain ⟨b, ys, rfl, ht, hb⟩ := hy.tup_inv
    have e1 := ha.len
    have e2 := hb.len
    simp only [List.length_nil] at l e2
    obtain rfl : ys = [] := List.length_eq_zero_iff.mp e2
    refine .inr (.inr (.inr ⟨a, b, xs, [], rfl, rfl, hs, ht, fun z => n1 (by subst z; exact List.length_eq_zero_iff.mp e1.symm), Nat.le_of_lt (L2.small1000 (by simp only [List.length_nil]; omega)), fun _ => h _ _ (Same.refl _) (by rw [List.append_nil]; exact hx2), fun z => absurd rfl z⟩))
  · exact s_addT hx hy n1 n2 l h
theorem s_ixT6 {x : V} {d0 d1 d2 d3 d4 d5 d6 : PyData} {ds : List PyData} (hx : Dt K H x (.tuple (d0 :: d1 :: d2 :: d3 :: d4 :: d5 :: d6 :: ds))) (h : ∀ v, Dt K H v d6 → Q v H) : rIx K x (.int 6) H Q := s_ixT hx (atI_nat (j := 6) rfl) h
theorem s_ixT7 {x : V} {d0 d1 d2 d3 d4 d5 d6 d7 : PyData} {ds : List PyData} (hx : Dt K H x (.tuple (d0 :: d1 :: d2 :: d3 :: d4 :: d5 :: d6 :: d7 :: ds))) (h : ∀ v, Dt K H v d7 → Q v H) : rIx K x (.int 7) H Q := s_ixT hx (atI_nat (j := 7) rfl) h
theorem s_ixT8 {x : V} {d0 d1 d2 d3 d4 d5 d6 d7 d8 : PyData} {ds : List PyData} (hx : Dt K H x (.tuple (d0 :: d1 :: d2 :: d3 :: d4 :: d5 :: d6 :: d7 :: d8 :: ds))) (h : ∀ v, Dt K H v d8 → Q v H) : rIx K x (.int 8) H Q := s_ixT hx (atI_nat (j := 8) rfl) h
theorem s_ixT9 {x : V} {d0 d1 d2 d3 d4 d5 d6 d7 d8 d9 : PyData} {ds : List PyData} (hx : Dt K H x (.tuple (d0 :: d1 :: d2 :: d3 :: d4 :: d5 :: d6 :: d7 :: d8 :: d9 :: ds))) (h : ∀ v, Dt K H v d9 → Q v H) : rIx K x (.int 9) H Q := s_ixT hx (atI_nat (j := 9) rfl) h
theorem s_ixT10 {x : V} {d0 d1 d2 d3 d4 d5 d6 d7 d8 d9 d10 : PyData} {ds : List PyData} (hx : Dt K H x (.tuple (d0 :: d1 :: d2 :: d3 :: d4 :: d5 :: d6 :: d7 :: d8 :: d9 :: d10 :: ds))) (h : ∀ v, Dt K H v d10 → Q v H) : rIx K x (.int 10) H Q := s_ixT hx (atI_nat (j := 10) rfl) h
theorem last10 {α : Type} {a b c d e f g i j k : α} : [a, b, c, d, e, f, g, i, j, k].getLast? = some k := rfl
theorem s_ixTm1 {x : V} {ds : List PyData} {d : PyData} (hx : Dt K H x (.tuple ds)) (e : ds.getLast? = some d) (h : ∀ v, Dt K H v d → Q v H) : rIx K x (.int (-1)) H Q := by
  refine s_ixT hx (i := -1) ?_ h
  have hl : 0 < ds.length := by
    cases ds with
    | nil => cases e
    | cons _ _ => simp
  rw [List.getLast?_eq_getElem?] at e
  unfold atI ixN
  rw [if_neg (by omega)]
  rw [if_pos (by omega)]
  show ds[((-1 : Int) + ds.length).toNat]? = some d
  rw [← e]
  congr 1
  omega
theorem s_truL {p : Addr} {xs : List V} {N : Bool → Prop} (hs : SqL K H p xs) (h : N (!xs.isEmpty)) : ∃ k, TruV K (.ref p) H k ∧ N k := ⟨_, .inl ⟨xs, hs, rfl⟩, h⟩
theorem s_isBb {b : Bool} (h : Q (.bl true) H) : rIsB (.bl b) (.bl b) H Q := ⟨b, b, rfl, rfl, by rw [decide_eq_true rfl]; exact h⟩
theorem s_ntBb {b : Bool} (h : Q (.bl false) H) : rNotB (.bl b) (.bl b) H Q := ⟨b, b, rfl, rfl, by rw [decide_eq_true rfl]; exact h⟩
theorem s_ixLm1 {a : Addr} {xs : List V} {v : V} (hs : SqL K H a xs) (e : xs.getLast? = some v) (h : Q v H) : rIx K (.ref a) (.int (-1)) H Q := by
  refine s_ixL hs (i := -1) ?_ h
  have hl : 0 < xs.length := by
    cases xs with
    | nil => cases e
    | cons _ _ => simp
  rw [List.getLast?_eq_getElem?] at e
  unfold atI ixN
  rw [if_neg (by omega)]
  rw [if_pos (by omega)]
  show xs[((-1 : Int) + xs.length).toNat]? = some v
  rw [← e]
  congr 1
  omega
theorem ixN_nat {n j : Nat} (h : j < n) : ixN n (j : Int) = some j := by
  unfold ixN
  rw [if_pos (by omega), if_pos (by omega)]
  rfl
theorem DtAll.set {vs : List V} {ds : List PyData} {v : V} {d : PyData} (h : DtAll K H vs ds) (hv : Dt K H v d) : ∀ n : Nat, DtAll K H (vs.set n v) (ds.set n d) := by
  induction ds generalizing vs with
  | nil => cases h; intro n; exact .nil
  | cons d ds ih =>
    cases h with
    | cons h a =>
      intro n
      cases n with
      | zero => exact .cons hv a
      | succ n => exact .cons h (ih a n)
theorem s_isBl {a b : Bool} (h : Q (.bl (decide (a = b))) H) : rIsB (.bl a) (.bl b) H Q := ⟨a, b, rfl, rfl, h⟩
theorem s_ntBl {a b : Bool} (h : Q (.bl (!decide (a = b))) H) : rNotB (.bl a) (.bl b) H Q := ⟨a, b, rfl, rfl, h⟩
end
end Cr
namespace Cr
open PySem PySem.Spec PyProof.Rows L2
/-! ### texts: signs, names -/
def sign (c : Nat) : Str := ⟨#[c]⟩
/-- a name: one to twelve small letters -/
def Nm (x : Str) : Prop := 1 ≤ x.cps.size ∧ x.cps.size ≤ 12 ∧ ∀ c, c ∈ x.cps.toList → 97 ≤ c ∧ c ≤ 122
theorem str_app (a b : Str) : a ++ b = ⟨a.cps ++ b.cps⟩ := rfl
theorem join_signs : ∀ cs : List Nat, Txt.join ("" : Str) (cs.map sign) = ⟨cs.toArray⟩ := by
  intro cs
  show Builtin.Str.glued _ _ = _
  rw [StrLaws.glued_eq_join]
  have e : (("" : String) : Str) = ⟨#[]⟩ := by decide +kernel
  rw [e]
  induction cs with
  | nil => rfl
  | cons c cs ih =>
    cases cs with
    | nil => rfl
    | cons d r =>
      show sign c ++ ⟨#[]⟩ ++ Str.join ⟨#[]⟩ (sign d :: r.map sign) = _
      rw [show sign d :: r.map sign = (d :: r).map sign from rfl, ih]
      simp [str_app, sign]
def rJoinU (K : PySem.W.Frag) : V → List V → Hp → VK → Prop := fun x xs H Q => ∃ a p, ∃ ys : List Str, x = .str a ∧ xs = [.ref p] ∧ (SqL K H p (ys.map V.str) ∨ SqT K H p (ys.map V.str)) ∧ (ys.map (·.length)).sum + ys.length * a.length ≤ 16777216 ∧ Q (.str (Txt.join a ys)) H
theorem pe_joinU {X : Cx} {o e : Expr} {to te : TE} {apos pos : Pos} (ho : PE X o to) (he : PE X e te) (hs : starEach [e] X.env = [(false, eval e X.env)] := by rfl) (hbase : attributeBase o "join" X.env (eval o X.env) = eval o X.env := by rfl) (hline : (apos.endLine == pos.line) = true := by rfl) :
    PE X (.Call (.Attribute o "join" apos) [e] [] pos) (tM1 (rJoinU X.K) to te) := pe_join ho he hs hbase hline
theorem small_sum : ∀ ys : List Str, (∀ y, y ∈ ys → y.length ≤ 1000) → (ys.map (·.length)).sum ≤ 1000 * ys.length
  | [], _ => Nat.le_refl _
  | y :: ys, h => by
    have h1 := h y List.mem_cons_self
    have h2 := small_sum ys fun z hz => h z (List.mem_cons_of_mem _ hz)
    rw [List.map_cons, List.sum_cons, List.length_cons]
    omega
theorem abc_list : (("abcdefghijklmnopqrstuvwxyz" : String) : Str).cps.toList = (List.range 26).map (97 + ·) := by decide +kernel
theorem abch_cps : (("abcdefgh" : String) : Str).cps = #[97, 98, 99, 100, 101, 102, 103, 104] := by decide +kernel
def rInsertU : V → List V → Hp → VK → Prop := fun x vs H Q => ∃ (l : Addr) (xs : List V) (i : Int) (y : V), x = .ref l ∧ vs = [.int i, y] ∧ H l = some (.lst xs) ∧ xs.length < sizeLine ∧ 0 ≤ i ∧ i < 2 ^ 63 ∧ Q .non (upd H l (.lst (xs.take i.toNat ++ [y] ++ xs.drop i.toNat)))
theorem mt_insertU {X : Cx} : MtR X "list.insert" rInsertU := mt_insert
def TaQ (x : V) (N : Prop) : Prop := (∃ a, x = V.str a) ∧ N
section
variable {K : PySem.W.Frag} {σ : St} {H : Hp} {Q : VK} {D : Ends}
theorem s_m1 {r : V → List V → Hp → VK → Prop} {to te : TE} (h : to σ H fun x H1 => TaQ x (te σ H1 fun y H2 => r x [y] H2 Q)) : tM1 r to te σ H Q := h
theorem s_isStr {a : Str} {N : Prop} (h : N) : TaQ (.str a) N := ⟨⟨a, rfl⟩, h⟩
theorem s_join {p : Addr} {a : Str} {ys : List Str} (hs : SqL K H p (ys.map V.str)) (hl : (ys.map (·.length)).sum + ys.length * a.length ≤ 16777216) (h : Q (.str (Txt.join a ys)) H) : rJoinU K (.str a) [.ref p] H Q := ⟨a, p, ys, rfl, rfl, .inl hs, hl, h⟩
theorem s_abc {k : Int} (h0 : 0 ≤ k) (h1 : k < 26) (h : ∀ c, 97 ≤ c → c ≤ 122 → Q (.str (sign c)) H) : rIx K (.str ("abcdefghijklmnopqrstuvwxyz" : String)) (.int k) H Q := by
  obtain ⟨j, rfl⟩ : ∃ j : Nat, k = (j : Int) := ⟨k.toNat, by omega⟩
  refine s_ixS (c := 97 + j) (by decide +kernel) (atI_nat ?_) (h _ (by omega) (by omega))
  rw [abc_list, List.getElem?_map, List.getElem?_range (by omega)]
  rfl
theorem eqV_str (x y : Str) : eqV (.str x) (.str y) = decide (x = y) := by
  show (x == y) = _
  by_cases h : x = y
  · subst h; simp
  · rw [decide_eq_false h]; exact beq_eq_false_iff_ne.mpr h
theorem inV_strs (x : Str) : ∀ ys : List Str, inV (.str x) (ys.map V.str) = decide (x ∈ ys)
  | [] => rfl
  | y :: ys => by
    have ih := inV_strs x ys
    unfold inV at ih ⊢
    rw [List.map_cons, List.any_cons, ih, eqV_str]
    by_cases h : y = x
    · subst h; simp
    · rw [decide_eq_false h, Bool.false_or]
      by_cases g : x ∈ ys
      · rw [decide_eq_true g, decide_eq_true (List.mem_cons_of_mem _ g)]
      · rw [decide_eq_false g, decide_eq_false (fun z => (List.mem_cons.mp z).elim (fun e => h e.symm) g)]
theorem flat_strs (ys : List Str) : (ys.map V.str).all flatV = true := by
  rw [List.all_map, List.all_eq_true]
  intro _ _
  rfl
theorem s_inS {p : Addr} {x : Str} {ys : List Str} (hs : SqL K H p (ys.map V.str)) (h : Q (.bl (decide (x ∈ ys))) H) : rIn K false (.str x) (.ref p) H Q :=
  ⟨p, _, rfl, .inl hs, rfl, flat_strs ys, by rw [inV_strs]; exact h⟩
theorem s_ntInS {p : Addr} {x : Str} {ys : List Str} (hs : SqL K H p (ys.map V.str)) (h : Q (.bl (!decide (x ∈ ys))) H) : rIn K true (.str x) (.ref p) H Q :=
  ⟨p, _, rfl, .inl hs, rfl, flat_strs ys, by rw [inV_strs]; exact h⟩
def takeS (x : Str) (n : Nat) : Str := ⟨(x.cps.toList.take n).toArray⟩
def dropS (x : Str) (n : Nat) : Str := ⟨(x.cps.toList.drop n).toArray⟩
theorem s_slShi {x : Str} {hi : Int} (l : x.length ≤ sizeLine) (h0 : 0 ≤ hi) (h : Q (.str (takeS x hi.toNat)) H) : rSlS (.str x) none (some hi) H Q :=
  ⟨x, rfl, l, by
    unfold cutS
    rw [show x.length = x.cps.toList.length from rfl, cut_hi _ h0]
    exact h⟩
theorem s_slSlo {x : Str} {lo : Int} (l : x.length ≤ sizeLine) (h0 : 0 ≤ lo) (h : Q (.str (dropS x lo.toNat)) H) : rSlS (.str x) (some lo) none H Q :=
  ⟨x, rfl, l, by
    unfold cutS
    rw [show x.length = x.cps.toList.length from rfl, cut_lo _ h0]
    exact h⟩
theorem f_str {x : Str} {g : TG} {tb : TS} (Pv : Nat → St → Hp → Prop) (h0 : Pv 0 σ H)
    (hs : ∀ i c σ H, x.cps[i]? = some c → Pv i σ H → g (.str (sign c)) σ H fun σ2 H2 => tb { D with nx := Pv (i + 1), ct := Pv (i + 1), bk := D.nx } σ2 H2) (hd : ∀ σ H, Pv x.cps.size σ H → D.nx σ H) : ForR (Its x) g tb D σ H := by
  refine ⟨fun i m σ' H' => m = x.cps.size - i ∧ i ≤ x.cps.size ∧ Pv i σ' H', ⟨_, rfl, Nat.zero_le _, h0⟩, ?_⟩
  rintro i m σ' H' ⟨rfl, hi, p⟩
  by_cases hlt : i < x.cps.size
  · refine .inr ⟨hlt, Pv (i + 1), fun σ2 H2 p' => ⟨x.cps.size - (i + 1), by omega, rfl, hlt, p'⟩, fun v H2 y => ?_⟩
    obtain ⟨e, c, ec, ev⟩ := y
    subst e ev
    exact hs i c _ _ ec p
  · have e : i = x.cps.size := by omega
    subst e
    exact .inl ⟨Nat.le_refl _, hd _ _ p⟩
theorem s_iStr {te : TE} {R : It → Hp → Prop} (h : te σ H fun v H1 => ∃ x, v = .str x ∧ R (Its x) H1) : iStr te σ H R := h
theorem s_isIts {x : Str} {N : Str → Prop} (h : N x) : ∃ y, V.str x = .str y ∧ N y := ⟨x, rfl, h⟩
end
end Cr
namespace Cr
open PySem PySem.Spec PyProof.Rows L2
/-! ### dicts; fields and methods of small instances -/
def GetA (x : V) (H : Hp) (N : Addr → Prop) : Prop := ∃ a, x = .ref a ∧ IsD H a ∧ N a
def GetB (a : Addr) (y : V) (H : Hp) (N : Option V → Prop) : Prop := ∃ o, DGet H a y o ∧ N o
def PutQ (x y v : V) (H : Hp) (N : Hp → Prop) : Prop := ∃ a H4, x = .ref a ∧ DPut H a y v H4 ∧ N H4
section
variable {K : PySem.W.Frag} {σ : St} {H : Hp} {Q : VK} {D : Ends}
theorem s_dget2 {td ty tx : TE} (h : td σ H fun x H1 => GetA x H1 fun a => ty σ H1 fun y H2 => tx σ H2 fun z H3 => GetB a y H3 fun o => Q (o.getD z) H3) : tDGet2 td ty tx σ H Q := h
theorem s_dput {td ty tv : TE} (h : tv σ H fun v H1 => td σ H1 fun x H2 => ty σ H2 fun y H3 => PutQ x y v H3 fun H4 => D.nx σ H4) : sDPut td ty tv D σ H := h
theorem s_getA {d : Addr} {kvs : List (Key × V)} {N : Addr → Prop} (hd : H d = some (.dK kvs)) (h : N d) : GetA (.ref d) H N := ⟨d, rfl, .inl ⟨kvs, .inl hd⟩, h⟩
theorem s_getBS {d : Addr} {kvs : List (Key × V)} {s : Str} {N : Option V → Prop} (hd : H d = some (.dK kvs)) (h : N (valV kvs (.inr s))) : GetB d (.str s) H N := ⟨_, DGet.k (k := .inr s) hd, h⟩
theorem s_getBI {d : Addr} {kvs : List (Key × V)} {i : Int} {N : Option V → Prop} (hd : H d = some (.dK kvs)) (h : N (valV kvs (.inl i))) : GetB d (.int i) H N := ⟨_, DGet.k (k := .inl i) hd, h⟩
theorem s_putS {d : Addr} {kvs : List (Key × V)} {s : Str} {v : V} {N : Hp → Prop} (hd : H d = some (.dK kvs)) (hl : kvs.length < sizeLine) (h : N (upd H d (.dK (putK kvs (.inr s) v)))) : PutQ (.ref d) (.str s) v H N := ⟨d, _, rfl, DPut.k (k := .inr s) hd hl, h⟩
theorem s_dnewK (h : ∀ p, H p = none → Q (.ref p) (upd H p (.dK []))) : tDNewK σ H Q := h
theorem s_eqII {i : Int} (h : Q (.bl true) H) : rEqD K (.int i) (.int i) H Q := s_eqI (by rw [decide_eq_true rfl]; exact h)
theorem s_neII {i : Int} (h : Q (.bl false) H) : rNeD K (.int i) (.int i) H Q := s_neI (by rw [decide_eq_true rfl]; exact h)
theorem s_fld1 {a : Addr} {C dx : Addr} {f : Str} {v : V} (hx : H a = some (.ins C dx [(f, v)])) (c : Cls K C) (n : NoAttr K C f) (q : Q v H) : FldQ K (.ref a) f H Q :=
  ⟨a, C, dx, _, v, rfl, hx, c, n, by rw [List.lookup_cons, beq_self_eq_true], q⟩
theorem s_meth1 {C a dx : Addr} {f mn : Str} {v : V} {N : Prop} (hx : H a = some (.ins C dx [(f, v)])) (e : (mn == f) = false) (n : N) : MethQ C mn (.ref a) H N :=
  ⟨a, dx, _, rfl, hx, by rw [List.lookup_cons, e]; rfl, n⟩


end
/-- all but what stands at d stays, a dict or a list stands at d -/
structure Oth (d : Addr) (H H' : Hp) : Prop where
  oth : ∀ a o, a ≠ d → H a = some o → H' a = some o
  mu : ∃ o, H d = some o ∧ isZ o = false
theorem ki_oth {d : Addr} {H H' : Hp} (s : Oth d H H') : KI H H' := fun a o h t => s.oth a o (fun z => by
  subst z
  obtain ⟨u, e, k⟩ := s.mu
  rw [e] at h
  cases h
  rw [k] at t
  cases t) h
theorem ne_new {H : Hp} {p q : Addr} {o : HO} (h : upd H p o q = none) : q ≠ p := fun e => by rw [e, upd_same] at h; cases h
theorem free_upd {H : Hp} {p q : Addr} {o : HO} (h : upd H p o q = none) : H q = none := by
  have n := ne_new h
  rw [upd_ne n] at h
  exact h
theorem Oth.bag {d b l : Addr} {H H' : Hp} (s : Oth d H H') (n1 : d ≠ b) (n2 : d ≠ l) (h : Bag H b l) : Bag H' b l := by
  obtain ⟨ns, p, r, z, h1, h2, h3⟩ := h
  exact ⟨ns, p, r, z, s.oth _ _ n1.symm h1, s.oth _ _ n2.symm h2, h3⟩
end Cr
namespace Cr
open PySem PySem.Spec PyProof.Rows L2
/-! ### list(d.values()) -/
def DVals (H : Hp) (a : Addr) (vs : List V) : Prop := (∃ kvs : List (Key × V), H a = some (.dK kvs) ∧ vs = kvs.map (·.2)) ∨ ∃ kvs : List (List Key × V), H a = some (.dT kvs) ∧ vs = kvs.map (·.2)
def tListVals (td : TE) : TE := fun σ H Q => td σ H fun x H1 => ∃ a vs, x = V.ref a ∧ DVals H1 a vs ∧ ∀ l, H1 l = none → Q (.ref l) (upd H1 l (.lst vs))
theorem dvals_raw {X : Cx} {pins : List (Addr × Obj)} {σ : St} {H : Hp} {s : Shared} {a : Addr} {vs : List V} (I : Inv X pins σ H s) (h : DVals H a vs) :
    ∃ es ep, s.heap.DictRaw a es ep ∧ (a == sysModules) = false ∧ vs.length ≤ sizeLine ∧ es.size = vs.length ∧ ∀ i (hi : i < es.size), ∃ v, vs[i]? = some v ∧ RelV v es[i].val := by
  rcases h with ⟨kvs, e, rfl⟩ | ⟨kvs, e, rfl⟩
  · obtain ⟨hz, hs, ks, rel, dof⟩ := dk_of I.hok e
    obtain ⟨es, ep, hr, hsz, hv⟩ := Heap.DictOf.raw dof
    have hl := KV.length rel
    refine ⟨es, ep, hr, hs, by rw [List.length_map]; exact hz, by rw [List.length_map, hsz, hl], fun i hi => ?_⟩
    have hi2 : i < ks.length := by omega
    obtain ⟨x, h1, h2⟩ := KV.at' rel (i := i) (k := ks[i].1) (v := ks[i].2) (List.getElem?_eq_getElem hi2)
    refine ⟨x, by rw [List.getElem?_map, h1]; rfl, ?_⟩
    rw [(hv i hi ks[i].1 ks[i].2 (List.getElem?_eq_getElem hi2)).2]
    exact h2
  · obtain ⟨hz, hs, xs, rel, dof⟩ := dt_of I.hok e
    obtain ⟨es, ep, hr, hsz, hv⟩ := Heap.DictOfH.raw dof
    have hl : kvs.length = xs.length := Paired.length rel
    have at_ : ∀ {kvs : List (List Key × V)} {xs : List (List Key × Addr × Value)}, L2.KT H kvs xs → ∀ {i : Nat} {y : List Key × Addr × Value}, xs[i]? = some y → ∃ p, kvs[i]? = some p ∧ RelV p.2 y.2.2 := by
      intro kvs xs r
      induction r with
      | nil => intro i y e; simp at e
      | cons hp t ih =>
        intro i y e
        cases i with
        | zero => simp at e; subst e; exact ⟨_, rfl, hp.2.2⟩
        | succ i => simp at e; exact ih e
    refine ⟨es, ep, hr, hs, by rw [List.length_map]; exact hz, by rw [List.length_map, hsz, hl], fun i hi => ?_⟩
    obtain ⟨y, h1, _, h3, _⟩ := hv i hi
    obtain ⟨p, h4, h5⟩ := at_ rel h1
    refine ⟨p.2, by rw [List.getElem?_map, h4]; rfl, ?_⟩
    rw [h3]
    exact h5
section
variable {X : Cx} {o : Expr} {p pos apos mpos : Pos} {td : TE}
theorem pe_listVals (hc : X.calm = true) (hg : Gl X "list") (hm : X.mg "list" = none) (hd : PE X o td) (hbase : attributeBase o "values" X.env (eval o X.env) = eval o X.env := by rfl) (hline : (apos.endLine == mpos.line) = true := by rfl)
    (hse : starEach [Expr.Call (.Attribute o "values" apos) [] [] mpos] X.env = [(false, eval (Expr.Call (.Attribute o "values" apos) [] [] mpos) X.env)] := by rfl) :
    PE X (.Call (.Name "list" p) [.Call (.Attribute o "values" apos) [] [] mpos] [] pos) (tListVals td) := by
  refine ⟨fun pins s σ H Q I h => ?_⟩
  refine wpAny_Call_Name_kw (ld_blt I hg hm (u := .type "list") (by first | rfl | decide +kernel) ?_ (by first | decide +kernel | decide) (by first | decide +kernel | decide))
  rw [hse]
  refine PySem.callWith_type1 (wpAny_Call_method0_late hbase hline (thn (hd.run pins s σ H _ I h) fun v s1 ⟨x, H1, I1, r1, a, vs, ex, ha, q⟩ => ?_))
  subst ex
  obtain rfl : v = Value.ref a := r1
  obtain ⟨es, ep, hr, hsys, hz, hsz, hv⟩ := dvals_raw I1 ha
  obtain ⟨ob, ho, hx, hdat⟩ := id hr
  refine ⟨"dict", "dict.values", F.plainAttrs_dict, F.slot_dict_values, F.type_dict_values, ⟨ob, ho, hx.1⟩, fun b e => ?_, Calls.callWith_builtin rfl (PySem.evalArgs_none ?_)⟩
  · cases e
    exact ⟨ob, ho, hx.2.1⟩
  refine call_meetsIn F.slot_dict_values ⟨ob, ho, hx.1⟩ F.entry_dict_values (F.args_dict_values_1 _) (meets_dict_values_raw a hsys) ⟨⟨es, ep, hr⟩, ?_⟩
  have k1 : ∀ b u, s1.heap.get? b = some u → (s1.heap.push { cls := .type "dict_values", data := .fields #[.ref a] }).get? b = some u := fun b u e => Heap.get?_push_of_some _ e
  refine PySem.W.kdl_call (KdlSrc.rawValues (r := s1.heap.objs.size) (d := a) (es := es) (ep := ep)) (I1.ok.hd hc) ⟨⟨_, Heap.get?_push_size _ rfl, rfl, rfl⟩, ⟨ob, k1 _ _ ho, hx, hdat⟩⟩ (by omega) fun h' tk acc' c' hkeep hS hacc => ?_
  have hsz1 : s1.heap.objs.size ≤ (s1.heap.push { cls := .type "dict_values", data := .fields #[.ref a] }).objs.size := by rw [Heap.size_push]; exact Nat.le_succ _
  refine ⟨.ref _, upd H1 _ (.lst vs), I1.laid (t' := tk) (fun b u e => hkeep b u (k1 b u e)) hsz1 (show ObjOk X.prog X.w _ _ _ (.lst vs) from ⟨hz, acc'.toList, c', ?_, ?_⟩), rfl, q _ (I1.hok.fresh hsz1)⟩
  · refine vals_of_at (by have h1 := hacc.1; rw [show acc'.toList.length = acc'.size by simp]; omega) fun j x u h1 h2 => ?_
    obtain ⟨hi, e2⟩ := hacc.2 j u (by rw [← Array.getElem?_toList]; exact h2)
    obtain ⟨v, h3, h4⟩ := hv j hi
    rw [h1] at h3
    cases h3
    rw [e2]
    exact h4
  · rw [Array.toArray_toList]
    exact hS
end
end Cr
namespace Cr
open PySem PySem.Spec PyProof.Rows L2
/-- a fraction's own tuple, not frozen, no constant -/
def Fz (H : Hp) (v : V) (r : Rat) : Prop := ∃ a, v = .ref a ∧ H a = some (.tup [.int r.num, .int r.den])
theorem Fz.dt {K : PySem.W.Frag} {H : Hp} {v : V} {r : Rat} (h : Fz H v r) : Dt K H v (fr r) := by
  obtain ⟨a, rfl, h⟩ := h
  exact .tup (.inl (.inl h)) (.cons (.int _) (.cons (.int _) .nil))
theorem fz_new {H : Hp} {p : Addr} {r : Rat} : Fz (upd H p (.tup [.int r.num, .int r.den])) (.ref p) r := ⟨p, rfl, upd_same⟩
/-- a fraction as a key -/
def keyF (r : Rat) : List Key := [.inl r.num, .inl (r.den : Int)]
theorem keyF_inj {r s : Rat} (h : keyF r = keyF s) : r = s := by
  injection h with h1 h2
  injection h2 with h2 _
  exact Rat.ext (Sum.inl.inj h1) (by have := Sum.inl.inj h2; omega)
theorem Fz.get {H : Hp} {d : Addr} {v : V} {r : Rat} {kvs : List (List Key × V)} (h : Fz H v r) (e : H d = some (.dT kvs)) : DGet H d v (valV kvs (keyF r)) := by
  obtain ⟨a, rfl, h⟩ := h
  exact DGet.t e h
theorem Fz.put {H : Hp} {d : Addr} {v y : V} {r : Rat} {kvs : List (List Key × V)} (h : Fz H v r) (e : H d = some (.dT kvs)) (l : kvs.length < sizeLine) : DPut H d v y (upd H d (.dT (putK kvs (keyF r) y))) := by
  obtain ⟨a, rfl, h⟩ := h
  exact DPut.t e h l
theorem Fz.mono {H H' : Hp} {v : V} {r : Rat} (k : KT H H') (h : Fz H v r) : Fz H' v r := by
  obtain ⟨a, e, h⟩ := h
  exact ⟨a, e, k _ _ h rfl⟩
section
variable {K : PySem.W.Frag} {σ : St} {H : Hp} {Q : VK} {D : Ends}
def DInQ (y x : V) (H : Hp) (N : Bool → Prop) : Prop := ∃ a o, x = V.ref a ∧ DGet H a y o ∧ N o.isSome
def DGetQ (x y : V) (H : Hp) (N : V → Prop) : Prop := ∃ a v, x = V.ref a ∧ DGet H a y (some v) ∧ N v
theorem s_dinV {ty td : TE} (h : ty σ H fun y H1 => td σ H1 fun x H2 => DInQ y x H2 fun b => Q (.bl b) H2) : tDIn ty td σ H Q := by
  have e : (fun y H1 => td σ H1 fun x H2 => DInQ y x H2 fun b => Q (.bl b) H2) = fun y H1 => td σ H1 fun x H2 => ∃ a o, x = V.ref a ∧ DGet H2 a y o ∧ Q (.bl o.isSome) H2 := rfl
  exact h
theorem s_dgetV {ty td : TE} (h : td σ H fun x H1 => ty σ H1 fun y H2 => DGetQ x y H2 fun v => Q v H2) : tDGet td ty σ H Q := h
theorem s_dinF {d : Addr} {y : V} {r : Rat} {kvs : List (List Key × V)} {N : Bool → Prop} (h : Fz H y r) (e : H d = some (.dT kvs)) (n : N (valV kvs (keyF r)).isSome) : DInQ y (.ref d) H N := ⟨d, _, rfl, h.get e, n⟩
theorem s_dgetF {d : Addr} {y v : V} {r : Rat} {kvs : List (List Key × V)} {N : V → Prop} (h : Fz H y r) (e : H d = some (.dT kvs)) (ev : valV kvs (keyF r) = some v) (n : N v) : DGetQ (.ref d) y H N := ⟨d, v, rfl, by rw [← ev]; exact h.get e, n⟩
theorem s_putF {d : Addr} {y v : V} {r : Rat} {kvs : List (List Key × V)} {N : Hp → Prop} (h : Fz H y r) (e : H d = some (.dT kvs)) (l : kvs.length < sizeLine) (n : N (upd H d (.dT (putK kvs (keyF r) v)))) : PutQ (.ref d) y v H N := ⟨d, _, rfl, h.put e l, n⟩
theorem s_dnewT (h : ∀ p, H p = none → Q (.ref p) (upd H p (.dT []))) : tDNewT σ H Q := h
def LvQ (x : V) (H : Hp) (Q : VK) : Prop := ∃ a vs, x = V.ref a ∧ DVals H a vs ∧ ∀ l, H l = none → Q (.ref l) (upd H l (.lst vs))
theorem s_lv {td : TE} (h : td σ H fun x H1 => LvQ x H1 Q) : tListVals td σ H Q := h
theorem s_lvT {d : Addr} {kvs : List (List Key × V)} (e : H d = some (.dT kvs)) (h : ∀ l, H l = none → Q (.ref l) (upd H l (.lst (kvs.map (·.2))))) : LvQ (.ref d) H Q := ⟨d, _, rfl, .inr ⟨kvs, e, rfl⟩, h⟩
theorem s_lvK {d : Addr} {kvs : List (Key × V)} (e : H d = some (.dK kvs)) (h : ∀ l, H l = none → Q (.ref l) (upd H l (.lst (kvs.map (·.2))))) : LvQ (.ref d) H Q := ⟨d, _, rfl, .inl ⟨kvs, e, rfl⟩, h⟩
theorem s_aug {i : Nat} {te : TE} {ti : TIp} {x : V} (e : σ[i]? = some (some x)) (h : te σ H fun y H1 => ti x y H1 fun z H2 => gName i z σ H2 D.nx) : tAug i te ti D σ H := ⟨x, e, h⟩
theorem s_ipAdd {i j : Int} (h : Q (.int (i + j)) H) : ipI (fun i j => i + j) (.int i) (.int j) H Q := ⟨i, j, rfl, rfl, h⟩
theorem s_ipSub {i j : Int} (h : Q (.int (i - j)) H) : ipI (fun i j => i - j) (.int i) (.int j) H Q := ⟨i, j, rfl, rfl, h⟩
theorem s_insert {a : Addr} {xs : List V} {i : Int} {y : V} (hs : H a = some (.lst xs)) (z : xs.length < sizeLine) (h0 : 0 ≤ i) (h1 : i < 2 ^ 63) (h : Q .non (upd H a (.lst (xs.take i.toNat ++ [y] ++ xs.drop i.toNat)))) : rInsertU (.ref a) [.int i, y] H Q := ⟨a, xs, i, y, rfl, rfl, hs, z, h0, h1, h⟩
theorem s_popAt {a : Addr} {xs : List V} {j : Nat} {y : V} (hs : H a = some (.lst xs)) (hl : xs.length ≤ 1000) (e : xs[j]? = some y) (h : Q y (upd H a (.lst (xs.eraseIdx j)))) : rPopAt (.ref a) [.int (j : Int)] H Q := by
  have hj : j < xs.length := (List.getElem?_eq_some_iff.mp e).1
  refine ⟨a, xs, _, j, y, rfl, rfl, hs, by omega, by omega, ?_, e, h⟩
  unfold seqIndex?
  simp only []
  first
    | rfl
    | (rw [if_neg (by omega)]; rw [if_pos (by omega)]; rfl)
    | (simp; omega)
end
end Cr
namespace Cr
open PySem PySem.Spec PyProof.Rows L2
/-! ### list comprehensions over a range with a test; texts compared -/
section
variable {K : PySem.W.Frag} {σ : St} {H : Hp} {Q : VK} {D : Ends}
theorem c_rangeT {n : Nat} {g : TG} {tt : TT} {te : TE} {vs : List Nat} (pr : Nat → Bool) (f : Nat → V) (hz : n ≤ 1000)
    (turn : ∀ (i : Nat) A (Nt : V → Hp → Prop) (Nf : Hp → Prop), i < n → Same H A → (pr i = true → ∀ B, Same A B → Nt (f i) B) → (pr i = false → ∀ B, Same A B → Nf B) → g (.int (0 + (i : Int))) (wipe σ vs) A fun σ2 B => wipe σ2 vs = wipe σ vs ∧ tt σ2 B fun b B2 => if b = true then te σ2 B2 Nt else Nf B2)
    (fin : ∀ q A, Same H A → H q = none → A q = some (.lst (((List.range n).filter pr).map f)) → Q (.ref q) A) : LcR (Itr 0 n) g tt te vs σ H Q := by
  intro d hd
  have hlen : ∀ i, i ≤ n → (((List.range i).filter pr).map f).length ≤ 1000 := fun i hi => by
    rw [List.length_map]
    have := List.length_filter_le pr (List.range i)
    rw [List.length_range] at this
    omega
  refine lc_range (fun i A => Same H A ∧ A d = some (.lst (((List.range i).filter pr).map f))) ⟨same_new hd, upd_same⟩ ?_ ?_
  · rintro i A hi ⟨hs, hA⟩
    refine turn i A _ _ hi hs (fun hp B sb => ?_) (fun hp B sb => ?_)
    · refine ⟨_, sb _ _ hA, L2.small1000 (hlen i (by omega)), same_mut (hs.trans sb) hd, ?_⟩
      rw [upd_same, List.range_succ, List.filter_append, List.map_append, List.filter_cons_of_pos hp]
      rfl
    · refine ⟨hs.trans sb, ?_⟩
      rw [List.range_succ, List.filter_append, List.map_append, List.filter_cons_of_neg (by rw [hp]; exact Bool.false_ne_true), List.filter_nil, List.map_nil, List.append_nil]
      exact sb _ _ hA
  · rintro A ⟨hs, hA⟩
    exact fin d A hs hd hA
theorem eqvS (i j : Str) : PyData.eqv (.str i) (.str j) = decide (i = j) := by
  simp only [PyData.eqv]
  by_cases h : i = j <;> simp [h]
theorem s_eqS {i j : Str} (oi : SeqAt.shaped (.str i) = true) (oj : SeqAt.shaped (.str j) = true) (h : Q (.bl (decide (i = j))) H) : rEqD K (.str i) (.str j) H Q := ⟨_, _, .str i, .str j, oi, oj, by rw [eqvS]; exact h⟩
theorem s_neS {i j : Str} (oi : SeqAt.shaped (.str i) = true) (oj : SeqAt.shaped (.str j) = true) (h : Q (.bl (!decide (i = j))) H) : rNeD K (.str i) (.str j) H Q := ⟨_, _, .str i, .str j, oi, oj, by rw [eqvS]; exact h⟩
theorem s_eqSS {i : Str} (oi : SeqAt.shaped (.str i) = true) (h : Q (.bl true) H) : rEqD K (.str i) (.str i) H Q := s_eqS oi oi (by rw [decide_eq_true rfl]; exact h)
theorem s_neSS {i : Str} (oi : SeqAt.shaped (.str i) = true) (h : Q (.bl false) H) : rNeD K (.str i) (.str i) H Q := s_neS oi oi (by rw [decide_eq_true rfl]; exact h)
end
end Cr

namespace Cr
open PySem PySem.Spec PyProof.Rows L2
/-! ### data that can be laid out; isinstance; slices of tuples; written dicts -/
def LayN (n : Nat) (d : PyData) : Prop := d.canLay0 = true ∧ d.depth ≤ n
theorem LayN.mono {n m : Nat} {d : PyData} (h : LayN n d) (k : n ≤ m) : LayN m d := ⟨h.1, Nat.le_trans h.2 k⟩
theorem lay_all : ∀ {ds : List PyData}, (∀ d, d ∈ ds → d.canLay0 = true) → PyData.canLayAll0 ds = true
  | [], _ => by simp [PyData.canLayAll0]
  | d :: ds, h => by rw [PyData.canLayAll0, h d List.mem_cons_self, lay_all fun e he => h e (List.mem_cons_of_mem _ he)]; rfl
theorem depth_all {n : Nat} : ∀ {ds : List PyData}, (∀ d, d ∈ ds → d.depth ≤ n) → PyData.depthAll ds ≤ n
  | [], _ => by simp [PyData.depthAll]
  | d :: ds, h => by
    have h1 := h d List.mem_cons_self
    have h2 := depth_all fun e he => h e (List.mem_cons_of_mem _ he)
    simp only [PyData.depthAll]
    omega
theorem lay_tup {n : Nat} {ds : List PyData} (h : ∀ d, d ∈ ds → LayN n d) : LayN (n + 1) (.tuple ds) :=
  ⟨by rw [PyData.canLay0]; exact lay_all fun d hd => (h d hd).1, by have := depth_all fun d hd => (h d hd).2; simp only [PyData.depth]; omega⟩
theorem lay_lst {n : Nat} {ds : List PyData} (h : ∀ d, d ∈ ds → LayN n d) : LayN (n + 1) (.list ds) :=
  ⟨by rw [PyData.canLay0]; exact lay_all fun d hd => (h d hd).1, by have := depth_all fun d hd => (h d hd).2; simp only [PyData.depth]; omega⟩
theorem lay_int {n : Nat} (i : Int) : LayN n (.int i) := ⟨by simp only [PyData.canLay0], by simp only [PyData.depth]; omega⟩
theorem lay_non {n : Nat} : LayN n .none := ⟨by simp only [PyData.canLay0], by simp only [PyData.depth]; omega⟩
theorem lay_bl {n : Nat} (b : Bool) : LayN n (.bool b) := ⟨by simp only [PyData.canLay0], by simp only [PyData.depth]; omega⟩
def TxtOk (x : Str) : Prop := x.cps.all (· < 0x110000) = true
theorem lay_str {n : Nat} {x : Str} (h : TxtOk x) : LayN n (.str x) := ⟨by rw [PyData.canLay0]; exact h, by simp only [PyData.depth]; omega⟩
theorem LayN.sh {n : Nat} {d : PyData} (h : LayN n d) (k : n ≤ 64 := by decide) : SeqAt.shaped d = true := by
  unfold SeqAt.shaped
  rw [Bool.and_eq_true]
  exact ⟨h.1, decide_eq_true (Nat.le_trans h.2 k)⟩
theorem Nm.txt {x : Str} (h : Nm x) : TxtOk x := by
  unfold TxtOk
  rw [Array.all_eq_true']
  intro c hc
  have := h.2.2 c (by simpa using hc)
  exact decide_eq_true (by omega)
section
variable {K : PySem.W.Frag} {σ : St} {H : Hp} {Q : VK} {D : Ends}
/-- data against the same data -/
theorem s_eqDr {x y : V} {d : PyData} {n : Nat} (hx : Dt K H x d) (hy : Dt K H y d) (s : LayN n d) (k : n ≤ 64) (h : Q (.bl true) H) : rEqD K x y H Q :=
  ⟨d, d, hx.dp, hy.dp, s.sh k, s.sh k, by rw [SeqAt.eqv_refl _ s.1]; exact h⟩
theorem s_neDr {x y : V} {d : PyData} {n : Nat} (hx : Dt K H x d) (hy : Dt K H y d) (s : LayN n d) (k : n ≤ 64) (h : Q (.bl false) H) : rNeD K x y H Q :=
  ⟨d, d, hx.dp, hy.dp, s.sh k, s.sh k, by rw [SeqAt.eqv_refl _ s.1]; exact h⟩
theorem s_eqLr {a b : Addr} {xs ys : List V} {ds : List PyData} {n : Nat} (ha : SqL K H a xs) (hb : SqL K H b ys) (hx : DtAll K H xs ds) (hy : DtAll K H ys ds) (s : ∀ d, d ∈ ds → LayN n d) (k : n ≤ 63) (h : Q (.bl true) H) : rEqD K (.ref a) (.ref b) H Q :=
  ⟨.list ds, .list ds, .lst ha hx.dp, .lst hb hy.dp, (lay_lst s).sh (by omega), (lay_lst s).sh (by omega), by rw [SeqAt.eqv_refl _ (lay_lst s).1]; exact h⟩
theorem s_neLr {a b : Addr} {xs ys : List V} {ds : List PyData} {n : Nat} (ha : SqL K H a xs) (hb : SqL K H b ys) (hx : DtAll K H xs ds) (hy : DtAll K H ys ds) (s : ∀ d, d ∈ ds → LayN n d) (k : n ≤ 63) (h : Q (.bl false) H) : rNeD K (.ref a) (.ref b) H Q :=
  ⟨.list ds, .list ds, .lst ha hx.dp, .lst hb hy.dp, (lay_lst s).sh (by omega), (lay_lst s).sh (by omega), by rw [SeqAt.eqv_refl _ (lay_lst s).1]; exact h⟩
/-- isinstance by names of types -/
theorem s_isTy {x : V} {n m : String} {b : Bool} (hx : TyX K H x (.type n)) (e : kitB n m = some b) (h : Q (.bl b) H) : rIsi K [x, .ty m] H Q := ⟨_, _, _, _, b, rfl, .ty _, hx, kit_ty e, h⟩
theorem kit_ll : kitB "list" "list" = some true := by decide +kernel
theorem kit_ss : kitB "str" "str" = some true := by decide +kernel
theorem kit_si : kitB "str" "int" = some false := by decide +kernel
theorem kit_sb : kitB "str" "bool" = some false := by decide +kernel
theorem kit_st : kitB "str" "tuple" = some false := by decide +kernel
theorem kit_is : kitB "int" "str" = some false := by decide +kernel
theorem kit_it : kitB "int" "tuple" = some false := by decide +kernel
theorem kit_bs : kitB "bool" "str" = some false := by decide +kernel
theorem kit_bt : kitB "bool" "tuple" = some false := by decide +kernel
theorem kit_ns : kitB "NoneType" "str" = some false := by decide +kernel
theorem kit_ni : kitB "NoneType" "int" = some false := by decide +kernel
theorem kit_nb : kitB "NoneType" "bool" = some false := by decide +kernel
theorem kit_nt : kitB "NoneType" "tuple" = some false := by decide +kernel
theorem kit_ts : kitB "tuple" "str" = some false := by decide +kernel
theorem kit_ti : kitB "tuple" "int" = some false := by decide +kernel
theorem kit_tb : kitB "tuple" "bool" = some false := by decide +kernel
theorem s_isLL {a : Addr} {xs : List V} (hx : H a = some (.lst xs)) (h : Q (.bl true) H) : rIsi K [.ref a, .ty "list"] H Q := s_isTy (.base (.lst hx)) kit_ll h
theorem s_isSS {x : Str} (h : Q (.bl true) H) : rIsi K [.str x, .ty "str"] H Q := s_isTy (.base (.str x)) kit_ss h
theorem s_isSI {x : Str} (h : Q (.bl false) H) : rIsi K [.str x, .ty "int"] H Q := s_isTy (.base (.str x)) kit_si h
theorem s_isST {x : Str} (h : Q (.bl false) H) : rIsi K [.str x, .ty "tuple"] H Q := s_isTy (.base (.str x)) kit_st h
theorem s_isIS {i : Int} (h : Q (.bl false) H) : rIsi K [.int i, .ty "str"] H Q := s_isTy (.base (.int i)) kit_is h
theorem s_isIT {i : Int} (h : Q (.bl false) H) : rIsi K [.int i, .ty "tuple"] H Q := s_isTy (.base (.int i)) kit_it h
theorem s_isNT (h : Q (.bl false) H) : rIsi K [.non, .ty "tuple"] H Q := s_isTy (.base .non) kit_nt h
/-- t[:n] of a tuple, also the whole -/
theorem s_slA {x : V} {ds : List PyData} {hi : Int} (hx : Dt K H x (.tuple ds)) (h0 : 0 ≤ hi) (h : ∀ v H', Same H H' → Dt K H' v (.tuple (ds.take hi.toNat)) → Q v H') : rSlA K x none (some hi) H Q := by
  have hx0 := hx
  obtain ⟨a, xs, rfl, hs, ha⟩ := hx.tup_inv
  refine ⟨a, xs, rfl, hs, fun z => h _ _ (Same.refl _) ?_, fun _ p hp => h _ _ (same_new hp) (by rw [cutV_hi xs h0]; exact dt_new (ha.take _) hp)⟩
  obtain ⟨k, rfl⟩ : ∃ k : Nat, hi = (k : Int) := ⟨hi.toNat, by omega⟩
  have z2 := z.2
  rw [HT.sIx_nat] at z2
  have e := ha.len
  rw [Int.toNat_natCast, List.take_of_length_le (by omega)]
  exact hx0
/-- x in D, D[x] of a written dict -/
def rKin (K : PySem.W.Frag) (d : Addr) : R2 := fun x y H Q => ∃ (z : Str) (r : Option Value), x = .str z ∧ y = .ref d ∧ PySem.W.nsIn K d z = some r ∧ Q (.bl r.isSome) H
def rKntin (K : PySem.W.Frag) (d : Addr) : R2 := fun x y H Q => ∃ (z : Str) (r : Option Value), x = .str z ∧ y = .ref d ∧ PySem.W.nsIn K d z = some r ∧ Q (.bl (!r.isSome)) H
theorem op_kin {X : Cx} {d : Addr} {es : Array DictEntry} {n : Nat} (D : KDict X.K X.w d es n) : OpR X (compareOp .In) (rKin X.K d) := op_in_kd D
theorem op_kntin {X : Cx} {d : Addr} {es : Array DictEntry} {n : Nat} (D : KDict X.K X.w d es n) : OpR X (compareOp .NotIn) (rKntin X.K d) := op_notIn_kd D
theorem s_kinT {d : Addr} {z : Str} {u : Value} (e : PySem.W.nsIn K d z = some (some u)) (h : Q (.bl true) H) : rKin K d (.str z) (.ref d) H Q := ⟨z, _, rfl, rfl, e, h⟩
theorem s_kinF {d : Addr} {z : Str} (e : PySem.W.nsIn K d z = some none) (h : Q (.bl false) H) : rKin K d (.str z) (.ref d) H Q := ⟨z, _, rfl, rfl, e, h⟩
theorem s_kntinT {d : Addr} {z : Str} {u : Value} (e : PySem.W.nsIn K d z = some (some u)) (h : Q (.bl false) H) : rKntin K d (.str z) (.ref d) H Q := ⟨z, _, rfl, rfl, e, h⟩
theorem s_kntinF {d : Addr} {z : Str} (e : PySem.W.nsIn K d z = some none) (h : Q (.bl true) H) : rKntin K d (.str z) (.ref d) H Q := ⟨z, _, rfl, rfl, e, h⟩
theorem s_kin {d : Addr} {z : Str} {r : Option Value} (e : PySem.W.nsIn K d z = some r) (h : Q (.bl r.isSome) H) : rKin K d (.str z) (.ref d) H Q := ⟨z, r, rfl, rfl, e, h⟩
theorem s_kntin {d : Addr} {z : Str} {r : Option Value} (e : PySem.W.nsIn K d z = some r) (h : Q (.bl (!r.isSome)) H) : rKntin K d (.str z) (.ref d) H Q := ⟨z, r, rfl, rfl, e, h⟩
theorem s_kget {w : World} {d : Addr} {z : Str} {u : Value} {v : V} {es : Array DictEntry} {n : Nat} (D : KDict K w d es n) (e : PySem.W.nsIn K d z = some (some u)) (r : RelV v u) (h : Q v H) : rIxD K w (.ref d) (.str z) H Q := ⟨d, z, v, rfl, rfl, ⟨es, n, u, D.at_, D.lit, e, r⟩, h⟩
/-- x in [..] of texts, as a written list -/
theorem s_inSL {p : Addr} {x : Str} {vs : List V} (ys : List Str) (hs : SqL K H p vs) (e : vs = ys.map V.str) (h : Q (.bl (decide (x ∈ ys))) H) : rIn K false (.str x) (.ref p) H Q := by
  subst e
  exact s_inS hs h
theorem s_inW1 {p : Addr} {x y0 : Str} (h : Q (.bl (decide (x ∈ [y0]))) (upd H p (.lst [.str y0]))) : rIn K false (.str x) (.ref p) (upd H p (.lst [.str y0])) Q := s_inSL [y0] (.of upd_same) rfl h
theorem s_inW2 {p : Addr} {x y0 y1 : Str} (h : Q (.bl (decide (x ∈ [y0, y1]))) (upd H p (.lst [.str y0, .str y1]))) : rIn K false (.str x) (.ref p) (upd H p (.lst [.str y0, .str y1])) Q := s_inSL [y0, y1] (.of upd_same) rfl h
theorem s_inW3 {p : Addr} {x y0 y1 y2 : Str} (h : Q (.bl (decide (x ∈ [y0, y1, y2]))) (upd H p (.lst [.str y0, .str y1, .str y2]))) : rIn K false (.str x) (.ref p) (upd H p (.lst [.str y0, .str y1, .str y2])) Q := s_inSL [y0, y1, y2] (.of upd_same) rfl h
theorem s_inW4 {p : Addr} {x y0 y1 y2 y3 : Str} (h : Q (.bl (decide (x ∈ [y0, y1, y2, y3]))) (upd H p (.lst [.str y0, .str y1, .str y2, .str y3]))) : rIn K false (.str x) (.ref p) (upd H p (.lst [.str y0, .str y1, .str y2, .str y3])) Q := s_inSL [y0, y1, y2, y3] (.of upd_same) rfl h
theorem s_inW5 {p : Addr} {x y0 y1 y2 y3 y4 : Str} (h : Q (.bl (decide (x ∈ [y0, y1, y2, y3, y4]))) (upd H p (.lst [.str y0, .str y1, .str y2, .str y3, .str y4]))) : rIn K false (.str x) (.ref p) (upd H p (.lst [.str y0, .str y1, .str y2, .str y3, .str y4])) Q := s_inSL [y0, y1, y2, y3, y4] (.of upd_same) rfl h
theorem s_inW6 {p : Addr} {x y0 y1 y2 y3 y4 y5 : Str} (h : Q (.bl (decide (x ∈ [y0, y1, y2, y3, y4, y5]))) (upd H p (.lst [.str y0, .str y1, .str y2, .str y3, .str y4, .str y5]))) : rIn K false (.str x) (.ref p) (upd H p (.lst [.str y0, .str y1, .str y2, .str y3, .str y4, .str y5])) Q := s_inSL [y0, y1, y2, y3, y4, y5] (.of upd_same) rfl h
theorem s_inW7 {p : Addr} {x y0 y1 y2 y3 y4 y5 y6 : Str} (h : Q (.bl (decide (x ∈ [y0, y1, y2, y3, y4, y5, y6]))) (upd H p (.lst [.str y0, .str y1, .str y2, .str y3, .str y4, .str y5, .str y6]))) : rIn K false (.str x) (.ref p) (upd H p (.lst [.str y0, .str y1, .str y2, .str y3, .str y4, .str y5, .str y6])) Q := s_inSL [y0, y1, y2, y3, y4, y5, y6] (.of upd_same) rfl h
theorem s_inW8 {p : Addr} {x y0 y1 y2 y3 y4 y5 y6 y7 : Str} (h : Q (.bl (decide (x ∈ [y0, y1, y2, y3, y4, y5, y6, y7]))) (upd H p (.lst [.str y0, .str y1, .str y2, .str y3, .str y4, .str y5, .str y6, .str y7]))) : rIn K false (.str x) (.ref p) (upd H p (.lst [.str y0, .str y1, .str y2, .str y3, .str y4, .str y5, .str y6, .str y7])) Q := s_inSL [y0, y1, y2, y3, y4, y5, y6, y7] (.of upd_same) rfl h
theorem s_inW9 {p : Addr} {x y0 y1 y2 y3 y4 y5 y6 y7 y8 : Str} (h : Q (.bl (decide (x ∈ [y0, y1, y2, y3, y4, y5, y6, y7, y8]))) (upd H p (.lst [.str y0, .str y1, .str y2, .str y3, .str y4, .str y5, .str y6, .str y7, .str y8]))) : rIn K false (.str x) (.ref p) (upd H p (.lst [.str y0, .str y1, .str y2, .str y3, .str y4, .str y5, .str y6, .str y7, .str y8])) Q := s_inSL [y0, y1, y2, y3, y4, y5, y6, y7, y8] (.of upd_same) rfl h
theorem s_inW10 {p : Addr} {x y0 y1 y2 y3 y4 y5 y6 y7 y8 y9 : Str} (h : Q (.bl (decide (x ∈ [y0, y1, y2, y3, y4, y5, y6, y7, y8, y9]))) (upd H p (.lst [.str y0, .str y1, .str y2, .str y3, .str y4, .str y5, .str y6, .str y7, .str y8, .str y9]))) : rIn K false (.str x) (.ref p) (upd H p (.lst [.str y0, .str y1, .str y2, .str y3, .str y4, .str y5, .str y6, .str y7, .str y8, .str y9])) Q := s_inSL [y0, y1, y2, y3, y4, y5, y6, y7, y8, y9] (.of upd_same) rfl h
theorem s_inW11 {p : Addr} {x y0 y1 y2 y3 y4 y5 y6 y7 y8 y9 y10 : Str} (h : Q (.bl (decide (x ∈ [y0, y1, y2, y3, y4, y5, y6, y7, y8, y9, y10]))) (upd H p (.lst [.str y0, .str y1, .str y2, .str y3, .str y4, .str y5, .str y6, .str y7, .str y8, .str y9, .str y10]))) : rIn K false (.str x) (.ref p) (upd H p (.lst [.str y0, .str y1, .str y2, .str y3, .str y4, .str y5, .str y6, .str y7, .str y8, .str y9, .str y10])) Q := s_inSL [y0, y1, y2, y3, y4, y5, y6, y7, y8, y9, y10] (.of upd_same) rfl h
theorem s_inW12 {p : Addr} {x y0 y1 y2 y3 y4 y5 y6 y7 y8 y9 y10 y11 : Str} (h : Q (.bl (decide (x ∈ [y0, y1, y2, y3, y4, y5, y6, y7, y8, y9, y10, y11]))) (upd H p (.lst [.str y0, .str y1, .str y2, .str y3, .str y4, .str y5, .str y6, .str y7, .str y8, .str y9, .str y10, .str y11]))) : rIn K false (.str x) (.ref p) (upd H p (.lst [.str y0, .str y1, .str y2, .str y3, .str y4, .str y5, .str y6, .str y7, .str y8, .str y9, .str y10, .str y11])) Q := s_inSL [y0, y1, y2, y3, y4, y5, y6, y7, y8, y9, y10, y11] (.of upd_same) rfl h
/-- the turns of a list comprehension with a test whose outcome hangs on the heap -/
theorem c_listF {α : Type} {a : Addr} {xs : List V} {zs : List α} {g : TG} {tt : TT} {te : TE} {vs : List Nat} {S : Hp → Hp → Prop} (St : Stp H S) (P : Hp → V → α → Prop) (R : Hp → α → V → Prop) (pm : ∀ A B x z, KI A B → P A x z → P B x z) (rm : ∀ A B z y, KI A B → R A z y → R B z y)
    (hl : ∀ A, S H A → SqL K A a xs) (hx : A2 (P H) xs zs) (hz : xs.length ≤ 1000)
    (turn : ∀ x z A (Nt : V → Hp → Prop) (Nf : Hp → Prop), z ∈ zs → P A x z → S H A → (∀ y B, S A B → R B z y → Nt y B) → (∀ B, S A B → Nf B) → g x (wipe σ vs) A fun σ2 B => wipe σ2 vs = wipe σ vs ∧ tt σ2 B fun b B2 => if b = true then te σ2 B2 Nt else Nf B2)
    (fin : ∀ p ys zs' A, S H A → H p = none → A p = some (.lst ys) → zs'.Sublist zs → A2 (R A) zs' ys → Q (.ref p) A) : LcR (Itl K a) g tt te vs σ H Q := by
  intro p hp
  have lx := hx.len
  refine lc_list (xs := xs) (fun i A => i ≤ xs.length ∧ S H A ∧ ∃ ys zs', A p = some (.lst ys) ∧ zs'.Sublist (zs.take i) ∧ A2 (R A) zs' ys) ⟨Nat.zero_le _, St.new _ _ _ St.s0 hp, [], [], upd_same, List.nil_sublist _, .nil⟩ (fun i A _ h => hl A h.2.1) ?_ ?_
  · rintro i x A e ⟨hi, hs, ys, zs', h1, hsub, h2⟩
    obtain ⟨z, ez, pz⟩ := hx.at e
    have hlt : i < xs.length := (List.getElem?_eq_some_iff.mp e).1
    have et : zs.take (i + 1) = zs.take i ++ [z] := by rw [List.take_add_one, ez]; rfl
    refine turn x z A _ _ (List.mem_of_getElem? ez) (pm _ _ _ _ (St.ki _ _ hs) pz) hs (fun y B sb r => ?_) (fun B sb => ?_)
    · have e3 := St.keep _ _ _ _ hp hs sb h1
      have hl : ys.length ≤ i := by
        have := hsub.length_le
        rw [← h2.len]
        rw [List.length_take] at this
        omega
      have k : KI B (upd B p (.lst (ys ++ [y]))) := ki_mut e3 rfl
      refine ⟨ys, e3, L2.small1000 (by omega), by omega, St.new _ _ _ (St.tr _ _ hs sb) hp, ys ++ [y], zs' ++ [z], upd_same, by rw [et]; exact hsub.append (List.Sublist.refl _), ?_⟩
      exact .snoc (rm _ _ _ _ k r) (h2.mono fun u v z => rm _ _ _ _ k (rm _ _ _ _ (St.ki _ _ sb) z))
    · exact ⟨by omega, St.tr _ _ hs sb, ys, zs', St.keep _ _ _ _ hp hs sb h1, by rw [et]; exact hsub.trans (List.sublist_append_left _ _), h2.mono fun u v z => rm _ _ _ _ (St.ki _ _ sb) z⟩
  · rintro A ⟨_, hs, ys, zs', h1, hsub, h2⟩
    rw [lx, List.take_length] at hsub
    exact fin p ys zs' A hs hp h1 hsub h2
end
theorem A2.flip {α β : Type} {R : α → β → Prop} : ∀ {xs : List α} {ys : List β}, A2 R xs ys → A2 (fun y x => R x y) ys xs
  | _, _, .nil => .nil
  | _, _, .cons a b => .cons a (A2.flip b)
theorem A2.mem {α β : Type} {R : α → β → Prop} : ∀ {xs : List α} {ys : List β}, A2 R xs ys → ∀ {x : α}, x ∈ xs → ∃ y, y ∈ ys ∧ R x y
  | _, _, .cons a b, x, h => by
    rcases List.mem_cons.mp h with e | e
    · subst e; exact ⟨_, List.mem_cons_self, a⟩
    · obtain ⟨y, h1, h2⟩ := A2.mem b e
      exact ⟨y, List.mem_cons_of_mem _ h1, h2⟩
theorem A2.perm {α β : Type} {R : α → β → Prop} {xs xs' : List α} (p : xs'.Perm xs) : ∀ {ys : List β}, A2 R xs ys → ∃ ys', A2 R xs' ys' ∧ ys'.Perm ys := by
  induction p with
  | nil => intro ys h; exact ⟨ys, h, List.Perm.refl _⟩
  | cons x _ ih =>
    intro ys h
    cases h with
    | cons a b =>
      obtain ⟨ys', h1, h2⟩ := ih b
      exact ⟨_, .cons a h1, h2.cons _⟩
  | swap x y l =>
    intro ys h
    cases h with
    | cons a b =>
      cases b with
      | cons c d => exact ⟨_, .cons c (.cons a d), List.Perm.swap _ _ _⟩
  | trans _ _ ih1 ih2 =>
    intro ys h
    obtain ⟨y1, h1, h2⟩ := ih2 h
    obtain ⟨y2, h3, h4⟩ := ih1 h1
    exact ⟨y2, h3, h4.trans h2⟩
theorem a2_das {K : PySem.W.Frag} {H : Hp} {α : Type} {f : α → PyData} : ∀ {vs : List V} {ls : List α}, A2 (fun v l => Dt K H v (f l)) vs ls → DtAll K H vs (ls.map f)
  | _, _, .nil => .nil
  | _, _, .cons a b => .cons a (a2_das b)
theorem das_a2 {K : PySem.W.Frag} {H : Hp} : ∀ {vs : List V} {ds : List PyData}, DtAll K H vs ds → A2 (fun v d => Dt K H v d) vs ds
  | _, [], h => by cases h; exact .nil
  | _, d :: ds, h => by cases h with | cons a b => exact .cons a (das_a2 b)
theorem a2_strs (ys : List Str) : A2 (fun v y => v = V.str y) (ys.map V.str) ys := by
  induction ys with
  | nil => exact .nil
  | cons y ys ih => exact .cons rfl ih
/-! ### entries -/
abbrev pairsD (ps : List (Str × Int)) : PyData := .tuple (ps.map fun p => .tuple [.str p.1, .int p.2])
structure PsOf (Tn : Str → Prop) (ps : List (Str × Int)) : Prop where
  l0 : 1 ≤ ps.length
  l1 : ps.length ≤ 8
  nd : (ps.map Prod.fst).Nodup
  ok : ∀ p, p ∈ ps → Tn p.1 ∧ 1 ≤ p.2 ∧ p.2 ≤ 1000000
/-- an entry of holders, things, a last day -/
inductive EntOf (Hn Tn : Str → Prop) (L : Int) : Str → Int → List PyData → Prop
  | price {d p : Int} {t : Str} : 0 ≤ d → d ≤ L → Tn t → 1 ≤ p → p ≤ 1000000 → EntOf Hn Tn L "price" d [.str t, .int p]
  | mix {d : Int} {ps : List (Str × Int)} : 0 ≤ d → d ≤ L → PsOf Tn ps → EntOf Hn Tn L "mix" d [pairsD ps]
  | come {d p : Int} {t : Str} : 0 ≤ d → d ≤ L → Hn t → 1 ≤ p → p ≤ 1000000000 → EntOf Hn Tn L "come" d [.str t, .int p]
  | go {d p : Int} {t : Str} : 0 ≤ d → d ≤ L → Hn t → 1 ≤ p → p ≤ 10000 → EntOf Hn Tn L "go" d [.str t, .int p]
  | draw {d p : Int} {t : Str} : 0 ≤ d → d ≤ L → Hn t → 1 ≤ p → p ≤ 1000000000 → EntOf Hn Tn L "draw" d [.str t, .int p]
  | give {d p : Int} {t u : Str} : 0 ≤ d → d ≤ L → Hn t → Hn u → t ≠ u → 1 ≤ p → p ≤ 10000 → EntOf Hn Tn L "give" d [.str t, .str u, .int p]
  | rate {d p : Int} : 0 ≤ d → d ≤ L → 0 ≤ p → p ≤ 9999 → EntOf Hn Tn L "rate" d [.int p]
  | harvest {d : Int} : 0 ≤ d → d ≤ L → EntOf Hn Tn L "harvest" d []
  | aside {d : Int} {t : Str} : 0 ≤ d → d ≤ L → Tn t → EntOf Hn Tn L "aside" d [.str t]
  | home {d : Int} {t : Str} : 0 ≤ d → d ≤ L → Tn t → EntOf Hn Tn L "home" d [.str t]
  | levy {d p : Int} : 0 ≤ d → d ≤ L → 1 ≤ p → p ≤ 9999 → EntOf Hn Tn L "levy" d [.int p]
  | hurdle {d p : Int} : 0 ≤ d → d ≤ L → 1 ≤ p → p ≤ 10000 → EntOf Hn Tn L "hurdle" d [.int p]
abbrev entD (k : Str) (d : Int) (rest : List PyData) : PyData := .tuple (.str k :: .int d :: rest)
def kindsE : List Str := ["price", "mix", "come", "go", "draw", "give", "rate", "harvest", "aside", "home", "levy", "hurdle"]
theorem EntOf.mono {Hn Tn Hn' Tn' : Str → Prop} {L L' d : Int} {k : Str} {rest : List PyData} (h : EntOf Hn Tn L k d rest) (a : ∀ x, Hn x → Hn' x) (b : ∀ x, Tn x → Tn' x) (c : L ≤ L') : EntOf Hn' Tn' L' k d rest := by
  cases h with
  | price d0 d1 t p0 p1 => exact .price d0 (by omega) (b _ t) p0 p1
  | mix d0 d1 h => exact .mix d0 (by omega) ⟨h.l0, h.l1, h.nd, fun p hp => ⟨b _ (h.ok p hp).1, (h.ok p hp).2⟩⟩
  | come d0 d1 t p0 p1 => exact .come d0 (by omega) (a _ t) p0 p1
  | go d0 d1 t p0 p1 => exact .go d0 (by omega) (a _ t) p0 p1
  | draw d0 d1 t p0 p1 => exact .draw d0 (by omega) (a _ t) p0 p1
  | give d0 d1 t u n p0 p1 => exact .give d0 (by omega) (a _ t) (a _ u) n p0 p1
  | rate d0 d1 p0 p1 => exact .rate d0 (by omega) p0 p1
  | harvest d0 d1 => exact .harvest d0 (by omega)
  | aside d0 d1 t => exact .aside d0 (by omega) (b _ t)
  | home d0 d1 t => exact .home d0 (by omega) (b _ t)
  | levy d0 d1 p0 p1 => exact .levy d0 (by omega) p0 p1
  | hurdle d0 d1 p0 p1 => exact .hurdle d0 (by omega) p0 p1
theorem EntOf.kind {Hn Tn : Str → Prop} {L d : Int} {k : Str} {rest : List PyData} (h : EntOf Hn Tn L k d rest) : k ∈ kindsE := by
  cases h <;> decide +kernel
theorem EntOf.day {Hn Tn : Str → Prop} {L d : Int} {k : Str} {rest : List PyData} (h : EntOf Hn Tn L k d rest) : 0 ≤ d ∧ d ≤ L := by
  cases h <;> exact ⟨by assumption, by assumption⟩
theorem lay_ps {Tn : Str → Prop} (hT : ∀ x, Tn x → TxtOk x) {ps : List (Str × Int)} (h : PsOf Tn ps) : LayN 2 (pairsD ps) :=
  lay_tup fun d hd => by
    obtain ⟨p, hp, rfl⟩ := List.mem_map.mp hd
    exact lay_tup fun e he => by
      simp only [List.mem_cons, List.not_mem_nil, or_false] at he
      rcases he with rfl | rfl
      · exact lay_str (hT _ (h.ok p hp).1)
      · exact lay_int _
theorem kind_txt {k : Str} (h : k ∈ kindsE) : TxtOk k := by
  unfold kindsE at h
  simp only [List.mem_cons, List.not_mem_nil, or_false] at h
  rcases h with rfl | rfl | rfl | rfl | rfl | rfl | rfl | rfl | rfl | rfl | rfl | rfl <;> (unfold TxtOk; decide +kernel)
theorem two {a b e : PyData} {n : Nat} (ha : LayN n a) (hb : LayN n b) (h : e ∈ [a, b]) : LayN n e := by
  rcases List.mem_cons.mp h with rfl | h
  · exact ha
  · rw [List.mem_singleton] at h; rw [h]; exact hb
theorem EntOf.lay {Hn Tn : Str → Prop} {L d : Int} {k : Str} {rest : List PyData} (hH : ∀ x, Hn x → TxtOk x) (hT : ∀ x, Tn x → TxtOk x) (h : EntOf Hn Tn L k d rest) : ∀ e, e ∈ (.str k :: .int d :: rest : List PyData) → LayN 2 e := by
  intro e he0
  rcases List.mem_cons.mp he0 with rfl | he1
  · exact lay_str (kind_txt h.kind)
  rcases List.mem_cons.mp he1 with rfl | he
  · exact lay_int _
  clear he0 he1
  cases h with
  | price d0 d1 t p0 p1 => exact two (lay_str (hT _ t)) (lay_int _) he
  | mix d0 d1 h => rw [List.mem_singleton] at he; rw [he]; exact lay_ps hT h
  | come d0 d1 t p0 p1 => exact two (lay_str (hH _ t)) (lay_int _) he
  | go d0 d1 t p0 p1 => exact two (lay_str (hH _ t)) (lay_int _) he
  | draw d0 d1 t p0 p1 => exact two (lay_str (hH _ t)) (lay_int _) he
  | give d0 d1 t u n p0 p1 =>
    rcases List.mem_cons.mp he with rfl | he
    · exact lay_str (hH _ t)
    · exact two (lay_str (hH _ u)) (lay_int _) he
  | rate d0 d1 p0 p1 => rw [List.mem_singleton] at he; rw [he]; exact lay_int _
  | harvest d0 d1 => cases he
  | aside d0 d1 t => rw [List.mem_singleton] at he; rw [he]; exact lay_str (hT _ t)
  | home d0 d1 t => rw [List.mem_singleton] at he; rw [he]; exact lay_str (hT _ t)
  | levy d0 d1 p0 p1 => rw [List.mem_singleton] at he; rw [he]; exact lay_int _
  | hurdle d0 d1 p0 p1 => rw [List.mem_singleton] at he; rw [he]; exact lay_int _
/-- the slot of an entry -/
def slotN (k : Str) : Option Nat := if k ∈ (["price", "aside", "home"] : List Str) then some 3 else if k ∈ (["come", "go", "draw", "give"] : List Str) then none else some 2
def slotD (k : Str) (d : Int) (rest : List PyData) : PyData := match slotN k with
  | some n => .tuple ((.str k :: .int d :: rest : List PyData).take n)
  | none => .none
theorem lay_slot {Hn Tn : Str → Prop} {L d : Int} {k : Str} {rest : List PyData} (hH : ∀ x, Hn x → TxtOk x) (hT : ∀ x, Tn x → TxtOk x) (h : EntOf Hn Tn L k d rest) : LayN 3 (slotD k d rest) := by
  unfold slotD
  split
  · exact lay_tup fun e he => h.lay hH hT e (List.mem_of_mem_take he)
  · exact lay_non
theorem take_foldl {rs : List Rat} {n : Nat} {r s0 : Rat} (e : rs[n]? = some r) : (rs.take (n + 1)).foldl (· + ·) s0 = (rs.take n).foldl (· + ·) s0 + r := by
  rw [List.take_add_one, e, List.foldl_append]
  rfl
theorem take_sz {rs : List Rat} {n : Nat} {s0 : Rat} (z1 : ∀ r, r ∈ rs → Sz 64 r) (l1 : rs.length ≤ 40) (z2 : Sz 100 s0) : Sz 4000 ((rs.take n).foldl (· + ·) s0) := by
  refine (foldl_sz (n := 64) (rs.take n) (fun r hr => z1 r (List.mem_of_mem_take hr)) s0 z2).mono ?_
  have : (rs.take n).length ≤ 40 := by rw [List.length_take]; omega
  omega
theorem map_get {rs : List Rat} {n : Nat} {d : PyData} (e : (rs.map fr)[n]? = some d) : ∃ r, rs[n]? = some r ∧ d = fr r := by
  rw [List.getElem?_map] at e
  cases q : rs[n]? with
  | none => rw [q] at e; cases e
  | some r => rw [q] at e; exact ⟨r, rfl, (Option.some.inj e).symm⟩
theorem DtAll.item {K : PySem.W.Frag} {H : Hp} {ws : List V} {ds : List PyData} (h : DtAll K H ws ds) {n : Nat} {x : V} (e : ws[n]? = some x) : ∃ d, ds[n]? = some d ∧ Dt K H x d := by
  obtain ⟨hn, ex⟩ := List.getElem?_eq_some_iff.mp e
  have hn2 : n < ds.length := by rw [← h.len]; exact hn
  obtain ⟨v, e1, e2⟩ := h.get (List.getElem?_eq_getElem hn2)
  rw [e1] at e
  cases e
  exact ⟨_, List.getElem?_eq_getElem hn2, e2⟩
theorem a2_ps {K : PySem.W.Frag} {H : Hp} : ∀ {zs : List Str} {vs : List V}, A2 (fun y v => ∃ c, Dt K H v (.tuple [.str y, .int c]) ∧ 1 ≤ c ∧ c ≤ 1000000) zs vs → ∃ ps : List (Str × Int), ps.map Prod.fst = zs ∧ DtAll K H vs (ps.map fun p => .tuple [.str p.1, .int p.2]) ∧ ∀ p, p ∈ ps → 1 ≤ p.2 ∧ p.2 ≤ 1000000
  | _, _, .nil => ⟨[], rfl, .nil, fun _ h => nomatch h⟩
  | _, _, .cons h t => by
    obtain ⟨c, h1, h2⟩ := h
    obtain ⟨ps, e, d, k⟩ := a2_ps t
    exact ⟨(_, c) :: ps, by rw [List.map_cons, e], .cons h1 d, fun p hp => by
      rcases List.mem_cons.mp hp with e | e
      · rw [e]; exact h2
      · exact k p e⟩
end Cr

namespace Cr
/-! ### != of two lists whose items are equal by their own == -/
section
open PySem PySem.Spec PySem.Calls PySem.SeqAt AutoSeq1 MeetsSeq MeetsSeq2 MeetsSeq3 PyProof.Rows
variable {prog : Program} {w : World} {A : Around} {R : Result → Shared → Prop}
theorem ne_turns (p q : Addr) (N : Nat) (J : Nat → Shared → Prop) (all : GQ.ListI prog w A (fun e t => R (.error e) t) p q N J) (last : ∀ t, J N t → R (.ok (.ret (.bool false))) t) : ∀ (k m : Nat), N - m = k → m ≤ N → ∀ t, J m t →
    wpAny (model prog w) A.in1 (Builtin.«list.__eq__.loop» ⟨[.ref p, .ref q, rawInt m, rawInt 3], []⟩) (GQ.FinOf prog w A R) (fun e t => R (.error e) t) t := by
  intro k
  induction k with
  | zero =>
    intro m hk hm t jt
    obtain ⟨us, vs, n1, n2, g1, g2, z1, z2, _⟩ := all _ _ jt
    obtain rfl : m = N := by omega
    have done := last t jt
    obtain ⟨hp, g, d, tk, os⟩ := t
    wp_walk using wpAny_loadPart' g1, wpAny_loadPart' g2
    rw [show us[((m : Nat) : Int).toNat]? = none by simp; omega, show vs[((m : Nat) : Int).toNat]? = none by simp; omega]
    wp_walk using wpAny_loadPart' g1, wpAny_loadPart' g2
    show R (.ok (.ret (.bool (us.size != vs.size)))) _
    rw [z1, z2, bne_self_eq_false]
    exact done
  | succ k more =>
    intro m hk hm t jt
    obtain ⟨us, vs, n1, n2, g1, g2, z1, z2, turn⟩ := all _ _ jt
    have m1 : m < us.size := by omega
    have m2 : m < vs.size := by omega
    have once := turn m1 m2
    obtain ⟨hp, g, d, tk, os⟩ := t
    wp_walk using wpAny_loadPart' g1, wpAny_loadPart' g2
    rw [show us[((m : Nat) : Int).toNat]? = some us[m] by simp [m1], show vs[((m : Nat) : Int).toNat]? = some vs[m] by simp [m2]]
    refine wpAny_bind (wpAny_mono once (fun yes t2 both => ?_) fun _ _ x => x)
    obtain ⟨rfl, j2⟩ := both
    have onward := more (m + 1) (by omega) (by omega) t2 j2
    obtain ⟨hp2, g2, d2, tk2, os2⟩ := t2
    wp_walk
    rw [show ((m : Int) + 1) = ((m + 1 : Nat) : Int) by omega]
    refine ⟨plainId_quiet plain_eq_loop _, ?_⟩
    refine codeAny_builtin entry_eq_loop ?_
    rw [Around.under_plainId plain_eq_loop _]; exact onward
theorem ne_list {E : Value → Shared → Prop} {t : Shared} {p q : Addr} {N : Nat} {Q : Value → Shared → Prop} (room : A.units < cLine) (J : Nat → Shared → Prop) (all : GQ.ListI prog w A E p q N J) (last : ∀ t, J N t → Q (.bool false) t) (jt : J 0 t) : wpAny (model prog w) A (richCompare .NotEq (.ref p) (.ref q)) Q E t := by
  obtain ⟨us, vs, n1, n2, g1, g2, z1, z2, _⟩ := all _ _ jt
  refine wpAny_richCompare_same_room (op := .NotEq) ⟨_, g1, rfl⟩ ⟨_, g2, rfl⟩ F.slot_list_ne (GQ.call_here F.slot_list_ne ⟨_, g1, rfl⟩ F.entry_list_ne (F.args_list_ne_2 _ _) ?_) room
  have onward := ne_turns (A := A) (R := wants (fun v t => v ≠ .notImplemented ∧ Q v t) E) p q N J all (fun t' z => ⟨(fun x => nomatch x), last t' z⟩) _ 0 rfl (Nat.zero_le _) t jt
  have sub := AutoSeq1.sub_list_list
  obtain ⟨hp, g, d, tk, os⟩ := t
  have alike : ¬ (us.size != vs.size) = true := by simp [z1, z2]
  wp_walk using wpAny_loadPart' g1, wpAny_loadPart' g2
  refine ⟨plainId_quiet plain_eq_loop _, ?_⟩
  refine codeAny_builtin entry_eq_loop ?_
  rw [Around.under_plainId plain_eq_loop _]; exact onward
end
section
open PySem PySem.Spec PyProof.Rows L2
def rNeG (D : Eqv) : R2 := fun x y H Q => DList D x y H ∧ ∀ H', Ext H H' → Q (.bl false) H'
theorem op_neGL {X : Cx} {n : Nat} {D : Eqv} (mon : Mon D) (eq : EqG X n D) (room : Room (n + 1) X.A) : OpR X (compareOp .NotEq) (rNeG D) := by
  intro pins t σ H x y v u Q I rx ry hq
  obtain ⟨⟨p, q, xs, ys, rfl, rfl, h1, h2, items⟩, k⟩ := hq
  cases rx
  cases ry
  show wpAny (model X.prog X.w) X.A (richCompare .NotEq (.ref p) (.ref q)) (EP X pins σ Q) X.xe t
  refine ne_list (N := xs.length) room.units0 (fun _ t' => LoopI X pins σ H t') (fun m t' z => ?_) (fun t' z => ?_) ⟨H, I, Ext.rfl'⟩
  · obtain ⟨H1, I1, grown⟩ := id z
    obtain ⟨_, us, n1, r1, e1⟩ := I1.hok p _ (grown _ _ h1)
    obtain ⟨_, vs, n2, r2, e2⟩ := I1.hok q _ (grown _ _ h2)
    refine ⟨us.toArray, vs.toArray, n1, n2, e1, e2, ?_, ?_, fun m1 m2 => turnG mon eq ⟨room, rfl⟩ items r1 r2 m m1 m2 t' z⟩
    · rw [List.size_toArray, ← r1.length]
    · rw [List.size_toArray, ← r2.length, ← items.1]
  · obtain ⟨H1, I1, grown⟩ := z
    exact ⟨.bl false, H1, I1, rfl, k H1 grown⟩
end
end Cr
namespace Cr
/-! ### sorted(..) of a list or tuple of data -/
section
open PySem PySem.Spec PySem.W PySem.Calls PyProof.Rows L2
def sortD (ds : List PyData) : List PyData := ds.mergeSort (PySem.W.dataLe false id)
def rSortD (K : PySem.W.Frag) : List V → Hp → VK → Prop := fun vs H Q => ∃ (a : Addr) (xs : List V) (ds : List PyData), vs = [.ref a] ∧ (SqL K H a xs ∨ SqT K H a xs) ∧ DtAll K H xs ds ∧ PySem.W.AllAlike ds ∧ PySem.W.Sortable ds ∧ (∀ d, d ∈ ds → d.depth ≤ 32) ∧ xs.length ≤ 1000 ∧
  ∀ p ys, H p = none → ys.Perm xs → A2 (fun y d => Dt K H y d) ys (sortD ds) → Q (.ref p) (upd H p (.lst ys))
theorem pairs_each {K : PySem.W.Frag} {H : Hp} : ∀ {xs : List V} {its : List Value} {ds : List PyData}, Vals xs its → DtAll K H xs ds → EachIs (fun v (b : V × PyData) => RelV b.1 v ∧ Dt K H b.1 b.2) its (xs.zip ds)
  | [], _, [], r, d => by cases r; exact .nil
  | [], _, _ :: _, r, d => by cases d
  | _ :: _, _, [], r, d => by cases d
  | x :: xs, _, e :: es, r, d => by
    cases r with
    | cons r1 r2 => cases d with
      | cons d1 d2 => exact .cons ⟨r1, d1⟩ (pairs_each r2 d2)
theorem vals_each : ∀ {out : List Value} {zs : List (V × PyData)}, EachIs (fun v (b : V × PyData) => RelV b.1 v) out zs → Vals (zs.map Prod.fst) out
  | _, _, .nil => .nil
  | _, _, .cons a b => .cons a (vals_each b)
theorem a2_pairs {α β : Type} {R : α → β → Prop} : ∀ {zs : List (α × β)}, (∀ p, p ∈ zs → R p.1 p.2) → A2 R (zs.map Prod.fst) (zs.map Prod.snd)
  | [], _ => .nil
  | z :: zs, h => .cons (h z List.mem_cons_self) (a2_pairs fun p hp => h p (List.mem_cons_of_mem _ hp))
theorem zip_dt {K : PySem.W.Frag} {H : Hp} : ∀ {xs : List V} {ds : List PyData}, DtAll K H xs ds → (xs.zip ds).map Prod.fst = xs ∧ (xs.zip ds).map Prod.snd = ds ∧ ∀ p, p ∈ xs.zip ds → Dt K H p.1 p.2
  | [], [], _ => ⟨rfl, rfl, fun _ h => nomatch h⟩
  | [], _ :: _, d => by cases d
  | _ :: _, [], d => by cases d
  | x :: xs, e :: es, d => by
    cases d with
    | cons d1 d2 =>
      obtain ⟨h1, h2, h3⟩ := zip_dt d2
      refine ⟨by rw [List.zip_cons_cons, List.map_cons, h1], by rw [List.zip_cons_cons, List.map_cons, h2], fun p hp => ?_⟩
      rw [List.zip_cons_cons] at hp
      rcases List.mem_cons.mp hp with rfl | hp
      · exact d1
      · exact h3 p hp
theorem call_sortD {X : Cx} (hu : X.A.units + 64 < cLine) : CallR X (.builtin "sorted") (rSortD X.K) := by
  intro pins s σ H vs us Q I r h
  obtain ⟨a, xs, ds, rfl, hsq, hd, hal, hk, hdep, hz, q⟩ := h
  rw [Vals.ref1 r]
  obtain ⟨its, rv, T, o, n, hT, ho, hc, hdat⟩ : ∃ its, Vals xs its ∧ ∃ T o n, (T = "list" ∨ T = "tuple") ∧ s.heap.get? a = some o ∧ o.cls = .type T ∧ o.data = .seq its.toArray n := by
    rcases hsq with hs | hs
    · obtain ⟨its, rv, pl, _⟩ := I.list hs
      obtain ⟨o, ho, hc, n, hd⟩ := pl.isList
      exact ⟨its, rv, "list", o, n, .inl rfl, ho, hc, hd⟩
    · obtain ⟨its, rv, ht, _⟩ := I.tuple hs
      obtain ⟨o, ho, hc, n, hd⟩ := id ht
      exact ⟨its, rv, "tuple", o, n, .inr rfl, ho, hc, hd⟩
  have hil : its.length ≤ 1000 := by rw [← rv.length]; exact hz
  have hL : its.length ≤ sizeLine := Nat.le_of_lt (L2.small1000 hil)
  refine Calls.call_function_entry kind_sorted plain_sorted entry_sorted (args_sorted1 _) ?_
  unfold Builtin.«sorted»
  refine wpAny_bind (m := checkCount "sorted" 1 1 _) (wpAny_pure ?_)
  refine wpAny_bind (wpAny_collect_seq a hT ho hc hdat (fun h1 keep1 => ?_) (by rw [List.size_toArray]; exact hL))
  rw [show its.toArray.toList = its by simp]
  refine wpAny_bind (wpAny_newList ?_ hL)
  have I1 : Inv X pins σ H { s with heap := h1 } := I.kept (t' := s.toks) keep1
  generalize hh2 : h1.push { cls := .type "list", data := .seq its.toArray } = h2
  generalize hp : h1.objs.size = p
  have at2 : h2.get? p = some (seqObj "list" its.toArray 0) := by rw [← hh2, ← hp]; exact Heap.get?_push_size _ rfl
  have old2 : ∀ b o, h1.get? b = some o → h2.get? b = some o := fun b o e => by rw [← hh2]; exact Heap.get?_push_of_some _ e
  have nep : ∀ b o, h1.get? b = some o → b ≠ p := fun b o e => by rw [← hp]; exact Nat.ne_of_lt (Heap.lt_size e)
  have lens : its.length = (xs.zip ds).length := (pairs_each rv hd).length
  obtain ⟨zf, zs, zd⟩ := zip_dt hd
  have er : EachIs (fun v (b : V × PyData) => ∃ as, Reads (sortingHeap h2 p its) v b.2 as) its (xs.zip ds) := (pairs_each rv hd).mono fun v b ⟨r1, d1⟩ => by
    obtain ⟨as, rd⟩ := Dp.reads I1 _ _ _ d1.dp r1
    exact ⟨as, PyProof.Rows.Reads.keeps (fun b o e => sortingHeap_old (nep b o e) (old2 b o e)) rd⟩
  have hal' : AllAlike ((xs.zip ds).map Prod.snd) := by rw [zs]; exact hal
  have hk' : Sortable ((xs.zip ds).map Prod.snd) := by rw [zs]; exact hk
  refine wpAny_bind (wpAny_holding (wpAny_call_entry slot_list_sort ⟨_, at2, rfl⟩ entry_list_sort (list_sort_vals (κ := dataKind (sortingHeap h2 p its) ((xs.zip ds).map Prod.snd)) at2 (SortsAt.data (s := { s with heap := sortingHeap h2 p its }) (each_map (R := fun v d => ∃ as, Reads (sortingHeap h2 p its) v d as) Prod.snd er) hal' hk' (bound_map fun b hb => ?_)) hL ⟨.none, rfl, ?_⟩) (args_list_sort _)))
  · have dep := hdep _ (List.of_mem_zip hb).2
    show X.A.units + 1 + 1 + b.snd.depth < cLine
    omega
  · have out := sortVals_data (h' := sortingHeap h2 p its) (R := fun v (b : V × PyData) => RelV b.1 v) (enc := Prod.snd) false ((pairs_each rv hd).mono fun _ _ z => z.1) er hal'
    clear hL
    generalize sortVals (dataKind (sortingHeap h2 p its) ((xs.zip ds).map Prod.snd)) false its its = got at out ⊢
    obtain ⟨c, at3⟩ := sortedHeap_at (out := got.toArray) at2
    have sz2 : h2.objs.size = p + 1 := by rw [← hh2, ← hp, Heap.size_push]
    have keep3 : ∀ b o, h1.get? b = some o → (sortedHeap h2 p its got.toArray).get? b = some o := fun b o e => by
      have lt : b < h2.objs.size := Nat.lt_of_lt_of_le (Heap.lt_size e) (by rw [sz2, hp]; exact Nat.le_succ _)
      rw [sortedHeap_old (nep b o e) lt]
      exact old2 b o e
    have pm := (List.mergeSort_perm (xs.zip ds) (dataLe false Prod.snd))
    have ys_len : (((xs.zip ds).mergeSort (dataLe false Prod.snd)).map Prod.fst).length ≤ sizeLine := by
      rw [List.length_map, pm.length_eq, ← lens]
      exact Nat.le_of_lt (L2.small1000 hil)
    have I3 := I1.laid (t' := s.toks) (a := p) (o := .lst (((xs.zip ds).mergeSort (dataLe false Prod.snd)).map Prod.fst)) keep3 (Nat.le_of_eq hp) ⟨ys_len, got, c, vals_each out, at3⟩
    refine wpAny_pure ⟨_, rfl, .ref p, _, I3, rfl, q p _ (I1.hok.fresh (Nat.le_of_eq hp)) ?_ ?_⟩
    · have e := pm.map Prod.fst
      rw [zf] at e
      exact e
    · have e : ((xs.zip ds).mergeSort (dataLe false Prod.snd)).map Prod.snd = sortD ds := by
        have e1 := sort_maps (r := dataLe false Prod.snd) (s := dataLe false (id : PyData → PyData)) Prod.snd (l := xs.zip ds) (fun _ _ _ _ => rfl)
        rw [zs] at e1
        exact e1
      rw [← e]
      exact a2_pairs fun z hz => zd z (pm.mem_iff.mp hz)
end
end Cr
namespace Cr
/-! ### x, *rest = t -/
section
open PySem PySem.Spec PySem.W PySem.Calls PyProof.Rows L2
theorem star_items {prog : Program} {w : World} {A : Around} {E : Value → Shared → Prop} {s : Shared} {t : Addr} {its : Array Value} {Q : List Value → Shared → Prop} (hh : A.handled = none) (ht : IsTup s.heap t its) (h1 : 1 ≤ its.size) (hz : its.size ≤ 1000)
    (k : ∀ h' tk, (∀ b o, s.heap.get? b = some o → h'.get? b = some o) → wpAny (model prog w) A (newList (its.toList.drop 1)) (fun d u => Q (its.toList.take 1 ++ [d]) u) E { s with heap := h', toks := tk }) : wpAny (model prog w) A (unpackItems (.ref t) 2 (some 1)) Q E s := by
  have tne : t ≠ s.heap.objs.size := by obtain ⟨o, ho, _⟩ := ht; exact Nat.ne_of_lt (Heap.lt_size ho)
  have big : its.size ≤ sizeLine := Nat.le_of_lt (L2.small1000 hz)
  unfold unpackItems
  refine wpAny_bind ?_
  unfold notIterableAtAll
  refine wpAny_bind (wpAny_specialOf ht.typeIs slot_tuple_iter.lookup (wpAny_pure ?_))
  simp only [Bool.false_eq_true, if_false]
  refine wpAny_bind (wpAny_holding (iter_tuple ht (wpAny_bind (wpAny_holding (draw_tuple tne 1 0 _ _ ⟨_, Heap.get?_push_size _ rfl, rfl, rfl⟩ (ht.push _) (by omega) fun ha ia sa => ?_)))))
  have ta : IsTup ha t its := (ht.push _).extBut sa.extBut tne
  rw [Nat.zero_add] at ia
  obtain ⟨oi, gi, ri⟩ := id ia
  obtain ⟨ol, gl, rl⟩ := id ta
  have fl : (its.toList.take 1).length = 1 := by rw [List.length_take, Array.length_toList]; omega
  rw [List.drop_zero, if_neg (show ¬ ((its.toList.take 1).length < 1) by rw [fl]; omega)]
  refine wpAny_bind (wpAny_holding (kun_collect (s := { s with heap := ha }) (T := "tuple_iterator") (.inr (.inr (.inr rfl))) (Walks.tuple (A := A.in1) hh s.heap.objs.size t tne its) (fun _ _ st => st.1.typeIs) (k := 1) (by omega) ⟨ia, ta⟩ (Heap.lt_size gi) (Heap.lt_size gl) (fun hb tk kb => ?_) big))
  have len : (its.toList.drop 1).length = its.size - 1 := by rw [List.length_drop, Array.length_toList]
  show wpAny _ _ (if (its.toList.drop 1).length < 0 then _ else _) _ _ _
  rw [if_neg (Nat.not_lt_zero _)]
  show wpAny _ _ (newList ((its.toList.drop 1).take ((its.toList.drop 1).length - 0)) >>= fun d => pure (its.toList.take 1 ++ [d] ++ (its.toList.drop 1).drop ((its.toList.drop 1).length - 0))) _ _ _
  rw [Nat.sub_zero, List.take_length, List.drop_length]
  refine wpAny_bind (wpAny_mono (k hb tk fun b o e => ?_) (fun d u q => wpAny_pure ?_) fun _ _ x => x)
  · have nb : b ≠ s.heap.objs.size := Nat.ne_of_lt (Heap.lt_size e)
    exact kb b o nb (sa.extBut b o nb (Heap.get?_push_of_some _ e))
  · rw [List.append_nil]; exact q
theorem star_bind {prog : Program} {w : World} {A : Around} {E : Value → Shared → Prop} {s : Shared} {t : Addr} {its : Array Value} {env : Env} {elts : List Expr} {k : Nat} {pos : Pos} {Q : Unit → Shared → Prop} (hh : A.handled = none) (ht : IsTup s.heap t its) (h1 : 1 ≤ its.size) (hz : its.size ≤ 1000) (two : (assignEach elts env).length = 2) (at1 : (assignEach elts env).findIdx? (·.1) = some 1)
    (h : ∀ h' tk, (∀ b o, s.heap.get? b = some o → h'.get? b = some o) → wpAny (model prog w) A (newList (its.toList.drop 1)) (fun d u => wpAny (model prog w) A (assignInOrder ((assignEach elts env).map (·.2)) (its.toList.take 1 ++ [d])) Q E u) E { s with heap := h', toks := tk }) : wpAny (model prog w) A (assign (.Tuple elts k pos) env (.ref t)) Q E s := by
  rw [assign_Tuple]
  refine wpAny_bind (wpAny_standAt ?_)
  unfold unpack
  rw [two, at1]
  exact wpAny_bind (wpAny_holding (star_items hh ht h1 hz h))
/-- x, *rest = t: the rest is a new list -/
def gStar (K : PySem.W.Frag) (t : TGs) : TG := fun v σ H Q => ∃ a x xs, v = V.ref a ∧ SqT K H a (x :: xs) ∧ xs.length ≤ 900 ∧ ∀ p, H p = none → t [x, .ref p] σ (upd H p (.lst xs)) Q
theorem pg_star {X : Cx} {e0 e1 : Expr} {p1 : Pos} {k : Nat} {t : TGs} {pos : Pos} (hc : X.calm = true) (h : PGs X [e0, e1] t) (two : (assignEach [e0, .Starred e1 p1] X.env).length = 2 := by rfl) (at1 : (assignEach [e0, .Starred e1 p1] X.env).findIdx? (·.1) = some 1 := by rfl)
    (same : (assignEach [e0, .Starred e1 p1] X.env).map (·.2) = (assignEach [e0, e1] X.env).map (·.2) := by rfl) : PG X (.Tuple [e0, .Starred e1 p1] k pos) (gStar X.K t) := by
  refine ⟨fun pins s σ H v u Q I r hw => ?_⟩
  obtain ⟨a, x, xs, rfl, hq, hl, hw⟩ := hw
  cases r
  obtain ⟨its, rv, ht, hz⟩ := I.tuple hq
  have len := rv.length
  rw [List.length_cons] at len
  cases rv with
  | @cons _ u0 _ us r0 rs =>
    refine star_bind (I.ok.hd hc) ht (by simp) (by simp only [List.size_toArray]; omega) two at1 fun h' tk keep => ?_
    have I1 : Inv X pins σ H { s with heap := h', toks := tk } := I.kept (t' := tk) keep
    have e2 : (u0 :: us).toArray.toList.drop 1 = us := rfl
    have e3 : (u0 :: us).toArray.toList.take 1 = [u0] := rfl
    rw [e2, e3]
    refine wpAny_newList ?_ (Nat.le_of_lt (L2.small1000 (by rw [← rs.length]; omega)))
    have I2 : Inv X pins σ (upd H h'.objs.size (.lst xs)) { s with heap := h'.push { cls := .type "list", data := .seq us.toArray }, toks := tk } :=
      I1.laid (t' := tk) (fun b o e => Heap.get?_push_of_some _ e) (Nat.le_refl _) ⟨Nat.le_of_lt (L2.small1000 (by omega)), us, 0, rs, Heap.get?_push_size _ rfl⟩
    rw [same]
    exact h.run pins _ σ _ _ _ Q I2 (.cons r0 (.cons (show L2.RelV (V.ref h'.objs.size) (Value.ref h'.objs.size) from rfl) .nil)) (hw _ (I1.hok.fresh (Nat.le_refl _)))
end
end Cr
namespace Cr
/-! ### for i, x in enumerate(t), t a tuple -/
section
open PySem PySem.Spec PySem.Calls PySem.AutoSeq1 PyProof.Rows
set_option maxHeartbeats 1000000 in
theorem enum_new1 {v : Value} {o : Obj} {G : Heap → Prop} (B : Begins v o G) : Meets (Builtin.«enumerate.__new__» ⟨[.type "enumerate", v], []⟩) (fun _ R s => G s.heap ∧
    R (.ok (.ret (.ref (s.heap.push o).objs.size))) { s with heap := (s.heap.push o).push { cls := .type "enumerate", data := .fields #[.none, .bool false, .ref s.heap.objs.size, rawInt 0, .none, .none] } }) :=
  .of_wp fun prog w A R s h => by
    obtain ⟨hp, g, d, tk, os⟩ := s
    obtain ⟨begun, fin⟩ := h
    have hsub := sub_enumerate
    have start : ∀ {A' : Around} {E : Value → Shared → Prop} {Q : Value → Shared → Prop}, Q (.ref hp.objs.size) ⟨hp.push o, g, d, tk, os⟩ → wpAny (model prog w) A' (pyIter v) Q E ⟨hp, g, d, tk, os⟩ := fun q => B.iter prog w _ _ ⟨hp, g, d, tk, os⟩ _ begun q
    wp_walk using start
    refine wpAny_stack_any fun st => wpAny_pure ?_
    split
    · rename_i c _ _ _ _ _
      cases (c == Value.type "enumerate")
      · wp_walk using start; exact ⟨_, rfl, fin⟩
      · wp_walk using start; exact ⟨_, rfl, fin⟩
    · wp_walk using start; exact ⟨_, rfl, fin⟩
theorem call_enum1 {prog : Program} {w : World} {A : Around} {E : Value → Shared → Prop} {s : Shared} {v : Value} {o : Obj} {G : Heap → Prop} {Q : Value → Shared → Prop} (B : Begins v o G) (begun : G s.heap)
    (h : ∀ h', IsEnum h' (s.heap.objs.size + 1) s.heap.objs.size 0 .none → h'.get? s.heap.objs.size = some o → (∀ b u, s.heap.get? b = some u → h'.get? b = some u) → Q (.ref (s.heap.objs.size + 1)) { s with heap := h' }) : wpAny (model prog w) A (call (.type "enumerate") [v]) Q E s := by
  refine callType_new F.called_enumerate (by decide) (F.typeCall_enumerate_1 _) (F.newCall_enumerate_1 _) (fun obj => F.args_object_init_2 obj _) F.entry_enumerate_new (enum_new1 B) ⟨begun, ?_⟩
  have size : (s.heap.push o).objs.size = s.heap.objs.size + 1 := Heap.size_push ..
  show _ ∧ _
  rw [size]
  have en : IsEnum ((s.heap.push o).push { cls := .type "enumerate", data := .fields #[.none, .bool false, .ref s.heap.objs.size, rawInt 0, .none, .none] }) (s.heap.objs.size + 1) s.heap.objs.size 0 .none := by
    have z := Heap.get?_push_size (s.heap.push o) (o := { cls := .type "enumerate", data := .fields #[.none, .bool false, .ref s.heap.objs.size, rawInt 0, .none, .none] }) rfl
    rw [size] at z; exact z
  exact ⟨⟨_, en, rfl⟩, h _ en (Heap.get?_push_of_some _ (Heap.get?_push_size _ B.free)) fun b u x => Heap.get?_push_of_some _ (Heap.get?_push_of_some _ x)⟩
end
section
open PySem PySem.Spec PyProof.Rows L2
/-- the tuple at a, each item in a new pair -/
def Itet (K : PySem.W.Frag) (a : Addr) : It :=
  ⟨fun i H => ∃ (xs : List V) (x : V), SqT K H a xs ∧ xs[i]? = some x, fun i H v H' => ∃ T x, v = .ref T ∧ H T = none ∧ H' = upd H T (.tup [.int (i : Nat), x]) ∧ ∀ xs, SqT K H a xs → xs[i]? = some x, fun i H => ∃ xs : List V, SqT K H a xs ∧ xs.length = i⟩
theorem turn_enumT {P : Program} {w : World} {K : PySem.W.Frag} {elts : List Expr} {kk : Nat} {tpos : Pos} (a e it : Addr) (ne : e ≠ it) (na : a ≠ it) (nea : e ≠ a) :
    Turn P w K (.Tuple elts kk tpos) (Itet K a) [e, it] e (fun i h => (∃ old, IsEnum h e it ((i : Nat) : Int) old) ∧ h.IsTupleIter it a i) where
  mem := List.mem_cons_self
  obj := fun i h st b hb => by
    obtain ⟨⟨old, he⟩, ⟨o, ho, hc, hd⟩⟩ := st
    rcases List.mem_cons.mp hb with z | z
    · rw [z]; exact ⟨_, he, fun v q => nomatch q⟩
    · rw [List.mem_singleton.mp z]; exact ⟨o, ho, fun v q => by rw [hd] at q; cases q⟩
  keep := fun i h h' st k => by
    obtain ⟨⟨old, he⟩, hi⟩ := st
    exact ⟨⟨old, k e List.mem_cons_self _ he⟩, hi.at fun o q => k it (List.mem_cons_of_mem _ List.mem_cons_self) o q⟩
  item := by
    intro X hP hw hK hc i pins s σ H E I hf st hg
    subst hP hw hK
    obtain ⟨⟨old, he⟩, hit⟩ := st
    obtain ⟨xs, x, hq, hx⟩ := hg
    obtain ⟨its, rv, ht, hz⟩ := I.tuple hq
    obtain ⟨u, hu, ru⟩ := rv.get hx
    have lt : i < its.toArray.size := by
      have := (List.getElem?_eq_some_iff.mp hu).1
      simpa using this
    have el : e < s.heap.objs.size := Heap.lt_size he
    have il : it < s.heap.objs.size := by obtain ⟨_, q, _⟩ := hit; exact Heap.lt_size q
    refine wpAny_pyNext_enum_itemC (Draws.tuple (A := X.A.in1) (I.ok.hd hc) it a na its.toArray) he ⟨hit, ht⟩ lt ne (by simp [ne, nea]) fun x' h' tk px out st' hT size keep => ?_
    have ex : x' = u := by
      have px : its.toArray[i]? = some x' := px
      rw [List.getElem?_toArray, hu] at px
      exact (Option.some.inj px).symm
    subst ex
    refine ⟨_, rfl, wpAny_letOwnedTupleGo_enum (s := { s with heap := h', toks := tk + 1 }) out fun h'' en sb => ?_⟩
    have gT : h''.get? s.heap.objs.size = some { cls := .type "tuple", data := .seq #[.int i tk, x'] } := (sb.2 _ (Nat.ne_of_gt el)).trans hT
    have new : ObjOk X.prog X.w (upd H s.heap.objs.size (.tup [.int (i : Nat), x])) h'' s.heap.objs.size (.tup [.int (i : Nat), x]) :=
      ⟨by show 2 ≤ sizeLine; decide, [.int i tk, x'], .cons ⟨_, rfl⟩ (.cons ru .nil), ⟨_, gT, rfl, _, rfl⟩⟩
    have I1 : Inv X pins σ (upd H s.heap.objs.size (.tup [.int (i : Nat), x])) { s with heap := h'', toks := tk + 1 } :=
      I.turnedNew (ch := [e, it]) (fun b ob hb q => (sb.2 b (fun z => hb (by simp [z]))).trans (keep b ob (fun z => hb (by simp [z])) (fun z => hb (by simp [z])) q)) hf (Nat.le_refl _) new
    refine ⟨.ref s.heap.objs.size, _, I1, rfl, ⟨_, x, rfl, I.hok.fresh (Nat.le_refl _), rfl, fun ys hy => by rw [I.tuple_inj hy hq]; exact hx⟩, ⟨⟨x', ?_⟩, st'.1.at fun o q => (sb.2 it (Ne.symm ne)).trans q⟩, fun b hb => ?_⟩
    · rw [show ((i + 1 : Nat) : Int) = (i : Int) + 1 by omega]; exact en
    · have hb' : b < s.heap.objs.size := by
        rcases List.mem_cons.mp hb with z | z
        · rw [z]; exact el
        · rw [List.mem_singleton.mp z]; exact il
      rw [upd_ne (Nat.ne_of_lt hb')]; exact (hf b hb).1
  done := by
    intro X hP hw hK hc i pins s σ H E I hf st hg
    subst hP hw hK
    obtain ⟨⟨old, he⟩, hit⟩ := st
    obtain ⟨xs, hq, hx⟩ := hg
    obtain ⟨its, rv, ht, hz⟩ := I.tuple hq
    obtain ⟨f0, f1, f2, f3, f4, f5⟩ := hf it (List.mem_cons_of_mem _ List.mem_cons_self)
    have size : its.toArray.size = i := by rw [List.size_toArray, ← rv.length, hx]
    exact wpAny_pyNext_enum_endD (Draws.tuple (A := X.A.in1) (I.ok.hd hc) it a na its.toArray) he (by rw [size]; exact ⟨hit, ht⟩) fun h' eb => ⟨rfl, I.turned (t' := s.toks) (fun b o hb q => eb b o hb q) f0 f1 f3 f4 f5⟩
  self := fun A i s Q E st h => by
    obtain ⟨⟨_, he⟩, _⟩ := st
    exact wpAny_pyIter_enum he h
def iEnumT (K : PySem.W.Frag) (ta : TA) : TI := fun σ H R => ta σ H fun vs H1 => ∃ a xs, vs = [.ref a] ∧ SqT K H1 a xs ∧ R (Itet K a) H1
theorem pi_enumT {X : Cx} {e : Expr} {ta : TA} {p pos tpos : Pos} {elts : List Expr} {kk : Nat} (hg : Gl X "enumerate") (hm : X.mg "enumerate" = none) (ha : PA X [e] ta) (hs : starEach [e] X.env = [(false, eval e X.env)] := by rfl) :
    PI X (.Tuple elts kk tpos) (.Call (.Name "enumerate" p) [e] [] pos) (iEnumT X.K ta) := by
  refine ⟨fun pins s σ H R I h => ?_⟩
  refine Call_ (ld_blt I hg hm boot_enumerate (PyProof.Rows.callWith_type1 (thn (ha.run pos pins s σ H _ I h) fun us s1 ⟨vs, H1, I1, r1, q1⟩ => ?_) hs rfl))
  obtain ⟨a, xs, ex, hq, q⟩ := q1
  subst ex
  rw [Vals.ref1 r1]
  obtain ⟨its, rv, ht, hz⟩ := I1.tuple hq
  have al : a < s1.heap.objs.size := by obtain ⟨o, ho, _⟩ := id ht; exact Heap.lt_size ho
  refine call_enum1 (begins_tuple a its.toArray) ht fun h' en gi keep => wpAny_pyIter_enum en ?_
  have I2 : Inv X pins σ H1 { s1 with heap := h' } := I1.kept (t' := s1.toks) keep
  refine ⟨s1.heap.objs.size + 1, [s1.heap.objs.size + 1, s1.heap.objs.size], _, _, H1, rfl, I2, turn_enumT a (s1.heap.objs.size + 1) s1.heap.objs.size (Nat.succ_ne_self _) (Nat.ne_of_lt al) (Nat.ne_of_gt (Nat.lt_succ_of_lt al)), ⟨⟨.none, en⟩, ⟨_, gi, rfl, rfl⟩⟩, fun b hb => ?_, q⟩
  have hle : s1.heap.objs.size ≤ b := by
    rcases List.mem_cons.mp hb with z | z
    · rw [z]; exact Nat.le_succ _
    · rw [List.mem_singleton.mp z]; exact Nat.le_refl _
  exact I1.fpOk hle (I1.hok.fresh hle)
theorem f_enumT {K : PySem.W.Frag} {σ : St} {H : Hp} {D : Ends} {a : Addr} {xs : List V} {g : TG} {tb : TS} (Pv : Nat → St → Hp → Prop) (h0 : Pv 0 σ H) (hl : ∀ i σ H, i ≤ xs.length → Pv i σ H → SqT K H a xs)
    (hs : ∀ i x T σ H, xs[i]? = some x → Pv i σ H → H T = none → g (.ref T) σ (upd H T (.tup [.int (i : Nat), x])) fun σ2 H2 => tb { D with nx := Pv (i + 1), ct := Pv (i + 1), bk := D.nx } σ2 H2) (hd : ∀ σ H, Pv xs.length σ H → D.nx σ H) : ForR (Itet K a) g tb D σ H := by
  refine ⟨fun i m σ' H' => m = xs.length - i ∧ i ≤ xs.length ∧ Pv i σ' H', ⟨_, rfl, Nat.zero_le _, h0⟩, ?_⟩
  rintro i m σ' H' ⟨rfl, hi, p⟩
  have sq := hl i σ' H' hi p
  by_cases hlt : i < xs.length
  · refine .inr ⟨⟨xs, xs[i], sq, List.getElem?_eq_getElem hlt⟩, Pv (i + 1), fun σ2 H2 p' => ⟨xs.length - (i + 1), by omega, rfl, hlt, p'⟩, fun v H2 y => ?_⟩
    obtain ⟨T, x, rfl, nT, rfl, ex⟩ := y
    exact hs i x T σ' H' (ex xs sq) p nT
  · have e : i = xs.length := by omega
    subst e
    exact .inl ⟨⟨xs, sq, rfl⟩, hd _ _ p⟩
end
end Cr
namespace Cr
/-! ### set comprehensions, members of one kind told by keys -/
open PySem PySem.Spec PyProof.Rows L2
/-- a kind of set objects: how it begins, how one is put in -/
structure Fam {κ : Type} [DecidableEq κ] (P : Program) (w : World) (SO : Addr → (κ → Bool) → Nat → HO) (emb : κ → V) : Prop where
  new : ∀ (H : Hp) (h : Heap), ObjOk P w H (h.push { cls := .type "set", dict := none, data := .set #[] 0 (.fresh 0 0 (!w.params.followText "set-order")) }) h.objs.size (SO h.objs.size (fun _ => false) 0)
  add : ∀ {X : Cx}, X.prog = P → X.w = w → ∀ {A : Around} {E : Value → Shared → Prop} {pins : List (Addr × Obj)} {σ : St} {H : Hp} {s : Shared} {d : Addr} {k : κ} {u : Value} {S : κ → Bool} {n : Nat} {Q : Value → Shared → Prop}, Inv X pins σ H s → H d = some (SO d S n) → RelV (emb k) u → n + 1 < scanBound →
    (∀ t, Inv X pins σ (upd H d (SO d (fun j => S j || decide (j = k)) (if S k = true then n else n + 1))) t → Q .none t) → wpAny (model P w) A (call (.builtin "set.add") [.ref d, u]) Q E s
def ScR {κ : Type} [DecidableEq κ] (SO : Addr → (κ → Bool) → Nat → HO) (emb : κ → V) (J : It) (g : TG) (tt : TT) (te : TE) (vs : List Nat) (σ : St) (H1 : Hp) (Q : VK) : Prop := ∀ d, H1 d = none → ∃ W : Nat → Nat → Hp → Prop, (∃ m, W 0 m (upd H1 d (SO d (fun _ => false) 0))) ∧ ∀ i m H, W i m H →
  (J.stop i H ∧ Q (.ref d) H) ∨ (J.go i H ∧ ∃ Nx : Hp → Prop, (∀ H', Nx H' → ∃ m', m' < m ∧ W (i + 1) m' H') ∧ ∀ x H', J.yld i H x H' → g x (wipe σ vs) H' fun σ2 H2 => wipe σ2 vs = wipe σ vs ∧ tt σ2 H2 fun b H3 =>
    if b = true then te σ2 H3 fun y H4 => ∃ (k : κ) (S : κ → Bool) (n : Nat), y = emb k ∧ H4 d = some (SO d S n) ∧ n + 1 < scanBound ∧ Nx (upd H4 d (SO d (fun j => S j || decide (j = k)) (if S k = true then n else n + 1))) else Nx H3)
def tSk {κ : Type} [DecidableEq κ] (SO : Addr → (κ → Bool) → Nat → HO) (emb : κ → V) (wi : TI) (g : TG) (tt : TT) (te : TE) (vs : List Nat) : TE := fun σ H Q => wi σ H fun J H1 => ScR SO emb J g tt te vs σ H1 Q
section
open PpSet
variable {X : Cx} {κ : Type} [DecidableEq κ] {SO : Addr → (κ → Bool) → Nat → HO} {emb : κ → V}
theorem sk_core (F : Fam X.prog X.w SO emb) {pins : List (Addr × Obj)} {s : Shared} {σ : L2.St} {H : Hp} {Q : VK} {elt tg iter : Expr} {ifs : List Expr} {scope : Scope} {own : List (PySem.Str × Nat)} {pos pos' : Pos} {wi : TI} {g : TG} {tt : TT} {te : TE} {use : Option (Value → Sem Unit)} {Qf : Value → Shared → Prop}
    (hc : X.calm = true) (hN : X.N.Nodup) (I : Inv X pins σ H s) (hi : PI X tg iter wi) (ok : BlkOk X.N X.env.scope scope own)
    (pgs : ∀ (s : Shared) (H : Hp) (c : Addr) (cl : List (PySem.Str × Addr)) (fp : List Addr), PG (X.blk s H scope (compEnvC scope cl c X.env) fp) tg g) (pts : ∀ (s : Shared) (H : Hp) (c : Addr) (cl : List (PySem.Str × Addr)) (fp : List Addr), PTs (X.blk s H scope (compEnvC scope cl c X.env) fp) ifs tt)
    (pes : ∀ (s : Shared) (H : Hp) (c : Addr) (cl : List (PySem.Str × Addr)) (fp : List Addr), PE (X.blk s H scope (compEnvC scope cl c X.env) fp) elt te) (hs : ∀ x, foldedSetIterable iter X.env x = pure x)
    (h : tSk SO emb wi g tt te (own.map (·.2)) σ H Q)
    (leave : ∀ d c t m H', Inv X pins σ H' t → Q (.ref d) H' → t.heap.Ns c m → FpOk X pins H' c → compPost (model X.prog X.w) X.A X.xe use Qf (.ref d) c (.ok .next) t) :
    wpAny (model X.prog X.w) X.A (comprehension (.SetComp elt [⟨tg, iter, ifs, 0⟩] scope pos) scope X.env pos' (newSet (.type "set")) false (eval iter X.env) use) Qf X.xe s := by
  have frees : ∀ y ∈ scope.names, y.2 = .free → ∃ c, X.env.cells.lookup y.1 = some c := fun y hy e => (ok.free y hy e).elim (fun k => I.ok.has _ (.inl k)) fun k => I.ok.has _ (.inr k)
  refine wpAny_comprehension_free (use := use) rfl hs (closure_ok frees) ok.kind (fun y hy e => by rw [ok.uniq y hy, e]) (thn (hi.run pins s σ H _ I h) fun xv sa hx => thn hx fun itv sb hb => ?_)
  obtain ⟨it, fp, tn, J, Hb, e, Ib, T, tb, fb, q⟩ := hb
  subst e
  refine newSet_ok (newEnv_comp ?_)
  generalize hd : sb.heap.objs.size = d
  obtain ⟨W, ⟨m0, w0⟩, each⟩ := q d (Ib.hok.fresh (Nat.le_of_eq hd))
  have keepc : ∀ b o, sb.heap.get? b = some o → (sb.heap.push { cls := .type "set", dict := none, data := .set #[] 0 (.fresh 0 0 (!X.w.params.followText "set-order")) }).get? b = some o := fun b o e => Heap.get?_push_of_some _ e
  have sizec : (sb.heap.push { cls := .type "set", dict := none, data := .set #[] 0 (.fresh 0 0 (!X.w.params.followText "set-order")) }).objs.size = d + 1 := by rw [Heap.size_push, hd]
  have Ic : Inv X pins σ (upd Hb d (SO d (fun _ => false) 0)) { sb with heap := sb.heap.push { cls := .type "set", dict := none, data := .set #[] 0 (.fresh 0 0 (!X.w.params.followText "set-order")) } } := by
    refine Ib.laid (t' := sb.toks) keepc (Nat.le_of_eq hd) ?_
    have z := F.new (upd Hb sb.heap.objs.size (SO sb.heap.objs.size (fun _ => false) 0)) sb.heap
    rw [hd] at z; exact z
  generalize hsc : ({ sb with heap := sb.heap.push { cls := .type "set", dict := none, data := .set #[] 0 (.fresh 0 0 (!X.w.params.followText "set-order")) } } : Shared) = sc at Ic
  have hc3 : sc.heap = sb.heap.push { cls := .type "set", dict := none, data := .set #[] 0 (.fresh 0 0 (!X.w.params.followText "set-order")) } := by rw [← hsc]
  rw [← hc3] at keepc sizec
  have fc : ∀ b ∈ fp, FpOk X pins (upd Hb d (SO d (fun _ => false) 0)) b ∧ b < sc.heap.objs.size := fun b hb => by
    obtain ⟨o, e, _⟩ := T.obj _ _ tb b hb
    have lt : b < d := by rw [← hd]; exact Heap.lt_size e
    refine ⟨⟨?_, (fb b hb).2⟩, by rw [sizec]; exact Nat.lt_succ_of_lt lt⟩
    rw [upd_ne (Nat.ne_of_lt lt)]; exact (fb b hb).1
  have tc : tn 0 sc.heap := T.keep _ _ _ tb fun b _ o e => keepc b o e
  have Id := block_start Ic ok hN fc
  have pg := pgs sc (upd Hb d (SO d (fun _ => false) 0)) sc.heap.objs.size (cellsFrom (sc.heap.objs.size + 1) scope.names (cloFrom X.env.cells scope.names [])) fp
  have pt := pts sc (upd Hb d (SO d (fun _ => false) 0)) sc.heap.objs.size (cellsFrom (sc.heap.objs.size + 1) scope.names (cloFrom X.env.cells scope.names [])) fp
  have pe := pes sc (upd Hb d (SO d (fun _ => false) 0)) sc.heap.objs.size (cellsFrom (sc.heap.objs.size + 1) scope.names (cloFrom X.env.cells scope.names [])) fp
  show codeAny _ _ (.compStart (.SetComp elt [⟨tg, iter, ifs, 0⟩] scope pos) 0 (.ref it) (.ref d) (compEnvC scope (cellsFrom (sc.heap.objs.size + 1) scope.names (cloFrom X.env.cells scope.names [])) sc.heap.objs.size X.env)) (compPost (model X.prog X.w) X.A X.xe use Qf (.ref d) sc.heap.objs.size) { sc with heap := pushCells (sc.heap.push { cls := .type "dict", data := .dict #[] }) scope.names }
  have none0 : ∀ b ∈ fp, (upd Hb d (SO d (fun _ => false) 0)) b = none := fun b hb => (fc b hb).1.1
  generalize hen : compEnvC scope (cellsFrom (sc.heap.objs.size + 1) scope.names (cloFrom X.env.cells scope.names [])) sc.heap.objs.size X.env = en at Id pg pt pe ⊢
  have enL : en.locals = sc.heap.objs.size := by subst hen; rfl
  generalize hHc : upd Hb d (SO d (fun _ => false) 0) = Hc at Ic Id pg pt pe w0 none0 fc
  generalize hsd : ({ sc with heap := pushCells (sc.heap.push { cls := .type "dict", data := .dict #[] }) scope.names } : Shared) = sd at Id ⊢
  have td : tn 0 sd.heap := T.keep _ _ _ tc fun b _ o e => by rw [← hsd]; exact pushCells_keeps _ _ _ _ (Heap.get?_push_of_some _ e)
  have still : ∀ {σ' : L2.St} {H' : Hp} {t : Shared}, Inv (X.blk sc Hc scope en fp) [] σ' H' t → (∀ b ∈ fp, H' b = none) → ∀ b ∈ fp, FpOk (X.blk sc Hc scope en fp) [] H' b := fun {σ' H' t} I' hn b hb =>
    ⟨hn b hb, (I'.ok.exf b hb).1, I'.ok.exfs b hb, .inl hb, fun x c e => (I'.ok.exf b hb).2 x c e, fun p hp => absurd (show p ∈ ([] : List (Addr × Obj)) ++ [] from hp) (by simp)⟩
  have around : codeAny (model X.prog X.w) X.A (.compLoop (.SetComp elt [⟨tg, iter, ifs, 0⟩] scope pos) 0 (.ref it) (.ref d) en) (compPost (model X.prog X.w) X.A X.xe use Qf (.ref d) sc.heap.objs.size) sd := by
    refine compLoopS_any (fun n t => ∃ i H', Inv (X.blk sc Hc scope en fp) [] (wipe σ (own.map (·.2))) H' t ∧ tn i t.heap ∧ (∀ b ∈ fp, H' b = none) ∧ W i n H') ?_ m0 ⟨0, Hc, Id, td, none0, w0⟩
    rintro n se ⟨i, He, Ie, te', ne, we⟩
    rcases each i n He we with ⟨stop, qq⟩ | ⟨go, Nx, hNx, step⟩
    · have out := T.done (X.blk sc Hc scope en fp) rfl rfl rfl hc i [] se _ He (fun _ _ => False) Ie (still Ie ne) te' stop
      refine thnF out fun r sf ⟨hr, Jf⟩ => ?_
      subst hr
      have Ig : Inv X pins σ He sf := Ic.call' (ch := fp) Jf.os Jf.base Jf.hok Jf.bare fun b hb => ⟨(fc b hb).1.2.2.2.1, (fc b hb).1.2.1, (fc b hb).1.2.2.2.2.1, (fc b hb).1.2.2.2.2.2⟩
      have nC : He sc.heap.objs.size = none := by
        have z : He en.locals = none := Jf.free
        rw [enL] at z; exact z
      obtain ⟨m, hn, _⟩ := Jf.loc
      have hn : sf.heap.Ns en.locals m := hn
      rw [enL] at hn
      exact leave d sc.heap.objs.size sf m He Ig qq hn (Ic.fpOk (Nat.le_refl _) nC)
    · have next := T.item (X.blk sc Hc scope en fp) rfl rfl rfl hc i [] se _ He (fun _ _ => False) Ie (still Ie ne) te' go
      refine thnF next fun r sf ⟨u, hr, hf⟩ => ?_
      subst hr
      refine thnF hf fun _ sg ⟨x, Hg, Ig, rg, yg, tg', ng⟩ => ?_
      refine thnF (pg.run _ sg _ Hg x u _ (Ig.pinned (still Ig ng) (T.obj _ _ tg')) rg (step x Hg yg)) fun _ sh ⟨σh, Hh, Ih, hwh, qh⟩ => ?_
      refine thnF (pt.run _ sh σh Hh _ Ih qh) fun b si ⟨Hi, Ii, qi⟩ => ?_
      have close : ∀ {t : Shared} {H' : Hp}, Inv (X.blk sc Hc scope en fp) ([] ++ pinsAt fp sg.heap) σh H' t → Nx H' → ∃ m, m < n ∧ ∃ i H', Inv (X.blk sc Hc scope en fp) [] (wipe σ (own.map (·.2))) H' t ∧ tn i t.heap ∧ (∀ b ∈ fp, H' b = none) ∧ W i m H' := fun {t H'} I' nx => by
        obtain ⟨m', hm, w'⟩ := hNx H' nx
        have pinned : ∀ b ∈ fp, ∀ o, sg.heap.get? b = some o → t.heap.get? b = some o ∧ H' b = none := fun b hb o e =>
          let z := I'.pin (b, o) (List.mem_append_right _ (List.mem_append_right _ (mem_pinsAt hb e)))
          ⟨z.1, z.2.1⟩
        have len : (wipe σ (own.map (·.2))).length = σh.length := by rw [← hwh, wipe_length]
        refine ⟨m', hm, i + 1, H', (I'.unpinned (pins := [])).weak len (fun j v e => ?_), T.keep _ _ _ tg' fun b hb o e => (pinned b hb o e).1, fun b hb => ?_, w'⟩
        · rw [← hwh] at e; exact (wipe_some e).1
        · obtain ⟨o, e, _⟩ := T.obj _ _ tg' b hb
          exact (pinned b hb o e).2
      cases b with
      | false =>
        simp only [Bool.false_eq_true, if_false] at qi ⊢; exact close Ii qi
      | true =>
        simp only [if_true] at qi ⊢
        refine thnF (pe.run _ si σh Hi _ Ii qi) fun z sj ⟨yv, Hj, Ij, rj, k, S0, n0, ey, at_d, small, nx⟩ => ?_
        subst ey
        refine F.add (X := X.blk sc Hc scope en fp) rfl rfl Ij at_d rj small ?_
        exact fun t I' => close I' nx
  exact codeAny_compStart_set around (T.self X.A 0 _ _ _ td around)
theorem pe_sk (F : Fam X.prog X.w SO emb) {elt tg iter : Expr} {ifs : List Expr} {scope : Scope} {own : List (PySem.Str × Nat)} {pos : Pos} {wi : TI} {g : TG} {tt : TT} {te : TE} (hc : X.calm = true) (hN : X.N.Nodup) (hi : PI X tg iter wi) (ok : BlkOk X.N X.env.scope scope own)
    (pgs : ∀ (s : Shared) (H : Hp) (c : Addr) (cl : List (PySem.Str × Addr)) (fp : List Addr), PG (X.blk s H scope (compEnvC scope cl c X.env) fp) tg g) (pts : ∀ (s : Shared) (H : Hp) (c : Addr) (cl : List (PySem.Str × Addr)) (fp : List Addr), PTs (X.blk s H scope (compEnvC scope cl c X.env) fp) ifs tt)
    (pes : ∀ (s : Shared) (H : Hp) (c : Addr) (cl : List (PySem.Str × Addr)) (fp : List Addr), PE (X.blk s H scope (compEnvC scope cl c X.env) fp) elt te) (hs : ∀ x, foldedSetIterable iter X.env x = pure x := by intro _; rfl) :
    PE X (.SetComp elt [⟨tg, iter, ifs, 0⟩] scope pos) (tSk SO emb wi g tt te (own.map (·.2))) := by
  refine ⟨fun pins s σ H Q I h => ?_⟩
  rw [eval_SetComp]
  refine sk_core F hc hN I hi ok pgs pts pes hs h fun d c t m H' I' q hn f => ⟨m, hn, fun h'' sb => ?_⟩
  obtain ⟨f0, f1, f2, f3, f4, f5⟩ := f
  exact ⟨.ref d, H', I'.turned (t' := t.toks) (fun b o hb e => (sb.2 b hb).trans e) f0 f1 f3 f4 f5, rfl, q⟩
end
/-! the two kinds: texts and numbers as keys; numbers in order -/
theorem fam_key (P : Program) (w : World) : Fam (κ := Key) P w (SetK P w) kV := by
  refine ⟨fun H h => setK_new ⟨_, #[], 0, _, Heap.get?_push_size _ rfl, ⟨rfl, rfl, rfl⟩, rfl, (fun e he => by simp at he), (fun k => by simp), (by decide), (by rfl), rfl⟩, ?_⟩
  intro X hP hw A E pins σ H s d k u S n Q I at_d rk small q
  subst hP hw
  refine call_set_add (kV_is rk) (key_scan rk) (setK_get I at_d) small fun h' sb new => ?_
  have there : ∃ o, h'.get? d = some o := by
    have ⟨o, _, _, _, ho, _⟩ := new
    exact ⟨o, ho⟩
  exact q _ (I.write (e := d) (t' := s.toks + 1) (by rw [at_d]; trivial) (.inl rfl) (fun b o hb e => (sb.2 b hb).trans e) there (setK_new new))
theorem fam_int (P : Program) (w : World) : Fam (κ := Int) P w (SetO w) V.int := by
  refine ⟨fun H h => setO_new (setR_fresh w), ?_⟩
  intro X hP hw A E pins σ H s d k u S n Q I at_d rk small q
  subst hP hw
  obtain ⟨tk, rfl⟩ := rk
  refine setR_add (setO_get I at_d) small fun h' sb new => ?_
  have there : ∃ o, h'.get? d = some o := by
    have ⟨o, _, _, _, ho, _⟩ := new
    exact ⟨o, ho⟩
  exact q _ (I.write (e := d) (t' := s.toks + 1) (by rw [at_d]; trivial) (.inl rfl) (fun b o hb e => (sb.2 b hb).trans e) there (setO_new new))
/-- the keys in the order in which they first come -/
def accK {κ : Type} [DecidableEq κ] (ks : List κ) : List κ := ks.foldl (fun acc k => if k ∈ acc then acc else acc ++ [k]) []
section
variable {κ : Type} [DecidableEq κ]
theorem accK_snoc (ks : List κ) (k : κ) : accK (ks ++ [k]) = if k ∈ accK ks then accK ks else accK ks ++ [k] := by
  unfold accK
  rw [List.foldl_append]; rfl
theorem accK_len (ks : List κ) : (accK ks).length ≤ ks.length := by
  unfold accK
  suffices ∀ (ks acc : List κ), (ks.foldl (fun acc k => if k ∈ acc then acc else acc ++ [k]) acc).length ≤ acc.length + ks.length by
    have := this ks []
    simpa using this
  intro ks
  induction ks with
  | nil => intro acc; simp
  | cons k ks ih =>
    intro acc
    rw [List.foldl_cons, List.length_cons]
    refine Nat.le_trans (ih _) ?_
    split
    · omega
    · rw [List.length_append, List.length_singleton]; omega
theorem accK_nodup : ∀ {ks : List κ}, ks.Nodup → accK ks = ks := by
  intro ks h
  unfold accK
  suffices ∀ (ks acc : List κ), (acc ++ ks).Nodup → ks.foldl (fun acc k => if k ∈ acc then acc else acc ++ [k]) acc = acc ++ ks from this ks [] h
  intro ks
  induction ks with
  | nil => intro acc _; simp
  | cons k ks ih =>
    intro acc hn
    have no : k ∉ acc := fun hm => by
      have := (List.nodup_append.mp hn).2.2 k hm k List.mem_cons_self
      exact this rfl
    rw [List.foldl_cons, if_neg no, ih (acc ++ [k]) (by rw [List.append_assoc]; exact hn), List.append_assoc]
    rfl
theorem accK_mem {ks : List κ} {k : κ} : k ∈ accK ks ↔ k ∈ ks := by
  unfold accK
  suffices ∀ (ks acc : List κ), k ∈ ks.foldl (fun acc k => if k ∈ acc then acc else acc ++ [k]) acc ↔ k ∈ acc ∨ k ∈ ks by
    have := this ks []
    simpa using this
  intro ks
  induction ks with
  | nil => intro acc; simp
  | cons x ks ih =>
    intro acc
    rw [List.foldl_cons, ih]
    by_cases h : x ∈ acc
    · rw [if_pos h, List.mem_cons]
      constructor
      · rintro (a | a)
        · exact .inl a
        · exact .inr (.inr a)
      · rintro (a | a | a)
        · exact .inl a
        · subst a; exact .inl h
        · exact .inr a
    · rw [if_neg h, List.mem_append, List.mem_singleton, List.mem_cons, or_assoc]
theorem accK_is_nodup (ks : List κ) : (accK ks).Nodup := by
  unfold accK
  suffices ∀ (ks acc : List κ), acc.Nodup → (ks.foldl (fun acc k => if k ∈ acc then acc else acc ++ [k]) acc).Nodup from this ks [] List.nodup_nil
  intro ks
  induction ks with
  | nil => intro acc h; exact h
  | cons x ks ih =>
    intro acc h
    rw [List.foldl_cons]
    refine ih _ ?_
    split
    · exact h
    · rename_i no
      rw [List.nodup_append]
      exact ⟨h, List.nodup_cons.mpr ⟨List.not_mem_nil, List.nodup_nil⟩, fun a ha b hb e => by
        rw [List.mem_singleton] at hb
        exact no (by rw [← hb, ← e]; exact ha)⟩
theorem accK_lt {ks : List κ} (h : ¬ ks.Nodup) : (accK ks).length < ks.length := by
  suffices ∀ (ks acc : List κ), acc.Nodup → (ks.foldl (fun acc k => if k ∈ acc then acc else acc ++ [k]) acc).length ≤ acc.length + ks.length ∧ ((ks.foldl (fun acc k => if k ∈ acc then acc else acc ++ [k]) acc).length = acc.length + ks.length → (acc ++ ks).Nodup) by
    obtain ⟨h1, h2⟩ := this ks [] List.nodup_nil
    rw [List.length_nil, Nat.zero_add] at h1 h2
    rw [List.nil_append] at h2
    rcases Nat.lt_or_ge (accK ks).length ks.length with l | l
    · exact l
    · exact absurd (h2 (Nat.le_antisymm h1 l)) h
  intro ks
  induction ks with
  | nil => intro acc h; exact ⟨by simp, fun _ => by rw [List.append_nil]; exact h⟩
  | cons x ks ih =>
    intro acc h
    rw [List.foldl_cons, List.length_cons]
    by_cases hx : x ∈ acc
    · rw [if_pos hx]
      obtain ⟨h1, _⟩ := ih acc h
      exact ⟨by omega, fun e => by omega⟩
    · rw [if_neg hx]
      have hn : (acc ++ [x]).Nodup := by
        rw [List.nodup_append]
        exact ⟨h, List.nodup_cons.mpr ⟨List.not_mem_nil, List.nodup_nil⟩, fun a ha b hb e => by
          rw [List.mem_singleton] at hb
          exact hx (by rw [← hb, ← e]; exact ha)⟩
      obtain ⟨h1, h2⟩ := ih (acc ++ [x]) hn
      rw [List.length_append, List.length_singleton] at h1 h2
      exact ⟨by omega, fun e => by have := h2 (by omega); rwa [List.append_assoc] at this⟩
end
section
variable {K : PySem.W.Frag} {σ : St} {H : Hp} {Q : VK} {κ : Type} [DecidableEq κ] {SO : Addr → (κ → Bool) → Nat → HO} {emb : κ → V}
theorem s_sk {wi : TI} {g : TG} {tt : TT} {te : TE} {vs : List Nat} (h : wi σ H fun J H1 => ScR SO emb J g tt te vs σ H1 Q) : tSk SO emb wi g tt te vs σ H Q := h
/-- over things that come one by one and stay, new things laid alone, no test -/
theorem c_set {α : Type} {xs : List V} {zs : List α} {J : It} {g : TG} {te : TE} {vs : List Nat} (P : Hp → V → α → Prop) (key : α → κ) (pm : ∀ A B x z, KI A B → P A x z → P B x z) (hz : xs.length ≤ 1000) (hx : A2 (P H) xs zs)
    (go : ∀ A i x, Same H A → xs[i]? = some x → J.go i A) (yld : ∀ A i x A', Same H A → i < xs.length → J.yld i A x A' → A' = A ∧ xs[i]? = some x) (stop : ∀ A, Same H A → J.stop xs.length A)
    (turn : ∀ x z A (N : V → Hp → Prop), z ∈ zs → P A x z → Same H A → (∀ B, Same A B → N (emb (key z)) B) → g x (wipe σ vs) A fun σ2 B => wipe σ2 vs = wipe σ vs ∧ te σ2 B N)
    (fin : ∀ p A, Same H A → H p = none → A p = some (SO p (fun j => decide (j ∈ accK (zs.map key))) (accK (zs.map key)).length) → Q (.ref p) A) : ScR SO emb J g tYes te vs σ H Q := by
  intro p hp
  have lx := hx.len
  have start : SO p (fun j => decide (j ∈ accK (([] : List α).map key))) (accK (([] : List α).map key)).length = SO p (fun _ => false) 0 := by
    have e : (fun j : κ => decide (j ∈ accK (([] : List α).map key))) = fun _ => false := funext fun j => decide_eq_false (fun z => nomatch z)
    rw [e]; rfl
  refine ⟨fun i m A => m = xs.length - i ∧ i ≤ xs.length ∧ Same H A ∧ A p = some (SO p (fun j => decide (j ∈ accK ((zs.take i).map key))) (accK ((zs.take i).map key)).length), ⟨_, rfl, Nat.zero_le _, same_new hp, by rw [upd_same, List.take_zero, start]⟩, ?_⟩
  rintro i m A ⟨rfl, hi, sm, at_p⟩
  by_cases hlt : i < xs.length
  · refine .inr ⟨go A i _ sm (List.getElem?_eq_getElem hlt), fun A' => i + 1 ≤ xs.length ∧ Same H A' ∧ A' p = some (SO p (fun j => decide (j ∈ accK ((zs.take (i + 1)).map key))) (accK ((zs.take (i + 1)).map key)).length), fun A' h => ⟨xs.length - (i + 1), by omega, rfl, h⟩, fun x A' y => ?_⟩
    obtain ⟨rfl, ex⟩ := yld A i x A' sm hlt y
    obtain ⟨z, ez, pz⟩ := hx.at ex
    refine turn x z A' _ (List.mem_of_getElem? ez) (pm _ _ _ _ (ki_same sm) pz) sm fun B sb => ?_
    have et : (zs.take (i + 1)).map key = (zs.take i).map key ++ [key z] := by rw [List.take_add_one, ez, List.map_append]; rfl
    have len : (accK ((zs.take i).map key)).length ≤ 1000 := by
      have := accK_len ((zs.take i).map key)
      rw [List.length_map, List.length_take] at this
      omega
    refine ⟨key z, _, _, rfl, sb _ _ at_p, by show _ < 4096; omega, by omega, same_mut (sm.trans sb) hp, ?_⟩
    rw [upd_same, et, accK_snoc]
    congr 2
    · funext j
      by_cases h : key z ∈ accK ((zs.take i).map key)
      · rw [if_pos h]
        by_cases e : j = key z
        · subst e; rw [decide_eq_true h]; rfl
        · rw [decide_eq_false e, Bool.or_false]
      · rw [if_neg h]
        by_cases e : j = key z
        · subst e; rw [decide_eq_false h, decide_eq_true rfl, decide_eq_true (List.mem_append_right _ List.mem_cons_self)]; rfl
        · rw [decide_eq_false e, Bool.or_false]
          by_cases h2 : j ∈ accK ((zs.take i).map key)
          · rw [decide_eq_true h2, decide_eq_true (List.mem_append_left _ h2)]
          · rw [decide_eq_false h2, decide_eq_false (fun q => (List.mem_append.mp q).elim h2 fun r => e (List.mem_singleton.mp r))]
    · by_cases h : key z ∈ accK ((zs.take i).map key)
      · rw [if_pos h, if_pos (decide_eq_true h)]
      · rw [if_neg h, if_neg (by rw [decide_eq_false h]; exact Bool.false_ne_true), List.length_append, List.length_singleton]
  · have e : i = xs.length := by omega
    subst e
    rw [lx, List.take_length] at at_p
    exact .inl ⟨stop A sm, fin p A sm hp at_p⟩
theorem c_setT {α : Type} {a : Addr} {xs : List V} {zs : List α} {g : TG} {te : TE} {vs : List Nat} (P : Hp → V → α → Prop) (key : α → κ) (pm : ∀ A B x z, KI A B → P A x z → P B x z) (hs : SqT K H a xs) (hz : xs.length ≤ 1000) (hx : A2 (P H) xs zs)
    (turn : ∀ x z A (N : V → Hp → Prop), z ∈ zs → P A x z → Same H A → (∀ B, Same A B → N (emb (key z)) B) → g x (wipe σ vs) A fun σ2 B => wipe σ2 vs = wipe σ vs ∧ te σ2 B N)
    (fin : ∀ p A, Same H A → H p = none → A p = some (SO p (fun j => decide (j ∈ accK (zs.map key))) (accK (zs.map key)).length) → Q (.ref p) A) : ScR SO emb (Itt K a) g tYes te vs σ H Q :=
  c_set P key pm hz hx (fun A i x sm e => ⟨xs, x, sqT_kt (kt_same sm) hs, e⟩) (fun A i x A' sm _ y => ⟨y.1, y.2 xs (sqT_kt (kt_same sm) hs)⟩) (fun A sm => ⟨xs, sqT_kt (kt_same sm) hs, Nat.le_refl _⟩) turn fin
theorem c_setL {α : Type} {a : Addr} {xs : List V} {zs : List α} {g : TG} {te : TE} {vs : List Nat} (P : Hp → V → α → Prop) (key : α → κ) (pm : ∀ A B x z, KI A B → P A x z → P B x z) (hs : SqL K H a xs) (hz : xs.length ≤ 1000) (hx : A2 (P H) xs zs)
    (turn : ∀ x z A (N : V → Hp → Prop), z ∈ zs → P A x z → Same H A → (∀ B, Same A B → N (emb (key z)) B) → g x (wipe σ vs) A fun σ2 B => wipe σ2 vs = wipe σ vs ∧ te σ2 B N)
    (fin : ∀ p A, Same H A → H p = none → A p = some (SO p (fun j => decide (j ∈ accK (zs.map key))) (accK (zs.map key)).length) → Q (.ref p) A) : ScR SO emb (Itl K a) g tYes te vs σ H Q :=
  c_set P key pm hz hx (fun A i x sm e => ⟨xs, x, sm.seq hs, e⟩) (fun A i x A' sm _ y => ⟨y.1, y.2 xs (sm.seq hs)⟩) (fun A sm => ⟨xs, sm.seq hs, Nat.le_refl _⟩) turn fin
end
/-- len of a set of keys -/
def rLenK (P : Program) (w : World) : List V → Hp → VK → Prop := fun vs H Q => ∃ (a : Addr) (S : Key → Bool) (n : Nat), vs = [.ref a] ∧ H a = some (SetK P w a S n) ∧ Q (.int (n : Int)) H
theorem call_lenK {X : Cx} : CallR X (.builtin "len") (rLenK X.prog X.w) := by
  intro pins s σ H vs us Q I r h
  obtain ⟨a, S, n, rfl, at_a, q⟩ := h
  rw [Vals.ref1 r]
  obtain ⟨o, es, ep, t, ho, ex, hd, _, _, sb, hf, hn⟩ := setK_get I at_a
  have lt : es.size < 4096 := sb
  have big : (es.size : Int) < 2 ^ 63 := by omega
  exact call_len_set ho ex hd hf big ⟨.int (n : Int), H, I.tok _, ⟨_, by rw [hn]⟩, q⟩
theorem s_lenK {P : Program} {w : World} {H : Hp} {Q : VK} {a : Addr} {S : Key → Bool} {n : Nat} (h : H a = some (SetK P w a S n)) (q : Q (.int (n : Int)) H) : rLenK P w [.ref a] H Q := ⟨a, S, n, rfl, h, q⟩
end Cr

namespace Cr
open PySem PySem.Spec PyProof.Rows L2
/-! ### steps of the further rules -/
/-- a statement that is never come to -/
theorem ps_never {X : Cx} {st : Stmt} : PS X st (fun _ _ _ => False) := ⟨fun _ _ _ _ _ _ h => h.elim⟩
/-- a call of a def that a slot holds: which one, and its promise, the reading tells -/
def tCallR (i : Nat) (G : Addr → Sp → Prop) (t : TA) : TE := fun σ H Q => ∃ f sp, σ[i]? = some (some (.ref f)) ∧ G f sp ∧ t σ H fun vs H1 => sp vs H1 Q (fun _ _ _ => False)
theorem pe_callR {X : Cx} {G : Addr → Sp → Prop} {m i : Nat} {x : Str} {e : Expr} {es : List Expr} {t : TA} {p pos : Pos} (A : ∀ f sp, G f sp → ∃ k, k ≤ m ∧ Held X.prog X.w X.K X.mg X.base k f sp) (hr : Room m X.A) (hN : X.N[i]? = some x) (hv : Vis X.env.scope x) (ha : PA X (e :: es) t)
    (hdb : (x == ("__debug__" : Str)) = false := by decide) (hcd : (x == ("__classdict__" : Str)) = false := by decide)
    (he : starEach (e :: es) X.env = (false, eval e X.env) :: starEach es X.env := by rfl) (hpl : (backTo pos (starEach es X.env)).any (·.1) = false := by rfl) : PE X (.Call (.Name x p) (e :: es) [] pos) (tCallR i G t) := by
  refine ⟨fun pins s σ H Q I h => ?_⟩
  obtain ⟨f, sp, at_i, g, run⟩ := h
  obtain ⟨k, le, hh⟩ := A f sp g
  refine (pe_callA (S := fun a => if a = f then some sp else none) (k := k) (fun a q e => ?_) (hr.mono le) hN hv ha hdb hcd he hpl).run pins s σ H Q I ⟨f, sp, at_i, if_pos rfl, run⟩
  by_cases z : a = f
  · subst z
    rw [if_pos rfl] at e
    cases e
    exact hh
  · rw [if_neg z] at e; cases e
/-- a def that says True of what is so -/
def spOk (K : PySem.W.Frag) (ok : PyData → Prop) : Sp := fun vs H Q _ => ∃ x e, vs = [x] ∧ Dt K H x e ∧ ok e ∧ ∀ H', Same H H' → Q (.bl true) H'
def okNum (lo hi : Int) (e : PyData) : Prop := ∃ i, e = .int i ∧ lo ≤ i ∧ i ≤ hi
def okName (e : PyData) : Prop := ∃ t, e = .str t ∧ Nm t
def okPair (e : PyData) : Prop := ∃ t c, e = .tuple [.str t, .int c] ∧ Nm t ∧ 1 ≤ c ∧ c ≤ 1000000
def okPairs (e : PyData) : Prop := ∃ ps, e = pairsD ps ∧ PsOf Nm ps
def rInSign : R2 := fun x y H Q => ∃ (c : Nat) (z : Str), x = .str ⟨#[c]⟩ ∧ y = .str z ∧ Q (.bl (decide (c ∈ z.cps.toList))) H
theorem op_in_signU {X : Cx} : OpR X (compareOp .In) rInSign := op_in_sign
section
variable {K : PySem.W.Frag} {σ : St} {H : Hp} {Q : VK} {D : Ends}
theorem s_inSign {c : Nat} {z : Str} (h : Q (.bl (decide (c ∈ z.cps.toList))) H) : rInSign (.str (sign c)) (.str z) H Q := ⟨c, z, rfl, rfl, h⟩
theorem s_allT {a : Addr} {ys : List V} (hs : SqL K H a ys) (ht : ∀ y, y ∈ ys → y = .bl true) (h : Q (.bl true) H) : rAll K [.ref a] H Q := by
  have e : ys = (List.replicate ys.length true).map V.bl := by
    rw [List.map_replicate]
    exact List.eq_replicate_iff.mpr ⟨rfl, ht⟩
  refine ⟨a, List.replicate ys.length true, rfl, by rw [← e]; exact hs, ?_⟩
  rw [show (List.replicate ys.length true).all id = true by rw [List.all_eq_true]; intro x hx; exact (List.mem_replicate.mp hx).2]
  exact h
theorem s_truT {x : V} {ds : List PyData} {N : Bool → Prop} (hx : Dt K H x (.tuple ds)) (h : N (!ds.isEmpty)) : ∃ k, TruV K x H k ∧ N k := by
  obtain ⟨a, xs, rfl, hs, ha⟩ := hx.tup_inv
  refine ⟨_, .inr (.inl ⟨xs, hs, rfl⟩), ?_⟩
  have e : xs.isEmpty = ds.isEmpty := by
    cases ha with
    | nil => rfl
    | cons _ _ => rfl
  rw [e]; exact h
theorem s_truTc {x : V} {d : PyData} {ds : List PyData} {N : Bool → Prop} (hx : Dt K H x (.tuple (d :: ds))) (h : N true) : ∃ k, TruV K x H k ∧ N k := s_truT hx h
theorem s_lenS {x : Str} (l : x.length ≤ sizeLine) (h : Q (.int x.length) H) : rLenU K [.str x] H Q := ⟨.str x, x.length, rfl, ⟨l, rfl⟩, h⟩
theorem s_gstar {v : V} {d : PyData} {ds : List PyData} {t : TGs} {N : St → Hp → Prop} (hx : Dt K H v (.tuple (d :: ds))) (l : ds.length ≤ 900) (h : ∀ y ys p, Dt K H y d → DtAll K H ys ds → H p = none → t [y, .ref p] σ (upd H p (.lst ys)) N) : gStar K t v σ H N := by
  obtain ⟨a, xs, rfl, hs, ha⟩ := hx.tup_inv
  cases ha with
  | cons h1 h2 => exact ⟨a, _, _, rfl, hs, by rw [h2.len]; exact l, fun p hp => h _ _ p h1 h2 hp⟩
theorem s_lenQ {a : Addr} {xs : List V} (hs : SqT K H a xs) (h : Q (.int xs.length) H) : rLenU K [.ref a] H Q := ⟨.ref a, xs.length, rfl, .inr ⟨xs, hs, rfl⟩, h⟩
theorem s_gtupQ {n : Nat} {t : TGs} {a : Addr} {xs : List V} {N : St → Hp → Prop} (hs : SqT K H a xs) (e : xs.length = n) (h : t xs σ H N) : gTup K n t (.ref a) σ H N := ⟨a, xs, rfl, hs, e, h⟩
theorem s_callR {i : Nat} {G : Addr → Sp → Prop} {t : TA} {f : Addr} {sp : Sp} (hi : σ[i]? = some (some (.ref f))) (g : G f sp) (h : t σ H fun vs H1 => sp vs H1 Q (fun _ _ _ => False)) : tCallR i G t σ H Q := ⟨f, sp, hi, g, h⟩
theorem s_gc {t : TG} {u : TGs} {y : V} {r : List V} {N : St → Hp → Prop} (h : t y σ H fun σ' H' => u r σ' H' N) : gCons t u (y :: r) σ H N := ⟨_, _, rfl, h⟩
theorem s_gn {N : St → Hp → Prop} (h : N σ H) : gNil [] σ H N := ⟨rfl, h⟩
def EnQ (K : PySem.W.Frag) (vs : List V) (H : Hp) (R : It → Hp → Prop) : Prop := ∃ a xs, vs = [V.ref a] ∧ SqT K H a xs ∧ R (Itet K a) H
theorem s_iEnumT {ta : TA} {R : It → Hp → Prop} (h : ta σ H fun vs H1 => EnQ K vs H1 R) : iEnumT K ta σ H R := h
theorem s_isEn {a : Addr} {xs : List V} {R : It → Hp → Prop} (hs : SqT K H a xs) (h : R (Itet K a) H) : EnQ K [.ref a] H R := ⟨a, xs, rfl, hs, h⟩
theorem s_isLt {p : Addr} {xs : List V} {N : Addr → Prop} (hs : SqT K H p xs) (h : N p) : ∃ a, V.ref p = V.ref a ∧ (∃ xs, SqT K H a xs) ∧ N a := ⟨p, rfl, ⟨xs, hs⟩, h⟩
theorem s_isLtD {x : V} {ds : List PyData} {N : Addr → Prop} (hx : Dt K H x (.tuple ds)) (h : ∀ p xs, x = .ref p → SqT K H p xs → DtAll K H xs ds → N p) : ∃ a, x = V.ref a ∧ (∃ xs, SqT K H a xs) ∧ N a := by
  obtain ⟨a, xs, rfl, hs, ha⟩ := hx.tup_inv
  exact ⟨a, rfl, ⟨xs, hs⟩, h a xs rfl hs ha⟩
/-- sorted(..) of data -/
theorem s_sortL {a : Addr} {xs : List V} {ds : List PyData} (hs : SqL K H a xs) (hd : DtAll K H xs ds) (hal : PySem.W.AllAlike ds) (hk : PySem.W.Sortable ds) (hz : ∀ d, d ∈ ds → d.depth ≤ 32) (hl : xs.length ≤ 1000) (h : ∀ p ys, H p = none → ys.Perm xs → DtAll K (upd H p (.lst ys)) ys (sortD ds) → Q (.ref p) (upd H p (.lst ys))) : rSortD K [.ref a] H Q :=
  ⟨a, xs, ds, rfl, .inl hs, hd, hal, hk, hz, hl, fun p ys hp pm h2 => h p ys hp pm (DtAll.mono (kt_new hp) (by have := a2_das (f := fun d => d) h2; rwa [List.map_id'] at this))⟩
theorem s_sortT {x : V} {ds : List PyData} (hx : Dt K H x (.tuple ds)) (hal : PySem.W.AllAlike ds) (hk : PySem.W.Sortable ds) (hz : ∀ d, d ∈ ds → d.depth ≤ 32) (hl : ds.length ≤ 1000) (h : ∀ p ys, H p = none → DtAll K (upd H p (.lst ys)) ys (sortD ds) → Q (.ref p) (upd H p (.lst ys))) : rSortD K [x] H Q := by
  obtain ⟨a, xs, rfl, hs, hd⟩ := hx.tup_inv
  exact ⟨a, xs, ds, rfl, .inr hs, hd, hal, hk, hz, by rw [hd.len]; exact hl, fun p ys hp pm h2 => h p ys hp (DtAll.mono (kt_new hp) (by have := a2_das (f := fun d => d) h2; rwa [List.map_id'] at this))⟩
/-- comprehensions over a tuple, over a text -/
theorem c_tupS {α : Type} {a : Addr} {xs : List V} {zs : List α} {g : TG} {te : TE} {vs : List Nat} (P : Hp → V → α → Prop) (R : Hp → α → V → Prop) (pm : ∀ A B x z, KI A B → P A x z → P B x z) (rm : ∀ A B z y, KI A B → R A z y → R B z y)
    (hs : SqT K H a xs) (hx : A2 (P H) xs zs) (hz : xs.length ≤ 1000)
    (turn : ∀ x z A (N : V → Hp → Prop), z ∈ zs → P A x z → Same H A → (∀ y B, Same A B → R B z y → N y B) → g x (wipe σ vs) A fun σ2 B => wipe σ2 vs = wipe σ vs ∧ te σ2 B N)
    (fin : ∀ p ys A, Same H A → H p = none → A p = some (.lst ys) → A2 (R A) zs ys → Q (.ref p) A) : LcR (Itt K a) g tYes te vs σ H Q :=
  c_core (stp_same H) P R pm rm hx hz turn fin fun _ Pv h0 hS hs' hd => lc_tup Pv h0 (fun i A _ p => sqT_kt (kt_same (hS i A p)) hs) hs' hd
theorem c_str {x : Str} {g : TG} {te : TE} {vs : List Nat} (R : V → Prop) (hz : x.cps.size ≤ 1000)
    (turn : ∀ c A (N : V → Hp → Prop), c ∈ x.cps.toList → Same H A → (∀ y B, Same A B → R y → N y B) → g (.str (sign c)) (wipe σ vs) A fun σ2 B => wipe σ2 vs = wipe σ vs ∧ te σ2 B N)
    (fin : ∀ p ys A, Same H A → H p = none → A p = some (.lst ys) → ys.length = x.cps.size → (∀ y, y ∈ ys → R y) → Q (.ref p) A) : LcR (Its x) g tYes te vs σ H Q := by
  intro p hp
  refine ⟨fun i m A => m = x.cps.size - i ∧ i ≤ x.cps.size ∧ Same H A ∧ ∃ ys, A p = some (.lst ys) ∧ ys.length = i ∧ ∀ y, y ∈ ys → R y, ⟨_, rfl, Nat.zero_le _, same_new hp, [], upd_same, rfl, fun _ h => nomatch h⟩, ?_⟩
  rintro i m A ⟨rfl, hi, sm, ys, h1, h2, h3⟩
  by_cases hlt : i < x.cps.size
  · refine .inr ⟨hlt, fun A' => i + 1 ≤ x.cps.size ∧ Same H A' ∧ ∃ ys, A' p = some (.lst ys) ∧ ys.length = i + 1 ∧ ∀ y, y ∈ ys → R y, fun A' h => ⟨x.cps.size - (i + 1), by omega, rfl, h⟩, fun v A' y => ?_⟩
    obtain ⟨rfl, c, ec, rfl⟩ := y
    refine turn c A' _ (Array.mem_def.mp (Array.mem_of_getElem? ec)) sm fun z B sb r => ?_
    refine ⟨ys, sb _ _ h1, L2.small1000 (by omega), hlt, same_mut (sm.trans sb) hp, ys ++ [z], upd_same, by rw [List.length_append, h2]; rfl, fun y hy => ?_⟩
    rcases List.mem_append.mp hy with e | e
    · exact h3 y e
    · rw [List.mem_singleton] at e; rw [e]; exact r
  · have e : i = x.cps.size := by omega
    subst e
    exact .inl ⟨Nat.le_refl _, fin p ys A sm hp h1 h2 h3⟩
end
end Cr
namespace Cr
open PySem PySem.Spec PyProof.Rows L2
/-! ### lists of entries -/
abbrev E3 := Str × Int × List PyData
abbrev dE (e : E3) : PyData := entD e.1 e.2.1 e.2.2
def slotE (e : E3) : PyData := slotD e.1 e.2.1 e.2.2
def EntsAt (K : PySem.W.Frag) (H : Hp) : List V → List E3 → Prop := A2 fun v e => Dt K H v (dE e)
theorem EntsAt.mono {K : PySem.W.Frag} {H H' : Hp} {vs : List V} {es : List E3} (k : KT H H') (h : EntsAt K H vs es) : EntsAt K H' vs es := A2.mono (fun _ _ z => z.mono k) h
/-- of each slot at most one -/
def SlotsOk (es : List E3) : Prop := es.Pairwise fun a b => slotE a = .none ∨ slotE a ≠ slotE b
def EntIn (Hn Tn : Str → Prop) (L : Int) (e : E3) : Prop := EntOf Hn Tn L e.1 e.2.1 e.2.2
theorem EntOf.shift {Hn Tn : Str → Prop} {L d s : Int} {k : Str} {rest : List PyData} (h : EntOf Hn Tn L k d rest) (s0 : 0 ≤ s) : EntOf Hn Tn (L + s) k (d + s) rest := by
  cases h with
  | price d0 d1 t p0 p1 => exact .price (by omega) (by omega) t p0 p1
  | mix d0 d1 h => exact .mix (by omega) (by omega) h
  | come d0 d1 t p0 p1 => exact .come (by omega) (by omega) t p0 p1
  | go d0 d1 t p0 p1 => exact .go (by omega) (by omega) t p0 p1
  | draw d0 d1 t p0 p1 => exact .draw (by omega) (by omega) t p0 p1
  | give d0 d1 t u n p0 p1 => exact .give (by omega) (by omega) t u n p0 p1
  | rate d0 d1 p0 p1 => exact .rate (by omega) (by omega) p0 p1
  | harvest d0 d1 => exact .harvest (by omega) (by omega)
  | aside d0 d1 t => exact .aside (by omega) (by omega) t
  | home d0 d1 t => exact .home (by omega) (by omega) t
  | levy d0 d1 p0 p1 => exact .levy (by omega) (by omega) p0 p1
  | hurdle d0 d1 p0 p1 => exact .hurdle (by omega) (by omega) p0 p1
theorem slot_cases (e : E3) : slotE e = .none ∨ ∃ ds, slotE e = .tuple ds := by
  unfold slotE slotD
  split
  · exact .inr ⟨_, rfl⟩
  · exact .inl rfl
section
variable {K : PySem.W.Frag} {σ : St} {H : Hp} {Q : VK} {D : Ends}
/-- x not in a list of data -/
theorem s_ntInD {p : Addr} {x : V} {d : PyData} {ys : List V} {ds : List PyData} {n : Nat} (hx : Dt K H x d) (hs : SqL K H p ys) (hd : DtAll K H ys ds) (s : LayN n d) (ss : ∀ e, e ∈ ds → LayN n e) (k : n ≤ 63) (h : Q (.bl (!ds.any fun z => PyData.eqv z d)) H) : rNotInD K x (.ref p) H Q :=
  ⟨d, ds, hx.dp, .lst hs hd.dp, s.sh (by omega), (lay_lst ss).sh (by omega), h⟩
theorem any_eqv {ds : List PyData} {d : PyData} {n : Nat} (ss : ∀ e, e ∈ ds → LayN n e) (h : (ds.any fun z => PyData.eqv z d) = false) : ∀ e, e ∈ ds → e ≠ d := fun e he z => by
  have := List.any_eq_false.mp h e he
  rw [← z] at this
  exact this (SeqAt.eqv_refl _ (ss e he).1)
end
end Cr

/-! ### own exceptions as values: made by their own __init__, fields read, isinstance -/
namespace Cr
open PySem PySem.Spec PyProof.Rows L2
/-- what the written part says of an own class of error, over whatever built-in one -/
structure OexG (K : PySem.W.Frag) (C : Addr) : Prop where
  st : ∃ B bmB, StoreFacts B bmB "object.__setattr__" "object" ∧ PySem.W.excOver K C bmB = true
  sa : PySem.W.findIn K (.ref C) "__setattr__" = some (some (.builtin "object.__setattr__"))
  hd : PySem.W.hasDictIn K C = true
  ga : PySem.W.findIn K (.ref C) "__getattribute__" = some (some (.builtin "BaseException.__getattribute__"))
  gg : PySem.W.findIn K (.ref C) "__getattr__" = some none
  ex : PySem.W.subIn K (.ref C) (.type "BaseException") = some true
  cl : PySem.W.findIn K (.ref C) "__class__" = some (some (.builtin "object.__class__"))
  gs : PySem.W.specialIn K (.builtin "object.__class__") "__get__" = some (some (.builtin "getset_descriptor.__get__"))
  tk : PySem.W.takesIn K (.builtin "object.__class__") = some true
  om : PySem.W.mroIn K C (.type "object") = some true
  kp : PySem.W.keepIn K (.ref C) = true
def oexB (K : PySem.W.Frag) (C : Addr) (bmB : List Value) : Bool :=
  PySem.W.excOver K C bmB && (decide (PySem.W.findIn K (.ref C) "__setattr__" = some (some (.builtin "object.__setattr__"))) && (PySem.W.hasDictIn K C &&
  (decide (PySem.W.findIn K (.ref C) "__getattribute__" = some (some (.builtin "BaseException.__getattribute__"))) && (decide (PySem.W.findIn K (.ref C) "__getattr__" = some none) &&
  (decide (PySem.W.subIn K (.ref C) (.type "BaseException") = some true) && (decide (PySem.W.findIn K (.ref C) "__class__" = some (some (.builtin "object.__class__"))) &&
  (decide (PySem.W.specialIn K (.builtin "object.__class__") "__get__" = some (some (.builtin "getset_descriptor.__get__"))) && (decide (PySem.W.takesIn K (.builtin "object.__class__") = some true) &&
  (decide (PySem.W.mroIn K C (.type "object") = some true) && PySem.W.keepIn K (.ref C))))))))))
theorem oexB_ok {K : PySem.W.Frag} {C : Addr} {bmB : List Value} {B : String} (F : StoreFacts B bmB "object.__setattr__" "object") (h : oexB K C bmB = true) : OexG K C := by
  unfold oexB at h
  simp only [Bool.and_eq_true, decide_eq_true_eq] at h
  obtain ⟨h1, h2, h3, h4, h5, h6, h7, h8, h9, h10, h11⟩ := h
  exact ⟨⟨B, bmB, F, h1⟩, h2, h3, h4, h5, h6, h7, h8, h9, h10, h11⟩
/-- a call of the class lays the exception, then goes into __init__ -/
def Makes (K : PySem.W.Frag) (C fI : Addr) : Prop := ∀ {prog : Program} {w : World} {A : Around} {R : Result → Shared → Prop} {h : Heap} {g : Array GenState} {d : Drawn} {t : Nat} {os : OsState} {rest : List Value}, K.In h → rest.length ≤ sizeLine →
  codeAny (model prog w) (A.under (.builtin "type.__call__" ⟨.ref C :: rest, []⟩)) (.call (.ref fI) ⟨.ref (h.objs.size + 1) :: rest, []⟩) (PySem.W.InitBack (h.objs.size + 1) R)
    ⟨(h.push (PySem.W.kdv_tup rest)).push (PySem.HandSPX.excO C h.objs.size), g, d, t, os⟩ →
  codeAny (model prog w) A (.call (.ref C) ⟨rest, []⟩) R ⟨h, g, d, t, os⟩
theorem makes_of {K : PySem.W.Frag} {C fI : Addr} {bmB : List Value} {B newId initId : String} (F : ExcBaseFacts B newId initId bmB) (q : PySem.W.excInitIn K C bmB newId = true)
    (iC : PySem.W.findIn K (.ref C) "__init__" = some (some (.ref fI))) (tI : PySem.W.typeIn K (.ref fI) = some (.type "function")) : Makes K C fI := by
  intro prog w A R h g d t os rest X hl hq
  obtain ⟨nm, N, qn, bs, bm, hdct, sn, sub, ab, col, dd, k0, k1, k2, k3, k5, hC, hT⟩ := PySem.W.excInit_of X q
  exact PySem.HandSPX.call_own F hT hC (PySem.W.looks_findIn X iC) (fun self => PySem.W.bind_fn X self tI) hl hq
section
variable {X : Cx} {pins : List (Addr × Obj)} {σ : St} {H : Hp} {s : Shared} {a C dx : Addr} {f : Str} {y : V} {u : Value} {fs : List (Str × V)} {Q : Unit → Shared → Prop} {E : Value → Shared → Prop} {A : Around}
open Builtin Builtin.ObjectAttr in
/-- the first field: the dict is laid -/
theorem osa_first {prog : Program} {w : World} {K : PySem.W.Frag} {R : Result → Shared → Prop} {hp : Heap} {g : Array GenState} {d : Drawn} {t : Nat} {os : OsState} {t1 : Addr} {name : Str} {tk : Tok} {v : Value} (T : OexG K C) (Y : K.In hp)
    (hx : hp.get? a = some (PySem.W.excObj C t1 none .none)) (hno : PySem.W.findIn K (.ref C) name = some none)
    (hq : ∀ h' tk' dx, (∀ b o, b ≠ a → hp.get? b = some o → h'.get? b = some o) → hp.objs.size ≤ dx → dx ≠ a → h'.get? a = some (PySem.W.excObj C t1 (some dx) .none) →
      h'.Ns1 dx (fun y => if y = name then some v else none) → R (.ok (.ret .none)) ⟨h', g, d, tk', os⟩) :
    codeAny (model prog w) A (.call (.builtin "object.__setattr__") ⟨[.ref a, .str name tk, v], []⟩) R ⟨hp, g, d, t, os⟩ := by
  obtain ⟨B, bmB, SF, ov⟩ := T.st
  have hxs : a ≠ hp.objs.size := Nat.ne_of_lt (Heap.lt_size hx)
  refine PySem.W.osa_openX (s := ⟨hp, g, d, t, os⟩) (od := none) SF Y ⟨hx, rfl, rfl, trivial⟩ ov (r := none) (by unfold PySem.W.takerIn; rw [hno]; rfl) fun b => ?_
  obtain ⟨cd, hc, hd'⟩ := PySem.W.any_some T.hd
  refine wpAny_bind (wpAny_pure (wpAny_bind (PySem.W.instanceDict_exc hx (PySem.W.looks_clsIn Y hc) hd' ?_)))
  show wpAny _ _ (storeInDict hp.objs.size (.str name tk) name v) _ _ _
  refine PySem.HandSPX.store_in_new ?_ ?_
  · exact ⟨_, #[], _, (Heap.get?_update_other _ _ hxs).trans (Heap.get?_push_at rfl rfl), rfl, fun e he => absurd he (by simp), fun _ => rfl⟩
  · intro h' tk' hn' hs
    have hx1 : (hp.push (PySem.W.dictOf [] 0)).get? a = some (PySem.W.excObj C t1 none .none) := Heap.get?_push_of_some _ hx
    refine hq h' tk' hp.objs.size (fun b o hb ho => ?_) (Nat.le_refl _) hxs.symm ?_ hn'
    · exact (hs.2 b (Nat.ne_of_lt (Heap.lt_size ho))).trans ((Heap.get?_update_other _ _ (Ne.symm hb)).trans (Heap.get?_push_of_some _ ho))
    · exact (hs.2 a hxs).trans (Heap.get?_update_self _ hx1 rfl)
/-- self.f = y, the first one -/
theorem ost_first (T : OexG X.K C) (I : Inv X pins σ H s) (e : H a = some (exo a C none)) (hno : PySem.W.findIn X.K (.ref C) f = some none) (ry : RelV y u)
    (h : ∀ dx s', H dx = none → dx ≠ a → Inv X pins σ (upd (upd H dx (exd dx [(f, y)])) a (exo a C (some dx))) s' → Q () s') : wpAny (model X.prog X.w) A (setAttr (.ref a) f u) Q E s := by
  obtain ⟨t1, ho⟩ := exo_at I.hok e
  obtain ⟨hp, g, d, t, os⟩ := s
  refine PySem.W.set_plain I.kIn (ox := PySem.W.excObj C t1 none .none) (od := none) ⟨ho, rfl, rfl, trivial⟩ T.sa ?_
  refine osa_first T I.kIn ho hno fun h' tk' dx k dn dne hx hn => ?_
  have hnd : H dx = none := I.hok.fresh dn
  -- the dict alone, ahead of the store
  have gs := fun b (hb : a ≠ b) => Heap.get?_update_other h' (fun _ => PySem.W.excObj C t1 none .none) hb
  have ga : (h'.update a fun _ => PySem.W.excObj C t1 none .none).get? a = some (PySem.W.excObj C t1 none .none) := Heap.get?_update_self _ hx rfl
  have I1 : Inv X pins σ (upd H dx (exd dx [(f, y)])) ⟨h'.update a fun _ => PySem.W.excObj C t1 none .none, g, d, tk', os⟩ :=
    I.laid (t' := tk') (a := dx) (o := exd dx [(f, y)]) (h' := h'.update a fun _ => PySem.W.excObj C t1 none .none) (fun b o q => by
      by_cases hb : b = a
      · subst hb
        cases ho.symm.trans q
        exact ga
      · exact (gs b (Ne.symm hb)).trans (k b o hb q)) dn (exd_ok (hn.at fun o q => (gs dx (Ne.symm dne)).trans q) (relO_put (fs := []) ry fun g => True.intro))
  refine h dx _ hnd dne (I1.write (t' := tk') (x := a) (e := a) (o := exo a C (some dx)) (by rw [upd_ne (Ne.symm dne), e]; exact True.intro) (.inl rfl) (fun b o hb q => ?_) ⟨_, hx⟩ (exo_ok hx))
  exact (gs b (Ne.symm hb)).symm.trans q
end
/-- self.f = e, the first field -/
def tOst1 (K : PySem.W.Frag) (f : Str) (to te : TE) : TS := fun D σ H => te σ H fun y H1 => to σ H1 fun x H2 => ∃ a C : Addr, x = .ref a ∧ OexG K C ∧ PySem.W.findIn K (.ref C) f = some none ∧ H2 a = some (exo a C none) ∧
  ∀ dx, H2 dx = none → dx ≠ a → D.nx σ (upd (upd H2 dx (exd dx [(f, y)])) a (exo a C (some dx)))
/-- C(e, ..), by its own __init__ -/
def MkEQ (C : Addr) (sp : Sp) (vs : List V) (H : Hp) (Q : VK) : Prop := vs.length ≤ 1000 ∧ ∀ a, H a = none → sp (.ref a :: vs) (upd H a (exo a C none)) (fun v H2 => v = .non ∧ Q (.ref a) H2) (fun _ _ _ => False)
def tMkE (C : Addr) (sp : Sp) (ta : TA) : TE := fun σ H Q => ta σ H fun vs H1 => MkEQ C sp vs H1 Q
/-- e.f of such an exception -/
def FldEQ (K : PySem.W.Frag) (f : Str) (x : V) (H1 : Hp) (Q : VK) : Prop := ∃ (a C dx : Addr) (fs : List (Str × V)) (v : V), x = .ref a ∧ OexG K C ∧ PySem.W.findIn K (.ref C) f = some none ∧ H1 a = some (exo a C (some dx)) ∧ H1 dx = some (exd dx fs) ∧ fs.lookup f = some v ∧ Q v H1
def tFldE (K : PySem.W.Frag) (f : Str) (te : TE) : TE := fun σ H Q => te σ H fun x H1 => FldEQ K f x H1 Q
def MkE0Q (C : Addr) (H : Hp) (Q : VK) : Prop := ∀ a, H a = none → Q (.ref a) (upd H a (exo a C none))
def tMkE0 (C : Addr) : TE := fun _ H Q => MkE0Q C H Q
/-- x: an exception of the class C -/
def ErrAt (C : Addr) (H : Hp) (x : V) : Prop := ∃ a : Addr, x = .ref a ∧ (H a = some (exo a C none) ∨ ∃ dx fs, H a = some (exo a C (some dx)) ∧ H dx = some (exd dx fs))
def rIsEr (K : PySem.W.Frag) : List V → Hp → VK → Prop := fun xs H Q => ∃ (x c : V) (C : Addr) (u : Value) (b : Bool), xs = [x, c] ∧ ErrAt C H x ∧ OexG K C ∧ ClsV c u ∧ PySem.W.kitOne K (.ref C) u = some b ∧ Q (.bl b) H
section
variable {X : Cx} {o e : Expr} {es : List Expr} {to te : TE} {ta : TA} {f : Str} {p p' pos : Pos}
theorem ps_ost1 (ho : PE X o to) (he : PE X e te) (hs : swapsWith e (some (.Attribute o f p')) pos.line X.env = pure false := by rfl) : PS X (.Assign [.Attribute o f p'] e pos) (tOst1 X.K f to te) := by
  refine ⟨fun pins s σ H D I h => ?_⟩
  refine plainObj_wpAny_Assign_Attribute (thn (he.run pins s σ H _ I h) fun v s1 ⟨y, H1, I1, r1, q1⟩ => thn (ho.run pins s1 σ H1 _ I1 q1) fun u s2 ⟨x, H2, I2, r2, a, C, ex, T, hno, ea, q⟩ => ?_) hs
  subst ex
  obtain rfl : u = Value.ref a := r2
  exact ost_first T I2 ea hno r1 fun dx s' n ne J => ⟨σ, _, J, q dx n ne⟩
theorem pe_mkE {CX : CXT} {x : Str} {C fI : Addr} {k : Nat} {fd : FuncData} {ps : List Str} {sp : Sp} (M : Makes X.K C fI) (kC : PySem.W.keepIn X.K (.ref C) = true)
    (F1 : FnOk X.prog X.w X.K X.mg X.base CX k fI fd ps sp) (hr : Room (k + 1) X.A) (hg : Gl X x) (hm : X.mg x = some (.ref C)) (hb : Binds X.K fd ps []) (hx : Passes CX X (fun _ _ _ => False)) (ha : PA X (e :: es) ta)
    (hdb : (x == ("__debug__" : Str)) = false := by decide) (he : starEach (e :: es) X.env = (false, eval e X.env) :: starEach es X.env := by rfl) (hpl : (backTo pos (starEach es X.env)).any (·.1) = false := by rfl) :
    PE X (.Call (.Name x p) (e :: es) [] pos) (tMkE C sp ta) := by
  refine ⟨fun pins s σ H Q I h => ?_⟩
  refine wpAny_Call_Name_kw (ld_glob I hg hm ?_ hdb)
  refine PySem.W.callWith_K (h₀ := X.base) I.ok.mod.kin kC (thn (ha.run pos pins s σ H _ I h) fun us s1 ⟨vs, H1, I1, r1, hz, q1⟩ => ⟨I1.kIn, ?_⟩) he hpl
  show wpAny _ _ (call (.ref C) us) _ _ _
  obtain ⟨hp, g, dr, tk, os⟩ := s1
  have hsz : hp.objs.size ≤ hp.objs.size + 1 := Nat.le_succ _
  have hq := q1 (hp.objs.size + 1) (I1.hok.fresh hsz)
  have hget : ((hp.push (PySem.W.kdv_tup us)).push (PySem.HandSPX.excO C hp.objs.size)).get? (hp.objs.size + 1) = some (PySem.HandSPX.excO C hp.objs.size) := by heap_get
  have I2 : Inv X pins σ (upd H1 (hp.objs.size + 1) (exo (hp.objs.size + 1) C none)) ⟨(hp.push (PySem.W.kdv_tup us)).push (PySem.HandSPX.excO C hp.objs.size), g, dr, tk, os⟩ :=
    I1.laid (t' := tk) (a := hp.objs.size + 1) (o := exo (hp.objs.size + 1) C none) (fun b o q => Heap.get?_push_of_some _ (Heap.get?_push_of_some _ q)) hsz (exo_ok hget)
  have r2 : Vals (V.ref (hp.objs.size + 1) :: vs) (Value.ref (hp.objs.size + 1) :: us) := .cons rfl r1
  have hl : (Value.ref (hp.objs.size + 1) :: us).length = ps.length := by
    rw [← r2.length]
    exact F1.len _ _ _ _ hq
  have hus : us.length ≤ sizeLine := by
    rw [← Paired.length r1, sizeLine_eq]
    omega
  have hbb := hb _ (Value.ref (hp.objs.size + 1) :: us) I2.kIn (by rw [List.append_nil]; exact hl)
  rw [List.append_nil] at hbb
  refine wpAny_call (M I1.kIn hus (codeAny_mono (F1.run _ X.stack _ _ ⟨Value.ref (hp.objs.size + 1) :: us, []⟩ (Value.ref (hp.objs.size + 1) :: us) _ _ (fun _ _ _ => False) (hr.make C us []) (I2.env0.make C us []) hbb r2 hq) fun r s' hq' => ?_))
  cases r with
  | error er => exact hx pins σ _ _ er s' I2 hq'
  | ok fl =>
    cases fl with
    | ret u =>
      obtain ⟨v, H2, I3, rv, ev, q⟩ := I2.after hq'
      subst ev
      exact ⟨rv, .ref _, H2, I3, rfl, q⟩
    | next => exact False.elim hq'
    | brk => exact False.elim hq'
    | cont => exact False.elim hq'
/-- C(), no own __init__ -/
theorem pe_mkE0 {C : Addr} {bmB : List Value} {B newId initId : String} {x : Str} (F : ExcBaseFacts B newId initId bmB) (q : PySem.W.excIn X.K C bmB newId = true) (kC : PySem.W.keepIn X.K (.ref C) = true) (hg : Gl X x) (gC : X.mg x = some (.ref C))
    (hdb : (x == ("__debug__" : Str)) = false := by decide) : PE X (.Call (.Name x p) [] [] pos) (tMkE0 C) := by
  refine ⟨fun pins s σ H Q I h => ?_⟩
  refine wpAny_Call_Name_kw (ld_glob I hg gC ?_ hdb)
  refine PySem.W.callWith_K0 I.kIn kC ?_
  show wpAny _ _ (call (.ref C) []) _ _ _
  obtain ⟨bm, N, nm, qn, bs, hdct, sn, sub, ab, col, dd, k0, k1, k2, k3, k5, mN, hC, hN, hni, T⟩ := exc_obj I.kIn q
  refine wpAny_call_exc_subT F T hC hN hni (fun h' a hm => ?_) (Nat.zero_le _)
  have hn : H a = none := I.hok.gone hm.new
  obtain ⟨t, ht, _, _⟩ := hm.there
  exact ⟨.ref a, upd H a (exo a C none), I.laidN hm.keeps hm.new hn (exo_ok ht), rfl, h a hn⟩
theorem pe_fldE {n : Str} (he : PE X e te) (hb : attributeBase e n X.env (eval e X.env) = eval e X.env := by rfl) : PE X (.Attribute e n pos) (tFldE X.K n te) := by
  refine ⟨fun pins s σ H Q I h => ?_⟩
  refine attr_of hb (thn (he.run pins s σ H _ I h) fun u s1 ⟨x, H1, I1, rx, a, C, dx, fs, v, ex, T, hno, ea, ed, l, q⟩ => ?_)
  subst ex
  obtain rfl : u = Value.ref a := rx
  obtain ⟨t1, ho⟩ := exo_at I1.hok ea
  obtain ⟨mA, hns, hr⟩ := exd_at I1.hok ed
  obtain ⟨od, hod, hl⟩ := lookIn_ns hns
  obtain ⟨u, hu, ru⟩ := RelO.some_of (v := v) (o := mA n) (by rw [← l]; exact hr n)
  have J : PySem.W.InstAt s1.heap a (PySem.W.excObj C t1 (some dx) .none) C (some od) := ⟨ho, rfl, rfl, hod⟩
  exact HandSPX.exc_get I1.kIn J T.ga T.gg T.ex (PySem.W.findObj_own T.hd hno rfl (by rw [hl, hu])) (handed_of ru) ⟨v, H1, I1.tok _, ru, q⟩
theorem call_isEr : CallR X (.builtin "isinstance") (rIsEr X.K) := by
  intro pins s σ H xs us Q I r h
  obtain ⟨x, c, C, u, b, rfl, ⟨a, rfl, hx⟩, T, k, e, q⟩ := h
  obtain ⟨u1, u2, rfl, r1, r2⟩ := vals2 r
  have e2 := k.eq r2
  subst e2
  obtain rfl : u1 = Value.ref a := r1
  obtain ⟨cd, hc, _⟩ := PySem.W.any_some T.hd
  have hcl : (PySem.W.clsIn X.K C).isSome = true := by rw [hc]; rfl
  rcases hx with ea | ⟨dx, fs, ea, ed⟩
  · obtain ⟨t1, ho⟩ := exo_at I.hok ea
    have J : PySem.W.InstAt s.heap a (PySem.W.excObj C t1 none .none) C none := ⟨ho, rfl, rfl, trivial⟩
    exact PySem.W.kia_one (PySem.W.kitx_exc hcl T.ga T.gg T.ex T.cl T.gs T.tk T.om) I.kIn J e (fun z => nomatch z) fun tk => ⟨.bl b, H, I.tok tk, rfl, q⟩
  · obtain ⟨t1, ho⟩ := exo_at I.hok ea
    obtain ⟨mA, hns, hr⟩ := exd_at I.hok ed
    obtain ⟨od, hod, hl⟩ := lookIn_ns hns
    have J : PySem.W.InstAt s.heap a (PySem.W.excObj C t1 (some dx) .none) C (some od) := ⟨ho, rfl, rfl, hod⟩
    exact PySem.W.kia_one (PySem.W.kitx_exc hcl T.ga T.gg T.ex T.cl T.gs T.tk T.om) I.kIn J e (fun z => nomatch z) fun tk => ⟨.bl b, H, I.tok tk, rfl, q⟩
end
end Cr
namespace Cr
open PySem PySem.Spec PyProof.Rows L2
theorem store_KeyError : StoreFacts "KeyError" [.type "KeyError", .type "LookupError", .type "Exception", .type "BaseException", .type "object"] "object.__setattr__" "object" where
  mro := by kernel_rfl
  slot := .of (owner := "object") (n := "__setattr__") (by rw [typeLookup_type, builtinLookup_eq_fast]; kernel_rfl) (by decide +kernel) (by decide +kernel) (by decide +kernel)
    (by first | exact .inl (by decide +kernel) | exact .inr (by decide +kernel)) (by rw [isSubtype_type]; kernel_rfl)
  entry := PySem.F.store_LookupError.entry
  kind := by decide +kernel
  split := by decide +kernel
  hasOwner := by decide +kernel
  args := PySem.F.store_LookupError.args
  passes := fun self => by kernel_rfl
end Cr
namespace Cr
open PySem
section
variable {prog : Program} {w : World} {A : Around} {E : Value → Shared → Prop} {R : Result → Shared → Prop} {h : Heap} {g : Array GenState} {d : Drawn} {t : Nat} {os : OsState}
variable {nm q : Str} {C N : Addr} {bs bm bmB rest : List Value} {hdct : Bool} {sn : List Str} {sub : List Value} {ab : Bool} {col : Option Bool} {dd : Option Addr} {k0 k1 k2 k3 k5 : Option Value} {B newId initId : String}
/-- the class is below B, and neither an AttributeError nor a NameError -/
structure Below (bm : List Value) (B : String) : Prop where
  b : (Value.ref C :: bm).contains (.type B) = true
  a : (Value.ref C :: bm).contains (.type "AttributeError") = false
  n : (Value.ref C :: bm).contains (.type "NameError") = false
/-- an exception laid by the base's __new__; __init__ is left to R -/
theorem laid_below (F : ExcBaseFacts B newId initId bmB) (Y : Below (C := C) bm B) (hC : h.get? C = some (excClassObj nm q C N bs bm hdct sn sub ab col dd k0 k1 k2 k3 k5 newId)) (hrest : rest.length ≤ sizeLine)
    (hq : R (.ok (.ret (.ref (h.objs.size + 1)))) ⟨(h.push (PySem.W.kdv_tup rest)).push (PySem.HandSPX.excO C h.objs.size), g, d, t, os⟩) :
    codeAny (model prog w) A (.call (.builtin newId) ⟨.ref C :: rest, []⟩) R ⟨h, g, d, t, os⟩ := by
  have st := F.noStar
  have en := F.ends
  have checked : ∀ {M : Model} {A : Around} {E : Value → Shared → Prop} {Q : Unit → Shared → Prop}, Q () ⟨h, g, d, t, os⟩ → wpAny M A (checkBuiltinCall newId ⟨.ref C :: rest, []⟩) Q E ⟨h, g, d, t, os⟩ := fun {M A E Q} z => by
    simp only [checkBuiltinCall, F.newKind, F.newSplit, F.newRow]
    repeat (first | refine wpAny_loadPart_at hC ?_ | (refine wpAny_isSubtype_exc hC ?_; rw [Y.b]) | refine wpAny_staticBase_exc hC ?_ | refine wpAny_madeBy_exc hC ?_ | simp only [bne_self_eq_false, Bool.false_eq_true, if_false] | wp_step)
    exact z
  refine codeAny_call_builtin_code (Code.quiet_builtin _ F.quiet) (checked ?_)
  refine codeAny_builtinAt F.entry ?_
  unfold Builtin.«BaseException.__new__»
  refine wpAt_bind ?_
  show wpAt _ _ _ (stack >>= _) _ _ _
  refine wpAt_bind (wpAt_stack fun p below => wpAt_of_wpAny ?_)
  wp_walk
  refine wpAt_of_wpAny ?_
  rw [F.owner]
  repeat (first | with_reducible refine wpAny_madeHere_exc F.canon hC ?_ | with_reducible refine wpAny_loadPart_at hC ?_ | (with_reducible refine wpAny_isSubtype_exc hC ?_; first | rw [Y.b] | rw [Y.a] | rw [Y.n]) | wp_step)
  show R _ _
  rw [Heap.size_push]
  exact hq
open PySem.HandSPX in
theorem typeCall_below (F : ExcBaseFacts B newId initId bmB) {fI : Addr} {Q : Fin → Shared → Prop} (Y : Below (C := C) bm B) (hl : rest.length ≤ sizeLine)
    (hC : h.get? C = some (excClassObj nm q C N bs bm hdct sn sub ab col dd k0 k1 k2 k3 k5 newId))
    (hi : W.Looks (model prog w) h (typeLookup (.ref C) "__init__") (some (.ref fI))) (hb : ∀ self, W.Looks (model prog w) h (bindSpecial (.ref fI) self) (.ref fI, [self]))
    (hq : codeAny (model prog w) A (.call (.ref fI) ⟨.ref (h.objs.size + 1) :: rest, []⟩) (fun r s' => match r with | .ok (.ret v) => v = .none ∧ Q (.done (.ret (.ref (h.objs.size + 1)))) s' | .ok _ => False | .error e => E e s')
      ⟨(h.push (W.kdv_tup rest)).push (excO C h.objs.size), g, d, t, os⟩) :
    wpAny (model prog w) A (Builtin.«type.__call__» ⟨.ref C :: rest, []⟩) Q E ⟨h, g, d, t, os⟩ := by
  repeat (first | with_reducible refine wpAny_loadPart_at hC ?_ | with_reducible refine wpAny_madeBy_exc hC ?_ | wp_step)
  refine laid_below F Y hC hl ?_
  show wpAny _ _ _ _ _ _
  have more : ∀ b o, h.get? b = some o → ((h.push (W.kdv_tup rest)).push (excO C h.objs.size)).get? b = some o := fun b o z => Heap.get?_push_of_some _ (Heap.get?_push_of_some _ z)
  have hC2 := more _ _ hC
  have he : ((h.push (W.kdv_tup rest)).push (excO C h.objs.size)).get? (h.objs.size + 1) = some (excO C h.objs.size) := by heap_get
  have own : (Value.ref C :: bm).contains (.ref C) = true := by simp
  unfold isInstance
  repeat (first | with_reducible refine wpAny_loadPart_at he ?_ | (with_reducible refine wpAny_isSubtype_exc hC2 ?_; rw [own]) | wp_step)
  show wpAny _ _ (typeLookup (.ref C) _) _ _ _
  refine (hi.keeps more).at (wpAny_holding (wpAny_bind (((hb (.ref (h.objs.size + 1))).keeps more).at (wpAny_bind (wpAny_call (codeAny_mono hq fun r s' z => ?_))))))
  match r, z with
  | .error e, z => exact z
  | .ok .next, z => exact False.elim z
  | .ok .brk, z => exact False.elim z
  | .ok .cont, z => exact False.elim z
  | .ok (.ret v), z =>
    obtain ⟨z1, z⟩ := z
    cases z1
    first
      | exact wpAny_pure (wpAny_pure z)
      | (wp_walk; exact z)
open PySem.HandSPX in
/-- C(..), C below B, with its own __init__ -/
theorem makes_below (F : ExcBaseFacts B newId initId bmB) {fI : Addr} (Y : Below (C := C) bm B) (hl : rest.length ≤ sizeLine)
    (hC : h.get? C = some (excClassObj nm q C N bs bm hdct sn sub ab col dd k0 k1 k2 k3 k5 newId))
    (hi : W.Looks (model prog w) h (typeLookup (.ref C) "__init__") (some (.ref fI))) (hb : ∀ self, W.Looks (model prog w) h (bindSpecial (.ref fI) self) (.ref fI, [self]))
    (hq : codeAny (model prog w) (A.under (.builtin "type.__call__" ⟨.ref C :: rest, []⟩)) (.call (.ref fI) ⟨.ref (h.objs.size + 1) :: rest, []⟩) (W.InitBack (h.objs.size + 1) R)
      ⟨(h.push (W.kdv_tup rest)).push (excO C h.objs.size), g, d, t, os⟩) :
    codeAny (model prog w) A (.call (.ref C) ⟨rest, []⟩) R ⟨h, g, d, t, os⟩ := by
  have f1 := tc_lookup
  have f2 := tc_bind (.ref C)
  have isT : (⟨h, g, d, t, os⟩ : Shared).TypeIs (.ref C) "type" := ⟨_, hC, rfl⟩
  refine codeAny_of_tree ?_
  show wpAny _ _ (callAny (.ref C) _) _ _ _
  repeat (any_goals (first | assumption | with_reducible refine wpAny_loadPart_at hC ?_ | wp_step))
  refine ⟨rfl, ?_⟩
  refine codeAny_call_builtin_at (Code.quiet_builtin _ (by decide +kernel)) entry_typeCall (wpAny_check_type_call_sub hC (typeCall_below F Y hl hC hi hb (codeAny_mono hq fun r s' z => ?_)))
  rcases r with e | (v | _ | _ | _) <;> exact z
end
end Cr
namespace Cr
open PySem PySem.Spec PyProof.Rows L2
/-- as makes_of, for a class below KeyError -/
def keyB (K : PySem.W.Frag) (C : Addr) : Bool := match K.lookup C with
  | some ⟨.type "type", _, .cls cd, sl⟩ => (match cd.mro, sl.toList with
    | .ref C' :: bm, [_, _, _, _, some (.builtin n), _] => C' == C && n == "LookupError.__new__" && !cd.hasDel && (Value.ref C :: bm).contains (.type "LookupError") && !(Value.ref C :: bm).contains (.type "AttributeError") && !(Value.ref C :: bm).contains (.type "NameError")
    | _, _ => false)
  | _ => false
theorem makes_key {K : PySem.W.Frag} {C fI : Addr} (q : keyB K C = true) (iC : PySem.W.findIn K (.ref C) "__init__" = some (some (.ref fI))) (tI : PySem.W.typeIn K (.ref fI) = some (.type "function")) : Makes K C fI := by
  intro prog w A R h g d t os rest X hl hq
  unfold keyB at q
  split at q
  · rename_i dd cd sl ho
    split at q
    · rename_i C' bm k0 k1 k2 k3 n k5 hm hs
      simp only [Bool.and_eq_true, beq_iff_eq, Bool.not_eq_true'] at q
      obtain ⟨⟨⟨⟨⟨rfl, rfl⟩, hdel⟩, hb⟩, ha⟩, hn⟩ := q
      obtain ⟨nm, bs, mro, ns, qn, hd, sn, sub, ab, col, del⟩ := cd
      dsimp only at hm hdel
      subst hm hdel
      have hsl : sl = #[k0, k1, k2, k3, some (.builtin "LookupError.__new__"), k5] := by
        obtain ⟨l⟩ := sl
        simp only at hs
        rw [hs]
      subst hsl
      exact makes_below PySem.F.excBase_LookupError ⟨hb, ha, hn⟩ hl (X _ _ ho) (PySem.W.looks_findIn X iC) (fun self => PySem.W.bind_fn X self tI) hq
    · cases q
  · cases q
end Cr

namespace Cr
open PySem PySem.Spec PyProof.Rows L2
section
variable {K : PySem.W.Frag} {σ : St} {H H' : Hp} {Q : VK} {C : Addr} {f : Str} {x v : V} {vs : List V}
/-- def __init__(self, x): self.f = x -/
def spIni (K : PySem.W.Frag) (f : Str) : Sp := fun vs H Q _ => ∃ (a C : Addr) (v : V), vs = [.ref a, v] ∧ H a = some (exo a C none) ∧ OexG K C ∧ PySem.W.findIn K (.ref C) f = some none ∧
  ∀ dx, H dx = none → dx ≠ a → Q .non (upd (upd H dx (exd dx [(f, v)])) a (exo a C (some dx)))
/-- x: an exception of C whose field f holds v -/
def ErrF (C : Addr) (f : Str) (v : V) (H : Hp) (x : V) : Prop := ∃ a dx : Addr, x = .ref a ∧ H a = some (exo a C (some dx)) ∧ H dx = some (exd dx [(f, v)])
theorem ErrF.at (h : ErrF C f v H x) : ErrAt C H x := by
  obtain ⟨a, dx, e, h1, h2⟩ := h
  exact ⟨a, e, .inr ⟨dx, _, h1, h2⟩⟩
theorem ErrAt.same (h : ErrAt C H x) (s : Same H H') : ErrAt C H' x := by
  obtain ⟨a, e, h | ⟨dx, fs, h1, h2⟩⟩ := h
  · exact ⟨a, e, .inl (s _ _ h)⟩
  · exact ⟨a, e, .inr ⟨dx, fs, s _ _ h1, s _ _ h2⟩⟩
theorem s_mkE {sp : Sp} {ta : TA} (h : ta σ H fun vs H1 => MkEQ C sp vs H1 Q) : tMkE C sp ta σ H Q := h
theorem s_mkE0 (h : MkE0Q C H Q) : tMkE0 C σ H Q := h
theorem s_fldE {te : TE} (h : te σ H fun x H1 => FldEQ K f x H1 Q) : tFldE K f te σ H Q := h
theorem u_mkE (e : vs = [v]) (T : OexG K C) (hno : PySem.W.findIn K (.ref C) f = some none) (q : ∀ x H', Same H H' → ErrF C f v H' x → Q x H') : MkEQ C (spIni K f) vs H Q := by
  subst e
  refine ⟨(by show 1 ≤ 1000; decide), fun a na => ⟨a, C, v, rfl, upd_same, T, hno, fun dx nd ne => ⟨rfl, q _ _ (fun b o hb => ?_) ⟨a, dx, rfl, upd_same, by rw [upd_ne ne]; exact upd_same⟩⟩⟩⟩
  have hba : b ≠ a := ne_of_none hb na
  have hbd : b ≠ dx := fun z => by
    rw [upd_ne ne, ← z, hb] at nd
    cases nd
  rw [upd_ne hba, upd_ne hbd, upd_ne hba]
  exact hb
theorem u_mkE0 (q : ∀ x H', Same H H' → ErrAt C H' x → Q x H') : MkE0Q C H Q := fun a na => q _ _ (same_new na) ⟨a, rfl, .inl upd_same⟩
theorem u_fldE (hx : ErrF C f v H x) (T : OexG K C) (hno : PySem.W.findIn K (.ref C) f = some none) (h : Q v H) : FldEQ K f x H Q := by
  obtain ⟨a, dx, e, h1, h2⟩ := hx
  exact ⟨a, C, dx, _, v, e, T, hno, h1, h2, by simp [List.lookup], h⟩
theorem s_isEr {c : V} {u : Value} {b : Bool} (hx : ErrAt C H x) (T : OexG K C) (k : ClsV c u) (e : PySem.W.kitOne K (.ref C) u = some b) (h : Q (.bl b) H) : rIsEr K [x, c] H Q := ⟨x, c, C, u, b, rfl, hx, T, k, e, h⟩
/-- isinstance against several classes -/
def kinB (K : PySem.W.Frag) (t : Value) (cs : List Value) (bs : List Bool) : Bool := decide (cs.map (PySem.W.kitOne K t) = bs.map some)
theorem kin_cons {t c : Value} {cs : List Value} {b : Bool} {bs : List Bool} (h : kinB K t (c :: cs) (b :: bs) = true) : PySem.W.kitOne K t c = some b ∧ kinB K t cs bs = true := by
  have z := of_decide_eq_true h
  rw [List.map_cons, List.map_cons] at z
  exact ⟨(List.cons.inj z).1, decide_eq_true (List.cons.inj z).2⟩
abbrev kcs (pe : Addr) : List Value := [.ref pe, .type "ValueError", .type "LookupError", .type "IndexError", .type "KeyError", .type "RuntimeError", .type "ZeroDivisionError"]
theorem bs_lay : ∀ (bs : List Bool), DtAll K H (bs.map V.bl) (bs.map PyData.bool) ∧ ∀ d, d ∈ bs.map PyData.bool → LayN 1 d
  | [] => ⟨.nil, fun _ h => nomatch h⟩
  | b :: bs => ⟨.cons (.bl b) (bs_lay bs).1, fun d h => (List.mem_cons.mp h).elim (fun e => by rw [e]; exact ⟨by simp only [PyData.canLay0], by simp only [PyData.depth]; omega⟩) ((bs_lay bs).2 d)⟩
theorem s_neBs {a b : Addr} {xs ys : List V} (bs : List Bool) (ha : SqL K H a xs) (hb : SqL K H b ys) (ex : xs = bs.map V.bl) (ey : ys = bs.map V.bl) (h : Q (.bl false) H) : rNeD K (.ref a) (.ref b) H Q := by
  subst ex ey
  exact s_neLr ha hb (bs_lay bs).1 (bs_lay bs).1 (bs_lay (K := K) (H := H) bs).2 (by decide) h
theorem s_eqBs {a b : Addr} {xs ys : List V} (bs : List Bool) (ha : SqL K H a xs) (hb : SqL K H b ys) (ex : xs = bs.map V.bl) (ey : ys = bs.map V.bl) (h : Q (.bl true) H) : rEqD K (.ref a) (.ref b) H Q := by
  subst ex ey
  exact s_eqLr ha hb (bs_lay bs).1 (bs_lay bs).1 (bs_lay (K := K) (H := H) bs).2 (by decide) h
theorem a2_fun {g : Nat → V} : ∀ {zs : List Nat} {ys : List V}, A2 (fun k y => y = g k) zs ys → ys = zs.map g
  | _, _, .nil => rfl
  | _, _, .cons h t => by rw [h, a2_fun t]; rfl
end
end Cr

namespace Cr
open PySem PySem.Spec PyProof.Rows L2
/-! ### comprehensions with an exact test; sets of ties -/
section
variable {K : PySem.W.Frag} {σ : St} {H : Hp} {Q : VK} {D : Ends}
theorem c_listX {α : Type} {a : Addr} {xs : List V} {zs : List α} {g : TG} {tt : TT} {te : TE} {vs : List Nat} {S : Hp → Hp → Prop} (t : α → Bool) (St : Stp H S) (P : Hp → V → α → Prop) (R : Hp → α → V → Prop) (pm : ∀ A B x z, KI A B → P A x z → P B x z) (rm : ∀ A B z y, KI A B → R A z y → R B z y)
    (hl : ∀ A, S H A → SqL K A a xs) (hx : A2 (P H) xs zs) (hz : xs.length ≤ 1000)
    (turn : ∀ x z A (Nt : V → Hp → Prop) (Nf : Hp → Prop), z ∈ zs → P A x z → S H A → (t z = true → ∀ y B, S A B → R B z y → Nt y B) → (t z = false → ∀ B, S A B → Nf B) → g x (wipe σ vs) A fun σ2 B => wipe σ2 vs = wipe σ vs ∧ tt σ2 B fun b B2 => if b = true then te σ2 B2 Nt else Nf B2)
    (fin : ∀ p ys A, S H A → H p = none → A p = some (.lst ys) → A2 (R A) (zs.filter t) ys → Q (.ref p) A) : LcR (Itl K a) g tt te vs σ H Q := by
  intro p hp
  have lx := hx.len
  refine lc_list (xs := xs) (fun i A => i ≤ xs.length ∧ S H A ∧ ∃ ys, A p = some (.lst ys) ∧ A2 (R A) ((zs.take i).filter t) ys) ⟨Nat.zero_le _, St.new _ _ _ St.s0 hp, [], upd_same, .nil⟩ (fun i A _ h => hl A h.2.1) ?_ ?_
  · rintro i x A e ⟨hi, hs, ys, h1, h2⟩
    obtain ⟨z, ez, pz⟩ := hx.at e
    have hlt : i < xs.length := (List.getElem?_eq_some_iff.mp e).1
    have et : zs.take (i + 1) = zs.take i ++ [z] := by rw [List.take_add_one, ez]; rfl
    refine turn x z A _ _ (List.mem_of_getElem? ez) (pm _ _ _ _ (St.ki _ _ hs) pz) hs (fun tz y B sb r => ?_) (fun tz B sb => ?_)
    · have e3 := St.keep _ _ _ _ hp hs sb h1
      have hl : ys.length ≤ i := by
        rw [← h2.len]
        refine Nat.le_trans (List.length_filter_le _ _) ?_
        rw [List.length_take]
        omega
      have k : KI B (upd B p (.lst (ys ++ [y]))) := ki_mut e3 rfl
      refine ⟨ys, e3, L2.small1000 (by omega), by omega, St.new _ _ _ (St.tr _ _ hs sb) hp, ys ++ [y], upd_same, ?_⟩
      rw [et, List.filter_append, List.filter_cons_of_pos tz, List.filter_nil]
      exact .snoc (rm _ _ _ _ k r) (h2.mono fun u v z => rm _ _ _ _ k (rm _ _ _ _ (St.ki _ _ sb) z))
    · refine ⟨by omega, St.tr _ _ hs sb, ys, St.keep _ _ _ _ hp hs sb h1, ?_⟩
      rw [et, List.filter_append, List.filter_cons_of_neg (by rw [tz]; decide), List.filter_nil, List.append_nil]
      exact h2.mono fun u v z => rm _ _ _ _ (St.ki _ _ sb) z
  · rintro A ⟨_, hs, ys, h1, h2⟩
    rw [lx, List.take_length] at h2
    exact fin p ys A hs hp h1 h2
theorem c_listXS {α : Type} {a : Addr} {xs : List V} {zs : List α} {g : TG} {tt : TT} {te : TE} {vs : List Nat} (t : α → Bool) (P : Hp → V → α → Prop) (R : Hp → α → V → Prop) (pm : ∀ A B x z, KI A B → P A x z → P B x z) (rm : ∀ A B z y, KI A B → R A z y → R B z y)
    (hs : SqL K H a xs) (hx : A2 (P H) xs zs) (hz : xs.length ≤ 1000)
    (turn : ∀ x z A (Nt : V → Hp → Prop) (Nf : Hp → Prop), z ∈ zs → P A x z → Same H A → (t z = true → ∀ y B, Same A B → R B z y → Nt y B) → (t z = false → ∀ B, Same A B → Nf B) → g x (wipe σ vs) A fun σ2 B => wipe σ2 vs = wipe σ vs ∧ tt σ2 B fun b B2 => if b = true then te σ2 B2 Nt else Nf B2)
    (fin : ∀ p ys A, Same H A → H p = none → A p = some (.lst ys) → A2 (R A) (zs.filter t) ys → Q (.ref p) A) : LcR (Itl K a) g tt te vs σ H Q :=
  c_listX t (stp_same H) P R pm rm (fun _ s => s.seq hs) hx hz turn fin
end
/-! sorted lists of texts: one order only -/
theorem rising_pw : ∀ (p : Str) (l : List Str), risingS p l = true → (p :: l).Pairwise (fun a b => ltCps b.cps.toList a.cps.toList = false)
  | p, [], _ => List.pairwise_singleton _ _
  | p, x :: r, h => by
    have h0 : (!ltCps x.cps.toList p.cps.toList && risingS x r) = true := h
    rw [Bool.and_eq_true, Bool.not_eq_true'] at h0
    have ih := rising_pw x r h0.2
    refine List.pairwise_cons.mpr ⟨fun y hy => ?_, ih⟩
    rcases List.mem_cons.mp hy with rfl | hy
    · exact h0.1
    · have h2 := (List.pairwise_cons.mp ih).1 y hy
      have h1 := h0.1
      rw [ltCps_eq, decide_eq_false_iff_not, List.not_lt] at h1 h2 ⊢
      exact List.le_trans h1 h2
theorem sortedS_pw : ∀ (l : List Str), sortedS l = true → l.Pairwise (fun a b => ltCps b.cps.toList a.cps.toList = false)
  | [], _ => .nil
  | x :: r, h => rising_pw x r h
theorem cps_inj {x y : Str} (h : x.cps.toList = y.cps.toList) : x = y := by
  cases x; cases y
  simp only [PySem.Str.mk.injEq]
  exact Array.toList_inj.mp h
theorem sortedS_uniq : ∀ {l m : List Str}, l.Perm m → sortedS l = true → sortedS m = true → l = m := fun p h1 h2 =>
  List.Perm.eq_of_pairwise (le := fun a b => ltCps b.cps.toList a.cps.toList = false) (fun a b _ _ u v => by
    rw [ltCps_eq, decide_eq_false_iff_not, List.not_lt] at u v
    exact cps_inj (List.le_antisymm u v)) (sortedS_pw _ h1) (sortedS_pw _ h2) p
/-! ### who is tied to whom -/
abbrev Tie := Str × Str
def stepP (S : Str → Prop) (t : Tie) : Str → Prop := fun x => S x ∨ ((S t.1 ∨ S t.2) ∧ (x = t.1 ∨ x = t.2))
def passP (T : List Tie) (S : Str → Prop) : Str → Prop := T.foldl stepP S
theorem step_ext {S : Str → Prop} {t : Tie} {x : Str} (h : S x) : stepP S t x := .inl h
theorem pass_ext : ∀ (T : List Tie) (S : Str → Prop) {x : Str}, S x → passP T S x
  | [], _, _, h => h
  | t :: T, S, _, h => pass_ext T (stepP S t) (step_ext h)
theorem step_flat {S : Str → Prop} {t : Tie} (h : S t.1 ↔ S t.2) : stepP S t = S := by
  funext x
  refine propext ⟨fun z => ?_, .inl⟩
  rcases z with z | ⟨a, rfl | rfl⟩
  · exact z
  · rcases a with a | a
    · exact a
    · exact h.mpr a
  · rcases a with a | a
    · exact h.mp a
    · exact a
theorem pass_flat : ∀ {T : List Tie} {S : Str → Prop}, (∀ t, t ∈ T → (S t.1 ↔ S t.2)) → passP T S = S
  | [], _, _ => rfl
  | t :: T, S, h => by
    show passP T (stepP S t) = S
    rw [step_flat (h t List.mem_cons_self)]
    exact pass_flat fun u hu => h u (List.mem_cons_of_mem _ hu)
theorem pass_both : ∀ {T : List Tie} {S : Str → Prop} {t : Tie}, t ∈ T → (S t.1 ∨ S t.2) → passP T S t.1 ∧ passP T S t.2
  | u :: T, S, t, ht, h => by
    rcases List.mem_cons.mp ht with rfl | ht
    · exact ⟨pass_ext T _ (.inr ⟨h, .inl rfl⟩), pass_ext T _ (.inr ⟨h, .inr rfl⟩)⟩
    · exact pass_both (T := T) (S := stepP S u) ht (h.imp step_ext step_ext)
open Classical in
noncomputable def cntP (T : List Tie) (S : Str → Prop) : Nat := T.countP fun t => decide (S t.1 ∧ S t.2)
theorem countP_lt {α : Type} {p q : α → Bool} : ∀ {l : List α}, (∀ x, x ∈ l → p x = true → q x = true) → (∃ x, x ∈ l ∧ q x = true ∧ p x = false) → l.countP p < l.countP q
  | [], _, ⟨_, h, _⟩ => nomatch h
  | y :: l, h, ⟨x, hx, hq, hp⟩ => by
    have hm : l.countP p ≤ l.countP q := List.countP_mono_left fun z hz => h z (List.mem_cons_of_mem _ hz)
    rcases List.mem_cons.mp hx with rfl | hx
    · rw [List.countP_cons_of_pos hq, List.countP_cons_of_neg (by rw [hp]; decide)]
      omega
    · have ih := countP_lt (fun z hz => h z (List.mem_cons_of_mem _ hz)) ⟨x, hx, hq, hp⟩
      have h0 := h y List.mem_cons_self
      rw [List.countP_cons, List.countP_cons]
      cases e : p y with
      | true => rw [h0 e]; simp only [if_true]; omega
      | false => simp only [Bool.false_eq_true, if_false]; split <;> omega
theorem cnt_le (T : List Tie) (S : Str → Prop) : cntP T S ≤ T.length := List.countP_le_length
open Classical in
theorem cnt_lt {T : List Tie} {S : Str → Prop} (h : passP T S ≠ S) : cntP T S < cntP T (passP T S) := by
  have : ∃ t, t ∈ T ∧ ¬ (S t.1 ↔ S t.2) := Classical.byContradiction fun z => h (pass_flat fun t ht => Classical.byContradiction fun y => z ⟨t, ht, y⟩)
  obtain ⟨t, ht, hn⟩ := this
  have h1 : S t.1 ∨ S t.2 := Classical.byContradiction fun z => hn ⟨fun a => absurd (.inl a) z, fun a => absurd (.inr a) z⟩
  have h2 : ¬ (S t.1 ∧ S t.2) := fun z => hn ⟨fun _ => z.2, fun _ => z.1⟩
  refine countP_lt (fun u _ hu => ?_) ⟨t, ht, decide_eq_true (pass_both ht h1), decide_eq_false h2⟩
  have := of_decide_eq_true hu
  exact decide_eq_true ⟨pass_ext T S this.1, pass_ext T S this.2⟩
def iterP (T : List Tie) : Nat → (Str → Prop) → Str → Prop
  | 0, S => S
  | n + 1, S => passP T (iterP T n S)
theorem iter_cnt (T : List Tie) (S : Str → Prop) : ∀ n, passP T (iterP T n S) = iterP T n S ∨ n ≤ cntP T (iterP T n S)
  | 0 => .inr (Nat.zero_le _)
  | n + 1 => by
    by_cases h : passP T (iterP T n S) = iterP T n S
    · exact .inl (by show passP T (passP T (iterP T n S)) = passP T (iterP T n S); rw [h, h])
    · have := cnt_lt h
      rcases iter_cnt T S n with z | z
      · exact absurd z h
      · exact .inr (by show n + 1 ≤ cntP T (passP T (iterP T n S)); omega)
theorem cnt_all {T : List Tie} {S : Str → Prop} (h : T.length ≤ cntP T S) : passP T S = S := by
  refine Classical.byContradiction fun z => ?_
  have h1 := cnt_lt z
  have h2 := cnt_le T (passP T S)
  omega
theorem iter_done (T : List Tie) (S : Str → Prop) : passP T (iterP T T.length S) = iterP T T.length S := by
  rcases iter_cnt T S T.length with h | h
  · exact h
  · exact cnt_all h
theorem iter_more (T : List Tie) (S : Str → Prop) : ∀ n, T.length ≤ n → iterP T n S = iterP T T.length S := fun n h => by
  obtain ⟨k, rfl⟩ : ∃ k, n = T.length + k := ⟨n - T.length, by omega⟩
  clear h
  induction k with
  | zero => rfl
  | succ k ih => show passP T (iterP T (T.length + k) S) = _; rw [ih]; exact iter_done T S
theorem nodup_len {α : Type} [DecidableEq α] : ∀ {l m : List α}, l.Nodup → (∀ x, x ∈ l → x ∈ m) → l.length ≤ m.length
  | [], _, _, _ => Nat.zero_le _
  | x :: l, m, h, s => by
    have hx := s x List.mem_cons_self
    obtain ⟨h1, h2⟩ := List.nodup_cons.mp h
    have := nodup_len (l := l) (m := m.erase x) h2 fun y hy => (List.mem_erase_of_ne (fun e => h1 (by rw [← e]; exact hy))).mpr (s y (List.mem_cons_of_mem _ hy))
    rw [List.length_erase_of_mem hx] at this
    have : 1 ≤ m.length := List.length_pos_of_mem hx
    rw [List.length_cons]; omega
theorem nodup_perm {α : Type} [DecidableEq α] {l m : List α} (h1 : l.Nodup) (h2 : m.Nodup) (h : ∀ x, x ∈ l ↔ x ∈ m) : l.Perm m :=
  List.perm_iff_count.mpr fun x => by rw [h1.count, h2.count]; simp only [h x]
end Cr
namespace Cr
open PySem PySem.Spec PyProof.Rows L2
/-! ### dict displays; x in D of a dict with text keys -/
def DispR (p : Addr) (Q : VK) : List (V × V) → Hp → Prop := fun ps H2 => H2 p = some (.dK []) ∧ ∃ kvs : List (Key × V), ps = kvs.map (fun kv => (kV kv.1, kv.2)) ∧ kvs.length ≤ 15 ∧ Q (.ref p) (upd H2 p (.dK (mergeK [] kvs)))
/-- texts as keys, each with True -/
def keysV (ks : List Str) : List (Key × V) := ks.map fun x => ((.inr x : Key), V.bl true)
def insK (ks : List Str) (x : Str) : List Str := if x ∈ ks then ks else ks ++ [x]
theorem valV_keys (s : Str) : ∀ ks : List Str, (valV (keysV ks) (.inr s)).isSome = decide (s ∈ ks)
  | [] => by rw [decide_eq_false (fun h => nomatch h)]; rfl
  | k :: ks => by
    show (valV ((((.inr k : Key)), V.bl true) :: keysV ks) (.inr s)).isSome = _
    by_cases h : k = s
    · rw [valV_pos (by rw [h]), decide_eq_true (List.mem_cons.mpr (.inl h.symm))]; rfl
    · rw [valV_neg (fun z => h (Sum.inr.inj z)), valV_keys s ks]
      exact decide_eq_decide.mpr ⟨fun z => List.mem_cons_of_mem _ z, fun z => (List.mem_cons.mp z).elim (fun e => absurd e.symm h) id⟩
theorem putK_keys (ks : List Str) (s : Str) : putK (keysV ks) (.inr s) (V.bl true) = keysV (insK ks s) := by
  unfold putK insK
  rw [valV_any, valV_keys]
  by_cases h : s ∈ ks
  · rw [decide_eq_true h, if_pos rfl, if_pos h]
    unfold keysV
    rw [List.map_map]
    refine List.map_congr_left fun x _ => ?_
    show (if ((.inr x : Key)) = .inr s then _ else _) = _
    split <;> rfl
  · rw [decide_eq_false h, if_neg (by decide), if_neg h]
    unfold keysV
    rw [List.map_append]
    rfl
theorem mem_insK {ks : List Str} {x y : Str} : y ∈ insK ks x ↔ y ∈ ks ∨ y = x := by
  unfold insK
  split
  · rename_i h
    exact ⟨.inl, fun z => z.elim id fun e => by rw [e]; exact h⟩
  · rw [List.mem_append, List.mem_singleton]
theorem nodup_insK {ks : List Str} {x : Str} (h : ks.Nodup) : (insK ks x).Nodup := by
  unfold insK
  split
  · exact h
  · rename_i n
    exact List.nodup_append.mpr ⟨h, List.nodup_cons.mpr ⟨List.not_mem_nil, .nil⟩, fun a ha b hb e => n (by rw [List.mem_singleton] at hb; rw [← hb, ← e]; exact ha)⟩
def tieC (ks : List Str) (t : Tie) : List Str := if t.1 ∈ ks ∨ t.2 ∈ ks then insK (insK ks t.1) t.2 else ks
theorem tieC_mem (ks : List Str) (t : Tie) : (fun x => x ∈ tieC ks t) = stepP (fun x => x ∈ ks) t := by
  funext x
  refine propext ?_
  unfold tieC stepP
  split
  · rename_i h
    rw [mem_insK, mem_insK]
    exact ⟨fun z => z.elim (fun z => z.imp id fun e => ⟨h, .inl e⟩) fun e => .inr ⟨h, .inr e⟩, fun z => z.elim (fun z => .inl (.inl z)) fun z => z.2.elim (fun e => .inl (.inr e)) .inr⟩
  · rename_i h
    exact ⟨.inl, fun z => z.elim id fun z => absurd z.1 h⟩
theorem tieC_nodup {ks : List Str} {t : Tie} (h : ks.Nodup) : (tieC ks t).Nodup := by
  unfold tieC
  split
  · exact nodup_insK (nodup_insK h)
  · exact h
theorem fold_mem (T : List Tie) : ∀ ks : List Str, (fun x => x ∈ T.foldl tieC ks) = passP T (fun x => x ∈ ks) := by
  induction T with
  | nil => intro ks; rfl
  | cons t T ih => intro ks; show (fun x => x ∈ T.foldl tieC (tieC ks t)) = passP T (stepP (fun x => x ∈ ks) t); rw [ih, tieC_mem]
theorem fold_nodup (T : List Tie) : ∀ ks : List Str, ks.Nodup → (T.foldl tieC ks).Nodup := by
  induction T with
  | nil => intro ks h; exact h
  | cons t T ih => intro ks h; exact ih _ (tieC_nodup h)
def keysC (T : List Tie) (h : Str) : Nat → List Str
  | 0 => [h]
  | n + 1 => T.foldl tieC (keysC T h n)
/-- whom h is tied to -/
def CompP (T : List Tie) (h : Str) : Str → Prop := iterP T T.length (fun x => x = h)
theorem keysC_mem (T : List Tie) (h : Str) : ∀ n, (fun x => x ∈ keysC T h n) = iterP T n (fun x => x = h)
  | 0 => by funext x; exact propext List.mem_singleton
  | n + 1 => by show (fun x => x ∈ T.foldl tieC (keysC T h n)) = passP T (iterP T n _); rw [fold_mem, keysC_mem T h n]
theorem keysC_nodup (T : List Tie) (h : Str) : ∀ n, (keysC T h n).Nodup
  | 0 => List.nodup_cons.mpr ⟨List.not_mem_nil, .nil⟩
  | n + 1 => fold_nodup T _ (keysC_nodup T h n)
/-- the names of ties -/
def namesT (T : List Tie) : List Str := T.flatMap fun t => [t.1, t.2]
theorem namesT_len : ∀ T : List Tie, (namesT T).length = 2 * T.length
  | [] => rfl
  | t :: T => by show ([t.1, t.2] ++ namesT T).length = _; rw [List.length_append, namesT_len T]; show 2 + 2 * T.length = 2 * (T.length + 1); omega
theorem tieC_sub {ks : List Str} {t : Tie} {x : Str} (h : x ∈ tieC ks t) : x ∈ ks ∨ x = t.1 ∨ x = t.2 := by
  have h2 : (fun x => x ∈ tieC ks t) x := h
  rw [tieC_mem] at h2
  exact h2.imp id And.right
theorem fold_sub : ∀ (T : List Tie) (ks : List Str) {x : Str}, x ∈ T.foldl tieC ks → x ∈ ks ∨ x ∈ namesT T
  | [], _, _, h => .inl h
  | t :: T, ks, x, h => by
    rcases fold_sub T (tieC ks t) h with z | z
    · exact (tieC_sub z).imp id fun e => List.mem_append_left _ (by rcases e with rfl | rfl <;> simp)
    · exact .inr (List.mem_append_right _ z)
theorem keysC_sub (T : List Tie) (h : Str) : ∀ n, ∀ x, x ∈ keysC T h n → x ∈ h :: namesT T
  | 0, x, z => by rw [List.mem_singleton.mp z]; exact List.mem_cons_self
  | n + 1, x, z => by
    rcases fold_sub T _ z with y | y
    · exact keysC_sub T h n x y
    · exact List.mem_cons_of_mem _ y
theorem part_sub (T : List Tie) (h : Str) (n i : Nat) : ∀ x, x ∈ (T.take i).foldl tieC (keysC T h n) → x ∈ h :: namesT T := fun x z => by
  rcases fold_sub _ _ z with y | y
  · exact keysC_sub T h n x y
  · refine List.mem_cons_of_mem _ ?_
    obtain ⟨t, ht, hx⟩ := List.mem_flatMap.mp y
    exact List.mem_flatMap.mpr ⟨t, List.mem_of_mem_take ht, hx⟩
theorem part_len (T : List Tie) (h : Str) (n i : Nat) : ((T.take i).foldl tieC (keysC T h n)).length ≤ 1 + 2 * T.length := by
  have := nodup_len (fold_nodup (T.take i) _ (keysC_nodup T h n)) (part_sub T h n i)
  rw [List.length_cons, namesT_len] at this
  omega
theorem keysC_len (T : List Tie) (h : Str) (n : Nat) : (keysC T h n).length ≤ 1 + 2 * T.length := part_len T h n 0
section
variable {K : PySem.W.Frag} {σ : St} {H : Hp} {Q : VK} {D : Ends}
theorem s_disp {trs : List (TE × TE)} (h : ∀ p, H p = none → tPairs trs σ (upd H p (.dK [])) (DispR p Q)) : tDisp trs σ H Q := h
theorem s_pairs {tk tv : TE} {r : List (TE × TE)} {N : List (V × V) → Hp → Prop} (h : tk σ H fun x H1 => tv σ H1 fun y H2 => tPairs r σ H2 fun ps H3 => N ((x, y) :: ps) H3) : tPairs ((tk, tv) :: r) σ H N := h
theorem s_pairs0 {N : List (V × V) → Hp → Prop} (h : N [] H) : tPairs [] σ H N := h
theorem s_dispS {p : Addr} {s : Str} {y : V} (hp : H p = some (.dK [])) (h : Q (.ref p) (upd H p (.dK [(.inr s, y)]))) : DispR p Q [(.str s, y)] H := ⟨hp, [(.inr s, y)], rfl, by show 1 ≤ 15; decide, h⟩
theorem s_dinS {d : Addr} {s : Str} {kvs : List (Key × V)} {N : Bool → Prop} (e : H d = some (.dK kvs)) (n : N (valV kvs (.inr s)).isSome) : DInQ (.str s) (.ref d) H N := ⟨d, _, rfl, DGet.k (k := .inr s) e, n⟩
def rSortDK : List V → Hp → VK → Prop := fun xs H Q => ∃ (a : Addr) (kvs : List (Key × V)) (ks : List Str), xs = [.ref a] ∧ Rd H a (.dK kvs) ∧ kvs.map (·.1) = ks.map Sum.inr ∧ ks.length < 64 ∧
    ∀ ys p, ys.Perm ks → sortedS ys = true → H p = none → Q (.ref p) (upd H p (.lst (ys.map V.str)))
theorem call_sortDK {X : Cx} (hc : X.calm = true) : CallR X (.builtin "sorted") rSortDK := call_sortedD hc
theorem s_sortDK {a : Addr} {ks : List Str} (e : H a = some (.dK (keysV ks))) (l : ks.length < 64) (h : ∀ ys p, ys.Perm ks → sortedS ys = true → H p = none → Q (.ref p) (upd H p (.lst (ys.map V.str)))) : rSortDK [.ref a] H Q :=
  ⟨a, _, ks, rfl, .inl e, by unfold keysV; rw [List.map_map]; rfl, l, h⟩
end
end Cr
namespace Cr
open PySem PySem.Spec PyProof.Rows L2
/-! ### own errors with a field, raised and caught -/
theorem xfG {K : PySem.W.Frag} {C : Addr} (T : OexG K C) : XfC K C := ⟨T.ga, T.gg, T.ex, T.hd⟩
section
variable {X : Cx} {CX : CXT} {k n : Nat} {x f0 : Str} {C fI f : Addr} {fd : FuncData} {ps ks : List Str} {sp : Sp} {e : Expr} {es : List Expr} {ta t tk : TA} {p pos : Pos} {E : St → XK} {kws : List Keyword} {g : List Value → List Value → List Value} {gV : List V → List V → List V}
theorem pmk_mk (M : Makes X.K C fI) (kC : PySem.W.keepIn X.K (.ref C) = true) (R : Raises X (.ref C)) (F1 : FnOk X.prog X.w X.K X.mg X.base CX k fI fd ps sp) (hr : Room (k + 1) X.A) (hb : Binds X.K fd ps []) (hx : Passes CX X (fun _ _ _ => False)) (hg : Gl X x) (hm : X.mg x = some (.ref C)) (ha : PA X (e :: es) ta)
    (hdb : (x == ("__debug__" : Str)) = false := by decide) (he : starEach (e :: es) X.env = (false, eval e X.env) :: starEach es X.env := by rfl) (hpl : (backTo pos (starEach es X.env)).any (·.1) = false := by rfl) :
    PMk X (.Call (.Name x p) (e :: es) [] pos) (tMkO C sp [] ta) := by
  intro pins s σ H Q I h
  refine wpAny_Call_Name_kw (ld_glob I hg hm ?_ hdb)
  refine PySem.W.callWith_K (h₀ := X.base) I.ok.mod.kin kC (thn (ha.run pos pins s σ H _ I h) fun us s1 ⟨vs, H1, I1, r1, hz, q1⟩ => ⟨I1.kIn, ?_⟩) he hpl
  show wpAny _ _ (call (.ref C) us) _ _ _
  obtain ⟨hp, g, dr, tk, os⟩ := s1
  have hsz : hp.objs.size ≤ hp.objs.size + 1 := Nat.le_succ _
  have hq := q1 (hp.objs.size + 1) (I1.hok.fresh hsz)
  rw [List.append_nil] at hq
  have kk : ∀ b o, hp.get? b = some o → ((hp.push (PySem.W.kdv_tup us)).push (PySem.HandSPX.excO C hp.objs.size)).get? b = some o := fun b o e => Heap.get?_push_of_some _ (Heap.get?_push_of_some _ e)
  have hget : ((hp.push (PySem.W.kdv_tup us)).push (PySem.HandSPX.excO C hp.objs.size)).get? (hp.objs.size + 1) = some (PySem.HandSPX.excO C hp.objs.size) := by heap_get
  have I2 : Inv X pins σ (upd H1 (hp.objs.size + 1) (exo (hp.objs.size + 1) C none)) ⟨(hp.push (PySem.W.kdv_tup us)).push (PySem.HandSPX.excO C hp.objs.size), g, dr, tk, os⟩ :=
    I1.laid (t' := tk) (a := hp.objs.size + 1) (o := exo (hp.objs.size + 1) C none) (h' := (hp.push (PySem.W.kdv_tup us)).push (PySem.HandSPX.excO C hp.objs.size)) kk hsz (exo_ok hget)
  have r2 : Vals (V.ref (hp.objs.size + 1) :: vs) (Value.ref (hp.objs.size + 1) :: us) := .cons rfl r1
  have hl : (Value.ref (hp.objs.size + 1) :: us).length = ps.length := by
    rw [← r2.length]
    exact F1.len _ _ _ _ hq
  have hus : us.length ≤ sizeLine := by
    rw [← Paired.length r1, sizeLine_eq]
    omega
  have hbb := hb _ (Value.ref (hp.objs.size + 1) :: us) I2.kIn (by rw [List.append_nil]; exact hl)
  rw [List.append_nil] at hbb
  refine wpAny_call (M I1.kIn hus (codeAny_mono (F1.run _ X.stack _ _ ⟨Value.ref (hp.objs.size + 1) :: us, []⟩ (Value.ref (hp.objs.size + 1) :: us) _ _ (fun _ _ _ => False) (hr.make C us []) (I2.env0.make C us []) hbb r2 hq) fun r s' hq' => ?_))
  cases r with
  | error er => exact hx pins σ _ _ er s' I2 hq'
  | ok fl =>
    cases fl with
    | ret u =>
      obtain ⟨v, H2, os2, bare2, un2, hok2, rv, ev, d, fs, ea, ed, hd1, q2⟩ := hq'
      subst ev
      obtain ⟨h2, g2, d2, t2, os'⟩ := s'
      exact ⟨rv, mk_end R I1 hsz kk un2 hok2 os2 bare2 ea ed hd1 q2⟩
    | next => exact False.elim hq'
    | brk => exact False.elim hq'
    | cont => exact False.elim hq'
theorem run_fnNS {pins : List (Addr × Obj)} {σ : St} {H : Hp} {s : Shared} {Q : VK} {us ws : List Value} {vs zs : List V} (F : FnOk X.prog X.w X.K X.mg X.base CX k f fd ps sp) (hr : Room k X.A) (hb : KBn X.K fd ps n ks g gV) (hx : PassesAt CX X σ (E σ))
    (I : Inv X pins σ H s) (r : Vals vs us) (rz : Vals zs ws) (l1 : vs.length = n) (l2 : zs.length = ks.length) (h : sp (gV vs zs) H Q (E σ)) : wpAny (model X.prog X.w) X.A (call (.ref f) us (ks.zip ws)) (EP X pins σ Q) X.xe s := by
  have r2 := hb.rel r rz
  refine wpAny_call (codeAny_mono (F.run X.A X.stack s H ⟨us, ks.zip ws⟩ (g us ws) (gV vs zs) Q (E σ) hr I.env0 (hb.to s us ws I.kIn (r.length.symm.trans l1) (rz.length.symm.trans l2)) r2 h) fun r s' hq => ?_)
  cases r with
  | error e => exact hx pins H s e s' I hq
  | ok fl =>
    cases fl with
    | ret u => exact I.after hq
    | next => exact False.elim hq
    | brk => exact False.elim hq
    | cont => exact False.elim hq
def tCallNS (n m : Nat) (sp : Sp) (gV : List V → List V → List V) (E : St → XK) (t tk : TA) : TE := fun σ H Q => t σ H fun vs H1 => tk σ H1 fun zs H2 => vs.length = n ∧ zs.length = m ∧ sp (gV vs zs) H2 Q (E σ)
theorem pe_callNS (F : FnOk X.prog X.w X.K X.mg X.base CX k f fd ps sp) (hr : Room k X.A) (hg : Gl X x) (hm : X.mg x = some (.ref f)) (hk : PySem.W.keepIn X.K (.ref f) = true) (hb : KBn X.K fd ps n ks g gV) (hx : ∀ σ, PassesAt CX X σ (E σ))
    (ha : PA X (e :: es) t) (hkw : PK X kws tk) (hall : (backToKw pos (keywordEach kws X.env)).all (·.1.isSome) = true := by rfl) (hks : (backToKw pos (keywordEach kws X.env)).filterMap (·.1) = ks := by rfl)
    (hdb : (x == ("__debug__" : Str)) = false := by decide) (he : starEach (e :: es) X.env = (false, eval e X.env) :: starEach es X.env := by rfl)
    (hpl : ((backTo pos (starEach (e :: es) X.env)).any (·.1) || (backToKw pos (keywordEach kws X.env)).any (·.1.isNone)) = false := by rfl) :
    PE X (.Call (.Name x p) (e :: es) kws pos) (tCallNS n ks.length sp gV E t tk) := by
  refine ⟨fun pins s σ H Q I h => ?_⟩
  refine wpAny_Call_Name_kw (ld_glob I hg hm ?_ hdb)
  refine PySem.W.callWith_KW (h₀ := X.base) I.ok.mod.kin hk hall (thn (ha.run pos pins s σ H _ I h) fun us s1 ⟨vs, H1, I1, r, q⟩ => ?_) hpl he
  refine thn (hkw.run pos pins s1 σ H1 _ I1 q) fun ws s2 ⟨zs, H2, I2, rz, l1, l2, q2⟩ => ⟨I2.kIn, ?_⟩
  rw [hks]
  exact run_fnNS F hr hb (hx σ) I2 r rz l1 l2 q2
end
/-- isinstance(e, c) in the suite that holds e, an own error with a dict -/
def rIsD (K : PySem.W.Frag) (a : Addr) (cls : Value) (d : Option Addr) : List V → Hp → VK → Prop := fun xs H Q => ∃ (c : V) (C dd : Addr) (fs : List (Str × V)) (u : Value) (b : Bool), xs = [.ref a, c] ∧ cls = .ref C ∧ d = some dd ∧ H dd = some (.xd fs) ∧ OexG K C ∧ ClsV c u ∧ PySem.W.kitOne K (.ref C) u = some b ∧ Q (.bl b) H
theorem call_isEd {X : Cx} {a : Addr} {oe : Obj} {pn : List (Addr × Obj)} {cls : Value} {d : Option Addr} (hz : Zc cls d oe) (hf : ∃ vs, oe.data = .fields vs) : CallR (X.suite a ((a, oe) :: pn)) (.builtin "isinstance") (rIsD X.K a cls d) := by
  intro pins s σ H xs us Q I r h
  obtain ⟨c, C, dd, fs, u, b, rfl, rfl, rfl, ea, T, k, e, q⟩ := h
  obtain ⟨u1, u2, rfl, r1, r2⟩ := vals2 r
  have e2 := k.eq r2
  subst e2
  obtain rfl : u1 = Value.ref a := r1
  obtain ⟨ha, _⟩ := I.pin (a, oe) (List.mem_append_left _ List.mem_cons_self)
  obtain ⟨vs, hd⟩ := hf
  have hx : ObjOk X.prog X.w H s.heap dd (.xd fs) := I.hok dd _ ea
  obtain ⟨mA, hns, hr⟩ := hx
  obtain ⟨od, ho, hl⟩ := lookIn_ns hns
  have J : PySem.W.InstAt s.heap a oe C (some od) := ⟨ha, hz.1, by unfold PySem.W.notCls; rw [hd] <;> rfl, by rw [hz.2]; exact ho⟩
  obtain ⟨cd, hc, _⟩ := PySem.W.any_some T.hd
  have hcl : (PySem.W.clsIn X.K C).isSome = true := by rw [hc]; rfl
  exact PySem.W.kia_one (PySem.W.kitx_exc hcl T.ga T.gg T.ex T.cl T.gs T.tk T.om) I.kIn J e (fun z => nomatch z) fun tk => ⟨.bl b, H, I.tok tk, rfl, q⟩
def XfQ (a : Addr) (cls : Value) (d : Option Addr) (C : Addr) (f : Str) (x : V) (H1 : Hp) (Q : VK) : Prop := x = .ref a ∧ cls = .ref C ∧ ∃ (dd : Addr) (fs : List (Str × V)) (v : V), d = some dd ∧ H1 dd = some (.xd fs) ∧ fs.lookup f = some v ∧ Q v H1
def MkOQ (C : Addr) (sp : Sp) (vs : List V) (H1 : Hp) (Q : XK) : Prop := vs.length ≤ 1000 ∧ ∀ a, H1 a = none → sp (.ref a :: (vs ++ [])) (upd H1 a (exo a C none))
  (fun v H2 => v = .non ∧ ∃ (d : Addr) (fs : List (Str × V)), H2 a = some (exo a C (some d)) ∧ H2 d = some (exd d fs) ∧ H1 d = none ∧ Q (.ref C) (some d) (upd (del H2 a) d (.xd fs))) (fun _ _ _ => False)
section
variable {K : PySem.W.Frag} {σ : St} {H : Hp} {Q : VK} {D : Ends}
theorem s_xf {a : Addr} {cls : Value} {d : Option Addr} {C : Addr} {f : Str} {te : TE} (h : te σ H fun x H1 => XfQ a cls d C f x H1 Q) : tXf a cls d C f te σ H Q := h
theorem s_xf1 {a C dd : Addr} {f : Str} {v : V} (e : H dd = some (.xd [(f, v)])) (h : Q v H) : XfQ a (.ref C) (some dd) C f (.ref a) H Q := ⟨rfl, rfl, dd, _, v, rfl, e, by simp [List.lookup], h⟩
theorem s_isEd {a C dd : Addr} {fs : List (Str × V)} {c : V} {u : Value} {b : Bool} (e : H dd = some (.xd fs)) (T : OexG K C) (k : ClsV c u) (kq : PySem.W.kitOne K (.ref C) u = some b) (h : Q (.bl b) H) : rIsD K a (.ref C) (some dd) [.ref a, c] H Q := ⟨c, C, dd, fs, u, b, rfl, rfl, rfl, e, T, k, kq, h⟩
theorem s_mkO {C : Addr} {sp : Sp} {ta : TA} {N : XK} (h : ta σ H fun vs H1 => MkOQ C sp vs H1 N) : tMkO C sp [] ta σ H N := h
theorem s_mkO1 {C : Addr} {f : Str} {v : V} {N : XK} (T : OexG K C) (hno : PySem.W.findIn K (.ref C) f = some none) (h : ∀ dx, H dx = none → N (.ref C) (some dx) (upd H dx (.xd [(f, v)]))) : MkOQ C (spIni K f) [v] H N := by
  refine ⟨by show 1 ≤ 1000; decide, fun a ha => ⟨a, C, v, rfl, upd_same, T, hno, fun dx hdx ne => ⟨rfl, dx, [(f, v)], upd_same, by rw [upd_ne ne]; exact upd_same, by rw [upd_ne ne] at hdx; exact hdx, ?_⟩⟩⟩
  rw [upd_ne ne] at hdx
  have e : upd (del (upd (upd (upd H a (exo a C none)) dx (exd dx [(f, v)])) a (exo a C (some dx))) a) dx (.xd [(f, v)]) = upd H dx (.xd [(f, v)]) := by
    funext b
    by_cases h1 : b = dx
    · subst h1; rw [upd_same, upd_same]
    · rw [upd_ne h1, upd_ne h1]
      by_cases h2 : b = a
      · subst h2; rw [del_same, ha]
      · rw [del_ne h2, upd_ne h2, upd_ne h1, upd_ne h2]
  rw [e]
  exact h dx hdx
theorem s_callNS {n m : Nat} {sp : Sp} {gV : List V → List V → List V} {E : St → XK} {t tk : TA} (h : t σ H fun vs H1 => tk σ H1 fun zs H2 => vs.length = n ∧ zs.length = m ∧ sp (gV vs zs) H2 Q (E σ)) : tCallNS n m sp gV E t tk σ H Q := h
end
/-- whole numbers told from other data -/
def plainD (e : PyData) : Prop := (∃ i, e = .int i) ∨ (∃ b, e = .bool b) ∨ e = .none ∨ (∃ s, e = .str s) ∨ ∃ ds, e = .tuple ds
def wholeB (lo hi : Int) : PyData → Bool
  | .int i => decide (lo ≤ i ∧ i ≤ hi)
  | _ => false
def spWh (K : PySem.W.Frag) (lo hi : Int) : Sp := fun vs H Q _ => ∃ x e, vs = [x] ∧ Dt K H x e ∧ plainD e ∧ ∀ H', Same H H' → Q (.bl (wholeB lo hi e)) H'
theorem spWh_ok {K : PySem.W.Frag} {lo hi : Int} : ∀ vs H Q E, spOk K (okNum lo hi) vs H Q E → spWh K lo hi vs H Q E := fun vs H Q E h => by
  obtain ⟨x, e, rfl, hx, ⟨i, rfl, h0, h1⟩, q⟩ := h
  exact ⟨x, _, rfl, hx, .inl ⟨i, rfl⟩, fun H' s => by
    rw [show wholeB lo hi (.int i) = true from decide_eq_true ⟨h0, h1⟩]
    exact q H' s⟩
section
variable {K : PySem.W.Frag} {H : Hp} {Q : VK}
theorem s_isNI (h : Q (.bl false) H) : rIsi K [.non, .ty "int"] H Q := s_isTy (.base .non) kit_ni h
theorem s_isTI {x : V} {ds : List PyData} (hx : Dt K H x (.tuple ds)) (h : Q (.bl false) H) : rIsi K [x, .ty "int"] H Q := s_isTy hx.tyT kit_ti h
end
end Cr

/-! ### any data that may be told in an entry's place -/
namespace Cr
open PySem PySem.Spec PyProof.Rows L2
/-- whole numbers, truths, None, texts, lists of whatever, tuples of these n deep; a list is told as the empty one -/
def Dl (K : PySem.W.Frag) (H : Hp) : Nat → V → PyData → Prop
  | 0, x, e => (∃ i, x = .int i ∧ e = .int i) ∨ (∃ b, x = .bl b ∧ e = .bool b) ∨ (x = .non ∧ e = .none) ∨ (∃ s : Str, x = .str s ∧ e = .str s ∧ s.cps.size ≤ 1000) ∨ ∃ a xs, x = .ref a ∧ H a = some (.lst xs) ∧ e = .list []
  | n + 1, x, e => Dl K H n x e ∨ ∃ a xs es, x = .ref a ∧ e = .tuple es ∧ SqT K H a xs ∧ A2 (Dl K H n) xs es ∧ xs.length ≤ 900
section
variable {K : PySem.W.Frag} {H H' : Hp}
theorem Dl.same (s : Same H H') : ∀ {n : Nat} {x : V} {e : PyData}, Dl K H n x e → Dl K H' n x e
  | 0, _, _, h => by
    rcases h with h | h | h | h | ⟨a, xs, e1, e2, e3⟩
    · exact .inl h
    · exact .inr (.inl h)
    · exact .inr (.inr (.inl h))
    · exact .inr (.inr (.inr (.inl h)))
    · exact .inr (.inr (.inr (.inr ⟨a, xs, e1, s _ _ e2, e3⟩)))
  | n + 1, _, _, h => by
    rcases h with h | ⟨a, xs, es, e1, e2, e3, e4, e5⟩
    · exact .inl (Dl.same s h)
    · exact .inr ⟨a, xs, es, e1, e2, sqT_kt (kt_same s) e3, e4.mono fun _ _ z => Dl.same s z, e5⟩
theorem Dl.up {n : Nat} {x : V} {e : PyData} (h : Dl K H n x e) : Dl K H (n + 1) x e := .inl h
theorem Dl.ups {n : Nat} {x : V} {e : PyData} (h : Dl K H n x e) : ∀ k, Dl K H (n + k) x e
  | 0 => h
  | k + 1 => (Dl.ups h k).up
theorem Dl.int {n : Nat} {i : Int} : Dl K H n (.int i) (.int i) := by
  have : Dl K H 0 (.int i) (.int i) := .inl ⟨i, rfl, rfl⟩
  have := this.ups n
  rwa [Nat.zero_add] at this
theorem Dl.str {n : Nat} {s : Str} (h : s.cps.size ≤ 1000) : Dl K H n (.str s) (.str s) := by
  have : Dl K H 0 (.str s) (.str s) := .inr (.inr (.inr (.inl ⟨s, rfl, rfl, h⟩)))
  have := this.ups n
  rwa [Nat.zero_add] at this
inductive DlC (K : PySem.W.Frag) (H : Hp) (n : Nat) : V → PyData → Prop
  | int (i : Int) : DlC K H n (.int i) (.int i)
  | bl (b : Bool) : DlC K H n (.bl b) (.bool b)
  | non : DlC K H n .non .none
  | str (s : Str) (h : s.cps.size ≤ 1000) : DlC K H n (.str s) (.str s)
  | tup {a : Addr} {xs : List V} {es : List PyData} (h : SqT K H a xs) (d : A2 (Dl K H n) xs es) (l : xs.length ≤ 900) : DlC K H n (.ref a) (.tuple es)
  | lst {a : Addr} {xs : List V} (h : H a = some (.lst xs)) : DlC K H n (.ref a) (.list [])
theorem Dl.cases : ∀ {n : Nat} {x : V} {e : PyData}, Dl K H n x e → DlC K H n x e
  | 0, _, _, h => by
    rcases h with ⟨i, rfl, rfl⟩ | ⟨b, rfl, rfl⟩ | ⟨rfl, rfl⟩ | ⟨s, rfl, rfl, h⟩ | ⟨a, xs, rfl, h, rfl⟩
    · exact .int i
    · exact .bl b
    · exact .non
    · exact .str s h
    · exact .lst h
  | n + 1, _, _, h => by
    rcases h with h | ⟨a, xs, es, rfl, rfl, h1, h2, h3⟩
    · cases Dl.cases h with
      | int i => exact .int i
      | bl b => exact .bl b
      | non => exact .non
      | str s hv => exact .str s hv
      | tup h1 h2 h3 => exact .tup h1 (h2.mono fun _ _ z => z.up) h3
      | lst hv => exact .lst hv
    · exact .tup h1 (h2.mono fun _ _ z => z.up) h3
theorem SqT.tyT {a : Addr} {xs : List V} (hs : SqT K H a xs) : TyX K H (.ref a) (.type "tuple") := by
  rcases hs with (h | ⟨o, h⟩) | ⟨o, its, n, h, c, _⟩
  · exact .base (.tup h)
  · exact .fTuple h
  · exact .kTuple h c
theorem Dl.dt_int {n : Nat} {x : V} {i : Int} (h : Dl K H n x (.int i)) : x = .int i := by cases h.cases; rfl
theorem Dl.dt_str {n : Nat} {x : V} {s : Str} (h : Dl K H n x (.str s)) : x = .str s := by cases h.cases; rfl
end
/-- what is a name, a pair, what a mix holds -/
def nmB (t : Str) : Bool := decide (1 ≤ t.cps.size ∧ t.cps.size ≤ 12) && t.cps.toList.all fun c => decide (97 ≤ c ∧ c ≤ 122)
theorem nmB_iff {t : Str} : nmB t = true ↔ Nm t := by
  unfold nmB Nm
  rw [Bool.and_eq_true, decide_eq_true_eq, List.all_eq_true]
  simp only [decide_eq_true_eq, and_assoc]
def nameB : PyData → Bool
  | .str t => nmB t
  | _ => false
def pairB : PyData → Bool
  | .tuple [a, b] => nameB a && wholeB 1 1000000 b
  | _ => false
def fstD : PyData → PyData
  | .tuple (a :: _) => a
  | e => e
/-- a def that tells whether it is so, of any such data -/
def spLk (K : PySem.W.Frag) (f : PyData → Bool) : Sp := fun vs H Q _ => ∃ (n : Nat) (x : V) (e : PyData), vs = [x] ∧ Dl K H n x e ∧ ∀ H', Same H H' → Q (.bl (f e)) H'
section
variable {K : PySem.W.Frag} {σ : St} {H : Hp} {Q : VK} {D : Ends}
theorem kit_li : kitB "list" "int" = some false := by decide +kernel
theorem kit_lt : kitB "list" "tuple" = some false := by decide +kernel
theorem kit_ls : kitB "list" "str" = some false := by decide +kernel
theorem s_lkI {n : Nat} {x : V} {e : PyData} {N : Bool → Prop} (h : Dl K H n x e) (q : N (match e with | .int _ => true | .bool _ => true | _ => false)) : ∀ Q : VK, (∀ b, N b → Q (.bl b) H) → rIsi K [x, .ty "int"] H Q := fun Q hq => by
  cases h.cases with
  | int i => exact s_isII (hq _ q)
  | bl b => exact s_isBI (hq _ q)
  | non => exact s_isNI (hq _ q)
  | str s h => exact s_isSI (hq _ q)
  | tup hv d l => exact s_isTy (SqT.tyT hv) kit_ti (hq _ q)
  | lst hv => exact s_isTy (.base (.lst hv)) kit_li (hq _ q)
theorem s_lkT {n : Nat} {x : V} {e : PyData} (h : Dl K H n x e) (q : Q (.bl (match e with | .tuple _ => true | _ => false)) H) : rIsi K [x, .ty "tuple"] H Q := by
  cases h.cases with
  | int i => exact s_isTy (.base (.int i)) kit_it q
  | bl b => exact s_isTy (.base (.bl b)) kit_bt q
  | non => exact s_isTy (.base .non) kit_nt q
  | str s h => exact s_isTy (.base (.str s)) kit_st q
  | tup hv d l => exact s_isTy (SqT.tyT hv) (by exact kit_tt) q
  | lst hv => exact s_isTy (.base (.lst hv)) kit_lt q
theorem s_lkS {n : Nat} {x : V} {e : PyData} (h : Dl K H n x e) (q : Q (.bl (match e with | .str _ => true | _ => false)) H) : rIsi K [x, .ty "str"] H Q := by
  cases h.cases with
  | int i => exact s_isTy (.base (.int i)) kit_is q
  | bl b => exact s_isTy (.base (.bl b)) kit_bs q
  | non => exact s_isTy (.base .non) kit_ns q
  | str s h => exact s_isTy (.base (.str s)) kit_ss q
  | tup hv d l => exact s_isTy (SqT.tyT hv) kit_ts q
  | lst hv => exact s_isTy (.base (.lst hv)) kit_ls q
theorem s_isTQ {a : Addr} {xs : List V} (hs : SqT K H a xs) (h : Q (.bl true) H) : rIsi K [.ref a, .ty "tuple"] H Q := s_isTy (SqT.tyT hs) kit_tt h
theorem s_ixQ {a : Addr} {xs : List V} {i : Nat} {v : V} (hs : SqT K H a xs) (e : xs[i]? = some v) (h : Q v H) : rIx K (.ref a) (.int i) H Q := .inr (.inl ⟨a, xs, i, v, rfl, rfl, hs, atI_nat e, h⟩)
theorem s_ixQ0 {a : Addr} {v : V} {xs : List V} (hs : SqT K H a (v :: xs)) (h : Q v H) : rIx K (.ref a) (.int 0) H Q := s_ixQ (i := 0) hs rfl h
theorem s_ixQ1 {a : Addr} {v u : V} {xs : List V} (hs : SqT K H a (v :: u :: xs)) (h : Q u H) : rIx K (.ref a) (.int 1) H Q := s_ixQ (i := 1) hs rfl h
theorem s_truQ {a : Addr} {xs : List V} {N : Bool → Prop} (hs : SqT K H a xs) (h : N (!xs.isEmpty)) : ∃ k, TruV K (.ref a) H k ∧ N k := ⟨_, .inr (.inl ⟨xs, hs, rfl⟩), h⟩
theorem s_gstarQ {a : Addr} {x : V} {xs : List V} {t : TGs} {N : St → Hp → Prop} (hs : SqT K H a (x :: xs)) (l : xs.length ≤ 900) (h : ∀ p, H p = none → t [x, .ref p] σ (upd H p (.lst xs)) N) : gStar K t (.ref a) σ H N := ⟨a, x, xs, rfl, hs, l, h⟩
theorem s_allB {a : Addr} {bs : List Bool} (hs : SqL K H a (bs.map V.bl)) (h : Q (.bl (bs.all id)) H) : rAll K [.ref a] H Q := ⟨a, bs, rfl, hs, h⟩
theorem c_strX {x : Str} {g : TG} {te : TE} {vs : List Nat} (f : Nat → V) (hz : x.cps.size ≤ 1000)
    (turn : ∀ c A (N : V → Hp → Prop), c ∈ x.cps.toList → Same H A → (∀ B, Same A B → N (f c) B) → g (.str (sign c)) (wipe σ vs) A fun σ2 B => wipe σ2 vs = wipe σ vs ∧ te σ2 B N)
    (fin : ∀ p A, Same H A → H p = none → A p = some (.lst (x.cps.toList.map f)) → Q (.ref p) A) : LcR (Its x) g tYes te vs σ H Q := by
  intro p hp
  refine ⟨fun i m A => m = x.cps.size - i ∧ i ≤ x.cps.size ∧ Same H A ∧ A p = some (.lst ((x.cps.toList.take i).map f)), ⟨_, rfl, Nat.zero_le _, same_new hp, upd_same⟩, ?_⟩
  rintro i m A ⟨rfl, hi, sm, h1⟩
  by_cases hlt : i < x.cps.size
  · refine .inr ⟨hlt, fun A' => i + 1 ≤ x.cps.size ∧ Same H A' ∧ A' p = some (.lst ((x.cps.toList.take (i + 1)).map f)), fun A' h => ⟨x.cps.size - (i + 1), by omega, rfl, h⟩, fun v A' y => ?_⟩
    obtain ⟨rfl, c, ec, rfl⟩ := y
    have ec2 : x.cps.toList[i]? = some c := by rw [Array.getElem?_toList]; exact ec
    refine turn c A' _ (Array.mem_def.mp (Array.mem_of_getElem? ec)) sm fun B sb => ?_
    refine ⟨_, sb _ _ h1, L2.small1000 (by rw [List.length_map, List.length_take]; omega), hlt, same_mut (sm.trans sb) hp, ?_⟩
    rw [upd_same, List.take_add_one, ec2, List.map_append]
    rfl
  · have e : i = x.cps.size := by omega
    subst e
    refine .inl ⟨Nat.le_refl _, fin p A sm hp ?_⟩
    rw [h1, show x.cps.size = x.cps.toList.length from rfl, List.take_length]
/-- slices and + of tuples of whatever -/
theorem s_slQhi {a : Addr} {xs : List V} {hi : Int} (hs : SqT K H a xs) (h0 : 0 ≤ hi) (h1 : hi < xs.length) (h : ∀ p, H p = none → Q (.ref p) (upd H p (.tup (xs.take hi.toNat)))) : rSlU K (.ref a) none (some hi) H Q := by
  refine .inr ⟨a, xs, rfl, hs, fun z => ?_, fun p hp => ?_⟩
  · obtain ⟨k, rfl⟩ : ∃ k : Nat, hi = (k : Int) := ⟨hi.toNat, by omega⟩
    have z2 := z.2
    rw [HT.sIx_nat] at z2
    omega
  · rw [cutV_hi xs h0]
    exact h p hp
theorem s_slQlo {a : Addr} {xs : List V} {lo : Int} (hs : SqT K H a xs) (h0 : 0 < lo) (h1 : 0 < xs.length) (h : ∀ p, H p = none → Q (.ref p) (upd H p (.tup (xs.drop lo.toNat)))) : rSlU K (.ref a) (some lo) none H Q := by
  refine .inr ⟨a, xs, rfl, hs, fun z => ?_, fun p hp => ?_⟩
  · obtain ⟨k, rfl⟩ : ∃ k : Nat, lo = (k : Int) := ⟨lo.toNat, by omega⟩
    have z1 := z.1
    rw [HT.sIx_nat] at z1
    omega
  · rw [cutV_lo xs (by omega)]
    exact h p hp
theorem s_addQQ {a b : Addr} {xs ys : List V} (hs : SqT K H a xs) (ht : SqT K H b ys) (n1 : xs ≠ []) (l : xs.length + ys.length ≤ 1000) (h1 : ys = [] → Q (.ref a) H) (h2 : ys ≠ [] → ∀ p, H p = none → Q (.ref p) (upd H p (.tup (xs ++ ys)))) : rAddU K (.ref a) (.ref b) H Q :=
  .inr (.inr (.inr ⟨a, b, xs, ys, rfl, rfl, hs, ht, n1, Nat.le_of_lt (L2.small1000 l), h1, h2⟩))
end
end Cr

namespace Cr
open PySem PySem.Spec PyProof.Rows L2
/-! ### sorted(.., key = a lambda that puts an entry's places about) -/
/-- lambda x: (x[1], x[0], x[2:]) -/
def TurnE (x : Str) (e : Expr) : Prop := ∃ (c k1 k2 k3 : Nat) (a1 a2 a3 a4 a5 a6 a7 a8 a9 b1 b2 : Pos),
  e = .Tuple [.Subscript (.Name x a1) (.Constant (.int 1) k1 a2) a3, .Subscript (.Name x a4) (.Constant (.int 0) k2 a5) a6, .Subscript (.Name x a7) (.Slice (some (.Constant (.int 2) k3 a8)) none none a9) b1] c b2
section
variable {prog : Program} {w : World} {A : Around} {E : Value → Shared → Prop} {s : Shared} {env : Env} {m : Str → Option Value}
theorem ix_raw {t : Addr} {its : List Value} {x : Str} {i : Nat} {v : Value} {k : Nat} {p1 p2 p3 : Pos} {Q : Value → Shared → Prop} (hk : env.scope.kind = .function) (hl : env.kindOf x = some .local) (hn : s.heap.Ns env.locals m) (hm : m x = some (.ref t))
    (ht : IsTup s.heap t its.toArray) (hi : its[i]? = some v) (hz : its.length ≤ 1000) (hd : (x == ("__debug__" : Str)) = false) (q : ∀ tk, Q v { s with toks := tk }) :
    wpAny (model prog w) A (eval (.Subscript (.Name x p1) (.Constant (.int (i : Int)) k p2) p3) env) Q E s := by
  have hj : i < its.length := (List.getElem?_eq_some_iff.mp hi).1
  refine Subscript_ (wpAny_Name (wpAny_loadName_local hk hl hn hm ?_) hd)
  refine wpAny_Constant_int ?_
  have ht2 : IsTup ({ s with toks := s.toks + 1 } : Shared).heap t its.toArray := ht
  exact subscriptTail_builtinR (x := v) (ht2.typeIs) slot_tuple_getitem.lookup
    (PyProof.Rows.getItem_tuple (j := i) (Q := fun r s' => r = v ∧ Q r s') ht2 (by omega) (by omega) (by rw [List.size_toArray]; unfold seqIndex?; first | rfl | (rw [if_neg (by omega), if_pos (by omega)]; rfl) | (simp; omega)) (by simpa using hi) ⟨rfl, q _⟩)
theorem sl_raw {t : Addr} {its : List Value} {x : Str} {k : Nat} {p1 p2 p3 p4 : Pos} {Q : Value → Shared → Prop} (hk : env.scope.kind = .function) (hl : env.kindOf x = some .local) (hn : s.heap.Ns env.locals m) (hm : m x = some (.ref t))
    (ht : IsTup s.heap t its.toArray) (h2 : 2 ≤ its.length) (hz : its.length ≤ 1000) (hd : (x == ("__debug__" : Str)) = false)
    (q : ∀ h' tk r, (∀ b o, s.heap.get? b = some o → h'.get? b = some o) → IsTup h' r (its.drop 2).toArray → Q (.ref r) { s with heap := h', toks := tk }) :
    wpAny (model prog w) A (eval (.Subscript (.Name x p1) (.Slice (some (.Constant (.int 2) k p2)) none none p3) p4) env) Q E s := by
  refine Subscript_ (wpAny_Name (wpAny_loadName_local hk hl hn hm ?_) hd)
  refine wpAny_Slice ?_
  rw [evalPart_some]
  refine wpAny_Constant_int ?_
  rw [evalPart_none]
  refine wpAny_pure ?_
  refine wpAny_pure ?_
  generalize hh : s.heap.push { cls := .type "slice", data := .fields #[.int 2 s.toks, .none, .none] } = h1
  have ht1 : IsTup h1 t its.toArray := by rw [← hh]; exact ht.keeps fun b o e => Heap.get?_push_of_some _ e
  have hs1 : h1.IsSliceOf s.heap.objs.size (.int 2 s.toks) .none .none := by rw [← hh]; exact Heap.IsSliceOf.new ..
  have e2 : HT.sIx its.length 0 (some 2) = 2 := by unfold HT.sIx; simp; omega
  have e3 : HT.sIx its.length its.length none = its.length := rfl
  have ht1' : ({ s with heap := h1, toks := s.toks + 1 } : Shared).TypeIs (.ref t) "tuple" := ht1.typeIs (s := { s with heap := h1, toks := s.toks + 1 })
  refine tail_any (ops := [.ref s.heap.objs.size, .ref t]) ht1' slot_tuple_getitem.lookup ?_ (by with_unfolding_all rfl)
  refine HT.getItem_tuple_cut (s := { s with heap := h1, toks := s.toks + 1 }) (lo := some 2) (hi := none) ht1 hs1 ?_ ?_ ?_ ?_ ?_
  · exact .int _ _
  · exact .none
  · rw [List.size_toArray, e2]; omega
  · refine q _ _ _ (fun b o e => ?_) ?_
    · refine Heap.get?_push_of_some _ ?_
      show h1.get? b = some o
      rw [← hh]; exact Heap.get?_push_of_some _ e
    · rw [List.size_toArray, e2, e3]
      have el : (its.toArray.toList.drop 2).take (its.length - 2) = its.drop 2 := by
        rw [List.take_of_length_le]
        simp
      rw [el]
      exact IsTup.new _ _
  · rw [List.size_toArray]; exact Nat.le_of_lt (L2.small1000 hz)
theorem turn_raw {t : Addr} {its : List Value} {x : Str} {e : Expr} {v0 v1 : Value} {Q : Value → Shared → Prop} (he : TurnE x e) (hk : env.scope.kind = .function) (hl : env.kindOf x = some .local) (hn : s.heap.Ns env.locals m) (hm : m x = some (.ref t))
    (ht : IsTup s.heap t its.toArray) (h0 : its[0]? = some v0) (h1 : its[1]? = some v1) (hz : its.length ≤ 1000) (hd : (x == ("__debug__" : Str)) = false) (lx : ∀ h' : Heap, (∀ b o, s.heap.get? b = some o → h'.get? b = some o) → h'.Ns env.locals m)
    (q : ∀ h' tk r p, (∀ b o, s.heap.get? b = some o → h'.get? b = some o) → IsTup h' r (its.drop 2).toArray → IsTup h' p #[v1, v0, .ref r] → Q (.ref p) { s with heap := h', toks := tk }) :
    wpAny (model prog w) A (eval e env) Q E s := by
  obtain ⟨c, k1, k2, k3, a1, a2, a3, a4, a5, a6, a7, a8, a9, b1, b2, rfl⟩ := he
  have h2 : 2 ≤ its.length := (List.getElem?_eq_some_iff.mp h1).1
  refine wpAny_Tuple_spliced ?_
  refine Calls.spliced_cons (ix_raw (i := 1) hk hl hn hm ht h1 hz hd fun tk1 => ?_)
  refine Calls.spliced_cons (ix_raw (s := { s with toks := tk1 }) (i := 0) hk hl hn hm ht h0 hz hd fun tk2 => ?_)
  refine Calls.spliced_cons (sl_raw (s := { s with toks := tk2 }) hk hl hn hm ht h2 hz hd fun h' tk3 r kp hr => ?_)
  refine Calls.spliced_nil ⟨by show 3 ≤ sizeLine; decide, ?_⟩
  exact q _ _ r _ (fun b o e => Heap.get?_push_of_some _ (kp b o e)) (hr.keeps fun b o e => Heap.get?_push_of_some _ e) (IsTup.new _ _)
end
/-! keys of unlike rest: (whole number, text, tuple); the tuples are alike where the first two are so -/
def KeysOk (kz : List PyData) : Prop := (∀ d, d ∈ kz → ∃ i k r, d = .tuple [.int i, .str k, .tuple r] ∧ d.depth ≤ 32) ∧
  ∀ i k r r', PyData.tuple [.int i, .str k, .tuple r] ∈ kz → PyData.tuple [.int i, .str k, .tuple r'] ∈ kz → PySem.W.alikeAll r r' = true
open PySem.W in
theorem KeysOk.self {kz : List PyData} (K : KeysOk kz) {d : PyData} (h : d ∈ kz) : alike d d = true := by
  obtain ⟨i, k, r, rfl, _⟩ := K.1 d h
  have := K.2 i k r r h h
  simp [alike, alikeAll, this]
open PySem.W in
theorem KeysOk.one {kz : List PyData} (K : KeysOk kz) {h : Heap} {d d' : PyData} {v : Value} {as as' : List Addr} (m : d ∈ kz) (m' : d' ∈ kz) (r : Reads h v d as) (r' : Reads h v d' as') : d = d' := by
  obtain ⟨i, k, z, rfl, _⟩ := K.1 d m
  obtain ⟨i', k', z', rfl, _⟩ := K.1 d' m'
  have hi : i = i' ∧ k = k' := by
    cases r with
    | tuple a1 a2 a3 a4 =>
      cases r' with
      | tuple b1 b2 b3 b4 =>
        rw [a1] at b1; cases b1
        rw [a3] at b3; cases b3
        generalize Array.toList _ = l at a4 b4
        cases a4 with
        | cons c1 c2 =>
          cases b4 with
          | cons d1 d2 =>
            cases c2 with
            | cons c3 c4 =>
              cases d2 with
              | cons d3 d4 =>
                cases c1; cases d1; cases c3; cases d3
                exact ⟨rfl, rfl⟩
  obtain ⟨rfl, rfl⟩ := hi
  exact alike_unique _ _ _ _ _ (by have := K.2 i k z z' m m'; simp [alike, alikeAll, this]) r r'
open PySem.W in
theorem KeysOk.key {kz : List PyData} (K : KeysOk kz) {h : Heap} {v : Value} {d : PyData} {as : List Addr} (m : d ∈ kz) (r : Reads h v d as) : (dataKind h kz).keyOf v = some (keyToks d) := by
  have ex : ∃ z, z ∈ kz ∧ ∃ bs, Reads h v z bs := ⟨d, m, as, r⟩
  have e : (dataKind h kz).keyOf v = some (keyToks ex.choose) := by unfold dataKind; exact dif_pos ex
  obtain ⟨m1, bs, r1⟩ := ex.choose_spec
  rw [e, K.one m1 m r1 r]
open PySem.W in
theorem katLex_key {prog : Program} {w : World} {A : Around} {s : Shared} {b fin : Bool} {Q : Bool → Shared → Prop} {i i' : Int} {k k' : Str} {r r' : List PyData} {vs ws : List Value} {as bs : List Addr}
    (ra : ReadsAll s.heap vs [.int i, .str k, .tuple r] as) (rb : ReadsAll s.heap ws [.int i', .str k', .tuple r'] bs) (hk : i = i' → k = k' → alikeAll r r' = true) (hu : A.units + (PyData.tuple r).depth < cLine) (hf : fin = false)
    (hq : Q (PyProof.Rows.lexLt itemOrd (keyToksAll [.int i, .str k, .tuple r]) (keyToksAll [.int i', .str k', .tuple r'])) s) : KatLex prog w A b fin Q (vs.zip ws) 0 s := by
  cases ra with
  | cons a1 ra =>
  cases ra with
  | cons a2 ra =>
  cases rb with
  | cons b1 rb =>
  cases rb with
  | cons b2 rb =>
  have li : alike (.int i) (.int i') = true := rfl
  have lk : alike (.str k) (.str k') = true := rfl
  have u0 : ∀ x y : PyData, x.depth = 0 → A.units + min x.depth y.depth < cLine := fun x y e => by rw [e]; omega
  have di : (PyData.int i).depth = 0 := by simp [PyData.depth]
  have dk : (PyData.str k).depth = 0 := by simp [PyData.depth]
  rw [List.zip_cons_cons, List.zip_cons_cons]
  refine kat_cons (eqAt_alike (.int i) (.int i') A s _ _ _ _ a1 b1 li (u0 _ _ di) prog w _ _ ?_)
  cases hx : PyData.eqv (.int i) (.int i') with
  | false =>
    rw [dataLt_all_no li hx] at hq
    exact kat_no (oneLt_alike (fun _ t z => by cases z) a1 b1 li (fun z => by cases z) (u0 _ _ di) hq)
  | true =>
    rw [dataLt_all_yes li hx] at hq
    have ei : i = i' := by rw [eqvI] at hx; exact of_decide_eq_true hx
    refine kat_yes (kat_cons (eqAt_alike (.str k) (.str k') A s _ _ _ _ a2 b2 lk (u0 _ _ dk) prog w _ _ ?_))
    cases hy : PyData.eqv (.str k) (.str k') with
    | false =>
      rw [dataLt_all_no lk hy] at hq
      exact kat_no (oneLt_alike (fun _ t z => by cases z) a2 b2 lk (fun z => by cases z) (u0 _ _ dk) hq)
    | true =>
      rw [dataLt_all_yes lk hy] at hq
      have ek : k = k' := by rw [eqvS] at hy; exact of_decide_eq_true hy
      refine kat_yes (katLex_alike [.tuple r] [.tuple r'] 2 _ _ _ _ ra rb (by simp [alike, alikeAll, hk ei ek]) ?_ (fun _ z => absurd z (by decide)) hf hq)
      have : PyData.depthAll [.tuple r] = (PyData.tuple r).depth := by simp [PyData.depthAll]
      omega
open PySem.W in
theorem KeysOk.sorts {prog : Program} {w : World} {A : Around} {s : Shared} {kz : List PyData} (K : KeysOk kz) {vs : List Value} (e : EachIs (fun v d => ∃ as, Reads s.heap v d as) vs kz) (hu : A.units + 32 < cLine) : SortsAt prog w A s (dataKind s.heap kz) vs := by
  refine ⟨fun v hv => ?_, tuples' true, ?_, fun h2 E Q hq => ?_⟩
  · obtain ⟨d, hd, as, r⟩ := e.left v hv
    exact ⟨_, K.key hd r⟩
  · intro E x y a b Q ha hb hq
    obtain ⟨d, as, hd, ra, rfl⟩ := dataKind_inv ha
    obtain ⟨d', as', hd', rb, rfl⟩ := dataKind_inv hb
    obtain ⟨i, k, r, rfl, dep⟩ := K.1 d hd
    obtain ⟨i', k', r', rfl, _⟩ := K.1 d' hd'
    have hq' : Q (dataLt (.tuple [.int i, .str k, .tuple r]) (.tuple [.int i', .str k', .tuple r'])) s := hq
    rw [dataLt_tuple] at hq'
    cases ra with
    | @tuple l o xs n _ _ a1 a2 a3 a4 =>
      cases rb with
      | @tuple l' o' xs' n' _ _ b1 b2 b3 b4 =>
        have n1 : xs.size = 3 := by simpa using SeqAt.ReadsAll.length _ _ _ a4
        have n2 : xs'.size = 3 := by simpa using SeqAt.ReadsAll.length _ _ _ b4
        refine kat_lt a1 a3 b1 b3 (katLex_key a4 b4 (fun ei ek => by subst ei; subst ek; exact K.2 _ _ _ _ hd hd') ?_ (by rw [n1, n2]; rfl) hq')
        have : (PyData.tuple [.int i, .str k, .tuple r]).depth = PyData.depth (.tuple r) + 1 := by
          simp [PyData.depth, PyData.depthAll]
        omega
  · obtain ⟨fs, t1, t2, t3⟩ := each_katTups e fun d hd => by
      obtain ⟨i, k, r, rfl, _⟩ := K.1 d hd
      exact ⟨_, _, rfl⟩
    refine kat_kind (T := .type "int") t1 (by omega) (fun f hf => ?_) (beq_self_eq_true _) hq
    obtain ⟨x, z, as, m1, m2⟩ := t3 f hf
    obtain ⟨i, k, r, ez, _⟩ := K.1 _ m1
    injection ez with ez
    injection ez with ex _
    subst ex
    exact looks_reads m2
/-! the sort itself: each key made by a call that keeps the heap -/
section
open PySem.W PyProof.Rows
variable {prog : Program} {w : World} {A : Around} {E : Value → Shared → Prop} {s : Shared}
/-- what comes out -/
def OutK (kz : List PyData) (vs out : List Value) : Prop := ∃ g ks, out = sortVals (dataKind g kz) false ks vs ∧ EachIs (fun v z => (dataKind g kz).keyOf v = some (keyToks z)) ks kz
theorem kr_rest {a kS : Addr} {f : Value} {vs : List Value} {kz : List PyData} {e1 : Nat} {P : PySem.Fin → Shared → Prop} {g0 : Heap} (kp : KeepsBut a g0 s.heap) (fr : g0.get? kS = none)
    (at1 : s.heap.get? kS = some (seqObj "list" #[] 0)) (at2 : s.heap.get? a = some (seqObj "list" #[] e1)) (ne : kS ≠ a) (len : kz.length = vs.length) (room : vs.length ≤ sizeLine) (K : KeysOk kz) (hu : A.units + 32 < cLine)
    (turn : ∀ (i : Nat) (v : Value) (z : PyData), vs[i]? = some v → kz[i]? = some z → ∀ (g : Heap) (tk : Nat), KeepsBut a g0 g → wpAny (model prog w) A (call f [v])
      (KeyPure z { s with heap := g, toks := tk }) (fun _ _ => False) { s with heap := g, toks := tk })
    (fin : ∀ g tk out c, KeepsBut a g0 g → g.get? a = some (seqObj "list" (List.toArray out) c) → OutK kz vs out → P (.done (.ret .none)) { s with heap := g, toks := tk }) :
    wpAny (model prog w) A (ksk_rest a f false vs.toArray e1 (.ref kS)) P E s := by
  unfold ksk_rest
  refine wpAny_bind (wpAny_rule ?_)
  rw [List.forIn_toArray]
  refine wpAny_bind (ksk_fold (fun i s1 => ∃ g tk made e, s1 = { s with heap := g, toks := tk } ∧ KeepsBut a g0 g ∧ g.get? kS = some (seqObj "list" made e) ∧ g.get? a = some (seqObj "list" #[] e1) ∧
    EachIs (fun v z => Reads g v z [] ∧ z ∈ kz) made.toList (kz.take i)) vs 0 s ⟨s.heap, s.toks, #[], 0, rfl, kp, at1, at2, by rw [List.take_zero]; exact .nil⟩ ?_ ?_)
  · rintro j x s1 ej ⟨g, tk, made, e, rfl, kp1, c1, c2, ea⟩
    rw [Nat.zero_add] at ea ⊢
    have lt : j < vs.length := (List.getElem?_eq_some_iff.mp ej).1
    have lt' : j < kz.length := by omega
    have ez : kz[j]? = some kz[j] := List.getElem?_eq_getElem lt'
    have mz : kz[j] ∈ kz := List.getElem_mem lt'
    have sz : made.size ≤ vs.length := by
      have q := ea.length
      rw [Array.length_toList, List.length_take] at q
      omega
    refine wpAny_bind (wpAny_attempt (wpAny_mono (turn j x _ ej ez g tk kp1) (fun v s2 z => ?_) fun _ _ z => z.elim))
    obtain ⟨g2, tk2, rfl, keep, rd⟩ := z
    dsimp only
    have d1 := keep _ _ c1
    have d2 := keep _ _ c2
    have sb := Heap.SameBut.update g2 kS (Obj.mapSeq (·.push v))
    obtain ⟨n2, d3⟩ : ∃ n2, (g2.update kS (Obj.mapSeq (·.push v))).get? kS = some (seqObj "list" (made.push v) n2) := ⟨_, get?_update_seq d1 (·.push v)⟩
    refine wpAny_bind (listUpdate_at d1 rfl ?_ (Nat.le_trans sz room) (by rw [Array.size_push]; omega))
    have stays : ∀ (u : Value) (z : PyData), Reads g2 u z [] ∧ z ∈ kz → Reads (g2.update kS (Obj.mapSeq (·.push v))) u z [] ∧ z ∈ kz := fun u z q =>
      ⟨Reads.keepBut (a := kS) (fun b o hb eb => (sb.2 b hb).trans eb) (fun o eb => by rw [d1] at eb; cases eb; rfl) z u [] (K.self q.2) q.1 (fun h => nomatch h), q.2⟩
    refine wpAny_pure ⟨rfl, _, _, made.push v, n2, rfl, (kp1.trans_all keep).same sb (.inr fr), d3, (sb.2 a ne.symm).trans d2, ?_⟩
    rw [Array.toList_push, List.take_add_one, ez]
    exact each_snoc (R := fun (u : Value) (z : PyData) => Reads (g2.update kS (Obj.mapSeq (·.push v))) u z [] ∧ z ∈ kz) (stays v _ ⟨rd, mz⟩) (ea.mono fun u z q => stays u z ⟨PyProof.Rows.Reads.keeps keep q.1, q.2⟩)
  · rintro s1 ⟨g, tk, made, e, rfl, kp1, c1, c2, ea⟩
    rw [Nat.zero_add, List.take_of_length_le (by omega)] at ea
    have er : EachIs (fun v z => ∃ as, Reads g v z as) made.toList kz := ea.mono fun _ _ q => ⟨[], q.1⟩
    have sz : made.size = vs.length := by
      have q := ea.length
      rw [Array.length_toList] at q
      omega
    refine wpAny_bind (listItems_at c1 rfl ?_)
    exact keyH_end (κ := dataKind g kz) (b := false) (h₁ := g0) kp1 fr c1 c2 ne (K.sorts (s := { s with heap := g, toks := tk }) er hu) sz room fun g3 tk3 c3 k3 n3 =>
      fin g3 tk3 _ c3 k3 n3 ⟨g, made.toList, rfl, ea.mono fun _ _ q => K.key q.2 q.1⟩
theorem kr_tree {a : Addr} {f : Value} {vs : List Value} {kz : List PyData} {n : Nat} {P : PySem.Fin → Shared → Prop} (ho : s.heap.get? a = some (seqObj "list" vs.toArray n)) (len : kz.length = vs.length) (room : vs.length ≤ sizeLine) (K : KeysOk kz) (hu : A.units + 32 < cLine)
    (turn : ∀ (i : Nat) (v : Value) (z : PyData), vs[i]? = some v → kz[i]? = some z → ∀ (g : Heap) (tk : Nat), KeepsBut a s.heap g → wpAny (model prog w) A (call f [v])
      (KeyPure z { s with heap := g, toks := tk }) (fun _ _ => False) { s with heap := g, toks := tk })
    (fin : ∀ g tk out c, KeepsBut a s.heap g → g.get? a = some (seqObj "list" (List.toArray out) c) → OutK kz vs out → P (.done (.ret .none)) { s with heap := g, toks := tk }) :
    wpAny (model prog w) A (ksk_tree a f false) P E s := by
  have lt := Heap.lt_size ho
  obtain ⟨e1, o1⟩ : ∃ e1, (s.heap.update a (Obj.mapSeq fun _ => (#[] : Array Value))).get? a = some (seqObj "list" #[] e1) := ⟨_, get?_update_seq ho fun _ => #[]⟩
  have sz : ((s.heap.update a (Obj.mapSeq fun _ => (#[] : Array Value))).push (seqObj "tuple" vs.toArray 0)).objs.size = s.heap.objs.size + 1 := by rw [size_push', Heap.size_update]
  unfold ksk_tree
  refine wpAny_bind (listItems_at ho rfl ?_)
  refine wpAny_bind (listUpdate_at ho rfl ?_ (by rw [List.size_toArray]; exact room) (Nat.zero_le _))
  refine wpAny_bind (seqEpoch_at o1 rfl ?_)
  refine wpAny_bind (wpAny_newTuple ?_ (show vs.length ≤ sizeLine from room))
  refine wpAny_bind (wpAny_newList ?_ (Nat.zero_le _))
  refine wpAny_holding ?_
  refine kr_rest (g0 := s.heap) (s := { s with heap := ((s.heap.update a (Obj.mapSeq fun _ => (#[] : Array Value))).push (seqObj "tuple" vs.toArray 0)).push (seqObj "list" #[] 0) })
    (fun b o hb q => sortingHeap_old hb q) (Heap.get?_none_of_le (by rw [sz]; exact Nat.le_succ _)) (Heap.get?_push_size _ rfl) (Heap.get?_push_of_some _ (Heap.get?_push_of_some _ o1)) (by rw [sz]; exact Nat.ne_of_gt (Nat.lt_succ_of_lt lt)) len room K hu turn fin
/-- sorted(l, key = f) -/
theorem sorted_turn {l q : Addr} {vs : List Value} {kz : List PyData} {β : Type} {bs : List β} {R : Value → β → Prop} {k : β → PyData} {Q : Value → Shared → Prop} (hl : s.heap.IsList l vs.toArray) (e : EachIs R vs bs) (ek : kz = bs.map k) (room : vs.length ≤ sizeLine) (K : KeysOk kz) (hu : A.units + 40 < cLine)
    (turn : ∀ (v : Value) (x : β), R v x → x ∈ bs → ∀ (g : Heap) (tk : Nat), (∀ b o, s.heap.get? b = some o → g.get? b = some o) → wpAny (model prog w) A.in1.in1 (call (.ref q) [v])
      (KeyPure (k x) { s with heap := g, toks := tk }) (fun _ _ => False) { s with heap := g, toks := tk })
    (fin : ∀ out c g tk, (∀ b o, s.heap.get? b = some o → g.get? b = some o) → g.get? (s.heap.objs.size + 1) = some (seqObj "list" (List.toArray out) c) → EachIs R out (bs.mergeSort (dataLe false k)) → Q (.ref (s.heap.objs.size + 1)) { s with heap := g, toks := tk }) :
    wpAny (model prog w) A (call (.builtin "sorted") [.ref l] [(Str.ofString "key", .ref q)]) Q E s := by
  subst ek
  have len : (bs.map k).length = vs.length := by rw [List.length_map]; exact e.length.symm
  have up : ∀ {g : Heap}, KeepsBut (s.heap.objs.size + 1) (copyHeap s.heap vs) g → ∀ b o, s.heap.get? b = some o → g.get? b = some o := fun {g} kp b o z => kp b o (Nat.ne_of_lt (Nat.lt_succ_of_lt (Heap.lt_size z))) (copyHeap_old z)
  refine sorted_of_sort hl room (ksk_s1 _ _) (fun _ => ksk_l1 _ _) fun E' => ?_
  rw [ksk_t1]
  refine kr_tree (kz := bs.map k) (s := { s with heap := copyHeap s.heap vs }) (copyHeap_at s.heap vs) len room K (by show A.units + 1 + 1 + 32 < cLine; omega) (fun i v z hv hz g tk kp => ?_) fun g tk out c kp ho ko => ⟨rfl, fin out c g tk (up kp) ho ?_⟩
  · rw [List.getElem?_map] at hz
    cases hb : bs[i]? with
    | none => rw [hb] at hz; cases hz
    | some x =>
      rw [hb] at hz
      cases hz
      have hm : (v, x) ∈ vs.zip bs := List.mem_of_getElem? (i := i) (by rw [List.getElem?_zip_eq_some]; exact ⟨hv, hb⟩)
      exact turn v x (e.zip _ hm) (List.mem_of_getElem? hb) g tk (up kp)
  · obtain ⟨g1, ks, rfl, eks⟩ := ko
    exact sortVals_each (κ := dataKind g1 (bs.map k)) (fun b => keyToks (k b)) e (each_of_map k eks)
end
end Cr
namespace Cr
open PySem PySem.Spec PyProof.Rows L2 LamX
/-! ### the lambda as a value -/
structure LamD where
  q : Str
  params : Arguments
  body : Expr
  scope : Scope
  cl : List (Str × Addr)
  c : Addr
def LamO (f : Addr) (L : LamD) : HO := .ext fun h => ∃ pm ctv, h.get? f = some (PySem.W.kla_obj "<lambda>" L.q L.params L.body L.scope L.cl pm L.c ctv)
/-- it has the one parameter x and turns it about -/
structure LamOk (x : Str) (params : Arguments) (body : Expr) (scope : Scope) : Prop where
  bind : ∀ (q : Str) (cl : List (Str × Addr)) (pm cdv ctv v : Value), bindArgs (PySem.W.kla_fn "<lambda>" q params body scope cl pm cdv ctv) ⟨[v], []⟩ = pure [(x, v)]
  turn : TurnE x body
  kind : scope.kind = .function
  co : scope.isCoroutine = false
  gen : scope.isGenerator = false
  loc : scope.names.lookup x = some .local
  nocell : ∀ y ∈ scope.names, y.2 ≠ .cell
  dbg : (x == ("__debug__" : Str)) = false
theorem lam_turn {prog : Program} {w : World} {A : Around} {s : Shared} {f : Addr} {L : LamD} {x : Str} {v pm ctv : Value} {k : Str} {d : Int} {rest : List PyData} (ho : s.heap.get? f = some (PySem.W.kla_obj "<lambda>" L.q L.params L.body L.scope L.cl pm L.c ctv))
    (hcd : s.heap.CodeRec (.ref L.c) L.q) (lim : s.heap.NoLimit) (ok : LamOk x L.params L.body L.scope) (hroom : A.depth < recursionLimit) (hr : Reads s.heap v (.tuple (.str k :: .int d :: rest)) []) (hz : rest.length ≤ 900) :
    wpAny (model prog w) A (call (.ref f) [v]) (PySem.W.KeyPure (.tuple [.int d, .str k, .tuple rest]) s) (fun _ _ => False) s := by
  have rc : codeAny (model prog w) A (.call (.ref f) ⟨[v], []⟩) (fun r s' => match r with | .ok (.ret u) => PySem.W.KeyPure (.tuple [.int d, .str k, .tuple rest]) s u s' | _ => False) s := by
    refine PySem.W.kla_callFunE hroom ho rfl ok.co ok.gen rfl hcd ?_
    rw [ok.bind]
    refine wpAny_pure (wpAny_newFunctionEnv ok.nocell (fun y hy => by rw [List.mem_singleton.mp hy]; exact ok.loc) (fun h1 hns hsb => ⟨lim.fresh _ hsb, ?_⟩) ok.kind)
    show codeAny _ _ (.expr L.body (PySem.W.envX L.q L.scope s.heap.objs.size f (.ref L.c) L.cl)) _ _
    have kp : ∀ b o, s.heap.get? b = some o → h1.get? b = some o := fun b o e => hsb.extBut b o (Nat.ne_of_lt (Heap.lt_size e)) (Heap.get?_push_of_some _ e)
    cases hr with
    | @tuple t o its n _ _ a1 a2 a3 a4 =>
      have len : its.toList.length = rest.length + 2 := by have := SeqAt.ReadsAll.length _ _ _ a4; simpa using this
      have ht : IsTup h1 t its.toList.toArray := ⟨o, kp _ _ a1, a2, n, by rw [a3, Array.toArray_toList]⟩
      obtain ⟨v0, v1, vr, el, r0, r1, rr⟩ : ∃ v0 v1 vr, its.toList = v0 :: v1 :: vr ∧ Reads s.heap v0 (.str k) [] ∧ Reads s.heap v1 (.int d) [] ∧ ReadsAll s.heap vr rest [] := by
        generalize its.toList = l at a4
        generalize hb : ([] : List Addr) = bs at a4
        cases a4 with
        | @cons v0 vs _ _ as1 bs1 c1 c2 =>
          have z := List.nil_eq_append_iff.mp hb
          obtain ⟨rfl, rfl⟩ := z
          generalize hb2 : ([] : List Addr) = bs at c2
          cases c2 with
          | @cons v1 vs _ _ as2 bs2 c3 c4 =>
            obtain ⟨rfl, rfl⟩ := List.nil_eq_append_iff.mp hb2
            exact ⟨v0, v1, vs, rfl, c1, c3, c4⟩
      refine PySem.W.kla_codeExpr (turn_raw (m := fun y => ([(x, Value.ref t)] : List (Str × Value)).reverse.lookup y) (t := t) (v0 := v0) (v1 := v1) ok.turn ok.kind ok.loc hns (by simp) ht (by rw [el]; rfl) (by rw [el]; rfl) (by omega) ok.dbg ?_ ?_)
      · intro h' hk
        obtain ⟨o', es', ep', ho', r'⟩ := hns
        exact ⟨o', es', ep', hk _ _ ho', r'⟩
      · intro h' tk r p hk hr2 hp
        refine ⟨h', tk, rfl, fun b o e => hk _ _ (kp _ _ e), ?_⟩
        have up : ∀ b o, s.heap.get? b = some o → h'.get? b = some o := fun b o e => hk _ _ (kp _ _ e)
        obtain ⟨op, ep1, ep2, np, ep3⟩ := hp
        obtain ⟨oq, eq1, eq2, nq, eq3⟩ := hr2
        rw [el] at eq3
        refine Reads.tuple ep1 ep2 ep3 (as := []) ?_
        show ReadsAll h' [v1, v0, .ref r] [.int d, .str k, .tuple rest] ([] ++ ([] ++ ([] ++ [])))
        exact .cons (PyProof.Rows.Reads.keeps up r1) (.cons (PyProof.Rows.Reads.keeps up r0) (.cons (.tuple eq1 eq2 eq3 (by simpa using PyProof.Rows.ReadsAll.keeps up rr)) .nil))
  refine wpAny_call (codeAny_mono rc fun r s' hq => ?_)
  cases r with
  | error e => exact hq.elim
  | ok fl =>
    cases fl with
    | ret u => exact hq
    | next => exact False.elim hq
    | brk => exact False.elim hq
    | cont => exact False.elim hq
end Cr
namespace Cr
open PySem PySem.Spec PyProof.Rows L2 LamX
/-- places put about: the second, the first, the rest -/
def turnD : PyData → PyData
  | .tuple (a :: b :: r) => .tuple [b, a, .tuple r]
  | e => e
section
variable {X : Cx} {pins : List (Addr × Obj)} {σ : St} {H : Hp} {s : Shared}
mutual
theorem Dt.rd (I : Inv X pins σ H s) : ∀ {d : PyData} {v : V} {u : Value}, Dt X.K H v d → RelV v u → Reads s.heap u d []
  | .none, _, _, h, r => by cases h; cases r; exact .none
  | .bool b, _, _, h, r => by cases h; cases r; exact .bool b
  | .int i, _, _, h, r => by cases h; obtain ⟨t, rfl⟩ := r; exact .int i t
  | .str x, _, _, h, r => by cases h; obtain ⟨t, rfl⟩ := r; exact .str x t
  | .list _, _, _, h, _ => by cases h
  | .tuple ds, _, _, h, r => by
    cases h with
    | tup hs ha =>
      cases r
      obtain ⟨its, rv, ⟨o, ho, hc, n, hd⟩, _⟩ := I.tuple hs
      exact .tuple ho hc hd (DtAll.rd I ha rv)
  | .dict _, _, _, h, _ => by cases h
theorem DtAll.rd (I : Inv X pins σ H s) : ∀ {ds : List PyData} {vs : List V} {us : List Value}, DtAll X.K H vs ds → Vals vs us → ReadsAll s.heap us ds []
  | [], _, _, h, r => by cases h; cases r; exact .nil
  | d :: ds, _, _, h, r => by
    cases h with
    | cons h1 h2 =>
      cases r with
      | cons r1 r2 => exact ReadsAll.cons (as := []) (bs := []) (Dt.rd I h1 r1) (DtAll.rd I h2 r2)
end
end
/-- sorted(.., key = the lambda): what it asks of the list, what comes -/
def SortT (K : PySem.W.Frag) (P : Addr) (q : Str) (x : V) (H : Hp) (Q : VK) : Prop := TabS H P q ∧ ∃ (a : Addr) (xs : List V) (ds : List PyData), x = .ref a ∧ SqL K H a xs ∧ A2 (fun v d => Dt K H v d) xs ds ∧ xs.length ≤ 1000 ∧ KeysOk (ds.map turnD) ∧
  (∀ d, d ∈ ds → ∃ k i r, d = .tuple (.str k :: .int i :: r) ∧ r.length ≤ 900) ∧
  ∀ p ys H1, ExtN H H1 → TabS H1 P q → H1 p = some (.lst ys) → (∀ o, H p = some o → ∃ ps, o = .tbl ps) → A2 (fun v d => Dt K H1 v d) ys (ds.mergeSort (PySem.W.dataLe false turnD)) → Q (.ref p) H1
def tSortT (K : PySem.W.Frag) (P : Addr) (q : Str) (te : TE) : TE := fun σ H Q => te σ H fun x H1 => SortT K P q x H1 Q
theorem extN_kt {H H' : Hp} (e : ExtN H H') : KT H H' := fun a o h t => e a o h fun ps z => by rw [z] at t; cases t
theorem extN_sqL {K : PySem.W.Frag} {H H' : Hp} {a : Addr} {xs : List V} (e : ExtN H H') (h : SqL K H a xs) : SqL K H' a xs := by
  rcases h with (h | ⟨o, h⟩) | h
  · exact .inl (.inl (e _ _ h fun ps z => by cases z))
  · exact .inl (.inr ⟨o, e _ _ h fun ps z => by cases z⟩)
  · exact .inr h
theorem a2_each {α : Type} {R : V → α → Prop} : ∀ {xs : List V} {its : List Value} {zs : List α}, Vals xs its → A2 R xs zs → PySem.W.EachIs (fun (u : Value) (p : V × α) => RelV p.1 u ∧ R p.1 p.2) its (xs.zip zs)
  | _, _, _, .nil, .nil => .nil
  | _, _, _, .cons r rs, .cons a b => .cons ⟨r, a⟩ (a2_each rs b)
theorem each_a2 {α : Type} {R : V → α → Prop} : ∀ {its : List Value} {ps : List (V × α)}, PySem.W.EachIs (fun (u : Value) (p : V × α) => RelV p.1 u ∧ R p.1 p.2) its ps → Vals (ps.map (·.1)) its ∧ A2 R (ps.map (·.1)) (ps.map (·.2))
  | _, _, .nil => ⟨.nil, .nil⟩
  | _, _, .cons h t => ⟨.cons h.1 (each_a2 t).1, .cons h.2 (each_a2 t).2⟩
section
variable {X : Cx} {k : Nat} {x y : Str} {p pos lpos kpos : Pos} {e : Expr} {te : TE} {c P : Addr} {params : Arguments} {body : Expr} {scope : Scope}
theorem pe_sortT (hr : Room k X.A) (TB : TabB X.base X.mg c P) (hcode : X.env.code = .ref c) (L : LamOk y params body scope) (hg : Gl X "sorted") (hm : X.mg "sorted" = none) (ha : PE X e te) (hdef : defaultsOf params X.env = ([], []) := by rfl) (hfree : ∀ y ∈ scope.names, y.2 ≠ .free := by decide)
    (he : starEach [e] X.env = [(false, eval e X.env)] := by rfl) :
    PE X (.Call (.Name "sorted" p) [e] [⟨some "key", .Lambda params body scope lpos, kpos⟩] pos) (tSortT X.K P (X.env.qual ++ "<lambda>") te) := by
  have he2 : backTo pos (starEach [e] X.env) = (false, eval e X.env) :: backTo pos (starEach [] X.env) := by rw [he]; rfl
  refine ⟨fun pins s σ H Q I h => ?_⟩
  refine wpAny_Call_Name_kw (ld_blt (u := .builtin "sorted") I hg hm (by decide +kernel) ?_ (by decide) (by decide))
  refine PyProof.Rows.callWith_kw ?_ he2 (by rw [he]; rfl) (by rfl) (by rfl)
  rw [he2]
  refine Calls.spliced_cons (thn (ha.run pins s σ H _ I h) fun u s1 ⟨v, H1, I1, r1, hT, a, xs, ds, ev, hs, hd, hz, K1, K2, q⟩ => ?_)
  subst ev
  cases r1
  refine Calls.spliced_nil ?_
  show wpAny _ _ (evalAll [do let v ← eval (.Lambda params body scope lpos) X.env; standAt pos; pure v]) _ _ s1
  refine wpAny_evalAll_cons (wpAny_bind (lam_make2 (T := [(P, X.env.qual ++ "<lambda>")]) I1 TB hcode List.mem_cons_self (fun p hp _ => by rw [List.mem_singleton.mp hp]) (fun p hp => by rw [List.mem_singleton.mp hp]; exact hT) hdef
    (fun y hy e => absurd e (hfree y hy)) fun f c' pm ctv H2 s2 I2 ex T2 hf nf _ hc => ?_))
  have T2' : TabS H2 P (X.env.qual ++ "<lambda>") := T2 _ List.mem_cons_self
  refine wpAny_bind (wpAny_standAt (wpAny_pure ?_))
  refine wpAny_evalAll_nil ?_
  show wpAny _ _ (call (.builtin "sorted") [.ref a] [(Str.ofString "key", .ref f)]) _ _ s2
  have hs2 := extN_sqL ex hs
  obtain ⟨its, rv, ⟨o, n, ho, hoc, hod, hdat⟩, _⟩ := I2.list hs2
  have hl : s2.heap.IsList a its.toArray := ⟨o, ho, hoc, n, hdat⟩
  have il : its.length ≤ 1000 := by rw [← rv.length]; exact hz
  have room : its.length ≤ sizeLine := Nat.le_of_lt (L2.small1000 il)
  have hd2 : A2 (fun v d => Dt X.K H2 v d) xs ds := hd.mono fun _ _ z => z.mono (extN_kt ex)
  obtain ⟨⟨oc, vs, t, o1, o2, o3⟩, _, _⟩ := I2.hok c' _ hc
  have lenz : xs.length = ds.length := hd.len
  have zf : (xs.zip ds).map Prod.fst = xs := by rw [List.map_fst_zip]; omega
  have zs : (xs.zip ds).map Prod.snd = ds := by rw [List.map_snd_zip]; omega
  refine sorted_turn (kz := ds.map turnD) (bs := xs.zip ds) (k := fun p => turnD p.2) (R := fun (u : Value) (p : V × PyData) => RelV p.1 u ∧ Dt X.K H2 p.1 p.2) hl (a2_each rv hd2) (by show _ = (xs.zip ds).map (turnD ∘ Prod.snd); rw [← List.map_map, zs]) room K1 ?_ (fun v p hR hp g tk keep => ?_) fun out cc g tk keep hg ho => ?_
  · have := hr.un; omega
  · obtain ⟨kd, i, r, ed, lr⟩ := K2 _ (List.of_mem_zip hp).2
    have rd := Dt.rd I2 hR.2 hR.1
    rw [ed] at rd
    show wpAny _ _ _ (PySem.W.KeyPure (turnD p.2) _) _ _
    rw [ed]
    exact lam_turn (L := ⟨X.env.qual ++ "<lambda>", params, body, scope, cloFrom X.env.cells scope.names [], c'⟩) (keep _ _ hf) ⟨c', oc, vs, t, rfl, keep _ _ o1, o2, o3⟩ (I2.nolimit.keeps keep) L (by have := hr.dp; show X.A.depth < _; omega) (PyProof.Rows.Reads.keeps keep rd) lr
  · have pm := List.mergeSort_perm (xs.zip ds) (PySem.W.dataLe false fun p : V × PyData => turnD p.2)
    generalize hzs : (xs.zip ds).mergeSort (PySem.W.dataLe false fun p : V × PyData => turnD p.2) = zz at ho pm
    obtain ⟨e1, e2⟩ := each_a2 ho
    have e3 : zz.map (·.2) = ds.mergeSort (PySem.W.dataLe false turnD) := by
      have := PySem.W.sort_maps (r := PySem.W.dataLe false fun p : V × PyData => turnD p.2) (s := PySem.W.dataLe false turnD) Prod.snd (l := xs.zip ds) (fun _ _ _ _ => rfl)
      rw [zs, hzs] at this
      exact this
    rw [e3] at e2
    have lz : (zz.map (·.1)).length ≤ sizeLine := by rw [List.length_map, pm.length_eq, List.length_zip, ← lenz, Nat.min_self]; exact Nat.le_of_lt (L2.small1000 hz)
    have le1 : s2.heap.objs.size ≤ s2.heap.objs.size + 1 := Nat.le_succ _
    have np : H2 (s2.heap.objs.size + 1) = none := I2.hok.fresh le1
    have I3 := I2.laid (t' := tk) (a := s2.heap.objs.size + 1) (o := .lst (zz.map (·.1))) keep le1 ⟨lz, _, cc, e1, hg⟩
    refine ⟨.ref _, _, I3, rfl, q _ (zz.map (·.1)) _ (fun b o e n => by rw [upd_ne (ne_of_none (ex b o e n) np)]; exact ex b o e n) (T2'.ext fun b o e => by rw [upd_ne (ne_of_none e np)]; exact e) upd_same (fun o e => ?_) (e2.mono fun _ _ z => z.mono (kt_new np))⟩
    by_cases z : ∃ ps, o = .tbl ps
    · exact z
    · have := ex _ _ e fun ps ez => z ⟨ps, ez⟩
      rw [np] at this
      cases this
end
end Cr

namespace Cr
open PySem PySem.Spec PySem.W PySem.Calls PyProof.Rows L2 L2.DX
/-! ### list.sort of what was just laid; sorted(d.items()) -/
section
variable {X : Cx} {pins : List (Addr × Obj)} {σ : St} {H : Hp} {s : Shared}
theorem sort_raw {h1 : Heap} {tk : Nat} {its : List Value} {xs : List V} {ds : List PyData} {A : Around} {E : Value → Shared → Prop} {R : Shared → Prop} (I1 : Inv X pins σ H { s with heap := h1, toks := tk }) (rv : Vals xs its) (hd : DtAll X.K H xs ds) (hal : AllAlike ds) (hk : Sortable ds) (hdep : ∀ d, d ∈ ds → d.depth ≤ 32) (hz : xs.length ≤ 1000) (hu : A.units + 40 < cLine)
    (q : ∀ ys s', H h1.objs.size = none → ys.Perm xs → A2 (fun v d => Dt X.K H v d) ys (sortD ds) → Inv X pins σ (upd H h1.objs.size (.lst ys)) s' → R s') :
    wpAny (model X.prog X.w) A (call (.builtin "list.sort") [.ref h1.objs.size]) (fun _ s' => R s') E { s with heap := h1.push { cls := .type "list", data := .seq its.toArray }, toks := tk } := by
  have il : its.length ≤ 1000 := by rw [← rv.length]; exact hz
  have room : its.length ≤ sizeLine := Nat.le_of_lt (L2.small1000 il)
  generalize hh2 : h1.push { cls := .type "list", data := .seq its.toArray } = h2
  generalize hp : h1.objs.size = p at q
  have at2 : h2.get? p = some (seqObj "list" its.toArray 0) := by rw [← hh2, ← hp]; exact Heap.get?_push_size _ rfl
  have old2 : ∀ b o, h1.get? b = some o → h2.get? b = some o := fun b o e => by rw [← hh2]; exact Heap.get?_push_of_some _ e
  have nep : ∀ b o, h1.get? b = some o → b ≠ p := fun b o e => by rw [← hp]; exact Nat.ne_of_lt (Heap.lt_size e)
  have lens : its.length = (xs.zip ds).length := (pairs_each rv hd).length
  obtain ⟨zf, zs, zd⟩ := zip_dt hd
  have er : EachIs (fun v (b : V × PyData) => ∃ as, Reads (sortingHeap h2 p its) v b.2 as) its (xs.zip ds) := (pairs_each rv hd).mono fun v b ⟨r1, d1⟩ => by
    obtain ⟨as, rd⟩ := Dp.reads I1 _ _ _ d1.dp r1
    exact ⟨as, PyProof.Rows.Reads.keeps (fun b o e => sortingHeap_old (nep b o e) (old2 b o e)) rd⟩
  have al2 : AllAlike ((xs.zip ds).map Prod.snd) := by rw [zs]; exact hal
  have so2 : Sortable ((xs.zip ds).map Prod.snd) := by rw [zs]; exact hk
  refine wpAny_call_entry slot_list_sort ⟨_, at2, rfl⟩ entry_list_sort (list_sort_vals (κ := dataKind (sortingHeap h2 p its) ((xs.zip ds).map Prod.snd)) at2
    (SortsAt.data (s := { s with heap := sortingHeap h2 p its, toks := tk }) (each_map (R := fun v d => ∃ as, Reads (sortingHeap h2 p its) v d as) Prod.snd er) al2 so2 (bound_map fun b hb => ?_)) room ⟨.none, rfl, ?_⟩) (args_list_sort _)
  · have dep := hdep _ (List.of_mem_zip hb).2
    show A.units + 1 + b.snd.depth < cLine
    omega
  · have out := sortVals_data (h' := sortingHeap h2 p its) (R := fun v (b : V × PyData) => RelV b.1 v) (enc := Prod.snd) false ((pairs_each rv hd).mono fun _ _ z => z.1) er al2
    clear room
    generalize sortVals (dataKind (sortingHeap h2 p its) ((xs.zip ds).map Prod.snd)) false its its = got at out ⊢
    obtain ⟨c, at3⟩ := sortedHeap_at (out := got.toArray) at2
    have sz2 : h2.objs.size = p + 1 := by rw [← hh2, ← hp, Heap.size_push]
    have keep3 : ∀ b o, h1.get? b = some o → (sortedHeap h2 p its got.toArray).get? b = some o := fun b o e => by
      have lt : b < h2.objs.size := Nat.lt_of_lt_of_le (Heap.lt_size e) (by rw [sz2, hp]; exact Nat.le_succ _)
      rw [sortedHeap_old (nep b o e) lt]
      exact old2 b o e
    have pm := (List.mergeSort_perm (xs.zip ds) (dataLe false Prod.snd))
    have lys : (((xs.zip ds).mergeSort (dataLe false Prod.snd)).map Prod.fst).length ≤ sizeLine := by
      rw [List.length_map, pm.length_eq, ← lens]
      exact Nat.le_of_lt (L2.small1000 il)
    have I3 := I1.laid (t' := tk) (a := p) (o := .lst (((xs.zip ds).mergeSort (dataLe false Prod.snd)).map Prod.fst)) keep3 (Nat.le_of_eq hp) ⟨lys, got, c, vals_each out, at3⟩
    refine q _ _ (I1.hok.fresh (Nat.le_of_eq hp)) ?_ ?_ I3
    · have e := pm.map Prod.fst
      rw [zf] at e
      exact e
    · have e : ((xs.zip ds).mergeSort (dataLe false Prod.snd)).map Prod.snd = sortD ds := by
        have e1 := sort_maps (r := dataLe false Prod.snd) (s := dataLe false (id : PyData → PyData)) Prod.snd (l := xs.zip ds) (fun _ _ _ _ => rfl)
        rw [zs] at e1
        exact e1
      rw [← e]
      exact a2_pairs fun z hz => zd z (pm.mem_iff.mp hz)
end
/-- texts and whole numbers, as a dict, as pairs -/
abbrev prD (p : Str × Int) : PyData := .tuple [.str p.1, .int p.2]
def dOf (ps : List (Str × Int)) : List (Key × V) := ps.map fun p => (.inr p.1, .int p.2)
theorem prs_alike (ps : List (Str × Int)) : AllAlike (ps.map prD) := AllAlike.of fun a b => by simp [alike, alikeAll]
theorem prs_sortable (ps : List (Str × Int)) : Sortable (ps.map prD) := Sortable.tuples fun b => ⟨_, _, rfl⟩
theorem prs_depth (ps : List (Str × Int)) : ∀ d, d ∈ ps.map prD → d.depth ≤ 32 := fun d hd => by
  obtain ⟨p, _, rfl⟩ := List.mem_map.mp hd
  simp [PyData.depth, PyData.depthAll]
section
variable {X : Cx}
theorem key_str {P : Program} {w : World} {x : Str} {u : Value} (h : (mixKind P w).is (.inr x) u = true) : ∃ t, u = .str x t := by
  rw [mixKind_is] at h
  rcases keyIs_shape h with ⟨i, t, e, _⟩ | ⟨y, t, e, rfl⟩
  · cases e
  · cases e; exact ⟨t, rfl⟩
theorem das_at {K : PySem.W.Frag} {H : Hp} : ∀ {vs : List V} {ds : List PyData}, vs.length = ds.length → (∀ (j : Nat) (x : V) (d : PyData), vs[j]? = some x → ds[j]? = some d → Dt K H x d) → DtAll K H vs ds
  | [], [], _, _ => .nil
  | [], _ :: _, h, _ => nomatch h
  | _ :: _, [], h, _ => nomatch h
  | x :: xs, d :: ds, h, r => .cons (r 0 x d rfl rfl) (das_at (Nat.succ.inj h) fun j a b h1 h2 => r (j + 1) a b h1 h2)
def rItemsK : V → List V → Hp → VK → Prop := fun x xs H Q => ∃ (a : Addr) (kvs : List (Key × V)), x = .ref a ∧ xs = [] ∧ H a = some (.dK kvs) ∧ ∀ p, H p = none → Q (.ref p) (upd H p (itemsO p a))
theorem mt_itemsK : MtR X "dict.items" rItemsK := by
  intro pins s σ H x xs v us Q I rx rxs h
  obtain ⟨a, kvs, rfl, rfl, ha, q⟩ := h
  cases rx
  cases rxs
  obtain ⟨z, low, ks, rel, dd⟩ := dk_of I.hok ha
  obtain ⟨es, ep, ⟨o, ho, hx, hdat⟩, _⟩ := Heap.DictOf.raw dd
  refine DT.callItems (es := es) (ep := ep) low ⟨o, ho, hx, hdat⟩ ?_
  exact ⟨.ref s.heap.objs.size, upd H s.heap.objs.size (itemsO s.heap.objs.size a), I.laid (t' := s.toks) (fun b u e => Heap.get?_push_of_some _ e) (Nat.le_refl _) (itemsO_ok (Heap.get?_push_size _ rfl)), rfl, q _ (I.hok.fresh (Nat.le_refl _))⟩
def rSortItK (K : PySem.W.Frag) : List V → Hp → VK → Prop := fun vs H Q => ∃ (p a : Addr) (ps : List (Str × Int)), vs = [.ref p] ∧ H p = some (itemsO p a) ∧ H a = some (.dK (dOf ps)) ∧ ps.length ≤ 1000 ∧
  ∀ (H' : Hp) (l : Addr) (ys : List V), Same H H' → H l = none → H' l = some (.lst ys) → DtAll K H' ys (sortD (ps.map prD)) → Q (.ref l) H'
theorem cr_sortItK (hc : X.calm = true) (hu : X.A.units + 64 < cLine) : CallR X (.builtin "sorted") (rSortItK X.K) := by
  intro pins s σ H xs us Q I r h
  obtain ⟨p, a, ps, rfl, hp, ha, hz, q⟩ := h
  rw [Vals.ref1 r]
  have view : s.heap.IsItemsView p a := (show ObjOk X.prog X.w H s.heap p (itemsO p a) from I.hok p _ hp).1
  obtain ⟨z, low, ks, rel, dd⟩ := dk_of I.hok ha
  obtain ⟨es, ep, ⟨o, ho, hx, hdat⟩, hsz, hes⟩ := Heap.DictOf.raw dd
  have lk : ks.length = ps.length := by rw [← KV.length rel]; unfold dOf; rw [List.length_map]
  have l1000 : es.size ≤ 1000 := by omega
  refine DT.sortedI (es := es) (ep := ep) (I.ok.hd hc) view ⟨o, ho, hx, hdat⟩ (Nat.le_of_lt (L2.small1000 l1000)) fun h' tk as hk hlt hl hG => ?_
  have I0 : Inv X pins σ H { s with heap := h', toks := tk } := I.kept hk
  have nd : as.Nodup := List.Pairwise.imp (fun h => Nat.ne_of_lt h) hG.rise
  have pr : ∀ (j : Nat) (b : Addr), as[j]? = some b → ∃ e : Str × Int, ps[j]? = some e ∧ ∃ t u, h'.get? b = some { cls := .type "tuple", data := .seq #[Value.str e.1 t, Value.int e.2 u] } := by
    intro j b hj
    obtain ⟨en, he, hg⟩ := hG.pairs j b hj
    obtain ⟨jl, ej⟩ := Array.getElem?_eq_some_iff.mp he
    have jk : j < ks.length := by omega
    obtain ⟨x, h1, h2⟩ := KV.at' rel (i := j) (k := ks[j].1) (v := ks[j].2) (List.getElem?_eq_getElem jk)
    obtain ⟨k1, k2⟩ := hes j jl ks[j].1 ks[j].2 (List.getElem?_eq_getElem jk)
    have jp : j < ps.length := by omega
    unfold dOf at h1
    rw [List.getElem?_map, List.getElem?_eq_getElem jp] at h1
    have h1' := Option.some.inj h1
    refine ⟨ps[j], List.getElem?_eq_getElem jp, ?_⟩
    have ek : ks[j].1 = .inr ps[j].1 := (congrArg Prod.fst h1').symm
    have ev : x = .int ps[j].2 := (congrArg Prod.snd h1').symm
    rw [ek] at k1
    rw [ev] at h2
    obtain ⟨u, eu⟩ := h2
    have kt : ∃ t, es[j].key = .str ps[j].1 t := key_str k1
    obtain ⟨t, et⟩ := kt
    refine ⟨t, u, ?_⟩
    rw [hg, ← ej, et, k2, eu]
  obtain ⟨H2, I2, ext, tk2⟩ := takeT (P := fun b vs => ∃ e : Str × Int, vs = [.str e.1, .int e.2] ∧ ∃ j, as[j]? = some b ∧ ps[j]? = some e) I as H I0 nd fun b hb => by
    obtain ⟨j, hj⟩ := List.mem_iff_getElem?.mp hb
    obtain ⟨e, he, t, u, hg⟩ := pr j b hj
    refine ⟨Nat.le_of_lt (hG.above b hb), I.hok.fresh (Nat.le_of_lt (hG.above b hb)), [.str e.1, .int e.2], ⟨e, rfl, j, hj, he⟩, fun H2 => ⟨by show 2 ≤ sizeLine; decide, [Value.str e.1 t, Value.int e.2 u], .cons ⟨t, rfl⟩ (.cons ⟨u, rfl⟩ .nil), ⟨_, hg, rfl, 0, rfl⟩⟩⟩
  have das : DtAll X.K H2 (as.map V.ref) (ps.map prD) := by
    have la : as.length = ps.length := by omega
    refine das_at (by rw [List.length_map, List.length_map]; exact la) fun j x d e1 e2 => ?_
    rw [List.getElem?_map] at e1 e2
    cases q1 : as[j]? with
    | none => rw [q1] at e1; cases e1
    | some b =>
      cases q2 : ps[j]? with
      | none => rw [q2] at e2; cases e2
      | some e =>
        rw [q1] at e1; rw [q2] at e2
        cases e1; cases e2
        obtain ⟨vs, ⟨e', rfl, j', w1, w2⟩, ht⟩ := tk2 b (List.mem_of_getElem? q1)
        have ej : j' = j := by
          obtain ⟨l1, f1⟩ := List.getElem?_eq_some_iff.mp w1
          obtain ⟨l2, f2⟩ := List.getElem?_eq_some_iff.mp q1
          exact (List.getElem_inj nd).mp (f1.trans f2.symm)
        subst ej
        rw [q2] at w2; cases w2
        exact .tup (.of ht) (.cons (.str _) (.cons (.int _) .nil))
  have rvs : Vals (as.map V.ref) (as.map Value.ref) := by
    clear hl hG nd pr tk2 das
    induction as with
    | nil => exact .nil
    | cons b bs ih => exact .cons rfl ih
  refine sort_raw I2 rvs das (prs_alike ps) (prs_sortable ps) (prs_depth ps) (by rw [List.length_map, hl]; exact l1000) (by show X.A.units + 1 + 40 < cLine; omega) fun ys s' nl pm h2 I3 => ?_
  refine ⟨.ref h'.objs.size, _, I3, rfl, q _ _ ys (fun b o e => by rw [upd_ne (ne_of_none (ext b o e) nl)]; exact ext b o e) (I0.hok.fresh (Nat.le_refl _)) upd_same ?_⟩
  exact DtAll.mono (kt_new nl) (by have := a2_das (f := fun d => d) h2; rwa [List.map_id'] at this)
end
end Cr
namespace Cr
open PySem PySem.Spec PyProof.Rows L2 L2.DX LamX
/-! ### steps over such dicts -/
def lookP (ps : List (Str × Int)) (t : Str) : Option Int := (ps.find? fun p => decide (p.1 = t)).map (·.2)
def setP (ps : List (Str × Int)) (t : Str) (c : Int) : List (Str × Int) := if (ps.any fun p => decide (p.1 = t)) = true then ps.map (fun p => if p.1 = t then (p.1, c) else p) else ps ++ [(t, c)]
def dropP (ps : List (Str × Int)) (t : Str) : List (Str × Int) := ps.filter fun p => decide (p.1 ≠ t)
theorem inr_iff {a b : Str} : ((.inr a : Key) = .inr b) ↔ a = b := ⟨Sum.inr.inj, fun h => by rw [h]⟩
theorem valV_dOf (ps : List (Str × Int)) (t : Str) : valV (dOf ps) (.inr t) = (lookP ps t).map V.int := by
  induction ps with
  | nil => rfl
  | cons p ps ih =>
    by_cases h : p.1 = t
    · rw [show valV (dOf (p :: ps)) (.inr t) = some (V.int p.2) from valV_pos (p := ((.inr p.1 : Key), V.int p.2)) (by rw [h])]
      unfold lookP; rw [List.find?_cons_of_pos (by simp [h])]; rfl
    · rw [show valV (dOf (p :: ps)) (.inr t) = valV (dOf ps) (.inr t) from valV_neg (p := ((.inr p.1 : Key), V.int p.2)) (fun z => h (inr_iff.mp z)), ih]
      unfold lookP; rw [List.find?_cons_of_neg (by simp [h])]
theorem putK_dOf (ps : List (Str × Int)) (t : Str) (c : Int) : putK (dOf ps) (.inr t) (.int c) = dOf (setP ps t c) := by
  unfold putK setP
  have e : ((dOf ps).any fun kv => decide (kv.1 = (.inr t : Key))) = ps.any fun p => decide (p.1 = t) := by
    unfold dOf; rw [List.any_map]; congr 1; funext p; exact decide_eq_decide.mpr inr_iff
  rw [e]
  split
  · unfold dOf; rw [List.map_map, List.map_map]
    refine List.map_congr_left fun p _ => ?_
    show (if (.inr p.1 : Key) = .inr t then _ else _) = _
    by_cases h : p.1 = t
    · rw [if_pos (inr_iff.mpr h)]; show _ = ((.inr (if p.1 = t then (p.1, c) else p).1 : Key), V.int (if p.1 = t then (p.1, c) else p).2); rw [if_pos h]
    · rw [if_neg (fun z => h (inr_iff.mp z))]; show _ = ((.inr (if p.1 = t then (p.1, c) else p).1 : Key), V.int (if p.1 = t then (p.1, c) else p).2); rw [if_neg h]
  · unfold dOf; rw [List.map_append]; rfl
theorem dropK_dOf (ps : List (Str × Int)) (t : Str) : dropK (dOf ps) (.inr t) = dOf (dropP ps t) := by
  unfold dropK dropP dOf
  rw [List.filter_map]
  congr 1
  refine List.filter_congr fun p _ => ?_
  exact decide_eq_decide.mpr (not_congr inr_iff)
theorem setP_len (ps : List (Str × Int)) (t : Str) (c : Int) : (setP ps t c).length ≤ ps.length + 1 := by
  unfold setP; split
  · rw [List.length_map]; omega
  · rw [List.length_append]; exact Nat.le_refl _
theorem dOf_len (ps : List (Str × Int)) : (dOf ps).length = ps.length := List.length_map _
theorem setP_new {ps : List (Str × Int)} {t : Str} {c : Int} (h : t ∉ ps.map Prod.fst) : setP ps t c = ps ++ [(t, c)] := by
  unfold setP
  rw [if_neg]
  intro z
  obtain ⟨p, hp, e⟩ := List.any_eq_true.mp z
  exact h (List.mem_map.mpr ⟨p, hp, of_decide_eq_true e⟩)
theorem room5 {n : Nat} (h : n ≤ 100000) : n < sizeLine := by rw [sizeLine_eq]; omega
section
variable {K : PySem.W.Frag} {σ : St} {H : Hp} {Q : VK} {D : Ends}
def DcR (J : It) (g : TG) (tt : TT) (tk tv : TE) (vs : List Nat) (σ : St) (H1 : Hp) (Q : VK) : Prop := ∀ D, H1 D = none → ∃ W : Nat → Nat → Hp → Prop, (∃ m, W 0 m (upd H1 D (.dK []))) ∧ ∀ i m H, W i m H →
  (J.stop i H ∧ Q (.ref D) H) ∨ (J.go i H ∧ ∃ Nx : Hp → Prop, (∀ H', Nx H' → ∃ m', m' < m ∧ W (i + 1) m' H') ∧ ∀ x H', J.yld i H x H' → g x (wipe σ vs) H' fun σ2 H2 => wipe σ2 vs = wipe σ vs ∧ tt σ2 H2 fun b H3 =>
    if b = true then tk σ2 H3 fun y H4 => tv σ2 H4 fun z H5 => ∃ kvs k, y = kV k ∧ H5 D = some (.dK kvs) ∧ kvs.length < sizeLine ∧ Nx (upd H5 D (.dK (putK kvs k z))) else Nx H3)
theorem s_dc {wi : TI} {g : TG} {tt : TT} {tk tv : TE} {vs : List Nat} (h : wi σ H fun J H1 => DcR J g tt tk tv vs σ H1 Q) : tDc wi g tt tk tv vs σ H Q := h
/-- {k: v for k, v in pairs} -/
theorem c_dcT {a : Addr} {xs : List V} {ps : List (Str × Int)} {g : TG} {tk tv : TE} {vs : List Nat} (hs : SqT K H a xs) (hx : DtAll K H xs (ps.map prD)) (nd : (ps.map Prod.fst).Nodup) (hz : ps.length ≤ 1000)
    (turn : ∀ x p A (N : V → V → Hp → Prop), p ∈ ps → Dt K A x (prD p) → Same H A → N (.str p.1) (.int p.2) A → g x (wipe σ vs) A fun σ2 B => wipe σ2 vs = wipe σ vs ∧ tk σ2 B fun y C => tv σ2 C fun z D => N y z D)
    (fin : ∀ p A, Same H A → H p = none → A p = some (.dK (dOf ps)) → Q (.ref p) A) : DcR (Itt K a) g tYes tk tv vs σ H Q := by
  intro D hD
  have lx : xs.length = ps.length := by rw [hx.len, List.length_map]
  refine dc_tup (xs := xs) (fun i A => Same H A ∧ A D = some (.dK (dOf (ps.take i)))) ⟨same_new hD, upd_same⟩ (fun i A _ p => sqT_kt (kt_same p.1) hs) (fun i x A ex ⟨sm, hA⟩ => ?_) (fun A ⟨sm, hA⟩ => fin D A sm hD (by rw [lx, List.take_length] at hA; exact hA))
  obtain ⟨d, ed, hxd⟩ := (hx.mono (kt_same sm)).item ex
  rw [List.getElem?_map] at ed
  cases ep : ps[i]? with
  | none => rw [ep] at ed; cases ed
  | some p =>
    rw [ep] at ed
    cases ed
    refine turn x p A _ (List.mem_of_getElem? ep) hxd sm ?_
    have hn : p.1 ∉ (ps.take i).map Prod.fst := by
      intro z
      rw [List.map_take] at z
      obtain ⟨j, hj, e⟩ := List.mem_take_iff_getElem.mp z
      have hi := (List.getElem?_eq_some_iff.mp ep)
      obtain ⟨hi, e2⟩ := hi
      have : (ps.map Prod.fst)[i]'(by rw [List.length_map]; exact hi) = p.1 := by rw [List.getElem_map, e2]
      have hji := (List.getElem_inj nd).mp (e.trans this.symm)
      omega
    refine ⟨dOf (ps.take i), .inr p.1, rfl, hA, room5 (by rw [dOf_len, List.length_take]; omega), same_mut sm hD, ?_⟩
    rw [upd_same, putK_dOf, setP_new hn, List.take_add_one, ep]
    rfl
/-- [e for k, v in d.items()], d locked -/
theorem c_items {d : Addr} {o : Obj} {ps : List (Str × Int)} {g : TG} {te : TE} {vs : List Nat} (f : Str × Int → V) (hd : H d = some (.frz o (.dK (dOf ps)))) (hz : ps.length ≤ 1000)
    (turn : ∀ x p A (N : V → Hp → Prop), p ∈ ps → Dt K A x (prD p) → Same H A → (∀ B, Same A B → N (f p) B) → g x (wipe σ vs) A fun σ2 B => wipe σ2 vs = wipe σ vs ∧ te σ2 B N)
    (fin : ∀ p A, Same H A → H p = none → A p = some (.lst (ps.map f)) → Q (.ref p) A) : LcR (Iti d o (dOf ps)) g tYes te vs σ H Q := by
  intro D hD
  refine ⟨fun i m A => m = ps.length - i ∧ i ≤ ps.length ∧ Same H A ∧ A D = some (.lst ((ps.take i).map f)), ⟨_, rfl, Nat.zero_le _, same_new hD, upd_same⟩, ?_⟩
  rintro i m A ⟨rfl, hi, sm, hA⟩
  have hdA := sm _ _ hd
  by_cases hlt : i < ps.length
  · refine .inr ⟨⟨hdA, by rw [dOf_len]; exact hlt⟩, fun A' => Same H A' ∧ A' D = some (.lst ((ps.take (i + 1)).map f)), fun A' ⟨s1, h1⟩ => ⟨ps.length - (i + 1), by omega, rfl, hlt, s1, h1⟩, fun x A' y => ?_⟩
    obtain ⟨T, k, v, ekv, rfl, nT, rfl⟩ := y
    have ep : ps[i]? = some ps[i] := List.getElem?_eq_getElem hlt
    unfold dOf at ekv
    rw [List.getElem?_map, ep] at ekv
    cases ekv
    have nDT : D ≠ T := fun z => by rw [← z, hA] at nT; cases nT
    have hx : Dt K (upd A T (.tup [.str ps[i].1, .int ps[i].2])) (.ref T) (prD ps[i]) := dt_new (.cons (.str _) (.cons (.int _) .nil)) nT
    refine turn (.ref T) ps[i] _ _ (List.getElem_mem hlt) hx (sm.trans (same_new nT)) fun B sB => ?_
    refine ⟨(ps.take i).map f, sB _ _ (by rw [upd_ne nDT]; exact hA), room5 (by rw [List.length_map, List.length_take]; omega), same_mut ((sm.trans (same_new nT)).trans sB) hD, ?_⟩
    rw [upd_same, List.take_add_one, ep, List.map_append]
    rfl
  · have e : i = ps.length := by omega
    subst e
    refine .inl ⟨⟨hdA, by rw [dOf_len]; exact Nat.le_refl _⟩, ?_⟩
    rw [List.take_length] at hA
    exact fin D A sm hD hA
def LockQ (x : V) (t : TE) (σ : St) (H : Hp) (Q : VK) : Prop := ∃ d u, x = V.ref d ∧ H d = some u ∧ Mut (some u) ∧ ∀ od, t σ (upd H d (.frz od u)) fun v H' => H' d = some (.frz od u) ∧ Q v (upd H' d u)
theorem s_lockE {t : TE} (d : Addr) (kvs : List (Key × V)) (hd : H d = some (.dK kvs)) (h : ∀ od, t σ (upd H d (.frz od (.dK kvs))) fun v H' => H' d = some (.frz od (.dK kvs)) ∧ Q v (upd H' d (.dK kvs))) : tLockE t σ H Q := ⟨d, _, hd, True.intro, h⟩
theorem same_lock {H A : Hp} {d : Addr} {od : Obj} {kvs : List (Key × V)} (hd : H d = some (.dK kvs)) (s : Same (upd H d (.frz od (.dK kvs))) A) : Same H (upd A d (.dK kvs)) := fun b o e => by
  by_cases z : b = d
  · rw [z, hd] at e; rw [z, upd_same]; exact e
  · rw [upd_ne z]; exact s _ _ (by rw [upd_ne z]; exact e)
def rDictD : List V → Hp → VK → Prop := fun xs H Q => ∃ (a : Addr) (kvs : List (Key × V)), xs = [.ref a] ∧ Rd H a (.dK kvs) ∧ ∀ p, H p = none → Q (.ref p) (upd H p (.dK kvs))
theorem call_dictU {X : Cx} : CallR X (.type "dict") rDictD := call_dictD
theorem s_dictD {d : Addr} {kvs : List (Key × V)} (e : H d = some (.dK kvs)) (h : ∀ p, H p = none → Q (.ref p) (upd H p (.dK kvs))) : rDictD [.ref d] H Q := ⟨d, kvs, rfl, .inl e, h⟩
def rLenD : List V → Hp → VK → Prop := fun xs H Q => ∃ (a : Addr) (kvs : List (Key × V)), xs = [V.ref a] ∧ H a = some (.dK kvs) ∧ Q (.int kvs.length) H
theorem call_lenDU {X : Cx} : CallR X (.builtin "len") rLenD := call_lenD
theorem s_lenD {d : Addr} {kvs : List (Key × V)} (e : H d = some (.dK kvs)) (h : Q (.int kvs.length) H) : rLenD [.ref d] H Q := ⟨d, kvs, rfl, e, h⟩
theorem s_sum {a : Addr} {ns : List Int} (hs : SqL K H a (ns.map V.int)) (h : Q (.int ns.sum) H) : rSum K [.ref a] H Q := ⟨a, ns, rfl, hs, h⟩
theorem s_anyB {a : Addr} {bs : List Bool} (hs : SqL K H a (bs.map V.bl)) (h : Q (.bl (bs.any id)) H) : rAny K [.ref a] H Q := ⟨a, bs, rfl, hs, h⟩
def PopQ (a : Addr) (y : V) (H2 : Hp) (Q : VK) : Prop := ∃ kvs k v, H2 a = some (.dK kvs) ∧ y = kV k ∧ valV kvs k = some v ∧ Q v (upd H2 a (.dK (dropK kvs k)))
theorem s_dpop1 {td ty : TE} (h : td σ H fun x H1 => GetA x H1 fun a => ty σ H1 fun y H2 => PopQ a y H2 Q) : tDPop1 td ty σ H Q := h
theorem s_popS {d : Addr} {ps : List (Str × Int)} {t : Str} {c : Int} (e : H d = some (.dK (dOf ps))) (l : lookP ps t = some c) (h : Q (.int c) (upd H d (.dK (dOf (dropP ps t))))) : PopQ d (.str t) H Q :=
  ⟨dOf ps, .inr t, .int c, e, rfl, by rw [valV_dOf, l]; rfl, by rw [dropK_dOf]; exact h⟩
def AugQ (K : PySem.W.Frag) (x : V) (f : Str) (tv : TE) (rd : V → V → Hp → VK → Prop) (σ : St) (H1 : Hp) (N : Hp → Prop) : Prop := ∃ a C dx fs v, x = .ref a ∧ H1 a = some (.ins C dx fs) ∧ Cls K C ∧ NoAttr K C f ∧ fs.lookup f = some v ∧
  tv σ H1 fun y H2 => rd v y H2 fun z H3 => ∃ dx' fs', H3 a = some (.ins C dx' fs') ∧ fs'.length < 1000 ∧ N (upd H3 a (.ins C dx' (putF f z fs')))
theorem s_fldaug {ta tv : TE} {rd : V → V → Hp → VK → Prop} {f : Str} (h : ta σ H fun x H1 => AugQ K x f tv rd σ H1 (D.nx σ)) : sFldAug K ta tv rd f D σ H := h
theorem s_ext2 {l b : Addr} {xs zs : List V} (h1 : H l = some (.lst xs)) (h2 : H b = some (.lst zs)) (hz : xs.length + zs.length ≤ sizeLine) (h : Q (.ref l) (upd H l (.lst (xs ++ zs)))) : rExt2 (.ref l) (.ref b) H Q := ⟨l, b, xs, zs, rfl, rfl, h1, h2, hz, h⟩
def FldW (K : PySem.W.Frag) (f : Str) (y x : V) (H2 : Hp) (N : Hp → Prop) : Prop := ∃ p C dx fs, x = V.ref p ∧ H2 p = some (.ins C dx fs) ∧ Cls K C ∧ NoAttr K C f ∧ fs.length < 1000 ∧ N (upd H2 p (.ins C dx (putF f y fs)))
theorem s_fldW {ta tv : TE} {f : Str} (h : tv σ H fun y H1 => ta σ H1 fun x H2 => FldW K f y x H2 (D.nx σ)) : sFld K ta tv f D σ H := h
end
end Cr

namespace Cr
open PySem PySem.Spec PyProof.Rows L2 L2.DX LamX
/-! ### the mirror of a course and its days -/
structure DayR where
  at_ : Int
  rows : List E3
  growth : Rat
  shares : List (Str × Rat)
  homes : List Str
  idle : List E3
  told : List (Str × Int)
  rate : Int
  holding : List (Str × Int)
  lie : List (Str × Int)
structure CourseR where
  told : List (Str × Int)
  holding : List (Str × Int)
  lie : List (Str × Int)
  rate : Int
abbrev shD (p : Str × Rat) : PyData := .tuple [.str p.1, fr p.2]
/-- where they stand -/
structure CDA where
  a : Addr
  dx : Addr
  to : Addr
  ho : Addr
  li : Addr
  e : Addr
  ex : Addr
  r : Addr
  sh : Addr
  hm : Addr
  id : Addr
  td : Addr
  hl : Addr
  le : Addr
def CDA.all (p : CDA) : List Addr := [p.a, p.to, p.ho, p.li, p.e, p.r, p.sh, p.hm, p.id, p.td, p.hl, p.le]
def LstOf (K : PySem.W.Frag) (H : Hp) (b : Addr) (ds : List PyData) : Prop := ∃ vs, H b = some (.lst vs) ∧ DtAll K H vs ds
theorem LstOf.up {K : PySem.W.Frag} {H H' : Hp} {b : Addr} {ds : List PyData} (h : LstOf K H b ds) (k : KT H H') (e : ∀ o, H b = some o → H' b = some o) : LstOf K H' b ds := let ⟨vs, h1, h2⟩ := h; ⟨vs, e _ h1, h2.mono k⟩
abbrev crsF (to ho li : Addr) (rate : Int) : List (Str × V) := [("told", .ref to), ("holding", .ref ho), ("lie", .ref li), ("rate", .int rate)]
abbrev dayF (at_ : Int) (r : Addr) (g : V) (sh hm id td : Addr) (rate : Int) (hl le : Addr) : List (Str × V) := [("at", .int at_), ("rows", .ref r), ("growth", g), ("shares", .ref sh), ("homes", .ref hm), ("idle_rows", .ref id), ("told", .ref td), ("rate", .int rate), ("holding", .ref hl), ("lie", .ref le)]
structure CD (K : PySem.W.Frag) (Cc Cd : Addr) (H : Hp) (p : CDA) (c : CourseR) (d : DayR) : Prop where
  hc : H p.a = some (.ins Cc p.dx (crsF p.to p.ho p.li c.rate))
  hto : H p.to = some (.dK (dOf c.told))
  hho : H p.ho = some (.dK (dOf c.holding))
  hli : LstOf K H p.li (c.lie.map prD)
  he : ∃ g, H p.e = some (.ins Cd p.ex (dayF d.at_ p.r g p.sh p.hm p.id p.td d.rate p.hl p.le)) ∧ Dt K H g (fr d.growth)
  hr : LstOf K H p.r (d.rows.map dE)
  hsh : LstOf K H p.sh (d.shares.map shD)
  hhm : H p.hm = some (.lst (d.homes.map V.str))
  hid : LstOf K H p.id (d.idle.map dE)
  htd : H p.td = some (.dK (dOf d.told))
  hhl : LstOf K H p.hl (d.holding.map prD)
  hle : LstOf K H p.le (d.lie.map prD)
  nd : p.all.Nodup
/-- all but the addresses L stays -/
def Keep (L : List Addr) (H H' : Hp) : Prop := ∀ b o, b ∉ L → H b = some o → H' b = some o
theorem Keep.refl (L : List Addr) (H : Hp) : Keep L H H := fun _ _ _ e => e
theorem Keep.trans {L : List Addr} {H H1 H2 : Hp} (a : Keep L H H1) (b : Keep L H1 H2) : Keep L H H2 := fun c o n e => b c o n (a c o n e)
theorem Keep.same {L : List Addr} {H H' : Hp} (e : Same H H') : Keep L H H' := fun b o _ h => e b o h
theorem Keep.mono {L M : List Addr} {H H' : Hp} (k : Keep L H H') (s : ∀ b, b ∈ L → b ∈ M) : Keep M H H' := fun b o n e => k b o (fun z => n (s b z)) e
theorem Keep.upd {L : List Addr} {H : Hp} {b : Addr} {o : HO} (h : b ∈ L) : Keep L H (upd H b o) := fun x u n e => by rw [upd_ne (fun z => n (by rw [z]; exact h))]; exact e
/-- .. tables aside -/
def KeepN (L : List Addr) (H H' : Hp) : Prop := ∀ b o, b ∉ L → H b = some o → (∀ ps, o ≠ .tbl ps) → H' b = some o
theorem Keep.n {L : List Addr} {H H' : Hp} (k : Keep L H H') : KeepN L H H' := fun b o n e _ => k b o n e
theorem KeepN.refl (L : List Addr) (H : Hp) : KeepN L H H := fun _ _ _ e _ => e
theorem KeepN.trans {L : List Addr} {H H1 H2 : Hp} (a : KeepN L H H1) (b : KeepN L H1 H2) : KeepN L H H2 := fun c o n e t => b c o n (a c o n e t) t
theorem KeepN.ext {L : List Addr} {H H' : Hp} (e : ExtN H H') : KeepN L H H' := fun b o _ h t => e b o h t
theorem KeepN.mono {L M : List Addr} {H H' : Hp} (k : KeepN L H H') (s : ∀ b, b ∈ L → b ∈ M) : KeepN M H H' := fun b o n e t => k b o (fun z => n (s b z)) e t
/-- nothing stands there, but a table perhaps -/
def Fresh (H : Hp) (b : Addr) : Prop := ∀ o, H b = some o → ∃ ps, o = .tbl ps
theorem Fresh.of_none {H : Hp} {b : Addr} (h : H b = none) : Fresh H b := fun o e => by rw [h] at e; cases e
theorem Fresh.ne {H : Hp} {b x : Addr} {o : HO} (h : Fresh H b) (e : H x = some o) (n : ∀ ps, o ≠ .tbl ps) : x ≠ b := fun z => by subst z; obtain ⟨ps, q⟩ := h o e; exact n ps q
theorem Fresh.back {H H1 : Hp} {b : Addr} (h : Fresh H1 b) (e : ExtN H H1) : Fresh H b := fun o q => by
  by_cases z : ∃ ps, o = .tbl ps
  · exact z
  · exact h o (e b o q fun ps w => z ⟨ps, w⟩)
theorem CD.up {K : PySem.W.Frag} {Cc Cd : Addr} {H H' : Hp} {p : CDA} {c : CourseR} {d : DayR} (h : CD K Cc Cd H p c d) (k : KT H H') (e : ∀ b, b ∈ p.all → ∀ o, H b = some o → (∀ ps, o ≠ .tbl ps) → H' b = some o) : CD K Cc Cd H' p c d := by
  have m : ∀ b, b ∈ p.all → ∀ xs, H b = some (.lst xs) → H' b = some (.lst xs) := fun b hb xs q => e b hb _ q fun ps z => nomatch z
  have l : ∀ b, b ∈ p.all → ∀ ds, LstOf K H b ds → LstOf K H' b ds := fun b hb ds ⟨vs, q1, q2⟩ => ⟨vs, m b hb _ q1, q2.mono k⟩
  obtain ⟨g, he, hg⟩ := h.he
  exact ⟨e _ (by simp [CDA.all]) _ h.hc (fun ps z => nomatch z), e _ (by simp [CDA.all]) _ h.hto (fun ps z => nomatch z), e _ (by simp [CDA.all]) _ h.hho (fun ps z => nomatch z), l _ (by simp [CDA.all]) _ h.hli, ⟨g, e _ (by simp [CDA.all]) _ he (fun ps z => nomatch z), hg.mono k⟩, l _ (by simp [CDA.all]) _ h.hr, l _ (by simp [CDA.all]) _ h.hsh, m _ (by simp [CDA.all]) _ h.hhm, l _ (by simp [CDA.all]) _ h.hid, e _ (by simp [CDA.all]) _ h.htd (fun ps z => nomatch z), l _ (by simp [CDA.all]) _ h.hhl, l _ (by simp [CDA.all]) _ h.hle, h.nd⟩
theorem CD.same {K : PySem.W.Frag} {Cc Cd : Addr} {H H' : Hp} {p : CDA} {c : CourseR} {d : DayR} (s : Same H H') (h : CD K Cc Cd H p c d) : CD K Cc Cd H' p c d := h.up (kt_same s) fun b _ o e _ => s b o e
theorem CD.extN {K : PySem.W.Frag} {Cc Cd : Addr} {H H' : Hp} {p : CDA} {c : CourseR} {d : DayR} (s : ExtN H H') (h : CD K Cc Cd H p c d) : CD K Cc Cd H' p c d := h.up (extN_kt s) fun b _ o e t => s b o e t
theorem CD.new {K : PySem.W.Frag} {Cc Cd : Addr} {H : Hp} {p : CDA} {c : CourseR} {d : DayR} {q : Addr} {o : HO} (n : H q = none) (h : CD K Cc Cd H p c d) : CD K Cc Cd (upd H q o) p c d := h.same (same_new n)
theorem CDA.ne {p : CDA} (h : p.all.Nodup) : p.a ≠ p.to ∧ p.a ≠ p.ho ∧ p.a ≠ p.li ∧ p.a ≠ p.e ∧ p.a ≠ p.r ∧ p.a ≠ p.sh ∧ p.a ≠ p.hm ∧ p.a ≠ p.id ∧ p.a ≠ p.td ∧ p.a ≠ p.hl ∧ p.a ≠ p.le ∧ p.to ≠ p.ho ∧ p.to ≠ p.li ∧ p.to ≠ p.e ∧ p.to ≠ p.r ∧ p.to ≠ p.sh ∧ p.to ≠ p.hm ∧ p.to ≠ p.id ∧ p.to ≠ p.td ∧ p.to ≠ p.hl ∧ p.to ≠ p.le ∧ p.ho ≠ p.li ∧ p.ho ≠ p.e ∧ p.ho ≠ p.r ∧ p.ho ≠ p.sh ∧ p.ho ≠ p.hm ∧ p.ho ≠ p.id ∧ p.ho ≠ p.td ∧ p.ho ≠ p.hl ∧ p.ho ≠ p.le ∧ p.li ≠ p.e ∧ p.li ≠ p.r ∧ p.li ≠ p.sh ∧ p.li ≠ p.hm ∧ p.li ≠ p.id ∧ p.li ≠ p.td ∧ p.li ≠ p.hl ∧ p.li ≠ p.le ∧ p.e ≠ p.r ∧ p.e ≠ p.sh ∧ p.e ≠ p.hm ∧ p.e ≠ p.id ∧ p.e ≠ p.td ∧ p.e ≠ p.hl ∧ p.e ≠ p.le ∧ p.r ≠ p.sh ∧ p.r ≠ p.hm ∧ p.r ≠ p.id ∧ p.r ≠ p.td ∧ p.r ≠ p.hl ∧ p.r ≠ p.le ∧ p.sh ≠ p.hm ∧ p.sh ≠ p.id ∧ p.sh ≠ p.td ∧ p.sh ≠ p.hl ∧ p.sh ≠ p.le ∧ p.hm ≠ p.id ∧ p.hm ≠ p.td ∧ p.hm ≠ p.hl ∧ p.hm ≠ p.le ∧ p.id ≠ p.td ∧ p.id ≠ p.hl ∧ p.id ≠ p.le ∧ p.td ≠ p.hl ∧ p.td ≠ p.le ∧ p.hl ≠ p.le := by
  simp only [CDA.all, List.nodup_cons, List.mem_cons, List.not_mem_nil, or_false, not_or] at h
  simp only [h, ne_eq, not_false_eq_true, and_self, and_true, true_and]
/-- the lambda's name within in_order -/
def qIO : Str := (("in_order" : Str) ++ ".<locals>.") ++ "<lambda>"
/-- a day alone -/
structure DayA where
  e : Addr
  ex : Addr
  r : Addr
  sh : Addr
  hm : Addr
  id : Addr
  td : Addr
  hl : Addr
  le : Addr
def DayA.all (p : DayA) : List Addr := [p.e, p.r, p.sh, p.hm, p.id, p.td, p.hl, p.le]
structure DayAt (K : PySem.W.Frag) (Cd : Addr) (H : Hp) (p : DayA) (d : DayR) : Prop where
  he : ∃ g, H p.e = some (.ins Cd p.ex (dayF d.at_ p.r g p.sh p.hm p.id p.td d.rate p.hl p.le)) ∧ Dt K H g (fr d.growth)
  hr : LstOf K H p.r (d.rows.map dE)
  hsh : LstOf K H p.sh (d.shares.map shD)
  hhm : H p.hm = some (.lst (d.homes.map V.str))
  hid : LstOf K H p.id (d.idle.map dE)
  htd : H p.td = some (.dK (dOf d.told))
  hhl : LstOf K H p.hl (d.holding.map prD)
  hle : LstOf K H p.le (d.lie.map prD)
def CDA.day (p : CDA) : DayA := ⟨p.e, p.ex, p.r, p.sh, p.hm, p.id, p.td, p.hl, p.le⟩
theorem CD.day {K : PySem.W.Frag} {Cc Cd : Addr} {H : Hp} {p : CDA} {c : CourseR} {d : DayR} (h : CD K Cc Cd H p c d) : DayAt K Cd H p.day d := ⟨h.he, h.hr, h.hsh, h.hhm, h.hid, h.htd, h.hhl, h.hle⟩
theorem DayAt.up {K : PySem.W.Frag} {Cd : Addr} {H H' : Hp} {p : DayA} {d : DayR} (h : DayAt K Cd H p d) (k : KT H H') (e : ∀ b, b ∈ p.all → ∀ o, H b = some o → (∀ ps, o ≠ .tbl ps) → H' b = some o) : DayAt K Cd H' p d := by
  have m : ∀ b, b ∈ p.all → ∀ xs, H b = some (.lst xs) → H' b = some (.lst xs) := fun b hb xs q => e b hb _ q fun ps z => nomatch z
  have l : ∀ b, b ∈ p.all → ∀ ds, LstOf K H b ds → LstOf K H' b ds := fun b hb ds ⟨vs, q1, q2⟩ => ⟨vs, m b hb _ q1, q2.mono k⟩
  obtain ⟨g, he, hg⟩ := h.he
  exact ⟨⟨g, e _ (by simp [DayA.all]) _ he (fun ps z => nomatch z), hg.mono k⟩, l _ (by simp [DayA.all]) _ h.hr, l _ (by simp [DayA.all]) _ h.hsh, m _ (by simp [DayA.all]) _ h.hhm, l _ (by simp [DayA.all]) _ h.hid, e _ (by simp [DayA.all]) _ h.htd (fun ps z => nomatch z), l _ (by simp [DayA.all]) _ h.hhl, l _ (by simp [DayA.all]) _ h.hle⟩
theorem DayAt.at {K : PySem.W.Frag} {Cd : Addr} {H : Hp} {p : DayA} {d : DayR} (h : DayAt K Cd H p d) : ∀ b, b ∈ p.all → ∃ o, H b = some o ∧ (∀ ps, o ≠ .tbl ps) := fun b hb => by
  obtain ⟨g, he, hg⟩ := h.he
  obtain ⟨_, q1, _⟩ := h.hr; obtain ⟨_, q2, _⟩ := h.hsh; obtain ⟨_, q3, _⟩ := h.hid; obtain ⟨_, q4, _⟩ := h.hhl; obtain ⟨_, q5, _⟩ := h.hle
  simp only [DayA.all, List.mem_cons, List.not_mem_nil, or_false] at hb
  rcases hb with rfl | rfl | rfl | rfl | rfl | rfl | rfl | rfl
  · exact ⟨_, he, fun ps z => nomatch z⟩
  · exact ⟨_, q1, fun ps z => nomatch z⟩
  · exact ⟨_, q2, fun ps z => nomatch z⟩
  · exact ⟨_, h.hhm, fun ps z => nomatch z⟩
  · exact ⟨_, q3, fun ps z => nomatch z⟩
  · exact ⟨_, h.htd, fun ps z => nomatch z⟩
  · exact ⟨_, q4, fun ps z => nomatch z⟩
  · exact ⟨_, q5, fun ps z => nomatch z⟩
theorem tab_keep {L : List Addr} {H H' : Hp} {P : Addr} {q : Str} (t : TabS H P q) (k : Keep L H H') (m : ∀ b, b ∈ L → ∀ o, H b = some o → (∀ ps, o ≠ .tbl ps) ∧ (∀ φ, o ≠ .ext φ)) : TabS H' P q := by
  obtain ⟨ps, h1, h2, h3⟩ := t
  refine ⟨ps, k _ _ (fun z => (m _ z _ h1).1 _ rfl) h1, h2, fun pos cv hc => ?_⟩
  obtain ⟨c, e1, e2⟩ := h3 pos cv hc
  exact ⟨c, e1, k _ _ (fun z => (m _ z _ e2).2 _ rfl) e2⟩
theorem kind_ok {o : HO} (h : (∃ C dx fs, o = .ins C dx fs) ∨ (∃ xs, o = .lst xs) ∨ ∃ kvs, o = .dK kvs) : (∀ ps, o ≠ .tbl ps) ∧ (∀ φ, o ≠ .ext φ) := by
  rcases h with ⟨_, _, _, rfl⟩ | ⟨_, rfl⟩ | ⟨_, rfl⟩ <;> exact ⟨fun ps z => (nomatch z), fun φ z => (nomatch z)⟩
theorem CD.tab {K : PySem.W.Frag} {Cc Cd : Addr} {H H' : Hp} {p : CDA} {c : CourseR} {d : DayR} {P : Addr} {q : Str} (h : CD K Cc Cd H p c d) (k : Keep p.all H H') (t : TabS H P q) : TabS H' P q := by
  refine tab_keep t k fun b hb o e => ?_
  obtain ⟨g, he, hg⟩ := h.he
  obtain ⟨_, q0, _⟩ := h.hli; obtain ⟨_, q1, _⟩ := h.hr; obtain ⟨_, q2, _⟩ := h.hsh; obtain ⟨_, q3, _⟩ := h.hid; obtain ⟨_, q4, _⟩ := h.hhl; obtain ⟨_, q5, _⟩ := h.hle
  refine kind_ok ?_
  simp only [CDA.all, List.mem_cons, List.not_mem_nil, or_false] at hb
  rcases hb with rfl | rfl | rfl | rfl | rfl | rfl | rfl | rfl | rfl | rfl | rfl | rfl
  · rw [h.hc] at e; cases e; exact .inl ⟨_, _, _, rfl⟩
  · rw [h.hto] at e; cases e; exact .inr (.inr ⟨_, rfl⟩)
  · rw [h.hho] at e; cases e; exact .inr (.inr ⟨_, rfl⟩)
  · rw [q0] at e; cases e; exact .inr (.inl ⟨_, rfl⟩)
  · rw [he] at e; cases e; exact .inl ⟨_, _, _, rfl⟩
  · rw [q1] at e; cases e; exact .inr (.inl ⟨_, rfl⟩)
  · rw [q2] at e; cases e; exact .inr (.inl ⟨_, rfl⟩)
  · rw [h.hhm] at e; cases e; exact .inr (.inl ⟨_, rfl⟩)
  · rw [q3] at e; cases e; exact .inr (.inl ⟨_, rfl⟩)
  · rw [h.htd] at e; cases e; exact .inr (.inr ⟨_, rfl⟩)
  · rw [q4] at e; cases e; exact .inr (.inl ⟨_, rfl⟩)
  · rw [q5] at e; cases e; exact .inr (.inl ⟨_, rfl⟩)
/-- an instance that gets its fields one by one -/
structure PI (H0 Hd H : Hp) (P : Addr) (p C dx : Addr) (fs : List (Str × V)) (objs : List (Addr × HO)) : Prop where
  ins : H p = some (.ins C dx fs)
  kp : KeepN [p] H0 H
  kt : KT Hd H
  tab : TabS H P qIO
  obj : ∀ x, x ∈ objs → H x.1 = some x.2 ∧ Fresh H0 x.1
  nd : (p :: objs.map Prod.fst).Nodup
theorem PI.put {H0 Hd H : Hp} {P p C dx : Addr} {fs fs' : List (Str × V)} {objs : List (Addr × HO)} (I : PI H0 Hd H P p C dx fs objs) : PI H0 Hd (upd H p (.ins C dx fs')) P p C dx fs' objs :=
  ⟨upd_same, I.kp.trans (Keep.upd List.mem_cons_self).n, I.kt.trans (kt_mut I.ins rfl), tab_keep I.tab (L := [p]) (Keep.upd List.mem_cons_self) (fun b hb o e => by rw [List.mem_singleton.mp hb, I.ins] at e; cases e; exact kind_ok (.inl ⟨_, _, _, rfl⟩)),
   fun x hx => ⟨by rw [upd_ne (fun z => (List.nodup_cons.mp I.nd).1 (List.mem_map.mpr ⟨x, hx, z⟩))]; exact (I.obj x hx).1, (I.obj x hx).2⟩, I.nd⟩
theorem PI.new {H0 Hd H : Hp} {P p C dx q : Addr} {fs : List (Str × V)} {objs : List (Addr × HO)} {o : HO} (I : PI H0 Hd H P p C dx fs objs) (n : H q = none) (f0 : Fresh H0 q) : PI H0 Hd (upd H q o) P p C dx fs (objs ++ [(q, o)]) := by
  have s : Same H (upd H q o) := same_new n
  have nq : q ∉ p :: objs.map Prod.fst := by
    intro z
    rcases List.mem_cons.mp z with rfl | z
    · rw [I.ins] at n; cases n
    · obtain ⟨x, hx, rfl⟩ := List.mem_map.mp z
      rw [(I.obj x hx).1] at n; cases n
  refine ⟨s _ _ I.ins, I.kp.trans (KeepN.ext fun b o e _ => s b o e), I.kt.trans (kt_new n), I.tab.ext s, fun x hx => ?_, ?_⟩
  · rcases List.mem_append.mp hx with hx | hx
    · exact ⟨s _ _ (I.obj x hx).1, (I.obj x hx).2⟩
    · rw [List.mem_singleton.mp hx]; exact ⟨upd_same, f0⟩
  · rw [List.map_append, ← List.cons_append]
    exact List.nodup_append.mpr ⟨I.nd, List.nodup_cons.mpr ⟨List.not_mem_nil, .nil⟩, fun a ha b hb e => nq (by rw [List.mem_singleton.mp hb] at e; have e2 : a = q := e; rw [← e2]; exact ha)⟩
theorem Fresh.keep {L : List Addr} {H0 H : Hp} {q : Addr} (k : KeepN L H0 H) (n : H q = none) (hL : ∀ b, b ∈ L → H b ≠ none) : Fresh H0 q := fun o e => by
  by_cases z : ∃ ps, o = .tbl ps
  · exact z
  · have := k q o (fun w => hL q w n) e fun ps w => z ⟨ps, w⟩
    rw [n] at this; cases this
theorem PI.new' {H0 Hd H : Hp} {P p C dx q : Addr} {fs : List (Str × V)} {objs : List (Addr × HO)} {o : HO} (I : PI H0 Hd H P p C dx fs objs) (n : H q = none) : PI H0 Hd (upd H q o) P p C dx fs (objs ++ [(q, o)]) :=
  I.new n (Fresh.keep I.kp n fun b hb => by rw [List.mem_singleton.mp hb, I.ins]; exact fun z => nomatch z)
theorem PI.fld {K : PySem.W.Frag} {H0 Hd H : Hp} {P p C dx : Addr} {fs : List (Str × V)} {objs : List (Addr × HO)} {f : Str} {y : V} {N : Hp → Prop} (I : PI H0 Hd H P p C dx fs objs) (k : Cls K C) (n : NoAttr K C f) (l : fs.length < 1000) (q : ∀ H', PI H0 Hd H' P p C dx (putF f y fs) objs → N H') : FldW K f y (.ref p) H N :=
  ⟨p, C, dx, fs, rfl, I.ins, k, n, l, q _ I.put⟩
/-- a course alone -/
structure CrsAt (K : PySem.W.Frag) (Cc : Addr) (H : Hp) (a dx to ho li : Addr) (c : CourseR) : Prop where
  hc : H a = some (.ins Cc dx (crsF to ho li c.rate))
  hto : H to = some (.dK (dOf c.told))
  hho : H ho = some (.dK (dOf c.holding))
  hli : LstOf K H li (c.lie.map prD)
  nth : to ≠ ho
theorem CD.crs {K : PySem.W.Frag} {Cc Cd : Addr} {H : Hp} {p : CDA} {c : CourseR} {d : DayR} (h : CD K Cc Cd H p c d) : CrsAt K Cc H p.a p.dx p.to p.ho p.li c := ⟨h.hc, h.hto, h.hho, h.hli, by have := h.nd; simp only [CDA.all, List.nodup_cons, List.mem_cons, not_or] at this; exact this.2.1.1⟩
theorem CrsAt.ext {K : PySem.W.Frag} {Cc : Addr} {H H' : Hp} {a dx to ho li : Addr} {c : CourseR} (h : CrsAt K Cc H a dx to ho li c) (e : ExtN H H') : CrsAt K Cc H' a dx to ho li c := ⟨e _ _ h.hc (fun _ z => nomatch z), e _ _ h.hto (fun _ z => nomatch z), e _ _ h.hho (fun _ z => nomatch z), h.hli.up (extN_kt e) fun o q => by obtain ⟨_, q1, _⟩ := h.hli; rw [q1] at q; cases q; exact e _ _ q1 (fun _ z => nomatch z), h.nth⟩
theorem CD.setTold {K : PySem.W.Frag} {Cc Cd : Addr} {H : Hp} {p : CDA} {c : CourseR} {d : DayR} {t : List (Str × Int)} (h : CD K Cc Cd H p c d) : CD K Cc Cd (upd H p.to (.dK (dOf t))) p { c with told := t } d := by
  obtain ⟨g0, he0, hg0⟩ := h.he
  have hnd := CDA.ne h.nd
  have k : ∀ o, KT H (upd H p.to o) := fun o => kt_mut h.hto rfl
  have n_a : p.a ≠ p.to := by exact (by simp [hnd] : p.a ≠ p.to)
  have n_ho : p.ho ≠ p.to := by exact Ne.symm (by simp [hnd] : p.to ≠ p.ho)
  have n_li : p.li ≠ p.to := by exact Ne.symm (by simp [hnd] : p.to ≠ p.li)
  have n_e : p.e ≠ p.to := by exact Ne.symm (by simp [hnd] : p.to ≠ p.e)
  have n_r : p.r ≠ p.to := by exact Ne.symm (by simp [hnd] : p.to ≠ p.r)
  have n_sh : p.sh ≠ p.to := by exact Ne.symm (by simp [hnd] : p.to ≠ p.sh)
  have n_hm : p.hm ≠ p.to := by exact Ne.symm (by simp [hnd] : p.to ≠ p.hm)
  have n_id : p.id ≠ p.to := by exact Ne.symm (by simp [hnd] : p.to ≠ p.id)
  have n_td : p.td ≠ p.to := by exact Ne.symm (by simp [hnd] : p.to ≠ p.td)
  have n_hl : p.hl ≠ p.to := by exact Ne.symm (by simp [hnd] : p.to ≠ p.hl)
  have n_le : p.le ≠ p.to := by exact Ne.symm (by simp [hnd] : p.to ≠ p.le)
  exact ⟨(upd_ne n_a).trans h.hc, upd_same, (upd_ne n_ho).trans h.hho, h.hli.up (k _) fun o q => (upd_ne n_li).trans q, ⟨g0, (upd_ne n_e).trans he0, hg0.mono (k _)⟩, h.hr.up (k _) fun o q => (upd_ne n_r).trans q, h.hsh.up (k _) fun o q => (upd_ne n_sh).trans q, (upd_ne n_hm).trans h.hhm, h.hid.up (k _) fun o q => (upd_ne n_id).trans q, (upd_ne n_td).trans h.htd, h.hhl.up (k _) fun o q => (upd_ne n_hl).trans q, h.hle.up (k _) fun o q => (upd_ne n_le).trans q, h.nd⟩
theorem CD.setHold {K : PySem.W.Frag} {Cc Cd : Addr} {H : Hp} {p : CDA} {c : CourseR} {d : DayR} {t : List (Str × Int)} (h : CD K Cc Cd H p c d) : CD K Cc Cd (upd H p.ho (.dK (dOf t))) p { c with holding := t } d := by
  obtain ⟨g0, he0, hg0⟩ := h.he
  have hnd := CDA.ne h.nd
  have k : ∀ o, KT H (upd H p.ho o) := fun o => kt_mut h.hho rfl
  have n_a : p.a ≠ p.ho := by exact (by simp [hnd] : p.a ≠ p.ho)
  have n_to : p.to ≠ p.ho := by exact (by simp [hnd] : p.to ≠ p.ho)
  have n_li : p.li ≠ p.ho := by exact Ne.symm (by simp [hnd] : p.ho ≠ p.li)
  have n_e : p.e ≠ p.ho := by exact Ne.symm (by simp [hnd] : p.ho ≠ p.e)
  have n_r : p.r ≠ p.ho := by exact Ne.symm (by simp [hnd] : p.ho ≠ p.r)
  have n_sh : p.sh ≠ p.ho := by exact Ne.symm (by simp [hnd] : p.ho ≠ p.sh)
  have n_hm : p.hm ≠ p.ho := by exact Ne.symm (by simp [hnd] : p.ho ≠ p.hm)
  have n_id : p.id ≠ p.ho := by exact Ne.symm (by simp [hnd] : p.ho ≠ p.id)
  have n_td : p.td ≠ p.ho := by exact Ne.symm (by simp [hnd] : p.ho ≠ p.td)
  have n_hl : p.hl ≠ p.ho := by exact Ne.symm (by simp [hnd] : p.ho ≠ p.hl)
  have n_le : p.le ≠ p.ho := by exact Ne.symm (by simp [hnd] : p.ho ≠ p.le)
  exact ⟨(upd_ne n_a).trans h.hc, (upd_ne n_to).trans h.hto, upd_same, h.hli.up (k _) fun o q => (upd_ne n_li).trans q, ⟨g0, (upd_ne n_e).trans he0, hg0.mono (k _)⟩, h.hr.up (k _) fun o q => (upd_ne n_r).trans q, h.hsh.up (k _) fun o q => (upd_ne n_sh).trans q, (upd_ne n_hm).trans h.hhm, h.hid.up (k _) fun o q => (upd_ne n_id).trans q, (upd_ne n_td).trans h.htd, h.hhl.up (k _) fun o q => (upd_ne n_hl).trans q, h.hle.up (k _) fun o q => (upd_ne n_le).trans q, h.nd⟩
theorem CD.setLie {K : PySem.W.Frag} {Cc Cd : Addr} {H : Hp} {p : CDA} {c : CourseR} {d : DayR} {vs : List V} {l : List (Str × Int)} (hv : DtAll K H vs (l.map prD)) (h : CD K Cc Cd H p c d) : CD K Cc Cd (upd H p.li (.lst vs)) p { c with lie := l } d := by
  obtain ⟨g0, he0, hg0⟩ := h.he
  have hnd := CDA.ne h.nd
  obtain ⟨w0, hw0, _⟩ := h.hli
  have k : ∀ o, KT H (upd H p.li o) := fun o => kt_mut hw0 rfl
  have n_a : p.a ≠ p.li := by exact (by simp [hnd] : p.a ≠ p.li)
  have n_to : p.to ≠ p.li := by exact (by simp [hnd] : p.to ≠ p.li)
  have n_ho : p.ho ≠ p.li := by exact (by simp [hnd] : p.ho ≠ p.li)
  have n_e : p.e ≠ p.li := by exact Ne.symm (by simp [hnd] : p.li ≠ p.e)
  have n_r : p.r ≠ p.li := by exact Ne.symm (by simp [hnd] : p.li ≠ p.r)
  have n_sh : p.sh ≠ p.li := by exact Ne.symm (by simp [hnd] : p.li ≠ p.sh)
  have n_hm : p.hm ≠ p.li := by exact Ne.symm (by simp [hnd] : p.li ≠ p.hm)
  have n_id : p.id ≠ p.li := by exact Ne.symm (by simp [hnd] : p.li ≠ p.id)
  have n_td : p.td ≠ p.li := by exact Ne.symm (by simp [hnd] : p.li ≠ p.td)
  have n_hl : p.hl ≠ p.li := by exact Ne.symm (by simp [hnd] : p.li ≠ p.hl)
  have n_le : p.le ≠ p.li := by exact Ne.symm (by simp [hnd] : p.li ≠ p.le)
  exact ⟨(upd_ne n_a).trans h.hc, (upd_ne n_to).trans h.hto, (upd_ne n_ho).trans h.hho, ⟨_, upd_same, hv.mono (k _)⟩, ⟨g0, (upd_ne n_e).trans he0, hg0.mono (k _)⟩, h.hr.up (k _) fun o q => (upd_ne n_r).trans q, h.hsh.up (k _) fun o q => (upd_ne n_sh).trans q, (upd_ne n_hm).trans h.hhm, h.hid.up (k _) fun o q => (upd_ne n_id).trans q, (upd_ne n_td).trans h.htd, h.hhl.up (k _) fun o q => (upd_ne n_hl).trans q, h.hle.up (k _) fun o q => (upd_ne n_le).trans q, h.nd⟩
theorem CD.setShares {K : PySem.W.Frag} {Cc Cd : Addr} {H : Hp} {p : CDA} {c : CourseR} {d : DayR} {vs : List V} {l : List (Str × Rat)} (hv : DtAll K H vs (l.map shD)) (h : CD K Cc Cd H p c d) : CD K Cc Cd (upd H p.sh (.lst vs)) p c { d with shares := l } := by
  obtain ⟨g0, he0, hg0⟩ := h.he
  have hnd := CDA.ne h.nd
  obtain ⟨w0, hw0, _⟩ := h.hsh
  have k : ∀ o, KT H (upd H p.sh o) := fun o => kt_mut hw0 rfl
  have n_a : p.a ≠ p.sh := by exact (by simp [hnd] : p.a ≠ p.sh)
  have n_to : p.to ≠ p.sh := by exact (by simp [hnd] : p.to ≠ p.sh)
  have n_ho : p.ho ≠ p.sh := by exact (by simp [hnd] : p.ho ≠ p.sh)
  have n_li : p.li ≠ p.sh := by exact (by simp [hnd] : p.li ≠ p.sh)
  have n_e : p.e ≠ p.sh := by exact (by simp [hnd] : p.e ≠ p.sh)
  have n_r : p.r ≠ p.sh := by exact (by simp [hnd] : p.r ≠ p.sh)
  have n_hm : p.hm ≠ p.sh := by exact Ne.symm (by simp [hnd] : p.sh ≠ p.hm)
  have n_id : p.id ≠ p.sh := by exact Ne.symm (by simp [hnd] : p.sh ≠ p.id)
  have n_td : p.td ≠ p.sh := by exact Ne.symm (by simp [hnd] : p.sh ≠ p.td)
  have n_hl : p.hl ≠ p.sh := by exact Ne.symm (by simp [hnd] : p.sh ≠ p.hl)
  have n_le : p.le ≠ p.sh := by exact Ne.symm (by simp [hnd] : p.sh ≠ p.le)
  exact ⟨(upd_ne n_a).trans h.hc, (upd_ne n_to).trans h.hto, (upd_ne n_ho).trans h.hho, h.hli.up (k _) fun o q => (upd_ne n_li).trans q, ⟨g0, (upd_ne n_e).trans he0, hg0.mono (k _)⟩, h.hr.up (k _) fun o q => (upd_ne n_r).trans q, ⟨_, upd_same, hv.mono (k _)⟩, (upd_ne n_hm).trans h.hhm, h.hid.up (k _) fun o q => (upd_ne n_id).trans q, (upd_ne n_td).trans h.htd, h.hhl.up (k _) fun o q => (upd_ne n_hl).trans q, h.hle.up (k _) fun o q => (upd_ne n_le).trans q, h.nd⟩
theorem CD.setHomes {K : PySem.W.Frag} {Cc Cd : Addr} {H : Hp} {p : CDA} {c : CourseR} {d : DayR} {l : List Str} (h : CD K Cc Cd H p c d) : CD K Cc Cd (upd H p.hm (.lst (l.map V.str))) p c { d with homes := l } := by
  obtain ⟨g0, he0, hg0⟩ := h.he
  have hnd := CDA.ne h.nd
  have k : ∀ o, KT H (upd H p.hm o) := fun o => kt_mut h.hhm rfl
  have n_a : p.a ≠ p.hm := by exact (by simp [hnd] : p.a ≠ p.hm)
  have n_to : p.to ≠ p.hm := by exact (by simp [hnd] : p.to ≠ p.hm)
  have n_ho : p.ho ≠ p.hm := by exact (by simp [hnd] : p.ho ≠ p.hm)
  have n_li : p.li ≠ p.hm := by exact (by simp [hnd] : p.li ≠ p.hm)
  have n_e : p.e ≠ p.hm := by exact (by simp [hnd] : p.e ≠ p.hm)
  have n_r : p.r ≠ p.hm := by exact (by simp [hnd] : p.r ≠ p.hm)
  have n_sh : p.sh ≠ p.hm := by exact (by simp [hnd] : p.sh ≠ p.hm)
  have n_id : p.id ≠ p.hm := by exact Ne.symm (by simp [hnd] : p.hm ≠ p.id)
  have n_td : p.td ≠ p.hm := by exact Ne.symm (by simp [hnd] : p.hm ≠ p.td)
  have n_hl : p.hl ≠ p.hm := by exact Ne.symm (by simp [hnd] : p.hm ≠ p.hl)
  have n_le : p.le ≠ p.hm := by exact Ne.symm (by simp [hnd] : p.hm ≠ p.le)
  exact ⟨(upd_ne n_a).trans h.hc, (upd_ne n_to).trans h.hto, (upd_ne n_ho).trans h.hho, h.hli.up (k _) fun o q => (upd_ne n_li).trans q, ⟨g0, (upd_ne n_e).trans he0, hg0.mono (k _)⟩, h.hr.up (k _) fun o q => (upd_ne n_r).trans q, h.hsh.up (k _) fun o q => (upd_ne n_sh).trans q, upd_same, h.hid.up (k _) fun o q => (upd_ne n_id).trans q, (upd_ne n_td).trans h.htd, h.hhl.up (k _) fun o q => (upd_ne n_hl).trans q, h.hle.up (k _) fun o q => (upd_ne n_le).trans q, h.nd⟩
theorem CD.setIdle {K : PySem.W.Frag} {Cc Cd : Addr} {H : Hp} {p : CDA} {c : CourseR} {d : DayR} {vs : List V} {l : List E3} (hv : DtAll K H vs (l.map dE)) (h : CD K Cc Cd H p c d) : CD K Cc Cd (upd H p.id (.lst vs)) p c { d with idle := l } := by
  obtain ⟨g0, he0, hg0⟩ := h.he
  have hnd := CDA.ne h.nd
  obtain ⟨w0, hw0, _⟩ := h.hid
  have k : ∀ o, KT H (upd H p.id o) := fun o => kt_mut hw0 rfl
  have n_a : p.a ≠ p.id := by exact (by simp [hnd] : p.a ≠ p.id)
  have n_to : p.to ≠ p.id := by exact (by simp [hnd] : p.to ≠ p.id)
  have n_ho : p.ho ≠ p.id := by exact (by simp [hnd] : p.ho ≠ p.id)
  have n_li : p.li ≠ p.id := by exact (by simp [hnd] : p.li ≠ p.id)
  have n_e : p.e ≠ p.id := by exact (by simp [hnd] : p.e ≠ p.id)
  have n_r : p.r ≠ p.id := by exact (by simp [hnd] : p.r ≠ p.id)
  have n_sh : p.sh ≠ p.id := by exact (by simp [hnd] : p.sh ≠ p.id)
  have n_hm : p.hm ≠ p.id := by exact (by simp [hnd] : p.hm ≠ p.id)
  have n_td : p.td ≠ p.id := by exact Ne.symm (by simp [hnd] : p.id ≠ p.td)
  have n_hl : p.hl ≠ p.id := by exact Ne.symm (by simp [hnd] : p.id ≠ p.hl)
  have n_le : p.le ≠ p.id := by exact Ne.symm (by simp [hnd] : p.id ≠ p.le)
  exact ⟨(upd_ne n_a).trans h.hc, (upd_ne n_to).trans h.hto, (upd_ne n_ho).trans h.hho, h.hli.up (k _) fun o q => (upd_ne n_li).trans q, ⟨g0, (upd_ne n_e).trans he0, hg0.mono (k _)⟩, h.hr.up (k _) fun o q => (upd_ne n_r).trans q, h.hsh.up (k _) fun o q => (upd_ne n_sh).trans q, (upd_ne n_hm).trans h.hhm, ⟨_, upd_same, hv.mono (k _)⟩, (upd_ne n_td).trans h.htd, h.hhl.up (k _) fun o q => (upd_ne n_hl).trans q, h.hle.up (k _) fun o q => (upd_ne n_le).trans q, h.nd⟩
theorem CD.setCRate {K : PySem.W.Frag} {Cc Cd : Addr} {H : Hp} {p : CDA} {c : CourseR} {d : DayR} {i : Int} (h : CD K Cc Cd H p c d) : CD K Cc Cd (upd H p.a (.ins Cc p.dx (crsF p.to p.ho p.li i))) p { c with rate := i } d := by
  obtain ⟨g0, he0, hg0⟩ := h.he
  have hnd := CDA.ne h.nd
  have k : ∀ o, KT H (upd H p.a o) := fun o => kt_mut h.hc rfl
  have n_to : p.to ≠ p.a := by exact Ne.symm (by simp [hnd] : p.a ≠ p.to)
  have n_ho : p.ho ≠ p.a := by exact Ne.symm (by simp [hnd] : p.a ≠ p.ho)
  have n_li : p.li ≠ p.a := by exact Ne.symm (by simp [hnd] : p.a ≠ p.li)
  have n_e : p.e ≠ p.a := by exact Ne.symm (by simp [hnd] : p.a ≠ p.e)
  have n_r : p.r ≠ p.a := by exact Ne.symm (by simp [hnd] : p.a ≠ p.r)
  have n_sh : p.sh ≠ p.a := by exact Ne.symm (by simp [hnd] : p.a ≠ p.sh)
  have n_hm : p.hm ≠ p.a := by exact Ne.symm (by simp [hnd] : p.a ≠ p.hm)
  have n_id : p.id ≠ p.a := by exact Ne.symm (by simp [hnd] : p.a ≠ p.id)
  have n_td : p.td ≠ p.a := by exact Ne.symm (by simp [hnd] : p.a ≠ p.td)
  have n_hl : p.hl ≠ p.a := by exact Ne.symm (by simp [hnd] : p.a ≠ p.hl)
  have n_le : p.le ≠ p.a := by exact Ne.symm (by simp [hnd] : p.a ≠ p.le)
  exact ⟨upd_same, (upd_ne n_to).trans h.hto, (upd_ne n_ho).trans h.hho, h.hli.up (k _) fun o q => (upd_ne n_li).trans q, ⟨g0, (upd_ne n_e).trans he0, hg0.mono (k _)⟩, h.hr.up (k _) fun o q => (upd_ne n_r).trans q, h.hsh.up (k _) fun o q => (upd_ne n_sh).trans q, (upd_ne n_hm).trans h.hhm, h.hid.up (k _) fun o q => (upd_ne n_id).trans q, (upd_ne n_td).trans h.htd, h.hhl.up (k _) fun o q => (upd_ne n_hl).trans q, h.hle.up (k _) fun o q => (upd_ne n_le).trans q, h.nd⟩
theorem CD.setDRate {K : PySem.W.Frag} {Cc Cd : Addr} {H : Hp} {p : CDA} {c : CourseR} {d : DayR} {i : Int} {g : V} (hg : Dt K H g (fr d.growth)) (h : CD K Cc Cd H p c d) : CD K Cc Cd (upd H p.e (.ins Cd p.ex (dayF d.at_ p.r g p.sh p.hm p.id p.td i p.hl p.le))) p c { d with rate := i } := by
  obtain ⟨g0, he0, hg0⟩ := h.he
  have hnd := CDA.ne h.nd
  have k : ∀ o, KT H (upd H p.e o) := fun o => kt_mut he0 rfl
  have n_a : p.a ≠ p.e := by exact (by simp [hnd] : p.a ≠ p.e)
  have n_to : p.to ≠ p.e := by exact (by simp [hnd] : p.to ≠ p.e)
  have n_ho : p.ho ≠ p.e := by exact (by simp [hnd] : p.ho ≠ p.e)
  have n_li : p.li ≠ p.e := by exact (by simp [hnd] : p.li ≠ p.e)
  have n_r : p.r ≠ p.e := by exact Ne.symm (by simp [hnd] : p.e ≠ p.r)
  have n_sh : p.sh ≠ p.e := by exact Ne.symm (by simp [hnd] : p.e ≠ p.sh)
  have n_hm : p.hm ≠ p.e := by exact Ne.symm (by simp [hnd] : p.e ≠ p.hm)
  have n_id : p.id ≠ p.e := by exact Ne.symm (by simp [hnd] : p.e ≠ p.id)
  have n_td : p.td ≠ p.e := by exact Ne.symm (by simp [hnd] : p.e ≠ p.td)
  have n_hl : p.hl ≠ p.e := by exact Ne.symm (by simp [hnd] : p.e ≠ p.hl)
  have n_le : p.le ≠ p.e := by exact Ne.symm (by simp [hnd] : p.e ≠ p.le)
  exact ⟨(upd_ne n_a).trans h.hc, (upd_ne n_to).trans h.hto, (upd_ne n_ho).trans h.hho, h.hli.up (k _) fun o q => (upd_ne n_li).trans q, ⟨g, upd_same, hg.mono (k _)⟩, h.hr.up (k _) fun o q => (upd_ne n_r).trans q, h.hsh.up (k _) fun o q => (upd_ne n_sh).trans q, (upd_ne n_hm).trans h.hhm, h.hid.up (k _) fun o q => (upd_ne n_id).trans q, (upd_ne n_td).trans h.htd, h.hhl.up (k _) fun o q => (upd_ne n_hl).trans q, h.hle.up (k _) fun o q => (upd_ne n_le).trans q, h.nd⟩
theorem CD.setGrowth {K : PySem.W.Frag} {Cc Cd : Addr} {H : Hp} {p : CDA} {c : CourseR} {d : DayR} {g : V} {q : Rat} (hg : Dt K H g (fr q)) (h : CD K Cc Cd H p c d) : CD K Cc Cd (upd H p.e (.ins Cd p.ex (dayF d.at_ p.r g p.sh p.hm p.id p.td d.rate p.hl p.le))) p c { d with growth := q } := by
  obtain ⟨g0, he0, hg0⟩ := h.he
  have hnd := CDA.ne h.nd
  have k : ∀ o, KT H (upd H p.e o) := fun o => kt_mut he0 rfl
  have n_a : p.a ≠ p.e := by exact (by simp [hnd] : p.a ≠ p.e)
  have n_to : p.to ≠ p.e := by exact (by simp [hnd] : p.to ≠ p.e)
  have n_ho : p.ho ≠ p.e := by exact (by simp [hnd] : p.ho ≠ p.e)
  have n_li : p.li ≠ p.e := by exact (by simp [hnd] : p.li ≠ p.e)
  have n_r : p.r ≠ p.e := by exact Ne.symm (by simp [hnd] : p.e ≠ p.r)
  have n_sh : p.sh ≠ p.e := by exact Ne.symm (by simp [hnd] : p.e ≠ p.sh)
  have n_hm : p.hm ≠ p.e := by exact Ne.symm (by simp [hnd] : p.e ≠ p.hm)
  have n_id : p.id ≠ p.e := by exact Ne.symm (by simp [hnd] : p.e ≠ p.id)
  have n_td : p.td ≠ p.e := by exact Ne.symm (by simp [hnd] : p.e ≠ p.td)
  have n_hl : p.hl ≠ p.e := by exact Ne.symm (by simp [hnd] : p.e ≠ p.hl)
  have n_le : p.le ≠ p.e := by exact Ne.symm (by simp [hnd] : p.e ≠ p.le)
  exact ⟨(upd_ne n_a).trans h.hc, (upd_ne n_to).trans h.hto, (upd_ne n_ho).trans h.hho, h.hli.up (k _) fun o q => (upd_ne n_li).trans q, ⟨g, upd_same, hg.mono (k _)⟩, h.hr.up (k _) fun o q => (upd_ne n_r).trans q, h.hsh.up (k _) fun o q => (upd_ne n_sh).trans q, (upd_ne n_hm).trans h.hhm, h.hid.up (k _) fun o q => (upd_ne n_id).trans q, (upd_ne n_td).trans h.htd, h.hhl.up (k _) fun o q => (upd_ne n_hl).trans q, h.hle.up (k _) fun o q => (upd_ne n_le).trans q, h.nd⟩
theorem nodup_set {α : Type} {y : α} : ∀ {l : List α} {i : Nat}, l.Nodup → y ∉ l → (l.set i y).Nodup
  | [], _, h, _ => h
  | x :: l, 0, h, n => by
    rw [List.set_cons_zero]
    exact List.nodup_cons.mpr ⟨fun z => n (List.mem_cons_of_mem _ z), (List.nodup_cons.mp h).2⟩
  | x :: l, i + 1, h, n => by
    rw [List.set_cons_succ]
    obtain ⟨h1, h2⟩ := List.nodup_cons.mp h
    refine List.nodup_cons.mpr ⟨fun z => ?_, nodup_set h2 fun z => n (List.mem_cons_of_mem _ z)⟩
    rcases List.mem_or_eq_of_mem_set z with z | z
    · exact h1 z
    · exact n (by rw [← z]; exact List.mem_cons_self)
theorem CD.ptHo {K : PySem.W.Frag} {Cc Cd : Addr} {H : Hp} {p : CDA} {c : CourseR} {d : DayR} {y : Addr} {t : List (Str × Int)} (hy : H y = some (.dK (dOf t))) (ny : y ∉ p.all) (h : CD K Cc Cd H p c d) : CD K Cc Cd (upd H p.a (.ins Cc p.dx (crsF p.to y p.li c.rate))) { p with ho := y } { c with holding := t } d := by
  obtain ⟨g0, he0, hg0⟩ := h.he
  have hnd := CDA.ne h.nd
  have k : ∀ o, KT H (upd H p.a o) := fun o => kt_mut h.hc rfl
  have nya : y ≠ p.a ∧ y ≠ p.to ∧ y ≠ p.ho ∧ y ≠ p.li ∧ y ≠ p.e ∧ y ≠ p.r ∧ y ≠ p.sh ∧ y ≠ p.hm ∧ y ≠ p.id ∧ y ≠ p.td ∧ y ≠ p.hl ∧ y ≠ p.le := by
    simp only [CDA.all, List.mem_cons, List.not_mem_nil, or_false, not_or] at ny
    exact ny
  have n_to : p.to ≠ p.a := by exact Ne.symm (by simp [hnd] : p.a ≠ p.to)
  have n_li : p.li ≠ p.a := by exact Ne.symm (by simp [hnd] : p.a ≠ p.li)
  have n_e : p.e ≠ p.a := by exact Ne.symm (by simp [hnd] : p.a ≠ p.e)
  have n_r : p.r ≠ p.a := by exact Ne.symm (by simp [hnd] : p.a ≠ p.r)
  have n_sh : p.sh ≠ p.a := by exact Ne.symm (by simp [hnd] : p.a ≠ p.sh)
  have n_hm : p.hm ≠ p.a := by exact Ne.symm (by simp [hnd] : p.a ≠ p.hm)
  have n_id : p.id ≠ p.a := by exact Ne.symm (by simp [hnd] : p.a ≠ p.id)
  have n_td : p.td ≠ p.a := by exact Ne.symm (by simp [hnd] : p.a ≠ p.td)
  have n_hl : p.hl ≠ p.a := by exact Ne.symm (by simp [hnd] : p.a ≠ p.hl)
  have n_le : p.le ≠ p.a := by exact Ne.symm (by simp [hnd] : p.a ≠ p.le)
  refine ⟨upd_same, (upd_ne n_to).trans h.hto, (upd_ne nya.1).trans hy, h.hli.up (k _) fun o q => (upd_ne n_li).trans q, ⟨g0, (upd_ne n_e).trans he0, hg0.mono (k _)⟩, h.hr.up (k _) fun o q => (upd_ne n_r).trans q, h.hsh.up (k _) fun o q => (upd_ne n_sh).trans q, (upd_ne n_hm).trans h.hhm, h.hid.up (k _) fun o q => (upd_ne n_id).trans q, (upd_ne n_td).trans h.htd, h.hhl.up (k _) fun o q => (upd_ne n_hl).trans q, h.hle.up (k _) fun o q => (upd_ne n_le).trans q, ?_⟩
  exact nodup_set (i := 2) h.nd ny
theorem CD.ptLi {K : PySem.W.Frag} {Cc Cd : Addr} {H : Hp} {p : CDA} {c : CourseR} {d : DayR} {y : Addr} {t : List (Str × Int)} (hy : LstOf K H y (t.map prD)) (ny : y ∉ p.all) (h : CD K Cc Cd H p c d) : CD K Cc Cd (upd H p.a (.ins Cc p.dx (crsF p.to p.ho y c.rate))) { p with li := y } { c with lie := t } d := by
  obtain ⟨g0, he0, hg0⟩ := h.he
  have hnd := CDA.ne h.nd
  have k : ∀ o, KT H (upd H p.a o) := fun o => kt_mut h.hc rfl
  have nya : y ≠ p.a ∧ y ≠ p.to ∧ y ≠ p.ho ∧ y ≠ p.li ∧ y ≠ p.e ∧ y ≠ p.r ∧ y ≠ p.sh ∧ y ≠ p.hm ∧ y ≠ p.id ∧ y ≠ p.td ∧ y ≠ p.hl ∧ y ≠ p.le := by
    simp only [CDA.all, List.mem_cons, List.not_mem_nil, or_false, not_or] at ny
    exact ny
  have n_to : p.to ≠ p.a := by exact Ne.symm (by simp [hnd] : p.a ≠ p.to)
  have n_ho : p.ho ≠ p.a := by exact Ne.symm (by simp [hnd] : p.a ≠ p.ho)
  have n_e : p.e ≠ p.a := by exact Ne.symm (by simp [hnd] : p.a ≠ p.e)
  have n_r : p.r ≠ p.a := by exact Ne.symm (by simp [hnd] : p.a ≠ p.r)
  have n_sh : p.sh ≠ p.a := by exact Ne.symm (by simp [hnd] : p.a ≠ p.sh)
  have n_hm : p.hm ≠ p.a := by exact Ne.symm (by simp [hnd] : p.a ≠ p.hm)
  have n_id : p.id ≠ p.a := by exact Ne.symm (by simp [hnd] : p.a ≠ p.id)
  have n_td : p.td ≠ p.a := by exact Ne.symm (by simp [hnd] : p.a ≠ p.td)
  have n_hl : p.hl ≠ p.a := by exact Ne.symm (by simp [hnd] : p.a ≠ p.hl)
  have n_le : p.le ≠ p.a := by exact Ne.symm (by simp [hnd] : p.a ≠ p.le)
  refine ⟨upd_same, (upd_ne n_to).trans h.hto, (upd_ne n_ho).trans h.hho, hy.up (k _) fun o q => (upd_ne nya.1).trans q, ⟨g0, (upd_ne n_e).trans he0, hg0.mono (k _)⟩, h.hr.up (k _) fun o q => (upd_ne n_r).trans q, h.hsh.up (k _) fun o q => (upd_ne n_sh).trans q, (upd_ne n_hm).trans h.hhm, h.hid.up (k _) fun o q => (upd_ne n_id).trans q, (upd_ne n_td).trans h.htd, h.hhl.up (k _) fun o q => (upd_ne n_hl).trans q, h.hle.up (k _) fun o q => (upd_ne n_le).trans q, ?_⟩
  exact nodup_set (i := 3) h.nd ny
theorem CD.ptTd {K : PySem.W.Frag} {Cc Cd : Addr} {H : Hp} {p : CDA} {c : CourseR} {d : DayR} {y : Addr} {g : V} {t : List (Str × Int)} (hg : Dt K H g (fr d.growth)) (hy : H y = some (.dK (dOf t))) (ny : y ∉ p.all) (h : CD K Cc Cd H p c d) : CD K Cc Cd (upd H p.e (.ins Cd p.ex (dayF d.at_ p.r g p.sh p.hm p.id y d.rate p.hl p.le))) { p with td := y } c { d with told := t } := by
  obtain ⟨g0, he0, hg0⟩ := h.he
  have hnd := CDA.ne h.nd
  have k : ∀ o, KT H (upd H p.e o) := fun o => kt_mut he0 rfl
  have nya : y ≠ p.a ∧ y ≠ p.to ∧ y ≠ p.ho ∧ y ≠ p.li ∧ y ≠ p.e ∧ y ≠ p.r ∧ y ≠ p.sh ∧ y ≠ p.hm ∧ y ≠ p.id ∧ y ≠ p.td ∧ y ≠ p.hl ∧ y ≠ p.le := by
    simp only [CDA.all, List.mem_cons, List.not_mem_nil, or_false, not_or] at ny
    exact ny
  have n_a : p.a ≠ p.e := by exact (by simp [hnd] : p.a ≠ p.e)
  have n_to : p.to ≠ p.e := by exact (by simp [hnd] : p.to ≠ p.e)
  have n_ho : p.ho ≠ p.e := by exact (by simp [hnd] : p.ho ≠ p.e)
  have n_li : p.li ≠ p.e := by exact (by simp [hnd] : p.li ≠ p.e)
  have n_r : p.r ≠ p.e := by exact Ne.symm (by simp [hnd] : p.e ≠ p.r)
  have n_sh : p.sh ≠ p.e := by exact Ne.symm (by simp [hnd] : p.e ≠ p.sh)
  have n_hm : p.hm ≠ p.e := by exact Ne.symm (by simp [hnd] : p.e ≠ p.hm)
  have n_id : p.id ≠ p.e := by exact Ne.symm (by simp [hnd] : p.e ≠ p.id)
  have n_hl : p.hl ≠ p.e := by exact Ne.symm (by simp [hnd] : p.e ≠ p.hl)
  have n_le : p.le ≠ p.e := by exact Ne.symm (by simp [hnd] : p.e ≠ p.le)
  refine ⟨(upd_ne n_a).trans h.hc, (upd_ne n_to).trans h.hto, (upd_ne n_ho).trans h.hho, h.hli.up (k _) fun o q => (upd_ne n_li).trans q, ⟨g, upd_same, hg.mono (k _)⟩, h.hr.up (k _) fun o q => (upd_ne n_r).trans q, h.hsh.up (k _) fun o q => (upd_ne n_sh).trans q, (upd_ne n_hm).trans h.hhm, h.hid.up (k _) fun o q => (upd_ne n_id).trans q, (upd_ne nya.2.2.2.2.1).trans hy, h.hhl.up (k _) fun o q => (upd_ne n_hl).trans q, h.hle.up (k _) fun o q => (upd_ne n_le).trans q, ?_⟩
  exact nodup_set (i := 9) h.nd ny
theorem CD.ptHl {K : PySem.W.Frag} {Cc Cd : Addr} {H : Hp} {p : CDA} {c : CourseR} {d : DayR} {y : Addr} {g : V} {t : List (Str × Int)} (hg : Dt K H g (fr d.growth)) (hy : LstOf K H y (t.map prD)) (ny : y ∉ p.all) (h : CD K Cc Cd H p c d) : CD K Cc Cd (upd H p.e (.ins Cd p.ex (dayF d.at_ p.r g p.sh p.hm p.id p.td d.rate y p.le))) { p with hl := y } c { d with holding := t } := by
  obtain ⟨g0, he0, hg0⟩ := h.he
  have hnd := CDA.ne h.nd
  have k : ∀ o, KT H (upd H p.e o) := fun o => kt_mut he0 rfl
  have nya : y ≠ p.a ∧ y ≠ p.to ∧ y ≠ p.ho ∧ y ≠ p.li ∧ y ≠ p.e ∧ y ≠ p.r ∧ y ≠ p.sh ∧ y ≠ p.hm ∧ y ≠ p.id ∧ y ≠ p.td ∧ y ≠ p.hl ∧ y ≠ p.le := by
    simp only [CDA.all, List.mem_cons, List.not_mem_nil, or_false, not_or] at ny
    exact ny
  have n_a : p.a ≠ p.e := by exact (by simp [hnd] : p.a ≠ p.e)
  have n_to : p.to ≠ p.e := by exact (by simp [hnd] : p.to ≠ p.e)
  have n_ho : p.ho ≠ p.e := by exact (by simp [hnd] : p.ho ≠ p.e)
  have n_li : p.li ≠ p.e := by exact (by simp [hnd] : p.li ≠ p.e)
  have n_r : p.r ≠ p.e := by exact Ne.symm (by simp [hnd] : p.e ≠ p.r)
  have n_sh : p.sh ≠ p.e := by exact Ne.symm (by simp [hnd] : p.e ≠ p.sh)
  have n_hm : p.hm ≠ p.e := by exact Ne.symm (by simp [hnd] : p.e ≠ p.hm)
  have n_id : p.id ≠ p.e := by exact Ne.symm (by simp [hnd] : p.e ≠ p.id)
  have n_td : p.td ≠ p.e := by exact Ne.symm (by simp [hnd] : p.e ≠ p.td)
  have n_le : p.le ≠ p.e := by exact Ne.symm (by simp [hnd] : p.e ≠ p.le)
  refine ⟨(upd_ne n_a).trans h.hc, (upd_ne n_to).trans h.hto, (upd_ne n_ho).trans h.hho, h.hli.up (k _) fun o q => (upd_ne n_li).trans q, ⟨g, upd_same, hg.mono (k _)⟩, h.hr.up (k _) fun o q => (upd_ne n_r).trans q, h.hsh.up (k _) fun o q => (upd_ne n_sh).trans q, (upd_ne n_hm).trans h.hhm, h.hid.up (k _) fun o q => (upd_ne n_id).trans q, (upd_ne n_td).trans h.htd, hy.up (k _) fun o q => (upd_ne nya.2.2.2.2.1).trans q, h.hle.up (k _) fun o q => (upd_ne n_le).trans q, ?_⟩
  exact nodup_set (i := 10) h.nd ny
theorem CD.ptLe {K : PySem.W.Frag} {Cc Cd : Addr} {H : Hp} {p : CDA} {c : CourseR} {d : DayR} {y : Addr} {g : V} {t : List (Str × Int)} (hg : Dt K H g (fr d.growth)) (hy : LstOf K H y (t.map prD)) (ny : y ∉ p.all) (h : CD K Cc Cd H p c d) : CD K Cc Cd (upd H p.e (.ins Cd p.ex (dayF d.at_ p.r g p.sh p.hm p.id p.td d.rate p.hl y))) { p with le := y } c { d with lie := t } := by
  obtain ⟨g0, he0, hg0⟩ := h.he
  have hnd := CDA.ne h.nd
  have k : ∀ o, KT H (upd H p.e o) := fun o => kt_mut he0 rfl
  have nya : y ≠ p.a ∧ y ≠ p.to ∧ y ≠ p.ho ∧ y ≠ p.li ∧ y ≠ p.e ∧ y ≠ p.r ∧ y ≠ p.sh ∧ y ≠ p.hm ∧ y ≠ p.id ∧ y ≠ p.td ∧ y ≠ p.hl ∧ y ≠ p.le := by
    simp only [CDA.all, List.mem_cons, List.not_mem_nil, or_false, not_or] at ny
    exact ny
  have n_a : p.a ≠ p.e := by exact (by simp [hnd] : p.a ≠ p.e)
  have n_to : p.to ≠ p.e := by exact (by simp [hnd] : p.to ≠ p.e)
  have n_ho : p.ho ≠ p.e := by exact (by simp [hnd] : p.ho ≠ p.e)
  have n_li : p.li ≠ p.e := by exact (by simp [hnd] : p.li ≠ p.e)
  have n_r : p.r ≠ p.e := by exact Ne.symm (by simp [hnd] : p.e ≠ p.r)
  have n_sh : p.sh ≠ p.e := by exact Ne.symm (by simp [hnd] : p.e ≠ p.sh)
  have n_hm : p.hm ≠ p.e := by exact Ne.symm (by simp [hnd] : p.e ≠ p.hm)
  have n_id : p.id ≠ p.e := by exact Ne.symm (by simp [hnd] : p.e ≠ p.id)
  have n_td : p.td ≠ p.e := by exact Ne.symm (by simp [hnd] : p.e ≠ p.td)
  have n_hl : p.hl ≠ p.e := by exact Ne.symm (by simp [hnd] : p.e ≠ p.hl)
  refine ⟨(upd_ne n_a).trans h.hc, (upd_ne n_to).trans h.hto, (upd_ne n_ho).trans h.hho, h.hli.up (k _) fun o q => (upd_ne n_li).trans q, ⟨g, upd_same, hg.mono (k _)⟩, h.hr.up (k _) fun o q => (upd_ne n_r).trans q, h.hsh.up (k _) fun o q => (upd_ne n_sh).trans q, (upd_ne n_hm).trans h.hhm, h.hid.up (k _) fun o q => (upd_ne n_id).trans q, (upd_ne n_td).trans h.htd, h.hhl.up (k _) fun o q => (upd_ne n_hl).trans q, hy.up (k _) fun o q => (upd_ne nya.2.2.2.2.1).trans q, ?_⟩
  exact nodup_set (i := 11) h.nd ny
theorem lkC_told {to ho li : Addr} {i : Int} : (crsF to ho li i).lookup ("told" : Str) = some (.ref to) := by with_unfolding_all rfl
theorem lkC_holding {to ho li : Addr} {i : Int} : (crsF to ho li i).lookup ("holding" : Str) = some (.ref ho) := by with_unfolding_all rfl
theorem lkC_lie {to ho li : Addr} {i : Int} : (crsF to ho li i).lookup ("lie" : Str) = some (.ref li) := by with_unfolding_all rfl
theorem lkC_rate {to ho li : Addr} {i : Int} : (crsF to ho li i).lookup ("rate" : Str) = some (.int i) := by with_unfolding_all rfl
theorem lkD_at {t i : Int} {r sh hm id td hl le : Addr} {g : V} : (dayF t r g sh hm id td i hl le).lookup ("at" : Str) = some (.int t) := by with_unfolding_all rfl
theorem lkD_rows {t i : Int} {r sh hm id td hl le : Addr} {g : V} : (dayF t r g sh hm id td i hl le).lookup ("rows" : Str) = some (.ref r) := by with_unfolding_all rfl
theorem lkD_growth {t i : Int} {r sh hm id td hl le : Addr} {g : V} : (dayF t r g sh hm id td i hl le).lookup ("growth" : Str) = some (g) := by with_unfolding_all rfl
theorem lkD_shares {t i : Int} {r sh hm id td hl le : Addr} {g : V} : (dayF t r g sh hm id td i hl le).lookup ("shares" : Str) = some (.ref sh) := by with_unfolding_all rfl
theorem lkD_homes {t i : Int} {r sh hm id td hl le : Addr} {g : V} : (dayF t r g sh hm id td i hl le).lookup ("homes" : Str) = some (.ref hm) := by with_unfolding_all rfl
theorem lkD_idle_rows {t i : Int} {r sh hm id td hl le : Addr} {g : V} : (dayF t r g sh hm id td i hl le).lookup ("idle_rows" : Str) = some (.ref id) := by with_unfolding_all rfl
theorem lkD_told {t i : Int} {r sh hm id td hl le : Addr} {g : V} : (dayF t r g sh hm id td i hl le).lookup ("told" : Str) = some (.ref td) := by with_unfolding_all rfl
theorem lkD_rate {t i : Int} {r sh hm id td hl le : Addr} {g : V} : (dayF t r g sh hm id td i hl le).lookup ("rate" : Str) = some (.int i) := by with_unfolding_all rfl
theorem lkD_holding {t i : Int} {r sh hm id td hl le : Addr} {g : V} : (dayF t r g sh hm id td i hl le).lookup ("holding" : Str) = some (.ref hl) := by with_unfolding_all rfl
theorem lkD_lie {t i : Int} {r sh hm id td hl le : Addr} {g : V} : (dayF t r g sh hm id td i hl le).lookup ("lie" : Str) = some (.ref le) := by with_unfolding_all rfl
theorem ptC_holding {to ho li y : Addr} {i : Int} : putF "holding" (.ref y) (crsF to ho li i) = crsF to y li i := by with_unfolding_all rfl
theorem ptC_lie {to ho li y : Addr} {i : Int} : putF "lie" (.ref y) (crsF to ho li i) = crsF to ho y i := by with_unfolding_all rfl
theorem ptC_rate {to ho li : Addr} {i j : Int} : putF "rate" (.int j) (crsF to ho li i) = crsF to ho li j := by with_unfolding_all rfl
theorem ptD_growth {t i : Int} {r sh hm id td hl le : Addr} {g : V} {z : V} : putF "growth" z (dayF t r g sh hm id td i hl le) = dayF t r z sh hm id td i hl le := by with_unfolding_all rfl
theorem ptD_told {t i : Int} {r sh hm id td hl le : Addr} {g : V} {y : Addr} : putF "told" (.ref y) (dayF t r g sh hm id td i hl le) = dayF t r g sh hm id y i hl le := by with_unfolding_all rfl
theorem ptD_rate {t i : Int} {r sh hm id td hl le : Addr} {g : V} {j : Int} : putF "rate" (.int j) (dayF t r g sh hm id td i hl le) = dayF t r g sh hm id td j hl le := by with_unfolding_all rfl
theorem ptD_holding {t i : Int} {r sh hm id td hl le : Addr} {g : V} {y : Addr} : putF "holding" (.ref y) (dayF t r g sh hm id td i hl le) = dayF t r g sh hm id td i y le := by with_unfolding_all rfl
theorem ptD_lie {t i : Int} {r sh hm id td hl le : Addr} {g : V} {y : Addr} : putF "lie" (.ref y) (dayF t r g sh hm id td i hl le) = dayF t r g sh hm id td i hl y := by with_unfolding_all rfl
theorem ptD_idle_rows {t i : Int} {r sh hm id td hl le : Addr} {g : V} {y : Addr} : putF "idle_rows" (.ref y) (dayF t r g sh hm id td i hl le) = dayF t r g sh hm y td i hl le := by with_unfolding_all rfl
section
variable {K : PySem.W.Frag} {Cc Cd : Addr} {H : Hp} {p : CDA} {c : CourseR} {d : DayR} {Q : VK}
theorem s_c_told (h : CD K Cc Cd H p c d) (k : Cls K Cc) (n : NoAttr K Cc "told") (q : Q (.ref p.to) H) : FldQ K (.ref p.a) "told" H Q := ⟨p.a, Cc, p.dx, _, _, rfl, h.hc, k, n, lkC_told, q⟩
theorem s_c_holding (h : CD K Cc Cd H p c d) (k : Cls K Cc) (n : NoAttr K Cc "holding") (q : Q (.ref p.ho) H) : FldQ K (.ref p.a) "holding" H Q := ⟨p.a, Cc, p.dx, _, _, rfl, h.hc, k, n, lkC_holding, q⟩
theorem s_c_lie (h : CD K Cc Cd H p c d) (k : Cls K Cc) (n : NoAttr K Cc "lie") (q : Q (.ref p.li) H) : FldQ K (.ref p.a) "lie" H Q := ⟨p.a, Cc, p.dx, _, _, rfl, h.hc, k, n, lkC_lie, q⟩
theorem s_c_rate (h : CD K Cc Cd H p c d) (k : Cls K Cc) (n : NoAttr K Cc "rate") (q : Q (.int c.rate) H) : FldQ K (.ref p.a) "rate" H Q := ⟨p.a, Cc, p.dx, _, _, rfl, h.hc, k, n, lkC_rate, q⟩
theorem s_d_at (h : CD K Cc Cd H p c d) (k : Cls K Cd) (n : NoAttr K Cd "at") (q : Q (.int d.at_) H) : FldQ K (.ref p.e) "at" H Q := by
  obtain ⟨g, he, hg⟩ := h.he
  exact ⟨p.e, Cd, p.ex, _, _, rfl, he, k, n, lkD_at, q⟩
theorem s_d_rows (h : CD K Cc Cd H p c d) (k : Cls K Cd) (n : NoAttr K Cd "rows") (q : Q (.ref p.r) H) : FldQ K (.ref p.e) "rows" H Q := by
  obtain ⟨g, he, hg⟩ := h.he
  exact ⟨p.e, Cd, p.ex, _, _, rfl, he, k, n, lkD_rows, q⟩
theorem s_d_shares (h : CD K Cc Cd H p c d) (k : Cls K Cd) (n : NoAttr K Cd "shares") (q : Q (.ref p.sh) H) : FldQ K (.ref p.e) "shares" H Q := by
  obtain ⟨g, he, hg⟩ := h.he
  exact ⟨p.e, Cd, p.ex, _, _, rfl, he, k, n, lkD_shares, q⟩
theorem s_d_homes (h : CD K Cc Cd H p c d) (k : Cls K Cd) (n : NoAttr K Cd "homes") (q : Q (.ref p.hm) H) : FldQ K (.ref p.e) "homes" H Q := by
  obtain ⟨g, he, hg⟩ := h.he
  exact ⟨p.e, Cd, p.ex, _, _, rfl, he, k, n, lkD_homes, q⟩
theorem s_d_idle_rows (h : CD K Cc Cd H p c d) (k : Cls K Cd) (n : NoAttr K Cd "idle_rows") (q : Q (.ref p.id) H) : FldQ K (.ref p.e) "idle_rows" H Q := by
  obtain ⟨g, he, hg⟩ := h.he
  exact ⟨p.e, Cd, p.ex, _, _, rfl, he, k, n, lkD_idle_rows, q⟩
theorem s_d_told (h : CD K Cc Cd H p c d) (k : Cls K Cd) (n : NoAttr K Cd "told") (q : Q (.ref p.td) H) : FldQ K (.ref p.e) "told" H Q := by
  obtain ⟨g, he, hg⟩ := h.he
  exact ⟨p.e, Cd, p.ex, _, _, rfl, he, k, n, lkD_told, q⟩
theorem s_d_rate (h : CD K Cc Cd H p c d) (k : Cls K Cd) (n : NoAttr K Cd "rate") (q : Q (.int d.rate) H) : FldQ K (.ref p.e) "rate" H Q := by
  obtain ⟨g, he, hg⟩ := h.he
  exact ⟨p.e, Cd, p.ex, _, _, rfl, he, k, n, lkD_rate, q⟩
theorem s_d_holding (h : CD K Cc Cd H p c d) (k : Cls K Cd) (n : NoAttr K Cd "holding") (q : Q (.ref p.hl) H) : FldQ K (.ref p.e) "holding" H Q := by
  obtain ⟨g, he, hg⟩ := h.he
  exact ⟨p.e, Cd, p.ex, _, _, rfl, he, k, n, lkD_holding, q⟩
theorem s_d_lie (h : CD K Cc Cd H p c d) (k : Cls K Cd) (n : NoAttr K Cd "lie") (q : Q (.ref p.le) H) : FldQ K (.ref p.e) "lie" H Q := by
  obtain ⟨g, he, hg⟩ := h.he
  exact ⟨p.e, Cd, p.ex, _, _, rfl, he, k, n, lkD_lie, q⟩
theorem s_d_growth (h : CD K Cc Cd H p c d) (k : Cls K Cd) (n : NoAttr K Cd "growth") (q : ∀ g, Dt K H g (fr d.growth) → Q g H) : FldQ K (.ref p.e) "growth" H Q := by
  obtain ⟨g, he, hg⟩ := h.he
  exact ⟨p.e, Cd, p.ex, _, _, rfl, he, k, n, lkD_growth, q g hg⟩
theorem w_c_rate {N : Hp → Prop} {i : Int} (h : CD K Cc Cd H p c d) (k : Cls K Cc) (n : NoAttr K Cc "rate") (q : ∀ H', Keep p.all H H' → CD K Cc Cd H' p { c with rate := i } d → N H') : FldW K "rate" (.int i) (.ref p.a) H N :=
  ⟨p.a, Cc, p.dx, _, rfl, h.hc, k, n, by show 4 < 1000; decide, by rw [ptC_rate]; exact q _ (.upd (by simp [CDA.all])) h.setCRate⟩
theorem w_c_holding {N : Hp → Prop} {y : Addr} {t : List (Str × Int)} (h : CD K Cc Cd H p c d) (k : Cls K Cc) (n : NoAttr K Cc "holding") (hy : H y = some (.dK (dOf t))) (ny : y ∉ p.all) (q : ∀ H', Keep p.all H H' → CD K Cc Cd H' { p with ho := y } { c with holding := t } d → N H') : FldW K "holding" (.ref y) (.ref p.a) H N :=
  ⟨p.a, Cc, p.dx, _, rfl, h.hc, k, n, by show 4 < 1000; decide, by rw [ptC_holding]; exact q _ (.upd (by simp [CDA.all])) (h.ptHo hy ny)⟩
theorem w_c_lie {N : Hp → Prop} {y : Addr} {t : List (Str × Int)} (h : CD K Cc Cd H p c d) (k : Cls K Cc) (n : NoAttr K Cc "lie") (hy : LstOf K H y (t.map prD)) (ny : y ∉ p.all) (q : ∀ H', Keep p.all H H' → CD K Cc Cd H' { p with li := y } { c with lie := t } d → N H') : FldW K "lie" (.ref y) (.ref p.a) H N :=
  ⟨p.a, Cc, p.dx, _, rfl, h.hc, k, n, by show 4 < 1000; decide, by rw [ptC_lie]; exact q _ (.upd (by simp [CDA.all])) (h.ptLi hy ny)⟩
theorem w_d_rate {N : Hp → Prop} {i : Int} (h : CD K Cc Cd H p c d) (k : Cls K Cd) (n : NoAttr K Cd "rate") (q : ∀ H', Keep p.all H H' → CD K Cc Cd H' p c { d with rate := i } → N H') : FldW K "rate" (.int i) (.ref p.e) H N := by
  obtain ⟨g, he, hg⟩ := h.he
  exact ⟨p.e, Cd, p.ex, _, rfl, he, k, n, by show 10 < 1000; decide, by rw [ptD_rate]; exact q _ (.upd (by simp [CDA.all])) (h.setDRate hg)⟩
theorem w_d_growth {N : Hp → Prop} {y : V} {t : Rat} (h : CD K Cc Cd H p c d) (k : Cls K Cd) (n : NoAttr K Cd "growth") (hy : Dt K H y (fr t)) (q : ∀ H', Keep p.all H H' → CD K Cc Cd H' p c { d with growth := t } → N H') : FldW K "growth" y (.ref p.e) H N := by
  obtain ⟨g, he, hg⟩ := h.he
  exact ⟨p.e, Cd, p.ex, _, rfl, he, k, n, by show 10 < 1000; decide, by rw [ptD_growth]; exact q _ (.upd (by simp [CDA.all])) (h.setGrowth hy)⟩
theorem w_d_told {N : Hp → Prop} {y : Addr} {t : List (Str × Int)} (h : CD K Cc Cd H p c d) (k : Cls K Cd) (n : NoAttr K Cd "told") (hy : H y = some (.dK (dOf t))) (ny : y ∉ p.all) (q : ∀ H', Keep p.all H H' → CD K Cc Cd H' { p with td := y } c { d with told := t } → N H') : FldW K "told" (.ref y) (.ref p.e) H N := by
  obtain ⟨g, he, hg⟩ := h.he
  exact ⟨p.e, Cd, p.ex, _, rfl, he, k, n, by show 10 < 1000; decide, by rw [ptD_told]; exact q _ (.upd (by simp [CDA.all])) (h.ptTd hg hy ny)⟩
theorem w_d_holding {N : Hp → Prop} {y : Addr} {t : List (Str × Int)} (h : CD K Cc Cd H p c d) (k : Cls K Cd) (n : NoAttr K Cd "holding") (hy : LstOf K H y (t.map prD)) (ny : y ∉ p.all) (q : ∀ H', Keep p.all H H' → CD K Cc Cd H' { p with hl := y } c { d with holding := t } → N H') : FldW K "holding" (.ref y) (.ref p.e) H N := by
  obtain ⟨g, he, hg⟩ := h.he
  exact ⟨p.e, Cd, p.ex, _, rfl, he, k, n, by show 10 < 1000; decide, by rw [ptD_holding]; exact q _ (.upd (by simp [CDA.all])) (h.ptHl hg hy ny)⟩
theorem w_d_lie {N : Hp → Prop} {y : Addr} {t : List (Str × Int)} (h : CD K Cc Cd H p c d) (k : Cls K Cd) (n : NoAttr K Cd "lie") (hy : LstOf K H y (t.map prD)) (ny : y ∉ p.all) (q : ∀ H', Keep p.all H H' → CD K Cc Cd H' { p with le := y } c { d with lie := t } → N H') : FldW K "lie" (.ref y) (.ref p.e) H N := by
  obtain ⟨g, he, hg⟩ := h.he
  exact ⟨p.e, Cd, p.ex, _, rfl, he, k, n, by show 10 < 1000; decide, by rw [ptD_lie]; exact q _ (.upd (by simp [CDA.all])) (h.ptLe hg hy ny)⟩
theorem m_course {mn : Str} {N : Prop} (h : CD K Cc Cd H p c d) (e : ([("told" : Str), "holding", "lie", "rate"].contains mn) = false) (q : N) : MethQ Cc mn (.ref p.a) H N := by
  refine ⟨p.a, p.dx, _, rfl, h.hc, ?_, q⟩
  simp only [List.contains_cons, List.contains_nil, Bool.or_false, Bool.or_eq_false_iff] at e
  simp only [crsF, List.lookup, e]
theorem m_day {mn : Str} {N : Prop} (h : CD K Cc Cd H p c d) (e : ([("at" : Str), "rows", "growth", "shares", "homes", "idle_rows", "told", "rate", "holding", "lie"].contains mn) = false) (q : N) : MethQ Cd mn (.ref p.e) H N := by
  obtain ⟨g, he, hg⟩ := h.he
  refine ⟨p.e, p.ex, _, rfl, he, ?_, q⟩
  simp only [List.contains_cons, List.contains_nil, Bool.or_false, Bool.or_eq_false_iff] at e
  simp only [dayF, List.lookup, e]
end
end Cr

namespace Cr
open PySem PySem.Spec PyProof.Rows L2 L2.DX LamX
/-- day.idle_rows += rows -/
theorem s_augIdle {K : PySem.W.Frag} {Cc Cd : Addr} {H : Hp} {p : CDA} {c : CourseR} {d : DayR} {tv : TE} {σ : St} {N : Hp → Prop} (h : CD K Cc Cd H p c d) (k : Cls K Cd) (n : NoAttr K Cd "idle_rows")
    (q : tv σ H fun y H2 => rExt2 (.ref p.id) y H2 fun z H3 => ∃ dx' fs', H3 p.e = some (.ins Cd dx' fs') ∧ fs'.length < 1000 ∧ N (upd H3 p.e (.ins Cd dx' (putF "idle_rows" z fs')))) : AugQ K (.ref p.e) "idle_rows" tv rExt2 σ H N := by
  obtain ⟨g, he, hg⟩ := h.he
  exact ⟨p.e, Cd, p.ex, _, _, rfl, he, k, n, lkD_idle_rows, q⟩
theorem e_augIdle {K : PySem.W.Frag} {Cc Cd : Addr} {H : Hp} {p : CDA} {c : CourseR} {d : DayR} {N : Hp → Prop} {b : Addr} {l : List E3} (h : CD K Cc Cd H p c d) (hb : LstOf K H b (l.map dE)) (hz : d.idle.length + l.length ≤ 100000)
    (q : ∀ H', Keep p.all H H' → CD K Cc Cd H' p c { d with idle := d.idle ++ l } → N H') :
    rExt2 (.ref p.id) (.ref b) H fun z H3 => ∃ dx' fs', H3 p.e = some (.ins Cd dx' fs') ∧ fs'.length < 1000 ∧ N (upd H3 p.e (.ins Cd dx' (putF "idle_rows" z fs'))) := by
  obtain ⟨vs, h1, h2⟩ := hb
  obtain ⟨ws, h3, h4⟩ := h.hid
  have l1 : vs.length = l.length := by rw [h2.len, List.length_map]
  have l2 : ws.length = d.idle.length := by rw [h4.len, List.length_map]
  have hn := h.setIdle (l := d.idle ++ l) (vs := ws ++ vs) (by rw [List.map_append]; exact h4.append h2)
  obtain ⟨g, he, hg⟩ := hn.he
  refine s_ext2 h3 h1 (Nat.le_of_lt (room5 (by omega))) ⟨p.ex, _, he, by show 10 < 1000; decide, ?_⟩
  rw [ptD_idle_rows]
  have e : upd (upd H p.id (.lst (ws ++ vs))) p.e (.ins Cd p.ex (dayF d.at_ p.r g p.sh p.hm p.id p.td d.rate p.hl p.le)) = upd H p.id (.lst (ws ++ vs)) := by
    funext x
    by_cases z : x = p.e
    · rw [z, upd_same]; exact he.symm
    · rw [upd_ne z]
  rw [e]
  exact q _ (.upd (by simp [CDA.all])) hn
theorem sqL_keepN {K : PySem.W.Frag} {L : List Addr} {H H' : Hp} {a : Addr} {xs : List V} (k : KeepN L H H') (n : ∀ b, b ∈ L → ∃ o, H b = some o ∧ (∀ ys, o ≠ .lst ys) ∧ ∀ f u, o ≠ .frz f u) (h : SqL K H a xs) : SqL K H' a xs := by
  rcases h with (h | ⟨o, h⟩) | h
  · exact .inl (.inl (k _ _ (fun z => by obtain ⟨o, e, e2, _⟩ := n _ z; rw [h] at e; cases e; exact e2 _ rfl) h (fun ps z => by cases z)))
  · exact .inl (.inr ⟨o, k _ _ (fun z => by obtain ⟨o, e, _, e2⟩ := n _ z; rw [h] at e; cases e; exact e2 _ _ rfl) h (fun ps z => by cases z)⟩)
  · exact .inr h
theorem Fresh.keep2 {L : List Addr} {H0 H : Hp} {q : Addr} (k : KeepN L H0 H) (n : Fresh H q) (hL : ∀ b, b ∈ L → ∃ o, H b = some o ∧ ∀ ps, o ≠ .tbl ps) : Fresh H0 q := fun o e => by
  by_cases z : ∃ ps, o = .tbl ps
  · exact z
  · refine n o (k q o (fun w => ?_) e fun ps w => z ⟨ps, w⟩)
    obtain ⟨u, e1, e2⟩ := hL q w
    obtain ⟨ps, e3⟩ := n u e1
    exact e2 ps e3
theorem kt_keepN {L : List Addr} {H H' : Hp} (k : KeepN L H H') (n : ∀ b, b ∈ L → ∀ o, H b = some o → isT o = false) : KT H H' := fun a o e t => k a o (fun z => by rw [n a z o e] at t; cases t) e (fun ps z => by rw [z] at t; cases t)
/-! ### what a day makes of a course -/
def thingE (e : E3) : Str := match e.2.2 with
  | .str t :: _ => t
  | _ => ""
def numE (e : E3) : Int := match e.2.2 with
  | [.str _, .int p] => p
  | [.int p] => p
  | _ => 0
def prsD : PyData → List (Str × Int)
  | .tuple ds => ds.filterMap fun d => match d with
    | .tuple [.str t, .int c] => some (t, c)
    | _ => none
  | _ => []
def prsE (e : E3) : List (Str × Int) := match e.2.2 with
  | [x] => prsD x
  | _ => []
theorem prsD_ps (ps : List (Str × Int)) : prsD (pairsD ps) = ps := by
  show (ps.map fun p => PyData.tuple [.str p.1, .int p.2]).filterMap _ = ps
  rw [List.filterMap_map]
  induction ps with
  | nil => rfl
  | cons p ps ih => rw [List.filterMap_cons]; show _ :: _ = _; rw [ih]
def ofKind (rows : List E3) (k : Str) : List E3 := rows.filter fun e => decide (e.1 = k)
def priceOf (told : List (Str × Int)) (t : Str) : Int := (lookP told t).getD 1
def worthM (told holding : List (Str × Int)) : Int := (holding.map fun p => p.2 * priceOf told p.1).sum
def sortE (es : List E3) : List E3 := es.mergeSort (PySem.W.dataLe false fun e => turnD (dE e))
def sortPs (ps : List (Str × Int)) : List (Str × Int) := ps.mergeSort (PySem.W.dataLe false prD)
theorem sortPs_D (ps : List (Str × Int)) : sortD (ps.map prD) = (sortPs ps).map prD :=
  (PySem.W.sort_maps (r := PySem.W.dataLe false prD) (s := PySem.W.dataLe false (id : PyData → PyData)) prD (l := ps) (fun _ _ _ _ => rfl)).symm
theorem sortE_D (es : List E3) : (es.map dE).mergeSort (PySem.W.dataLe false turnD) = (sortE es).map dE :=
  (PySem.W.sort_maps (r := PySem.W.dataLe false fun e : E3 => turnD (dE e)) (s := PySem.W.dataLe false turnD) dE (l := es) (fun _ _ _ _ => rfl)).symm
theorem sortE_perm (es : List E3) : (sortE es).Perm es := List.mergeSort_perm _ _
theorem sortPs_perm (ps : List (Str × Int)) : (sortPs ps).Perm ps := List.mergeSort_perm _ _
def hasP (ps : List (Str × Int)) (t : Str) : Bool := ps.any fun p => decide (p.1 = t)
def toldM (rows : List E3) (told : List (Str × Int)) : List (Str × Int) := (ofKind rows "price").foldl (fun t e => setP t (thingE e) (numE e)) told
def mineM (rows : List E3) (holding : List (Str × Int)) : List Str :=
  let m := ((ofKind rows "aside").map thingE).filter (hasP holding)
  if m.length = holding.length then [] else m
def newDay (at_ : Int) (rows : List E3) : DayR := ⟨at_, rows, 1, [], [], [], [], 0, [], []⟩
def asideC (c : CourseR) (d : DayR) : CourseR × DayR :=
  ({ c with holding := (mineM d.rows c.holding).foldl dropP c.holding, lie := c.lie ++ (mineM d.rows c.holding).map fun t => (t, d.at_) },
   { d with shares := d.shares ++ (mineM d.rows c.holding).map (fun t => (t, Rat.divInt ((lookP c.holding t).getD 0 * priceOf d.told t) (worthM c.told c.holding)))
            idle := d.idle ++ (ofKind d.rows "aside").filter fun e => decide (thingE e ∉ mineM d.rows c.holding) })
def homesM (rows : List E3) (lie : List (Str × Int)) : List Str := ((ofKind rows "home").filter fun e => hasP lie (thingE e)).map thingE
def homeC (c : CourseR) (d : DayR) : CourseR × DayR :=
  ({ c with lie := c.lie.filter fun p => decide (p.1 ∉ d.homes ++ homesM d.rows c.lie) },
   { d with homes := d.homes ++ homesM d.rows c.lie, idle := d.idle ++ (ofKind d.rows "home").filter fun e => !hasP c.lie (thingE e) })
def rateM (rows : List E3) (r : Int) : Int := (ofKind rows "rate").foldl (fun _ e => numE e) r
def holdM (rows : List E3) (h : List (Str × Int)) : List (Str × Int) := (ofKind rows "mix").foldl (fun _ e => prsE e) h
def growM (told told' holding : List (Str × Int)) : Rat := if worthM told holding = 0 then 1 else Rat.divInt (worthM told' holding) (worthM told holding)
def stepC (c : CourseR) (at_ : Int) (rows0 : List E3) : CourseR × DayR :=
  let d0 := newDay at_ (sortE rows0)
  let c1 : CourseR := { c with told := toldM d0.rows c.told }
  let d1 : DayR := { d0 with told := c1.told, growth := growM c.told c1.told c.holding }
  let x := asideC c1 d1
  let y := homeC x.1 x.2
  let c2 : CourseR := { y.1 with rate := rateM d0.rows y.1.rate, holding := holdM d0.rows y.1.holding }
  (c2, { y.2 with rate := c2.rate, holding := sortPs c2.holding, lie := sortPs c2.lie })
/-- all days told, in order -/
def daysOf (rows : List E3) : List Int := ((List.range 401).map fun n : Nat => (n : Int)).filter fun d => decide (d ∈ rows.map fun e => e.2.1)
def planF (rows : List E3) : CourseR → List Int → List DayR
  | _, [] => []
  | c, t :: r => (stepC c t (rows.filter fun e => decide (e.2.1 = t))).2 :: planF rows (stepC c t (rows.filter fun e => decide (e.2.1 = t))).1 r
def courseF (rows : List E3) : CourseR → List Int → CourseR
  | c, [] => c
  | c, t :: r => courseF rows (stepC c t (rows.filter fun e => decide (e.2.1 = t))).1 r
def course0 : CourseR := ⟨[], [], [], 0⟩
/-- all is within bounds -/
structure COk (c : CourseR) (n : Nat) : Prop where
  told : ∀ p, p ∈ c.told → Nm p.1 ∧ 1 ≤ p.2 ∧ p.2 ≤ 1000000
  hold : ∀ p, p ∈ c.holding → Nm p.1 ∧ 1 ≤ p.2 ∧ p.2 ≤ 1000000
  hnd : (c.holding.map Prod.fst).Nodup
  hlen : c.holding.length ≤ 8
  lie : ∀ p, p ∈ c.lie → Nm p.1 ∧ 0 ≤ p.2 ∧ p.2 ≤ 400
  tl : c.told.length ≤ n
  ll : c.lie.length ≤ n
  r0 : 0 ≤ c.rate
  r1 : c.rate ≤ 9999
theorem lookP_mem {ps : List (Str × Int)} {t : Str} {c : Int} (h : lookP ps t = some c) : (t, c) ∈ ps := by
  unfold lookP at h
  cases e : ps.find? fun p => decide (p.1 = t) with
  | none => rw [e] at h; cases h
  | some p =>
    rw [e] at h
    have h1 := List.mem_of_find?_eq_some e
    have h3 : decide (p.1 = t) = true := List.find?_some (p := fun p : Str × Int => decide (p.1 = t)) e
    have h2 := of_decide_eq_true h3
    cases h
    rw [← h2]; exact h1
theorem lookP_has {ps : List (Str × Int)} {t : Str} (h : hasP ps t = true) : ∃ c, lookP ps t = some c := by
  obtain ⟨p, hp, e⟩ := List.any_eq_true.mp h
  cases q : ps.find? fun p => decide (p.1 = t) with
  | none => exact absurd e (by simpa using List.find?_eq_none.mp q p hp)
  | some x => exact ⟨x.2, by unfold lookP; rw [q]; rfl⟩
theorem price_bound {told : List (Str × Int)} {t : Str} (h : ∀ p, p ∈ told → Nm p.1 ∧ 1 ≤ p.2 ∧ p.2 ≤ 1000000) : 1 ≤ priceOf told t ∧ priceOf told t ≤ 1000000 := by
  unfold priceOf
  cases e : lookP told t with
  | none => exact ⟨by decide, by decide⟩
  | some c => exact (h _ (lookP_mem e)).2
theorem sum_bound {f : Str × Int → Int} {B : Int} (B0 : 0 ≤ B) : ∀ {l : List (Str × Int)}, (∀ p, p ∈ l → 1 ≤ f p ∧ f p ≤ B) → (l.length : Int) ≤ (l.map f).sum ∧ (l.map f).sum ≤ l.length * B
  | [], _ => by simp
  | p :: l, h => by
    have ih := sum_bound B0 fun q hq => h q (List.mem_cons_of_mem _ hq)
    have hp := h p List.mem_cons_self
    rw [List.map_cons, List.sum_cons, List.length_cons]
    push_cast
    rw [Int.add_mul, Int.one_mul]
    omega
theorem worth_bound {told holding : List (Str × Int)} (ht : ∀ p, p ∈ told → Nm p.1 ∧ 1 ≤ p.2 ∧ p.2 ≤ 1000000) (hh : ∀ p, p ∈ holding → Nm p.1 ∧ 1 ≤ p.2 ∧ p.2 ≤ 1000000) : (holding.length : Int) ≤ worthM told holding ∧ worthM told holding ≤ holding.length * 1000000000000 := by
  refine sum_bound (by decide) fun p hp => ?_
  obtain ⟨_, a, b⟩ := hh p hp
  obtain ⟨c, d⟩ := price_bound (t := p.1) ht
  constructor
  · have := Int.mul_le_mul a c (by decide) (by omega); omega
  · have := Int.mul_le_mul b d (by omega) (by decide); omega
/-- what stands behind the day, by kind -/
def shapeK (k : Str) : Nat := if k ∈ (["price", "come", "go", "draw"] : List Str) then 0 else if k = "mix" then 1 else if k = "give" then 2 else if k ∈ (["rate", "levy", "hurdle"] : List Str) then 3 else if k = "harvest" then 4 else 5
def ShapeN : Nat → List PyData → Prop
  | 0, r => ∃ t p, r = [.str t, .int p]
  | 1, r => ∃ ps, r = [pairsD ps]
  | 2, r => ∃ t u p, r = [.str t, .str u, .int p]
  | 3, r => ∃ p, r = [.int p]
  | 4, r => r = []
  | _, r => ∃ t, r = [.str t]
theorem EntOf.shape {Hn Tn : Str → Prop} {L d : Int} {k : Str} {rest : List PyData} (h : EntOf Hn Tn L k d rest) : ShapeN (shapeK k) rest := by
  cases h with
  | price d0 d1 t p0 p1 => rw [show shapeK "price" = 0 by decide +kernel]; exact ⟨_, _, rfl⟩
  | mix d0 d1 h => rw [show shapeK "mix" = 1 by decide +kernel]; exact ⟨_, rfl⟩
  | come d0 d1 t p0 p1 => rw [show shapeK "come" = 0 by decide +kernel]; exact ⟨_, _, rfl⟩
  | go d0 d1 t p0 p1 => rw [show shapeK "go" = 0 by decide +kernel]; exact ⟨_, _, rfl⟩
  | draw d0 d1 t p0 p1 => rw [show shapeK "draw" = 0 by decide +kernel]; exact ⟨_, _, rfl⟩
  | give d0 d1 t u n p0 p1 => rw [show shapeK "give" = 2 by decide +kernel]; exact ⟨_, _, _, rfl⟩
  | rate d0 d1 p0 p1 => rw [show shapeK "rate" = 3 by decide +kernel]; exact ⟨_, rfl⟩
  | harvest d0 d1 => rw [show shapeK "harvest" = 4 by decide +kernel]; exact rfl
  | aside d0 d1 t => rw [show shapeK "aside" = 5 by decide +kernel]; exact ⟨_, rfl⟩
  | home d0 d1 t => rw [show shapeK "home" = 5 by decide +kernel]; exact ⟨_, rfl⟩
  | levy d0 d1 p0 p1 => rw [show shapeK "levy" = 3 by decide +kernel]; exact ⟨_, rfl⟩
  | hurdle d0 d1 p0 p1 => rw [show shapeK "hurdle" = 3 by decide +kernel]; exact ⟨_, rfl⟩
theorem alike_prs : ∀ (ps qs : List (Str × Int)), PySem.W.alikeAll (ps.map fun p => PyData.tuple [.str p.1, .int p.2]) (qs.map fun p => PyData.tuple [.str p.1, .int p.2]) = true
  | [], _ => by simp [PySem.W.alikeAll]
  | _ :: _, [] => by simp [PySem.W.alikeAll]
  | p :: ps, q :: qs => by
    rw [List.map_cons, List.map_cons, PySem.W.alikeAll, alike_prs ps qs]
    simp [PySem.W.alike, PySem.W.alikeAll]
theorem shape_alike {n : Nat} {r r' : List PyData} (h : ShapeN n r) (h' : ShapeN n r') : PySem.W.alikeAll r r' = true := by
  match n, h, h' with
  | 0, ⟨_, _, e⟩, ⟨_, _, e'⟩ => subst e e'; simp [PySem.W.alike, PySem.W.alikeAll]
  | 1, ⟨ps, e⟩, ⟨qs, e'⟩ => subst e e'; simp [PySem.W.alike, PySem.W.alikeAll, alike_prs]
  | 2, ⟨_, _, _, e⟩, ⟨_, _, _, e'⟩ => subst e e'; simp [PySem.W.alike, PySem.W.alikeAll]
  | 3, ⟨_, e⟩, ⟨_, e'⟩ => subst e e'; simp [PySem.W.alike, PySem.W.alikeAll]
  | 4, e, e' => rw [show r = [] from e]; simp [PySem.W.alikeAll]
  | n + 5, ⟨_, e⟩, ⟨_, e'⟩ => subst e e'; simp [PySem.W.alike, PySem.W.alikeAll]
theorem shape_len {n : Nat} {r : List PyData} (h : ShapeN n r) : r.length ≤ 900 := by
  match n, h with
  | 0, ⟨_, _, e⟩ => subst e; show 2 ≤ 900; decide
  | 1, ⟨ps, e⟩ => subst e; show 1 ≤ 900; decide
  | 2, ⟨_, _, _, e⟩ => subst e; show 3 ≤ 900; decide
  | 3, ⟨_, e⟩ => subst e; show 1 ≤ 900; decide
  | 4, e => rw [show r = [] from e]; show 0 ≤ 900; decide
  | n + 5, ⟨_, e⟩ => subst e; show 1 ≤ 900; decide
theorem keysOk_ents {Hn Tn : Str → Prop} {L : Int} {es : List E3} (hH : ∀ x, Hn x → TxtOk x) (hT : ∀ x, Tn x → TxtOk x) (h : ∀ e, e ∈ es → EntIn Hn Tn L e) : KeysOk ((es.map dE).map turnD) := by
  rw [List.map_map]
  refine ⟨fun d hd => ?_, fun i k r r' h1 h2 => ?_⟩
  · obtain ⟨⟨k, i, rest⟩, he, rfl⟩ := List.mem_map.mp hd
    refine ⟨i, k, rest, rfl, ?_⟩
    have hl := (h _ he).lay hH hT
    have l1 : LayN 3 (.tuple rest) := lay_tup fun d hd => hl d (List.mem_cons_of_mem _ (List.mem_cons_of_mem _ hd))
    have l2 : LayN 4 (.tuple [.int i, .str k, .tuple rest]) := lay_tup fun d hd => by
      simp only [List.mem_cons, List.not_mem_nil, or_false] at hd
      rcases hd with rfl | rfl | rfl
      · exact lay_int _
      · exact lay_str (kind_txt (EntOf.kind (h _ he)))
      · exact l1
    have := l2.2
    show (PyData.tuple [.int i, .str k, .tuple rest]).depth ≤ 32
    omega
  · obtain ⟨⟨k1, i1, r1⟩, he1, e1⟩ := List.mem_map.mp h1
    obtain ⟨⟨k2, i2, r2⟩, he2, e2⟩ := List.mem_map.mp h2
    cases e1
    cases e2
    exact shape_alike (h _ he1).shape (h _ he2).shape
theorem Nm.ok : ∀ x, Nm x → TxtOk x := fun _ h => h.txt
/-- the sorted list of an entry list's places -/
theorem ents_sorted {K : PySem.W.Frag} {H : Hp} {ys : List V} {es : List E3} (h : A2 (fun v d => Dt K H v d) ys ((es.map dE).mergeSort (PySem.W.dataLe false turnD))) : DtAll K H ys ((sortE es).map dE) := by
  rw [sortE_D] at h
  have := a2_das (f := fun d => d) h
  rwa [List.map_id'] at this
theorem s_sortKT {K : PySem.W.Frag} {P : Addr} {q : Str} {te : TE} {σ : St} {H : Hp} {Q : VK} (h : te σ H fun x H1 => SortT K P q x H1 Q) : tSortT K P q te σ H Q := h
/-- a def by its body, its code object known -/
theorem fun_okC {P : Program} {w : World} {K : PySem.W.Frag} {mg : Str → Option Value} {base : Heap} {x qual : Str} {st : Stmt} {f : Addr} {fd : FuncData} {N ps : List Str} {k : Nat} {sp : Sp} (F : Fun K x qual st f fd) (S : FnScope N ps (defScope st)) (len : ∀ vs H Q E, sp vs H Q E → vs.length = ps.length)
    (hbody : ∀ (A : Around) (outer : List Env) (s : Shared) (H : Hp) (vs : List V) (Q : VK) (E : XK), Room k (A.deeper (envOfC qual (defScope st) s.heap.objs.size f fd.code)) → sp vs H Q E →
      ∃ t, PSs (cxOf CX0 P w K mg base N qual (defScope st) f fd.code A outer s H E).nox (defBody st) t ∧ t { nx := fun _ H' => Q .non H', rt := Q } (start N vs) H) : FnOk P w K mg base CX0 (k + 1) f fd ps sp := by
  obtain ⟨oc, od, kV, doc, pm, an, cdv, ct, osl, rfl, lk, hcd⟩ := F.ex
  refine fn_of lk hcd S len fun A outer s H vs Q E hr h => ?_
  obtain ⟨t, ht, q⟩ := hbody A outer s H vs Q E hr h
  exact ⟨t, ht.nox, q⟩
/-- f(e, .., k = v, ..), no defaults, all keyword-only parameters given -/
theorem kbR {K : PySem.W.Frag} {x qual : Str} {params : Arguments} {body : List Stmt} {scope : Scope} {kws : List (Str × V)} {f : Addr} {fd : FuncData} {ps : List Str} (F : FunD K x qual params body scope [] kws f fd) (n : Nat) (ks : List Str) (g : {α : Type} → List α → List α → List α)
    (hrel : ∀ {vs zs : List V} {us ws : List Value}, Vals vs us → Vals zs ws → Vals (g vs zs) (g us ws))
    (h : ∀ (kV doc pm : Value) (an : Option Addr) (cdv ct : Value) (us ws : List Value), us.length = n → ws.length = ks.length → bindArgs (PySem.W.fnOf x qual params body scope .none kV doc pm an cdv ct) ⟨us, ks.zip ws⟩ = pure (ps.zip (g us ws))) :
    ∃ _mv : List Value, KBn K fd ps n ks (fun us ws => g us ws) (fun vs zs => g vs zs) := by
  obtain ⟨oc, od, dV, kV, doc, pm, an, cdv, ct, osl, rfl, lk, hcd, hD, hK⟩ := F.ex
  rcases hD with ⟨_, rfl⟩ | ⟨e, _⟩
  · exact ⟨[], ⟨fun s us ws X l1 l2 => .of_eq (h kV doc pm an cdv ct us ws l1 l2), fun r1 r2 => hrel r1 r2⟩⟩
  · exact absurd rfl e
end Cr

namespace Cr
/-! texts: str(x), int(x, 10), x, *rest = list, a walk over range(a, b, c) -/
section
open PySem PySem.Spec PySem.W PySem.Calls PyProof.Rows L2
def rStrU : List V → Hp → VK → Prop := fun xs H Q => (∃ i, xs = [.int i] ∧ i.natAbs.log2 < 1920 ∧ Q (.str (toString i)) H) ∨ ∃ a, xs = [.str a] ∧ Q (.str a) H
theorem call_strU {X : Cx} : CallR X (.type "str") rStrU := by
  intro pins s σ H xs us Q I r h
  rcases h with h | h
  · exact call_str_int pins s σ H xs us Q I r h
  · exact SkE.call_str_str pins s σ H xs us Q I r h
end
section
open PySem PySem.NumText PySem.Calls PyProof.Rows PySem.W.KIN L2.Hx
set_option maxHeartbeats 4000000 in
theorem gives_ten {x : PySem.Str} {u t : Tok} {n : Int} (small : x.length ≤ 640) (val : PySem.intText? x = some n) : Gives (Builtin.«int.__new__» ⟨[.type "int", .str x u, .int 10 t], []⟩) (.int n) := by
  have sz : (numSeenOf x).length ≤ 640 := Nat.le_trans (seen_length x) small
  have rd : (int_private% "readNumeral") 0 10 (numSeenOf x) = (int_private% "Numeral.value") n ∧ ((numSeenOf x).length == (numTextOf x).length) = true := by
    rcases read0 x sz with ⟨m, a1, a2, a3⟩ | ⟨a1, _⟩
    · obtain rfl : n = m := Option.some.inj (val.symm.trans a1)
      exact ⟨a3, a2⟩
    · exact absurd (val.symm.trans a1) (by simp)
  refine .of_wp fun M A E s Q done => ?_
  obtain ⟨hp, g, d, tk, os⟩ := s
  have c1 := F.conv_sub_int
  have c2 := F.madeHere_int
  have c3 : typeOf (.str x u) = pure (.type "str") := rfl
  have pk := L2.Hx.Hid.mk (And.intro sz rd)
  clear sz rd small val
  repeat (any_goals (first
    | assumption
    | ((with_reducible show wpAny _ _ ((int_private% "intFromText") _ _ _) _ _ _); refine L2.Hx.wp_textB pk.out.1 pk.out.2.1 pk.out.2.2 ?_)
    | wp_step))
  all_goals first | exact ⟨_, rfl, done⟩ | skip
theorem call_ten {prog : Program} {w : World} {A : Around} {E : Value → Shared → Prop} {s : Shared} {Q : Value → Shared → Prop} {x : PySem.Str} {u t : Tok} {n : Int} (small : x.length ≤ 640) (val : PySem.intText? x = some n)
    (done : Q (.int n s.toks) { s with toks := s.toks + 1 }) : wpAny (model prog w) A (call (.type "int") [.str x u, .int 10 t]) Q E s :=
  callType_new F.called_int F.newNe_int (L2.Hx.typeCall_int_2 _ _) (L2.Hx.newCall_int_2 _ _) (fun obj => F.initArgs_range_2 obj _ _) F.entry_int_new (gives_ten small val).meets (show (Made.int n).post _ s from ⟨rfl, done⟩)
end
section
open PySem PySem.Spec PyProof.Rows L2
/-- int(t, 10) -/
def rIntTen : List V → Hp → VK → Prop := fun xs H Q => ∃ (x : Str) (n : Int), xs = [.str x, .int 10] ∧ x.length ≤ 640 ∧ PySem.intText? x = some n ∧ Q (.int n) H
theorem call_intTen {X : Cx} : CallR X (.type "int") rIntTen := by
  intro pins s σ H xs us Q I r h
  obtain ⟨x, n, rfl, hl, hx, q⟩ := h
  obtain ⟨u, w', rfl, r1, r2⟩ := vals2 r
  obtain ⟨t1, rfl⟩ := r1
  obtain ⟨t2, rfl⟩ := r2
  exact call_ten hl hx ⟨.int n, H, I.tok _, ⟨_, rfl⟩, q⟩
end
section
open PySem PySem.Spec PySem.W PySem.Calls PyProof.Rows L2
theorem draw_one {prog : Program} {w : World} {A : Around} {E : Value → Shared → Prop} {s : Shared} {it l : Addr} {its : Array Value} {Q : List Value → Shared → Prop} (hit : s.heap.IsListIter it l 0) (hl : s.heap.IsList l its) (h1 : 1 ≤ its.size)
    (k : ∀ h', h'.IsListIter it l 1 → Heap.SameBut it s.heap h' → Q (its.toList.take 1) { s with heap := h' }) : wpAny (model prog w) A (draw (.ref it) 1) Q E s := by
  show wpAny _ _ (pyNext (.ref it) >>= _) Q E s
  refine wpAny_bind (wpAny_pyNext_list_item hit hl (x := its[0]) (by simp) fun ha ia sa => ?_)
  refine wpAny_bind (wpAny_holding ?_)
  show wpAny _ _ (pure []) _ _ _
  refine wpAny_pure (wpAny_pure ?_)
  have e : its.toList.take 1 = [its[0]] := by
    obtain ⟨l⟩ := its
    cases l with
    | nil => simp at h1
    | cons a r => rfl
  have := k ha ia sa
  rw [e] at this
  exact this
theorem star_itemsL {prog : Program} {w : World} {A : Around} {E : Value → Shared → Prop} {s : Shared} {t : Addr} {its : Array Value} {Q : List Value → Shared → Prop} (hh : A.handled = none) (ht : s.heap.IsList t its) (h1 : 1 ≤ its.size) (hz : its.size ≤ 1000)
    (k : ∀ h' tk, (∀ b o, s.heap.get? b = some o → h'.get? b = some o) → wpAny (model prog w) A (newList (its.toList.drop 1)) (fun d u => Q (its.toList.take 1 ++ [d]) u) E { s with heap := h', toks := tk }) : wpAny (model prog w) A (unpackItems (.ref t) 2 (some 1)) Q E s := by
  have tne : t ≠ s.heap.objs.size := by obtain ⟨o, ho, _⟩ := ht; exact Nat.ne_of_lt (Heap.lt_size ho)
  have big : its.size ≤ sizeLine := Nat.le_of_lt (L2.small1000 hz)
  unfold unpackItems
  refine wpAny_bind ?_
  unfold notIterableAtAll
  refine wpAny_bind (wpAny_specialOf ht.typeIs PySem.F.slot_list_iter.lookup (wpAny_pure ?_))
  simp only [Bool.false_eq_true, if_false]
  refine wpAny_bind (wpAny_holding (wpAny_pyIter_list ht (wpAny_bind (wpAny_holding (draw_one ⟨_, Heap.get?_push_size _ rfl, rfl, rfl⟩ (ht.push _) h1 fun ha ia sa => ?_)))))
  have ta : ha.IsList t its := (ht.push _).extBut sa.extBut tne
  obtain ⟨oi, gi, ri⟩ := id ia
  obtain ⟨ol, gl, rl⟩ := id ta
  have fl : (its.toList.take 1).length = 1 := by rw [List.length_take, Array.length_toList]; omega
  rw [if_neg (show ¬ ((its.toList.take 1).length < 1) by rw [fl]; omega)]
  refine wpAny_bind (wpAny_holding (kun_collect (s := { s with heap := ha }) (T := "list_iterator") (.inr (.inr (.inl rfl))) (Walks.list (A := A.in1) hh s.heap.objs.size t tne its) (fun _ _ st => st.1.typeIs) (k := 1) (by omega) ⟨ia, ta⟩ (Heap.lt_size gi) (Heap.lt_size gl) (fun hb tk kb => ?_) big))
  have len : (its.toList.drop 1).length = its.size - 1 := by rw [List.length_drop, Array.length_toList]
  show wpAny _ _ (if (its.toList.drop 1).length < 0 then _ else _) _ _ _
  rw [if_neg (Nat.not_lt_zero _)]
  show wpAny _ _ (newList ((its.toList.drop 1).take ((its.toList.drop 1).length - 0)) >>= fun d => pure (its.toList.take 1 ++ [d] ++ (its.toList.drop 1).drop ((its.toList.drop 1).length - 0))) _ _ _
  rw [Nat.sub_zero, List.take_length, List.drop_length]
  refine wpAny_bind (wpAny_mono (k hb tk fun b o e => ?_) (fun d u q => wpAny_pure ?_) fun _ _ x => x)
  · have nb : b ≠ s.heap.objs.size := Nat.ne_of_lt (Heap.lt_size e)
    exact kb b o nb (sa.extBut b o nb (Heap.get?_push_of_some _ e))
  · rw [List.append_nil]; exact q
theorem star_bindL {prog : Program} {w : World} {A : Around} {E : Value → Shared → Prop} {s : Shared} {t : Addr} {its : Array Value} {env : Env} {elts : List Expr} {k : Nat} {pos : Pos} {Q : Unit → Shared → Prop} (hh : A.handled = none) (ht : s.heap.IsList t its) (h1 : 1 ≤ its.size) (hz : its.size ≤ 1000) (two : (assignEach elts env).length = 2) (at1 : (assignEach elts env).findIdx? (·.1) = some 1)
    (h : ∀ h' tk, (∀ b o, s.heap.get? b = some o → h'.get? b = some o) → wpAny (model prog w) A (newList (its.toList.drop 1)) (fun d u => wpAny (model prog w) A (assignInOrder ((assignEach elts env).map (·.2)) (its.toList.take 1 ++ [d])) Q E u) E { s with heap := h', toks := tk }) : wpAny (model prog w) A (assign (.Tuple elts k pos) env (.ref t)) Q E s := by
  rw [assign_Tuple]
  refine wpAny_bind (wpAny_standAt ?_)
  unfold unpack
  rw [two, at1]
  exact wpAny_bind (wpAny_holding (star_itemsL hh ht h1 hz h))
/-- x, *rest = l of a list: the rest is a new list -/
def gStarL (K : PySem.W.Frag) (t : TGs) : TG := fun v σ H Q => ∃ a x xs, v = V.ref a ∧ SqL K H a (x :: xs) ∧ xs.length ≤ 900 ∧ ∀ p, H p = none → t [x, .ref p] σ (upd H p (.lst xs)) Q
theorem pg_starL {X : Cx} {e0 e1 : Expr} {p1 : Pos} {k : Nat} {t : TGs} {pos : Pos} (hc : X.calm = true) (h : PGs X [e0, e1] t) (two : (assignEach [e0, .Starred e1 p1] X.env).length = 2 := by rfl) (at1 : (assignEach [e0, .Starred e1 p1] X.env).findIdx? (·.1) = some 1 := by rfl)
    (same : (assignEach [e0, .Starred e1 p1] X.env).map (·.2) = (assignEach [e0, e1] X.env).map (·.2) := by rfl) : PG X (.Tuple [e0, .Starred e1 p1] k pos) (gStarL X.K t) := by
  refine ⟨fun pins s σ H v u Q I r hw => ?_⟩
  obtain ⟨a, x, xs, rfl, hq, hl, hw⟩ := hw
  cases r
  obtain ⟨its, rv, ht, hz⟩ := I.list hq
  have len := rv.length
  rw [List.length_cons] at len
  cases rv with
  | @cons _ u0 _ us r0 rs =>
    refine star_bindL (I.ok.hd hc) ht.isList (by simp) (by simp only [List.size_toArray]; omega) two at1 fun h' tk keep => ?_
    have I1 : Inv X pins σ H { s with heap := h', toks := tk } := I.kept (t' := tk) keep
    have e2 : (u0 :: us).toArray.toList.drop 1 = us := rfl
    have e3 : (u0 :: us).toArray.toList.take 1 = [u0] := rfl
    rw [e2, e3]
    refine wpAny_newList ?_ (Nat.le_of_lt (L2.small1000 (by rw [← rs.length]; omega)))
    have I2 : Inv X pins σ (upd H h'.objs.size (.lst xs)) { s with heap := h'.push { cls := .type "list", data := .seq us.toArray }, toks := tk } :=
      I1.laid (t' := tk) (fun b o e => Heap.get?_push_of_some _ e) (Nat.le_refl _) ⟨Nat.le_of_lt (L2.small1000 (by omega)), us, 0, rs, Heap.get?_push_size _ rfl⟩
    rw [same]
    exact h.run pins _ σ _ _ _ Q I2 (.cons r0 (.cons (show L2.RelV (V.ref h'.objs.size) (Value.ref h'.objs.size) from rfl) .nil)) (hw _ (I1.hok.fresh (Nat.le_refl _)))
end
end Cr
namespace Cr
section
open PySem PySem.Spec PyProof.Rows L2 L2.DX LamX
variable {K : PySem.W.Frag} {σ : St} {H : Hp} {Q : VK} {D : Ends}
theorem s_strI {i : Int} (h : i.natAbs.log2 < 1920) (q : Q (.str (toString i)) H) : rStrU [.int i] H Q := .inl ⟨i, rfl, h, q⟩
theorem s_strS {a : Str} (q : Q (.str a) H) : rStrU [.str a] H Q := .inr ⟨a, rfl, q⟩
theorem s_intTen {x : Str} {n : Int} (h : x.length ≤ 640) (e : PySem.intText? x = some n) (q : Q (.int n) H) : rIntTen [.str x, .int 10] H Q := ⟨x, n, rfl, h, e, q⟩
theorem s_gstarL {a : Addr} {x : V} {xs : List V} {t : TGs} {N : St → Hp → Prop} (hs : SqL K H a (x :: xs)) (l : xs.length ≤ 900) (h : ∀ p, H p = none → t [x, .ref p] σ (upd H p (.lst xs)) N) : gStarL K t (.ref a) σ H N := ⟨a, x, xs, rfl, hs, l, h⟩
/-- a comprehension over range(lo, .., c) -/
theorem c_rangeC {lo c : Int} {n : Nat} {g : TG} {te : TE} {vs : List Nat} (R : Hp → Nat → V → Prop) (rm : ∀ A B z y, KT A B → R A z y → R B z y) (hz : n ≤ 1000)
    (turn : ∀ (i : Nat) A (N : V → Hp → Prop), i < n → Same H A → (∀ y B, Same A B → R B i y → N y B) → g (.int (lo + (i : Nat) * c)) (wipe σ vs) A fun σ2 B => wipe σ2 vs = wipe σ vs ∧ te σ2 B N)
    (fin : ∀ p ys A, Same H A → H p = none → A p = some (.lst ys) → A2 (R A) (List.range n) ys → Q (.ref p) A) : LcR (Itc lo c n) g tYes te vs σ H Q := by
  intro p hp
  refine ⟨fun i m A => m = n - i ∧ i ≤ n ∧ Same H A ∧ ∃ ys, A p = some (.lst ys) ∧ A2 (R A) (List.range i) ys, ⟨_, rfl, Nat.zero_le _, same_new hp, [], upd_same, .nil⟩, ?_⟩
  rintro i m A ⟨rfl, hi, sm, ys, h1, h2⟩
  by_cases hlt : i < n
  · refine .inr ⟨hlt, fun A' => i + 1 ≤ n ∧ Same H A' ∧ ∃ ys, A' p = some (.lst ys) ∧ A2 (R A') (List.range (i + 1)) ys, fun A' h => ⟨n - (i + 1), by omega, rfl, h⟩, fun v A' y => ?_⟩
    obtain ⟨rfl, rfl⟩ := y
    refine turn i A' _ hlt sm fun y B sb r => ?_
    have hB := sb _ _ h1
    have kt : KT B (upd B p (.lst (ys ++ [y]))) := kt_mut hB rfl
    have len : ys.length = i := by rw [← h2.len, List.length_range]
    refine ⟨_, hB, L2.small1000 (by omega), hlt, same_mut (sm.trans sb) hp, ys ++ [y], upd_same, ?_⟩
    rw [List.range_succ]
    exact A2.snoc (rm _ _ _ _ kt r) (h2.mono fun _ _ z => rm _ _ _ _ ((kt_same sb).trans kt) z)
  · obtain rfl : i = n := by omega
    exact .inl ⟨Nat.le_refl _, fin p ys A sm hp h1 h2⟩
/-! words and lines -/
def numT (i : Int) : Str := toString i
theorem numT_tl (n : Nat) : TL.tl (numT (n : Int)) = TL.numL n := TL.tl_num n
theorem numT_int {n : Nat} (h : n < 10 ^ 12) : PySem.intText? (numT (n : Int)) = some (n : Int) := TL.int_num (Nat.le_trans (TL.numL_len (k := 12) (by decide) h) (by decide))
theorem numT_len {n : Nat} (h : n < 10 ^ 12) : (numT (n : Int)).cps.size ≤ 12 := by
  have e : (numT (n : Int)).cps.size = (TL.numL n).length := by rw [← numT_tl]; exact (Array.length_toList).symm
  rw [e]
  exact TL.numL_len (by decide) h
theorem numT_pos (n : Nat) : 1 ≤ (numT (n : Int)).cps.size := by
  have e : (numT (n : Int)).cps.size = (TL.numL n).length := by rw [← numT_tl]; exact (Array.length_toList).symm
  rw [e]
  exact List.length_pos_iff.mpr (TL.numL_ne n)
theorem numT_dig {n c : Nat} (h : c ∈ (numT (n : Int)).cps.toList) : 48 ≤ c ∧ c ≤ 57 := by
  have : c ∈ TL.numL n := by rw [← numT_tl]; exact h
  by_cases z : c < 48 ∨ 57 < c
  · exact absurd this (TL.numL_free z)
  · omega
theorem numL_head : ∀ {n : Nat}, 0 < n → ∃ c r, TL.numL n = c :: r ∧ 49 ≤ c := by
  intro n
  induction n using Nat.strongRecOn with
  | _ n ih =>
    intro h
    by_cases h10 : n < 10
    · exact ⟨48 + n, [], TL.numL_lt h10, by omega⟩
    · obtain ⟨c, r, e, hc⟩ := ih (n / 10) (by omega) (by omega)
      exact ⟨c, r ++ [48 + n % 10], by rw [TL.numL_step (by omega), e]; rfl, hc⟩
theorem numT_free (n : Nat) : 32 ∉ TL.tl (numT (n : Int)) := by
  rw [numT_tl]
  exact TL.numL_free (.inl (by decide))
theorem nm_free {t : Str} (h : Nm t) : 32 ∉ TL.tl t := fun z => by have := (h.2.2 32 z).1; omega
theorem join_cons (y a : Str) {l : List Str} (h : l ≠ []) : Str.join y (a :: l) = a ++ y ++ Str.join y l := by
  cases l with
  | nil => exact absurd rfl h
  | cons b l => rfl
def pairT (p : Str × Int) : Str := p.1 ++ " " ++ numT p.2
def flatP : List (Str × Int) → List Str
  | [] => []
  | p :: ps => p.1 :: numT p.2 :: flatP ps
theorem flatP_len : ∀ ps : List (Str × Int), (flatP ps).length = 2 * ps.length
  | [] => rfl
  | p :: ps => by rw [flatP, List.length_cons, List.length_cons, flatP_len ps, List.length_cons]; omega
theorem flatP_ne {ps : List (Str × Int)} (h : ps ≠ []) : flatP ps ≠ [] := fun z => by
  have := congrArg List.length z
  rw [flatP_len] at this
  cases ps with
  | nil => exact h rfl
  | cons p ps => rw [List.length_cons, List.length_nil] at this; omega
theorem str_assoc (a b c : Str) : a ++ b ++ c = a ++ (b ++ c) := TL.ext_tl (by simp only [TL.tl_append, List.append_assoc])
theorem join_pairs : ∀ {ps : List (Str × Int)}, ps ≠ [] → Str.join " " (ps.map pairT) = Str.join " " (flatP ps)
  | [], h => absurd rfl h
  | [p], _ => rfl
  | p :: q :: r, _ => by
    rw [List.map_cons, join_cons _ _ (by simp), flatP, join_cons _ _ (by simp), join_cons _ _ (flatP_ne (by simp)), join_pairs (ps := q :: r) (by simp)]
    unfold pairT
    simp only [str_assoc]
theorem flatP_at : ∀ {ps : List (Str × Int)} {i : Nat} {p : Str × Int}, ps[i]? = some p → (flatP ps)[2 * i]? = some p.1 ∧ (flatP ps)[2 * i + 1]? = some (numT p.2)
  | p :: ps, 0, _, h => by cases h; exact ⟨rfl, rfl⟩
  | p :: ps, i + 1, q, h => by
    have h' : ps[i]? = some q := h
    obtain ⟨h1, h2⟩ := flatP_at h'
    exact ⟨h1, h2⟩
def wordD : PyData → Str
  | .str s => s
  | .int i => numT i
  | _ => ""
/-- the words of an entry -/
def flatD : List PyData → List Str
  | .tuple [.str t, .int c] :: r => t :: numT c :: flatD r
  | _ => []
theorem flatD_P : ∀ ps : List (Str × Int), flatD (ps.map fun p => PyData.tuple [.str p.1, .int p.2]) = flatP ps
  | [] => rfl
  | p :: ps => by rw [List.map_cons, flatD, flatD_P ps, flatP]
def wordsOf (k : Str) (d : Int) : List PyData → List Str
  | [.tuple es] => k :: numT d :: flatD es
  | rest => k :: numT d :: rest.map wordD
def lineE (k : Str) (d : Int) (rest : List PyData) : Str := Txt.join " " (wordsOf k d rest)
theorem lineE_mix (k : Str) (d : Int) {ps : List (Str × Int)} (h : ps ≠ []) : lineE k d [pairsD ps] = Txt.join " " (k :: numT d :: ps.map pairT) := by
  unfold lineE
  rw [TL.join_eq, TL.join_eq]
  show Str.join " " (k :: numT d :: flatD (ps.map fun p => PyData.tuple [.str p.1, .int p.2])) = _
  rw [flatD_P, join_cons _ _ (by simp), join_cons _ (numT d) (flatP_ne h), join_cons _ k (by simp), join_cons _ (numT d) (by simpa using h), join_pairs h]
theorem sp_text : TL.tl " " = [32] := by decide +kernel
theorem split_words {ws : List Str} (h : ws ≠ []) (hf : ∀ p, p ∈ ws → 32 ∉ TL.tl p) : Txt.split (Txt.join " " ws) " " = ws := TL.split_join (s := 32) (S := []) sp_text (by decide +kernel) h hf
end
end Cr

namespace Cr
/-! the law's def at the top, where no repr is under way; repr of lists and tuples there -/
section
open PySem PySem.Spec PyProof.Rows L2
def TopOk (P : Program) (w : World) (K : PySem.W.Frag) (mg : Str → Option Value) (base : Heap) (f : Addr) (fd : FuncData) (ps : List Str) (sp : Sp) : Prop :=
  ∀ (s : Shared) (H : Hp) (args : Args) (us : List Value) (vs : List V) (Q : VK) (E : XK), Env0 P w K mg base callerA [] s H → BindsTo s fd args (ps.zip us) → Vals vs us → sp vs H Q E →
    codeAny (model P w) callerA (.call (.ref f) args) (CR CX0 [] P w H s Q E) s
theorem topOk_of {P : Program} {w : World} {K : PySem.W.Frag} {mg : Str → Option Value} {base : Heap} {x qual : Str} {st : Stmt} {f : Addr} {fd : FuncData} {N ps : List Str} {k : Nat} {sp : Sp} (F : Fun K x qual st f fd) (S : FnScope N ps (defScope st)) (len : ∀ vs H Q E, sp vs H Q E → vs.length = ps.length) (room : Room (k + 1) callerA)
    (body : ∀ (cdv : Value) (A : Around) (outer : List Env) (s : Shared) (H : Hp) (vs : List V) (Q : VK) (E : XK), A.guards = some [] → Room k (A.deeper (envOfC qual (defScope st) s.heap.objs.size f cdv)) → sp vs H Q E →
      ∃ t, PSs (cxOf CX0 P w K mg base N qual (defScope st) f cdv A outer s H E).nox (defBody st) t ∧ t { nx := fun _ H' => Q .non H', rt := Q } (start N vs) H) : TopOk P w K mg base f fd ps sp := by
  obtain ⟨oc, od, kV, doc, pm, an, cdv, ct, osl, rfl, at1, code⟩ := F.ex
  intro s H args us vs Q E env bound rel says
  have many := len _ _ _ _ says
  have here : K.In s.heap := env.mod.kin.keeps fun b o e => (env.bs b o e).1
  have free : s.heap.NoLimit := env.mod.nolimit.keeps fun b o e => (env.bs b o e).1
  refine codeAny_call_function room.depth (here _ _ at1) rfl S.co S.gen rfl (PySem.W.codeRec_of here code) (bound _ _ _ _ ?_)
  have places : ∀ y ∈ ps.zip us, (defScope st).names.lookup y.1 = some .local ∨ ((defScope st).names.lookup y.1 = some .cell ∧ ((cellsFrom (s.heap.objs.size + 1) (defScope st).names []).lookup y.1).isSome = true) := by
    rintro ⟨y, v⟩ hy
    rcases S.par y (List.of_mem_zip hy).1 with z | z
    · exact .inl z
    · exact .inr ⟨z, PySem.W.cellsFrom_some _ _ _ (.inl z)⟩
  refine wpAny_newFunctionEnv_cells S.kind places fun ev eev s1 laid => ?_
  subst eev
  refine ⟨free.keeps laid.toInCall.keep, codeAny_func ?_⟩
  obtain ⟨t, reads, post⟩ := body cdv callerA [] s H vs Q E rfl (room.deeper _) says
  have inv : Inv (cxOf CX0 P w K mg base N qual (defScope st) f cdv callerA [] s H E) [] (start N vs) H s1 := inv_start S room.hd env many rel laid
  refine wpAny_mono (reads.nox.run [] s1 (start N vs) H _ inv post) (fun fl s' got => ?_) fun e s' bad => bad
  cases fl with
  | ret u =>
    obtain ⟨v, σ', H', J, rv, q⟩ := got
    exact ⟨v, H', J.os, J.bare, J.base, J.hok, rv, q⟩
  | next =>
    obtain ⟨σ', H', J, q⟩ := got
    exact ⟨V.non, H', J.os, J.bare, J.base, J.hok, (rfl : RelV V.non Value.none), q⟩
  | brk =>
    obtain ⟨_, _, _, q⟩ := got
    exact q.elim
  | cont =>
    obtain ⟨_, _, _, q⟩ := got
    exact q.elim
/-- what a law's heap tracks: the script, or nothing -/
structure Script (P : Program) (w : World) (K : PySem.W.Frag) (h : Heap) (a : Addr) (o : Obj) (xs : List V) (H : Hp) : Prop where
  seq : SqL K H a xs
  ok : HOk P w H h
  one : ∀ b u, H b = some u → b = a ∧ u = .frz o (.lst xs)
  out : ∀ u, H a = some u → K.lookup a = none
theorem script_in {P : Program} {w : World} {K : PySem.W.Frag} {h : Heap} {a : Addr} {vs : List Value} {ns : List Int} (KX : K.In h) (ha : h.get? a = some { cls := .type "list", data := .seq vs.toArray }) (hi : IntsAre vs ns) (hl : ns.length ≤ sizeLine) :
    ∃ H, Script P w K h a { cls := .type "list", data := .seq vs.toArray } (ns.map V.int) H := by
  have rel := vals_ints hi
  cases hk : K.lookup a with
  | some o =>
    have same := KX a o hk
    rw [ha] at same
    cases same
    exact ⟨fun _ => none, .inr ⟨_, vs.toArray, _, hk, rfl, rfl, rfl, by rw [List.size_toArray, hi.length]; exact hl, by simpa using rel⟩, (fun b u z => nomatch z), (fun b u z => nomatch z), fun u z => nomatch z⟩
  | none =>
    refine ⟨fun b => if b = a then some (.frz { cls := .type "list", data := .seq vs.toArray } (.lst (ns.map V.int))) else none, .inl (.inr ⟨_, if_pos rfl⟩), fun b u z => ?_, fun b u z => ?_, fun _ _ => hk⟩
    · by_cases e : b = a
      · subst e
        rw [if_pos rfl] at z
        cases z
        exact ⟨ha, by rw [List.length_map]; exact hl, vs, _, rel, ha⟩
      · rw [if_neg e] at z
        exact nomatch z
    · by_cases e : b = a
      · rw [if_pos e] at z
        cases z
        exact ⟨e, rfl⟩
      · rw [if_neg e] at z
        exact nomatch z
theorem top_call {P : Program} {w : World} {K : PySem.W.Frag} {mg mb : Str → Option Value} {fa a : Addr} {fd : FuncData} {x : Str} {sp : Sp} {s : Shared} {vs : List Value} {ns : List Int}
    (KX : K.In s.heap) (glob : s.heap.Ns mainGlobals mg) (blt : s.heap.Ns builtinsNs mb) (boot : ∀ x : Str, x ≠ "__name__" → mb x = bootBuiltins x) (lim : s.heap.NoLimit) (gens : s.gens = #[])
    (ha : s.heap.get? a = some { cls := .type "list", data := .seq vs.toArray }) (hi : IntsAre vs ns) (hl : ns.length ≤ sizeLine)
    (F : ∀ base : Heap, K.In base → base.Ns mainGlobals mg → TopOk P w K mg base fa fd [x] sp) (binds : ∀ (s : Shared) (u : Value), BindsTo s fd ⟨[u], []⟩ [(x, u)])
    (says : ∀ H : Hp, SqL K H a (ns.map V.int) → sp [.ref a] H (fun v _ => v = .bl true) fun _ _ _ => False) :
    codeAny (model P w) callerA (.call (.ref fa) ⟨[.ref a], []⟩) (fun r s' => r = .ok (.ret (.bool true)) ∧ OldK s.heap s'.heap ∧ s'.os = s.os ∧ AllBare s'.gens) s := by
  obtain ⟨H, sc⟩ := script_in (P := P) (w := w) KX ha hi hl
  have dictsFree : ∀ {b : Addr} {o : Obj} {es : Array DictEntry} {ep : Nat}, s.heap.get? b = some o → o.data = .dict es ep → H b = none := by
    intro b o es ep e d
    cases q : H b with
    | none => rfl
    | some u =>
      obtain ⟨rfl, _⟩ := sc.one b u q
      rw [ha] at e
      cases e
      exact nomatch (d : Data.seq vs.toArray _ = Data.dict es ep)
  have names : ∀ {b : Addr} {m : Str → Option Value}, s.heap.Ns b m → (hidT s.heap H).Ns b m := by
    rintro b m ⟨o, es, ep, e, d, r⟩
    exact ⟨o, es, ep, hidT_get e (dictsFree e d), d, r⟩
  have base : K.In (hidT s.heap H) := by
    intro b o e
    refine hidT_get (KX b o e) ?_
    cases q : H b with
    | none => rfl
    | some u =>
      obtain ⟨rfl, _⟩ := sc.one b u q
      rw [sc.out u q] at e
      exact nomatch e
  have md : Mod K mg (hidT s.heap H) := ⟨base, names glob, ⟨mb, names blt, boot⟩, by
    obtain ⟨mc, l1, l2⟩ := lim
    exact ⟨mc, names l1, l2⟩⟩
  have env : Env0 P w K mg (hidT s.heap H) callerA [] s H := ⟨rfl, md, (fun b o e => of_hidT e), Nat.le_of_eq (hidT_size _ _), trivial, (fun b hb => nomatch hb), sc.ok, .of_eq gens⟩
  refine codeAny_mono (F _ base (names glob) s H ⟨[.ref a], []⟩ [.ref a] [.ref a] _ _ env (binds s (.ref a)) (.cons rfl .nil) (says H sc.seq)) fun r s' got => ?_
  cases r with
  | error e => exact got.elim
  | ok fl =>
    cases fl with
    | next => exact got.elim
    | brk => exact got.elim
    | cont => exact got.elim
    | ret u =>
      obtain ⟨v, H', os, bare, un, ok', rv, q⟩ := got
      obtain rfl : v = .bl true := q
      obtain rfl : u = Value.bool true := rv
      refine ⟨rfl, OldK.of_keep fun b o e => ?_, os, bare⟩
      cases q : H b with
      | none => exact un.keep b o e q (fun z => nomatch z) (fun z => nomatch z)
      | some v =>
        obtain ⟨rfl, rfl⟩ := sc.one b v q
        obtain ⟨g1, _⟩ := sc.ok _ _ q
        obtain ⟨g2, _⟩ := ok' _ _ (un.frzs _ _ _ q)
        rw [e] at g1
        cases g1
        exact g2
theorem walk_top {l : PySem.W.OpenLaw} {n : Nat} {q : Program} {loose : List Str} {XP : (Str → Option Value) → Heap → Prop} {YP : World → Heap → Prop} {d : DefRec} {K : Params → PySem.W.Frag} {sp : World → Sp} {x : Str}
    (hn : l.most = some n) (hn2 : n ≤ sizeLine) (hdf : d.params.defaults = []) (hY : ∀ (w : World) (h : Heap), YP w h → (K w.params).In h)
    (F : ∀ (w : World) (mg : Str → Option Value) (fa : Addr) (h : Heap), (K w.params).In h → h.Ns mainGlobals mg → mg d.name = some (.ref fa) →
      ∃ fd : FuncData, (∀ (s : Shared) (u : Value), BindsTo s fd ⟨[u], []⟩ [(x, u)]) ∧ ∀ base : Heap, (K w.params).In base → base.Ns mainGlobals mg → TopOk l.prog w (K w.params) mg base fa fd [x] (sp w))
    (says : ∀ (w : World) (H : Hp) (a : Addr) (ns : List Int), ns.length ≤ n → SqL (K w.params) H a (ns.map V.int) → sp w [.ref a] H (fun v _ => v = .bl true) fun _ _ _ => False) :
    PySem.W.WalkO q loose XP YP l.row.toRowW d [] (fun f vs => PySem.call f vs) := by
  refine Att.attach_call hn hdf fun w s0 s mg mb fa o pm cd doc a vs ns G Y ho hd hcd hmg hobj hints hlen hg => ?_
  have inK := hY w _ Y
  obtain ⟨fd, binds, ok⟩ := F w mg fa _ inK G.T.g hmg
  exact top_call inK G.T.g G.T.b G.T.builtins G.T.nolimit hg hobj hints (Nat.le_trans hlen hn2) ok binds fun H seq => says w H a ns hlen seq
end
end Cr
namespace Cr
section
open PySem PySem.Spec PyProof.Rows L2
/-- repr(x) of a list or tuple of data, or of a whole number -/
def rReprU (K : PySem.W.Frag) : List V → Hp → VK → Prop := fun xs H Q => (∃ a d, xs = [.ref a] ∧ Dp K H (.ref a) d ∧ d.showable = true ∧ d.hasDict = false ∧ d.depth ≤ 64 ∧ d.shown.length ≤ sizeLine ∧ Q (.str d.shown) H) ∨ ∃ i, xs = [.int i] ∧ i.natAbs.log2 < 1920 ∧ Q (.str (toString i)) H
theorem call_reprU {X : Cx} {k : Nat} (hr : Room k X.A) (hg : X.A.guards = some []) : CallR X (.builtin "repr") (rReprU X.K) := by
  intro pins s σ H xs us Q I r h
  rcases h with ⟨a, d, rfl, hd, hs, hn, hz, hl, q⟩ | h
  · obtain ⟨u, rfl, ru⟩ := vals1 r
    obtain ⟨as, rd⟩ := Dp.reads I _ _ _ hd ru
    cases ru
    refine repr_of_reads' rd hs (fun z => by rw [hn] at z; cases z) hg (by have := hr.un; omega) (fun b o e => e) (fun h' u tk keep => ⟨.str d.shown, H, I.kept (t' := tk) keep, ⟨_, rfl⟩, q⟩) hl
  · exact SkE.call_repr_int pins s σ H xs us Q I r h
end
end Cr

namespace Cr
/-! sorted(..) without key of (whole number, text, tuple) triples whose tuples differ in shape where the first two do -/
section
open PySem PySem.Spec PySem.W PySem.Calls PyProof.Rows L2
def rSortK (K : PySem.W.Frag) : List V → Hp → VK → Prop := fun vs H Q => ∃ (a : Addr) (xs : List V) (ds : List PyData), vs = [.ref a] ∧ SqL K H a xs ∧ DtAll K H xs ds ∧ KeysOk ds ∧ xs.length ≤ 1000 ∧
  ∀ p ys, H p = none → ys.Perm xs → A2 (fun y d => Dt K H y d) ys (sortD ds) → Q (.ref p) (upd H p (.lst ys))
theorem call_sortK {X : Cx} (hu : X.A.units + 64 < cLine) : CallR X (.builtin "sorted") (rSortK X.K) := by
  intro pins s σ H vs us Q I r h
  obtain ⟨a, xs, ds, rfl, hs, hd, hk, hz, q⟩ := h
  rw [Vals.ref1 r]
  obtain ⟨its, rv, pl, _⟩ := I.list hs
  obtain ⟨o, ho, hc, n, hdat⟩ := pl.isList
  have hil : its.length ≤ 1000 := by rw [← rv.length]; exact hz
  have hL : its.length ≤ sizeLine := Nat.le_of_lt (L2.small1000 hil)
  refine Calls.call_function_entry kind_sorted plain_sorted entry_sorted (args_sorted1 _) ?_
  unfold Builtin.«sorted»
  refine wpAny_bind (m := checkCount "sorted" 1 1 _) (wpAny_pure ?_)
  refine wpAny_bind (wpAny_collect_seq a (.inl rfl) ho hc hdat (fun h1 keep1 => ?_) (by rw [List.size_toArray]; exact hL))
  rw [show its.toArray.toList = its by simp]
  refine wpAny_bind (wpAny_newList ?_ hL)
  have I1 : Inv X pins σ H { s with heap := h1 } := I.kept (t' := s.toks) keep1
  generalize hh2 : h1.push { cls := .type "list", data := .seq its.toArray } = h2
  generalize hp : h1.objs.size = p
  have at2 : h2.get? p = some (seqObj "list" its.toArray 0) := by rw [← hh2, ← hp]; exact Heap.get?_push_size _ rfl
  have old2 : ∀ b o, h1.get? b = some o → h2.get? b = some o := fun b o e => by rw [← hh2]; exact Heap.get?_push_of_some _ e
  have nep : ∀ b o, h1.get? b = some o → b ≠ p := fun b o e => by rw [← hp]; exact Nat.ne_of_lt (Heap.lt_size e)
  have lens : its.length = (xs.zip ds).length := (pairs_each rv hd).length
  obtain ⟨zf, zs, zd⟩ := zip_dt hd
  have er : EachIs (fun v (b : V × PyData) => ∃ as, Reads (sortingHeap h2 p its) v b.2 as) its (xs.zip ds) := (pairs_each rv hd).mono fun v b ⟨r1, d1⟩ => by
    obtain ⟨as, rd⟩ := Dp.reads I1 _ _ _ d1.dp r1
    exact ⟨as, PyProof.Rows.Reads.keeps (fun b o e => sortingHeap_old (nep b o e) (old2 b o e)) rd⟩
  have hk' : KeysOk ((xs.zip ds).map Prod.snd) := by rw [zs]; exact hk
  have em : EachIs (fun v d => ∃ as, Reads (sortingHeap h2 p its) v d as) its ((xs.zip ds).map Prod.snd) := each_map (R := fun v d => ∃ as, Reads (sortingHeap h2 p its) v d as) Prod.snd er
  refine wpAny_bind (wpAny_holding (wpAny_call_entry slot_list_sort ⟨_, at2, rfl⟩ entry_list_sort (list_sort_vals (κ := dataKind (sortingHeap h2 p its) ((xs.zip ds).map Prod.snd)) at2 (KeysOk.sorts (s := { s with heap := sortingHeap h2 p its }) hk' em (by show X.A.units + 1 + 1 + 32 < cLine; omega)) hL ⟨.none, rfl, ?_⟩) (args_list_sort _)))
  have keyed : EachIs (fun v (b : V × PyData) => (dataKind (sortingHeap h2 p its) ((xs.zip ds).map Prod.snd)).keyOf v = some (keyToks b.2)) its (xs.zip ds) :=
    (each_mem er).mono fun v b ⟨⟨as, rd⟩, hb⟩ => KeysOk.key hk' (List.mem_map.mpr ⟨b, hb, rfl⟩) rd
  have out : EachIs (fun v (b : V × PyData) => RelV b.1 v) (sortVals (dataKind (sortingHeap h2 p its) ((xs.zip ds).map Prod.snd)) false its its) ((xs.zip ds).mergeSort (dataLe false Prod.snd)) :=
    sortVals_each (κ := dataKind (sortingHeap h2 p its) ((xs.zip ds).map Prod.snd)) (fun b : V × PyData => keyToks b.2) ((pairs_each rv hd).mono fun _ _ z => z.1) keyed
  clear hL
  generalize sortVals (dataKind (sortingHeap h2 p its) ((xs.zip ds).map Prod.snd)) false its its = got at out ⊢
  obtain ⟨c, at3⟩ := sortedHeap_at (out := got.toArray) at2
  have sz2 : h2.objs.size = p + 1 := by rw [← hh2, ← hp, Heap.size_push]
  have keep3 : ∀ b o, h1.get? b = some o → (sortedHeap h2 p its got.toArray).get? b = some o := fun b o e => by
    have lt : b < h2.objs.size := Nat.lt_of_lt_of_le (Heap.lt_size e) (by rw [sz2, hp]; exact Nat.le_succ _)
    rw [sortedHeap_old (nep b o e) lt]
    exact old2 b o e
  have pm := (List.mergeSort_perm (xs.zip ds) (dataLe false Prod.snd))
  have ys_len : (((xs.zip ds).mergeSort (dataLe false Prod.snd)).map Prod.fst).length ≤ sizeLine := by
    rw [List.length_map, pm.length_eq, ← lens]
    exact Nat.le_of_lt (L2.small1000 hil)
  have I3 := I1.laid (t' := s.toks) (a := p) (o := .lst (((xs.zip ds).mergeSort (dataLe false Prod.snd)).map Prod.fst)) keep3 (Nat.le_of_eq hp) ⟨ys_len, got, c, vals_each out, at3⟩
  refine wpAny_pure ⟨_, rfl, .ref p, _, I3, rfl, q p _ (I1.hok.fresh (Nat.le_of_eq hp)) ?_ ?_⟩
  · have e := pm.map Prod.fst
    rw [zf] at e
    exact e
  · have e : ((xs.zip ds).mergeSort (dataLe false Prod.snd)).map Prod.snd = sortD ds := by
      have e1 := sort_maps (r := dataLe false Prod.snd) (s := dataLe false (id : PyData → PyData)) Prod.snd (l := xs.zip ds) (fun _ _ _ _ => rfl)
      rw [zs] at e1
      exact e1
    rw [← e]
    exact a2_pairs fun z hz => zd z (pm.mem_iff.mp hz)
end
end Cr
namespace Cr
/-! l.remove(x), l a list of data that holds x -/
section
open PySem PySem.Spec PyProof.Rows L2
variable {X : Cx}
def rRemD (K : PySem.W.Frag) : V → List V → Hp → VK → Prop := fun x xs H Q => ∃ (l : Addr) (ys : List V) (ds : List PyData) (y : V) (d : PyData) (j : Nat), x = .ref l ∧ xs = [y] ∧ H l = some (.lst ys) ∧ DtAll K H ys ds ∧ Dt K H y d ∧ PyData.plainAll ds = true ∧ d.plain = true ∧ d.depth ≤ 32 ∧ SeqAt.dataPlace ds d = some j ∧ Q .non (upd H l (.lst (ys.eraseIdx j)))
theorem mt_remD (hu : X.A.units + 65 < cLine) : MtM X "list.remove" (rRemD X.K) := by
  intro pins s σ H x xs v us Q I rx rxs h
  obtain ⟨l, ys, ds, y, d, j, rfl, rfl, hH, hys, hy, pa, pd, dep, pl, q⟩ := h
  cases rx
  obtain ⟨u, rfl, ru⟩ := rxs.one
  obtain ⟨z, its, n, r, hl, e⟩ := I.lstM hH
  obtain ⟨as, rs⟩ := Dp.readsAll I ds _ _ hys.dp r
  obtain ⟨bs, ry⟩ := Dp.reads I d _ _ hy.dp ru
  refine SeqAt.remove_list_data (l := l) (vs := its.toArray) ⟨_, e, rfl, n, rfl⟩ (by simpa using rs) ry pa pd (by have := Nat.min_le_right (PyData.depthAll ds) d.depth; omega) pl (by rw [List.size_toArray]; omega) ?_
  have rr := r.eraseIdx j
  refine ⟨.non, _, I.lset (its' := its.eraseIdx j) (t' := s.toks) hH e ?_ rr ?_, rfl, q⟩
  · show its.toArray.eraseIdxIfInBounds j = (its.eraseIdx j).toArray
    rw [List.eraseIdxIfInBounds_toArray]
  · have := List.length_eraseIdx_le ys j
    omega
end
end Cr

namespace Cr
/-! entries as pure data: == is =; sorting a permuted list; what parts two lists -/
section
open PySem PySem.Spec PySem.W PyProof.Rows L2
mutual
def pureD : PyData → Bool
  | .int _ => true
  | .str _ => true
  | .tuple xs => pureAll xs
  | _ => false
def pureAll : List PyData → Bool
  | [] => true
  | x :: xs => pureD x && pureAll xs
end
mutual
theorem pure_eqv : ∀ (x y : PyData), pureD x = true → pureD y = true → PyData.eqv x y = true → x = y
  | .int i, y, _, hy, e => by
    cases y with
    | int j => rw [PyData.eqv, beq_iff_eq] at e; rw [e]
    | bool b => simp only [pureD] at hy; cases hy
    | _ => simp only [PyData.eqv] at e; cases e
  | .str i, y, _, hy, e => by
    cases y with
    | str j => rw [PyData.eqv, beq_iff_eq] at e; rw [e]
    | _ => simp only [PyData.eqv] at e; cases e
  | .tuple xs, y, hx, hy, e => by
    cases y with
    | tuple ys =>
      rw [PyData.eqv] at e
      rw [pureD] at hx hy
      rw [pure_eqvAll xs ys hx hy e]
    | _ => simp only [PyData.eqv] at e; cases e
  | .none, _, h, _, _ => by simp only [pureD] at h; cases h
  | .bool _, _, h, _, _ => by simp only [pureD] at h; cases h
  | .list _, _, h, _, _ => by simp only [pureD] at h; cases h
  | .dict _, _, h, _, _ => by simp only [pureD] at h; cases h
theorem pure_eqvAll : ∀ (xs ys : List PyData), pureAll xs = true → pureAll ys = true → PyData.eqvAll xs ys = true → xs = ys
  | [], [], _, _, _ => rfl
  | [], _ :: _, _, _, e => by simp only [PyData.eqvAll] at e; cases e
  | _ :: _, [], _, _, e => by simp only [PyData.eqvAll] at e; cases e
  | x :: xs, y :: ys, hx, hy, e => by
    rw [PyData.eqvAll, Bool.and_eq_true] at e
    rw [pureAll, Bool.and_eq_true] at hx hy
    rw [pure_eqv x y hx.1 hy.1 e.1, pure_eqvAll xs ys hx.2 hy.2 e.2]
end
theorem pure_all {ds : List PyData} (h : ∀ d, d ∈ ds → pureD d = true) : pureAll ds = true := by
  induction ds with
  | nil => rfl
  | cons d ds ih => rw [pureAll, h d List.mem_cons_self, ih fun e he => h e (List.mem_cons_of_mem _ he)]; rfl
theorem pure_ps (ps : List (Str × Int)) : pureD (pairsD ps) = true := by
  show pureAll (ps.map fun p => .tuple [.str p.1, .int p.2]) = true
  refine pure_all fun d hd => ?_
  obtain ⟨p, _, rfl⟩ := List.mem_map.mp hd
  rfl
theorem ent_pure {Hn Tn : Str → Prop} {L : Int} {e : E3} (h : EntIn Hn Tn L e) : pureD (dE e) = true := by
  obtain ⟨k, d, rest⟩ := e
  have h' : EntOf Hn Tn L k d rest := h
  cases h' with
  | mix d0 d1 h => show (true && (true && (pureD (pairsD _) && true))) = true; rw [pure_ps]; rfl
  | _ => rfl
theorem dE_inj {e f : E3} (h : dE e = dE f) : e = f := by
  obtain ⟨k, d, r⟩ := e
  obtain ⟨k', d', r'⟩ := f
  have h1 := PyData.tuple.inj h
  injection h1 with h2 h3
  injection h3 with h4 h5
  injection h2 with h2
  injection h4 with h4
  subst h2 h4
  have h5 : r = r' := h5
  rw [h5]
theorem ent_refl {e : E3} (h : EntIn Nm Nm 400 e) : PyData.eqv (dE e) (dE e) = true :=
  SeqAt.eqv_refl _ (lay_tup fun y hy => (EntOf.lay (fun _ z => z.txt) (fun _ z => z.txt) h) y hy : LayN 3 _).1
theorem ent_eqv {e f : E3} (he : EntIn Nm Nm 400 e) (hf : EntIn Nm Nm 400 f) : PyData.eqv (dE e) (dE f) = true ↔ e = f :=
  ⟨fun h => dE_inj (pure_eqv _ _ (ent_pure he) (ent_pure hf) h), fun h => by subst h; exact ent_refl he⟩
theorem ents_any {es : List E3} {e : E3} (he : EntIn Nm Nm 400 e) (hs : ∀ x, x ∈ es → EntIn Nm Nm 400 x) : ((es.map dE).any fun z => PyData.eqv z (dE e)) = true ↔ e ∈ es := by
  rw [List.any_eq_true]
  constructor
  · rintro ⟨z, hz, h⟩
    obtain ⟨x, hx, rfl⟩ := List.mem_map.mp hz
    rw [← (ent_eqv (hs x hx) he).mp h]; exact hx
  · intro h
    exact ⟨dE e, List.mem_map.mpr ⟨e, h, rfl⟩, (ent_eqv he he).mpr rfl⟩
/-- where the first one stands -/
theorem ents_place {es : List E3} {e : E3} (he : EntIn Nm Nm 400 e) (hs : ∀ x, x ∈ es → EntIn Nm Nm 400 x) (h : e ∈ es) : ∃ j, ∃ hj : j < es.length, es[j] = e ∧ SeqAt.dataPlace (es.map dE) (dE e) = some j := by
  cases q : SeqAt.dataPlace (es.map dE) (dE e) with
  | none =>
    have h1 := List.findIdx?_eq_none_iff.mp q (dE e) (List.mem_map.mpr ⟨e, h, rfl⟩)
    rw [ent_refl he] at h1
    cases h1
  | some j =>
    obtain ⟨h1, h2, _⟩ := List.findIdx?_eq_some_iff_getElem.mp q
    have hj : j < es.length := by rwa [List.length_map] at h1
    rw [List.getElem_map] at h2
    exact ⟨j, hj, (ent_eqv (hs _ (List.getElem_mem hj)) he).mp h2, rfl⟩
/-! ### sorted -/
theorem toks_alike {x y : PyData} (a : PySem.W.alike x y = true) (h : keyToks x = keyToks y) : PyData.eqv x y = true := by
  cases q : PyData.eqv x y with
  | true => rfl
  | false =>
    have h1 := (toks_eqv x y a).2 q [] [.inl 0]
    rw [h, lex_pre, ← List.append_nil (keyToks y), lex_pre] at h1
    cases h1
theorem turn_inj {e f : E3} (he : EntIn Nm Nm 400 e) (hf : EntIn Nm Nm 400 f) (h : keyToks (turnD (dE e)) = keyToks (turnD (dE f))) : e = f := by
  obtain ⟨k, d, r⟩ := e
  obtain ⟨k', d', r'⟩ := f
  have h : keyToksAll [.int d, .str k, .tuple r] = keyToksAll [.int d', .str k', .tuple r'] := h
  simp only [keyToksAll, keyToks, List.cons_append, List.nil_append, List.cons.injEq, true_and, Sum.inl.injEq, Sum.inr.injEq] at h
  obtain ⟨h1, h2, h3⟩ := h
  obtain rfl := h1
  obtain rfl := str_of_cps h2
  have h4 : keyToksAll r = keyToksAll r' := List.append_cancel_right h3
  have al : PySem.W.alike (.tuple r) (.tuple r') = true := by
    rw [PySem.W.alike]
    exact shape_alike (EntOf.shape he) (EntOf.shape hf)
  have e5 := toks_alike al (by rw [keyToks, keyToks]; exact h4)
  have p1 : pureD (.tuple (.str k :: .int d :: r)) = true := ent_pure he
  have p2 : pureD (.tuple (.str k :: .int d :: r')) = true := ent_pure hf
  have p1' : pureD (.tuple r) = true := by rw [pureD] at p1 ⊢; simpa [pureAll, pureD] using p1
  have p2' : pureD (.tuple r') = true := by rw [pureD] at p2 ⊢; simpa [pureAll, pureD] using p2
  have := PyData.tuple.inj (pure_eqv _ _ p1' p2' e5)
  rw [this]
theorem sortE_of_perm {es fs : List E3} (h : es.Perm fs) (hi : ∀ x, x ∈ es → EntIn Nm Nm 400 x) : sortE es = sortE fs := by
  have T := sortLe_total (listOrd itemOrd) false fun e : E3 => keyToks (turnD (dE e))
  have tr : ∀ a b c : E3, dataLe false (fun e => turnD (dE e)) a b = true → dataLe false (fun e => turnD (dE e)) b c = true → dataLe false (fun e => turnD (dE e)) a c = true := T.trans
  have tt : ∀ a b : E3, (dataLe false (fun e => turnD (dE e)) a b || dataLe false (fun e => turnD (dE e)) b a) = true := fun a b => by
    rw [Bool.or_eq_true]; exact T.total a b
  unfold sortE
  refine List.Perm.eq_of_pairwise (le := fun a b => dataLe false (fun e : E3 => turnD (dE e)) a b = true) (fun a b ha hb h1 h2 => ?_) (List.pairwise_mergeSort tr tt _) (List.pairwise_mergeSort tr tt _) ?_
  · have h1 : (!(listOrd itemOrd).blt (keyToks (turnD (dE b))) (keyToks (turnD (dE a)))) = true := h1
    have h2 : (!(listOrd itemOrd).blt (keyToks (turnD (dE a))) (keyToks (turnD (dE b)))) = true := h2
    rw [Bool.not_eq_true'] at h1 h2
    exact turn_inj (hi _ (List.mem_mergeSort.mp ha)) (hi _ (h.mem_iff.mpr (List.mem_mergeSort.mp hb))) ((listOrd itemOrd).total _ _ h2 h1)
  · exact ((List.mergeSort_perm _ _).trans h).trans (List.mergeSort_perm _ _).symm
/-! ### what parts two lists -/
def PartOf (A B F R : List E3) : Prop := ∃ M, A.Perm (F ++ M) ∧ B.Perm (R ++ M) ∧ ∀ x, x ∈ F → x ∉ R
theorem PartOf.symm {A B F R : List E3} (h : PartOf A B F R) : PartOf B A R F := by
  obtain ⟨M, h1, h2, h3⟩ := h
  exact ⟨M, h2, h1, fun x hr hf => h3 x hf hr⟩
theorem PartOf.left {A B F R F' R' : List E3} (h : PartOf A B F R) (h' : PartOf A B F' R') : F.Perm F' := by
  classical
  obtain ⟨M, h1, h2, h3⟩ := h
  obtain ⟨M', h1', h2', h3'⟩ := h'
  rw [List.perm_iff_count]
  intro x
  have a1 := (h1.count_eq x)
  have a2 := (h2.count_eq x)
  have a1' := (h1'.count_eq x)
  have a2' := (h2'.count_eq x)
  rw [List.count_append] at a1 a2 a1' a2'
  have z : List.count x F = 0 ∨ List.count x R = 0 := by
    by_cases hx : x ∈ F
    · exact .inr (List.count_eq_zero.mpr (h3 x hx))
    · exact .inl (List.count_eq_zero.mpr hx)
  have z' : List.count x F' = 0 ∨ List.count x R' = 0 := by
    by_cases hx : x ∈ F'
    · exact .inr (List.count_eq_zero.mpr (h3' x hx))
    · exact .inl (List.count_eq_zero.mpr hx)
  omega
theorem PartOf.right {A B F R F' R' : List E3} (h : PartOf A B F R) (h' : PartOf A B F' R') : R.Perm R' := h.symm.left h'.symm
theorem PartOf.perm {A B A' B' F R : List E3} (h : PartOf A B F R) (ha : A'.Perm A) (hb : B'.Perm B) : PartOf A' B' F R := by
  obtain ⟨M, h1, h2, h3⟩ := h
  exact ⟨M, ha.trans h1, hb.trans h2, h3⟩
theorem PartOf.same (A : List E3) : PartOf A A [] [] := ⟨A, .refl _, .refl _, fun _ h => nomatch h⟩
theorem PartOf.mem {A B F R : List E3} (h : PartOf A B F R) : (∀ x, x ∈ F → x ∈ A) ∧ (∀ x, x ∈ R → x ∈ B) := by
  obtain ⟨M, h1, h2, h3⟩ := h
  exact ⟨fun x hx => h1.mem_iff.mpr (List.mem_append_left _ hx), fun x hx => h2.mem_iff.mpr (List.mem_append_left _ hx)⟩
theorem erase_at {α : Type} : ∀ {l : List α} {i : Nat} (h : i < l.length), (l[i] :: l.eraseIdx i).Perm l
  | x :: xs, 0, _ => List.Perm.refl _
  | x :: xs, i + 1, h => by
    have hi : i < xs.length := by simpa using h
    rw [List.getElem_cons_succ, List.eraseIdx_cons_succ]
    exact (List.Perm.swap x xs[i] _).trans (List.Perm.cons x (erase_at hi))
/-- a walk through the one list, its own items taken out of both -/
structure PartI (A B O R M U : List E3) (n : Nat) : Prop where
  a : A.Perm (O ++ M)
  b : B.Perm (R ++ M)
  o : O.Perm (U ++ A.drop n)
  u : ∀ x, x ∈ U → x ∉ R
theorem PartI.start (A B : List E3) : PartI A B A B [] [] 0 := ⟨by rw [List.append_nil], by rw [List.append_nil], by rw [List.drop_zero]; exact .refl _, fun _ h => nomatch h⟩
theorem PartI.mem {A B O R M U : List E3} {n : Nat} {e : E3} (h : PartI A B O R M U n) (he : A[n]? = some e) : e ∈ O := by
  obtain ⟨hn, rfl⟩ := List.getElem?_eq_some_iff.mp he
  refine h.o.mem_iff.mpr (List.mem_append_right _ ?_)
  rw [List.drop_eq_getElem_cons hn]
  exact List.mem_cons_self
theorem PartI.hit {A B O R M U : List E3} {n j k : Nat} {e : E3} (h : PartI A B O R M U n) (he : A[n]? = some e) (hj : j < O.length) (ej : O[j] = e) (hk : k < R.length) (ek : R[k] = e) : PartI A B (O.eraseIdx j) (R.eraseIdx k) (e :: M) U (n + 1) := by
  obtain ⟨hn, ee⟩ := List.getElem?_eq_some_iff.mp he
  have p1 := erase_at hj
  rw [ej] at p1
  have p2 := erase_at hk
  rw [ek] at p2
  refine ⟨?_, ?_, ?_, fun x hx hr => h.u x hx (List.mem_of_mem_eraseIdx hr)⟩
  · exact (h.a.trans (p1.symm.append_right M)).trans List.perm_middle.symm
  · exact (h.b.trans (p2.symm.append_right M)).trans List.perm_middle.symm
  · have h1 := p1.trans h.o
    rw [List.drop_eq_getElem_cons hn, ee] at h1
    exact (h1.trans List.perm_middle).cons_inv
theorem PartI.miss {A B O R M U : List E3} {n : Nat} {e : E3} (h : PartI A B O R M U n) (he : A[n]? = some e) (hr : e ∉ R) : PartI A B O R M (U ++ [e]) (n + 1) := by
  obtain ⟨hn, ee⟩ := List.getElem?_eq_some_iff.mp he
  refine ⟨h.a, h.b, ?_, fun x hx => ?_⟩
  · have h1 := h.o
    rw [List.drop_eq_getElem_cons hn, ee] at h1
    rw [List.append_assoc]
    exact h1
  · rcases List.mem_append.mp hx with hx | hx
    · exact h.u x hx
    · rw [List.mem_singleton.mp hx]; exact hr
theorem PartI.done {A B O R M U : List E3} (h : PartI A B O R M U A.length) : PartOf A B O R := by
  have h1 := h.o
  rw [List.drop_length, List.append_nil] at h1
  exact ⟨M, h.a, h.b, fun x hx => h.u x (h1.mem_iff.mp hx)⟩
/-- a walk through the one list that gathers what the other lacks -/
structure ExtI (A B F R M : List E3) (n : Nat) : Prop where
  a : (A.take n).Perm (F ++ M)
  b : B.Perm (R ++ M)
  u : ∀ x, x ∈ F → x ∉ R
theorem ExtI.start (A B : List E3) : ExtI A B [] B [] 0 := ⟨.refl _, by rw [List.append_nil], fun _ h => nomatch h⟩
theorem ExtI.hit {A B F R M : List E3} {n k : Nat} {e : E3} (h : ExtI A B F R M n) (he : A[n]? = some e) (hk : k < R.length) (ek : R[k] = e) : ExtI A B F (R.eraseIdx k) (e :: M) (n + 1) := by
  have p2 := erase_at hk
  rw [ek] at p2
  refine ⟨?_, (h.b.trans (p2.symm.append_right M)).trans List.perm_middle.symm, fun x hx hr => h.u x hx (List.mem_of_mem_eraseIdx hr)⟩
  rw [List.take_add_one, he]
  refine (h.a.append_right _).trans ?_
  rw [List.append_assoc]
  exact List.Perm.append_left F (List.perm_append_comm)
theorem ExtI.miss {A B F R M : List E3} {n : Nat} {e : E3} (h : ExtI A B F R M n) (he : A[n]? = some e) (hr : e ∉ R) : ExtI A B (F ++ [e]) R M (n + 1) := by
  refine ⟨?_, h.b, fun x hx => ?_⟩
  · rw [List.take_add_one, he]
    refine (h.a.append_right _).trans ?_
    rw [List.append_assoc, List.append_assoc]
    exact List.Perm.append_left F (List.perm_append_comm)
  · rcases List.mem_append.mp hx with hx | hx
    · exact h.u x hx
    · rw [List.mem_singleton.mp hx]; exact hr
theorem ExtI.done {A B F R M : List E3} (h : ExtI A B F R M A.length) : PartOf A B F R := by
  have h1 := h.a
  rw [List.take_length] at h1
  exact ⟨M, h1, h.b, h.u⟩
/-! ### in the heap -/
theorem A2.era {α β : Type} {R : α → β → Prop} : ∀ {xs : List α} {ys : List β}, A2 R xs ys → ∀ n : Nat, A2 R (xs.eraseIdx n) (ys.eraseIdx n)
  | _, _, .nil, n => .nil
  | _, _, .cons a b, 0 => b
  | _, _, .cons a b, n + 1 => .cons a (A2.era b n)
theorem EntsAt.daQ {K : PySem.W.Frag} {H : Hp} : ∀ {vs : List V} {es : List E3}, EntsAt K H vs es → DtAll K H vs (es.map dE)
  | _, _, .nil => .nil
  | _, _, .cons a b => .cons a (EntsAt.daQ b)
theorem lay_entQ {e : E3} (h : EntIn Nm Nm 400 e) : LayN 3 (dE e) := lay_tup fun y hy => (EntOf.lay (fun _ z => z.txt) (fun _ z => z.txt) h) y hy
theorem lay_entsQ {es : List E3} (h : ∀ x, x ∈ es → EntIn Nm Nm 400 x) : ∀ d, d ∈ es.map dE → LayN 3 d := fun d hd => by
  obtain ⟨x, hx, rfl⟩ := List.mem_map.mp hd
  exact lay_entQ (h _ hx)
theorem s_inE {K : PySem.W.Frag} {H : Hp} {Q : VK} {p : Addr} {x : V} {e : E3} {ys : List V} {es : List E3} (hx : Dt K H x (dE e)) (hs : SqL K H p ys) (hd : EntsAt K H ys es) (he : EntIn Nm Nm 400 e) (hi : ∀ x, x ∈ es → EntIn Nm Nm 400 x) (h1 : e ∈ es → Q (.bl true) H) (h2 : e ∉ es → Q (.bl false) H) : rInD K x (.ref p) H Q := by
  refine ⟨dE e, es.map dE, hx.dp, .lst hs (EntsAt.daQ hd).dp, (lay_entQ he).sh (by decide), (lay_lst (lay_entsQ hi)).sh (by decide), ?_⟩
  have w := ents_any he hi
  by_cases m : e ∈ es
  · rw [w.mpr m]; exact h1 m
  · cases q : (es.map dE).any fun z => PyData.eqv z (dE e) with
    | true => exact absurd (w.mp q) m
    | false => exact h2 m
theorem s_remE {K : PySem.W.Frag} {H : Hp} {Q : VK} {l : Addr} {y : V} {e : E3} {ys : List V} {es : List E3} (hl : H l = some (.lst ys)) (hd : EntsAt K H ys es) (hy : Dt K H y (dE e)) (he : EntIn Nm Nm 400 e) (hi : ∀ x, x ∈ es → EntIn Nm Nm 400 x) (m : e ∈ es)
    (q : ∀ j (hj : j < es.length), es[j] = e → EntsAt K (upd H l (.lst (ys.eraseIdx j))) (ys.eraseIdx j) (es.eraseIdx j) → Q .non (upd H l (.lst (ys.eraseIdx j)))) : rRemD K (.ref l) [y] H Q := by
  obtain ⟨j, hj, ej, pl⟩ := ents_place he hi m
  refine ⟨l, ys, es.map dE, y, dE e, j, rfl, rfl, hl, EntsAt.daQ hd, hy, ?_, ?_, ?_, pl, q j hj ej (A2.era (hd.mono (kt_mut hl rfl)) j)⟩
  · exact PyData.plainAll_of_canLay0 _ (lay_all fun d hd => (lay_entsQ hi d hd).1)
  · exact PyData.plain_of_canLay0 _ (lay_entQ he).1
  · have := (lay_entQ he).2; omega
end
end Cr

namespace Cr
/-! t[::-1], t a tuple -/
section
open PySem PySem.Spec PyProof.Rows L2
section
variable {prog : Program} {w : World} {A : Around} {E : Value → Shared → Prop} {s : Shared}
theorem sliceApplied_rev {sl : Addr} {vs : Value} {n : Nat} {Q : Int × Int × Nat → Shared → Prop} (hs : s.heap.IsSliceOf sl .none .none vs) (ps : IsPart vs (some (-1)))
    (h : Q ((n : Int) - 1, -1, n) s) : wpAny (model prog w) A (Builtin.Slice.sliceApplied (.ref sl) (pure (n : Int))) Q E s := by
  obtain ⟨os, hos, hcs, hds⟩ := id hs
  unfold Builtin.Slice.sliceApplied Builtin.Slice.sliceFields
  refine wpAny_bind (wpAny_bind (wpAny_field hos hds (x := .none) rfl (wpAny_bind (wpAny_field hos hds (x := .none) rfl (wpAny_bind (wpAny_field hos hds (x := vs) rfl (wpAny_pure ?_)))))))
  refine wpAny_bind (HT.slicePart_ ps ?_)
  show wpAny _ _ (if ((-1 : Int) == 0) = true then _ else _) _ _ s
  rw [if_neg (by decide)]
  refine wpAny_bind (slicePart_none (wpAny_bind (slicePart_none (wpAny_bind (wpAny_pure ?_)))))
  show wpAny _ _ (pure ((n : Int) - 1, (-1 : Int), Builtin.Slice.slicePlaces ((n : Int) - 1) (-1) (-1))) _ _ s
  have e : Builtin.Slice.slicePlaces ((n : Int) - 1) (-1) (-1) = n := by
    unfold Builtin.Slice.slicePlaces
    have h1 : ¬ ((-1 : Int) > 0) := by omega
    rw [if_neg h1, show (-(-1) : Int) = 1 by decide, Int.ediv_one]
    split <;> omega
  rw [e]
  exact wpAny_pure h
theorem pick_rev (xs : Array Value) : ((List.range xs.size).filterMap fun (k : Nat) => xs[((xs.size : Int) - 1 + (k : Int) * (-1)).toNat]?).toArray = xs.toList.reverse.toArray := by
  have e : (fun (k : Nat) => xs[((xs.size : Int) - 1 + (k : Int) * (-1)).toNat]?) = ((xs[·]?) ∘ fun k => xs.size - 1 - k) := by
    funext k
    show xs[((xs.size : Int) - 1 + (k : Int) * (-1)).toNat]? = xs[xs.size - 1 - k]?
    have : ((xs.size : Int) - 1 + (k : Int) * (-1)).toNat = xs.size - 1 - k := by omega
    rw [this]
  rw [e, ← List.filterMap_map, PySem.W.krv_range, List.filterMap_reverse, PySem.W.krv_all]
theorem getItem_tuple_rev {t sl : Addr} {items : Array Value} {vs : Value} {Q : Value → Shared → Prop} (ht : IsTup s.heap t items) (hs : s.heap.IsSliceOf sl .none .none vs) (ps : IsPart vs (some (-1)))
    (h : Q (.ref s.heap.objs.size) { s with heap := s.heap.push { cls := .type "tuple", data := .seq items.toList.reverse.toArray } })
    (hsz : items.size ≤ sizeLine) : wpAny (model prog w) A (getItem (.ref t) (.ref sl)) Q E s := by
  have htake : sizeOk (.seq items.toList.reverse.toArray) := by
    show items.toList.reverse.toArray.size ≤ sizeLine
    rw [List.size_toArray, List.length_reverse, Array.length_toList]
    exact hsz
  obtain ⟨os, hos, hcs, hds⟩ := id hs
  have hTs : s.TypeIs (.ref sl) "slice" := ⟨os, hos, hcs⟩
  unfold getItem
  try with_reducible refine wpAny_holding ?_
  first | refine wpAny_bind (wpAny_pure ?_) | skip
  refine wpAny_bind (wpAny_sequenceKey ht.typeIs (by decide) ?_)
  refine wpAny_bind (wpAny_callSpecial?_slot (name := Str.ofString "__getitem__") ht.typeIs PyProof.Rows.slot_tuple_getitem
    (wpAny_call_entry PyProof.Rows.slot_tuple_getitem ht.typeIs entry_tuple_getitem ?_ (args_tuple_getitem _ _)))
  show wpAny _ _ (Builtin.Tuple.tupleItemsOf (.ref t) >>= _) _ _ s
  refine wpAny_bind (tupleItemsOf_ ht ?_)
  refine wpAny_bind (wpAny_typeOf hTs ?_)
  rw [if_pos (by decide)]
  refine wpAny_bind (sliceApplied_rev hs ps ?_)
  show wpAny _ _ (if (((items.size : Int) - 1 == 0 && (-1 : Int) == 1 && items.size == items.size)) = true then _ else _) _ _ s
  rw [if_neg (by simp), pick_rev]
  first
    | exact wpAny_bind (m := Builtin.Tuple.tupleExact _) (wpAny_newObj_type (wpAny_pure ⟨_, rfl, wpAny_pure h⟩) htake)
    | exact wpAny_bind (m := Builtin.Tuple.tupleExact _) (wpAny_newObj_type (wpAny_bind (wpAny_pure (wpAny_pure ⟨_, rfl, wpAny_pure h⟩))) htake)
    | exact wpAny_bind (wpAny_bind (m := Builtin.Tuple.tupleExact _) (wpAny_newObj_type (wpAny_pure (wpAny_pure ⟨_, rfl, wpAny_pure h⟩)) htake))
    | exact wpAny_bind (wpAny_bind (m := Builtin.Tuple.tupleExact _) (wpAny_newObj_type (wpAny_pure ⟨_, rfl, wpAny_pure h⟩) htake))
end
def tRevTu (K : PySem.W.Frag) (te : TE) : TE := fun σ H Q => te σ H fun x H1 => ∃ a xs, x = .ref a ∧ SqT K H1 a xs ∧ ∀ p, H1 p = none → Q (.ref p) (upd H1 p (.tup xs.reverse))
variable {X : Cx}
theorem pe_revTu {e : Expr} {te : TE} {k : Nat} {p1 p2 p3 pos : Pos} (he : PE X e te) : PE X (.Subscript e (.Slice none none (some (.UnaryOp .USub (.Constant (.int 1) k p1) p2)) p3) pos) (tRevTu X.K te) := by
  refine ⟨fun pins s σ H Q I h => ?_⟩
  refine Subscript_ (thn (he.run pins s σ H _ I h) fun v s1 ⟨x, H1, I1, r1, q1⟩ => ?_)
  obtain ⟨a, xs, ex, hx, q⟩ := q1
  subst ex
  cases r1
  have hst : PO X (some (.UnaryOp .USub (.Constant (.int 1) k p1) p2)) (tPart (tUn (rU fun i => .int (-i)) (tC (.int 1)))) := po_some (pe_un un_neg pe_int)
  refine wpAny_Slice (thn (po_none.run pins s1 σ H1 (fun o H2 => o = none ∧ H2 = H1) I1 ⟨rfl, rfl⟩) fun vl s2 ⟨l, H2, I2, pl, el, e2⟩ => ?_)
  subst el e2
  refine thn (po_none.run pins s2 σ H2 (fun o H3 => o = none ∧ H3 = H2) I2 ⟨rfl, rfl⟩) fun vu s3 ⟨u, H3, I3, pu, eu, e3⟩ => ?_
  subst eu e3
  refine thn (hst.run pins s3 σ H3 (fun o H4 => o = some (-1) ∧ H4 = H3) I3 ⟨1, rfl, -1, rfl, rfl, rfl⟩) fun vs s4 ⟨o, H4, I4, ps, eo, e4⟩ => ?_
  subst eo e4
  have I5 : Inv X pins σ H4 { s4 with heap := s4.heap.push { cls := .type "slice", data := .fields #[vl, vu, vs] } } := I4.kept (t' := s4.toks) fun b ob q => Heap.get?_push_of_some _ q
  obtain ⟨its, r, ht, hz⟩ := I5.tuple hx
  have hlen := r.length
  show wpAny (model X.prog X.w) X.A (subscriptTail e (.Slice none none (some (.UnaryOp .USub (.Constant (.int 1) k p1) p2)) p3) (.ref a) (.ref s4.heap.objs.size)) (EP X pins σ Q) X.xe { s4 with heap := s4.heap.push { cls := .type "slice", data := .fields #[vl, vu, vs] } }
  refine tail_any (ops := [.ref a, .ref s4.heap.objs.size]) ht.typeIs (PyProof.Rows.slot_tuple_getitem.lookup) ?_ (by with_unfolding_all rfl)
  cases pl
  cases pu
  refine getItem_tuple_rev ht (Heap.IsSliceOf.new _ .none .none vs) ps ?_ (by rw [List.size_toArray]; omega)
  refine ⟨.ref _, _, I5.laid (t' := s4.toks) (o := .tup xs.reverse) (fun b ob q => Heap.get?_push_of_some _ q) (Nat.le_refl _) ?_, rfl, q _ (I5.hok.fresh (Nat.le_refl _))⟩
  exact ⟨by rw [List.length_reverse]; exact hz, _, r.reverse, IsTup.new _ _⟩
variable {K : PySem.W.Frag} {σ : St} {H : Hp} {Q : VK}
def RevTu (K : PySem.W.Frag) (x : V) (H : Hp) (Q : VK) : Prop := ∃ a xs, x = .ref a ∧ SqT K H a xs ∧ ∀ p, H p = none → Q (.ref p) (upd H p (.tup xs.reverse))
theorem s_revTu {te : TE} (h : te σ H fun x H1 => RevTu K x H1 Q) : tRevTu K te σ H Q := h
theorem s_isRevTu {x : V} {ds : List PyData} (hx : Dt K H x (.tuple ds)) (h : ∀ v H', Same H H' → Dt K H' v (.tuple ds.reverse) → Q v H') : RevTu K x H Q := by
  obtain ⟨a, xs, rfl, hs, hd⟩ := hx.tup_inv
  exact ⟨a, xs, rfl, hs, fun p hp => h _ _ (same_new hp) (dt_new hd.rev hp)⟩
end
end Cr

/-! ## short words of the walk: local rows, by keys of our own -/
local macro_rules | `(tactic| walk_at "cr.kt") => `(tactic| with_reducible first
  | with_reducible assumption
  | exact Cr.kt_new (by with_reducible assumption)
  | exact Cr.kt_mut (by with_reducible assumption) rfl
  | exact Cr.kt_same (by with_reducible assumption)
  | exact Cr.kt_but (by with_reducible assumption))
local macro_rules | `(tactic| walk_at "cr.dt") => `(tactic| with_reducible first
  | with_reducible assumption
  | exact Cr.Dt.int _
  | exact Cr.Dt.bl _
  | exact Cr.Dt.str _
  | exact Cr.Dt.non
  | ((with_reducible refine' Cr.dt_new ?z (by with_reducible assumption)); (case z => walk_at "cr.da"))
  | exact Cr.dt_zn (by with_reducible assumption)
  | exact Cr.dt_1n (by with_reducible assumption)
  | (refine' Cr.Dt.mono (Cr.kt_new (by with_reducible assumption)) ?z; (case z => walk_at "cr.dt"))
  | (refine' Cr.Dt.mono (Cr.kt_mut (by with_reducible assumption) rfl) ?z; (case z => walk_at "cr.dt"))
  | (refine' Cr.Dt.mono (Cr.kt_same (by with_reducible assumption)) ?z; (case z => walk_at "cr.dt"))
  | (refine' Cr.Dt.mono (Cr.kt_but (by with_reducible assumption)) ?z; (case z => walk_at "cr.dt"))
  | (refine' Cr.Dt.mono (by with_reducible assumption) ?z; (case z => walk_at "cr.dt"))
  | exact (by with_reducible assumption : ∀ H : L2.Hp, Cr.Dt _ H _ _) _)
local macro_rules | `(tactic| walk_at "cr.da") => `(tactic| with_reducible first
  | exact Cr.DtAll.nil
  | (refine' Cr.DtAll.cons ?z ?w; (case z => walk_at "cr.dt"); (case w => walk_at "cr.da"))
  | with_reducible assumption)
local macro_rules | `(tactic| walk_at "cr.lot") => `(tactic| with_reducible first
  | with_reducible assumption
  | (refine' Cr.IsLot.mono (Cr.ki_new (by with_reducible assumption)) ?z; (case z => walk_at "cr.lot"))
  | (refine' Cr.IsLot.mono (Cr.ki_mut (by with_reducible assumption) rfl) ?z; (case z => walk_at "cr.lot"))
  | (refine' Cr.IsLot.mono (Cr.ki_same (by with_reducible assumption)) ?z; (case z => walk_at "cr.lot"))
  | (refine' Cr.IsLot.mono (Cr.ki_but (by with_reducible assumption)) ?z; (case z => walk_at "cr.lot"))
  | (refine' Cr.IsLot.mono (by with_reducible assumption) ?z; (case z => walk_at "cr.lot")))
/-- all of a list's -/
local macro_rules | `(tactic| walk_at "cr.das") => `(tactic| with_reducible first
  | with_reducible assumption
  | (refine' Cr.DtAll.mono (Cr.kt_new (by with_reducible assumption)) ?z; (case z => walk_at "cr.das"))
  | (refine' Cr.DtAll.mono (Cr.kt_mut (by with_reducible assumption) rfl) ?z; (case z => walk_at "cr.das"))
  | (refine' Cr.DtAll.mono (Cr.kt_same (by with_reducible assumption)) ?z; (case z => walk_at "cr.das"))
  | (refine' Cr.DtAll.mono (Cr.kt_but (by with_reducible assumption)) ?z; (case z => walk_at "cr.das"))
  | (refine' Cr.DtAll.mono (by with_reducible assumption) ?z; (case z => walk_at "cr.das")))
/-- H0 to H -/
local macro_rules | `(tactic| walk_at "cr.sm") => `(tactic| with_reducible first
  | exact L2.Same.refl _
  | with_reducible assumption
  | (refine' L2.Same.trans ?z (Cr.same_new (by with_reducible assumption)); (case z => walk_at "cr.sm"))
  | (refine' L2.Same.trans ?z (by with_reducible assumption); (case z => walk_at "cr.sm"))
  | (refine' Cr.same_mut ?z (by walk_at "cr.fr"); (case z => walk_at "cr.sm")))
/-- H p = none, from a later heap -/
local macro_rules | `(tactic| walk_at "cr.fr") => `(tactic| with_reducible first
  | with_reducible assumption
  | (refine' Cr.free_on (by with_reducible assumption) ?z; (case z => walk_at "cr.sm")))
/-- what stands at an address -/
local macro_rules | `(tactic| walk_at "cr.at") => `(tactic| with_reducible first
  | with_reducible assumption
  | exact L2.upd_same
  | (refine' Eq.trans (L2.upd_ne (by walk_at "cr.ne")) ?z; (case z => walk_at "cr.at"))
  | (refine' Cr.at_same (by with_reducible assumption) ?z; (case z => walk_at "cr.at"))
  | (refine' Cr.But.oth (by with_reducible assumption) _ _ (by walk_at "cr.ne") ?z; (case z => walk_at "cr.at"))
  | (refine' Cr.Oth.oth (by with_reducible assumption) _ _ (by walk_at "cr.ne") ?z; (case z => walk_at "cr.at")))
local macro_rules | `(tactic| walk_at "cr.ne") => `(tactic| with_reducible first
  | with_reducible assumption
  | exact Ne.symm (by with_reducible assumption)
  | (refine' Cr.Bag.ne1' (by with_reducible assumption) ?z; (case z => with_reducible assumption))
  | (refine' Cr.Bag.ne2' (by with_reducible assumption) ?z; (case z => with_reducible assumption))
  | (refine' Ne.symm (Cr.Bag.ne1' (by with_reducible assumption) ?z); (case z => with_reducible assumption))
  | (refine' Ne.symm (Cr.Bag.ne2' (by with_reducible assumption) ?z); (case z => with_reducible assumption))
  | (refine' Cr.Bag.ne1' (by with_reducible assumption) ?z; (case z => walk_at "cr.bag"))
  | (refine' Cr.Bag.ne2' (by with_reducible assumption) ?z; (case z => walk_at "cr.bag"))
  | (refine' Cr.ne_on (by with_reducible assumption) ?z; (case z => walk_at "cr.at"))
  | (refine' Ne.symm (Cr.ne_on (by with_reducible assumption) ?z); (case z => walk_at "cr.at")))
local macro_rules | `(tactic| walk_at "cr.bag") => `(tactic| with_reducible first
  | with_reducible assumption
  | (refine' Cr.Bag.new ?z (by with_reducible assumption); (case z => walk_at "cr.bag"))
  | (refine' Cr.Bag.same (by with_reducible assumption) ?z; (case z => walk_at "cr.bag"))
  | (refine' Cr.Oth.bag (by with_reducible assumption) (by with_reducible assumption) (by with_reducible assumption) ?z; (case z => walk_at "cr.bag"))
  | (refine' Cr.Bag.upd ?z (by walk_at "cr.ne") (by walk_at "cr.ne"); (case z => walk_at "cr.bag")))
/-- all but the bag -/
local macro_rules | `(tactic| walk_at "cr.but") => `(tactic| with_reducible first
  | with_reducible assumption
  | (refine' Cr.But.same ?z (Cr.same_new (by with_reducible assumption)); (case z => walk_at "cr.but"))
  | (refine' Cr.But.trans ?z (by with_reducible assumption); (case z => walk_at "cr.but"))
  | (refine' Cr.But.same ?z (by with_reducible assumption); (case z => walk_at "cr.but"))
  | exact Cr.But.ofSame (by with_reducible assumption) (L2.Same.refl _)
  | (refine' Cr.but_mut ?z (by walk_at "cr.fr"); (case z => walk_at "cr.but")))
local macro_rules | `(tactic| walk_at "cr.size") => `(tactic| first
  | exact Cr.size2
  | exact Cr.size1
  | exact Cr.size3
  | exact Cr.size4
  | exact Cr.size_le (by with_unfolding_all decide)
  | exact Cr.size_le (by simp only [List.length_cons, List.length_nil]; omega))
local macro_rules | `(tactic| walk_at "cr.room") => `(tactic| first
  | with_reducible assumption
  | (refine L2.small1000 ?_; (try simp only [List.length_append, List.length_cons, List.length_nil, List.length_reverse, List.length_map, List.length_take, List.length_drop, List.length_set]); omega)
  | (refine Cr.size_le2 ?_; (try simp only [List.length_append, List.length_cons, List.length_nil, List.length_reverse, List.length_map, List.length_take, List.length_drop, List.length_set]); omega))
local macro_rules | `(tactic| walk_at "cr.lst") => `(tactic| with_reducible first
  | with_reducible assumption
  | (refine' L2.SqL.of ?z; (case z => walk_at "cr.at"))
  | (refine' L2.Same.seq (Cr.same_new (by with_reducible assumption)) ?z; (case z => walk_at "cr.lst"))
  | (refine' L2.Same.seq (by with_reducible assumption) ?z; (case z => walk_at "cr.lst")))
local macro_rules | `(tactic| walk_at "cr.sz") => `(tactic| first
  | with_reducible assumption
  | exact Cr.cz_l (by omega) (by omega)
  | exact Cr.cz_r (by omega) (by omega)
  | exact Cr.mz_nd (by walk_at "cr.z") (by walk_at "cr.z")
  | exact Cr.mz_dn (by walk_at "cr.z") (by walk_at "cr.z")
  | exact Cr.mz_nn (by walk_at "cr.z") (by walk_at "cr.z")
  | exact Cr.mz_dd (by walk_at "cr.z") (by walk_at "cr.z"))
local macro_rules | `(tactic| walk_at "cr.z") => `(tactic| first
  | with_reducible assumption
  | exact Cr.Sz.mono (by walk_at "cr.zz") (by decide))
local macro_rules | `(tactic| walk_at "cr.len") => `(tactic| first | (simp only [List.length_cons, List.length_nil]; omega) | (simp only [List.length_append, List.length_cons, List.length_nil, List.length_reverse, List.length_map, List.length_take, List.length_drop, List.length_set]; omega))
local macro_rules | `(tactic| walk_at "cr.items") => `(tactic| (intro v hv; simp only [List.mem_cons, List.not_mem_nil, or_false] at hv; first
  | (rcases hv with rfl | rfl | rfl | rfl | rfl | rfl <;> exact ⟨_, rfl, by omega, by omega⟩)
  | (rcases hv with rfl | rfl | rfl | rfl | rfl <;> exact ⟨_, rfl, by omega, by omega⟩)
  | (rcases hv with rfl | rfl | rfl | rfl <;> exact ⟨_, rfl, by omega, by omega⟩)
  | (rcases hv with rfl | rfl | rfl <;> exact ⟨_, rfl, by omega, by omega⟩)
  | (rcases hv with rfl | rfl <;> exact ⟨_, rfl, by omega, by omega⟩)))
local macro_rules | `(tactic| walk_at "cr.pw") => `(tactic| first
  | with_reducible assumption
  | exact Cr.pw_le (n := 64) (by omega) (by decide))
local macro_rules | `(tactic| walk_at "cr.zz") => `(tactic| with_reducible first
  | with_reducible assumption
  | exact Cr.Sz2.toSz (by with_reducible assumption)
  | exact Cr.divInt_sz (n := 64) (by omega) (by omega) (by omega)
  | (refine' Cr.Sz.add ?zl ?zr; (case zl => walk_at "cr.zz"); (case zr => walk_at "cr.zz"))
  | (refine' Cr.Sz.sub ?zl ?zr; (case zl => walk_at "cr.zz"); (case zr => walk_at "cr.zz"))
  | (refine' Cr.Sz.mul ?zl ?zr; (case zl => walk_at "cr.zz"); (case zr => walk_at "cr.zz"))
  | (refine' Cr.Sz.div ?zl ?zr ?zn; (case zl => walk_at "cr.zz"); (case zr => walk_at "cr.zz"); (case zn => assumption)))
local macro_rules | `(tactic| walk_at "cr.div") => `(tactic| first
  | with_reducible assumption
  | exact Cr.dz_sm (by omega) (by omega))
local macro_rules | `(tactic| walk_at "cr.fz") => `(tactic| with_reducible first
  | with_reducible assumption
  | (refine' Cr.Fz.mono (Cr.kt_new (by with_reducible assumption)) ?z; (case z => walk_at "cr.fz"))
  | (refine' Cr.Fz.mono (Cr.kt_mut (by with_reducible assumption) rfl) ?z; (case z => walk_at "cr.fz"))
  | (refine' Cr.Fz.mono (Cr.kt_same (by with_reducible assumption)) ?z; (case z => walk_at "cr.fz"))
  | (refine' Cr.Fz.mono (Cr.kt_but (by with_reducible assumption)) ?z; (case z => walk_at "cr.fz"))
  | (refine' Cr.Fz.mono (by with_reducible assumption) ?z; (case z => walk_at "cr.fz")))
local macro_rules | `(tactic| walk_at "cr.till") => `(tactic| with_reducible first
  | with_reducible assumption)
/-- one step of a reading -/
local macro_rules | `(tactic| walk_at "cr.s") => `(tactic| with_reducible first
  | refine Cr.s_seq ?_
  | refine Cr.s_asg ?_
  | refine Cr.s_op ?_
  | refine Cr.s_v0 ?_
  | refine Cr.s_g0 ?_
  | refine Cr.s_v1 ?_
  | refine Cr.s_g1 ?_
  | refine Cr.s_v2 ?_
  | refine Cr.s_g2 ?_
  | refine Cr.s_v3 ?_
  | refine Cr.s_g3 ?_
  | refine Cr.s_v4 ?_
  | refine Cr.s_g4 ?_
  | refine Cr.s_v5 ?_
  | refine Cr.s_g5 ?_
  | refine Cr.s_v6 ?_
  | refine Cr.s_g6 ?_
  | refine Cr.s_v7 ?_
  | refine Cr.s_g7 ?_
  | refine Cr.s_v8 ?_
  | refine Cr.s_g8 ?_
  | refine Cr.s_v9 ?_
  | refine Cr.s_g9 ?_
  | refine Cr.s_v10 ?_
  | refine Cr.s_g10 ?_
  | refine Cr.s_v11 ?_
  | refine Cr.s_g11 ?_
  | refine Cr.s_v12 ?_
  | refine Cr.s_g12 ?_
  | refine Cr.s_v13 ?_
  | refine Cr.s_g13 ?_
  | refine Cr.s_v14 ?_
  | refine Cr.s_g14 ?_
  | refine Cr.s_v15 ?_
  | refine Cr.s_g15 ?_
  | refine Cr.s_v16 ?_
  | refine Cr.s_g16 ?_
  | refine Cr.s_v17 ?_
  | refine Cr.s_g17 ?_
  | refine Cr.s_c ?_
  | refine Cr.s_ret ?_
  | refine Cr.s_if ?_
  | refine Cr.s_test ?_
  | refine Cr.s_tru ?_
  | refine Cr.s_B ?_
  | refine Cr.s_isB ?_
  | refine Cr.s_truI ?_
  | refine Cr.s_truB ?_
  | refine Cr.s_call ?_
  | refine Cr.s_callS ?_
  | refine Cr.s_callN ?_
  | (refine' Cr.s_lens ?k1 ?k2 ?_; (case k1 => with_unfolding_all rfl); (case k2 => with_unfolding_all rfl))
  | refine Cr.s_cons ?_
  | refine Cr.s_nil ?_
  | refine Cr.s_cb ?_
  | refine Cr.s_tup ?_
  | refine Cr.s_lst ?_
  | (refine Cr.s_par ?_; (try simp only [List.set_cons_zero, List.set_cons_succ]))
  | refine Cr.s_un ?_
  | refine Cr.s_drop ?_
  | refine Cr.s_next ?_
  | refine Cr.s_brk ?_
  | refine Cr.s_cont ?_
  | refine Cr.s_retN ?_
  | refine Cr.s_ifE ?_
  | refine Cr.s_and ?_
  | refine Cr.s_or ?_
  | refine Cr.s_not ?_
  | refine Cr.s_andV ?_
  | refine Cr.s_orV ?_
  | refine Cr.s_notV ?_
  | refine Cr.s_chain ?_
  | refine Cr.s_itT ?_
  | refine Cr.s_itF ?_
  | refine Cr.s_itNT ?_
  | refine Cr.s_itNF ?_
  | refine Cr.s_gsub ?_
  | refine Cr.s_addI ?_
  | refine Cr.s_subI ?_
  | refine Cr.s_negI ?_
  | refine Cr.s_ltI ?_
  | refine Cr.s_leI ?_
  | refine Cr.s_gtI ?_
  | refine Cr.s_geI ?_
  | (refine' Cr.s_eqSS ?k1 ?_; (case k1 => first | with_reducible assumption | with_unfolding_all decide +kernel))
  | (refine' Cr.s_neSS ?k1 ?_; (case k1 => first | with_reducible assumption | with_unfolding_all decide +kernel))
  | (refine' Cr.s_eqS ?k1 ?k2 ?_; (case k1 => first | with_reducible assumption | with_unfolding_all decide +kernel); (case k2 => first | with_reducible assumption | with_unfolding_all decide +kernel))
  | (refine' Cr.s_neS ?k1 ?k2 ?_; (case k1 => first | with_reducible assumption | with_unfolding_all decide +kernel); (case k2 => first | with_reducible assumption | with_unfolding_all decide +kernel))
  | refine Cr.s_neII ?_
  | refine Cr.s_eqII ?_
  | refine Cr.s_eqI ?_
  | refine Cr.s_neI ?_
  | refine Cr.s_eqBB ?_
  | refine Cr.s_neBB ?_
  | refine Cr.s_neFT ?_
  | refine Cr.s_neTF ?_
  | refine Cr.s_eqFT ?_
  | refine Cr.s_eqTF ?_
  | refine Cr.s_eqB ?_
  | refine Cr.s_neB ?_
  | refine Cr.s_abs ?_
  | refine Cr.s_max ?_
  | refine Cr.s_min ?_
  | refine Cr.s_isII ?_
  | refine Cr.s_isIB ?_
  | refine Cr.s_isBI ?_
  | refine Cr.s_isBB ?_
  | (refine' Cr.s_isTT ?k1 ?_; (case k1 => with_reducible walk_at "cr.dt"))
  | (refine' Cr.s_ixF0 ?k1 ?_; (case k1 => with_reducible walk_at "cr.dt"))
  | (refine' Cr.s_ixF1 ?k1 ?_; (case k1 => with_reducible walk_at "cr.dt"))
  | (refine' Cr.s_ixT0 ?k1 ?_; (case k1 => with_reducible walk_at "cr.dt"); intro v hv; first | (have ev := Cr.Dt.int_eq hv; subst ev) | (have ev := Cr.Dt.str_eq hv; subst ev) | (have ev := Cr.Dt.bl_eq hv; subst ev) | skip)
  | (refine' Cr.s_ixL0 ?k1 ?_; (case k1 => with_reducible walk_at "cr.lst"))
  | (refine' Cr.s_setL0 ?k1 ?_; (case k1 => with_reducible walk_at "cr.at"))
  | (refine' Cr.s_ixT1 ?k1 ?_; (case k1 => with_reducible walk_at "cr.dt"); intro v hv; first | (have ev := Cr.Dt.int_eq hv; subst ev) | (have ev := Cr.Dt.str_eq hv; subst ev) | (have ev := Cr.Dt.bl_eq hv; subst ev) | skip)
  | (refine' Cr.s_ixL1 ?k1 ?_; (case k1 => with_reducible walk_at "cr.lst"))
  | (refine' Cr.s_setL1 ?k1 ?_; (case k1 => with_reducible walk_at "cr.at"))
  | (refine' Cr.s_ixT2 ?k1 ?_; (case k1 => with_reducible walk_at "cr.dt"); intro v hv; first | (have ev := Cr.Dt.int_eq hv; subst ev) | (have ev := Cr.Dt.str_eq hv; subst ev) | (have ev := Cr.Dt.bl_eq hv; subst ev) | skip)
  | (refine' Cr.s_ixL2 ?k1 ?_; (case k1 => with_reducible walk_at "cr.lst"))
  | (refine' Cr.s_setL2 ?k1 ?_; (case k1 => with_reducible walk_at "cr.at"))
  | (refine' Cr.s_ixT3 ?k1 ?_; (case k1 => with_reducible walk_at "cr.dt"); intro v hv; first | (have ev := Cr.Dt.int_eq hv; subst ev) | (have ev := Cr.Dt.str_eq hv; subst ev) | (have ev := Cr.Dt.bl_eq hv; subst ev) | skip)
  | (refine' Cr.s_ixL3 ?k1 ?_; (case k1 => with_reducible walk_at "cr.lst"))
  | (refine' Cr.s_setL3 ?k1 ?_; (case k1 => with_reducible walk_at "cr.at"))
  | (refine' Cr.s_ixT4 ?k1 ?_; (case k1 => with_reducible walk_at "cr.dt"); intro v hv; first | (have ev := Cr.Dt.int_eq hv; subst ev) | (have ev := Cr.Dt.str_eq hv; subst ev) | (have ev := Cr.Dt.bl_eq hv; subst ev) | skip)
  | (refine' Cr.s_ixL4 ?k1 ?_; (case k1 => with_reducible walk_at "cr.lst"))
  | (refine' Cr.s_setL4 ?k1 ?_; (case k1 => with_reducible walk_at "cr.at"))
  | (refine' Cr.s_ixT5 ?k1 ?_; (case k1 => with_reducible walk_at "cr.dt"); intro v hv; first | (have ev := Cr.Dt.int_eq hv; subst ev) | (have ev := Cr.Dt.str_eq hv; subst ev) | (have ev := Cr.Dt.bl_eq hv; subst ev) | skip)
  | (refine' Cr.s_ixL5 ?k1 ?_; (case k1 => with_reducible walk_at "cr.lst"))
  | (refine' Cr.s_setL5 ?k1 ?_; (case k1 => with_reducible walk_at "cr.at"))
  | (refine' Cr.s_ixR0 ?k1 ?_; (case k1 => with_reducible walk_at "cr.at"))
  | (refine' Cr.s_ixR1 ?k1 ?_; (case k1 => with_reducible walk_at "cr.at"))
  | (refine' Cr.s_ixR2 ?k1 ?_; (case k1 => with_reducible walk_at "cr.at"))
  | (refine' Cr.s_ixR3 ?k1 ?_; (case k1 => with_reducible walk_at "cr.at"))
  | (refine' Cr.s_addT1 ?k1 ?k2 ?k4 ?k5 ?_; (case k1 => with_reducible walk_at "cr.dt"); (case k2 => with_reducible walk_at "cr.dt"); (case k4 => exact List.cons_ne_nil _ _); (case k5 => walk_at "cr.len"); intro v H' hs hd)
  | (refine' Cr.s_addTG ?k1 ?k2 ?k3 ?k5 ?_; (case k1 => with_reducible walk_at "cr.dt"); (case k2 => with_reducible walk_at "cr.dt"); (case k3 => first | with_reducible assumption | exact List.cons_ne_nil _ _); (case k5 => first | with_reducible assumption | walk_at "cr.len"); intro v H' hs hd; (try simp only [List.cons_append, List.nil_append] at hd))
  | (refine' Cr.s_ixL ?k1 ?k2 ?_; (case k1 => with_reducible walk_at "cr.lst"); (case k2 => with_reducible assumption))
  | (refine' Cr.s_setL ?k1 ?k2 ?_; (case k1 => with_reducible walk_at "cr.at"); (case k2 => assumption))
  | (refine' Cr.s_lenT ?k1 ?_; (case k1 => with_reducible walk_at "cr.dt"))
  | (refine' Cr.s_lenL ?k1 ?_; (case k1 => with_reducible walk_at "cr.lst"))
  | (refine' Cr.s_mulI ?k1 ?_; (case k1 => with_reducible walk_at "cr.sz"))
  | (refine' Cr.s_divI ?k1 ?_; (case k1 => with_reducible walk_at "cr.div"))
  | (refine' Cr.s_modI ?k1 ?_; (case k1 => first | with_reducible assumption | omega))
  | refine Cr.s_pow2 ?_
  | refine Cr.s_pow3 ?_
  | refine Cr.s_pow4 ?_
  | refine Cr.s_pow5 ?_
  | refine Cr.s_pow6 ?_
  | refine Cr.s_pow7 ?_
  | refine Cr.s_pow8 ?_
  | refine Cr.s_pow9 ?_
  | refine Cr.s_pow10 ?_
  | refine Cr.s_pow12 ?_
  | (refine' Cr.s_powI ?k1 ?_; (case k1 => with_unfolding_all exact ⟨by decide, by decide, by decide⟩))
  | (refine' Cr.s_eqFF ?k1 ?k2 ?_; (case k1 => with_reducible walk_at "cr.dt"); (case k2 => with_reducible walk_at "cr.dt"))
  | (refine' Cr.s_neFF ?k1 ?k2 ?_; (case k1 => with_reducible walk_at "cr.dt"); (case k2 => with_reducible walk_at "cr.dt"))
  | (refine' Cr.s_eqD2 ?k1 ?k2 ?_; (case k1 => with_reducible walk_at "cr.dt"); (case k2 => with_reducible walk_at "cr.dt"))
  | (refine' Cr.s_neD2 ?k1 ?k2 ?_; (case k1 => with_reducible walk_at "cr.dt"); (case k2 => with_reducible walk_at "cr.dt"))
  | (refine' Cr.s_eqPf ?k1 ?k2 ?k3 ?_; (case k1 => with_reducible walk_at "cr.dt"); (case k2 => with_reducible walk_at "cr.dt"); (case k3 => with_reducible assumption))
  | (refine' Cr.s_nePf ?k1 ?k2 ?k3 ?_; (case k1 => with_reducible walk_at "cr.dt"); (case k2 => with_reducible walk_at "cr.dt"); (case k3 => with_reducible assumption))
  | (refine' Cr.s_gtup ?k1 ?k2 ?_; (case k1 => with_reducible walk_at "cr.dt"); (case k2 => with_unfolding_all rfl); intro xs hxs)
  | (refine' Cr.s_gcons ?k1 ?_; (case k1 => with_reducible walk_at "cr.das"); intro v r hv hr; first | (have ev := Cr.Dt.int_eq hv; subst ev) | (have ev := Cr.Dt.str_eq hv; subst ev) | (have ev := Cr.Dt.bl_eq hv; subst ev) | skip)
  | (refine' Cr.s_gnil ?k1 ?_; (case k1 => with_reducible walk_at "cr.das"))
  | (refine' Cr.s_truL ?k1 ?_; (case k1 => with_reducible walk_at "cr.lst"))
  | refine Cr.s_isBb ?_
  | refine Cr.s_ntBb ?_
  | (refine' Cr.s_ixLm1 ?k1 ?k2 ?_; (case k1 => with_reducible walk_at "cr.lst"); (case k2 => with_reducible assumption))
  | refine Cr.s_isBl ?_
  | refine Cr.s_ntBl ?_
  | (refine' Cr.s_tupL ?k1 ?k2 ?_; (case k1 => with_reducible walk_at "cr.lst"); (case k2 => with_reducible walk_at "cr.das"); intro v H' hs hd)
  | (refine' Cr.s_tupT ?k1 ?_; (case k1 => with_reducible walk_at "cr.dt"))
  | (refine' Cr.s_listT ?k1 ?_; (case k1 => with_reducible walk_at "cr.dt"); intro l ys H' hs nl hl hd)
  | (refine' Cr.s_ixT6 ?k1 ?_; (case k1 => with_reducible walk_at "cr.dt"); intro v hv; first | (have ev := Cr.Dt.int_eq hv; subst ev) | (have ev := Cr.Dt.str_eq hv; subst ev) | (have ev := Cr.Dt.bl_eq hv; subst ev) | skip)
  | (refine' Cr.s_ixT7 ?k1 ?_; (case k1 => with_reducible walk_at "cr.dt"); intro v hv; first | (have ev := Cr.Dt.int_eq hv; subst ev) | (have ev := Cr.Dt.str_eq hv; subst ev) | (have ev := Cr.Dt.bl_eq hv; subst ev) | skip)
  | (refine' Cr.s_ixT8 ?k1 ?_; (case k1 => with_reducible walk_at "cr.dt"); intro v hv; first | (have ev := Cr.Dt.int_eq hv; subst ev) | (have ev := Cr.Dt.str_eq hv; subst ev) | (have ev := Cr.Dt.bl_eq hv; subst ev) | skip)
  | (refine' Cr.s_ixT9 ?k1 ?_; (case k1 => with_reducible walk_at "cr.dt"); intro v hv; first | (have ev := Cr.Dt.int_eq hv; subst ev) | (have ev := Cr.Dt.str_eq hv; subst ev) | (have ev := Cr.Dt.bl_eq hv; subst ev) | skip)
  | (refine' Cr.s_ixT10 ?k1 ?_; (case k1 => with_reducible walk_at "cr.dt"); intro v hv; first | (have ev := Cr.Dt.int_eq hv; subst ev) | (have ev := Cr.Dt.str_eq hv; subst ev) | (have ev := Cr.Dt.bl_eq hv; subst ev) | skip)
  | (refine' Cr.s_ixTm1 ?k1 ?k2 ?_; (case k1 => with_reducible walk_at "cr.dt"); (case k2 => exact Cr.last10); intro v hv; first | (have ev := Cr.Dt.int_eq hv; subst ev) | (have ev := Cr.Dt.str_eq hv; subst ev) | (have ev := Cr.Dt.bl_eq hv; subst ev) | skip)
  | refine Cr.s_m1 ?_
  | refine Cr.s_isStr ?_
  | refine Cr.s_iStr ?_
  | refine Cr.s_isIts ?_
  | (refine' Cr.s_join ?k1 ?k2 ?_; (case k1 => with_reducible walk_at "cr.lst"); (case k2 => with_reducible assumption))
  | (refine' Cr.s_abc ?k1 ?k2 ?_; (case k1 => omega); (case k2 => omega); intro c hc0 hc1)
  | refine Cr.s_inW1 ?_
  | refine Cr.s_inW2 ?_
  | refine Cr.s_inW3 ?_
  | refine Cr.s_inW4 ?_
  | refine Cr.s_inW5 ?_
  | refine Cr.s_inW6 ?_
  | refine Cr.s_inW7 ?_
  | refine Cr.s_inW8 ?_
  | refine Cr.s_inW9 ?_
  | refine Cr.s_inW10 ?_
  | refine Cr.s_inW11 ?_
  | refine Cr.s_inW12 ?_
  | (refine' Cr.s_inS ?k1 ?_; (case k1 => with_reducible walk_at "cr.lst"))
  | (refine' Cr.s_ntInS ?k1 ?_; (case k1 => with_reducible walk_at "cr.lst"))
  | (refine' Cr.s_slShi ?k1 ?k2 ?_; (case k1 => with_reducible assumption); (case k2 => omega))
  | (refine' Cr.s_slSlo ?k1 ?k2 ?_; (case k1 => with_reducible assumption); (case k2 => omega))
  | (refine' Cr.s_addS ?k1 ?_; (case k1 => with_reducible assumption))
  | refine Cr.s_dget2 ?_
  | refine Cr.s_dput ?_
  | (refine' Cr.s_getA ?k1 ?_; (case k1 => with_reducible walk_at "cr.at"))
  | (refine' Cr.s_getBS ?k1 ?_; (case k1 => with_reducible walk_at "cr.at"))
  | (refine' Cr.s_getBI ?k1 ?_; (case k1 => with_reducible walk_at "cr.at"))
  | (refine' Cr.s_putS ?k1 ?k2 ?_; (case k1 => with_reducible walk_at "cr.at"); (case k2 => with_reducible assumption))
  | (refine' Cr.s_fld1 ?k1 ?k2 ?k3 ?_; (case k1 => with_reducible walk_at "cr.at"); (case k2 => with_reducible assumption); (case k3 => with_reducible assumption))
  | (refine' Cr.s_meth1 ?k1 ?k2 ?_; (case k1 => with_reducible walk_at "cr.at"); (case k2 => with_unfolding_all decide +kernel))
  | refine Cr.s_dinV ?_
  | (refine Cr.s_disp ?_; intro p hp)
  | refine Cr.s_pairs ?_
  | refine Cr.s_pairs0 ?_
  | (refine' Cr.s_dispS ?k1 ?_; (case k1 => with_reducible walk_at "cr.at"))
  | (refine' Cr.s_dinS ?k1 ?_; (case k1 => with_reducible walk_at "cr.at"))
  | refine Cr.s_dgetV ?_
  | refine Cr.s_lv ?_
  | (refine Cr.s_dnewT ?_; intro p hp)
  | (refine Cr.s_dnewK ?_; intro p hp)
  | (refine' Cr.s_dinF ?k1 ?k2 ?_; (case k1 => with_reducible walk_at "cr.fz"); (case k2 => with_reducible walk_at "cr.at"))
  | (refine' Cr.s_dgetF ?k1 ?k2 ?k3 ?_; (case k1 => with_reducible walk_at "cr.fz"); (case k2 => with_reducible walk_at "cr.at"); (case k3 => with_reducible assumption))
  | (refine' Cr.s_putF ?k1 ?k2 ?k3 ?_; (case k1 => with_reducible walk_at "cr.fz"); (case k2 => with_reducible walk_at "cr.at"); (case k3 => with_reducible assumption))
  | (refine' Cr.s_lvT ?k1 ?_; (case k1 => with_reducible walk_at "cr.at"); intro l hl)
  | (refine' Cr.s_lvK ?k1 ?_; (case k1 => with_reducible walk_at "cr.at"); intro l hl)
  | (refine' Cr.s_insert ?k1 ?k2 ?k3 ?k4 ?_; (case k1 => with_reducible walk_at "cr.at"); (case k2 => walk_at "cr.room"); (case k3 => omega); (case k4 => omega))
  | (refine' Cr.s_aug ?k1 ?_; (case k1 => with_unfolding_all rfl))
  | refine Cr.s_ipAdd ?_
  | refine Cr.s_ipSub ?_
  | refine Cr.s_isNN ?_
  | refine Cr.s_ntNN ?_
  | refine Cr.s_neNN ?_
  | refine Cr.s_eqNN ?_
  | refine Cr.s_isRN ?_
  | refine Cr.s_ntRN ?_
  | (refine' Cr.s_isFN ?k1 ?_; (case k1 => with_reducible walk_at "cr.dt"))
  | (refine' Cr.s_ntFN ?k1 ?_; (case k1 => with_reducible walk_at "cr.dt"))
  | (refine' Cr.s_isTN ?k1 ?_; (case k1 => with_reducible walk_at "cr.dt"))
  | (refine' Cr.s_ntTN ?k1 ?_; (case k1 => with_reducible walk_at "cr.dt"))
  | refine Cr.s_lc ?_
  | refine Cr.s_intT ?_
  | refine Cr.s_intF ?_
  | (refine' Cr.s_intBt ?k1 ?_; (case k1 => with_reducible assumption))
  | (refine' Cr.s_intBf ?k1 ?_; (case k1 => with_reducible assumption))
  | refine Cr.s_intB ?_
  | refine Cr.s_intI ?_
  | (refine' Cr.s_eqFt ?k1 ?k2 ?k3 ?_; (case k1 => with_reducible walk_at "cr.dt"); (case k2 => with_reducible walk_at "cr.dt"); (case k3 => with_reducible assumption))
  | (refine' Cr.s_eqFf ?k1 ?k2 ?k3 ?_; (case k1 => with_reducible walk_at "cr.dt"); (case k2 => with_reducible walk_at "cr.dt"); (case k3 => with_reducible assumption))
  | (refine' Cr.s_neFt ?k1 ?k2 ?k3 ?_; (case k1 => with_reducible walk_at "cr.dt"); (case k2 => with_reducible walk_at "cr.dt"); (case k3 => with_reducible assumption))
  | (refine' Cr.s_neFf ?k1 ?k2 ?k3 ?_; (case k1 => with_reducible walk_at "cr.dt"); (case k2 => with_reducible walk_at "cr.dt"); (case k3 => with_reducible assumption))
  | (refine' Cr.s_eqF ?k1 ?k2 ?_; (case k1 => with_reducible walk_at "cr.dt"); (case k2 => with_reducible walk_at "cr.dt"))
  | (refine' Cr.s_neF ?k1 ?k2 ?_; (case k1 => with_reducible walk_at "cr.dt"); (case k2 => with_reducible walk_at "cr.dt"))
  | (refine' Cr.s_newT ?k1 ?_; (case k1 => with_reducible walk_at "cr.size"); intro p hp)
  | (refine' Cr.s_newL ?k1 ?_; (case k1 => with_reducible walk_at "cr.size"); intro p hp)
  | refine Cr.s_for ?_
  | refine Cr.s_iList ?_
  | refine Cr.s_rng1 ?_
  | refine Cr.s_fld ?_
  | refine Cr.s_meth ?_
  | refine Cr.s_make ?_
  | (refine' Cr.s_worth ?k1 ?k2 ?k3 ?_; (case k1 => with_reducible walk_at "cr.lot"); (case k2 => with_reducible assumption); (case k3 => with_reducible assumption); intro x hx)
  | (refine' Cr.s_mark ?k1 ?k2 ?k3 ?_; (case k1 => with_reducible walk_at "cr.lot"); (case k2 => with_reducible assumption); (case k3 => with_reducible assumption); intro x hx)
  | (refine' Cr.s_mlot ?k1 ?k2 ?k3 ?_; (case k1 => with_reducible walk_at "cr.lot"); (case k2 => with_unfolding_all decide +kernel); (case k3 => with_unfolding_all decide +kernel))
  | (refine' Cr.s_append ?k1 ?k2 ?_; (case k1 => with_reducible walk_at "cr.at"); (case k2 => walk_at "cr.room"))
  | (refine' Cr.s_addL ?k1 ?k2 ?k3 ?_; (case k1 => with_reducible walk_at "cr.at"); (case k2 => with_reducible walk_at "cr.at"); (case k3 => walk_at "cr.room"); intro p hp)
  | refine Cr.s_sl ?_
  | refine Cr.s_revL ?_
  | (refine' Cr.s_isRev ?k1 ?_; (case k1 => with_reducible walk_at "cr.lst"); intro p hp)
  | refine Cr.s_noPart ?_
  | refine Cr.s_part ?_
  | refine Cr.s_isI ?_
  | refine Cr.s_app ?_
  | (refine' Cr.s_isL ?k1 ?_; (case k1 => with_reducible walk_at "cr.lst"))
  | (refine' Cr.s_tyL ?k1 ?_; (case k1 => with_reducible walk_at "cr.lst"))
  | (refine' Cr.s_isR1 ?k1 ?k2 ?_; (case k1 => omega); (case k2 => omega))
  | (refine' Cr.s_slL ?k1 ?_; (case k1 => with_reducible walk_at "cr.lst"); intro p hp)
  | (refine' Cr.s_listL ?k1 ?_; (case k1 => with_reducible walk_at "cr.lst"); intro p hp)
  | (refine' Cr.s_kinT ?k1 ?_; (case k1 => with_reducible assumption))
  | (refine' Cr.s_kinF ?k1 ?_; (case k1 => with_reducible assumption))
  | (refine' Cr.s_kntinT ?k1 ?_; (case k1 => with_reducible assumption))
  | (refine' Cr.s_kntinF ?k1 ?_; (case k1 => with_reducible assumption))
  | (refine' Cr.s_slA ?k1 ?k2 ?_; (case k1 => with_reducible walk_at "cr.dt"); (case k2 => omega); intro v H' hs hd)
  | (refine' Cr.s_isLL ?k1 ?_; (case k1 => with_reducible walk_at "cr.at"))
  | refine Cr.s_isSS ?_
  | refine Cr.s_isSI ?_
  | refine Cr.s_isST ?_
  | refine Cr.s_isIS ?_
  | refine Cr.s_isIT ?_
  | refine Cr.s_isNT ?_
  | refine Cr.s_isNI ?_
  | (refine' Cr.s_isTI ?k1 ?_; (case k1 => with_reducible walk_at "cr.dt"))
  | refine Cr.s_callNS ?_
  | refine Cr.s_fldW ?_
  | refine Cr.s_dc ?_
  | (refine' Cr.s_dictD ?k1 ?_; (case k1 => with_reducible walk_at "cr.at"); intro p hp)
  | (refine' Cr.s_lenD ?k1 ?_; (case k1 => with_reducible walk_at "cr.at"))
  | refine Cr.s_dpop1 ?_
  | refine Cr.s_fldaug ?_
  | refine Cr.s_sortKT ?_
  | refine Cr.s_xf ?_
  | refine Cr.s_mkO ?_
  | refine Cr.s_inSign ?_
  | (refine' Cr.s_truTc ?k1 ?_; (case k1 => with_reducible walk_at "cr.dt"))
  | (refine' Cr.s_lenS ?k1 ?_; (case k1 => with_reducible assumption))
  | refine Cr.s_gc ?_
  | refine Cr.s_gn ?_
  | refine Cr.s_iEnumT ?_
  | refine Cr.s_sk ?_
  | refine Cr.s_iTup ?_
  | (refine' Cr.s_lenK ?k1 ?_; (case k1 => with_reducible walk_at "cr.at"))
  | refine Cr.s_var (by with_unfolding_all rfl) ?_
  | refine Cr.s_gname ?_
  | walk_at "cr.call")
local macro_rules | `(tactic| walk_at "cr.go") => `(tactic| repeat (walk_at "cr.s"))
/-- the slots as a written list -/
local macro_rules | `(tactic| walk_at "cr.n") => `(tactic| (try simp only [Cr.sets, L2.wipe, List.foldl_cons, List.foldl_nil, List.set_cons_zero, List.set_cons_succ]))
local macro_rules | `(tactic| walk_at "cr.k") => `(tactic| ((try simp only [Cr.cxK0, Cr.cxK1]); (try simp only [L2.start, List.map_cons, List.map_nil, List.length_cons, List.length_nil, List.cons_append, List.nil_append, Nat.reduceAdd, Nat.reduceSub, List.reduceReplicate, List.replicate, Nat.zero_add]); walk_at "cr.go"))

namespace Cr
open PySem PySem.Spec PyProof.Rows L2 L2.DX LamX
section

def topS (i : Nat) : Stmt := PySem.Challenge.pw_crestpool_k58_what_parts_two_lists.main.body.getD i (.Pass ⟨0, 0, 0, 0⟩)
abbrev s_is_whole : Stmt := topS 11
theorem sc_is_whole : FnScope ["one", "least", "most"] ["one", "least", "most"] (defScope s_is_whole) := ⟨rfl, rfl, rfl, by decide +kernel, rfl, by decide +kernel, by decide +kernel⟩
abbrev s_is_day : Stmt := topS 12
theorem sc_is_day : FnScope ["one"] ["one"] (defScope s_is_day) := ⟨rfl, rfl, rfl, by decide +kernel, rfl, by decide +kernel, by decide +kernel⟩
abbrev s_is_name : Stmt := topS 10
theorem sc_is_name : FnScope ["one", "sign"] ["one"] (defScope s_is_name) := ⟨rfl, rfl, rfl, by decide +kernel, rfl, by decide +kernel, by decide +kernel⟩
abbrev s_is_price : Stmt := topS 13
theorem sc_is_price : FnScope ["one"] ["one"] (defScope s_is_price) := ⟨rfl, rfl, rfl, by decide +kernel, rfl, by decide +kernel, by decide +kernel⟩
abbrev s_is_sum : Stmt := topS 14
theorem sc_is_sum : FnScope ["one"] ["one"] (defScope s_is_sum) := ⟨rfl, rfl, rfl, by decide +kernel, rfl, by decide +kernel, by decide +kernel⟩
abbrev s_is_parts : Stmt := topS 15
theorem sc_is_parts : FnScope ["one"] ["one"] (defScope s_is_parts) := ⟨rfl, rfl, rfl, by decide +kernel, rfl, by decide +kernel, by decide +kernel⟩
abbrev s_is_rate : Stmt := topS 16
theorem sc_is_rate : FnScope ["one"] ["one"] (defScope s_is_rate) := ⟨rfl, rfl, rfl, by decide +kernel, rfl, by decide +kernel, by decide +kernel⟩
abbrev s_is_levy : Stmt := topS 17
theorem sc_is_levy : FnScope ["one"] ["one"] (defScope s_is_levy) := ⟨rfl, rfl, rfl, by decide +kernel, rfl, by decide +kernel, by decide +kernel⟩
abbrev s_is_pair : Stmt := topS 18
theorem sc_is_pair : FnScope ["one"] ["one"] (defScope s_is_pair) := ⟨rfl, rfl, rfl, by decide +kernel, rfl, by decide +kernel, by decide +kernel⟩
abbrev s_is_pairs : Stmt := topS 19
theorem sc_is_pairs : FnScope ["some", "one", "thing", "count"] ["some"] (defScope s_is_pairs) := ⟨rfl, rfl, rfl, by decide +kernel, rfl, by decide +kernel, by decide +kernel⟩
abbrev s_checked : Stmt := topS 21
theorem sc_checked : FnScope ["entry", "kind", "rest", "at", "look"] ["entry"] (defScope s_checked) := ⟨rfl, rfl, rfl, by decide +kernel, rfl, by decide +kernel, by decide +kernel⟩
abbrev s_by_day : Stmt := topS 22
theorem sc_by_day : FnScope ["entries", "day", "entry"] ["entries", "day"] (defScope s_by_day) := ⟨rfl, rfl, rfl, by decide +kernel, rfl, by decide +kernel, by decide +kernel⟩
abbrev s_in_order : Stmt := topS 23
theorem sc_in_order : FnScope ["entries"] ["entries"] (defScope s_in_order) := ⟨rfl, rfl, rfl, by decide +kernel, rfl, by decide +kernel, by decide +kernel⟩
abbrev s_parting : Stmt := topS 25
theorem sc_parting : FnScope ["before", "after", "one", "other", "entry"] ["before", "after"] (defScope s_parting) := ⟨rfl, rfl, rfl, by decide +kernel, rfl, by decide +kernel, by decide +kernel⟩
abbrev s__law_bag : Stmt := topS 27
theorem sc__law_bag : FnScope ["_law_script", "_law_salt", "_law_cell"] ["_law_script"] (defScope s__law_bag) := ⟨rfl, rfl, rfl, by decide +kernel, rfl, by decide +kernel, by decide +kernel⟩
abbrev s__law_pull : Stmt := topS 28
theorem sc__law_pull : FnScope ["_law_bag_here", "_law_many", "_law_found", "_law_cell"] ["_law_bag_here", "_law_many"] (defScope s__law_pull) := ⟨rfl, rfl, rfl, by decide +kernel, rfl, by decide +kernel, by decide +kernel⟩
abbrev s__law_wide : Stmt := topS 31
theorem sc__law_wide : FnScope ["_law_bag_here", "_law_many", "_law_low"] ["_law_bag_here", "_law_many"] (defScope s__law_wide) := ⟨rfl, rfl, rfl, by decide +kernel, rfl, by decide +kernel, by decide +kernel⟩
abbrev s__law_pennies : Stmt := topS 32
theorem sc__law_pennies : FnScope ["_law_bag_here"] ["_law_bag_here"] (defScope s__law_pennies) := ⟨rfl, rfl, rfl, by decide +kernel, rfl, by decide +kernel, by decide +kernel⟩
abbrev s__law_price : Stmt := topS 33
theorem sc__law_price : FnScope ["_law_bag_here"] ["_law_bag_here"] (defScope s__law_price) := ⟨rfl, rfl, rfl, by decide +kernel, rfl, by decide +kernel, by decide +kernel⟩
abbrev s__law_pairs : Stmt := topS 34
theorem sc__law_pairs : FnScope ["_law_bag_here", "_law_things", "_law_found", "_law_thing"] ["_law_bag_here", "_law_things"] (defScope s__law_pairs) := ⟨rfl, rfl, rfl, by decide +kernel, rfl, by decide +kernel, by decide +kernel⟩
abbrev s__law_entry : Stmt := topS 35
theorem sc__law_entry : FnScope ["_law_bag_here", "_law_holders", "_law_things", "_law_last", "_law_menu", "_law_kind", "_law_date", "_law_at", "_law_thing", "_law_cents", "_law_other"] ["_law_bag_here", "_law_holders", "_law_things", "_law_last"] (defScope s__law_entry) := ⟨rfl, rfl, rfl, by decide +kernel, rfl, by decide +kernel, by decide +kernel⟩
abbrev s__law_slot : Stmt := topS 36
theorem sc__law_slot : FnScope ["_law_row"] ["_law_row"] (defScope s__law_slot) := ⟨rfl, rfl, rfl, by decide +kernel, rfl, by decide +kernel, by decide +kernel⟩
abbrev s__law_name : Stmt := topS 29
theorem sc__law_name : FnScope ["_law_bag_here", "_law_size", "_law_k"] ["_law_bag_here"] (defScope s__law_name) := ⟨rfl, rfl, rfl, by decide +kernel, rfl, by decide +kernel, by decide +kernel⟩
abbrev s__law_names : Stmt := topS 30
theorem sc__law_names : FnScope ["_law_bag_here", "_law_many", "_law_found", "_law_k", "_law_name_here", "_law_sign"] ["_law_bag_here", "_law_many"] (defScope s__law_names) := ⟨rfl, rfl, rfl, by decide +kernel, rfl, by decide +kernel, by decide +kernel⟩
abbrev s__law_book : Stmt := topS 37
theorem sc__law_book : FnScope ["_law_bag_here", "_law_many", "_law_holders", "_law_things", "_law_last", "_law_shift", "_law_rows", "_law_k", "_law_found", "_law_slots", "_law_row", "_law_thing"] ["_law_bag_here", "_law_many"] (defScope s__law_book) := ⟨rfl, rfl, rfl, by decide +kernel, rfl, by decide +kernel, by decide +kernel⟩
abbrev s__law_shuffled : Stmt := topS 38
theorem sc__law_shuffled : FnScope ["_law_bag_here", "_law_rows", "_law_rest", "_law_found", "_law_k"] ["_law_bag_here", "_law_rows"] (defScope s__law_shuffled) := ⟨rfl, rfl, rfl, by decide +kernel, rfl, by decide +kernel, by decide +kernel⟩
abbrev s__law_extra : Stmt := topS 39
theorem sc__law_extra : FnScope ["_law_one", "_law_other", "_law_rest", "_law_found", "_law_row"] ["_law_one", "_law_other"] (defScope s__law_extra) := ⟨rfl, rfl, rfl, by decide +kernel, rfl, by decide +kernel, by decide +kernel⟩
abbrev s__law_formed : Stmt := topS 40
theorem sc__law_formed : FnScope ["_law_rows", "_law_row"] ["_law_rows"] (defScope s__law_formed) := ⟨rfl, rfl, rfl, by decide +kernel, rfl, by decide +kernel, by decide +kernel⟩
abbrev s_law : Stmt := topS 41
theorem sc_law : FnScope ["_law_script", "_law_bag_here", "_law_rows", "_law_holders", "_law_things", "_law_last", "_law_other", "_law_k", "_law_more", "_law_kept", "_law_one", "_law_two", "_law_found", "_law_row"] ["_law_script"] (defScope s_law) := ⟨rfl, rfl, rfl, by decide +kernel, rfl, by decide +kernel, by decide +kernel⟩
/-- what the top has left -/
structure Top (w : World) (K : PySem.W.Frag) (mg : Str → Option Value) where
  n_bool : mg "bool" = none
  n_int : mg "int" = none
  n_isinstance : mg "isinstance" = none
  n_all : mg "all" = none
  n_len : mg "len" = none
  n_str : mg "str" = none
  n_tuple : mg "tuple" = none
  n_enumerate : mg "enumerate" = none
  n_sorted : mg "sorted" = none
  n_list : mg "list" = none
  n_range : mg "range" = none
  t_LAST : Tok
  c_LAST : mg "LAST" = some (.int 400 t_LAST)
  t_LETTERS : Tok
  c_LETTERS : mg "LETTERS" = some (.str "abcdefghijklmnopqrstuvwxyz" t_LETTERS)
  t_MOST_PRICE : Tok
  c_MOST_PRICE : mg "MOST_PRICE" = some (.int 1000000 t_MOST_PRICE)
  t_MOST_SUM : Tok
  c_MOST_SUM : mg "MOST_SUM" = some (.int 1000000000 t_MOST_SUM)
  t_WHOLE : Tok
  c_WHOLE : mg "WHOLE" = some (.int 10000 t_WHOLE)
  a_FORMS : Addr
  c_FORMS : mg "FORMS" = some (.ref a_FORMS)
  kd_FORMS : ∃ es n, KDict K w a_FORMS es n
  f_is_whole : Addr
  fd_is_whole : FuncData
  F_is_whole : Fun K "is_whole" "is_whole" s_is_whole f_is_whole fd_is_whole
  b_is_whole : Binds K fd_is_whole ["one", "least", "most"] []
  k_is_whole : PySem.W.keepIn K (.ref f_is_whole) = true
  g_is_whole : mg "is_whole" = some (.ref f_is_whole)
  f_is_day : Addr
  fd_is_day : FuncData
  F_is_day : Fun K "is_day" "is_day" s_is_day f_is_day fd_is_day
  b_is_day : Binds K fd_is_day ["one"] []
  k_is_day : PySem.W.keepIn K (.ref f_is_day) = true
  g_is_day : mg "is_day" = some (.ref f_is_day)
  f_is_name : Addr
  fd_is_name : FuncData
  F_is_name : Fun K "is_name" "is_name" s_is_name f_is_name fd_is_name
  b_is_name : Binds K fd_is_name ["one"] []
  k_is_name : PySem.W.keepIn K (.ref f_is_name) = true
  g_is_name : mg "is_name" = some (.ref f_is_name)
  f_is_price : Addr
  fd_is_price : FuncData
  F_is_price : Fun K "is_price" "is_price" s_is_price f_is_price fd_is_price
  b_is_price : Binds K fd_is_price ["one"] []
  k_is_price : PySem.W.keepIn K (.ref f_is_price) = true
  g_is_price : mg "is_price" = some (.ref f_is_price)
  f_is_sum : Addr
  fd_is_sum : FuncData
  F_is_sum : Fun K "is_sum" "is_sum" s_is_sum f_is_sum fd_is_sum
  b_is_sum : Binds K fd_is_sum ["one"] []
  k_is_sum : PySem.W.keepIn K (.ref f_is_sum) = true
  g_is_sum : mg "is_sum" = some (.ref f_is_sum)
  f_is_parts : Addr
  fd_is_parts : FuncData
  F_is_parts : Fun K "is_parts" "is_parts" s_is_parts f_is_parts fd_is_parts
  b_is_parts : Binds K fd_is_parts ["one"] []
  k_is_parts : PySem.W.keepIn K (.ref f_is_parts) = true
  g_is_parts : mg "is_parts" = some (.ref f_is_parts)
  f_is_rate : Addr
  fd_is_rate : FuncData
  F_is_rate : Fun K "is_rate" "is_rate" s_is_rate f_is_rate fd_is_rate
  b_is_rate : Binds K fd_is_rate ["one"] []
  k_is_rate : PySem.W.keepIn K (.ref f_is_rate) = true
  g_is_rate : mg "is_rate" = some (.ref f_is_rate)
  f_is_levy : Addr
  fd_is_levy : FuncData
  F_is_levy : Fun K "is_levy" "is_levy" s_is_levy f_is_levy fd_is_levy
  b_is_levy : Binds K fd_is_levy ["one"] []
  k_is_levy : PySem.W.keepIn K (.ref f_is_levy) = true
  g_is_levy : mg "is_levy" = some (.ref f_is_levy)
  f_is_pair : Addr
  fd_is_pair : FuncData
  F_is_pair : Fun K "is_pair" "is_pair" s_is_pair f_is_pair fd_is_pair
  b_is_pair : Binds K fd_is_pair ["one"] []
  k_is_pair : PySem.W.keepIn K (.ref f_is_pair) = true
  g_is_pair : mg "is_pair" = some (.ref f_is_pair)
  f_is_pairs : Addr
  fd_is_pairs : FuncData
  F_is_pairs : Fun K "is_pairs" "is_pairs" s_is_pairs f_is_pairs fd_is_pairs
  b_is_pairs : Binds K fd_is_pairs ["some"] []
  k_is_pairs : PySem.W.keepIn K (.ref f_is_pairs) = true
  g_is_pairs : mg "is_pairs" = some (.ref f_is_pairs)
  f_checked : Addr
  fd_checked : FuncData
  F_checked : Fun K "checked" "checked" s_checked f_checked fd_checked
  b_checked : Binds K fd_checked ["entry"] []
  k_checked : PySem.W.keepIn K (.ref f_checked) = true
  g_checked : mg "checked" = some (.ref f_checked)
  f_by_day : Addr
  fd_by_day : FuncData
  F_by_day : FunD K "by_day" "by_day" (defArgs s_by_day) (defBody s_by_day) (defScope s_by_day) [] [("day", V.int 400)] f_by_day fd_by_day
  k_by_day : PySem.W.keepIn K (.ref f_by_day) = true
  g_by_day : mg "by_day" = some (.ref f_by_day)
  f_in_order : Addr
  fd_in_order : FuncData
  F_in_order : Fun K "in_order" "in_order" s_in_order f_in_order fd_in_order
  b_in_order : Binds K fd_in_order ["entries"] []
  k_in_order : PySem.W.keepIn K (.ref f_in_order) = true
  g_in_order : mg "in_order" = some (.ref f_in_order)
  f_parting : Addr
  fd_parting : FuncData
  F_parting : Fun K "parting" "parting" s_parting f_parting fd_parting
  b_parting : Binds K fd_parting ["before", "after"] []
  k_parting : PySem.W.keepIn K (.ref f_parting) = true
  g_parting : mg "parting" = some (.ref f_parting)
  f__law_bag : Addr
  fd__law_bag : FuncData
  F__law_bag : Fun K "_law_bag" "_law_bag" s__law_bag f__law_bag fd__law_bag
  b__law_bag : Binds K fd__law_bag ["_law_script"] []
  k__law_bag : PySem.W.keepIn K (.ref f__law_bag) = true
  g__law_bag : mg "_law_bag" = some (.ref f__law_bag)
  f__law_pull : Addr
  fd__law_pull : FuncData
  F__law_pull : Fun K "_law_pull" "_law_pull" s__law_pull f__law_pull fd__law_pull
  b__law_pull : Binds K fd__law_pull ["_law_bag_here", "_law_many"] []
  k__law_pull : PySem.W.keepIn K (.ref f__law_pull) = true
  g__law_pull : mg "_law_pull" = some (.ref f__law_pull)
  f__law_wide : Addr
  fd__law_wide : FuncData
  F__law_wide : Fun K "_law_wide" "_law_wide" s__law_wide f__law_wide fd__law_wide
  b__law_wide : Binds K fd__law_wide ["_law_bag_here", "_law_many"] []
  k__law_wide : PySem.W.keepIn K (.ref f__law_wide) = true
  g__law_wide : mg "_law_wide" = some (.ref f__law_wide)
  f__law_pennies : Addr
  fd__law_pennies : FuncData
  F__law_pennies : Fun K "_law_pennies" "_law_pennies" s__law_pennies f__law_pennies fd__law_pennies
  b__law_pennies : Binds K fd__law_pennies ["_law_bag_here"] []
  k__law_pennies : PySem.W.keepIn K (.ref f__law_pennies) = true
  g__law_pennies : mg "_law_pennies" = some (.ref f__law_pennies)
  f__law_price : Addr
  fd__law_price : FuncData
  F__law_price : Fun K "_law_price" "_law_price" s__law_price f__law_price fd__law_price
  b__law_price : Binds K fd__law_price ["_law_bag_here"] []
  k__law_price : PySem.W.keepIn K (.ref f__law_price) = true
  g__law_price : mg "_law_price" = some (.ref f__law_price)
  f__law_pairs : Addr
  fd__law_pairs : FuncData
  F__law_pairs : Fun K "_law_pairs" "_law_pairs" s__law_pairs f__law_pairs fd__law_pairs
  b__law_pairs : Binds K fd__law_pairs ["_law_bag_here", "_law_things"] []
  k__law_pairs : PySem.W.keepIn K (.ref f__law_pairs) = true
  g__law_pairs : mg "_law_pairs" = some (.ref f__law_pairs)
  f__law_entry : Addr
  fd__law_entry : FuncData
  F__law_entry : Fun K "_law_entry" "_law_entry" s__law_entry f__law_entry fd__law_entry
  b__law_entry : Binds K fd__law_entry ["_law_bag_here", "_law_holders", "_law_things", "_law_last"] []
  k__law_entry : PySem.W.keepIn K (.ref f__law_entry) = true
  g__law_entry : mg "_law_entry" = some (.ref f__law_entry)
  f__law_slot : Addr
  fd__law_slot : FuncData
  F__law_slot : Fun K "_law_slot" "_law_slot" s__law_slot f__law_slot fd__law_slot
  b__law_slot : Binds K fd__law_slot ["_law_row"] []
  k__law_slot : PySem.W.keepIn K (.ref f__law_slot) = true
  g__law_slot : mg "_law_slot" = some (.ref f__law_slot)
  f__law_name : Addr
  fd__law_name : FuncData
  F__law_name : Fun K "_law_name" "_law_name" s__law_name f__law_name fd__law_name
  b__law_name : Binds K fd__law_name ["_law_bag_here"] []
  k__law_name : PySem.W.keepIn K (.ref f__law_name) = true
  g__law_name : mg "_law_name" = some (.ref f__law_name)
  f__law_names : Addr
  fd__law_names : FuncData
  F__law_names : Fun K "_law_names" "_law_names" s__law_names f__law_names fd__law_names
  b__law_names : Binds K fd__law_names ["_law_bag_here", "_law_many"] []
  k__law_names : PySem.W.keepIn K (.ref f__law_names) = true
  g__law_names : mg "_law_names" = some (.ref f__law_names)
  f__law_book : Addr
  fd__law_book : FuncData
  F__law_book : Fun K "_law_book" "_law_book" s__law_book f__law_book fd__law_book
  b__law_book : Binds K fd__law_book ["_law_bag_here", "_law_many"] []
  k__law_book : PySem.W.keepIn K (.ref f__law_book) = true
  g__law_book : mg "_law_book" = some (.ref f__law_book)
  f__law_shuffled : Addr
  fd__law_shuffled : FuncData
  F__law_shuffled : Fun K "_law_shuffled" "_law_shuffled" s__law_shuffled f__law_shuffled fd__law_shuffled
  b__law_shuffled : Binds K fd__law_shuffled ["_law_bag_here", "_law_rows"] []
  k__law_shuffled : PySem.W.keepIn K (.ref f__law_shuffled) = true
  g__law_shuffled : mg "_law_shuffled" = some (.ref f__law_shuffled)
  f__law_extra : Addr
  fd__law_extra : FuncData
  F__law_extra : Fun K "_law_extra" "_law_extra" s__law_extra f__law_extra fd__law_extra
  b__law_extra : Binds K fd__law_extra ["_law_one", "_law_other"] []
  k__law_extra : PySem.W.keepIn K (.ref f__law_extra) = true
  g__law_extra : mg "_law_extra" = some (.ref f__law_extra)
  f__law_formed : Addr
  fd__law_formed : FuncData
  F__law_formed : Fun K "_law_formed" "_law_formed" s__law_formed f__law_formed fd__law_formed
  b__law_formed : Binds K fd__law_formed ["_law_rows"] []
  k__law_formed : PySem.W.keepIn K (.ref f__law_formed) = true
  g__law_formed : mg "_law_formed" = some (.ref f__law_formed)
  a_FORMS_price : Addr
  i_FORMS_price : PySem.W.nsIn K a_FORMS "price" = some (some (.ref a_FORMS_price))
  q_FORMS_price : ∀ H, SqT K H a_FORMS_price [.ref f_is_day, .ref f_is_name, .ref f_is_price]
  a_FORMS_mix : Addr
  i_FORMS_mix : PySem.W.nsIn K a_FORMS "mix" = some (some (.ref a_FORMS_mix))
  q_FORMS_mix : ∀ H, SqT K H a_FORMS_mix [.ref f_is_day, .ref f_is_pairs]
  a_FORMS_come : Addr
  i_FORMS_come : PySem.W.nsIn K a_FORMS "come" = some (some (.ref a_FORMS_come))
  q_FORMS_come : ∀ H, SqT K H a_FORMS_come [.ref f_is_day, .ref f_is_name, .ref f_is_sum]
  a_FORMS_go : Addr
  i_FORMS_go : PySem.W.nsIn K a_FORMS "go" = some (some (.ref a_FORMS_go))
  q_FORMS_go : ∀ H, SqT K H a_FORMS_go [.ref f_is_day, .ref f_is_name, .ref f_is_parts]
  a_FORMS_draw : Addr
  i_FORMS_draw : PySem.W.nsIn K a_FORMS "draw" = some (some (.ref a_FORMS_draw))
  q_FORMS_draw : ∀ H, SqT K H a_FORMS_draw [.ref f_is_day, .ref f_is_name, .ref f_is_sum]
  a_FORMS_give : Addr
  i_FORMS_give : PySem.W.nsIn K a_FORMS "give" = some (some (.ref a_FORMS_give))
  q_FORMS_give : ∀ H, SqT K H a_FORMS_give [.ref f_is_day, .ref f_is_name, .ref f_is_name, .ref f_is_parts]
  a_FORMS_rate : Addr
  i_FORMS_rate : PySem.W.nsIn K a_FORMS "rate" = some (some (.ref a_FORMS_rate))
  q_FORMS_rate : ∀ H, SqT K H a_FORMS_rate [.ref f_is_day, .ref f_is_rate]
  a_FORMS_harvest : Addr
  i_FORMS_harvest : PySem.W.nsIn K a_FORMS "harvest" = some (some (.ref a_FORMS_harvest))
  q_FORMS_harvest : ∀ H, SqT K H a_FORMS_harvest [.ref f_is_day]
  a_FORMS_aside : Addr
  i_FORMS_aside : PySem.W.nsIn K a_FORMS "aside" = some (some (.ref a_FORMS_aside))
  q_FORMS_aside : ∀ H, SqT K H a_FORMS_aside [.ref f_is_day, .ref f_is_name]
  a_FORMS_home : Addr
  i_FORMS_home : PySem.W.nsIn K a_FORMS "home" = some (some (.ref a_FORMS_home))
  q_FORMS_home : ∀ H, SqT K H a_FORMS_home [.ref f_is_day, .ref f_is_name]
  a_FORMS_levy : Addr
  i_FORMS_levy : PySem.W.nsIn K a_FORMS "levy" = some (some (.ref a_FORMS_levy))
  q_FORMS_levy : ∀ H, SqT K H a_FORMS_levy [.ref f_is_day, .ref f_is_levy]
  a_FORMS_hurdle : Addr
  i_FORMS_hurdle : PySem.W.nsIn K a_FORMS "hurdle" = some (some (.ref a_FORMS_hurdle))
  q_FORMS_hurdle : ∀ H, SqT K H a_FORMS_hurdle [.ref f_is_day, .ref f_is_parts]
  tc : Addr
  tP : Addr
  tcode : fd_in_order.code = .ref tc
section
variable {w : World} {K : PySem.W.Frag} {mg : Str → Option Value}
theorem bi_by_day_1 (T : Top w K mg) : ∃ ds, Vals [V.int 400] ds ∧ Binds K T.fd_by_day ["entries", "day"] ds :=
  T.F_by_day.binds0 1 (by simp) rfl fun _ _ _ _ _ _ us ks h1 h2 => match us, ks, h1, h2 with | [_], [_], _, _ => ⟨_, _, _, _, _, _, rfl, rfl, rfl⟩
end
variable {P : Program} {w : World} {K : PySem.W.Frag} {mg : Str → Option Value} {base : Heap}
/-! ### is_whole -/
def sp_is_whole (K : PySem.W.Frag) : Sp := fun vs H Q _ => ∃ (x : V) (e : PyData) (a b : Int), vs = [x, .int a, .int b] ∧ Dt K H x e ∧ plainD e ∧ Q (.bl (wholeB a b e)) H
theorem u_is_whole {H : Hp} {Q : VK} {E : XK} {vs : List V} {i a b : Int} (e : vs = [.int i, .int a, .int b]) (h0 : a ≤ i) (h1 : i ≤ b) (q : Q (.bl true) H) : sp_is_whole K vs H Q E := ⟨_, _, a, b, e, .int i, .inl ⟨i, rfl⟩, by rw [show wholeB a b (.int i) = true from decide_eq_true ⟨h0, h1⟩]; exact q⟩
theorem ok_is_whole (T : Top w K mg) : FnOk P w K mg base CX0 1 T.f_is_whole T.fd_is_whole ["one", "least", "most"] (sp_is_whole K) := by
  refine T.F_is_whole.ok sc_is_whole (fun vs H Q E h => by obtain ⟨x, e, a, b, rfl, _⟩ := h; rfl) (fun cdv A outer s H vs Q E hr h => ?_)
  obtain ⟨x, e, a, b, rfl, hx, hp, q⟩ := h
  refine ⟨_, (pss_one (ps_ret (pe_and (pe_callB call_isi (by rfl) T.n_isinstance (by decide +kernel) (pa_cons (pv 0) (pa_cons (pe_bltn (v := .ty "int") (by rfl) T.n_int (by decide +kernel) rfl) pa_nil))) (pe_and (pe_not (pe_callB call_isi (by rfl) T.n_isinstance (by decide +kernel) (pa_cons (pv 0) (pa_cons (pe_bltn (v := .ty "bool") (by rfl) T.n_bool (by decide +kernel) rfl) pa_nil)))) (pe_one (pe_chain op_leI op_leI (pv 1) (pv 0) (pv 2))))))), ?_⟩
  rcases hp with ⟨i, rfl⟩ | ⟨c, rfl⟩ | rfl | ⟨s, rfl⟩ | ⟨ds, rfl⟩
  · have ex := hx.int_eq
    subst ex
    walk_at "cr.k"
    refine s_iteD (fun h0 => ?_) (fun h0 => ?_)
    · walk_at "cr.go"
      by_cases h1 : i ≤ b
      · rw [decide_eq_true h1]
        rw [show wholeB a b (.int i) = true from decide_eq_true ⟨h0, h1⟩] at q
        exact q
      · rw [decide_eq_false h1]
        rw [show wholeB a b (.int i) = false from decide_eq_false fun z => h1 z.2] at q
        exact q
    · rw [show wholeB a b (.int i) = false from decide_eq_false fun z => h0 z.1] at q
      exact q
  · cases hx
    walk_at "cr.k"
    exact q
  · cases hx
    walk_at "cr.k"
    exact q
  · cases hx
    walk_at "cr.k"
    exact q
  · walk_at "cr.k"
    exact q
local macro_rules | `(tactic| walk_at "cr.call") => `(tactic| ((with_reducible refine' Cr.u_is_whole ?e ?a ?b ?_); (case e => with_unfolding_all rfl); (case a => omega); (case b => omega)))

/-! ### is_day -/
def sp_is_day (K : PySem.W.Frag) : Sp := spWh K 0 400
theorem u_is_day {H : Hp} {Q : VK} {E : XK} {vs : List V} {i : Int} (e : vs = [.int i]) (h0 : 0 ≤ i) (h1 : i ≤ 400) (q : ∀ H', Same H H' → Q (.bl true) H') : sp_is_day K vs H Q E := spWh_ok _ _ _ _ ⟨_, _, e, .int i, ⟨i, rfl, h0, h1⟩, q⟩
theorem ok_is_day (T : Top w K mg) : FnOk P w K mg base CX0 2 T.f_is_day T.fd_is_day ["one"] (sp_is_day K) := by
  have G_is_whole := ok_is_whole (P := P) (w := w) (base := base) T
  refine T.F_is_day.ok sc_is_day (fun vs H Q E h => by obtain ⟨x, e, rfl, _⟩ := h; rfl) (fun cdv A outer s H vs Q E hr h => ?_)
  obtain ⟨x, e, rfl, hx, hp, q⟩ := h
  refine ⟨_, (pss_one (ps_ret (pe_call (G_is_whole) (hr.mono (by decide)) (by rfl) T.g_is_whole T.k_is_whole T.b_is_whole .nil pass0 (pa_cons (pv 0) (pa_cons pe_int (pa_cons (pe_glob (v := .int 400) (by rfl) T.c_LAST ⟨_, rfl⟩) pa_nil)))))), ?_⟩
  walk_at "cr.k"
  exact ⟨x, e, 0, 400, rfl, hx, hp, q _ (Same.refl _)⟩
local macro_rules | `(tactic| walk_at "cr.call") => `(tactic| ((with_reducible refine' Cr.u_is_day ?e ?a ?b ?_); (case e => with_unfolding_all rfl); (case a => first | with_reducible assumption | omega); (case b => first | with_reducible assumption | omega); intro H' hs))

/-! ### is_name -/
theorem letters : (("abcdefghijklmnopqrstuvwxyz" : String) : Str).cps.toList = (List.range 26).map (97 + ·) := by decide +kernel
theorem in_letters {c : Nat} (h0 : 97 ≤ c) (h1 : c ≤ 122) : c ∈ (("abcdefghijklmnopqrstuvwxyz" : String) : Str).cps.toList := by
  rw [letters]
  exact List.mem_map.mpr ⟨c - 97, List.mem_range.mpr (by omega), by omega⟩
def sp_is_name (K : PySem.W.Frag) : Sp := spOk K okName
theorem u_is_name {H : Hp} {Q : VK} {E : XK} {vs : List V} {t : Str} (e : vs = [.str t]) (h : Nm t) (q : ∀ H', Same H H' → Q (.bl true) H') : sp_is_name K vs H Q E := ⟨_, _, e, .str t, ⟨t, rfl, h⟩, q⟩
theorem ok_is_name (T : Top w K mg) : FnOk P w K mg base CX0 1 T.f_is_name T.fd_is_name ["one"] (sp_is_name K) := by
  refine T.F_is_name.ok sc_is_name (fun vs H Q E h => by obtain ⟨x, e, rfl, _⟩ := h; rfl) (fun cdv A outer s H vs Q E hr h => ?_)
  obtain ⟨x, e, rfl, hx, ⟨t, rfl, hn⟩, q⟩ := h
  have ex := hx.str_eq
  subst ex
  have hl : t.length ≤ sizeLine := Nat.le_of_lt (L2.small1000 (show t.cps.size ≤ 1000 by have := hn.2.1; omega))
  have l0 : (1 : Int) ≤ (t.length : Int) := by show (1 : Int) ≤ (t.cps.size : Int); have := hn.1; omega
  have l1 : (t.length : Int) ≤ 12 := by show (t.cps.size : Int) ≤ 12; have := hn.2.1; omega
  refine ⟨_, (pss_cons (ps_if (PW.pt (pw_or (pt_not (pt_tru (pe_callB call_isi (by rfl) T.n_isinstance (by decide +kernel) (pa_cons (pv 0) (pa_cons (pe_bltn (v := .ty "str") (by rfl) T.n_str (by decide +kernel) rfl) pa_nil))))) (pw_or1 (pt_not (pt_chain op_leI op_leI pe_int (pe_callB call_lenU (by rfl) T.n_len (by decide +kernel) (pa_cons (pv 0) pa_nil)) pe_int))))) (pss_one (ps_ret pe_bl)) pss_nil)
      (pss_one (ps_ret (pe_callB (cr_all rfl) (by rfl) T.n_all (by decide +kernel) (pa_cons (pe_lc (own := [("sign", 1)]) (g := gName 1) (tt := tYes) rfl sc_is_name.nd (pi_str (pv 0)) (blkOk_by (N := ["one", "sign"]) (sc := defScope s_is_name) (by decide +kernel)) (fun _ _ _ _ _ => pg_name (i := 1) sc_is_name.nd rfl (Or.inl rfl)) (fun _ _ _ _ _ => pts_nil) (fun _ _ _ _ _ => (pe_cmpR (show OpR _ _ rInSign from op_in_signU) (pv 1) (pe_glob (v := .str "abcdefghijklmnopqrstuvwxyz") (by rfl) T.c_LETTERS ⟨_, rfl⟩) (by rfl)))) pa_nil))))), ?_⟩
  walk_at "cr.k"
  rw [decide_eq_true l0]
  walk_at "cr.go"
  rw [decide_eq_true l1]
  walk_at "cr.go"
  refine c_str (fun y => y = .bl true) (by have := hn.2.1; omega) ?_ ?_
  · intro c A N hc hS hN
    have hm := in_letters (hn.2.2 c hc).1 (hn.2.2 c hc).2
    walk_at "cr.n"
    walk_at "cr.go"
    refine ⟨rfl, ?_⟩
    walk_at "cr.go"
    rw [decide_eq_true hm]
    exact hN _ _ (Same.refl _) rfl
  · intro p ys A hS hp hA _ hy
    walk_at "cr.go"
    refine s_allT (.of hA) hy ?_
    exact q _ (by walk_at "cr.sm")
local macro_rules | `(tactic| walk_at "cr.call") => `(tactic| ((with_reducible refine' Cr.u_is_name ?e ?a ?_); (case e => with_unfolding_all rfl); (case a => with_reducible assumption); intro H' hs))

/-! ### is_price -/
def sp_is_price (K : PySem.W.Frag) : Sp := spOk K (okNum 1 1000000)
theorem u_is_price {H : Hp} {Q : VK} {E : XK} {vs : List V} {i : Int} (e : vs = [.int i]) (h0 : 1 ≤ i) (h1 : i ≤ 1000000) (q : ∀ H', Same H H' → Q (.bl true) H') : sp_is_price K vs H Q E := ⟨_, _, e, .int i, ⟨i, rfl, h0, h1⟩, q⟩
theorem ok_is_price (T : Top w K mg) : FnOk P w K mg base CX0 2 T.f_is_price T.fd_is_price ["one"] (sp_is_price K) := by
  have G_is_whole := ok_is_whole (P := P) (w := w) (base := base) T
  refine T.F_is_price.ok sc_is_price (fun vs H Q E h => by obtain ⟨x, e, rfl, _⟩ := h; rfl) (fun cdv A outer s H vs Q E hr h => ?_)
  obtain ⟨x, e, rfl, hx, ⟨i, rfl, h0, h1⟩, q⟩ := h
  have ex := hx.int_eq
  subst ex
  refine ⟨_, (pss_one (ps_ret (pe_call (G_is_whole) (hr.mono (by decide)) (by rfl) T.g_is_whole T.k_is_whole T.b_is_whole .nil pass0 (pa_cons (pv 0) (pa_cons pe_int (pa_cons (pe_glob (v := .int 1000000) (by rfl) T.c_MOST_PRICE ⟨_, rfl⟩) pa_nil)))))), ?_⟩
  walk_at "cr.k"
  exact q _ (Same.refl _)
local macro_rules | `(tactic| walk_at "cr.call") => `(tactic| ((with_reducible refine' Cr.u_is_price ?e ?a ?b ?_); (case e => with_unfolding_all rfl); (case a => first | with_reducible assumption | omega); (case b => first | with_reducible assumption | omega); intro H' hs))

/-! ### is_sum -/
def sp_is_sum (K : PySem.W.Frag) : Sp := spOk K (okNum 1 1000000000)
theorem u_is_sum {H : Hp} {Q : VK} {E : XK} {vs : List V} {i : Int} (e : vs = [.int i]) (h0 : 1 ≤ i) (h1 : i ≤ 1000000000) (q : ∀ H', Same H H' → Q (.bl true) H') : sp_is_sum K vs H Q E := ⟨_, _, e, .int i, ⟨i, rfl, h0, h1⟩, q⟩
theorem ok_is_sum (T : Top w K mg) : FnOk P w K mg base CX0 2 T.f_is_sum T.fd_is_sum ["one"] (sp_is_sum K) := by
  have G_is_whole := ok_is_whole (P := P) (w := w) (base := base) T
  refine T.F_is_sum.ok sc_is_sum (fun vs H Q E h => by obtain ⟨x, e, rfl, _⟩ := h; rfl) (fun cdv A outer s H vs Q E hr h => ?_)
  obtain ⟨x, e, rfl, hx, ⟨i, rfl, h0, h1⟩, q⟩ := h
  have ex := hx.int_eq
  subst ex
  refine ⟨_, (pss_one (ps_ret (pe_call (G_is_whole) (hr.mono (by decide)) (by rfl) T.g_is_whole T.k_is_whole T.b_is_whole .nil pass0 (pa_cons (pv 0) (pa_cons pe_int (pa_cons (pe_glob (v := .int 1000000000) (by rfl) T.c_MOST_SUM ⟨_, rfl⟩) pa_nil)))))), ?_⟩
  walk_at "cr.k"
  exact q _ (Same.refl _)
local macro_rules | `(tactic| walk_at "cr.call") => `(tactic| ((with_reducible refine' Cr.u_is_sum ?e ?a ?b ?_); (case e => with_unfolding_all rfl); (case a => first | with_reducible assumption | omega); (case b => first | with_reducible assumption | omega); intro H' hs))

/-! ### is_parts -/
def sp_is_parts (K : PySem.W.Frag) : Sp := spOk K (okNum 1 10000)
theorem u_is_parts {H : Hp} {Q : VK} {E : XK} {vs : List V} {i : Int} (e : vs = [.int i]) (h0 : 1 ≤ i) (h1 : i ≤ 10000) (q : ∀ H', Same H H' → Q (.bl true) H') : sp_is_parts K vs H Q E := ⟨_, _, e, .int i, ⟨i, rfl, h0, h1⟩, q⟩
theorem ok_is_parts (T : Top w K mg) : FnOk P w K mg base CX0 2 T.f_is_parts T.fd_is_parts ["one"] (sp_is_parts K) := by
  have G_is_whole := ok_is_whole (P := P) (w := w) (base := base) T
  refine T.F_is_parts.ok sc_is_parts (fun vs H Q E h => by obtain ⟨x, e, rfl, _⟩ := h; rfl) (fun cdv A outer s H vs Q E hr h => ?_)
  obtain ⟨x, e, rfl, hx, ⟨i, rfl, h0, h1⟩, q⟩ := h
  have ex := hx.int_eq
  subst ex
  refine ⟨_, (pss_one (ps_ret (pe_call (G_is_whole) (hr.mono (by decide)) (by rfl) T.g_is_whole T.k_is_whole T.b_is_whole .nil pass0 (pa_cons (pv 0) (pa_cons pe_int (pa_cons (pe_glob (v := .int 10000) (by rfl) T.c_WHOLE ⟨_, rfl⟩) pa_nil)))))), ?_⟩
  walk_at "cr.k"
  exact q _ (Same.refl _)
local macro_rules | `(tactic| walk_at "cr.call") => `(tactic| ((with_reducible refine' Cr.u_is_parts ?e ?a ?b ?_); (case e => with_unfolding_all rfl); (case a => first | with_reducible assumption | omega); (case b => first | with_reducible assumption | omega); intro H' hs))

/-! ### is_rate -/
def sp_is_rate (K : PySem.W.Frag) : Sp := spOk K (okNum 0 9999)
theorem u_is_rate {H : Hp} {Q : VK} {E : XK} {vs : List V} {i : Int} (e : vs = [.int i]) (h0 : 0 ≤ i) (h1 : i ≤ 9999) (q : ∀ H', Same H H' → Q (.bl true) H') : sp_is_rate K vs H Q E := ⟨_, _, e, .int i, ⟨i, rfl, h0, h1⟩, q⟩
theorem ok_is_rate (T : Top w K mg) : FnOk P w K mg base CX0 2 T.f_is_rate T.fd_is_rate ["one"] (sp_is_rate K) := by
  have G_is_whole := ok_is_whole (P := P) (w := w) (base := base) T
  refine T.F_is_rate.ok sc_is_rate (fun vs H Q E h => by obtain ⟨x, e, rfl, _⟩ := h; rfl) (fun cdv A outer s H vs Q E hr h => ?_)
  obtain ⟨x, e, rfl, hx, ⟨i, rfl, h0, h1⟩, q⟩ := h
  have ex := hx.int_eq
  subst ex
  refine ⟨_, (pss_one (ps_ret (pe_call (G_is_whole) (hr.mono (by decide)) (by rfl) T.g_is_whole T.k_is_whole T.b_is_whole .nil pass0 (pa_cons (pv 0) (pa_cons pe_int (pa_cons (pe_op op_subU (pe_glob (v := .int 10000) (by rfl) T.c_WHOLE ⟨_, rfl⟩) pe_int) pa_nil)))))), ?_⟩
  walk_at "cr.k"
  exact q _ (Same.refl _)
local macro_rules | `(tactic| walk_at "cr.call") => `(tactic| ((with_reducible refine' Cr.u_is_rate ?e ?a ?b ?_); (case e => with_unfolding_all rfl); (case a => first | with_reducible assumption | omega); (case b => first | with_reducible assumption | omega); intro H' hs))

/-! ### is_levy -/
def sp_is_levy (K : PySem.W.Frag) : Sp := spOk K (okNum 1 9999)
theorem u_is_levy {H : Hp} {Q : VK} {E : XK} {vs : List V} {i : Int} (e : vs = [.int i]) (h0 : 1 ≤ i) (h1 : i ≤ 9999) (q : ∀ H', Same H H' → Q (.bl true) H') : sp_is_levy K vs H Q E := ⟨_, _, e, .int i, ⟨i, rfl, h0, h1⟩, q⟩
theorem ok_is_levy (T : Top w K mg) : FnOk P w K mg base CX0 2 T.f_is_levy T.fd_is_levy ["one"] (sp_is_levy K) := by
  have G_is_whole := ok_is_whole (P := P) (w := w) (base := base) T
  refine T.F_is_levy.ok sc_is_levy (fun vs H Q E h => by obtain ⟨x, e, rfl, _⟩ := h; rfl) (fun cdv A outer s H vs Q E hr h => ?_)
  obtain ⟨x, e, rfl, hx, ⟨i, rfl, h0, h1⟩, q⟩ := h
  have ex := hx.int_eq
  subst ex
  refine ⟨_, (pss_one (ps_ret (pe_call (G_is_whole) (hr.mono (by decide)) (by rfl) T.g_is_whole T.k_is_whole T.b_is_whole .nil pass0 (pa_cons (pv 0) (pa_cons pe_int (pa_cons (pe_op op_subU (pe_glob (v := .int 10000) (by rfl) T.c_WHOLE ⟨_, rfl⟩) pe_int) pa_nil)))))), ?_⟩
  walk_at "cr.k"
  exact q _ (Same.refl _)
local macro_rules | `(tactic| walk_at "cr.call") => `(tactic| ((with_reducible refine' Cr.u_is_levy ?e ?a ?b ?_); (case e => with_unfolding_all rfl); (case a => first | with_reducible assumption | omega); (case b => first | with_reducible assumption | omega); intro H' hs))

/-! ### is_pair -/
def sp_is_pair (K : PySem.W.Frag) : Sp := spOk K okPair
theorem u_is_pair {H : Hp} {Q : VK} {E : XK} {vs : List V} {x : V} {t : Str} {c : Int} (e : vs = [x]) (hx : Dt K H x (.tuple [.str t, .int c])) (h : Nm t) (h0 : 1 ≤ c) (h1 : c ≤ 1000000) (q : ∀ H', Same H H' → Q (.bl true) H') : sp_is_pair K vs H Q E := ⟨x, _, e, hx, ⟨t, c, rfl, h, h0, h1⟩, q⟩
theorem ok_is_pair (T : Top w K mg) : FnOk P w K mg base CX0 3 T.f_is_pair T.fd_is_pair ["one"] (sp_is_pair K) := by
  have G_is_name := ok_is_name (P := P) (w := w) (base := base) T
  have G_is_price := ok_is_price (P := P) (w := w) (base := base) T
  refine T.F_is_pair.ok sc_is_pair (fun vs H Q E h => by obtain ⟨x, e, rfl, _⟩ := h; rfl) (fun cdv A outer s H vs Q E hr h => ?_)
  obtain ⟨x, e, rfl, hx, ⟨t, c, rfl, hn, h0, h1⟩, q⟩ := h
  refine ⟨_, (pss_one (ps_ret (pe_and (pe_callB call_isi (by rfl) T.n_isinstance (by decide +kernel) (pa_cons (pv 0) (pa_cons (pe_bltn (v := .ty "tuple") (by rfl) T.n_tuple (by decide +kernel) rfl) pa_nil))) (pe_and (pe_cmpR (op_eqD hr.units) (pe_callB call_lenU (by rfl) T.n_len (by decide +kernel) (pa_cons (pv 0) pa_nil)) pe_int (nomark _)) (pe_and (pe_call (G_is_name) (hr.mono (by decide)) (by rfl) T.g_is_name T.k_is_name T.b_is_name .nil pass0 (pa_cons (pe_ix ix_seq (pv 0) pe_int (fun _ _ => rfl)) pa_nil)) (pe_one (pe_call (G_is_price) (hr.mono (by decide)) (by rfl) T.g_is_price T.k_is_price T.b_is_price .nil pass0 (pa_cons (pe_ix ix_seq (pv 0) pe_int (fun _ _ => rfl)) pa_nil)))))))), ?_⟩
  walk_at "cr.k"
  refine s_iteD (fun _ => ?_) (fun z => absurd rfl z)
  walk_at "cr.go"
  exact q _ (by walk_at "cr.sm")
local macro_rules | `(tactic| walk_at "cr.call") => `(tactic| ((with_reducible refine' Cr.u_is_pair ?e ?a ?b ?c ?d ?_); (case e => with_unfolding_all rfl); (case a => walk_at "cr.dt"); (case b => with_reducible assumption); (case c => first | with_reducible assumption | omega); (case d => first | with_reducible assumption | omega); intro H' hs))

/-! ### is_pairs -/
def sp_is_pairs (K : PySem.W.Frag) : Sp := spOk K okPairs
theorem u_is_pairs {H : Hp} {Q : VK} {E : XK} {vs : List V} {x : V} {ps : List (Str × Int)} (e : vs = [x]) (hx : Dt K H x (pairsD ps)) (h : PsOf Nm ps) (q : ∀ H', Same H H' → Q (.bl true) H') : sp_is_pairs K vs H Q E := ⟨x, _, e, hx, ⟨ps, rfl, h⟩, q⟩
theorem das_a2m {K : PySem.W.Frag} {H : Hp} {α : Type} {f : α → PyData} : ∀ {vs : List V} {ls : List α}, DtAll K H vs (ls.map f) → A2 (fun v l => Dt K H v (f l)) vs ls
  | _, [], h => by cases h; exact .nil
  | _, l :: ls, h => by cases h with | cons a b => exact .cons a (das_a2m b)
theorem ok_is_pairs (T : Top w K mg) : FnOk P w K mg base CX0 4 T.f_is_pairs T.fd_is_pairs ["some"] (sp_is_pairs K) := by
  have G_is_pair := ok_is_pair (P := P) (w := w) (base := base) T
  refine T.F_is_pairs.ok sc_is_pairs (fun vs H Q E h => by obtain ⟨x, e, rfl, _⟩ := h; rfl) (fun cdv A outer s H vs Q E hr h => ?_)
  obtain ⟨x, e, rfl, hx, ⟨ps, rfl, hp⟩, q⟩ := h
  refine ⟨_, (pss_cons (ps_if (PW.pt (pw_or (pt_not (pt_tru (pe_callB call_isi (by rfl) T.n_isinstance (by decide +kernel) (pa_cons (pv 0) (pa_cons (pe_bltn (v := .ty "tuple") (by rfl) T.n_tuple (by decide +kernel) rfl) pa_nil))))) (pw_or1 (pt_not (pt_chain op_leI op_leI pe_int (pe_callB call_lenU (by rfl) T.n_len (by decide +kernel) (pa_cons (pv 0) pa_nil)) pe_int))))) (pss_one (ps_ret pe_bl)) pss_nil)
      (pss_cons (ps_if (pt_not (pt_tru (pe_callB (cr_all rfl) (by rfl) T.n_all (by decide +kernel) (pa_cons (pe_lc (own := [("one", 1)]) (g := gName 1) (tt := tYes) rfl sc_is_pairs.nd (pi_tup (pv 0)) (blkOk_by (N := ["some", "one", "thing", "count"]) (sc := defScope s_is_pairs) (by decide +kernel)) (fun _ _ _ _ _ => pg_name (i := 1) sc_is_pairs.nd rfl (Or.inl rfl)) (fun _ _ _ _ _ => pts_nil) (fun _ _ _ _ _ => (pe_call (G_is_pair) (hr.mono (by decide)) (by rfl) T.g_is_pair T.k_is_pair T.b_is_pair .nil pass0 (pa_cons (pv 1) pa_nil)))) pa_nil)))) (pss_one (ps_ret pe_bl)) pss_nil)
      (pss_one (ps_ret (pe_cmpR (op_eqD hr.units) (pe_callB call_lenK (by rfl) T.n_len (by decide +kernel) (pa_cons (pe_sk (own := [("thing", 2), ("count", 3)]) (g := gTup _ 2 (gCons (gName 2) (gCons (gName 3) gNil))) (tt := tYes) (fam_key _ _) rfl sc_is_pairs.nd (pi_tup (pv 0)) (blkOk_by (N := ["some", "one", "thing", "count"]) (sc := defScope s_is_pairs) (by decide +kernel)) (fun _ _ _ _ _ => pg_tup rfl (pgs_cons (pg_name (i := 2) sc_is_pairs.nd rfl (Or.inl rfl)) (pgs_cons (pg_name (i := 3) sc_is_pairs.nd rfl (Or.inl rfl)) pgs_nil))) (fun _ _ _ _ _ => pts_nil) (fun _ _ _ _ _ => (pv 2))) pa_nil)) (pe_callB call_lenU (by rfl) T.n_len (by decide +kernel) (pa_cons (pv 0) pa_nil)) (nomark _)))))), ?_⟩
  have l0 : (1 : Int) ≤ ((ps.map fun p => PyData.tuple [.str p.1, .int p.2]).length : Int) := by rw [List.length_map]; have := hp.l0; omega
  have l1 : ((ps.map fun p => PyData.tuple [.str p.1, .int p.2]).length : Int) ≤ 8 := by rw [List.length_map]; have := hp.l1; omega
  walk_at "cr.k"
  rw [decide_eq_true l0]
  walk_at "cr.go"
  rw [decide_eq_true l1]
  walk_at "cr.go"
  refine s_isLtD hx fun a xs ex hs hd => ?_
  subst ex
  have hl : xs.length ≤ 1000 := by rw [hd.len, List.length_map]; have := hp.l1; omega
  refine c_tupS (fun H v (p : Str × Int) => Dt K H v (.tuple [.str p.1, .int p.2])) (fun _ _ y => y = .bl true) (fun _ _ _ _ k h => h.mono k.kt) (fun _ _ _ _ _ h => h) hs (das_a2m hd) hl ?_ ?_
  · intro x p A N hm hx hS hN
    obtain ⟨hn, h0, h1⟩ := hp.ok p hm
    walk_at "cr.n"
    walk_at "cr.go"
    refine ⟨rfl, ?_⟩
    walk_at "cr.go"
    exact hN _ _ (by walk_at "cr.sm") rfl
  · intro p2 ys A hS hp2 hA h2
    have ht : ∀ y, y ∈ ys → y = .bl true := fun y hy => by
      obtain ⟨_, _, e⟩ := A2.mem h2.flip hy
      exact e
    walk_at "cr.go"
    refine s_allT (.of hA) ht ?_
    walk_at "cr.go"
    refine s_isLtD (hx.mono (kt_same hS)) fun a' xs' ex' hs' hd' => ?_
    cases ex'
    refine c_setT (fun H v (p : Str × Int) => Dt K H v (.tuple [.str p.1, .int p.2])) (fun p => Sum.inr p.1) (fun _ _ _ _ k h => h.mono k.kt) hs' (by rw [hd'.len, List.length_map]; have := hp.l1; omega) (das_a2m hd') ?_ ?_
    · intro x p A N hm hx hS hN
      walk_at "cr.n"
      walk_at "cr.go"
      refine ⟨rfl, ?_⟩
      walk_at "cr.go"
      exact hN _ (Same.refl _)
    · intro p3 A3 hS3 hp3 hA3
      have hx3 := (hx.mono (kt_same hS)).mono (kt_same hS3)
      have e : accK (ps.map fun p => (Sum.inr p.1 : Key)) = ps.map fun p => (Sum.inr p.1 : Key) := accK_nodup (by
        have := hp.nd
        rw [show (ps.map fun p => (Sum.inr p.1 : Key)) = (ps.map Prod.fst).map Sum.inr by rw [List.map_map]; rfl]
        exact List.Pairwise.map _ (fun a b h q => h (Sum.inr.inj q)) this)
      have ee : ((accK (ps.map fun p => (Sum.inr p.1 : Key))).length : Int) = ((ps.map fun p => PyData.tuple [.str p.1, .int p.2]).length : Int) := by rw [e, List.length_map, List.length_map]
      walk_at "cr.go"
      rw [decide_eq_true ee]
      exact q _ (by walk_at "cr.sm")
local macro_rules | `(tactic| walk_at "cr.call") => `(tactic| ((with_reducible refine' Cr.u_is_pairs ?e ?a ?b ?_); (case e => with_unfolding_all rfl); (case a => walk_at "cr.dt"); (case b => with_reducible assumption); intro H' hs))

/-! ### checked -/
/-- which def looks at a place, and what it promises -/
def FormSp (T : Top w K mg) (f : Addr) (sp : Sp) : Prop := (f = T.f_is_day ∧ sp = spOk K (okNum 0 400)) ∨ (f = T.f_is_name ∧ sp = sp_is_name K) ∨ (f = T.f_is_price ∧ sp = sp_is_price K) ∨ (f = T.f_is_sum ∧ sp = sp_is_sum K) ∨ (f = T.f_is_parts ∧ sp = sp_is_parts K) ∨ (f = T.f_is_rate ∧ sp = sp_is_rate K) ∨ (f = T.f_is_levy ∧ sp = sp_is_levy K) ∨ (f = T.f_is_pairs ∧ sp = sp_is_pairs K)
theorem form_held (T : Top w K mg) {k1 k2 k3 k4 k5 k6 k7 k8 : Nat} (G1 : FnOk P w K mg base CX0 k1 T.f_is_day T.fd_is_day ["one"] (sp_is_day K)) (G2 : FnOk P w K mg base CX0 k2 T.f_is_name T.fd_is_name ["one"] (sp_is_name K)) (G3 : FnOk P w K mg base CX0 k3 T.f_is_price T.fd_is_price ["one"] (sp_is_price K)) (G4 : FnOk P w K mg base CX0 k4 T.f_is_sum T.fd_is_sum ["one"] (sp_is_sum K)) (G5 : FnOk P w K mg base CX0 k5 T.f_is_parts T.fd_is_parts ["one"] (sp_is_parts K)) (G6 : FnOk P w K mg base CX0 k6 T.f_is_rate T.fd_is_rate ["one"] (sp_is_rate K)) (G7 : FnOk P w K mg base CX0 k7 T.f_is_levy T.fd_is_levy ["one"] (sp_is_levy K)) (G8 : FnOk P w K mg base CX0 k8 T.f_is_pairs T.fd_is_pairs ["some"] (sp_is_pairs K))
    (l1 : k1 ≤ 5 := by decide) (l2 : k2 ≤ 5 := by decide) (l3 : k3 ≤ 5 := by decide) (l4 : k4 ≤ 5 := by decide) (l5 : k5 ≤ 5 := by decide) (l6 : k6 ≤ 5 := by decide) (l7 : k7 ≤ 5 := by decide) (l8 : k8 ≤ 5 := by decide) : ∀ f sp, FormSp T f sp → ∃ k, k ≤ 5 ∧ Held P w K mg base k f sp := by
  rintro f sp (⟨rfl, rfl⟩ | ⟨rfl, rfl⟩ | ⟨rfl, rfl⟩ | ⟨rfl, rfl⟩ | ⟨rfl, rfl⟩ | ⟨rfl, rfl⟩ | ⟨rfl, rfl⟩ | ⟨rfl, rfl⟩)
  · exact ⟨k1, l1, ⟨_, _, G1.imp spWh_ok, T.k_is_day, T.b_is_day⟩⟩
  · exact ⟨k2, l2, ⟨_, _, G2, T.k_is_name, T.b_is_name⟩⟩
  · exact ⟨k3, l3, ⟨_, _, G3, T.k_is_price, T.b_is_price⟩⟩
  · exact ⟨k4, l4, ⟨_, _, G4, T.k_is_sum, T.b_is_sum⟩⟩
  · exact ⟨k5, l5, ⟨_, _, G5, T.k_is_parts, T.b_is_parts⟩⟩
  · exact ⟨k6, l6, ⟨_, _, G6, T.k_is_rate, T.b_is_rate⟩⟩
  · exact ⟨k7, l7, ⟨_, _, G7, T.k_is_levy, T.b_is_levy⟩⟩
  · exact ⟨k8, l8, ⟨_, _, G8, T.k_is_pairs, T.b_is_pairs⟩⟩
/-- the def at f says True of e -/
def FormOk (T : Top w K mg) (f : Addr) (e : PyData) : Prop := ∃ ok, FormSp T f (spOk K ok) ∧ ok e
theorem fo_day (T : Top w K mg) {i : Int} (h0 : 0 ≤ i) (h1 : i ≤ 400) : FormOk T T.f_is_day (.int i) := ⟨_, .inl ⟨rfl, rfl⟩, i, rfl, h0, h1⟩
theorem fo_name (T : Top w K mg) {t : Str} (h : Nm t) : FormOk T T.f_is_name (.str t) := ⟨_, .inr (.inl ⟨rfl, rfl⟩), t, rfl, h⟩
theorem fo_price (T : Top w K mg) {i : Int} (h0 : 1 ≤ i) (h1 : i ≤ 1000000) : FormOk T T.f_is_price (.int i) := ⟨_, .inr (.inr (.inl ⟨rfl, rfl⟩)), i, rfl, h0, h1⟩
theorem fo_sum (T : Top w K mg) {i : Int} (h0 : 1 ≤ i) (h1 : i ≤ 1000000000) : FormOk T T.f_is_sum (.int i) := ⟨_, .inr (.inr (.inr (.inl ⟨rfl, rfl⟩))), i, rfl, h0, h1⟩
theorem fo_parts (T : Top w K mg) {i : Int} (h0 : 1 ≤ i) (h1 : i ≤ 10000) : FormOk T T.f_is_parts (.int i) := ⟨_, .inr (.inr (.inr (.inr (.inl ⟨rfl, rfl⟩)))), i, rfl, h0, h1⟩
theorem fo_rate (T : Top w K mg) {i : Int} (h0 : 0 ≤ i) (h1 : i ≤ 9999) : FormOk T T.f_is_rate (.int i) := ⟨_, .inr (.inr (.inr (.inr (.inr (.inl ⟨rfl, rfl⟩))))), i, rfl, h0, h1⟩
theorem fo_levy (T : Top w K mg) {i : Int} (h0 : 1 ≤ i) (h1 : i ≤ 9999) : FormOk T T.f_is_levy (.int i) := ⟨_, .inr (.inr (.inr (.inr (.inr (.inr (.inl ⟨rfl, rfl⟩)))))), i, rfl, h0, h1⟩
theorem fo_pairs (T : Top w K mg) {ps : List (Str × Int)} (h : PsOf Nm ps) : FormOk T T.f_is_pairs (pairsD ps) := ⟨_, .inr (.inr (.inr (.inr (.inr (.inr (.inr ⟨rfl, rfl⟩)))))), ps, rfl, h⟩
theorem Top.forms (T : Top w K mg) {k : Str} {d : Int} {rest : List PyData} (h : EntOf Nm Nm 400 k d rest) : ∃ (a : Addr) (fs : List Addr), PySem.W.nsIn K T.a_FORMS k = some (some (.ref a)) ∧ (∀ H, SqT K H a (fs.map V.ref)) ∧ A2 (FormOk T) fs (.int d :: rest) := by
  cases h with
  | price d0 d1 t p0 p1 => exact ⟨_, [_, _, _], T.i_FORMS_price, T.q_FORMS_price, .cons (fo_day T d0 d1) (.cons (fo_name T t) (.cons (fo_price T p0 p1) .nil))⟩
  | mix d0 d1 h => exact ⟨_, [_, _], T.i_FORMS_mix, T.q_FORMS_mix, .cons (fo_day T d0 d1) (.cons (fo_pairs T h) .nil)⟩
  | come d0 d1 t p0 p1 => exact ⟨_, [_, _, _], T.i_FORMS_come, T.q_FORMS_come, .cons (fo_day T d0 d1) (.cons (fo_name T t) (.cons (fo_sum T p0 p1) .nil))⟩
  | go d0 d1 t p0 p1 => exact ⟨_, [_, _, _], T.i_FORMS_go, T.q_FORMS_go, .cons (fo_day T d0 d1) (.cons (fo_name T t) (.cons (fo_parts T p0 p1) .nil))⟩
  | draw d0 d1 t p0 p1 => exact ⟨_, [_, _, _], T.i_FORMS_draw, T.q_FORMS_draw, .cons (fo_day T d0 d1) (.cons (fo_name T t) (.cons (fo_sum T p0 p1) .nil))⟩
  | give d0 d1 t u n p0 p1 => exact ⟨_, [_, _, _, _], T.i_FORMS_give, T.q_FORMS_give, .cons (fo_day T d0 d1) (.cons (fo_name T t) (.cons (fo_name T u) (.cons (fo_parts T p0 p1) .nil)))⟩
  | rate d0 d1 p0 p1 => exact ⟨_, [_, _], T.i_FORMS_rate, T.q_FORMS_rate, .cons (fo_day T d0 d1) (.cons (fo_rate T p0 p1) .nil)⟩
  | harvest d0 d1 => exact ⟨_, [_], T.i_FORMS_harvest, T.q_FORMS_harvest, .cons (fo_day T d0 d1) .nil⟩
  | aside d0 d1 t => exact ⟨_, [_, _], T.i_FORMS_aside, T.q_FORMS_aside, .cons (fo_day T d0 d1) (.cons (fo_name T t) .nil)⟩
  | home d0 d1 t => exact ⟨_, [_, _], T.i_FORMS_home, T.q_FORMS_home, .cons (fo_day T d0 d1) (.cons (fo_name T t) .nil)⟩
  | levy d0 d1 p0 p1 => exact ⟨_, [_, _], T.i_FORMS_levy, T.q_FORMS_levy, .cons (fo_day T d0 d1) (.cons (fo_levy T p0 p1) .nil)⟩
  | hurdle d0 d1 p0 p1 => exact ⟨_, [_, _], T.i_FORMS_hurdle, T.q_FORMS_hurdle, .cons (fo_day T d0 d1) (.cons (fo_parts T p0 p1) .nil)⟩
/-- the one form: a mix's pairs in order -/
def formR (k : Str) (rest : List PyData) : List PyData := if k = "mix" then match rest with
  | [.tuple ps] => [.tuple (sortD ps)]
  | _ => rest else rest
theorem give_two {k : Str} {d : Int} {rest : List PyData} (h : EntOf Nm Nm 400 k d rest) (e : k = "give") : ∃ t u p, rest = [.str t, .str u, .int p] ∧ t ≠ u ∧ Nm t ∧ Nm u := by
  cases h with
  | give d0 d1 t u n p0 p1 => exact ⟨_, _, _, rfl, n, t, u⟩
  | _ => exact absurd e (by decide +kernel)
theorem mix_ps {k : Str} {d : Int} {rest : List PyData} (h : EntOf Nm Nm 400 k d rest) (e : k = "mix") : ∃ ps, rest = [pairsD ps] ∧ PsOf Nm ps := by
  cases h with
  | mix d0 d1 h => exact ⟨_, rfl, h⟩
  | _ => exact absurd e (by decide +kernel)
theorem ps_alike (ps : List (Str × Int)) : PySem.W.AllAlike (ps.map fun p => PyData.tuple [.str p.1, .int p.2]) := PySem.W.AllAlike.of fun a b => by simp [PySem.W.alike, PySem.W.alikeAll]
theorem ps_sortable (ps : List (Str × Int)) : PySem.W.Sortable (ps.map fun p => PyData.tuple [.str p.1, .int p.2]) := PySem.W.Sortable.tuples fun b => ⟨_, _, rfl⟩
theorem ps_depth (ps : List (Str × Int)) : ∀ d, d ∈ (ps.map fun p => PyData.tuple [.str p.1, .int p.2]) → d.depth ≤ 32 := fun d hd => by
  obtain ⟨p, _, rfl⟩ := List.mem_map.mp hd
  simp [PyData.depth, PyData.depthAll]
theorem dataLe_total : PySem.W.TotalLe (PySem.W.dataLe false (id : PyData → PyData)) := PySem.W.sortLe_total _ _ _
theorem sortD_idem (ds : List PyData) : sortD (sortD ds) = sortD ds := List.mergeSort_of_pairwise (PySem.W.sort_pairwise dataLe_total ds)
theorem sortD_perm (ds : List PyData) : (sortD ds).Perm ds := List.mergeSort_perm _ _
def sortP (ps : List (Str × Int)) : List (Str × Int) := ps.mergeSort (PySem.W.dataLe false fun p => PyData.tuple [.str p.1, .int p.2])
theorem sortP_D (ps : List (Str × Int)) : sortD (ps.map fun p => PyData.tuple [.str p.1, .int p.2]) = (sortP ps).map fun p => PyData.tuple [.str p.1, .int p.2] :=
  (PySem.W.sort_maps (r := PySem.W.dataLe false fun p : Str × Int => PyData.tuple [.str p.1, .int p.2]) (s := PySem.W.dataLe false (id : PyData → PyData)) (fun p => PyData.tuple [.str p.1, .int p.2]) (l := ps) (fun _ _ _ _ => rfl)).symm
theorem sortP_perm (ps : List (Str × Int)) : (sortP ps).Perm ps := List.mergeSort_perm _ _
theorem PsOf.perm {Tn : Str → Prop} {ps qs : List (Str × Int)} (h : PsOf Tn ps) (p : qs.Perm ps) : PsOf Tn qs :=
  ⟨by rw [p.length_eq]; exact h.l0, by rw [p.length_eq]; exact h.l1, ((p.map Prod.fst).nodup_iff).mpr h.nd, fun x hx => h.ok x (p.mem_iff.mp hx)⟩
theorem formR_other {k : Str} (h : k ≠ "mix") (rest : List PyData) : formR k rest = rest := by unfold formR; rw [if_neg h]
theorem formR_mix (ps : List (Str × Int)) : formR "mix" [pairsD ps] = [pairsD (sortP ps)] := by
  unfold formR
  rw [if_pos rfl]
  show [PyData.tuple (sortD _)] = _
  rw [sortP_D]
theorem form_ent {Hn Tn : Str → Prop} {L d : Int} {k : Str} {rest : List PyData} (h : EntOf Hn Tn L k d rest) : EntOf Hn Tn L k d (formR k rest) := by
  cases h with
  | mix d0 d1 h => rw [formR_mix]; exact .mix d0 d1 (h.perm (sortP_perm _))
  | price d0 d1 t p0 p1 => rw [formR_other (by decide +kernel)]; exact .price d0 d1 t p0 p1
  | come d0 d1 t p0 p1 => rw [formR_other (by decide +kernel)]; exact .come d0 d1 t p0 p1
  | go d0 d1 t p0 p1 => rw [formR_other (by decide +kernel)]; exact .go d0 d1 t p0 p1
  | draw d0 d1 t p0 p1 => rw [formR_other (by decide +kernel)]; exact .draw d0 d1 t p0 p1
  | give d0 d1 t u n p0 p1 => rw [formR_other (by decide +kernel)]; exact .give d0 d1 t u n p0 p1
  | rate d0 d1 p0 p1 => rw [formR_other (by decide +kernel)]; exact .rate d0 d1 p0 p1
  | harvest d0 d1 => rw [formR_other (by decide +kernel)]; exact .harvest d0 d1
  | aside d0 d1 t => rw [formR_other (by decide +kernel)]; exact .aside d0 d1 t
  | home d0 d1 t => rw [formR_other (by decide +kernel)]; exact .home d0 d1 t
  | levy d0 d1 p0 p1 => rw [formR_other (by decide +kernel)]; exact .levy d0 d1 p0 p1
  | hurdle d0 d1 p0 p1 => rw [formR_other (by decide +kernel)]; exact .hurdle d0 d1 p0 p1
theorem form_idem {Hn Tn : Str → Prop} {L d : Int} {k : Str} {rest : List PyData} (h : EntOf Hn Tn L k d rest) : formR k (formR k rest) = formR k rest := by
  by_cases e : k = "mix"
  · cases h with
    | mix d0 d1 h =>
      rw [formR_mix, formR_mix]
      have := sortD_idem (List.map (fun p : Str × Int => PyData.tuple [.str p.1, .int p.2]) ‹List (Str × Int)›)
      rw [sortP_D, sortP_D] at this
      show [PyData.tuple _] = [PyData.tuple _]
      rw [this]
    | _ => exact absurd e (by decide +kernel)
  · rw [formR_other e, formR_other e]
def sp_checked (K : PySem.W.Frag) : Sp := fun vs H Q _ => ∃ (x : V) (k : Str) (d : Int) (rest : List PyData), vs = [x] ∧ Dt K H x (entD k d rest) ∧ EntOf Nm Nm 400 k d rest ∧ ∀ v H', Same H H' → Dt K H' v (entD k d (formR k rest)) → Q v H'
theorem u_checked {H : Hp} {Q : VK} {E : XK} {vs : List V} {x : V} {k : Str} {d : Int} {rest : List PyData} (e : vs = [x]) (hx : Dt K H x (entD k d rest)) (h : EntOf Nm Nm 400 k d rest) (q : ∀ v H', Same H H' → Dt K H' v (entD k d (formR k rest)) → Q v H') : sp_checked K vs H Q E := ⟨x, k, d, rest, e, hx, h, q⟩
set_option maxHeartbeats 2000000 in
theorem ok_checked (T : Top w K mg) : FnOk P w K mg base CX0 6 T.f_checked T.fd_checked ["entry"] (sp_checked K) := by
  have G_is_day := ok_is_day (P := P) (w := w) (base := base) T
  have G_is_name := ok_is_name (P := P) (w := w) (base := base) T
  have G_is_price := ok_is_price (P := P) (w := w) (base := base) T
  have G_is_sum := ok_is_sum (P := P) (w := w) (base := base) T
  have G_is_parts := ok_is_parts (P := P) (w := w) (base := base) T
  have G_is_rate := ok_is_rate (P := P) (w := w) (base := base) T
  have G_is_levy := ok_is_levy (P := P) (w := w) (base := base) T
  have G_is_pairs := ok_is_pairs (P := P) (w := w) (base := base) T
  obtain ⟨_, _, kd_FORMS⟩ := T.kd_FORMS
  refine T.F_checked.ok sc_checked (fun vs H Q E h => by obtain ⟨x, k, d, rest, rfl, _⟩ := h; rfl) (fun cdv A outer s H vs Q E hr h => ?_)
  obtain ⟨x, k, d, rest, rfl, hx, hent, q⟩ := h
  obtain ⟨a, fs, hns, hfs, hok⟩ := T.forms hent
  have hsk : SeqAt.shaped (.str k) = true := (lay_str (n := 0) (kind_txt hent.kind)).sh
  have hlen : fs.length = (.int d :: rest : List PyData).length := A2.len hok
  have hl9 : (.int d :: rest : List PyData).length ≤ 900 := by
    cases hent <;> simp only [List.length_cons, List.length_nil] <;> omega
  refine ⟨_, (pss_cons (ps_if (PW.pt (pw_or (pt_not (pt_tru (pe_callB call_isi (by rfl) T.n_isinstance (by decide +kernel) (pa_cons (pv 0) (pa_cons (pe_bltn (v := .ty "tuple") (by rfl) T.n_tuple (by decide +kernel) rfl) pa_nil))))) (pw_or (pt_not (pt_tru (pv 0))) (pw_or1 (pt_not (pt_tru (pe_callB call_isi (by rfl) T.n_isinstance (by decide +kernel) (pa_cons (pe_ix ix_seq (pv 0) pe_int (fun _ _ => rfl)) (pa_cons (pe_bltn (v := .ty "str") (by rfl) T.n_str (by decide +kernel) rfl) pa_nil))))))))) (pss_one ps_never) pss_nil)
      (pss_cons (ps_asg (pv 0) (pg_star rfl (pgs_cons (pg_name (i := 1) sc_checked.nd rfl (Or.inl rfl)) (pgs_cons (pg_name (i := 2) sc_checked.nd rfl (Or.inl rfl)) pgs_nil))))
      (pss_cons (ps_if (PW.pt (pw_or (pt_cmpR (op_kntin kd_FORMS) (pv 1) (pe_glob (v := .ref T.a_FORMS) (by rfl) T.c_FORMS rfl) (by rfl)) (pw_or1 (pt_cmpR (op_neD hr.units) (pe_callB call_lenU (by rfl) T.n_len (by decide +kernel) (pa_cons (pe_ix ix_kdict (pe_glob (v := .ref T.a_FORMS) (by rfl) T.c_FORMS rfl) (pv 1) (fun _ _ => rfl)) pa_nil)) (pe_callB call_lenU (by rfl) T.n_len (by decide +kernel) (pa_cons (pv 2) pa_nil)) (nomark _))))) (pss_one ps_never) pss_nil)
      (pss_cons (ps_for PassesOwn.never rfl (pi_enumT (by rfl) T.n_enumerate (pa_cons (pe_ix ix_kdict (pe_glob (v := .ref T.a_FORMS) (by rfl) T.c_FORMS rfl) (pv 1) (fun _ _ => rfl)) pa_nil)) (pg_tup (by rfl) (pgs_cons (pg_name (i := 3) sc_checked.nd rfl (Or.inl rfl)) (pgs_cons (pg_name (i := 4) sc_checked.nd rfl (Or.inl rfl)) pgs_nil))) (pss_one (ps_if (PW.pt (pw_or (pt_not (pt_tru (pe_callR (m := 5) (i := 4) (form_held T G_is_day G_is_name G_is_price G_is_sum G_is_parts G_is_rate G_is_levy G_is_pairs) (hr.mono (by decide)) rfl (Or.inl rfl) (pa_cons (pe_ix ix_seq (pv 2) (pv 3) (fun _ _ => rfl)) pa_nil)))) (pw_or1 (PW.pt (pw_and (pt_cmpR (op_eqD hr.units) (pv 1) pe_str (nomark _)) (pw_and (pt_cmpR (op_eqD hr.units) (pv 3) pe_int (nomark _)) (pw_and1 (pt_cmpR (op_eqD hr.units) (pe_ix ix_seq (pv 2) pe_int (fun _ _ => rfl)) (pe_ix ix_seq (pv 2) pe_int (fun _ _ => rfl)) (nomark _))))))))) (pss_one ps_never) pss_nil)))
      (pss_cons (ps_if (pt_cmpR (op_eqD hr.units) (pv 1) pe_str (nomark _)) (pss_one (ps_ret (pe_tup (pa_cons (pv 1) (pa_cons (pe_ix ix_seq (pv 2) pe_int (fun _ _ => rfl)) (pa_cons (pe_callTy call_tupU (by rfl) T.n_tuple (by decide +kernel) (pa_cons (pe_callB (call_sortD hr.units) (by rfl) T.n_sorted (by decide +kernel) (pa_cons (pe_ix ix_seq (pv 2) pe_int (fun _ _ => rfl)) pa_nil)) pa_nil)) pa_nil)))))) pss_nil)
      (pss_one (ps_ret (pv 0)))))))), ?_⟩
  have hx' : Dt K H x (.tuple (.str k :: .int d :: rest)) := hx
  clear hx
  walk_at "cr.k"
  refine s_gstar hx' hl9 fun y0 ys p h0 hys hp => ?_
  have e0 := h0.str_eq
  subst e0
  walk_at "cr.go"
  refine s_kget (v := .ref a) kd_FORMS hns rfl ?_
  walk_at "cr.go"
  refine s_lenQ (hfs _) ?_
  walk_at "cr.go"
  have hyl : ys.length = fs.length := by rw [hys.len, hlen]
  refine s_iteN (fun z => absurd (by rw [List.length_map, hyl]) z) (fun _ => ?_)
  walk_at "cr.go"
  refine s_kget (v := .ref a) kd_FORMS hns rfl ?_
  walk_at "cr.go"
  refine s_isEn (hfs _) ?_
  have sm0 := same_new (o := .lst ys) hp
  refine f_enumT (xs := fs.map V.ref) (fun _ σ' H' => ∃ y3 y4, σ' = [some x, some (.str k), some (.ref p), y3, y4] ∧ Same H H' ∧ H' p = some (.lst ys)) ⟨_, _, rfl, sm0, upd_same⟩ (fun _ _ _ _ _ => hfs _) ?_ ?_
  · rintro i z T0 σ' H' hz ⟨y3, y4, rfl, hs1, hp1⟩ hT0
    obtain ⟨f, ef, rfl⟩ : ∃ f, fs[i]? = some f ∧ z = V.ref f := by
      rw [List.getElem?_map] at hz
      cases q : fs[i]? with
      | none => rw [q] at hz; cases hz
      | some f => rw [q] at hz; exact ⟨f, rfl, (Option.some.inj hz).symm⟩
    obtain ⟨e, ee, ok, hsp, hok1⟩ := hok.at ef
    have hys1 : DtAll K H' ys (.int d :: rest) := hys.mono (kt_same hs1)
    obtain ⟨v, ev, hv⟩ := hys1.get ee
    have hat : atI ys ((i : Nat) : Int) = some v := atI_nat ev
    clear sm0
    have st : Same H' (upd H' T0 (.tup [.int (i : Nat), .ref f])) := same_new hT0
    have hq : SqT K (upd H' T0 (.tup [.int (i : Nat), .ref f])) T0 [.int (i : Nat), .ref f] := SqT.of upd_same
    have hp2 := st _ _ hp1
    have hs2 := hs1.trans st
    have hv2 := hv.mono (kt_same st)
    have hys2 := hys1.mono (kt_same st)
    clear hv hys1 hs1 hp1 hT0 hys hp st
    generalize upd H' T0 (.tup [.int (i : Nat), .ref f]) = H1 at *
    refine s_gtupQ hq rfl ?_
    walk_at "cr.go"
    refine s_callR (by rfl) hsp ?_
    walk_at "cr.go"
    refine ⟨v, e, rfl, by walk_at "cr.dt", hok1, fun H2 hs3 => ?_⟩
    have hp3 := hs3 _ _ hp2
    have hs4 := hs2.trans hs3
    have hys4 := hys2.mono (kt_same hs3)
    clear hs2 hs3 hp2 hv2 hys2 hq
    walk_at "cr.go"
    refine s_iteD (fun hg => ?_) (fun hg => ?_)
    · walk_at "cr.go"
      refine s_iteD (fun h2 => ?_) (fun h2 => ?_)
      · obtain ⟨t, u, pp, rfl, hne, ht, hu⟩ := give_two hent hg
        have sh1 : SeqAt.shaped (.str t) = true := (lay_str (n := 0) ht.txt).sh
        have sh2 : SeqAt.shaped (.str u) = true := (lay_str (n := 0) hu.txt).sh
        cases hys4 with
        | cons w0 r0 => cases r0 with
          | cons w1 r1 => cases r1 with
            | cons w2 r2 =>
              have e1 := w1.str_eq
              have e2 := w2.str_eq
              subst e1 e2
              walk_at "cr.go"
              rw [decide_eq_false hne]
              walk_at "cr.go"
              exact ⟨_, _, rfl, hs4, hp3⟩
      · walk_at "cr.go"
        exact ⟨_, _, rfl, hs4, hp3⟩
    · walk_at "cr.go"
      exact ⟨_, _, rfl, by walk_at "cr.sm", by walk_at "cr.at"⟩
  · rintro σ' H' ⟨y3, y4, rfl, hs1, hp1⟩
    walk_at "cr.go"
    refine s_iteD (fun hm => ?_) (fun hm => ?_)
    · obtain ⟨ps, rfl, hps⟩ := mix_ps hent hm
      have hys1 : DtAll K H' ys [.int d, pairsD ps] := hys.mono (kt_same hs1)
      obtain ⟨v0, v1, rfl, hv0, hv1⟩ := da2 hys1
      have ev0 := hv0.int_eq
      subst ev0
      have hlen8 : (ps.map fun p => PyData.tuple [.str p.1, .int p.2]).length ≤ 1000 := by rw [List.length_map]; have := hps.l1; omega
      clear hys hp sm0 hys1
      walk_at "cr.go"
      refine s_sortT hv1 (ps_alike ps) (ps_sortable ps) (ps_depth ps) hlen8 fun p2 ys2 hp2 hys2 => ?_
      walk_at "cr.go"
      refine q _ _ (by walk_at "cr.sm") ?_
      unfold formR
      rw [if_pos hm]
      walk_at "cr.dt"
    · walk_at "cr.go"
      exact q _ _ (by walk_at "cr.sm") (by unfold formR; rw [if_neg hm]; walk_at "cr.dt")
local macro_rules | `(tactic| walk_at "cr.call") => `(tactic| ((with_reducible refine' Cr.u_checked ?e ?a ?b ?_); (case e => with_unfolding_all rfl); (case a => walk_at "cr.dt"); (case b => with_reducible assumption); intro v H' hs hd))

/-! ### by_day -/
abbrev formE (e : E3) : E3 := (e.1, e.2.1, formR e.1 e.2.2)
def byDay (L : Int) (es : List E3) : List E3 := (es.filter fun e => decide (e.2.1 ≤ L)).map formE
theorem byDay_len (L : Int) (es : List E3) : (byDay L es).length ≤ es.length := by unfold byDay; rw [List.length_map]; exact List.length_filter_le _ _
theorem byDay_in {L : Int} {es : List E3} {Hn Tn : Str → Prop} {M : Int} (h : ∀ x, x ∈ es → EntIn Hn Tn M x) : ∀ x, x ∈ byDay L es → EntIn Hn Tn M x := fun x hx => by
  obtain ⟨y, hy, rfl⟩ := List.mem_map.mp hx
  exact form_ent (h y (List.mem_filter.mp hy).1)
def sp_by_day (K : PySem.W.Frag) : Sp := fun vs H Q _ => ∃ (a : Addr) (L : Int) (ws : List V) (es : List E3), vs = [.ref a, .int L] ∧ SqL K H a ws ∧ EntsAt K H ws es ∧ (∀ x, x ∈ es → EntIn Nm Nm 400 x) ∧ 0 ≤ L ∧ L ≤ 400 ∧ ws.length ≤ 1000 ∧ ∀ p us H', Same H H' → H p = none → H' p = some (.lst us) → EntsAt K H' us (byDay L es) → Q (.ref p) H'
theorem u_by_day {H : Hp} {Q : VK} {E : XK} {vs : List V} {a : Addr} {L : Int} {ws : List V} {es : List E3} (e : vs = [.ref a, .int L]) (hs : SqL K H a ws) (he : EntsAt K H ws es) (hi : ∀ x, x ∈ es → EntIn Nm Nm 400 x) (L0 : 0 ≤ L) (L1 : L ≤ 400) (hz : ws.length ≤ 1000)
    (q : ∀ p us H', Same H H' → H p = none → H' p = some (.lst us) → EntsAt K H' us (byDay L es) → Q (.ref p) H') : sp_by_day K vs H Q E := ⟨a, L, ws, es, e, hs, he, hi, L0, L1, hz, q⟩
theorem EntsAt.of_map {K : PySem.W.Frag} {H : Hp} {f : E3 → E3} : ∀ {es : List E3} {vs : List V}, A2 (fun e v => Dt K H v (dE (f e))) es vs → EntsAt K H vs (es.map f)
  | _, _, .nil => .nil
  | _, _, .cons a b => .cons a (EntsAt.of_map b)
theorem ok_by_day (T : Top w K mg) : FnOk P w K mg base CX0 7 T.f_by_day T.fd_by_day ["entries", "day"] (sp_by_day K) := by
  have G_is_day := ok_is_day (P := P) (w := w) (base := base) T
  have G_checked := ok_checked (P := P) (w := w) (base := base) T
  refine T.F_by_day.ok sc_by_day (fun vs H Q E h => by obtain ⟨a, L, ws, es, rfl, _⟩ := h; rfl) (fun cdv A outer s H vs Q E hr h => ?_)
  obtain ⟨a, L, ws, es, rfl, hs, he, hi, L0, L1, hz, q⟩ := h
  refine ⟨_, (pss_cons (ps_if (pt_not (pt_tru (pe_call (G_is_day) (hr.mono (by decide)) (by rfl) T.g_is_day T.k_is_day T.b_is_day .nil pass0 (pa_cons (pv 1) pa_nil)))) (pss_one ps_never) pss_nil)
      (pss_one (ps_ret (pe_lc (own := [("entry", 2)]) (g := gName 2) rfl sc_by_day.nd (pi_list (pv 0)) (blkOk_by (N := ["entries", "day", "entry"]) (sc := defScope s_by_day) (by decide +kernel)) (fun _ _ _ _ _ => pg_name (i := 2) sc_by_day.nd rfl (Or.inl rfl)) (fun _ _ _ _ _ => (pts_one (pt_cmpR op_leI (pe_ix (show IxR _ (rIx K) from ix_seq) (pv 2) pe_int (fun _ _ => rfl)) (pv 1) (nomark _)))) (fun _ _ _ _ _ => (pe_call (G_checked) (hr.mono (by decide)) (by rfl) T.g_checked T.k_checked T.b_checked .nil pass0 (pa_cons (pv 2) pa_nil))))))), ?_⟩
  walk_at "cr.k"
  rename_i H1 hs1
  have he1 : EntsAt K H1 ws es := he.mono (kt_same hs1)
  have hq1 : SqL K H1 a ws := hs1.seq hs
  refine c_listXS (fun e : E3 => decide (e.2.1 ≤ L)) (fun H v e => Dt K H v (dE e)) (fun H e v => Dt K H v (dE (formE e))) (fun _ _ _ _ k h => h.mono k.kt) (fun _ _ _ _ k h => h.mono k.kt) hq1 he1 hz ?_ ?_
  · rintro x ⟨k, d, rest⟩ A Nt Nf hz2 hP hS hT hF
    have hent : EntOf Nm Nm 400 k d rest := hi _ hz2
    clear he he1 hs1 hq1 hs
    walk_at "cr.n"
    walk_at "cr.go"
    refine ⟨rfl, ?_⟩
    walk_at "cr.go"
    refine s_iteD (fun h => ?_) (fun h => ?_)
    · walk_at "cr.go"
      exact hT (decide_eq_true h) _ _ (by walk_at "cr.sm") (by assumption)
    · exact hF (decide_eq_false h) _ (by walk_at "cr.sm")
  · intro p ys A hS hp hA h2
    walk_at "cr.n"
    walk_at "cr.go"
    exact q p ys A (by walk_at "cr.sm") (by walk_at "cr.fr") hA (EntsAt.of_map h2)
local macro_rules | `(tactic| walk_at "cr.call") => `(tactic| ((with_reducible refine' Cr.u_by_day ?e ?a ?b ?c ?d ?f ?g ?_); (case e => with_unfolding_all rfl); (case a => walk_at "cr.lst"); (case b => with_reducible assumption); (case c => with_reducible assumption); (case d => first | with_reducible assumption | omega); (case f => first | with_reducible assumption | omega); (case g => first | with_reducible assumption | omega); intro p us H' hs hn hp he))

/-! ### in_order -/
def sp_in_order (K : PySem.W.Frag) (P : Addr) : Sp := fun vs H Q _ => ∃ (a : Addr) (ws : List V) (es : List E3), vs = [.ref a] ∧ SqL K H a ws ∧ EntsAt K H ws es ∧ (∀ x, x ∈ es → EntIn Nm Nm 400 x) ∧ ws.length ≤ 1000 ∧ TabS H P qIO ∧
  ∀ p H', ExtN H H' → TabS H' P qIO → (∀ o, H p = some o → ∃ ps, o = .tbl ps) → LstOf K H' p ((sortE es).map dE) → Q (.ref p) H'
theorem ok_in_order (T : Top w K mg) (TB : LamX.TabB base mg T.tc T.tP) : FnOk P w K mg base CX0 1 T.f_in_order T.fd_in_order ["entries"] (sp_in_order K T.tP) := by
  refine fun_okC T.F_in_order sc_in_order (fun vs H Q E h => by obtain ⟨a, ws, es, rfl, _⟩ := h; rfl) (fun A outer s H vs Q E hr h => ?_)
  obtain ⟨a, ws, es, rfl, hs, he, hi, hz, hT, q⟩ := h
  refine ⟨_, (pss_one (ps_ret (pe_sortT (y := "entry") hr TB T.tcode (by exact ⟨fun _ _ _ _ _ _ => rfl, ⟨_, _, _, _, _, _, _, _, _, _, _, _, _, _, _, rfl⟩, rfl, rfl, rfl, by decide +kernel, by decide +kernel, by decide +kernel⟩) (by rfl) T.n_sorted (pv 0)))), ?_⟩
  walk_at "cr.k"
  walk_at "cr.go"
  have ed : (es.map dE).map turnD = (es.map dE).map turnD := rfl
  refine ⟨hT, a, ws, es.map dE, rfl, hs, das_a2 (a2_das he), hz, keysOk_ents Nm.ok Nm.ok hi, fun d hd => ?_, fun p ys H1 ex T1 hp fp h2 => q p H1 ex T1 fp ⟨ys, hp, ents_sorted h2⟩⟩
  obtain ⟨⟨k, i, rest⟩, hm, rfl⟩ := List.mem_map.mp hd
  refine ⟨k, i, rest, rfl, ?_⟩
  have := (EntOf.shape (hi _ hm))
  exact shape_len this

/-! ### parting -/
def sp_parting (K : PySem.W.Frag) (P : Addr) : Sp := fun vs H Q _ => ∃ (a b : Addr) (ws xs : List V) (es fs : List E3), vs = [.ref a, .ref b] ∧ SqL K H a ws ∧ SqL K H b xs ∧ EntsAt K H ws es ∧ EntsAt K H xs fs ∧ (∀ x, x ∈ es → EntIn Nm Nm 400 x) ∧ (∀ x, x ∈ fs → EntIn Nm Nm 400 x) ∧ ws.length ≤ 500 ∧ xs.length ≤ 500 ∧ TabS H P qIO ∧
  ∀ p p1 p2 F R H', ExtN H H' → TabS H' P qIO → Fresh H p → H' p = some (.tup [.ref p1, .ref p2]) → LstOf K H' p1 ((sortE F).map dE) → LstOf K H' p2 ((sortE R).map dE) → PartOf (byDay 400 es) (byDay 400 fs) F R → Q (.ref p) H'
theorem u_parting {P : Addr} {H : Hp} {Q : VK} {E : XK} {vs : List V} {a b : Addr} {ws xs : List V} {es fs : List E3} (e : vs = [.ref a, .ref b]) (hs : SqL K H a ws) (ht : SqL K H b xs) (he : EntsAt K H ws es) (hf : EntsAt K H xs fs) (hi : ∀ x, x ∈ es → EntIn Nm Nm 400 x) (hj : ∀ x, x ∈ fs → EntIn Nm Nm 400 x) (hz : ws.length ≤ 500) (hy : xs.length ≤ 500) (hT : TabS H P qIO)
    (q : ∀ p p1 p2 F R H', ExtN H H' → TabS H' P qIO → Fresh H p → H' p = some (.tup [.ref p1, .ref p2]) → LstOf K H' p1 ((sortE F).map dE) → LstOf K H' p2 ((sortE R).map dE) → PartOf (byDay 400 es) (byDay 400 fs) F R → Q (.ref p) H') : sp_parting K P vs H Q E := ⟨a, b, ws, xs, es, fs, e, hs, ht, he, hf, hi, hj, hz, hy, hT, q⟩
theorem tabP_same {H H' : Hp} {P : Addr} {q : Str} (s : Same H H') (t : TabS H P q) : TabS H' P q := tab_keep (L := []) t (.same s) (fun b hb => absurd hb List.not_mem_nil)
theorem tabP_but {b : Addr} {H H' : Hp} {P : Addr} {q : Str} (s : But b H H') (t : TabS H P q) : TabS H' P q := tab_keep (L := [b]) t (fun c o n e => s.oth c o (fun z => n (by rw [z]; exact List.mem_cons_self)) e) (fun c hc o e => by
  rw [List.mem_singleton.mp hc] at e
  obtain ⟨xs, h⟩ := s.lst
  rw [h] at e
  cases e
  exact ⟨fun ps z => (nomatch z), fun φ z => (nomatch z)⟩)
theorem tabP_mut {l : Addr} {xs ys : List V} {H : Hp} {P : Addr} {q : Str} (h : H l = some (.lst xs)) (t : TabS H P q) : TabS (upd H l (.lst ys)) P q := tab_keep (L := [l]) t (.upd List.mem_cons_self) (fun c hc o e => by
  rw [List.mem_singleton.mp hc, h] at e
  cases e
  exact ⟨fun ps z => (nomatch z), fun φ z => (nomatch z)⟩)
theorem extP_refl (H : Hp) : ExtN H H := fun _ _ e _ => e
theorem extP_mut {H0 H1 : Hp} {l : Addr} {o : HO} (e : ExtN H0 H1) (f : Fresh H0 l) : ExtN H0 (upd H1 l o) := fun b u h t => by
  rw [upd_ne (Fresh.ne f h t)]; exact e b u h t
theorem extP_same {H0 H1 H2 : Hp} (e : ExtN H0 H1) (s : Same H1 H2) : ExtN H0 H2 := fun b u h t => s _ _ (e b u h t)
theorem extP_trans {H0 H1 H2 : Hp} (e : ExtN H0 H1) (s : ExtN H1 H2) : ExtN H0 H2 := fun b u h t => s _ _ (e b u h t) t
theorem ok_parting (T : Top w K mg) (TB : LamX.TabB base mg T.tc T.tP) : FnOk P w K mg base CX0 8 T.f_parting T.fd_parting ["before", "after"] (sp_parting K T.tP) := by
  have G_by_day := ok_by_day (P := P) (w := w) (base := base) T
  have G_in_order := ok_in_order (P := P) (w := w) (base := base) T TB
  obtain ⟨_, v_by_day_1, b_by_day_1⟩ := bi_by_day_1 T
  refine T.F_parting.ok sc_parting (fun vs H Q E h => by obtain ⟨a, b, ws, xs, es, fs, rfl, _⟩ := h; rfl) (fun cdv A outer s H vs Q E hr h => ?_)
  obtain ⟨a, b, ws, xs, es, fs, rfl, hs, ht, he, hf, hi, hj, hz, hy, hT, q⟩ := h
  refine ⟨_, (pss_cons (ps_par (i := 2) (j := 3) (by rfl) sc_parting.nd rfl rfl (by decide) rfl rfl (pa_cons (pe_call (G_by_day) (hr.mono (by decide)) (by rfl) T.g_by_day T.k_by_day b_by_day_1 v_by_day_1 pass0 (pa_cons (pv 0) pa_nil)) (pa_cons (pe_call (G_by_day) (hr.mono (by decide)) (by rfl) T.g_by_day T.k_by_day b_by_day_1 v_by_day_1 pass0 (pa_cons (pv 1) pa_nil)) pa_nil)) (by rfl))
      (pss_cons (ps_for PassesOwn.never rfl (pi_list (pe_callTy call_listU (by rfl) T.n_list (by decide +kernel) (pa_cons (pv 2) pa_nil))) (pg_name (i := 4) sc_parting.nd rfl (Or.inl rfl)) (pss_one (ps_if (pt_cmpR (op_inD (units65 hr)) (pv 4) (pv 3) (by rfl)) (pss_cons (ps_expr (pe_bm PySem.F.plainAttrs_list PySem.F.slot_list_remove PySem.F.type_list_remove (mt_remD (units65 hr)) (pv 2) (pa_cons (pv 4) pa_nil)))
      (pss_one (ps_expr (pe_bm PySem.F.plainAttrs_list PySem.F.slot_list_remove PySem.F.type_list_remove (mt_remD (units65 hr)) (pv 3) (pa_cons (pv 4) pa_nil))))) pss_nil)))
      (pss_one (ps_ret (pe_tup (pa_cons (pe_call (G_in_order) (hr.mono (by decide)) (by rfl) T.g_in_order T.k_in_order T.b_in_order .nil pass0 (pa_cons (pv 2) pa_nil)) (pa_cons (pe_call (G_in_order) (hr.mono (by decide)) (by rfl) T.g_in_order T.k_in_order T.b_in_order .nil pass0 (pa_cons (pv 3) pa_nil)) pa_nil))))))), ?_⟩
  walk_at "cr.k"
  rename_i p1 us1 H1 hs1 hn1 hp1 he1
  have hf1 : EntsAt K H1 xs fs := hf.mono (kt_same hs1)
  refine u_by_day rfl (hs1.seq ht) hf1 hj (by decide) (by decide) (by omega) fun p2 us2 H2 hs2 hn2 hp2 he2 => ?_
  have hAl : (byDay 400 es).length ≤ 500 := by have := byDay_len 400 es; have := A2.len he; omega
  have hBl : (byDay 400 fs).length ≤ 500 := by have := byDay_len 400 fs; have := A2.len hf; omega
  have hAi : ∀ x, x ∈ byDay 400 es → EntIn Nm Nm 400 x := byDay_in hi
  have hBi : ∀ x, x ∈ byDay 400 fs → EntIn Nm Nm 400 x := byDay_in hj
  have n12 : p1 ≠ p2 := ne_on hn2 hp1
  have hp1b := hs2 _ _ hp1
  have he1b := he1.mono (kt_same hs2)
  have s02 : Same H H2 := hs1.trans hs2
  have f1 : Fresh H p1 := .of_none hn1
  have f2 : Fresh H p2 := Fresh.back (.of_none hn2) (extP_same (extP_refl H) hs1)
  have hT2 := tabP_same s02 hT
  have e02 : ExtN H H2 := extP_same (extP_refl H) s02
  generalize byDay 400 es = A at *
  generalize byDay 400 fs = B at *
  have hz1 : us1.length ≤ 1000 := by rw [A2.len he1]; omega
  have hzl : us1.length = A.length := A2.len he1
  clear hs1 hs2 hn1 hn2 hp1 he1 hf1 hs ht he hf hi hj hT s02
  walk_at "cr.go"
  rename_i pL hpL
  have n1L : p1 ≠ pL := ne_on hpL hp1b
  have n2L : p2 ≠ pL := ne_on hpL hp2
  have sL := same_new (o := .lst us1) hpL
  refine f_each (xs := us1) [4] (fun n H' => ExtN H H' ∧ TabS H' T.tP qIO ∧ H' pL = some (.lst us1) ∧ EntsAt K H' us1 A ∧ ∃ os rs O R M U, H' p1 = some (.lst os) ∧ H' p2 = some (.lst rs) ∧ EntsAt K H' os O ∧ EntsAt K H' rs R ∧ PartI A B O R M U n)
    ⟨extP_same e02 sL, tabP_same sL hT2, upd_same, he1b.mono (kt_same sL), us1, us2, A, B, [], [], sL _ _ hp1b, sL _ _ hp2, he1b.mono (kt_same sL), he2.mono (kt_same sL), PartI.start A B⟩ rfl (fun _ H' r => .of r.2.2.1) ?_ ?_
  · rintro n x f3 H9 ex ⟨ext9, tab9, hL9, hA9, os, rs, O, R, M, U, ho9, hr9, hO9, hR9, I⟩
    clear sL e02 hT2 hp1b hp2 he1b he2 hpL q
    have hn : n < A.length := by rw [← hzl]; exact (List.getElem?_eq_some_iff.mp ex).1
    have eA : A[n]? = some A[n] := List.getElem?_eq_getElem hn
    have hx : Dt K H9 x (dE A[n]) := by
      obtain ⟨v, e1, e2⟩ := A2.at hA9 ex
      rw [e1] at eA; cases eA; exact e2
    have hei : EntIn Nm Nm 400 A[n] := hAi _ (List.getElem_mem hn)
    generalize A[n] = e at *
    have hOi : ∀ x, x ∈ O → EntIn Nm Nm 400 x := fun x hx => hAi x (I.a.mem_iff.mpr (List.mem_append_left _ hx))
    have hRi : ∀ x, x ∈ R → EntIn Nm Nm 400 x := fun x hx => hBi x (I.b.mem_iff.mpr (List.mem_append_left _ hx))
    walk_at "cr.n"
    walk_at "cr.go"
    refine s_inE hx (.of hr9) hR9 hei hRi (fun hm => ?_) (fun hm => ?_)
    · walk_at "cr.go"
      refine s_remE ho9 hO9 hx hei hOi (I.mem eA) fun j hj ej hO10 => ?_
      have kt1 := kt_mut (o' := .lst (os.eraseIdx j)) ho9 rfl
      have hr10 : upd H9 p1 (.lst (os.eraseIdx j)) p2 = some (.lst rs) := by rw [upd_ne n12.symm]; exact hr9
      have hL10 : upd H9 p1 (.lst (os.eraseIdx j)) pL = some (.lst us1) := by rw [upd_ne n1L.symm]; exact hL9
      have ho10 : upd H9 p1 (.lst (os.eraseIdx j)) p1 = some (.lst (os.eraseIdx j)) := upd_same
      have hR10 := hR9.mono kt1
      have hA10 := hA9.mono kt1
      have hx10 := hx.mono kt1
      have tab10 := tabP_mut (ys := os.eraseIdx j) ho9 tab9
      have ext10 := extP_mut (o := .lst (os.eraseIdx j)) ext9 f1
      generalize upd H9 p1 (.lst (os.eraseIdx j)) = H10 at *
      clear kt1 hO9 hR9 hA9 hx ho9 hr9 hL9 tab9 ext9
      walk_at "cr.go"
      refine s_remE hr10 hR10 hx10 hei hRi hm fun k hk ek hR11 => ?_
      have kt2 := kt_mut (o' := .lst (rs.eraseIdx k)) hr10 rfl
      walk_at "cr.go"
      exact ⟨i_of rfl, extP_mut ext10 f2, tabP_mut hr10 tab10, by rw [upd_ne n2L.symm]; exact hL10, hA10.mono kt2, _, _, _, _, _, _, by rw [upd_ne n12]; exact ho10, upd_same, hO10.mono kt2, hR11, I.hit eA hj ej hk ek⟩
    · walk_at "cr.go"
      exact ⟨i_of rfl, ext9, tab9, hL9, hA9, _, _, _, _, _, _, ho9, hr9, hO9, hR9, I.miss eA hm⟩
  intro f3 H9 ⟨ext9, tab9, hL9, hA9, os, rs, O, R, M, U, ho9, hr9, hO9, hR9, I⟩
  rw [hzl] at I
  have hP := I.done
  have hOi : ∀ x, x ∈ O → EntIn Nm Nm 400 x := fun x hx => hAi x (hP.mem.1 x hx)
  have hRi : ∀ x, x ∈ R → EntIn Nm Nm 400 x := fun x hx => hBi x (hP.mem.2 x hx)
  have hol : os.length ≤ 1000 := by rw [A2.len hO9]; have := I.a.length_eq; rw [List.length_append] at this; omega
  have hrl : rs.length ≤ 1000 := by rw [A2.len hR9]; have := I.b.length_eq; rw [List.length_append] at this; omega
  clear sL e02 hT2 hp1b hp2 he1b he2 hpL hL9 hA9 I
  walk_at "cr.n"
  walk_at "cr.go"
  refine ⟨p1, os, O, rfl, .of ho9, hO9, hOi, hol, tab9, fun q1 H10 x10 t10 f10 l10 => ?_⟩
  have hr10 := x10 _ _ hr9 (fun ps z => nomatch z)
  have hR10 := hR9.mono (extN_kt x10)
  have ext10 := extP_trans ext9 x10
  walk_at "cr.go"
  refine ⟨p2, rs, R, rfl, .of hr10, hR10, hRi, hrl, t10, fun q2 H11 x11 t11 f11 l11 => ?_⟩
  have ext11 := extP_trans ext10 x11
  obtain ⟨zs, hz1, hz2⟩ := l10
  have hz1' := x11 _ _ hz1 (fun ps z => nomatch z)
  obtain ⟨ys, hy1, hy2⟩ := l11
  walk_at "cr.go"
  rename_i pt hpt
  have sT := same_new (o := .tup [.ref q1, .ref q2]) hpt
  exact q pt q1 q2 O R _ (extP_same ext11 sT) (tabP_same sT t11) (Fresh.back (.of_none hpt) ext11) upd_same ⟨zs, sT _ _ hz1', (hz2.mono (extN_kt x11)).mono (kt_same sT)⟩ ⟨ys, sT _ _ hy1, hy2.mono (kt_same sT)⟩ hP

/-! ### _law_bag -/
def sp__law_bag (K : PySem.W.Frag) : Sp := fun vs H Q _ => ∃ (a : Addr) (ns : List Int), vs = [.ref a] ∧ SqL K H a (ns.map V.int) ∧ ∀ b l H', Same H H' → H b = none → H l = none → Bag H' b l → Q (.ref b) H'
theorem u__law_bag {H : Hp} {Q : VK} {E : XK} {vs : List V} {a : Addr} {ns : List Int} (e : vs = [.ref a]) (h : SqL K H a (ns.map V.int)) (q : ∀ b l H', Same H H' → H b = none → H l = none → Bag H' b l → Q (.ref b) H') : sp__law_bag K vs H Q E := ⟨a, ns, e, h, q⟩
theorem ok__law_bag (T : Top w K mg) : FnOk P w K mg base CX0 1 T.f__law_bag T.fd__law_bag ["_law_script"] (sp__law_bag K) := by
  refine T.F__law_bag.ok sc__law_bag (fun vs H Q E h => by obtain ⟨a, ns, rfl, _⟩ := h; rfl) (fun cdv A outer s H vs Q E hr h => ?_)
  obtain ⟨a, ns, rfl, hS, q⟩ := h
  refine ⟨_, (pss_cons (ps_set (i := 1) sc__law_bag.nd rfl (Or.inl rfl) pe_int)
      (pss_cons (ps_for PassesOwn.never rfl (pi_list (pe_slice sl_seqU (pv 0) po_none (po_some pe_int))) (pg_name (i := 2) sc__law_bag.nd rfl (Or.inl rfl)) (pss_one (ps_set (i := 1) sc__law_bag.nd rfl (Or.inl rfl) (pe_op op_modU (pe_op op_addU (pe_op op_mulU (pv 1) pe_int) (pv 2)) pe_int))))
      (pss_one (ps_ret (pe_lst (pa_cons (pe_callTy call_listU (by rfl) T.n_list (by decide +kernel) (pa_cons (pe_slice sl_seqU (pv 0) po_none (po_some pe_int)) pa_nil)) (pa_cons pe_int (pa_cons pe_int (pa_cons (pv 1) pa_nil))))))))), ?_⟩
  obtain ⟨ms, hms⟩ := cut_ints ns none (some 63)
  walk_at "cr.k"
  rename_i p hp
  rw [hms]
  refine f_list (xs := ms.map V.int) (fun i σ' H' => ∃ (z : Int) (y : Option V), σ' = [some (.ref a), some (.int z), y] ∧ 0 ≤ z ∧ z < 2147483629 ∧ H' = upd H p (.lst (ms.map V.int))) ⟨7, none, rfl, by decide, by decide, rfl⟩ ?_ ?_ ?_
  · rintro i σ' H' _ ⟨z, y, _, _, _, rfl⟩
    exact SqL.of upd_same
  · rintro i x σ' H' hx ⟨z, y, rfl, h0, h1, rfl⟩
    obtain ⟨c, hc, rfl⟩ : ∃ c, ms[i]? = some c ∧ x = V.int c := by
      rw [List.getElem?_map] at hx
      cases e : ms[i]? with
      | none => rw [e] at hx; cases hx
      | some c => rw [e] at hx; exact ⟨c, rfl, (Option.some.inj hx).symm⟩
    walk_at "cr.go"
    refine ⟨_, _, rfl, ?_, ?_, rfl⟩
    · rw [Int.fmod_eq_emod_of_nonneg _ (by decide)]; exact Int.emod_nonneg _ (by decide)
    · rw [Int.fmod_eq_emod_of_nonneg _ (by decide)]; exact Int.emod_lt_of_pos _ (by decide)
  · rintro σ' H' ⟨z, y, rfl, h0, h1, rfl⟩
    walk_at "cr.go"
    rw [hms]
    rename_i p2 hp2 p3 hp3 p4 hp4
    have n3 : H p3 = none := (same_new hp).free ((same_new hp2).free hp3)
    have n4 : H p4 = none := (same_new hp).free ((same_new hp2).free ((same_new hp3).free hp4))
    refine q p4 p3 _ (by walk_at "cr.sm") n4 n3 ⟨ms, 0, 0, z, upd_same, ?_, by decide, by omega, by omega, ?_⟩
    · rw [upd_ne (ne_of_none (upd_same) hp4), upd_same]
    · exact ne_of_none (upd_same) hp4
local macro_rules | `(tactic| walk_at "cr.call") => `(tactic| ((with_reducible refine' Cr.u__law_bag ?e ?a ?_); (case e => with_unfolding_all rfl); (case a => walk_at "cr.lst"); intro b l H' hs nb nl hB))

/-! ### _law_pull -/
def sp__law_pull (K : PySem.W.Frag) : Sp := fun vs H Q _ => ∃ (b l : Addr) (m : Int), vs = [.ref b, .int m] ∧ Bag H b l ∧ 0 < m ∧ m < 2 ^ 64 ∧ ∀ k H', 0 ≤ k → k < m → But b H H' → Bag H' b l → Q (.int k) H'
theorem u__law_pull {H : Hp} {Q : VK} {E : XK} {vs : List V} {b l : Addr} {m : Int} (e : vs = [.ref b, .int m]) (h : Bag H b l) (h0 : 0 < m) (h1 : m < 2 ^ 64) (q : ∀ k H', 0 ≤ k → k < m → But b H H' → Bag H' b l → Q (.int k) H') : sp__law_pull K vs H Q E := ⟨b, l, m, e, h, h0, h1, q⟩
theorem fmod_in {i m : Int} (h : 0 < m) : 0 ≤ i.fmod m ∧ i.fmod m < m := by
  rw [Int.fmod_eq_emod_of_nonneg _ (by omega)]
  exact ⟨Int.emod_nonneg _ (by omega), Int.emod_lt_of_pos _ h⟩
theorem dz_small {i j : Int} (h : 0 < j) (k : j < 2 ^ 64) : CDivZ i j := dz_of (n := 64) (by omega) (by omega) (by decide) (by decide)
theorem but_upd {H H1 : Hp} {b : Addr} {o : HO} (h : But b H H1) : But b H (upd H1 b o) := ⟨fun a u n e => by rw [upd_ne n]; exact h.oth a u n e, h.lst⟩
theorem ok__law_pull (T : Top w K mg) : FnOk P w K mg base CX0 1 T.f__law_pull T.fd__law_pull ["_law_bag_here", "_law_many"] (sp__law_pull K) := by
  refine T.F__law_pull.ok sc__law_pull (fun vs H Q E h => by obtain ⟨b, l, m, rfl, _⟩ := h; rfl) (fun cdv A outer s H vs Q E hr h => ?_)
  obtain ⟨b, l, m, rfl, hB, h0, h1, q⟩ := h
  have hB' := hB
  obtain ⟨ns, p, r, z, e1, e2, hp0, hz0, hz1, hlb⟩ := hB
  have dz : ∀ i, CDivZ i m := fun i => dz_small h0 h1
  refine ⟨_, (pss_cons (ps_if (pt_cmpR op_gtI (pe_ix ix_seq (pv 0) pe_int (fun _ _ => rfl)) pe_int (nomark _)) (pss_cons (ps_set (i := 2) sc__law_pull.nd rfl (Or.inl rfl) (pe_op op_modU (pe_ix ix_seq (pv 0) pe_int (fun _ _ => rfl)) (pv 1)))
      (pss_cons (ps_asg (pe_op op_divU (pe_ix ix_seq (pv 0) pe_int (fun _ _ => rfl)) (pv 1)) (pg_sub (pv 0) pe_int set_list))
      (pss_one (ps_ret (pv 2))))) pss_nil)
      (pss_cons (ps_set (i := 3) sc__law_pull.nd rfl (Or.inl rfl) pe_int)
      (pss_cons (ps_if (pt_cmpR op_ltI (pe_ix ix_seq (pv 0) pe_int (fun _ _ => rfl)) (pe_callB call_lenU (by rfl) T.n_len (by decide +kernel) (pa_cons (pe_ix ix_seq (pv 0) pe_int (fun _ _ => rfl)) pa_nil)) (nomark _)) (pss_one (ps_set (i := 3) sc__law_pull.nd rfl (Or.inl rfl) (pe_ix ix_seq (pe_ix ix_seq (pv 0) pe_int (fun _ _ => rfl)) (pe_ix ix_seq (pv 0) pe_int (fun _ _ => rfl)) (fun _ _ => rfl)))) pss_nil)
      (pss_cons (ps_asg (pe_op op_addU (pe_ix ix_seq (pv 0) pe_int (fun _ _ => rfl)) pe_int) (pg_sub (pv 0) pe_int set_list))
      (pss_cons (ps_if (pt_cmpR op_geI (pv 3) (pe_op op_powU pe_int pe_int) (nomark _)) (pss_cons (ps_asg (pe_op op_divU (pv 3) (pv 1)) (pg_sub (pv 0) pe_int set_list))
      (pss_one (ps_ret (pe_op op_modU (pv 3) (pv 1))))) pss_nil)
      (pss_cons (ps_asg (pe_op op_modU (pe_op op_addU (pe_op op_addU (pe_op op_mulU (pe_ix ix_seq (pv 0) pe_int (fun _ _ => rfl)) pe_int) (pe_op op_modU (pv 3) pe_int)) (pe_op op_mulU pe_int (pe_ix ix_seq (pv 0) pe_int (fun _ _ => rfl)))) pe_int) (pg_sub (pv 0) pe_int set_list))
      (pss_cons (ps_asg (pe_op op_modU (pe_op op_addU (pe_op op_mulU (pe_ix ix_seq (pv 0) pe_int (fun _ _ => rfl)) pe_int) pe_int) pe_int) (pg_sub (pv 0) pe_int set_list))
      (pss_one (ps_ret (pe_op op_modU (pe_op op_divU (pe_ix ix_seq (pv 0) pe_int (fun _ _ => rfl)) pe_int) (pv 1))))))))))), ?_⟩
  walk_at "cr.k"
  by_cases hr0 : 0 < r
  · rw [decide_eq_true hr0]
    have d := dz r
    walk_at "cr.go"
    exact q _ _ (fmod_in h0).1 (fmod_in h0).2 (but_upd (but_of hB' fun _ _ _ e => e)) ⟨ns, p, r.fdiv m, z, upd_same, (upd_ne hlb).trans e2, hp0, hz0, hz1, hlb⟩
  · rw [decide_eq_false hr0]
    walk_at "cr.go"
    have tl : ∀ (z' p' r' : Int) (H' : Hp), H' = upd H b (.lst [.ref l, .int p', .int r', .int z']) → 0 ≤ p' → -(2 ^ 40) < z' → z' < 2 ^ 40 → Bag H' b l := fun z' p' r' H' e h1 h2 h3 => by
      subst e
      exact ⟨ns, p', r', z', upd_same, (upd_ne hlb).trans e2, h1, h2, h3, hlb⟩
    have bt : ∀ o : HO, But b H (upd H b o) := fun o => but_upd (but_of hB' fun _ _ _ e => e)
    have zi : ∀ i : Int, -(2 ^ 40) < i.fmod 2147483647 ∧ i.fmod 2147483647 < 2 ^ 40 := fun i => by
      have := fmod_in (i := i) (m := 2147483647) (by decide)
      omega
    have zm : ∀ i : Int, CMulZ (i.fmod 2147483647) 69621 := fun i => by
      have := fmod_in (i := i) (m := 2147483647) (by decide)
      exact .inl (.inl ⟨by omega, by omega⟩)
    have hlen : (ns.map V.int).length = ns.length := List.length_map _
    refine s_iteD (fun hlt => ?_) (fun hlt => ?_)
    · have hlt' : p < ns.length := by have := hlt; omega
      obtain ⟨c, hc⟩ : ∃ c : Int, atI (ns.map V.int) p = some (.int c) := by
        obtain ⟨j, rfl⟩ : ∃ j : Nat, p = (j : Int) := ⟨p.toNat, by omega⟩
        have hj : j < ns.length := by omega
        exact ⟨ns[j], atI_nat (by rw [List.getElem?_map, List.getElem?_eq_getElem hj]; rfl)⟩
      have d := dz c
      walk_at "cr.go"
      refine s_iteD (fun hc => ?_) (fun hc => ?_)
      · walk_at "cr.go"
        simp only [upd_upd]
        exact q _ _ (fmod_in h0).1 (fmod_in h0).2 (bt _) (tl z (p + 1) (c.fdiv m) _ rfl (by omega) hz0 hz1)
      · walk_at "cr.go"
        have zz := zm ((z * 48271 + c.fmod 2147483629 + 17 * (p + 1)))
        walk_at "cr.go"
        have dd : CDivZ ((((z * 48271 + c.fmod 2147483629 + 17 * (p + 1)).fmod 2147483647) * 69621 + 11).fmod 2147483647) 64 := dz_small (by decide) (by decide)
        walk_at "cr.go"
        simp only [upd_upd]
        exact q _ _ (fmod_in h0).1 (fmod_in h0).2 (bt _) (tl _ (p + 1) r _ rfl (by omega) (zi _).1 (zi _).2)
    · have d := dz 0
      walk_at "cr.go"
      refine s_iteD (fun hc => ?_) (fun hc => ?_)
      · walk_at "cr.go"
        simp only [upd_upd]
        exact q _ _ (fmod_in h0).1 (fmod_in h0).2 (bt _) (tl z (p + 1) ((0 : Int).fdiv m) _ rfl (by omega) hz0 hz1)
      · walk_at "cr.go"
        have zz := zm ((z * 48271 + (0 : Int).fmod 2147483629 + 17 * (p + 1)))
        walk_at "cr.go"
        have dd : CDivZ ((((z * 48271 + (0 : Int).fmod 2147483629 + 17 * (p + 1)).fmod 2147483647) * 69621 + 11).fmod 2147483647) 64 := dz_small (by decide) (by decide)
        walk_at "cr.go"
        simp only [upd_upd]
        exact q _ _ (fmod_in h0).1 (fmod_in h0).2 (bt _) (tl _ (p + 1) r _ rfl (by omega) (zi _).1 (zi _).2)
local macro_rules | `(tactic| walk_at "cr.call") => `(tactic| ((with_reducible refine' Cr.u__law_pull ?e ?a ?b ?c ?_); (case e => with_unfolding_all rfl); (case a => walk_at "cr.bag"); (case b => first | assumption | omega | decide); (case c => first | assumption | omega | decide); intro k H' hk0 hk1 hb hB))

/-! ### _law_wide -/
def sp__law_wide (K : PySem.W.Frag) : Sp := fun vs H Q _ => ∃ (b l : Addr) (m : Int), vs = [.ref b, .int m] ∧ Bag H b l ∧ 0 < m ∧ ∀ k H', 0 ≤ k → k < m → But b H H' → Bag H' b l → Q (.int k) H'
theorem u__law_wide {H : Hp} {Q : VK} {E : XK} {vs : List V} {b l : Addr} {m : Int} (e : vs = [.ref b, .int m]) (h : Bag H b l) (h0 : 0 < m) (q : ∀ k H', 0 ≤ k → k < m → But b H H' → Bag H' b l → Q (.int k) H') : sp__law_wide K vs H Q E := ⟨b, l, m, e, h, h0, q⟩
theorem ok__law_wide (T : Top w K mg) : FnOk P w K mg base CX0 2 T.f__law_wide T.fd__law_wide ["_law_bag_here", "_law_many"] (sp__law_wide K) := by
  have G__law_pull := ok__law_pull (P := P) (w := w) (base := base) T
  refine T.F__law_wide.ok sc__law_wide (fun vs H Q E h => by obtain ⟨b, l, m, rfl, _⟩ := h; rfl) (fun cdv A outer s H vs Q E hr h => ?_)
  obtain ⟨b, l, m, rfl, hB, h0, q⟩ := h
  refine ⟨_, (pss_cons (ps_set (i := 2) sc__law_wide.nd rfl (Or.inl rfl) (pe_call (G__law_pull) (hr.mono (by decide)) (by rfl) T.g__law_pull T.k__law_pull T.b__law_pull .nil pass0 (pa_cons (pv 0) (pa_cons pe_int pa_nil))))
      (pss_one (ps_ret (pe_op op_modU (pe_op op_addU (pv 2) (pe_op op_mulU pe_int (pe_call (G__law_pull) (hr.mono (by decide)) (by rfl) T.g__law_pull T.k__law_pull T.b__law_pull .nil pass0 (pa_cons (pv 0) (pa_cons pe_int pa_nil))))) (pv 1))))), ?_⟩
  walk_at "cr.k"
  exact q _ _ (fmod_in h0).1 (fmod_in h0).2 (by walk_at "cr.but") (by walk_at "cr.bag")
local macro_rules | `(tactic| walk_at "cr.call") => `(tactic| ((with_reducible refine' Cr.u__law_wide ?e ?a ?b ?_); (case e => with_unfolding_all rfl); (case a => walk_at "cr.bag"); (case b => first | assumption | omega | decide); intro k H' hk0 hk1 hb hB))

/-! ### _law_pennies -/
def sp__law_pennies (_K : PySem.W.Frag) : Sp := fun vs H Q _ => ∃ (b l : Addr), vs = [.ref b] ∧ Bag H b l ∧ ∀ i H', 1 ≤ i → i ≤ 1000000000 → But b H H' → Bag H' b l → Q (.int i) H'
theorem u__law_pennies {H : Hp} {Q : VK} {E : XK} {vs : List V} {b l : Addr} (e : vs = [.ref b]) (h : Bag H b l) (q : ∀ i H', 1 ≤ i → i ≤ 1000000000 → But b H H' → Bag H' b l → Q (.int i) H') : sp__law_pennies K vs H Q E := ⟨b, l, e, h, q⟩
theorem ok__law_pennies (T : Top w K mg) : FnOk P w K mg base CX0 3 T.f__law_pennies T.fd__law_pennies ["_law_bag_here"] (sp__law_pennies K) := by
  have G__law_pull := ok__law_pull (P := P) (w := w) (base := base) T
  have G__law_wide := ok__law_wide (P := P) (w := w) (base := base) T
  refine T.F__law_pennies.ok sc__law_pennies (fun vs H Q E h => by obtain ⟨b, l, rfl, _⟩ := h; rfl) (fun cdv A outer s H vs Q E hr h => ?_)
  obtain ⟨b, l, rfl, hB, q⟩ := h
  refine ⟨_, (pss_one (ps_ret (pe_ix ix_seq (pe_lst (pa_cons (pe_op op_addU pe_int (pe_call (G__law_pull) (hr.mono (by decide)) (by rfl) T.g__law_pull T.k__law_pull T.b__law_pull .nil pass0 (pa_cons (pv 0) (pa_cons pe_int pa_nil)))) (pa_cons (pe_op op_addU pe_int (pe_call (G__law_pull) (hr.mono (by decide)) (by rfl) T.g__law_pull T.k__law_pull T.b__law_pull .nil pass0 (pa_cons (pv 0) (pa_cons pe_int pa_nil)))) (pa_cons (pe_op op_addU pe_int (pe_call (G__law_wide) (hr.mono (by decide)) (by rfl) T.g__law_wide T.k__law_wide T.b__law_wide .nil pass0 (pa_cons (pv 0) (pa_cons (pe_op op_powU pe_int pe_int) pa_nil)))) pa_nil)))) (pe_call (G__law_pull) (hr.mono (by decide)) (by rfl) T.g__law_pull T.k__law_pull T.b__law_pull .nil pass0 (pa_cons (pv 0) (pa_cons pe_int pa_nil))) (fun _ _ => rfl)))), ?_⟩
  walk_at "cr.k"
  refine s_menuI 1 1000000000 (by walk_at "cr.lst") (by assumption) (by walk_at "cr.len") (by walk_at "cr.items") fun t1 t11 t12 => ?_
  exact q _ _ t11 t12 (by walk_at "cr.but") (by walk_at "cr.bag")
local macro_rules | `(tactic| walk_at "cr.call") => `(tactic| ((with_reducible refine' Cr.u__law_pennies ?e ?a ?_); (case e => with_unfolding_all rfl); (case a => walk_at "cr.bag"); intro i H' hi0 hi1 hb hB))

/-! ### _law_price -/
def sp__law_price (_K : PySem.W.Frag) : Sp := fun vs H Q _ => ∃ (b l : Addr), vs = [.ref b] ∧ Bag H b l ∧ ∀ i H', 1 ≤ i → i ≤ 1000000 → But b H H' → Bag H' b l → Q (.int i) H'
theorem u__law_price {H : Hp} {Q : VK} {E : XK} {vs : List V} {b l : Addr} (e : vs = [.ref b]) (h : Bag H b l) (q : ∀ i H', 1 ≤ i → i ≤ 1000000 → But b H H' → Bag H' b l → Q (.int i) H') : sp__law_price K vs H Q E := ⟨b, l, e, h, q⟩
theorem ok__law_price (T : Top w K mg) : FnOk P w K mg base CX0 3 T.f__law_price T.fd__law_price ["_law_bag_here"] (sp__law_price K) := by
  have G__law_pull := ok__law_pull (P := P) (w := w) (base := base) T
  have G__law_wide := ok__law_wide (P := P) (w := w) (base := base) T
  refine T.F__law_price.ok sc__law_price (fun vs H Q E h => by obtain ⟨b, l, rfl, _⟩ := h; rfl) (fun cdv A outer s H vs Q E hr h => ?_)
  obtain ⟨b, l, rfl, hB, q⟩ := h
  refine ⟨_, (pss_one (ps_ret (pe_ix ix_seq (pe_lst (pa_cons (pe_op op_addU pe_int (pe_call (G__law_pull) (hr.mono (by decide)) (by rfl) T.g__law_pull T.k__law_pull T.b__law_pull .nil pass0 (pa_cons (pv 0) (pa_cons pe_int pa_nil)))) (pa_cons (pe_op op_addU pe_int (pe_call (G__law_pull) (hr.mono (by decide)) (by rfl) T.g__law_pull T.k__law_pull T.b__law_pull .nil pass0 (pa_cons (pv 0) (pa_cons pe_int pa_nil)))) (pa_cons pe_int (pa_cons (pe_op op_addU pe_int (pe_call (G__law_wide) (hr.mono (by decide)) (by rfl) T.g__law_wide T.k__law_wide T.b__law_wide .nil pass0 (pa_cons (pv 0) (pa_cons (pe_op op_powU pe_int pe_int) pa_nil)))) pa_nil))))) (pe_call (G__law_pull) (hr.mono (by decide)) (by rfl) T.g__law_pull T.k__law_pull T.b__law_pull .nil pass0 (pa_cons (pv 0) (pa_cons pe_int pa_nil))) (fun _ _ => rfl)))), ?_⟩
  walk_at "cr.k"
  refine s_menuI 1 1000000 (by walk_at "cr.lst") (by assumption) (by walk_at "cr.len") (by walk_at "cr.items") fun t1 t11 t12 => ?_
  exact q _ _ t11 t12 (by walk_at "cr.but") (by walk_at "cr.bag")
local macro_rules | `(tactic| walk_at "cr.call") => `(tactic| ((with_reducible refine' Cr.u__law_price ?e ?a ?_); (case e => with_unfolding_all rfl); (case a => walk_at "cr.bag"); intro i H' hi0 hi1 hb hB))

/-! ### _law_pairs -/
def sp__law_pairs (K : PySem.W.Frag) : Sp := fun vs H Q _ => ∃ (b l a : Addr) (ys : List Str), vs = [.ref b, .ref a] ∧ Bag H b l ∧ H a = some (.lst (ys.map V.str)) ∧ a ≠ b ∧ 1 ≤ ys.length ∧ ys.length ≤ 8 ∧ ys.Nodup ∧ ∀ v ps H', But b H H' → Bag H' b l → Dt K H' v (pairsD ps) → PsOf (· ∈ ys) ps → Q v H'
theorem u__law_pairs {H : Hp} {Q : VK} {E : XK} {vs : List V} {b l a : Addr} {ys : List Str} (e : vs = [.ref b, .ref a]) (hB : Bag H b l) (ha : H a = some (.lst (ys.map V.str))) (ne : a ≠ b) (l0 : 1 ≤ ys.length) (l1 : ys.length ≤ 8) (nd : ys.Nodup) (q : ∀ v ps H', But b H H' → Bag H' b l → Dt K H' v (pairsD ps) → PsOf (· ∈ ys) ps → Q v H') : sp__law_pairs K vs H Q E := ⟨b, l, a, ys, e, hB, ha, ne, l0, l1, nd, q⟩
theorem ps_sub {ys zs : List Str} {ps : List (Str × Int)} (nd : ys.Nodup) (l1 : ys.length ≤ 8) (s : zs.Sublist ys) (e : ps.map Prod.fst = zs) (l0 : 1 ≤ ps.length) (k : ∀ p, p ∈ ps → 1 ≤ p.2 ∧ p.2 ≤ 1000000) : PsOf (· ∈ ys) ps := by
  have hl : ps.length = zs.length := by rw [← e, List.length_map]
  exact ⟨l0, by have := s.length_le; omega, by rw [e]; exact s.nodup nd, fun p hp => ⟨s.subset (by rw [← e]; exact List.mem_map_of_mem hp), k p hp⟩⟩
theorem ok__law_pairs (T : Top w K mg) : FnOk P w K mg base CX0 4 T.f__law_pairs T.fd__law_pairs ["_law_bag_here", "_law_things"] (sp__law_pairs K) := by
  have G__law_pull := ok__law_pull (P := P) (w := w) (base := base) T
  have G__law_price := ok__law_price (P := P) (w := w) (base := base) T
  refine T.F__law_pairs.ok sc__law_pairs (fun vs H Q E h => by obtain ⟨b, l, a, ys, rfl, _⟩ := h; rfl) (fun cdv A outer s H vs Q E hr h => ?_)
  obtain ⟨b, l, a, ys, rfl, hB, ha, ne, l0, l1, nd, q⟩ := h
  refine ⟨_, (pss_cons (ps_setLc (i := 2) (own := [("_law_thing", 3)]) (g := gName 3) rfl sc__law_pairs.nd rfl rfl (sw_true rfl rfl rfl (by decide +kernel)) (pi_list (pv 1)) (blkOk_by (N := ["_law_bag_here", "_law_things", "_law_found", "_law_thing"]) (sc := defScope s__law_pairs) (by decide +kernel)) (fun _ _ _ _ _ => pg_name (i := 3) sc__law_pairs.nd rfl (Or.inl rfl)) (fun _ _ _ _ _ => (pts_one (pt_cmpR op_gtI (pe_call (G__law_pull) (hr.mono (by decide)) (by rfl) T.g__law_pull T.k__law_pull T.b__law_pull .nil pass0 (pa_cons (pv 0) (pa_cons pe_int pa_nil))) pe_int (nomark _)))) (fun _ _ _ _ _ => (pe_tup (pa_cons (pv 3) (pa_cons (pe_call (G__law_price) (hr.mono (by decide)) (by rfl) T.g__law_price T.k__law_price T.b__law_price .nil pass0 (pa_cons (pv 0) pa_nil)) pa_nil)))))
      (pss_cons (ps_if (pt_not (pt_tru (pv 2))) (pss_one (ps_set (i := 2) sc__law_pairs.nd rfl (Or.inl rfl) (pe_lst (pa_cons (pe_tup (pa_cons (pe_ix ix_seq (pv 1) pe_int (fun _ _ => rfl)) (pa_cons (pe_op op_addU pe_int (pe_call (G__law_pull) (hr.mono (by decide)) (by rfl) T.g__law_pull T.k__law_pull T.b__law_pull .nil pass0 (pa_cons (pv 0) (pa_cons pe_int pa_nil)))) pa_nil))) pa_nil)))) pss_nil)
      (pss_one (ps_ret (pe_callTy call_tupU (by rfl) T.n_tuple (by decide +kernel) (pa_cons (pv 2) pa_nil)))))), ?_⟩
  walk_at "cr.k"
  refine c_listF (stp_but hB) (fun _ v y => v = V.str y) (fun H y v => ∃ c, Dt K H v (.tuple [.str y, .int c]) ∧ 1 ≤ c ∧ c ≤ 1000000) (fun _ _ _ _ _ h => h) (fun _ _ _ _ k h => by obtain ⟨c, h1, h2⟩ := h; exact ⟨c, h1.mono k.kt, h2⟩) (fun A s => .of (s.1.oth _ _ ne ha)) (a2_strs ys) (by rw [List.length_map]; omega) ?_ ?_
  · rintro _ y A Nt Nf hy rfl hS hT hF
    obtain ⟨hbA, hBA⟩ := hS
    clear hbA hB
    walk_at "cr.n"
    walk_at "cr.go"
    refine ⟨rfl, ?_⟩
    walk_at "cr.go"
    refine s_iteD (fun h => ?_) (fun h => ?_)
    · walk_at "cr.go"
      exact hT _ _ ⟨by walk_at "cr.but", by walk_at "cr.bag"⟩ ⟨_, by walk_at "cr.dt", by assumption, by assumption⟩
    · exact hF _ ⟨by walk_at "cr.but", by walk_at "cr.bag"⟩
  · intro p vs zs A hS hp hA hsub h2
    obtain ⟨hbA, hBA⟩ := hS
    obtain ⟨ps, e, hd, hk⟩ := a2_ps h2
    have hyA : A a = some (.lst (ys.map V.str)) := hbA.oth _ _ ne ha
    have npb : p ≠ b := hB.ne1 hp
    have npl : p ≠ l := hB.ne2 hp
    have hzl : zs.length = vs.length := h2.len
    have hpl : ps.length = zs.length := by rw [← e, List.length_map]
    clear h2 hB ha
    walk_at "cr.n"
    walk_at "cr.go"
    by_cases hv : vs.isEmpty = true
    · rw [hv, Bool.not_true, Bool.not_false]
      walk_at "cr.go"
      refine s_ixL (v := .str (ys[0]'(by omega))) (.of hyA) (atI_nat (j := 0) (by rw [List.getElem?_map, List.getElem?_eq_getElem (by omega)]; rfl)) ?_
      walk_at "cr.go"
      rename_i c B hc0 hc1 hbB hBB p2 hp2 p3 hp3
      have hd3 : DtAll K (upd (upd B p2 (.tup [.str (ys[0]'(by omega)), .int (1 + c)])) p3 (.lst [.ref p2])) [.ref p2] (([(ys[0]'(by omega), 1 + c)] : List (Str × Int)).map fun p => .tuple [.str p.1, .int p.2]) := by
        refine .cons ?_ .nil
        show Dt K _ _ (.tuple [.str _, .int _])
        walk_at "cr.dt"
      walk_at "cr.go"
      rename_i v4 H4 hs4 hd4
      refine q _ _ _ (by walk_at "cr.but") (by walk_at "cr.bag") hd4 ⟨by simp, by simp, List.nodup_cons.mpr ⟨List.not_mem_nil, List.nodup_nil⟩, fun p hp => ?_⟩
      rw [List.mem_singleton] at hp
      subst hp
      exact ⟨List.getElem_mem _, by show 1 ≤ 1 + c; omega, by show 1 + c ≤ 1000000; omega⟩
    · have hv' : vs.isEmpty = false := by simpa using hv
      rw [hv', Bool.not_false, Bool.not_true]
      have hl0 : 1 ≤ ps.length := by
        cases vs with
        | nil => exact absurd rfl hv
        | cons _ _ => rw [hpl, hzl]; simp
      walk_at "cr.go"
      rename_i v4 H4 hs4 hd4
      exact q _ _ _ (by walk_at "cr.but") (by walk_at "cr.bag") hd4 (ps_sub nd l1 hsub e hl0 hk)
local macro_rules | `(tactic| walk_at "cr.call") => `(tactic| ((with_reducible refine' Cr.u__law_pairs ?e ?a ?b ?c ?d ?f ?g ?_); (case e => with_unfolding_all rfl); (case a => walk_at "cr.bag"); (case b => walk_at "cr.at"); (case c => with_reducible assumption); (case d => first | with_reducible assumption | omega); (case f => first | with_reducible assumption | omega); (case g => with_reducible assumption); intro v ps H' hb hB hd hps))

/-! ### _law_entry -/
def sp__law_entry (K : PySem.W.Frag) : Sp := fun vs H Q _ => ∃ (b l a c : Addr) (ys zs : List Str) (L : Int), vs = [.ref b, .ref a, .ref c, .int L] ∧ Bag H b l ∧ H a = some (.lst (ys.map V.str)) ∧ H c = some (.lst (zs.map V.str)) ∧ a ≠ b ∧ c ≠ b ∧ 2 ≤ ys.length ∧ ys.length ≤ 8 ∧ 1 ≤ zs.length ∧ zs.length ≤ 8 ∧ ys.Nodup ∧ zs.Nodup ∧ 0 ≤ L ∧ L ≤ 400 ∧ ∀ v k d rest H', But b H H' → Bag H' b l → Dt K H' v (entD k d rest) → EntOf (· ∈ ys) (· ∈ zs) L k d rest → Q v H'
theorem u__law_entry {H : Hp} {Q : VK} {E : XK} {vs : List V} {b l a c : Addr} {ys zs : List Str} {L : Int} (e : vs = [.ref b, .ref a, .ref c, .int L]) (hB : Bag H b l) (ha : H a = some (.lst (ys.map V.str))) (hc : H c = some (.lst (zs.map V.str))) (na : a ≠ b) (nc : c ≠ b) (y0 : 2 ≤ ys.length) (y1 : ys.length ≤ 8) (z0 : 1 ≤ zs.length) (z1 : zs.length ≤ 8) (ny : ys.Nodup) (nz : zs.Nodup) (L0 : 0 ≤ L) (L1 : L ≤ 400) (q : ∀ v k d rest H', But b H H' → Bag H' b l → Dt K H' v (entD k d rest) → EntOf (· ∈ ys) (· ∈ zs) L k d rest → Q v H') : sp__law_entry K vs H Q E := ⟨b, l, a, c, ys, zs, L, e, hB, ha, hc, na, nc, y0, y1, z0, z1, ny, nz, L0, L1, q⟩
theorem other_at {i k n : Int} (i0 : 0 ≤ i) (i1 : i < n) (k0 : 0 ≤ k) (k1 : k < n - 1) : 0 ≤ (i + 1 + k).fmod n ∧ (i + 1 + k).fmod n < n ∧ (i + 1 + k).fmod n ≠ i := by
  rw [Int.fmod_eq_emod_of_nonneg _ (by omega)]
  by_cases h : i + 1 + k < n
  · rw [Int.emod_eq_of_lt (by omega) h]; omega
  · have e : (i + 1 + k) % n = i + 1 + k - n := by
      rw [← Int.sub_emod_right, Int.emod_eq_of_lt (by omega) (by omega)]
    rw [e]; omega
theorem str_at {K : PySem.W.Frag} {H : Hp} {a : Addr} {ys : List Str} {i : Int} {Q : VK} (h : H a = some (.lst (ys.map V.str))) (i0 : 0 ≤ i) (i1 : i < ys.length) (q : ∀ (j : Nat) (hj : j < ys.length), i = (j : Int) → Q (.str ys[j]) H) : rIx K (.ref a) (.int i) H Q := by
  obtain ⟨j, rfl⟩ : ∃ j : Nat, i = (j : Int) := ⟨i.toNat, by omega⟩
  have hj : j < ys.length := by omega
  exact s_ixL (v := .str ys[j]) (.of h) (atI_nat (by rw [List.getElem?_map, List.getElem?_eq_getElem hj]; rfl)) (q j hj rfl)
set_option maxHeartbeats 4000000 in
theorem ok__law_entry (T : Top w K mg) : FnOk P w K mg base CX0 5 T.f__law_entry T.fd__law_entry ["_law_bag_here", "_law_holders", "_law_things", "_law_last"] (sp__law_entry K) := by
  have G__law_pull := ok__law_pull (P := P) (w := w) (base := base) T
  have G__law_pennies := ok__law_pennies (P := P) (w := w) (base := base) T
  have G__law_price := ok__law_price (P := P) (w := w) (base := base) T
  have G__law_pairs := ok__law_pairs (P := P) (w := w) (base := base) T
  refine T.F__law_entry.ok sc__law_entry (fun vs H Q E h => by obtain ⟨b, l, a, c, ys, zs, L, rfl, _⟩ := h; rfl) (fun cdv A outer s H vs Q E hr h => ?_)
  obtain ⟨b, l, a, c, ys, zs, L, rfl, hB, ha, hc, na, nc, y0, y1, z0, z1, ny, nz, L0, L1, q⟩ := h
  have m0 : (0 : Int) < L + 1 := by omega
  have m1 : L + 1 < 2 ^ 64 := by omega
  have m2 : (0 : Int) < ((ys.map V.str).length : Int) := by rw [List.length_map]; omega
  have m3 : ((ys.map V.str).length : Int) < 2 ^ 64 := by rw [List.length_map]; omega
  have m4 : (0 : Int) < ((zs.map V.str).length : Int) := by rw [List.length_map]; omega
  have m5 : ((zs.map V.str).length : Int) < 2 ^ 64 := by rw [List.length_map]; omega
  have m6 : (0 : Int) < ((ys.map V.str).length : Int) - 1 := by rw [List.length_map]; omega
  have m7 : ((ys.map V.str).length : Int) - 1 < 2 ^ 64 := by rw [List.length_map]; omega
  have m8 : ((ys.map V.str).length : Int) ≠ 0 := by omega
  refine ⟨_, (pss_cons (ps_set (i := 4) sc__law_entry.nd rfl (Or.inl rfl) (pe_lst (pa_cons pe_str (pa_cons pe_str (pa_cons pe_str (pa_cons pe_str (pa_cons pe_str (pa_cons pe_str (pa_cons pe_str (pa_cons pe_str (pa_cons pe_str (pa_cons pe_str (pa_cons pe_str (pa_cons pe_str pa_nil))))))))))))))
      (pss_cons (ps_set (i := 5) sc__law_entry.nd rfl (Or.inl rfl) (pe_ix ix_seq (pe_op op_addU (pv 4) (pe_lst (pa_cons pe_str (pa_cons pe_str (pa_cons pe_str (pa_cons pe_str (pa_cons pe_str pa_nil))))))) (pe_call (G__law_pull) (hr.mono (by decide)) (by rfl) T.g__law_pull T.k__law_pull T.b__law_pull .nil pass0 (pa_cons (pv 0) (pa_cons pe_int pa_nil))) (fun _ _ => rfl)))
      (pss_cons (ps_set (i := 6) sc__law_entry.nd rfl (Or.inl rfl) (pe_call (G__law_pull) (hr.mono (by decide)) (by rfl) T.g__law_pull T.k__law_pull T.b__law_pull .nil pass0 (pa_cons (pv 0) (pa_cons (pe_op op_addU (pv 3) pe_int) pa_nil))))
      (pss_cons (ps_set (i := 7) sc__law_entry.nd rfl (Or.inl rfl) (pe_call (G__law_pull) (hr.mono (by decide)) (by rfl) T.g__law_pull T.k__law_pull T.b__law_pull .nil pass0 (pa_cons (pv 0) (pa_cons (pe_callB call_lenU (by rfl) T.n_len (by decide +kernel) (pa_cons (pv 1) pa_nil)) pa_nil))))
      (pss_cons (ps_set (i := 8) sc__law_entry.nd rfl (Or.inl rfl) (pe_ix ix_seq (pv 2) (pe_call (G__law_pull) (hr.mono (by decide)) (by rfl) T.g__law_pull T.k__law_pull T.b__law_pull .nil pass0 (pa_cons (pv 0) (pa_cons (pe_callB call_lenU (by rfl) T.n_len (by decide +kernel) (pa_cons (pv 2) pa_nil)) pa_nil))) (fun _ _ => rfl)))
      (pss_cons (ps_set (i := 9) sc__law_entry.nd rfl (Or.inl rfl) (pe_ix ix_seq (pe_lst (pa_cons pe_int (pa_cons pe_int (pa_cons (pe_op op_addU pe_int (pe_call (G__law_pull) (hr.mono (by decide)) (by rfl) T.g__law_pull T.k__law_pull T.b__law_pull .nil pass0 (pa_cons (pv 0) (pa_cons pe_int pa_nil)))) pa_nil)))) (pe_call (G__law_pull) (hr.mono (by decide)) (by rfl) T.g__law_pull T.k__law_pull T.b__law_pull .nil pass0 (pa_cons (pv 0) (pa_cons pe_int pa_nil))) (fun _ _ => rfl)))
      (pss_cons (ps_if (pt_cmpR op_in_seq (pv 5) (pe_lst (pa_cons pe_str (pa_cons pe_str pa_nil))) (by rfl)) (pss_one (ps_ret (pe_tup (pa_cons (pv 5) (pa_cons (pv 6) (pa_cons (pe_ix ix_seq (pv 1) (pv 7) (fun _ _ => rfl)) (pa_cons (pe_call (G__law_pennies) (hr.mono (by decide)) (by rfl) T.g__law_pennies T.k__law_pennies T.b__law_pennies .nil pass0 (pa_cons (pv 0) pa_nil)) pa_nil))))))) pss_nil)
      (pss_cons (ps_if (pt_cmpR (op_eqD hr.units) (pv 5) pe_str (nomark _)) (pss_one (ps_ret (pe_tup (pa_cons (pv 5) (pa_cons (pv 6) (pa_cons (pv 8) (pa_cons (pe_call (G__law_price) (hr.mono (by decide)) (by rfl) T.g__law_price T.k__law_price T.b__law_price .nil pass0 (pa_cons (pv 0) pa_nil)) pa_nil))))))) pss_nil)
      (pss_cons (ps_if (pt_cmpR (op_eqD hr.units) (pv 5) pe_str (nomark _)) (pss_one (ps_ret (pe_tup (pa_cons (pv 5) (pa_cons (pv 6) (pa_cons (pe_call (G__law_pairs) (hr.mono (by decide)) (by rfl) T.g__law_pairs T.k__law_pairs T.b__law_pairs .nil pass0 (pa_cons (pv 0) (pa_cons (pv 2) pa_nil))) pa_nil)))))) pss_nil)
      (pss_cons (ps_if (pt_cmpR (op_eqD hr.units) (pv 5) pe_str (nomark _)) (pss_one (ps_ret (pe_tup (pa_cons (pv 5) (pa_cons (pv 6) (pa_cons (pe_ix ix_seq (pv 1) (pv 7) (fun _ _ => rfl)) (pa_cons (pv 9) pa_nil))))))) pss_nil)
      (pss_cons (ps_if (pt_cmpR (op_eqD hr.units) (pv 5) pe_str (nomark _)) (pss_cons (ps_set (i := 10) sc__law_entry.nd rfl (Or.inl rfl) (pe_ix ix_seq (pv 1) (pe_op op_modU (pe_op op_addU (pe_op op_addU (pv 7) pe_int) (pe_call (G__law_pull) (hr.mono (by decide)) (by rfl) T.g__law_pull T.k__law_pull T.b__law_pull .nil pass0 (pa_cons (pv 0) (pa_cons (pe_op op_subU (pe_callB call_lenU (by rfl) T.n_len (by decide +kernel) (pa_cons (pv 1) pa_nil)) pe_int) pa_nil)))) (pe_callB call_lenU (by rfl) T.n_len (by decide +kernel) (pa_cons (pv 1) pa_nil))) (fun _ _ => rfl)))
      (pss_one (ps_ret (pe_tup (pa_cons (pv 5) (pa_cons (pv 6) (pa_cons (pe_ix ix_seq (pv 1) (pv 7) (fun _ _ => rfl)) (pa_cons (pv 10) (pa_cons (pv 9) pa_nil))))))))) pss_nil)
      (pss_cons (ps_if (pt_cmpR op_in_seq (pv 5) (pe_lst (pa_cons pe_str (pa_cons pe_str pa_nil))) (by rfl)) (pss_one (ps_ret (pe_tup (pa_cons (pv 5) (pa_cons (pv 6) (pa_cons (pv 8) pa_nil)))))) pss_nil)
      (pss_cons (ps_if (pt_cmpR op_in_seq (pv 5) (pe_lst (pa_cons pe_str (pa_cons pe_str pa_nil))) (by rfl)) (pss_one (ps_ret (pe_tup (pa_cons (pv 5) (pa_cons (pv 6) (pa_cons (pe_ix ix_seq (pe_lst (pa_cons pe_int (pa_cons pe_int (pa_cons (pe_op op_addU pe_int (pe_op op_modU (pv 9) pe_int)) pa_nil)))) (pe_call (G__law_pull) (hr.mono (by decide)) (by rfl) T.g__law_pull T.k__law_pull T.b__law_pull .nil pass0 (pa_cons (pv 0) (pa_cons pe_int pa_nil))) (fun _ _ => rfl)) pa_nil)))))) pss_nil)
      (pss_cons (ps_if (pt_cmpR (op_eqD hr.units) (pv 5) pe_str (nomark _)) (pss_one (ps_ret (pe_tup (pa_cons (pv 5) (pa_cons (pv 6) (pa_cons (pv 9) pa_nil)))))) pss_nil)
      (pss_one (ps_ret (pe_tup (pa_cons (pv 5) (pa_cons (pv 6) pa_nil))))))))))))))))))), ?_⟩
  walk_at "cr.k"
  rename_i p1 hp1 p2 hp2 p3 hp3 k0 H1 hk00 hk01 hb1 hB1
  refine s_menuP (fun _ v => ∃ k, v = .str k ∧ k ∈ kindsE) (by walk_at "cr.lst") (by assumption) (by walk_at "cr.len") ?_ fun v hv => ?_
  · refine List.forall_mem_append.mpr ⟨?_, ?_⟩ <;> (repeat (refine List.forall_mem_cons.mpr ⟨⟨_, rfl, by decide +kernel⟩, ?_⟩)) <;> exact (fun _ h => nomatch h)
  obtain ⟨k, rfl, hk⟩ := hv
  have hb : But b H H1 := by walk_at "cr.but"
  have ha1 : H1 a = some (.lst (ys.map V.str)) := hb.oth _ _ na ha
  have hc1 : H1 c = some (.lst (zs.map V.str)) := hb.oth _ _ nc hc
  have hsk : SeqAt.shaped (.str k) = true := (lay_str (n := 0) (kind_txt hk)).sh
  clear hb1 hp1 hp2 hp3 hB ha hc hk00 hk01
  walk_at "cr.go"
  rename_i d H2 hd0 hd1 hb2 hB2 i H3 hi0 hi1 hb3 hB3 j H4 hj0 hj1 hb4 hB4
  have hb' : But b H H4 := by walk_at "cr.but"
  have ha4 : H4 a = some (.lst (ys.map V.str)) := hb4.oth _ _ na (hb3.oth _ _ na (hb2.oth _ _ na ha1))
  have hc4 : H4 c = some (.lst (zs.map V.str)) := hb4.oth _ _ nc (hb3.oth _ _ nc (hb2.oth _ _ nc hc1))
  clear hb hb2 hb3 hb4 hB1 hB2 hB3 ha1 hc1
  rw [List.length_map] at hi1 hj1
  refine str_at hc4 hj0 hj1 fun j' hj' ej => ?_
  obtain ⟨th, hth⟩ : ∃ th, th = zs[j'] := ⟨_, rfl⟩
  have hthm : th ∈ zs := by rw [hth]; exact List.getElem_mem _
  rw [← hth]
  clear hth ej hj0 hj1
  walk_at "cr.go"
  refine s_menuI 1 10000 (by walk_at "cr.lst") (by assumption) (by walk_at "cr.len") (by walk_at "cr.items") fun ct ct0 ct1 => ?_
  rename_i c1 H5 hc10 hc11 hb5 hB5 p6 hp6 c2 H7 hc20 hc21 hb7 hB7
  have n6 : p6 ≠ a := by walk_at "cr.ne"
  have n7 : p6 ≠ c := by walk_at "cr.ne"
  have ha7 : H7 a = some (.lst (ys.map V.str)) := by walk_at "cr.at"
  have hc7 : H7 c = some (.lst (zs.map V.str)) := by walk_at "cr.at"
  have hb : But b H H7 := by walk_at "cr.but"
  clear hb' hb5 hb7 hB5 hB4 hp6 ha4 hc4
  walk_at "cr.go"
  refine s_iteD (fun h1 => ?_) (fun h1 => ?_)
  · walk_at "cr.go"
    refine str_at (by walk_at "cr.at") hi0 hi1 fun i' hi' ei => ?_
    have hm : ys[i'] ∈ ys := List.getElem_mem _
    walk_at "cr.go"
    refine q _ k d _ _ (by walk_at "cr.but") (by walk_at "cr.bag") (by walk_at "cr.dt") ?_
    simp only [List.mem_cons, List.not_mem_nil, or_false] at h1
    rcases h1 with rfl | rfl
    · exact .come hd0 (by omega) hm (by assumption) (by assumption)
    · exact .draw hd0 (by omega) hm (by assumption) (by assumption)
  walk_at "cr.go"
  refine s_iteD (fun h2 => ?_) (fun h2 => ?_)
  · walk_at "cr.go"
    refine q _ k d _ _ (by walk_at "cr.but") (by walk_at "cr.bag") (by walk_at "cr.dt") ?_
    subst h2
    exact .price hd0 (by omega) hthm (by assumption) (by assumption)
  walk_at "cr.go"
  refine s_iteD (fun h3 => ?_) (fun h3 => ?_)
  · walk_at "cr.go"
    refine q _ k d _ _ (by walk_at "cr.but") (by walk_at "cr.bag") (by walk_at "cr.dt") ?_
    subst h3
    exact .mix hd0 (by omega) (by assumption)
  walk_at "cr.go"
  refine s_iteD (fun h4 => ?_) (fun h4 => ?_)
  · walk_at "cr.go"
    refine str_at (by walk_at "cr.at") hi0 hi1 fun i' hi' ei => ?_
    have hm : ys[i'] ∈ ys := List.getElem_mem _
    walk_at "cr.go"
    refine q _ k d _ _ (by walk_at "cr.but") (by walk_at "cr.bag") (by walk_at "cr.dt") ?_
    subst h4
    exact .go hd0 (by omega) hm (by assumption) (by assumption)
  walk_at "cr.go"
  refine s_iteD (fun h5 => ?_) (fun h5 => ?_)
  · walk_at "cr.go"
    rename_i kk H8 hk80 hk81 hb8 hB8
    rw [List.length_map] at hk81 ⊢
    obtain ⟨o0, o1, o2⟩ := other_at hi0 hi1 hk80 hk81
    refine str_at (by walk_at "cr.at") o0 o1 fun j2 hj2 ej2 => ?_
    have hm2 : ys[j2] ∈ ys := List.getElem_mem _
    walk_at "cr.go"
    refine str_at (by walk_at "cr.at") hi0 hi1 fun i' hi' ei => ?_
    have hm : ys[i'] ∈ ys := List.getElem_mem _
    have hne : ys[i'] ≠ ys[j2] := fun z => by
      have := (List.getElem_inj ny).mp z
      omega
    walk_at "cr.go"
    refine q _ k d _ _ (by walk_at "cr.but") (by walk_at "cr.bag") (by walk_at "cr.dt") ?_
    subst h5
    exact .give hd0 (by omega) hm hm2 hne (by assumption) (by assumption)
  walk_at "cr.go"
  refine s_iteD (fun h6 => ?_) (fun h6 => ?_)
  · walk_at "cr.go"
    refine q _ k d _ _ (by walk_at "cr.but") (by walk_at "cr.bag") (by walk_at "cr.dt") ?_
    simp only [List.mem_cons, List.not_mem_nil, or_false] at h6
    rcases h6 with rfl | rfl
    · exact .aside hd0 (by omega) hthm
    · exact .home hd0 (by omega) hthm
  walk_at "cr.go"
  refine s_iteD (fun h7 => ?_) (fun h7 => ?_)
  · walk_at "cr.go"
    have hf : 0 ≤ ct.fmod 9999 ∧ ct.fmod 9999 ≤ 9998 := by rw [Int.fmod_eq_emod_of_nonneg _ (by omega)]; omega
    obtain ⟨hf0, hf1⟩ := hf
    refine s_menuI 1 9999 (by walk_at "cr.lst") (by assumption) (by walk_at "cr.len") (by walk_at "cr.items") fun ct2 ct20 ct21 => ?_
    walk_at "cr.go"
    refine q _ k d _ _ (by walk_at "cr.but") (by walk_at "cr.bag") (by walk_at "cr.dt") ?_
    simp only [List.mem_cons, List.not_mem_nil, or_false] at h7
    rcases h7 with rfl | rfl
    · exact .rate hd0 (by omega) (by omega) (by assumption)
    · exact .levy hd0 (by omega) (by assumption) (by assumption)
  walk_at "cr.go"
  refine s_iteD (fun h8 => ?_) (fun h8 => ?_)
  · walk_at "cr.go"
    refine q _ k d _ _ (by walk_at "cr.but") (by walk_at "cr.bag") (by walk_at "cr.dt") ?_
    subst h8
    exact .hurdle hd0 (by omega) (by assumption) (by assumption)
  walk_at "cr.go"
  refine q _ k d _ _ (by walk_at "cr.but") (by walk_at "cr.bag") (by walk_at "cr.dt") ?_
  simp only [List.mem_cons, List.not_mem_nil, or_false, not_or] at h1 h6 h7
  unfold kindsE at hk
  simp only [List.mem_cons, List.not_mem_nil, or_false, h1.1, h1.2, h2, h3, h4, h5, h6.1, h6.2, h7.1, h7.2, h8, false_or] at hk
  subst hk
  exact .harvest hd0 (by omega)
local macro_rules | `(tactic| walk_at "cr.call") => `(tactic| ((with_reducible refine' Cr.u__law_entry ?e ?a ?b ?c ?f1 ?f2 ?g1 ?g2 ?g3 ?g4 ?g5 ?g6 ?g7 ?g8 ?_); (case e => with_unfolding_all rfl); (case a => walk_at "cr.bag"); (case b => walk_at "cr.at"); (case c => walk_at "cr.at"); (case f1 => with_reducible assumption); (case f2 => with_reducible assumption); (case g1 => first | with_reducible assumption | omega); (case g2 => first | with_reducible assumption | omega); (case g3 => first | with_reducible assumption | omega); (case g4 => first | with_reducible assumption | omega); (case g5 => with_reducible assumption); (case g6 => with_reducible assumption); (case g7 => first | with_reducible assumption | omega); (case g8 => first | with_reducible assumption | omega); intro v k d rest H' hb hB hd hent))

/-! ### _law_slot -/
def sp__law_slot (K : PySem.W.Frag) : Sp := fun vs H Q _ => ∃ (x : V) (k : Str) (d : Int) (rest : List PyData), vs = [x] ∧ Dt K H x (entD k d rest) ∧ ∀ v H', Same H H' → Dt K H' v (slotD k d rest) → Q v H'
theorem u__law_slot {H : Hp} {Q : VK} {E : XK} {vs : List V} {x : V} {k : Str} {d : Int} {rest : List PyData} (e : vs = [x]) (hx : Dt K H x (entD k d rest)) (q : ∀ v H', Same H H' → Dt K H' v (slotD k d rest) → Q v H') : sp__law_slot K vs H Q E := ⟨x, k, d, rest, e, hx, q⟩
theorem ok__law_slot (T : Top w K mg) : FnOk P w K mg base CX0 1 T.f__law_slot T.fd__law_slot ["_law_row"] (sp__law_slot K) := by
  refine T.F__law_slot.ok sc__law_slot (fun vs H Q E h => by obtain ⟨x, k, d, rest, rfl, _⟩ := h; rfl) (fun cdv A outer s H vs Q E hr h => ?_)
  obtain ⟨x, k, d, rest, rfl, hx, q⟩ := h
  have hx' : Dt K H x (.tuple (.str k :: .int d :: rest)) := hx
  refine ⟨_, (pss_cons (ps_if (pt_cmpR op_in_seq (pe_ix ix_seq (pv 0) pe_int (fun _ _ => rfl)) (pe_lst (pa_cons pe_str (pa_cons pe_str (pa_cons pe_str pa_nil)))) (by rfl)) (pss_one (ps_ret (pe_slice sl_tupA (pv 0) po_none (po_some pe_int)))) pss_nil)
      (pss_cons (ps_if (pt_cmpR op_in_seq (pe_ix ix_seq (pv 0) pe_int (fun _ _ => rfl)) (pe_lst (pa_cons pe_str (pa_cons pe_str (pa_cons pe_str (pa_cons pe_str pa_nil))))) (by rfl)) (pss_one (ps_ret pe_non)) pss_nil)
      (pss_one (ps_ret (pe_slice sl_tupA (pv 0) po_none (po_some pe_int)))))), ?_⟩
  clear hx
  walk_at "cr.k"
  refine s_iteD (fun h => ?_) (fun h => ?_)
  · walk_at "cr.go"
    exact q _ _ (by walk_at "cr.sm") (by unfold slotD slotN; rw [if_pos h]; assumption)
  · walk_at "cr.go"
    refine s_iteD (fun h2 => ?_) (fun h2 => ?_)
    · walk_at "cr.go"
      exact q _ _ (by walk_at "cr.sm") (by unfold slotD slotN; rw [if_neg h, if_pos h2]; exact .non)
    · walk_at "cr.go"
      exact q _ _ (by walk_at "cr.sm") (by unfold slotD slotN; rw [if_neg h, if_neg h2]; assumption)
local macro_rules | `(tactic| walk_at "cr.call") => `(tactic| ((with_reducible refine' Cr.u__law_slot ?e ?a ?_); (case e => with_unfolding_all rfl); (case a => walk_at "cr.dt"); intro v H' hs hd))

/-! ### _law_name -/
def sp__law_name (K : PySem.W.Frag) : Sp := fun vs H Q _ => ∃ (b l : Addr), vs = [.ref b] ∧ Bag H b l ∧ ∀ x H', But b H H' → Bag H' b l → Nm x → Q (.str x) H'
theorem u__law_name {H : Hp} {Q : VK} {E : XK} {vs : List V} {b l : Addr} (e : vs = [.ref b]) (h : Bag H b l) (q : ∀ x H', But b H H' → Bag H' b l → Nm x → Q (.str x) H') : sp__law_name K vs H Q E := ⟨b, l, e, h, q⟩
theorem a2_signs {α : Type} : ∀ {zs : List α} {ys : List V}, A2 (fun _ y => ∃ c, y = V.str (sign c) ∧ 97 ≤ c ∧ c ≤ 122) zs ys → ∃ cs : List Nat, cs.length = zs.length ∧ ys = (cs.map sign).map V.str ∧ ∀ c, c ∈ cs → 97 ≤ c ∧ c ≤ 122
  | _, _, .nil => ⟨[], rfl, rfl, fun _ h => nomatch h⟩
  | _, _, .cons h t => by
    obtain ⟨c, rfl, h2⟩ := h
    obtain ⟨cs, e, d, k⟩ := a2_signs t
    exact ⟨c :: cs, congrArg Nat.succ e, by rw [d]; rfl, fun x hx => by
      rcases List.mem_cons.mp hx with e | e
      · rw [e]; exact h2
      · exact k x e⟩
theorem join_room (cs : List Nat) (h : cs.length ≤ 12) : ((cs.map sign).map (·.length)).sum + (cs.map sign).length * (("" : String) : Str).length ≤ 16777216 := by
  have h1 := small_sum (cs.map sign) fun y hy => by
    obtain ⟨c, _, rfl⟩ := List.mem_map.mp hy
    exact (show 1 ≤ 1000 by decide)
  rw [show (("" : String) : Str).length = 0 by decide +kernel, Nat.mul_zero]
  rw [List.length_map] at h1
  omega
theorem ok__law_name (T : Top w K mg) : FnOk P w K mg base CX0 2 T.f__law_name T.fd__law_name ["_law_bag_here"] (sp__law_name K) := by
  have G__law_pull := ok__law_pull (P := P) (w := w) (base := base) T
  refine T.F__law_name.ok sc__law_name (fun vs H Q E h => by obtain ⟨b, l, rfl, _⟩ := h; rfl) (fun cdv A outer s H vs Q E hr h => ?_)
  obtain ⟨b, l, rfl, hB, q⟩ := h
  refine ⟨_, (pss_cons (ps_set (i := 1) sc__law_name.nd rfl (Or.inl rfl) (pe_ix ix_seq (pe_lst (pa_cons pe_int (pa_cons pe_int (pa_cons pe_int (pa_cons (pe_op op_addU pe_int (pe_call (G__law_pull) (hr.mono (by decide)) (by rfl) T.g__law_pull T.k__law_pull T.b__law_pull .nil pass0 (pa_cons (pv 0) (pa_cons pe_int pa_nil)))) pa_nil))))) (pe_call (G__law_pull) (hr.mono (by decide)) (by rfl) T.g__law_pull T.k__law_pull T.b__law_pull .nil pass0 (pa_cons (pv 0) (pa_cons pe_int pa_nil))) (fun _ _ => rfl)))
      (pss_one (ps_ret (pe_joinU pe_str (pe_lc (own := [("_law_k", 2)]) (g := gName 2) (tt := tYes) rfl sc__law_name.nd (pi_range1 rfl T.n_range (pa_cons (pv 1) pa_nil)) (blkOk_by (N := ["_law_bag_here", "_law_size", "_law_k"]) (sc := defScope s__law_name) (by decide +kernel)) (fun _ _ _ _ _ => pg_name (i := 2) sc__law_name.nd rfl (Or.inl rfl)) (fun _ _ _ _ _ => pts_nil) (fun _ _ _ _ _ => (pe_ix (show IxR _ (rIx K) from ix_seq) pe_str (pe_call (G__law_pull) (hr.mono (by decide)) (by rfl) T.g__law_pull T.k__law_pull T.b__law_pull .nil pass0 (pa_cons (pv 0) (pa_cons pe_int pa_nil))) (fun _ _ => rfl)))))))), ?_⟩
  walk_at "cr.k"
  refine s_menuI 1 12 (by walk_at "cr.lst") (by assumption) (by walk_at "cr.len") (by walk_at "cr.items") fun t1 t11 t12 => ?_
  walk_at "cr.go"
  rename_i k1 H1 hk10 hk11 hb1 hB1 p1 hp1 k2 H2 hk20 hk21 hb2 hB2
  have hb : But b H H2 := by walk_at "cr.but"
  clear hb1 hb2 hB1 hp1
  refine c_range (stp_but hB2) (fun A i y => ∃ c, y = V.str (sign c) ∧ 97 ≤ c ∧ c ≤ 122) (fun _ _ _ _ k h => h) (by omega) ?_ ?_
  · intro i A N hi hS hN
    obtain ⟨hbA, hBA⟩ := hS
    clear hbA hB2 hb
    walk_at "cr.n"
    walk_at "cr.go"
    refine ⟨rfl, ?_⟩
    walk_at "cr.go"
    exact hN _ _ ⟨by walk_at "cr.but", by walk_at "cr.bag"⟩ ⟨_, rfl, by assumption, by assumption⟩
  · intro p ys A hS hp hy h2
    obtain ⟨hbA, hBA⟩ := hS
    obtain ⟨cs, el, rfl, hc⟩ := a2_signs h2
    rw [List.length_range] at el
    have hroom := join_room cs (by omega)
    walk_at "cr.go"
    rw [join_signs]
    exact q _ _ (by walk_at "cr.but") hBA ⟨by simp; omega, by simp; omega, fun c h => hc c (by simpa using h)⟩
local macro_rules | `(tactic| walk_at "cr.call") => `(tactic| ((with_reducible refine' Cr.u__law_name ?e ?a ?_); (case e => with_unfolding_all rfl); (case a => walk_at "cr.bag"); intro x H' hb hB hn))

/-! ### _law_names -/
def sp__law_names (K : PySem.W.Frag) : Sp := fun vs H Q _ => ∃ (b l : Addr) (m : Int), vs = [.ref b, .int m] ∧ Bag H b l ∧ 0 ≤ m ∧ m ≤ 8 ∧ ∀ p (ys : List Str) H', But b H H' → Bag H' b l → H p = none → H' p = some (.lst (ys.map V.str)) → ys.length = m.toNat → ys.Nodup → (∀ y, y ∈ ys → Nm y) → Q (.ref p) H'
theorem u__law_names {H : Hp} {Q : VK} {E : XK} {vs : List V} {b l : Addr} {m : Int} (e : vs = [.ref b, .int m]) (h : Bag H b l) (m0 : 0 ≤ m) (m1 : m ≤ 8) (q : ∀ p (ys : List Str) H', But b H H' → Bag H' b l → H p = none → H' p = some (.lst (ys.map V.str)) → ys.length = m.toNat → ys.Nodup → (∀ y, y ∈ ys → Nm y) → Q (.ref p) H') : sp__law_names K vs H Q E := ⟨b, l, m, e, h, m0, m1, q⟩
/-- behind i signs: the name is new, or for each of the signs a name that begins so stands -/
def Seen (ys : List Str) (i : Nat) (x : Str) : Prop := x ∉ ys ∨ ∀ j, j < i → ∃ z, z ∈ ys ∧ z.cps[0]? = some (97 + j)
theorem Seen.new {ys : List Str} {x : Str} (h : Seen ys 8 x) (l : ys.length ≤ 7) : x ∉ ys := by
  rcases h with h | h
  · exact h
  · exfalso
    have s : ((List.range 8).map fun j => some (97 + j)) ⊆ ys.map fun z => z.cps[0]? := fun o ho => by
      obtain ⟨j, hj, rfl⟩ := List.mem_map.mp ho
      obtain ⟨z, hz, e⟩ := h j (List.mem_range.mp hj)
      exact List.mem_map.mpr ⟨z, hz, e⟩
    have := List.Nodup.length_le_of_subset (by decide) s
    rw [List.length_map, List.length_map, List.length_range] at this
    omega
theorem Seen.keep {ys : List Str} {i : Nat} {x : Str} (h : x ∉ ys) : Seen ys (i + 1) x := .inl h
theorem abch_at {i c : Nat} (e : (("abcdefgh" : String) : Str).cps[i]? = some c) : i < 8 ∧ c = 97 + i := by
  rw [abch_cps] at e
  match i, e with
  | 0, e => cases e; exact ⟨by decide, rfl⟩
  | 1, e => cases e; exact ⟨by decide, rfl⟩
  | 2, e => cases e; exact ⟨by decide, rfl⟩
  | 3, e => cases e; exact ⟨by decide, rfl⟩
  | 4, e => cases e; exact ⟨by decide, rfl⟩
  | 5, e => cases e; exact ⟨by decide, rfl⟩
  | 6, e => cases e; exact ⟨by decide, rfl⟩
  | 7, e => cases e; exact ⟨by decide, rfl⟩
theorem Nm.push {x : Str} {c : Nat} (h : Nm x) (h0 : 97 ≤ c) (h1 : c ≤ 122) : Nm (takeS (x ++ sign c) 12) := by
  obtain ⟨a, b, d⟩ := h
  have e : (takeS (x ++ sign c) 12).cps.toList = (x.cps.toList ++ [c]).take 12 := by simp [takeS, str_app, sign]
  refine ⟨?_, ?_, fun k hk => ?_⟩
  · rw [← Array.length_toList, e, List.length_take, List.length_append, Array.length_toList]; simp; omega
  · rw [← Array.length_toList, e, List.length_take]; omega
  · rw [e] at hk
    rcases List.mem_append.mp (List.mem_of_mem_take hk) with z | z
    · exact d k z
    · rw [List.mem_singleton] at z; omega
theorem Nm.head {x : Str} {c : Nat} (h : Nm x) (h0 : 97 ≤ c) (h1 : c ≤ 122) : Nm (sign c ++ dropS x 1) ∧ (sign c ++ dropS x 1).cps[0]? = some c := by
  obtain ⟨a, b, d⟩ := h
  have e : (sign c ++ dropS x 1).cps.toList = c :: x.cps.toList.drop 1 := by simp [dropS, str_app, sign]
  refine ⟨⟨?_, ?_, fun k hk => ?_⟩, ?_⟩
  · rw [← Array.length_toList, e, List.length_cons]; omega
  · rw [← Array.length_toList, e, List.length_cons, List.length_drop, Array.length_toList]; omega
  · rw [e] at hk
    rcases List.mem_cons.mp hk with z | z
    · omega
    · exact d k (List.mem_of_mem_drop z)
  · rw [← Array.getElem?_toList, e]; rfl
theorem Nm.len {x : Str} (h : Nm x) : x.length ≤ sizeLine := L2.small1000 (show x.cps.size ≤ 1000 by have := h.2.1; omega) |> Nat.le_of_lt
theorem Nm.len2 {x : Str} {c : Nat} (h : Nm x) : x.length + (sign c).length ≤ sizeLine := Nat.le_of_lt (L2.small1000 (show x.cps.size + 1 ≤ 1000 by have := h.2.1; omega))
theorem Nm.len3 {x : Str} {c : Nat} (h : Nm x) : (sign c).length + (dropS x 1).length ≤ sizeLine := Nat.le_of_lt (L2.small1000 (by
  have e : (dropS x 1).length = x.cps.size - 1 := by show (x.cps.toList.drop 1).toArray.size = _; simp
  rw [e]
  have := h.2.1
  show 1 + _ ≤ 1000
  omega))
theorem Nm.len4 {x : Str} {c : Nat} (h : Nm x) : (x ++ sign c).length ≤ sizeLine := by
  rw [strLen_append]; exact h.len2
theorem ok__law_names (T : Top w K mg) : FnOk P w K mg base CX0 3 T.f__law_names T.fd__law_names ["_law_bag_here", "_law_many"] (sp__law_names K) := by
  have G__law_name := ok__law_name (P := P) (w := w) (base := base) T
  refine T.F__law_names.ok sc__law_names (fun vs H Q E h => by obtain ⟨b, l, m, rfl, _⟩ := h; rfl) (fun cdv A outer s H vs Q E hr h => ?_)
  obtain ⟨b, l, m, rfl, hB, m0, m1, q⟩ := h
  refine ⟨_, (pss_cons (ps_set (i := 2) sc__law_names.nd rfl (Or.inl rfl) (pe_lst pa_nil))
      (pss_cons (ps_for PassesOwn.never rfl (pi_range1 rfl T.n_range (pa_cons (pv 1) pa_nil)) (pg_name (i := 3) sc__law_names.nd rfl (Or.inl rfl)) (pss_cons (ps_set (i := 4) sc__law_names.nd rfl (Or.inl rfl) (pe_call (G__law_name) (hr.mono (by decide)) (by rfl) T.g__law_name T.k__law_name T.b__law_name .nil pass0 (pa_cons (pv 0) pa_nil)))
      (pss_cons (ps_for PassesOwn.never rfl (pi_str pe_str) (pg_name (i := 5) sc__law_names.nd rfl (Or.inl rfl)) (pss_cons (ps_if (pt_cmpR op_in_seq (pv 4) (pv 2) (by rfl)) (pss_one (ps_set (i := 4) sc__law_names.nd rfl (Or.inl rfl) (pe_slice sl_str (pe_op op_addU (pv 4) (pv 5)) po_none (po_some pe_int)))) pss_nil)
      (pss_one (ps_if (pt_cmpR op_in_seq (pv 4) (pv 2) (by rfl)) (pss_one (ps_set (i := 4) sc__law_names.nd rfl (Or.inl rfl) (pe_op op_addU (pv 5) (pe_slice sl_str (pv 4) (po_some pe_int) po_none)))) pss_nil))))
      (pss_one (ps_expr (pe_bm PySem.F.plainAttrs_list PySem.F.slot_list_append PySem.F.type_list_append mt_append (pv 2) (pa_cons (pv 4) pa_nil)))))))
      (pss_one (ps_ret (pv 2))))), ?_⟩
  walk_at "cr.k"
  rename_i p hp
  have npb : p ≠ b := by walk_at "cr.ne"
  have npl : p ≠ l := by walk_at "cr.ne"
  refine f_range (fun n σ' H' => ∃ (ys : List Str) (y3 y4 y5 : Option V), σ' = [some (.ref b), some (.int m), some (.ref p), y3, y4, y5] ∧ But b H H' ∧ Bag H' b l ∧ H' p = some (.lst (ys.map V.str)) ∧ ys.length = n ∧ ys.Nodup ∧ (∀ y, y ∈ ys → Nm y))
    ⟨[], none, none, none, rfl, by walk_at "cr.but", by walk_at "cr.bag", upd_same, rfl, List.nodup_nil, fun _ h => nomatch h⟩ ?_ ?_
  · rintro n σ' H' hn ⟨ys, y3, y4, y5, rfl, hb, hB', hp', hl, hnd, hnm⟩
    clear hB
    walk_at "cr.go"
    rename_i x0 H2 hb2 hB2 hn0
    have hp2 : H2 p = some (.lst (ys.map V.str)) := by walk_at "cr.at"
    have hb : But b H H2 := by walk_at "cr.but"
    clear hb2 hB' hp'
    refine f_str (fun i σ' H' => ∃ (x : Str) (y5 : Option V), σ' = [some (.ref b), some (.int m), some (.ref p), some (.int (0 + (n : Int))), some (.str x), y5] ∧ H' = H2 ∧ Nm x ∧ Seen ys i x) ⟨x0, _, rfl, rfl, hn0, .inr (fun j hj => absurd hj (Nat.not_lt_zero _))⟩ ?_ ?_
    · rintro i c σ' H' hc ⟨x, y5, rfl, rfl, hx, hse⟩
      obtain ⟨hi8, rfl⟩ := abch_at hc
      have l2 := hx.len2 (c := 97 + i)
      have l4 := hx.len4 (c := 97 + i)
      have hx1 : Nm (takeS (x ++ sign (97 + i)) (Int.toNat 12)) := hx.push (by omega) (by omega)
      have l5 := hx1.len
      have l6 : (sign (97 + i)).length + (dropS (takeS (x ++ sign (97 + i)) (Int.toNat 12)) (Int.toNat 1)).length ≤ sizeLine := hx1.len3
      have hx2 := hx1.head (c := 97 + i) (by omega) (by omega)
      walk_at "cr.go"
      refine s_iteD (fun h => ?_) (fun h => ?_)
      · walk_at "cr.go"
        refine s_iteD (fun h2 => ?_) (fun h2 => ?_)
        · walk_at "cr.go"
          refine ⟨_, _, rfl, rfl, hx2.1, ?_⟩
          by_cases h3 : sign (97 + i) ++ dropS (takeS (x ++ sign (97 + i)) (Int.toNat 12)) (Int.toNat 1) ∈ ys
          · refine .inr fun j hj => ?_
            by_cases hji : j = i
            · rw [hji]; exact ⟨_, h3, hx2.2⟩
            · exact (hse.resolve_left (fun z => z h)) j (by omega)
          · exact .inl h3
        · walk_at "cr.go"
          exact ⟨_, _, rfl, rfl, hx1, .inl h2⟩
      · walk_at "cr.go"
        refine s_iteD (fun h2 => absurd h2 h) (fun _ => ?_)
        walk_at "cr.go"
        exact ⟨_, _, rfl, rfl, hx, .inl h⟩
    · rintro σ' H' ⟨x, y5, rfl, rfl, hx, hse⟩
      rw [abch_cps] at hse
      have hnew : x ∉ ys := Seen.new hse (by omega)
      walk_at "cr.go"
      refine ⟨ys ++ [x], _, _, _, rfl, by walk_at "cr.but", by walk_at "cr.bag", by rw [List.map_append]; exact upd_same, by rw [List.length_append, hl]; rfl, ?_, fun y hy => ?_⟩
      · rw [List.nodup_append]
        exact ⟨hnd, (by simp), fun a ha b hb e => hnew (by rw [List.mem_singleton] at hb; rw [← hb, ← e]; exact ha)⟩
      · rcases List.mem_append.mp hy with h | h
        · exact hnm y h
        · rw [List.mem_singleton] at h; rw [h]; exact hx
  · rintro σ' H' ⟨ys, y3, y4, y5, rfl, hb, hB', hp', hl, hnd, hnm⟩
    walk_at "cr.go"
    exact q p ys _ hb hB' hp hp' hl hnd hnm
local macro_rules | `(tactic| walk_at "cr.call") => `(tactic| ((with_reducible refine' Cr.u__law_names ?e ?a ?b ?c ?_); (case e => with_unfolding_all rfl); (case a => walk_at "cr.bag"); (case b => omega); (case c => omega); intro p ys H' hb hB np hp hl hn hnm))

/-! ### _law_book -/
/-- what a drawn book is: rows at pr, holders at ph, things at pt, the last day L -/
structure BookAt (K : PySem.W.Frag) (b l : Addr) (many : Int) (H' : Hp) (pr ph pt : Addr) (L : Int) (vs : List V) (es : List E3) (ys zs : List Str) : Prop where
  bag : Bag H' b l
  rb : pr ≠ b
  rl : pr ≠ l
  hb : ph ≠ b
  hl : ph ≠ l
  tb : pt ≠ b
  tl : pt ≠ l
  rh : pr ≠ ph
  rt : pr ≠ pt
  ht : ph ≠ pt
  r : H' pr = some (.lst vs)
  h : H' ph = some (.lst (ys.map V.str))
  t : H' pt = some (.lst (zs.map V.str))
  e : EntsAt K H' vs es
  i : ∀ x, x ∈ es → EntIn (· ∈ ys) (· ∈ zs) L x
  s : SlotsOk es
  n : (es.length : Int) ≤ 4 + many
  y0 : 2 ≤ ys.length
  y1 : ys.length ≤ 4
  z0 : 1 ≤ zs.length
  z1 : zs.length ≤ 3
  yn : ys.Nodup
  zn : zs.Nodup
  ym : ∀ y, y ∈ ys → Nm y
  zm : ∀ y, y ∈ zs → Nm y
  L0 : 0 ≤ L
  L1 : L ≤ 400
def sp__law_book (K : PySem.W.Frag) : Sp := fun vs H Q _ => ∃ (b l : Addr) (m : Int), vs = [.ref b, .int m] ∧ Bag H b l ∧ 0 ≤ m ∧ m ≤ 64 ∧
  ∀ p pr ph pt L vs es ys zs H', But b H H' → BookAt K b l m H' pr ph pt L vs es ys zs → H' p = some (.tup [.ref pr, .ref ph, .ref pt, .int L]) → Q (.ref p) H'
theorem u__law_book {H : Hp} {Q : VK} {E : XK} {vs : List V} {b l : Addr} {m : Int} (e : vs = [.ref b, .int m]) (hB : Bag H b l) (m0 : 0 ≤ m) (m1 : m ≤ 64)
    (q : ∀ p pr ph pt L vs es ys zs H', But b H H' → BookAt K b l m H' pr ph pt L vs es ys zs → H' p = some (.tup [.ref pr, .ref ph, .ref pt, .int L]) → Q (.ref p) H') : sp__law_book K vs H Q E := ⟨b, l, m, e, hB, m0, m1, q⟩
theorem ents_snoc {K : PySem.W.Frag} {H : Hp} {p : Addr} {vs : List V} {es : List E3} {v : V} {e : E3} (hr : H p = some (.lst vs)) (he : EntsAt K H vs es) (hd : Dt K H v (dE e)) : EntsAt K (upd H p (.lst (vs ++ [v]))) (vs ++ [v]) (es ++ [e]) :=
  A2.snoc (R := fun u e => Dt K (upd H p (.lst (vs ++ [v]))) u (dE e)) (Dt.mono (kt_mut hr rfl) hd) (EntsAt.mono (kt_mut hr rfl) he)
theorem in_snoc {P : E3 → Prop} {es : List E3} {e : E3} (h : ∀ x, x ∈ es → P x) (he : P e) : ∀ x, x ∈ es ++ [e] → P x := fun x hx => by
  rcases List.mem_append.mp hx with hx | hx
  · exact h x hx
  · rw [List.mem_singleton.mp hx]; exact he
theorem ok__law_book (T : Top w K mg) : FnOk P w K mg base CX0 6 T.f__law_book T.fd__law_book ["_law_bag_here", "_law_many"] (sp__law_book K) := by
  have G__law_pull := ok__law_pull (P := P) (w := w) (base := base) T
  have G__law_pennies := ok__law_pennies (P := P) (w := w) (base := base) T
  have G__law_entry := ok__law_entry (P := P) (w := w) (base := base) T
  have G__law_slot := ok__law_slot (P := P) (w := w) (base := base) T
  have G__law_names := ok__law_names (P := P) (w := w) (base := base) T
  refine T.F__law_book.ok sc__law_book (fun vs H Q E h => by obtain ⟨b, l, m, rfl, _⟩ := h; rfl) (fun cdv A outer s H vs Q E hr h => ?_)
  obtain ⟨b, l, m, rfl, hB, m0, m1, q⟩ := h
  refine ⟨_, (pss_cons (ps_set (i := 2) sc__law_book.nd rfl (Or.inl rfl) (pe_call (G__law_names) (hr.mono (by decide)) (by rfl) T.g__law_names T.k__law_names T.b__law_names .nil pass0 (pa_cons (pv 0) (pa_cons (pe_op op_addU pe_int (pe_call (G__law_pull) (hr.mono (by decide)) (by rfl) T.g__law_pull T.k__law_pull T.b__law_pull .nil pass0 (pa_cons (pv 0) (pa_cons pe_int pa_nil)))) pa_nil))))
      (pss_cons (ps_set (i := 3) sc__law_book.nd rfl (Or.inl rfl) (pe_call (G__law_names) (hr.mono (by decide)) (by rfl) T.g__law_names T.k__law_names T.b__law_names .nil pass0 (pa_cons (pv 0) (pa_cons (pe_op op_addU pe_int (pe_call (G__law_pull) (hr.mono (by decide)) (by rfl) T.g__law_pull T.k__law_pull T.b__law_pull .nil pass0 (pa_cons (pv 0) (pa_cons pe_int pa_nil)))) pa_nil))))
      (pss_cons (ps_set (i := 4) sc__law_book.nd rfl (Or.inl rfl) (pe_op op_addU pe_int (pe_call (G__law_pull) (hr.mono (by decide)) (by rfl) T.g__law_pull T.k__law_pull T.b__law_pull .nil pass0 (pa_cons (pv 0) (pa_cons pe_int pa_nil)))))
      (pss_cons (ps_set (i := 5) sc__law_book.nd rfl (Or.inl rfl) (pe_ix ix_seq (pe_lst (pa_cons pe_int (pa_cons pe_int (pa_cons (pe_op op_subU pe_int (pv 4)) (pa_cons (pe_call (G__law_pull) (hr.mono (by decide)) (by rfl) T.g__law_pull T.k__law_pull T.b__law_pull .nil pass0 (pa_cons (pv 0) (pa_cons pe_int pa_nil))) pa_nil))))) (pe_call (G__law_pull) (hr.mono (by decide)) (by rfl) T.g__law_pull T.k__law_pull T.b__law_pull .nil pass0 (pa_cons (pv 0) (pa_cons pe_int pa_nil))) (fun _ _ => rfl)))
      (pss_cons (ps_set (i := 6) sc__law_book.nd rfl (Or.inl rfl) (pe_lst pa_nil))
      (pss_cons (ps_if (pt_cmpR op_gtI (pe_call (G__law_pull) (hr.mono (by decide)) (by rfl) T.g__law_pull T.k__law_pull T.b__law_pull .nil pass0 (pa_cons (pv 0) (pa_cons pe_int pa_nil))) pe_int (nomark _)) (pss_cons (ps_expr (pe_bm PySem.F.plainAttrs_list PySem.F.slot_list_append PySem.F.type_list_append mt_append (pv 6) (pa_cons (pe_tup (pa_cons pe_str (pa_cons pe_int (pa_cons (pe_callTy call_tupU (by rfl) T.n_tuple (by decide +kernel) (pa_cons (pe_lc (own := [("_law_thing", 11)]) (g := gName 11) (tt := tYes) rfl sc__law_book.nd (pi_list (pv 3)) (blkOk_by (N := ["_law_bag_here", "_law_many", "_law_holders", "_law_things", "_law_last", "_law_shift", "_law_rows", "_law_k", "_law_found", "_law_slots", "_law_row", "_law_thing"]) (sc := defScope s__law_book) (by decide +kernel)) (fun _ _ _ _ _ => pg_name (i := 11) sc__law_book.nd rfl (Or.inl rfl)) (fun _ _ _ _ _ => pts_nil) (fun _ _ _ _ _ => (pe_tup (pa_cons (pv 11) (pa_cons (pe_op (show OpR _ _ (rAddU K) from op_addU) pe_int (pe_call (G__law_pull) (hr.mono (by decide)) (by rfl) T.g__law_pull T.k__law_pull T.b__law_pull .nil pass0 (pa_cons (pv 0) (pa_cons pe_int pa_nil)))) pa_nil))))) pa_nil)) pa_nil)))) pa_nil)))
      (pss_cons (ps_expr (pe_bm PySem.F.plainAttrs_list PySem.F.slot_list_append PySem.F.type_list_append mt_append (pv 6) (pa_cons (pe_tup (pa_cons pe_str (pa_cons pe_int (pa_cons (pe_ix ix_seq (pe_lst (pa_cons pe_int (pa_cons pe_int (pa_cons pe_int (pa_cons (pe_call (G__law_pull) (hr.mono (by decide)) (by rfl) T.g__law_pull T.k__law_pull T.b__law_pull .nil pass0 (pa_cons (pv 0) (pa_cons pe_int pa_nil))) pa_nil))))) (pe_call (G__law_pull) (hr.mono (by decide)) (by rfl) T.g__law_pull T.k__law_pull T.b__law_pull .nil pass0 (pa_cons (pv 0) (pa_cons pe_int pa_nil))) (fun _ _ => rfl)) pa_nil)))) pa_nil)))
      (pss_cons (ps_expr (pe_bm PySem.F.plainAttrs_list PySem.F.slot_list_append PySem.F.type_list_append mt_append (pv 6) (pa_cons (pe_tup (pa_cons pe_str (pa_cons (pe_call (G__law_pull) (hr.mono (by decide)) (by rfl) T.g__law_pull T.k__law_pull T.b__law_pull .nil pass0 (pa_cons (pv 0) (pa_cons pe_int pa_nil))) (pa_cons (pe_ix ix_seq (pv 2) pe_int (fun _ _ => rfl)) (pa_cons (pe_call (G__law_pennies) (hr.mono (by decide)) (by rfl) T.g__law_pennies T.k__law_pennies T.b__law_pennies .nil pass0 (pa_cons (pv 0) pa_nil)) pa_nil))))) pa_nil)))
      (pss_one (ps_expr (pe_bm PySem.F.plainAttrs_list PySem.F.slot_list_append PySem.F.type_list_append mt_append (pv 6) (pa_cons (pe_tup (pa_cons pe_str (pa_cons (pe_call (G__law_pull) (hr.mono (by decide)) (by rfl) T.g__law_pull T.k__law_pull T.b__law_pull .nil pass0 (pa_cons (pv 0) (pa_cons (pe_op op_addU (pv 4) pe_int) pa_nil))) (pa_cons (pe_ix ix_seq (pv 2) pe_int (fun _ _ => rfl)) (pa_cons (pe_call (G__law_pennies) (hr.mono (by decide)) (by rfl) T.g__law_pennies T.k__law_pennies T.b__law_pennies .nil pass0 (pa_cons (pv 0) pa_nil)) pa_nil))))) pa_nil))))))) pss_nil)
      (pss_cons (ps_for PassesOwn.never rfl (pi_range1 rfl T.n_range (pa_cons (pv 1) pa_nil)) (pg_name (i := 7) sc__law_book.nd rfl (Or.inl rfl)) (pss_one (ps_expr (pe_bm PySem.F.plainAttrs_list PySem.F.slot_list_append PySem.F.type_list_append mt_append (pv 6) (pa_cons (pe_call (G__law_entry) (hr.mono (by decide)) (by rfl) T.g__law_entry T.k__law_entry T.b__law_entry .nil pass0 (pa_cons (pv 0) (pa_cons (pv 2) (pa_cons (pv 3) (pa_cons (pv 4) pa_nil))))) pa_nil)))))
      (pss_cons (ps_set (i := 8) sc__law_book.nd rfl (Or.inl rfl) (pe_lst pa_nil))
      (pss_cons (ps_set (i := 9) sc__law_book.nd rfl (Or.inl rfl) (pe_lst pa_nil))
      (pss_cons (ps_for PassesOwn.never rfl (pi_list (pv 6)) (pg_name (i := 10) sc__law_book.nd rfl (Or.inl rfl)) (pss_cons (ps_set (i := 10) sc__law_book.nd rfl (Or.inl rfl) (pe_op op_addU (pe_tup (pa_cons (pe_ix ix_seq (pv 10) pe_int (fun _ _ => rfl)) (pa_cons (pe_op op_addU (pe_ix ix_seq (pv 10) pe_int (fun _ _ => rfl)) (pv 5)) pa_nil))) (pe_slice sl_seqU (pv 10) (po_some pe_int) po_none)))
      (pss_one (ps_if (PW.pt (pw_or (pt_cmpR op_isU (pe_call (G__law_slot) (hr.mono (by decide)) (by rfl) T.g__law_slot T.k__law_slot T.b__law_slot .nil pass0 (pa_cons (pv 10) pa_nil)) pe_non (nomark _)) (pw_or1 (pt_cmpR (op_notInD (units65 hr)) (pe_call (G__law_slot) (hr.mono (by decide)) (by rfl) T.g__law_slot T.k__law_slot T.b__law_slot .nil pass0 (pa_cons (pv 10) pa_nil)) (pv 9) (by rfl))))) (pss_cons (ps_expr (pe_bm PySem.F.plainAttrs_list PySem.F.slot_list_append PySem.F.type_list_append mt_append (pv 8) (pa_cons (pv 10) pa_nil)))
      (pss_one (ps_expr (pe_bm PySem.F.plainAttrs_list PySem.F.slot_list_append PySem.F.type_list_append mt_append (pv 9) (pa_cons (pe_call (G__law_slot) (hr.mono (by decide)) (by rfl) T.g__law_slot T.k__law_slot T.b__law_slot .nil pass0 (pa_cons (pv 10) pa_nil)) pa_nil))))) pss_nil))))
      (pss_one (ps_ret (pe_tup (pa_cons (pv 8) (pa_cons (pv 2) (pa_cons (pv 3) (pa_cons (pe_op op_addU (pv 4) (pv 5)) pa_nil))))))))))))))))), ?_⟩
  walk_at "cr.k"
  rename_i kh H1 kh0 kh1 hb1 hB1 ph ys H2 hb2 hB2 np2 hp2 hl2 hn2 hm2 kt H3 kt0 kt1 hb3 hB3 pt zs H4 hb4 hB4 np4 hp4 hl4 hn4 hm4 kl H5 kl0 kl1 hb5 hB5 ks H6 ks0 ks1 hb6 hB6 p7 hp7 km H7 km0 km1 hb7 hB7
  refine s_menuI 0 (400 - (2 + kl)) (by walk_at "cr.lst") (by assumption) (by walk_at "cr.len") (by walk_at "cr.items") fun sh sh0 sh1 => ?_
  have nhb : ph ≠ b := (Bag.ne1' np2 hB1)
  have nhl : ph ≠ l := (Bag.ne2' np2 hB1)
  have ntb : pt ≠ b := (Bag.ne1' np4 hB3)
  have ntl : pt ≠ l := (Bag.ne2' np4 hB3)
  have nht : ph ≠ pt := ne_on np4 (hb3.oth _ _ nhb hp2)
  have hph : H7 ph = some (.lst (ys.map V.str)) := hb7.oth _ _ nhb ((same_new hp7) _ _ (hb6.oth _ _ nhb (hb5.oth _ _ nhb (hb4.oth _ _ nhb (hb3.oth _ _ nhb hp2)))))
  have hpt : H7 pt = some (.lst (zs.map V.str)) := hb7.oth _ _ ntb ((same_new hp7) _ _ (hb6.oth _ _ ntb (hb5.oth _ _ ntb hp4)))
  have hb : But b H H7 := by walk_at "cr.but"
  clear hb1 hb2 hb3 hb4 hb5 hb6 hb7 hB1 hB2 hB3 hB4 hB5 hB6 np2 np4 hp2 hp4 hp7 km0 km1 ks0 ks1
  walk_at "cr.go"
  rename_i pr hpr k6 H8 k60 k61 hb8 hB8
  have nrb : pr ≠ b := Bag.ne1' hpr hB7
  have nrl : pr ≠ l := Bag.ne2' hpr hB7
  have nrh : ph ≠ pr := ne_on hpr hph
  have nrt : pt ≠ pr := ne_on hpr hpt
  have hr8 : H8 pr = some (.lst []) := hb8.oth _ _ nrb upd_same
  have hb7 : But b H7 H8 := by walk_at "cr.but"
  refine s_cutI [] (fun _ H' => But b H7 H' ∧ Bag H' b l ∧ ∃ vs es, H' pr = some (.lst vs) ∧ EntsAt K H' vs es ∧ (∀ x, x ∈ es → EntIn (· ∈ ys) (· ∈ zs) (2 + kl) x) ∧ es.length ≤ 4) ?_ ?_
  · intro N' hN'
    refine s_iteD (fun hm => ?_) (fun hm => ?_)
    · have hpt8 : H8 pt = some (.lst (zs.map V.str)) := hb7.oth _ _ ntb hpt
      have hph8 : H8 ph = some (.lst (ys.map V.str)) := hb7.oth _ _ nhb hph
      have y0 : 2 ≤ ys.length := by omega
      clear hb8 hB7
      walk_at "cr.go"
      refine c_list (stp_but hB8) (fun _ v y => v = V.str y) (fun H y v => ∃ c, Dt K H v (.tuple [.str y, .int c]) ∧ 1 ≤ c ∧ c ≤ 1000000) (fun _ _ _ _ _ h => h) (fun _ _ _ _ k h => by obtain ⟨c, h1, h2⟩ := h; exact ⟨c, h1.mono k.kt, h2⟩) (fun A s => .of (s.1.oth _ _ ntb hpt8)) (a2_strs zs) (by rw [List.length_map]; omega) ?_ ?_
      · rintro _ y A N hy rfl hS hT
        obtain ⟨hbA, hBA⟩ := hS
        clear hbA
        walk_at "cr.n"
        walk_at "cr.go"
        refine ⟨rfl, ?_⟩
        walk_at "cr.go"
        exact hT _ _ ⟨by walk_at "cr.but", by walk_at "cr.bag"⟩ ⟨_, by walk_at "cr.dt", by omega, by omega⟩
      · intro p vs A hS hp hA h2
        obtain ⟨hbA, hBA⟩ := hS
        obtain ⟨ps, e, hd, hk⟩ := a2_ps h2
        have hr9 : A pr = some (.lst []) := hbA.oth _ _ nrb hr8
        have hph9 : A ph = some (.lst (ys.map V.str)) := hbA.oth _ _ nhb hph8
        have hbA' : But b H7 A := hb7.trans hbA
        have ntp : pt ≠ p := ne_on hp hpt8
        have hps : PsOf (· ∈ zs) ps := by
          have hpl : ps.length = zs.length := by rw [← e, List.length_map]
          exact ⟨by omega, by omega, by rw [e]; assumption, fun p hp => ⟨by rw [← e]; exact List.mem_map_of_mem hp, hk p hp⟩⟩
        clear hB8 hb7 hbA hr8 hpt8 hph8
        walk_at "cr.go"
        rename_i v1 B1 sB1 hd1 p1 hp1 kx B2 kx0 kx1 hb2 hB2 p2 hp2 ky B3 ky0 ky1 hb3 hB3
        have hrB : upd B1 p1 (.tup [.str "mix", .int 0, v1]) pr = some (.lst []) := (same_new hp1) _ _ (sB1 _ _ hr9)
        have hdB : Dt K (upd B1 p1 (.tup [.str "mix", .int 0, v1])) (.ref p1) (dE ("mix", 0, [pairsD ps])) := dt_new (ds := [.str "mix", .int 0, pairsD ps]) (.cons (.str _) (.cons (.int _) (.cons hd1 .nil))) hp1
        have he1 := ents_snoc hrB (vs := []) (es := []) .nil hdB
        have hr2 : B2 pr = some (.lst ([] ++ [.ref p1])) := hb2.oth _ _ nrb upd_same
        have hr3 : B3 pr = some (.lst ([] ++ [.ref p1])) := hb3.oth _ _ nrb ((same_new hp2) _ _ hr2)
        have hph3 : B3 ph = some (.lst (ys.map V.str)) := hb3.oth _ _ nhb ((same_new hp2) _ _ (hb2.oth _ _ nhb (by rw [upd_ne nrh]; exact (same_new hp1) _ _ (sB1 _ _ hph9))))
        have he3 : EntsAt K B3 ([] ++ [.ref p1]) ([] ++ [(("mix", 0, [pairsD ps]) : E3)]) := (((he1.mono (kt_but hb2)).mono (kt_new hp2)).mono (kt_but hb3))
        have hb3' : But b H7 B3 := (((but_mut ((hbA'.same sB1).same (same_new hp1)) hpr).trans hb2).same (same_new hp2)).trans hb3
        have hp2' : B3 p2 = some (.lst [.int 2000, .int 0, .int 9999, .int kx]) := hb3.oth _ _ (hB2.ne1 hp2) upd_same
        clear he1 hdB hrB hr2 hb2 hB2 hbA' hr9 hph9 hBA hd hd1 sB1 hp1 hp hA hb3
        refine s_menuI 0 9999 (by walk_at "cr.lst") (by assumption) (by walk_at "cr.len") (by walk_at "cr.items") fun rt rt0 rt1 => ?_
        clear hp2'
        walk_at "cr.go"
        rename_i p3 hp3 kz B4 kz0 kz1 hb4 hB4
        have hd3 : Dt K (upd B3 p3 (.tup [.str "rate", .int 0, .int rt])) (.ref p3) (dE (("rate", 0, [.int rt]) : E3)) := dt_new (ds := [.str "rate", .int 0, .int rt]) (.cons (.str _) (.cons (.int _) (.cons (.int _) .nil))) hp3
        have he3' := ents_snoc ((same_new hp3) _ _ hr3) (he3.mono (kt_new hp3)) hd3
        have he4 : EntsAt K B4 [.ref p1, .ref p3] [(("mix", 0, [pairsD ps]) : E3), ("rate", 0, [.int rt])] := he3'.mono (kt_but hb4)
        have hr4 : B4 pr = some (.lst [.ref p1, .ref p3]) := hb4.oth _ _ nrb upd_same
        have hph4 : B4 ph = some (.lst (ys.map V.str)) := hb4.oth _ _ nhb (by rw [upd_ne nrh]; exact (same_new hp3) _ _ hph3)
        have hb4' : But b H7 B4 := (but_mut (hb3'.same (same_new hp3)) hpr).trans hb4
        clear he3' hd3 he3 hr3 hph3 hb3' hb4 hB3 hp3
        have nl0 : (0 : Int) < 2 + kl + 1 := by omega
        have nl1 : 2 + kl + 1 < 2 ^ 64 := by omega
        refine str_at hph4 (by decide) (by omega) fun j0 hj0 ej0 => ?_
        have hm0 : ys[j0] ∈ ys := List.getElem_mem _
        generalize ys[j0] = y0n at hm0 ⊢
        walk_at "cr.go"
        rename_i c5 B5 c50 c51 hb5 hB5 p5 hp5 k6' B6 k60' k61' hb6 hB6
        have hr5 : B5 pr = some (.lst [.ref p1, .ref p3]) := hb5.oth _ _ nrb hr4
        have hd5 : Dt K (upd B5 p5 (.tup [.str "come", .int kz, .str y0n, .int c5])) (.ref p5) (dE (("come", kz, [.str y0n, .int c5]) : E3)) := dt_new (ds := [.str "come", .int kz, .str y0n, .int c5]) (.cons (.str _) (.cons (.int _) (.cons (.str _) (.cons (.int _) .nil)))) hp5
        have he5 := ents_snoc ((same_new hp5) _ _ hr5) ((he4.mono (kt_but hb5)).mono (kt_new hp5)) hd5
        have he6 : EntsAt K B6 [.ref p1, .ref p3, .ref p5] [(("mix", 0, [pairsD ps]) : E3), ("rate", 0, [.int rt]), ("come", kz, [.str y0n, .int c5])] := he5.mono (kt_but hb6)
        have hr6 : B6 pr = some (.lst [.ref p1, .ref p3, .ref p5]) := hb6.oth _ _ nrb upd_same
        have hph6 : B6 ph = some (.lst (ys.map V.str)) := hb6.oth _ _ nhb (by rw [upd_ne nrh]; exact (same_new hp5) _ _ (hb5.oth _ _ nhb hph4))
        have hb6' : But b H7 B6 := (but_mut ((hb4'.trans hb5).same (same_new hp5)) hpr).trans hb6
        clear he5 hd5 he4 hr4 hr5 hph4 hb4' hb5 hb6 hB4 hB5 hp5
        refine str_at hph6 (by decide) (by omega) fun j1 hj1 ej1 => ?_
        have hm1 : ys[j1] ∈ ys := List.getElem_mem _
        generalize ys[j1] = y1n at hm1 ⊢
        walk_at "cr.go"
        rename_i c7 B7 c70 c71 hb7 hB7 p7 hp7
        have hr7 : B7 pr = some (.lst [.ref p1, .ref p3, .ref p5]) := hb7.oth _ _ nrb hr6
        have hd7 : Dt K (upd B7 p7 (.tup [.str "come", .int k6', .str y1n, .int c7])) (.ref p7) (dE (("come", k6', [.str y1n, .int c7]) : E3)) := dt_new (ds := [.str "come", .int k6', .str y1n, .int c7]) (.cons (.str _) (.cons (.int _) (.cons (.str _) (.cons (.int _) .nil)))) hp7
        have he7 := ents_snoc ((same_new hp7) _ _ hr7) ((he6.mono (kt_but hb7)).mono (kt_new hp7)) hd7
        have hb7' : But b H7 B7 := hb6'.trans hb7
        refine hN' _ _ rfl ⟨but_mut (hb7'.same (same_new hp7)) hpr, (hB7.same (same_new hp7)).upd nrb nrl, _, _, upd_same, he7, fun x hx => ?_, Nat.le_refl 4⟩
        simp only [List.cons_append, List.nil_append, List.mem_cons, List.not_mem_nil, or_false] at hx
        rcases hx with rfl | rfl | rfl | rfl
        · exact EntOf.mix (d := 0) (Int.le_refl 0) (show (0 : Int) ≤ 2 + kl by omega) hps
        · exact EntOf.rate (d := 0) (Int.le_refl 0) (show (0 : Int) ≤ 2 + kl by omega) rt0 rt1
        · exact EntOf.come (d := kz) kz0 (show kz ≤ 2 + kl by omega) hm0 c50 c51
        · exact EntOf.come (d := k6') k60' (show k6' ≤ 2 + kl by omega) hm1 c70 c71
    · walk_at "cr.go"
      exact hN' _ _ rfl ⟨hb7, hB8, [], [], hr8, .nil, (fun _ h => nomatch h), by decide⟩
  · rintro f1 H9 ⟨hb9, hB9, vs, es, hr9, he9, hi9, hn9⟩
    have y0 : 2 ≤ ys.length := by omega
    have y1 : ys.length ≤ 8 := by omega
    have z0 : 1 ≤ zs.length := by omega
    have z1 : zs.length ≤ 8 := by omega
    have hbx : True ∧ But b H H7 := ⟨trivial, hb⟩
    clear hb7 hb8 hB8 hr8 hb hB
    walk_at "cr.n"
    walk_at "cr.go"
    refine r_each [7] (fun n H' => But b H7 H' ∧ Bag H' b l ∧ ∃ vs es, H' pr = some (.lst vs) ∧ EntsAt K H' vs es ∧ (∀ x, x ∈ es → EntIn (· ∈ ys) (· ∈ zs) (2 + kl) x) ∧ es.length ≤ 4 + n) ⟨hb9, hB9, vs, es, hr9, he9, hi9, by omega⟩ rfl ?_ ?_
    · rintro n f H10 hn ⟨hb10, hB10, vs10, es10, hr10, he10, hi10, hn10⟩
      have hph10 := hb10.oth _ _ nhb hph
      have hpt10 := hb10.oth _ _ ntb hpt
      have hv10 : vs10.length = es10.length := A2.len he10
      clear hb9 hB9 hr9 he9 hi9 hph hpt
      walk_at "cr.n"
      walk_at "cr.go"
      rename_i v k d rest H11 hb11 hB11 hd11 hent
      have hr11 : H11 pr = some (.lst vs10) := hb11.oth _ _ nrb hr10
      have e11 : EntsAt K (upd H11 pr (.lst (vs10 ++ [v]))) vs10 es10 := EntsAt.mono (kt_mut hr11 rfl) (EntsAt.mono (kt_but hb11) he10)
      have d11 : Dt K (upd H11 pr (.lst (vs10 ++ [v]))) v (dE (k, d, rest)) := Dt.mono (kt_mut hr11 rfl) hd11
      have he11 : EntsAt K (upd H11 pr (.lst (vs10 ++ [v]))) (vs10 ++ [v]) (es10 ++ [(k, d, rest)]) := A2.snoc (R := fun u e => Dt K (upd H11 pr (.lst (vs10 ++ [v]))) u (dE e)) d11 e11
      refine ⟨i_of rfl, by walk_at "cr.but", by walk_at "cr.bag", _, _, upd_same, he11, fun x hx => ?_, by rw [List.length_append, List.length_singleton]; omega⟩
      rcases List.mem_append.mp hx with hx | hx
      · exact hi10 x hx
      · rw [List.mem_singleton.mp hx]; exact hent
    · rintro f H10 ⟨hb10, hB10, vs10, es10, hr10, he10, hi10, hn10⟩
      clear hb9 hB9 hr9 he9 hi9
      walk_at "cr.n"
      walk_at "cr.go"
      rename_i pf hpf pS hpS
      have fpf := hpf
      have nfb := Bag.ne1' hpf hB10
      have nfl := Bag.ne2' hpf hB10
      have nfr := ne_on hpf hr10
      have fS0 := free_upd hpS
      have nSf := ne_new hpS
      have nSb := Bag.ne1' fS0 hB10
      have nSl := Bag.ne2' fS0 hB10
      have nSr := ne_on fS0 hr10
      have sm : Same H10 (upd (upd H10 pf (.lst [])) pS (.lst [])) := (same_new hpf).trans (same_new hpS)
      have f7 : H7 pf = none := hb10.free nfb hpf
      have g7 : H7 pS = none := hb10.free nSb fS0
      refine f_each (xs := vs10) [10] (fun n H' => But b H7 H' ∧ Bag H' b l ∧ H' pr = some (.lst vs10) ∧ EntsAt K H' vs10 es10 ∧ ∃ fs ss es', H' pf = some (.lst fs) ∧ H' pS = some (.lst ss) ∧ EntsAt K H' fs es' ∧ DtAll K H' ss (es'.map slotE) ∧ (∀ x, x ∈ es' → EntIn (· ∈ ys) (· ∈ zs) (2 + kl + sh) x) ∧ SlotsOk es' ∧ es'.length ≤ n)
        ⟨hb10.same sm, hB10.same sm, sm _ _ hr10, he10.mono (kt_same sm), [], [], [], by rw [upd_ne nSf.symm]; exact upd_same, upd_same, .nil, .nil, (fun _ h => nomatch h), .nil, Nat.le_refl _⟩ rfl (fun _ _ h => .of h.2.2.1) ?_ ?_
      · rintro n x f H11 hx ⟨hb11, hB11, hr11, he11, fs, ss, es', hf11, hS11, hfe11, hse11, hi11, hso11, hn11⟩
        obtain ⟨⟨k, d, rest⟩, ee, hd11⟩ := he11.at hx
        have hent : EntOf (· ∈ ys) (· ∈ zs) (2 + kl) k d rest := hi10 _ (List.mem_of_getElem? ee)
        have hd11 : Dt K H11 x (.tuple (.str k :: .int d :: rest)) := hd11
        clear hb10 hB10 hr10 he10 sm hpf hpS fS0 fpf
        walk_at "cr.n"
        walk_at "cr.go"
        rename_i hvk hvd p1 hp1
        have hdA : Dt K (upd H11 p1 (.tup [.str k, .int (d + sh)])) (.ref p1) (.tuple [.str k, .int (d + sh)]) := dt_new (ds := [.str k, .int (d + sh)]) (.cons (.str _) (.cons (.int _) .nil)) hp1
        have hrl : rest.length ≤ 3 := by cases hent <;> simp
        refine s_slTlo (hd11.mono (kt_new hp1)) (by decide) (by simp) fun y B1 sB1 hy => ?_
        refine s_addTG (hdA.mono (kt_same sB1)) hy (by simp) (by show 2 + rest.length ≤ 1000; omega) fun z B2 sB2 hz => ?_
        have st : Same H11 B2 := ((same_new hp1).trans sB1).trans sB2
        have hz' : Dt K B2 z (entD k (d + sh) rest) := hz
        have hen2 : EntOf (· ∈ ys) (· ∈ zs) (2 + kl + sh) k (d + sh) rest := hent.shift sh0
        have hvl : n < vs10.length := (List.getElem?_eq_some_iff.mp hx).1
        have hvl2 : vs10.length = es10.length := he11.len
        have hfl : fs.length = es'.length := hfe11.len
        have hsl : ss.length = es'.length := by rw [hse11.len, List.length_map]
        have fl1 : fs.length ≤ 100 := by omega
        have sl1 : ss.length ≤ 100 := by omega
        have hb2 : But b H7 B2 := hb11.same st
        have hB2 : Bag B2 b l := hB11.same st
        have hr2 := st _ _ hr11
        have hf2 := st _ _ hf11
        have hS2 := st _ _ hS11
        have he2 : EntsAt K B2 vs10 es10 := he11.mono (kt_same st)
        have hfe2 : EntsAt K B2 fs es' := hfe11.mono (kt_same st)
        have hse2 := hse11.mono (kt_same st)
        clear hvk hvd hdA hy hz sB1 sB2 st hd11 hp1 hb11 hB11 hr11 hf11 hS11 he11 hfe11 hse11
        walk_at "cr.go"
        rename_i v B3 sB3 hv3
        rcases slot_cases (k, d + sh, rest) with hsn | ⟨ds, hsn⟩
        · have hso : SlotsOk (es' ++ [(k, d + sh, rest)]) := List.pairwise_append.mpr ⟨hso11, List.pairwise_singleton _ _, fun a _ e he => by
            rw [List.mem_singleton.mp he, hsn]
            exact Classical.em _⟩
          have hsn' : slotD k (d + sh) rest = .none := hsn
          rw [hsn'] at hv3
          obtain rfl := hv3.non_eq
          refine s_isNN ?_
          have hf3 : B3 pf = some (.lst fs) := sB3 _ _ hf2
          have hS3 : B3 pS = some (.lst ss) := sB3 _ _ hS2
          have hz3 := hz'.mono (kt_same sB3)
          have hb3 := hb2.same sB3
          have hB3 := hB2.same sB3
          have hr3 := sB3 _ _ hr2
          have he3 := he2.mono (kt_same sB3)
          have hfe3 := hfe2.mono (kt_same sB3)
          have hse3 := hse2.mono (kt_same sB3)
          clear hz' hb2 hB2 hr2 he2 hfe2 hse2 hf2 hS2 hv3 sB3
          have hS5 : upd B3 pf (.lst (fs ++ [z])) pS = some (.lst ss) := by rw [upd_ne nSf]; exact hS3
          have hz5 : Dt K (upd B3 pf (.lst (fs ++ [z]))) z (entD k (d + sh) rest) := hz3.mono (kt_mut hf3 rfl)
          walk_at "cr.go"
          rename_i v5 B5 sB5 hv5
          have hS6 : B5 pS = some (.lst ss) := sB5 _ _ hS5
          have kt5 : KT B3 (upd B5 pS (.lst (ss ++ [v5]))) := fun a o h1 h2 => kt_mut hS6 rfl _ _ (kt_same sB5 _ _ (kt_mut hf3 rfl _ _ h1 h2) h2) h2
          refine ⟨i_of rfl, but_mut ((but_mut hb3 f7).same sB5) g7, ((hB3.upd nfb nfl).same sB5).upd nSb nSl, by rw [upd_ne nSr]; exact sB5 _ _ (by rw [upd_ne nfr]; exact hr3), he3.mono kt5, fs ++ [z], ss ++ [v5], es' ++ [(k, d + sh, rest)], by rw [upd_ne nSf.symm]; exact sB5 _ _ upd_same, upd_same, ((ents_snoc hf3 hfe3 hz3).mono (kt_same sB5)).mono (kt_mut hS6 rfl), ?_, in_snoc hi11 hen2, hso, by rw [List.length_append, List.length_singleton]; omega⟩
          rw [List.map_append]
          exact (hse3.mono kt5).append (.cons (hv5.mono (kt_mut hS6 rfl)) .nil)
        · have hsn' : slotD k (d + sh) rest = .tuple ds := hsn
          have hv4 := hv3
          rw [hsn'] at hv4
          refine s_isTN hv4 ?_
          clear hv4
          walk_at "cr.go"
          rename_i v4 B4 sB4 hv4
          have sB4' : Same B2 B4 := sB3.trans sB4
          have tH : ∀ x, x ∈ ys → TxtOk x := fun x hx => (hm2 x hx).txt
          have tT : ∀ x, x ∈ zs → TxtOk x := fun x hx => (hm4 x hx).txt
          have hls : ∀ e, e ∈ es'.map slotE → LayN 3 e := fun e he => by
            obtain ⟨y, hy, rfl⟩ := List.mem_map.mp he
            exact lay_slot tH tT (hi11 y hy)
          refine s_ntInD hv4 (.of (sB4' _ _ hS2)) (hse2.mono (kt_same sB4')) (lay_slot tH tT hen2) hls (by decide) ?_
          clear sB3 hv3 sB4 hv4
          refine ⟨_, rfl, s_iteB (fun hc => ?_) (fun hc => ?_)⟩
          · have hso : SlotsOk (es' ++ [(k, d + sh, rest)]) := List.pairwise_append.mpr ⟨hso11, List.pairwise_singleton _ _, fun a ha e he => by
              rw [List.mem_singleton.mp he]
              refine .inr (any_eqv hls (by rw [Bool.not_eq_true'] at hc; exact hc) _ (List.mem_map_of_mem ha))⟩
            clear hc hls tH tT B3 v
            obtain ⟨B3, rfl⟩ : ∃ B3, B3 = B4 := ⟨_, rfl⟩
            have sB3 : Same B2 B3 := sB4'
            have hv3 : True := trivial
            clear sB4'
            have hf3 : B3 pf = some (.lst fs) := sB3 _ _ hf2
            have hS3 : B3 pS = some (.lst ss) := sB3 _ _ hS2
            have hz3 := hz'.mono (kt_same sB3)
            have hb3 := hb2.same sB3
            have hB3 := hB2.same sB3
            have hr3 := sB3 _ _ hr2
            have he3 := he2.mono (kt_same sB3)
            have hfe3 := hfe2.mono (kt_same sB3)
            have hse3 := hse2.mono (kt_same sB3)
            clear hz' hb2 hB2 hr2 he2 hfe2 hse2 hf2 hS2 hv3 sB3
            have hS5 : upd B3 pf (.lst (fs ++ [z])) pS = some (.lst ss) := by rw [upd_ne nSf]; exact hS3
            have hz5 : Dt K (upd B3 pf (.lst (fs ++ [z]))) z (entD k (d + sh) rest) := hz3.mono (kt_mut hf3 rfl)
            walk_at "cr.go"
            rename_i v5 B5 sB5 hv5
            have hS6 : B5 pS = some (.lst ss) := sB5 _ _ hS5
            have kt5 : KT B3 (upd B5 pS (.lst (ss ++ [v5]))) := fun a o h1 h2 => kt_mut hS6 rfl _ _ (kt_same sB5 _ _ (kt_mut hf3 rfl _ _ h1 h2) h2) h2
            refine ⟨i_of rfl, but_mut ((but_mut hb3 f7).same sB5) g7, ((hB3.upd nfb nfl).same sB5).upd nSb nSl, by rw [upd_ne nSr]; exact sB5 _ _ (by rw [upd_ne nfr]; exact hr3), he3.mono kt5, fs ++ [z], ss ++ [v5], es' ++ [(k, d + sh, rest)], by rw [upd_ne nSf.symm]; exact sB5 _ _ upd_same, upd_same, ((ents_snoc hf3 hfe3 hz3).mono (kt_same sB5)).mono (kt_mut hS6 rfl), ?_, in_snoc hi11 hen2, hso, by rw [List.length_append, List.length_singleton]; omega⟩
            rw [List.map_append]
            exact (hse3.mono kt5).append (.cons (hv5.mono (kt_mut hS6 rfl)) .nil)
          · walk_at "cr.go"
            exact ⟨i_of rfl, hb2.same sB4', hB2.same sB4', sB4' _ _ hr2, he2.mono (kt_same sB4'), fs, ss, es', sB4' _ _ hf2, sB4' _ _ hS2, hfe2.mono (kt_same sB4'), hse2.mono (kt_same sB4'), hi11, hso11, by omega⟩
      · rintro f H11 ⟨hb11, hB11, hr11, he11, fs, ss, es', hf11, hS11, hfe11, hse11, hi11, hso11, hn11⟩
        have hvl2 : vs10.length = es10.length := he11.len
        have hph11 : H11 ph = some (.lst (ys.map V.str)) := hb11.oth _ _ nhb hph
        have hpt11 : H11 pt = some (.lst (zs.map V.str)) := hb11.oth _ _ ntb hpt
        clear hb10 hB10 hr10 he10 sm hpf hpS fS0 fpf hse11 hS11
        walk_at "cr.go"
        rename_i p12 hp12
        have nhf : ph ≠ pf := ne_on f7 hph
        have ntf : pt ≠ pf := ne_on f7 hpt
        have sN := same_new (o := .tup [.ref pf, .ref ph, .ref pt, .int (2 + kl + sh)]) hp12
        exact q p12 pf ph pt (2 + kl + sh) fs es' ys zs _ ((hbx.2.trans hb11).same sN) ⟨hB11.same sN, nfb, nfl, nhb, nhl, ntb, ntl, nhf.symm, ntf.symm, nht, sN _ _ hf11, sN _ _ hph11, sN _ _ hpt11, hfe11.mono (kt_same sN), hi11, hso11, by omega, by omega, by omega, by omega, by omega, hn2, hn4, hm2, hm4, by omega, by omega⟩ upd_same
local macro_rules | `(tactic| walk_at "cr.call") => `(tactic| ((with_reducible refine' Cr.u__law_book ?e ?a ?b ?c ?_); (case e => with_unfolding_all rfl); (case a => walk_at "cr.bag"); (case b => first | with_reducible assumption | omega); (case c => first | with_reducible assumption | omega); intro p pr ph pt L vs es ys zs H' hb bk hp))

/-! ### _law_shuffled -/
def sp__law_shuffled (K : PySem.W.Frag) : Sp := fun vs H Q _ => ∃ (b l a : Addr) (ws : List V), vs = [.ref b, .ref a] ∧ Bag H b l ∧ SqL K H a ws ∧ a ≠ b ∧ ws.length ≤ 500 ∧ ∀ p ws' H', But b H H' → Bag H' b l → H p = none → H' p = some (.lst ws') → ws'.Perm ws → Q (.ref p) H'
theorem u__law_shuffled {H : Hp} {Q : VK} {E : XK} {vs : List V} {b l a : Addr} {ws : List V} (e : vs = [.ref b, .ref a]) (hB : Bag H b l) (hs : SqL K H a ws) (ne : a ≠ b) (hz : ws.length ≤ 500) (q : ∀ p ws' H', But b H H' → Bag H' b l → H p = none → H' p = some (.lst ws') → ws'.Perm ws → Q (.ref p) H') : sp__law_shuffled K vs H Q E := ⟨b, l, a, ws, e, hB, hs, ne, hz, q⟩
theorem erase_perm {α : Type} : ∀ {l : List α} {i : Nat} (h : i < l.length), (l[i] :: l.eraseIdx i).Perm l
  | x :: xs, 0, _ => List.Perm.refl _
  | x :: xs, i + 1, h => by
    have hi : i < xs.length := by simpa using h
    rw [List.getElem_cons_succ, List.eraseIdx_cons_succ]
    exact (List.Perm.swap x xs[i] _).trans (List.Perm.cons x (erase_perm hi))
theorem pop_perm {f r : List V} {j : Nat} (h : j < r.length) : (f ++ [r[j]] ++ r.eraseIdx j).Perm (f ++ r) := by
  rw [List.append_assoc]
  exact List.Perm.append_left f (erase_perm h)
theorem ok__law_shuffled (T : Top w K mg) : FnOk P w K mg base CX0 2 T.f__law_shuffled T.fd__law_shuffled ["_law_bag_here", "_law_rows"] (sp__law_shuffled K) := by
  have G__law_pull := ok__law_pull (P := P) (w := w) (base := base) T
  refine T.F__law_shuffled.ok sc__law_shuffled (fun vs H Q E h => by obtain ⟨b, l, a, ws, rfl, _⟩ := h; rfl) (fun cdv A outer s H vs Q E hr h => ?_)
  obtain ⟨b, l, a, ws, rfl, hB, hs, ne, hz, q⟩ := h
  refine ⟨_, (pss_cons (ps_set (i := 2) sc__law_shuffled.nd rfl (Or.inl rfl) (pe_callTy call_listU (by rfl) T.n_list (by decide +kernel) (pa_cons (pv 1) pa_nil)))
      (pss_cons (ps_set (i := 3) sc__law_shuffled.nd rfl (Or.inl rfl) (pe_lst pa_nil))
      (pss_cons (ps_for PassesOwn.never rfl (pi_range1 rfl T.n_range (pa_cons (pe_callB call_lenU (by rfl) T.n_len (by decide +kernel) (pa_cons (pv 1) pa_nil)) pa_nil)) (pg_name (i := 4) sc__law_shuffled.nd rfl (Or.inl rfl)) (pss_one (ps_expr (pe_bm PySem.F.plainAttrs_list PySem.F.slot_list_append PySem.F.type_list_append mt_append (pv 3) (pa_cons (pe_bm PySem.F.plainAttrs_list PySem.F.slot_list_pop PySem.F.type_list_pop mt_popAt (pv 2) (pa_cons (pe_call (G__law_pull) (hr.mono (by decide)) (by rfl) T.g__law_pull T.k__law_pull T.b__law_pull .nil pass0 (pa_cons (pv 0) (pa_cons (pe_callB call_lenU (by rfl) T.n_len (by decide +kernel) (pa_cons (pv 2) pa_nil)) pa_nil))) pa_nil)) pa_nil)))))
      (pss_one (ps_ret (pv 3)))))), ?_⟩
  walk_at "cr.k"
  rename_i pr hpr pf hpf
  have nrb := hB.ne1 hpr
  have nrl := hB.ne2 hpr
  have fpf := free_upd hpf
  have nfr := ne_new hpf
  have nfb := hB.ne1 fpf
  have nfl := hB.ne2 fpf
  have sm : Same H (upd (upd H pr (.lst ws)) pf (.lst [])) := by walk_at "cr.sm"
  have hb0 : But b H (upd (upd H pr (.lst ws)) pf (.lst [])) := But.ofSame hB sm
  have hB0 : Bag (upd (upd H pr (.lst ws)) pf (.lst [])) b l := hB.same sm
  have hr0 : upd (upd H pr (.lst ws)) pf (.lst []) pr = some (.lst ws) := by rw [upd_ne nfr.symm, upd_same]
  refine f_range (fun n σ' H' => ∃ y4 r f, σ' = [some (.ref b), some (.ref a), some (.ref pr), some (.ref pf), y4] ∧ But b H H' ∧ Bag H' b l ∧ H' pr = some (.lst r) ∧ H' pf = some (.lst f) ∧ (f ++ r).Perm ws ∧ f.length = n) ⟨none, ws, [], rfl, hb0, hB0, hr0, upd_same, List.Perm.refl _, rfl⟩ ?_ ?_
  · rintro n σ' H' hn ⟨y4, r, f, rfl, hb, hB', hr', hf', hp, hfl⟩
    clear sm hb0 hB0 hr0 hB
    have hlen : f.length + r.length = ws.length := by rw [← List.length_append]; exact hp.length_eq
    have hn2 : n < ws.length := by rw [Int.toNat_natCast] at hn; exact hn
    have hr1 : 0 < r.length := by omega
    walk_at "cr.go"
    rename_i k H2 hk0 hk1 hb2 hB2
    obtain ⟨j, rfl⟩ : ∃ j : Nat, k = (j : Int) := ⟨k.toNat, by omega⟩
    have hj : j < r.length := by omega
    have hr2 : H2 pr = some (.lst r) := hb2.oth _ _ nrb hr'
    have hf2 : H2 pf = some (.lst f) := hb2.oth _ _ nfb hf'
    refine s_popAt hr2 (by omega) (List.getElem?_eq_getElem hj) ?_
    have hf3 : upd H2 pr (.lst (r.eraseIdx j)) pf = some (.lst f) := by rw [upd_ne nfr]; exact hf2
    walk_at "cr.go"
    have ki : ∀ o o', But b H (upd (upd H2 pr o) pf o') := fun o o' => but_mut (but_mut (hb.trans hb2) hpr) fpf
    exact ⟨_, r.eraseIdx j, f ++ [r[j]], rfl, ki _ _, (hB2.upd nrb nrl).upd nfb nfl, by rw [upd_ne nfr.symm, upd_same], upd_same, (pop_perm hj).trans hp, by rw [List.length_append, hfl]; rfl⟩
  · rintro σ' H' ⟨y4, r, f, rfl, hb, hB', hr', hf', hp, hfl⟩
    have hlen : f.length + r.length = ws.length := by rw [← List.length_append]; exact hp.length_eq
    rw [Int.toNat_natCast] at hfl
    obtain rfl : r = [] := List.length_eq_zero_iff.mp (by omega)
    rw [List.append_nil] at hp
    walk_at "cr.go"
    exact q pf f _ hb hB' fpf hf' hp
local macro_rules | `(tactic| walk_at "cr.call") => `(tactic| ((with_reducible refine' Cr.u__law_shuffled ?e ?a ?b ?c ?d ?_); (case e => with_unfolding_all rfl); (case a => walk_at "cr.bag"); (case b => walk_at "cr.lst"); (case c => with_reducible assumption); (case d => first | with_reducible assumption | omega); intro p ws' H' hb hB np hp hpm))

/-! ### _law_extra -/
def sp__law_extra (K : PySem.W.Frag) : Sp := fun vs H Q _ => ∃ (a b : Addr) (ws xs : List V) (es fs : List E3), vs = [.ref a, .ref b] ∧ SqL K H a ws ∧ SqL K H b xs ∧ EntsAt K H ws es ∧ EntsAt K H xs fs ∧ (∀ x, x ∈ es → EntIn Nm Nm 400 x) ∧ (∀ x, x ∈ fs → EntIn Nm Nm 400 x) ∧ ws.length ≤ 500 ∧ xs.length ≤ 500 ∧
  ∀ p F R H', Same H H' → H p = none → LstOf K H' p ((sortE F).map dE) → PartOf es fs F R → Q (.ref p) H'
theorem u__law_extra {H : Hp} {Q : VK} {E : XK} {vs : List V} {a b : Addr} {ws xs : List V} {es fs : List E3} (e : vs = [.ref a, .ref b]) (hs : SqL K H a ws) (ht : SqL K H b xs) (he : EntsAt K H ws es) (hf : EntsAt K H xs fs) (hi : ∀ x, x ∈ es → EntIn Nm Nm 400 x) (hj : ∀ x, x ∈ fs → EntIn Nm Nm 400 x) (hz : ws.length ≤ 500) (hy : xs.length ≤ 500)
    (q : ∀ p F R H', Same H H' → H p = none → LstOf K H' p ((sortE F).map dE) → PartOf es fs F R → Q (.ref p) H') : sp__law_extra K vs H Q E := ⟨a, b, ws, xs, es, fs, e, hs, ht, he, hf, hi, hj, hz, hy, q⟩
theorem turn_sortD (F : List E3) : sortD ((F.map dE).map turnD) = (sortE F).map fun e => turnD (dE e) := by
  rw [List.map_map]
  exact (PySem.W.sort_maps (r := PySem.W.dataLe false fun e : E3 => turnD (dE e)) (s := PySem.W.dataLe false (id : PyData → PyData)) (fun e : E3 => turnD (dE e)) (l := F) (fun _ _ _ _ => rfl)).symm
theorem a2_mapr {α β γ : Type} {R : α → β → Prop} {f : γ → β} : ∀ {xs : List α} {ys : List γ}, A2 R xs (ys.map f) → A2 (fun x y => R x (f y)) xs ys
  | [], [], _ => .nil
  | [], _ :: _, h => by cases h
  | _ :: _, [], h => by cases h
  | _ :: _, _ :: _, .cons a b => .cons a (a2_mapr b)
theorem ok__law_extra (T : Top w K mg) : FnOk P w K mg base CX0 1 T.f__law_extra T.fd__law_extra ["_law_one", "_law_other"] (sp__law_extra K) := by
  refine T.F__law_extra.ok sc__law_extra (fun vs H Q E h => by obtain ⟨a, b, ws, xs, es, fs, rfl, _⟩ := h; rfl) (fun cdv A outer s H vs Q E hr h => ?_)
  obtain ⟨a, b, ws, xs, es, fs, rfl, hs, ht, he, hf, hi, hj, hz, hy, q⟩ := h
  refine ⟨_, (pss_cons (ps_set (i := 2) sc__law_extra.nd rfl (Or.inl rfl) (pe_callTy call_listU (by rfl) T.n_list (by decide +kernel) (pa_cons (pv 1) pa_nil)))
      (pss_cons (ps_set (i := 3) sc__law_extra.nd rfl (Or.inl rfl) (pe_lst pa_nil))
      (pss_cons (ps_for PassesOwn.never rfl (pi_list (pv 0)) (pg_name (i := 4) sc__law_extra.nd rfl (Or.inl rfl)) (pss_one (ps_if (pt_cmpR (op_inD (units65 hr)) (pv 4) (pv 2) (by rfl)) (pss_one (ps_expr (pe_bm PySem.F.plainAttrs_list PySem.F.slot_list_remove PySem.F.type_list_remove (mt_remD (units65 hr)) (pv 2) (pa_cons (pv 4) pa_nil)))) (pss_one (ps_expr (pe_bm PySem.F.plainAttrs_list PySem.F.slot_list_append PySem.F.type_list_append mt_append (pv 3) (pa_cons (pe_tup (pa_cons (pe_ix ix_seq (pv 4) pe_int (fun _ _ => rfl)) (pa_cons (pe_ix ix_seq (pv 4) pe_int (fun _ _ => rfl)) (pa_cons (pe_slice sl_seqU (pv 4) (po_some pe_int) po_none) pa_nil)))) pa_nil)))))))
      (pss_one (ps_ret (pe_lc (own := [("_law_row", 4)]) (g := gName 4) (tt := tYes) rfl sc__law_extra.nd (pi_list (pe_callB (call_sortK hr.units) (by rfl) T.n_sorted (by decide +kernel) (pa_cons (pv 3) pa_nil))) (blkOk_by (N := ["_law_one", "_law_other", "_law_rest", "_law_found", "_law_row"]) (sc := defScope s__law_extra) (by decide +kernel)) (fun _ _ _ _ _ => pg_name (i := 4) sc__law_extra.nd rfl (Or.inl rfl)) (fun _ _ _ _ _ => pts_nil) (fun _ _ _ _ _ => (pe_op (show OpR _ _ (rAddU K) from op_addU) (pe_tup (pa_cons (pe_ix (show IxR _ (rIx K) from ix_seq) (pv 4) pe_int (fun _ _ => rfl)) (pa_cons (pe_ix (show IxR _ (rIx K) from ix_seq) (pv 4) pe_int (fun _ _ => rfl)) pa_nil))) (pe_ix (show IxR _ (rIx K) from ix_seq) (pv 4) pe_int (fun _ _ => rfl)))))))))), ?_⟩
  walk_at "cr.k"
  rename_i pr hpr pf hpf
  have sR := same_new (o := .lst xs) hpr
  have sF := same_new (o := .lst []) hpf
  have hr0 : upd (upd H pr (.lst xs)) pf (.lst []) pr = some (.lst xs) := sF _ _ upd_same
  have s0 := sR.trans sF
  have nrf : pr ≠ pf := ne_on hpf upd_same
  have hpfH := free_upd hpf
  have hprH := hpr
  have hzl : ws.length = es.length := A2.len he
  refine f_each (xs := ws) [4] (fun n H' => Same H H' ∧ ∃ rs gs F R M, H' pr = some (.lst rs) ∧ H' pf = some (.lst gs) ∧ EntsAt K H' rs R ∧ DtAll K H' gs ((F.map dE).map turnD) ∧ ExtI es fs F R M n)
    ⟨s0, xs, [], [], fs, [], hr0, upd_same, hf.mono (kt_same s0), .nil, ExtI.start es fs⟩ rfl (fun _ H' r => r.1.seq hs) ?_ ?_
  · rintro n x f3 H9 ex ⟨ext9, rs, gs, F, R, M, hr9, hf9, hR9, hF9, I⟩
    have hn : n < es.length := by rw [← hzl]; exact (List.getElem?_eq_some_iff.mp ex).1
    have eA : es[n]? = some es[n] := List.getElem?_eq_getElem hn
    have hx : Dt K H9 x (dE es[n]) := by
      obtain ⟨v, e1, e2⟩ := A2.at (he.mono (kt_same ext9)) ex
      rw [e1] at eA; cases eA; exact e2
    have hei : EntIn Nm Nm 400 es[n] := hi _ (List.getElem_mem hn)
    have hRi : ∀ x, x ∈ R → EntIn Nm Nm 400 x := fun x hx => hj x (I.b.mem_iff.mpr (List.mem_append_left _ hx))
    have hgl : gs.length ≤ 500 := by
      rw [DtAll.len hF9, List.length_map, List.length_map]
      have h1 := I.a.length_eq
      rw [List.length_append, List.length_take] at h1
      omega
    generalize es[n] = e0 at *
    obtain ⟨k, d, rest⟩ := e0
    clear sR sF hr0 s0 hpr hpf q he hf hs ht
    have hx' : Dt K H9 x (.tuple (.str k :: .int d :: rest)) := hx
    walk_at "cr.n"
    walk_at "cr.go"
    refine s_inE hx (.of hr9) hR9 hei hRi (fun hm => ?_) (fun hm => ?_)
    · walk_at "cr.go"
      refine s_remE hr9 hR9 hx hei hRi hm fun j hj ej hR10 => ?_
      have kt1 := kt_mut (o' := .lst (rs.eraseIdx j)) hr9 rfl
      walk_at "cr.go"
      exact ⟨i_of rfl, same_mut ext9 (by assumption), _, _, _, _, _, upd_same, by rw [upd_ne nrf.symm]; exact hf9, hR10, hF9.mono kt1, I.hit eA hj ej⟩
    · walk_at "cr.go"
      refine s_slTlo (lo := 2) hx' (by decide) (by simp) fun v1 A1 sA1 hv1 => ?_
      have hv1 : Dt K A1 v1 (.tuple rest) := hv1
      have hr10 := sA1 _ _ hr9
      have hf10 := sA1 _ _ hf9
      have hR10 := hR9.mono (kt_same sA1)
      have hF10 := hF9.mono (kt_same sA1)
      have s10 := ext9.trans sA1
      clear hx hx' hR9 hF9 hr9 hf9
      walk_at "cr.go"
      rename_i pt hpt
      have st := same_new (o := .tup [.int d, .str k, v1]) hpt
      have ht1 : Dt K (upd A1 pt (.tup [.int d, .str k, v1])) (.ref pt) (turnD (dE (k, d, rest))) := dt_new (ds := [.int d, .str k, .tuple rest]) (.cons (.int _) (.cons (.str _) (.cons hv1 .nil))) hpt
      have hf11 := st _ _ hf10
      have kt2 := kt_mut (o' := .lst (gs ++ [.ref pt])) hf11 rfl
      refine ⟨i_of rfl, same_mut (s10.trans st) hpfH, rs, _, F ++ [(k, d, rest)], R, M, by rw [upd_ne nrf]; exact st _ _ hr10, upd_same, (hR10.mono (kt_same st)).mono kt2, ?_, I.miss eA hm⟩
      rw [List.map_append, List.map_append]
      exact DtAll.append ((hF10.mono (kt_same st)).mono kt2) (.cons (ht1.mono kt2) .nil)
  intro f3 H9 ⟨ext9, rs, gs, F, R, M, hr9, hf9, hR9, hF9, I⟩
  rw [hzl] at I
  have hP := I.done
  have hFi : ∀ x, x ∈ F → EntIn Nm Nm 400 x := fun x hx => hi x (hP.mem.1 x hx)
  have hgl : gs.length ≤ 500 := by
    rw [DtAll.len hF9, List.length_map, List.length_map]
    have h1 := I.a.length_eq
    rw [List.length_append, List.take_length] at h1
    omega
  clear sR sF hr0 s0 hpr hpf he hf hs ht hR9 hr9
  walk_at "cr.n"
  walk_at "cr.go"
  refine ⟨pf, gs, _, rfl, .of hf9, hF9, keysOk_ents Nm.ok Nm.ok hFi, by omega, fun p ys hp pm h2 => ?_⟩
  rw [turn_sortD] at h2
  have h3 := A2.mono (fun _ _ z => Dt.mono (kt_new (o := .lst ys) hp) z) (a2_mapr (R := fun y d => Dt K H9 y d) (f := fun e => turnD (dE e)) h2)
  have sP := same_new (o := .lst ys) hp
  have yl : ys.length ≤ 1000 := by rw [pm.length_eq]; omega
  have hSi : ∀ x, x ∈ sortE F → EntIn Nm Nm 400 x := fun x hx => hFi x ((sortE_perm F).mem_iff.mp hx)
  refine ⟨p, rfl, ⟨_, .of upd_same⟩, ?_⟩
  refine c_listS (fun H v (e : E3) => Dt K H v (turnD (dE e))) (fun H (e : E3) v => Dt K H v (dE e)) (fun _ _ _ _ k h => h.mono k.kt) (fun _ _ _ _ k h => h.mono k.kt) (.of upd_same) h3 yl ?_ ?_
  · rintro x ⟨k, d, rest⟩ A N hz hP hS hN
    have hP' : Dt K A x (.tuple [.int d, .str k, .tuple rest]) := hP
    clear h2 h3 hP hS q
    walk_at "cr.n"
    walk_at "cr.go"
    refine ⟨rfl, ?_⟩
    walk_at "cr.go"
    rename_i p2 hp2 v3 hv3
    have hrl := shape_len (EntOf.shape (hSi _ hz))
    have h0 : Dt K (upd A p2 (.tup [.str k, .int d])) (.ref p2) (.tuple [.str k, .int d]) := dt_new (.cons (.str _) (.cons (.int _) .nil)) hp2
    refine s_addTG h0 hv3 (List.cons_ne_nil _ _) (by show 2 + rest.length ≤ 1000; have hrl : rest.length ≤ 900 := hrl; omega) fun v4 H4 s4 h4 => ?_
    exact hN _ _ ((same_new hp2).trans s4) h4
  intro p9 us9 A hS hp9 hA h9
  walk_at "cr.n"
  walk_at "cr.go"
  exact q p9 F R A ((ext9.trans sP).trans hS) (free_on hp9 (ext9.trans sP)) ⟨us9, hA, (EntsAt.of_map (f := fun e => e) h9 |> fun z => by rw [List.map_id'] at z; exact EntsAt.daQ z)⟩ hP

/-! ### _law_formed -/
def sp__law_formed (K : PySem.W.Frag) : Sp := fun vs H Q _ => ∃ (a : Addr) (ws : List V) (es : List E3), vs = [.ref a] ∧ SqL K H a ws ∧ EntsAt K H ws es ∧ (∀ x, x ∈ es → EntIn Nm Nm 400 x) ∧ ws.length ≤ 500 ∧
  ∀ p us H', Same H H' → H p = none → H' p = some (.lst us) → EntsAt K H' us (es.map formE) → Q (.ref p) H'
theorem u__law_formed {H : Hp} {Q : VK} {E : XK} {vs : List V} {a : Addr} {ws : List V} {es : List E3} (e : vs = [.ref a]) (hs : SqL K H a ws) (he : EntsAt K H ws es) (hi : ∀ x, x ∈ es → EntIn Nm Nm 400 x) (hz : ws.length ≤ 500)
    (q : ∀ p us H', Same H H' → H p = none → H' p = some (.lst us) → EntsAt K H' us (es.map formE) → Q (.ref p) H') : sp__law_formed K vs H Q E := ⟨a, ws, es, e, hs, he, hi, hz, q⟩
theorem ok__law_formed (T : Top w K mg) : FnOk P w K mg base CX0 1 T.f__law_formed T.fd__law_formed ["_law_rows"] (sp__law_formed K) := by
  refine T.F__law_formed.ok sc__law_formed (fun vs H Q E h => by obtain ⟨a, ws, es, rfl, _⟩ := h; rfl) (fun cdv A outer s H vs Q E hr h => ?_)
  obtain ⟨a, ws, es, rfl, hs, he, hi, hz, q⟩ := h
  refine ⟨_, (pss_one (ps_ret (pe_lc (own := [("_law_row", 1)]) (g := gName 1) (tt := tYes) rfl sc__law_formed.nd (pi_list (pv 0)) (blkOk_by (N := ["_law_rows", "_law_row"]) (sc := defScope s__law_formed) (by decide +kernel)) (fun _ _ _ _ _ => pg_name (i := 1) sc__law_formed.nd rfl (Or.inl rfl)) (fun _ _ _ _ _ => pts_nil) (fun _ _ _ _ _ => (pe_ifExp (pt_cmpR (show OpR _ _ (rEqD K) from (op_eqD hr.units)) (pe_ix (show IxR _ (rIx K) from ix_seq) (pv 1) pe_int (fun _ _ => rfl)) pe_str (nomark _)) (pe_op (show OpR _ _ (rAddU K) from op_addU) (pe_slice (show SlR _ (rSlU K) from sl_seqU) (pv 1) po_none (po_some pe_int)) (pe_tup (pa_cons (pe_callTy (show CallR _ _ (rTupU K) from call_tupU) (by rfl) T.n_tuple (by decide +kernel) (pa_cons (pe_callB (show CallR _ _ (rSortD K) from (call_sortD hr.units)) (by rfl) T.n_sorted (by decide +kernel) (pa_cons (pe_ix (show IxR _ (rIx K) from ix_seq) (pv 1) pe_int (fun _ _ => rfl)) pa_nil)) pa_nil)) pa_nil))) (pv 1)))))), ?_⟩
  walk_at "cr.k"
  refine c_listS (fun H v e => Dt K H v (dE e)) (fun H e v => Dt K H v (dE (formE e))) (fun _ _ _ _ k h => h.mono k.kt) (fun _ _ _ _ k h => h.mono k.kt) hs he (by omega) ?_ ?_
  · rintro x ⟨k, d, rest⟩ A N hz hP hS hN
    have hent : EntOf Nm Nm 400 k d rest := hi _ hz
    have hsk : SeqAt.shaped (.str k) = true := (lay_str (n := 0) (kind_txt hent.kind)).sh
    have hP : Dt K A x (.tuple (.str k :: .int d :: rest)) := hP
    clear he hs hS q
    walk_at "cr.n"
    walk_at "cr.go"
    refine ⟨rfl, ?_⟩
    walk_at "cr.go"
    refine s_iteD (fun hm => ?_) (fun hm => ?_)
    · obtain ⟨ps, rfl, hps⟩ := mix_ps hent hm
      have hlen8 : (ps.map fun p => PyData.tuple [.str p.1, .int p.2]).length ≤ 1000 := by rw [List.length_map]; have := hps.l1; omega
      walk_at "cr.go"
      refine s_slThi (hi := 2) hP (by decide) (by show (2 : Int) < 3; decide) fun v1 A1 sA1 hv1 => ?_
      have hP1 := hP.mono (kt_same sA1)
      have hv1 : Dt K A1 v1 (.tuple [.str k, .int d]) := hv1
      clear hP
      walk_at "cr.go"
      rename_i v2 hv2
      refine s_sortT hv2 (ps_alike ps) (ps_sortable ps) (ps_depth ps) hlen8 fun p2 ys2 hp2 hys2 => ?_
      have hv1b := hv1.mono (kt_new (o := .lst ys2) hp2)
      walk_at "cr.go"
      rename_i v9 H9 s9 h9
      refine hN _ _ (by walk_at "cr.sm") ?_
      subst hm
      rw [show formE ("mix", d, [pairsD ps]) = (("mix", d, [pairsD (sortP ps)]) : E3) by unfold formE; rw [formR_mix]]
      show Dt K _ _ (.tuple [.str "mix", .int d, .tuple ((sortP ps).map fun p => PyData.tuple [.str p.1, .int p.2])])
      rw [← sortP_D]
      exact h9
    · walk_at "cr.go"
      refine hN _ _ (by walk_at "cr.sm") ?_
      rw [show formE (k, d, rest) = (k, d, rest) by unfold formE; rw [formR_other hm]]
      exact hP
  intro p ys A hS hp hA h2
  walk_at "cr.n"
  walk_at "cr.go"
  exact q p ys A (by walk_at "cr.sm") (by walk_at "cr.fr") hA (EntsAt.of_map h2)

/-! ### law -/
theorem A2.takeQ {α β : Type} {R : α → β → Prop} : ∀ {xs : List α} {ys : List β}, A2 R xs ys → ∀ n : Nat, A2 R (xs.take n) (ys.take n)
  | _, _, .nil, n => by rw [List.take_nil, List.take_nil]; exact .nil
  | _, _, .cons a b, 0 => .nil
  | _, _, .cons a b, n + 1 => .cons a (A2.takeQ b n)
theorem A2.dropQ {α β : Type} {R : α → β → Prop} : ∀ {xs : List α} {ys : List β}, A2 R xs ys → ∀ n : Nat, A2 R (xs.drop n) (ys.drop n)
  | _, _, .nil, n => by rw [List.drop_nil, List.drop_nil]; exact .nil
  | _, _, .cons a b, 0 => .cons a b
  | _, _, .cons a b, n + 1 => A2.dropQ b n
theorem A2.appQ {α β : Type} {R : α → β → Prop} {zs : List α} {ws : List β} (h : A2 R zs ws) : ∀ {xs : List α} {ys : List β}, A2 R xs ys → A2 R (xs ++ zs) (ys ++ ws)
  | _, _, .nil => h
  | _, _, .cons a b => .cons a (A2.appQ h b)
theorem A2.revQ {α β : Type} {R : α → β → Prop} : ∀ {xs : List α} {ys : List β}, A2 R xs ys → A2 R xs.reverse ys.reverse
  | _, _, .nil => .nil
  | _, _, .cons a b => by rw [List.reverse_cons, List.reverse_cons]; exact A2.snoc a (A2.revQ b)
/-- a mix's pairs turned about -/
def revE (e : E3) : E3 := (e.1, e.2.1, if e.1 = "mix" then match e.2.2 with
  | [.tuple ds] => [.tuple ds.reverse]
  | r => r else e.2.2)
theorem revE_mix (d : Int) (ps : List (Str × Int)) : revE ("mix", d, [pairsD ps]) = (("mix", d, [pairsD ps.reverse]) : E3) := by
  unfold revE
  show (("mix", d, if ("mix" : Str) = "mix" then [PyData.tuple (ps.map fun p => .tuple [.str p.1, .int p.2]).reverse] else [pairsD ps]) : E3) = _
  rw [if_pos rfl, ← List.map_reverse]
theorem revE_other {e : E3} (h : ¬ e.1 = "mix") : revE e = e := by
  unfold revE
  rw [if_neg h]
theorem revE_in {e : E3} (h : EntIn Nm Nm 400 e) : EntIn Nm Nm 400 (revE e) := by
  obtain ⟨k, d, rest⟩ := e
  by_cases hm : k = "mix"
  · subst hm
    have h' : EntOf Nm Nm 400 "mix" d rest := h
    obtain ⟨ps, rfl, hps⟩ := mix_ps h' rfl
    rw [revE_mix]
    have hd := h'.day
    refine EntOf.mix hd.1 hd.2 ⟨by rw [List.length_reverse]; exact hps.l0, by rw [List.length_reverse]; exact hps.l1, ?_, fun p hp => hps.ok p (List.mem_reverse.mp hp)⟩
    rw [List.map_reverse]
    exact (List.reverse_perm _).nodup_iff.mpr hps.nd
  · rw [revE_other hm]; exact h
theorem byDay_all {es : List E3} (h : ∀ x, x ∈ es → EntIn Nm Nm 400 x) : byDay 400 es = es.map formE := by
  unfold byDay
  rw [List.filter_eq_self.mpr fun x hx => decide_eq_true (EntOf.day (h x hx)).2]
structure Hd58 (K : PySem.W.Frag) (H : Hp) (pr po pK k1 k2 p1 p2 : Addr) (vs ws us xs : List V) (es fs : List E3) : Prop where
  r : H pr = some (.lst vs)
  o : H po = some (.lst ws)
  k : H pK = some (.tup [.ref k1, .ref k2])
  k1 : H k1 = some (.lst vs)
  k2 : H k2 = some (.lst ws)
  p1 : H p1 = some (.lst us)
  p2 : H p2 = some (.lst xs)
  e : EntsAt K H vs es
  f : EntsAt K H ws fs
  e1 : EntsAt K H us (es.map formE)
  f1 : EntsAt K H xs (fs.map formE)
theorem Hd58.ext {K : PySem.W.Frag} {H H' : Hp} {pr po pK k1 k2 p1 p2 : Addr} {vs ws us xs : List V} {es fs : List E3} (h : Hd58 K H pr po pK k1 k2 p1 p2 vs ws us xs es fs) (x : ExtN H H') : Hd58 K H' pr po pK k1 k2 p1 p2 vs ws us xs es fs :=
  ⟨x _ _ h.r (fun ps z => nomatch z), x _ _ h.o (fun ps z => nomatch z), x _ _ h.k (fun ps z => nomatch z), x _ _ h.k1 (fun ps z => nomatch z), x _ _ h.k2 (fun ps z => nomatch z), x _ _ h.p1 (fun ps z => nomatch z), x _ _ h.p2 (fun ps z => nomatch z),
   h.e.mono (extN_kt x), h.f.mono (extN_kt x), h.e1.mono (extN_kt x), h.f1.mono (extN_kt x)⟩
theorem lst_ext {K : PySem.W.Frag} {H H' : Hp} {b : Addr} {ds : List PyData} (h : LstOf K H b ds) (x : ExtN H H') : LstOf K H' b ds := by
  obtain ⟨vs, h1, h2⟩ := h
  exact ⟨vs, x _ _ h1 (fun ps z => nomatch z), h2.mono (extN_kt x)⟩
theorem pair_dp {K : PySem.W.Frag} {H : Hp} {p a b : Addr} {ds es : List PyData} (hp : H p = some (.tup [.ref a, .ref b])) (ha : LstOf K H a ds) (hb : LstOf K H b es) : Dp K H (.ref p) (.tuple [.list ds, .list es]) := by
  obtain ⟨vs, h1, h2⟩ := ha
  obtain ⟨ws, h3, h4⟩ := hb
  exact .tup (.of hp) (.cons (.lst (.of h1) h2.dp) (.cons (.lst (.of h3) h4.dp) .nil))
theorem pair_lay {es fs : List E3} (he : ∀ x, x ∈ es → EntIn Nm Nm 400 x) (hf : ∀ x, x ∈ fs → EntIn Nm Nm 400 x) : LayN 5 (.tuple [.list (es.map dE), .list (fs.map dE)]) := lay_tup fun d hd => by
  simp only [List.mem_cons, List.not_mem_nil, or_false] at hd
  rcases hd with rfl | rfl
  · exact lay_lst (lay_entsQ he)
  · exact lay_lst (lay_entsQ hf)
theorem s_nePr {K : PySem.W.Frag} {H : Hp} {Q : VK} {p a b q c d : Addr} {es fs : List E3} (hp : H p = some (.tup [.ref a, .ref b])) (ha : LstOf K H a (es.map dE)) (hb : LstOf K H b (fs.map dE)) (hq : H q = some (.tup [.ref c, .ref d])) (hc : LstOf K H c (es.map dE)) (hd : LstOf K H d (fs.map dE))
    (he : ∀ x, x ∈ es → EntIn Nm Nm 400 x) (hf : ∀ x, x ∈ fs → EntIn Nm Nm 400 x) (h : Q (.bl false) H) : rNeD K (.ref p) (.ref q) H Q :=
  ⟨_, _, pair_dp hp ha hb, pair_dp hq hc hd, (pair_lay he hf).sh (by decide), (pair_lay he hf).sh (by decide), by rw [SeqAt.eqv_refl _ (pair_lay he hf).1]; exact h⟩
theorem s_eqPr {K : PySem.W.Frag} {H : Hp} {Q : VK} {p a b q c d : Addr} {es fs : List E3} (hp : H p = some (.tup [.ref a, .ref b])) (ha : LstOf K H a (es.map dE)) (hb : LstOf K H b (fs.map dE)) (hq : H q = some (.tup [.ref c, .ref d])) (hc : LstOf K H c (es.map dE)) (hd : LstOf K H d (fs.map dE))
    (he : ∀ x, x ∈ es → EntIn Nm Nm 400 x) (hf : ∀ x, x ∈ fs → EntIn Nm Nm 400 x) (h : Q (.bl true) H) : rEqD K (.ref p) (.ref q) H Q :=
  ⟨_, _, pair_dp hp ha hb, pair_dp hq hc hd, (pair_lay he hf).sh (by decide), (pair_lay he hf).sh (by decide), by rw [SeqAt.eqv_refl _ (pair_lay he hf).1]; exact h⟩
theorem sort_in {A F : List E3} (h : ∀ x, x ∈ F → x ∈ A) (hA : ∀ x, x ∈ A → EntIn Nm Nm 400 x) : ∀ x, x ∈ sortE F → EntIn Nm Nm 400 x := fun x hx => hA x (h x ((sortE_perm F).mem_iff.mp hx))
theorem form_in {es : List E3} (h : ∀ x, x ∈ es → EntIn Nm Nm 400 x) : ∀ x, x ∈ es.map formE → EntIn Nm Nm 400 x := fun x hx => by
  obtain ⟨y, hy, rfl⟩ := List.mem_map.mp hx
  exact form_ent (h y hy)
theorem PartOf.none {A F R : List E3} (h : PartOf A A F R) : F = [] ∧ R = [] :=
  ⟨List.Perm.eq_nil (h.left (PartOf.same A)), List.Perm.eq_nil (h.right (PartOf.same A))⟩
def sp_law (K : PySem.W.Frag) (P : Addr) : Sp := fun vs H Q _ => ∃ (a : Addr) (ns : List Int), vs = [.ref a] ∧ SqL K H a (ns.map V.int) ∧ ns.length ≤ 63 ∧ TabS H P qIO ∧ ∀ H', Q (.bl true) H'
theorem ok_law {f : Addr} {fd : FuncData} (F : Fun K "law" "law" s_law f fd) (T : Top w K mg) (TB : LamX.TabB base mg T.tc T.tP) : FnOk P w K mg base CX0 9 f fd ["_law_script"] (sp_law K T.tP) := by
  have G_parting := ok_parting (P := P) (w := w) (base := base) T TB
  have G__law_bag := ok__law_bag (P := P) (w := w) (base := base) T
  have G__law_pull := ok__law_pull (P := P) (w := w) (base := base) T
  have G__law_entry := ok__law_entry (P := P) (w := w) (base := base) T
  have G__law_slot := ok__law_slot (P := P) (w := w) (base := base) T
  have G__law_book := ok__law_book (P := P) (w := w) (base := base) T
  have G__law_shuffled := ok__law_shuffled (P := P) (w := w) (base := base) T
  have G__law_extra := ok__law_extra (P := P) (w := w) (base := base) T
  have G__law_formed := ok__law_formed (P := P) (w := w) (base := base) T
  refine F.ok sc_law (fun vs H Q E h => by obtain ⟨a, ns, rfl, _⟩ := h; rfl) (fun cdv A outer s H vs Q E hr h => ?_)
  obtain ⟨a, ns, rfl, hS, _, hT, q⟩ := h
  refine ⟨_, (pss_cons (ps_set (i := 1) sc_law.nd rfl (Or.inr rfl) (pe_call (G__law_bag) (hr.mono (by decide)) (by rfl) T.g__law_bag T.k__law_bag T.b__law_bag .nil pass0 (pa_cons (pv 0) pa_nil)))
      (pss_cons (ps_asg (pe_call (G__law_book) (hr.mono (by decide)) (by rfl) T.g__law_book T.k__law_book T.b__law_book .nil pass0 (pa_cons (pv 1) (pa_cons (pe_call (G__law_pull) (hr.mono (by decide)) (by rfl) T.g__law_pull T.k__law_pull T.b__law_pull .nil pass0 (pa_cons (pv 1) (pa_cons pe_int pa_nil))) pa_nil))) (pg_tup (by rfl) (pgs_cons (pg_name (i := 2) sc_law.nd rfl (Or.inl rfl)) (pgs_cons (pg_name (i := 3) sc_law.nd rfl (Or.inl rfl)) (pgs_cons (pg_name (i := 4) sc_law.nd rfl (Or.inl rfl)) (pgs_cons (pg_name (i := 5) sc_law.nd rfl (Or.inl rfl)) pgs_nil))))))
      (pss_cons (ps_setLc (i := 6) (own := [("_law_row", 13)]) (g := gName 13) rfl sc_law.nd rfl rfl (sw_true rfl rfl rfl (by decide +kernel)) (pi_list (pv 2)) (blkOk_by (N := ["_law_script", "_law_bag_here", "_law_rows", "_law_holders", "_law_things", "_law_last", "_law_other", "_law_k", "_law_more", "_law_kept", "_law_one", "_law_two", "_law_found", "_law_row"]) (sc := defScope s_law) (by decide +kernel)) (fun _ _ _ _ _ => pg_name (i := 13) sc_law.nd rfl (Or.inl rfl)) (fun _ _ _ _ _ => (pts_one (pt_cmpR op_gtI (pe_call (G__law_pull) (hr.mono (by decide)) (by rfl) T.g__law_pull T.k__law_pull T.b__law_pull .nil pass0 (pa_cons (pv 1) (pa_cons pe_int pa_nil))) pe_int (nomark _)))) (fun _ _ _ _ _ => (pv 13)))
      (pss_cons (ps_set (i := 6) sc_law.nd rfl (Or.inl rfl) (pe_op op_addU (pv 6) (pe_lc (own := [("_law_row", 13)]) (g := gName 13) rfl sc_law.nd (pi_list (pe_slice sl_seqU (pv 2) (po_some pe_int) (po_some pe_int))) (blkOk_by (N := ["_law_script", "_law_bag_here", "_law_rows", "_law_holders", "_law_things", "_law_last", "_law_other", "_law_k", "_law_more", "_law_kept", "_law_one", "_law_two", "_law_found", "_law_row"]) (sc := defScope s_law) (by decide +kernel)) (fun _ _ _ _ _ => pg_name (i := 13) sc_law.nd rfl (Or.inl rfl)) (fun _ _ _ _ _ => (pts_one (PW.pt (pw_and (pt_cmpR op_isU (pe_call (G__law_slot) (hr.mono (by decide)) (by rfl) T.g__law_slot T.k__law_slot T.b__law_slot .nil pass0 (pa_cons (pv 13) pa_nil)) pe_non (nomark _)) (pw_and1 (pt_cmpR (show OpR _ _ (rEqD K) from (op_eqD hr.units)) (pe_call (G__law_pull) (hr.mono (by decide)) (by rfl) T.g__law_pull T.k__law_pull T.b__law_pull .nil pass0 (pa_cons (pv 1) (pa_cons pe_int pa_nil))) pe_int (nomark _))))))) (fun _ _ _ _ _ => (pv 13)))))
      (pss_cons (ps_for PassesOwn.never rfl (pi_range1 rfl T.n_range (pa_cons (pe_call (G__law_pull) (hr.mono (by decide)) (by rfl) T.g__law_pull T.k__law_pull T.b__law_pull .nil pass0 (pa_cons (pv 1) (pa_cons pe_int pa_nil))) pa_nil)) (pg_name (i := 7) sc_law.nd rfl (Or.inl rfl)) (pss_cons (ps_set (i := 8) sc_law.nd rfl (Or.inl rfl) (pe_call (G__law_entry) (hr.mono (by decide)) (by rfl) T.g__law_entry T.k__law_entry T.b__law_entry .nil pass0 (pa_cons (pv 1) (pa_cons (pv 3) (pa_cons (pv 4) (pa_cons (pv 5) pa_nil))))))
      (pss_one (ps_if (pt_cmpR (op_notInD (units65 hr)) (pe_call (G__law_slot) (hr.mono (by decide)) (by rfl) T.g__law_slot T.k__law_slot T.b__law_slot .nil pass0 (pa_cons (pv 8) pa_nil)) (pe_lc (own := [("_law_row", 13)]) (g := gName 13) rfl sc_law.nd (pi_list (pv 6)) (blkOk_by (N := ["_law_script", "_law_bag_here", "_law_rows", "_law_holders", "_law_things", "_law_last", "_law_other", "_law_k", "_law_more", "_law_kept", "_law_one", "_law_two", "_law_found", "_law_row"]) (sc := defScope s_law) (by decide +kernel)) (fun _ _ _ _ _ => pg_name (i := 13) sc_law.nd rfl (Or.inl rfl)) (fun _ _ _ _ _ => (pts_one (pt_cmpR op_notU (pe_call (G__law_slot) (hr.mono (by decide)) (by rfl) T.g__law_slot T.k__law_slot T.b__law_slot .nil pass0 (pa_cons (pv 13) pa_nil)) pe_non (nomark _)))) (fun _ _ _ _ _ => (pe_call (G__law_slot) (hr.mono (by decide)) (by rfl) T.g__law_slot T.k__law_slot T.b__law_slot .nil pass0 (pa_cons (pv 13) pa_nil)))) (by rfl)) (pss_one (ps_expr (pe_bm PySem.F.plainAttrs_list PySem.F.slot_list_append PySem.F.type_list_append mt_append (pv 6) (pa_cons (pv 8) pa_nil)))) pss_nil))))
      (pss_cons (ps_setLc (i := 6) (own := [("_law_row", 13)]) (g := gName 13) (tt := tYes) rfl sc_law.nd rfl rfl (sw_true rfl rfl rfl (by decide +kernel)) (pi_list (pe_call (G__law_shuffled) (hr.mono (by decide)) (by rfl) T.g__law_shuffled T.k__law_shuffled T.b__law_shuffled .nil pass0 (pa_cons (pv 1) (pa_cons (pv 6) pa_nil)))) (blkOk_by (N := ["_law_script", "_law_bag_here", "_law_rows", "_law_holders", "_law_things", "_law_last", "_law_other", "_law_k", "_law_more", "_law_kept", "_law_one", "_law_two", "_law_found", "_law_row"]) (sc := defScope s_law) (by decide +kernel)) (fun _ _ _ _ _ => pg_name (i := 13) sc_law.nd rfl (Or.inl rfl)) (fun _ _ _ _ _ => pts_nil) (fun _ _ _ _ _ => (pe_ifExp (pt_cmpR (show OpR _ _ (rEqD K) from (op_eqD hr.units)) (pe_ix (show IxR _ (rIx K) from ix_seq) (pv 13) pe_int (fun _ _ => rfl)) pe_str (nomark _)) (pe_op (show OpR _ _ (rAddU K) from op_addU) (pe_slice (show SlR _ (rSlU K) from sl_seqU) (pv 13) po_none (po_some pe_int)) (pe_tup (pa_cons (show PE _ _ (tRevTu K _) from pe_revTu (pe_ix (show IxR _ (rIx K) from ix_seq) (pv 13) pe_int (fun _ _ => rfl))) pa_nil))) (pv 13))))
      (pss_cons (ps_set (i := 9) sc_law.nd rfl (Or.inl rfl) (pe_tup (pa_cons (pe_callTy call_listU (by rfl) T.n_list (by decide +kernel) (pa_cons (pv 2) pa_nil)) (pa_cons (pe_callTy call_listU (by rfl) T.n_list (by decide +kernel) (pa_cons (pv 6) pa_nil)) pa_nil))))
      (pss_cons (ps_set (i := 10) sc_law.nd rfl (Or.inl rfl) (pe_call (G__law_formed) (hr.mono (by decide)) (by rfl) T.g__law_formed T.k__law_formed T.b__law_formed .nil pass0 (pa_cons (pv 2) pa_nil)))
      (pss_cons (ps_set (i := 11) sc_law.nd rfl (Or.inl rfl) (pe_call (G__law_formed) (hr.mono (by decide)) (by rfl) T.g__law_formed T.k__law_formed T.b__law_formed .nil pass0 (pa_cons (pv 6) pa_nil)))
      (pss_cons (ps_set (i := 12) sc_law.nd rfl (Or.inl rfl) (pe_call (G_parting) (hr.mono (by decide)) (by rfl) T.g_parting T.k_parting T.b_parting .nil pass0 (pa_cons (pv 2) (pa_cons (pv 6) pa_nil))))
      (pss_cons (ps_if (PW.pt (pw_or (pt_not (pt_tru (pe_callB call_isi (by rfl) T.n_isinstance (by decide +kernel) (pa_cons (pv 12) (pa_cons (pe_bltn (v := .ty "tuple") (by rfl) T.n_tuple (by decide +kernel) rfl) pa_nil))))) (pw_or1 (pt_cmpR (op_neD hr.units) (pv 12) (pe_tup (pa_cons (pe_call (G__law_extra) (hr.mono (by decide)) (by rfl) T.g__law_extra T.k__law_extra T.b__law_extra .nil pass0 (pa_cons (pv 10) (pa_cons (pv 11) pa_nil))) (pa_cons (pe_call (G__law_extra) (hr.mono (by decide)) (by rfl) T.g__law_extra T.k__law_extra T.b__law_extra .nil pass0 (pa_cons (pv 11) (pa_cons (pv 10) pa_nil))) pa_nil))) (nomark _))))) (pss_one (ps_ret pe_bl)) pss_nil)
      (pss_cons (ps_if (PW.pt (pw_or (pt_cmpR (op_neD hr.units) (pe_call (G_parting) (hr.mono (by decide)) (by rfl) T.g_parting T.k_parting T.b_parting .nil pass0 (pa_cons (pv 6) (pa_cons (pv 2) pa_nil))) (pe_tup (pa_cons (pe_ix ix_seq (pv 12) pe_int (fun _ _ => rfl)) (pa_cons (pe_ix ix_seq (pv 12) pe_int (fun _ _ => rfl)) pa_nil))) (nomark _)) (pw_or1 (pt_cmpR (op_neD hr.units) (pe_call (G_parting) (hr.mono (by decide)) (by rfl) T.g_parting T.k_parting T.b_parting .nil pass0 (pa_cons (pv 2) (pa_cons (pe_revL (pv 2)) pa_nil))) (pe_tup (pa_cons (pe_lst pa_nil) (pa_cons (pe_lst pa_nil) pa_nil))) (nomark _))))) (pss_one (ps_ret pe_bl)) pss_nil)
      (pss_one (ps_ret (pe_cmpR (op_eqD hr.units) (pe_tup (pa_cons (pv 2) (pa_cons (pv 6) pa_nil))) (pv 9) (nomark _)))))))))))))))), ?_⟩
  walk_at "cr.k"
  rename_i b l H1 hs1 nb nl hB1 m H2 m0 m1 hb2 hB2 p pr ph pt L vs es ys zs H3 hb3 bk hp3
  have hB3 := bk.bag
  refine s_gtupQ (.of hp3) rfl ?_
  have hr3 := bk.r
  have he3 := bk.e
  have hh3 := bk.h
  have ht3 := bk.t
  have hT3 := tabP_but hb3 (tabP_but hb2 (tabP_same hs1 hT))
  have nrb := bk.rb
  have nhb := bk.hb
  have ntb := bk.tb
  have hii := bk.i
  have hi3 : ∀ x, x ∈ es → EntIn Nm Nm 400 x := fun x hx => EntOf.mono (bk.i x hx) bk.ym bk.zm bk.L1
  have hlen3 : es.length ≤ 14 := by have := bk.n; omega
  have hvl : vs.length = es.length := A2.len he3
  have L0 := bk.L0
  have L1 := bk.L1
  have y0 := bk.y0
  have y1 := bk.y1
  have z0 := bk.z0
  have z1 := bk.z1
  have yn := bk.yn
  have zn := bk.zn
  have ym := bk.ym
  have zm := bk.zm
  clear hs1 nb nl hB1 hb2 hB2 hb3 hp3 hS hT bk m0 m1 hii
  walk_at "cr.go"
  refine c_listF (stp_but hB3) (fun H v e => Dt K H v (dE e)) (fun H e v => Dt K H v (dE e)) (fun _ _ _ _ k h => h.mono k.kt) (fun _ _ _ _ k h => h.mono k.kt) (fun A s => .of (s.1.oth _ _ nrb hr3)) he3 (by omega) ?_ ?_
  · rintro x ⟨k, d, rest⟩ A Nt Nf hz hP hS hT hF
    obtain ⟨hbA, hBA⟩ := hS
    clear hr3 he3 hh3 ht3 hT3 hB3 hbA
    walk_at "cr.n"
    walk_at "cr.go"
    refine ⟨rfl, ?_⟩
    walk_at "cr.go"
    refine s_iteD (fun h => ?_) (fun h => ?_)
    · walk_at "cr.go"
      exact hT _ _ ⟨by walk_at "cr.but", by walk_at "cr.bag"⟩ (by walk_at "cr.dt")
    · exact hF _ ⟨by walk_at "cr.but", by walk_at "cr.bag"⟩
  intro p4 ws4 fs4 H4 hS4 hp4n hp4 hsub4 h4
  obtain ⟨hb4, hB4⟩ := hS4
  have n4b : p4 ≠ b := Bag.ne1' hp4n hB3
  have hr4 := hb4.oth _ _ nrb hr3
  have hh4 := hb4.oth _ _ nhb hh3
  have ht4 := hb4.oth _ _ ntb ht3
  have he4 := he3.mono (kt_but hb4)
  have hT4 := tabP_but hb4 hT3
  have hf4 : EntsAt K H4 ws4 fs4 := A2.flip h4
  have hfl4 : fs4.length ≤ 14 := by have := hsub4.length_le; omega
  have hfi4 : ∀ x, x ∈ fs4 → EntIn Nm Nm 400 x := fun x hx => hi3 x (hsub4.subset hx)
  clear hb4 hp4n h4 hsub4 hB3 hr3 hh3 ht3 he3 hT3
  walk_at "cr.n"
  walk_at "cr.go"
  rename_i p5 hp5
  have s5 := same_new (o := .lst (cutV vs (some 2) (some 6))) hp5
  have n5b : p5 ≠ b := Bag.ne1' hp5 hB4
  have hc5 : upd H4 p5 (.lst (cutV vs (some 2) (some 6))) p5 = some (.lst (cutV vs (some 2) (some 6))) := upd_same
  have hec : EntsAt K (upd H4 p5 (.lst (cutV vs (some 2) (some 6)))) (cutV vs (some 2) (some 6)) ((es.drop 2).take 4) := by
    have e0 : cutV vs (some 2) (some 6) = (vs.drop 2).take 4 := cutV_two _ (by decide) (by decide)
    have h0 := A2.takeQ (A2.dropQ (he4.mono (kt_same s5)) 2) 4
    rw [← e0] at h0
    exact h0
  have hB5 := hB4.same s5
  have hr5 := s5 _ _ hr4
  have hh5 := s5 _ _ hh4
  have ht5 := s5 _ _ ht4
  have he5 := he4.mono (kt_same s5)
  have hT5 := tabP_same s5 hT4
  have hf5 := hf4.mono (kt_same s5)
  have hp45 := s5 _ _ hp4
  generalize cutV vs (some 2) (some 6) = cv at *
  generalize upd H4 p5 (.lst cv) = H5 at *
  have hcl : cv.length ≤ 4 := by rw [A2.len hec, List.length_take]; omega
  clear s5 hB4 hr4 hh4 ht4 he4 hT4 hf4 hp4 hp5
  refine c_listF (stp_but hB5) (fun H v e => Dt K H v (dE e)) (fun H e v => Dt K H v (dE e)) (fun _ _ _ _ k h => h.mono k.kt) (fun _ _ _ _ k h => h.mono k.kt) (fun A s => .of (s.1.oth _ _ n5b hc5)) hec (by omega) ?_ ?_
  · rintro x ⟨k, d, rest⟩ A Nt Nf hz hP hS hT hF
    obtain ⟨hbA, hBA⟩ := hS
    have hP : Dt K A x (entD k d rest) := hP
    clear hr5 hh5 ht5 he5 hT5 hf5 hp45 hc5 hec hbA hB5
    walk_at "cr.n"
    walk_at "cr.go"
    refine ⟨rfl, ?_⟩
    walk_at "cr.go"
    rename_i v B sB hv
    rcases slot_cases (k, d, rest) with hsn | ⟨ds, hsn⟩
    · rw [show slotD k d rest = .none from hsn] at hv
      obtain rfl := hv.non_eq
      refine s_isNN ?_
      walk_at "cr.go"
      refine s_iteD (fun h => ?_) (fun h => ?_)
      · walk_at "cr.go"
        exact hT _ _ ⟨by walk_at "cr.but", by walk_at "cr.bag"⟩ (by walk_at "cr.dt")
      · exact hF _ ⟨by walk_at "cr.but", by walk_at "cr.bag"⟩
    · rw [show slotD k d rest = .tuple ds from hsn] at hv
      refine s_isTN hv ?_
      walk_at "cr.go"
      exact hF _ ⟨by walk_at "cr.but", by walk_at "cr.bag"⟩
  intro p6 ws6 fs6 H6 hS6 hp6n hp6 hsub6 h6
  obtain ⟨hb6, hB6⟩ := hS6
  walk_at "cr.n"
  walk_at "cr.go"
  have hr6 := hb6.oth _ _ nrb hr5
  have hh6 := hb6.oth _ _ nhb hh5
  have ht6 := hb6.oth _ _ ntb ht5
  have he6 := he5.mono (kt_but hb6)
  have hT6 := tabP_but hb6 hT5
  have hf6 : EntsAt K H6 ws6 fs6 := A2.flip h6
  have hp46 := hb6.oth _ _ n4b hp45
  have hf46 := hf5.mono (kt_but hb6)
  have hfl6 : fs6.length ≤ 4 := Nat.le_trans hsub6.length_le (by rw [List.length_take]; omega)
  have hfi6 : ∀ x, x ∈ fs6 → EntIn Nm Nm 400 x := fun x hx => hi3 x (List.mem_of_mem_drop (List.mem_of_mem_take (hsub6.subset hx)))
  have hwl4 : ws4.length = fs4.length := A2.len hf46
  have hwl6 : ws6.length = fs6.length := A2.len hf6
  refine s_addL hp46 hp6 (Nat.le_of_lt (room5 (by omega))) fun p7 hp7 => ?_
  have s7 := same_new (o := .lst (ws4 ++ ws6)) hp7
  have hf7 : EntsAt K (upd H6 p7 (.lst (ws4 ++ ws6))) (ws4 ++ ws6) (fs4 ++ fs6) := A2.appQ (hf6.mono (kt_same s7)) (hf46.mono (kt_same s7))
  have hp77 : upd H6 p7 (.lst (ws4 ++ ws6)) p7 = some (.lst (ws4 ++ ws6)) := upd_same
  have hB7 := hB6.same s7
  have n7b : p7 ≠ b := Bag.ne1' hp7 hB6
  have n7l : p7 ≠ l := Bag.ne2' hp7 hB6
  have n7r : pr ≠ p7 := ne_on hp7 hr6
  have n7h : ph ≠ p7 := ne_on hp7 hh6
  have n7t : pt ≠ p7 := ne_on hp7 ht6
  have hr7 := s7 _ _ hr6
  have hh7 := s7 _ _ hh6
  have ht7 := s7 _ _ ht6
  have he7 := he6.mono (kt_same s7)
  have hT7 := tabP_same s7 hT6
  have hfi7 : ∀ x, x ∈ fs4 ++ fs6 → EntIn Nm Nm 400 x := fun x hx => (List.mem_append.mp hx).elim (hfi4 x) (hfi6 x)
  have hfl7 : (fs4 ++ fs6).length ≤ 18 := by rw [List.length_append]; omega
  generalize ws4 ++ ws6 = ws7 at *
  generalize fs4 ++ fs6 = fs7 at *
  generalize upd H6 p7 (.lst ws7) = H7 at *
  clear s7 hp7 hB6 hr6 hh6 ht6 he6 hT6 hf6 hp46 hf46 hfi6 hfi4 hsub6 h6 hb6 hp6n hp6 hec hc5 hr5 hh5 ht5 he5 hT5 hf5 hp45 hB5 hwl4 hwl6 hfl4 hfl6
  walk_at "cr.go"
  rename_i kl H8 kl0 kl1 hb8 hB8
  have hr8 := hb8.oth _ _ nrb hr7
  have hh8 := hb8.oth _ _ nhb hh7
  have ht8 := hb8.oth _ _ ntb ht7
  have he8 := he7.mono (kt_but hb8)
  have hT8 := tabP_but hb8 hT7
  have hf8 := hf7.mono (kt_but hb8)
  have hp78 := hb8.oth _ _ n7b hp77
  clear hb8 hB7 hr7 hh7 ht7 he7 hT7 hf7 hp77
  refine r_each [7, 8] (fun n H' => Bag H' b l ∧ H' pr = some (.lst vs) ∧ H' ph = some (.lst (ys.map V.str)) ∧ H' pt = some (.lst (zs.map V.str)) ∧ EntsAt K H' vs es ∧ TabS H' T.tP qIO ∧ ∃ ws fs, H' p7 = some (.lst ws) ∧ EntsAt K H' ws fs ∧ (∀ x, x ∈ fs → EntIn Nm Nm 400 x) ∧ fs.length ≤ 18 + n)
    ⟨hB8, hr8, hh8, ht8, he8, hT8, ws7, fs7, hp78, hf8, hfi7, by omega⟩ rfl ?_ ?_
  · rintro n f9 H9 hn ⟨hB9, hr9, hh9, ht9, he9, hT9, ws9, fs9, hp9, hf9, hfi9, hfl9⟩
    clear hB8 hr8 hh8 ht8 he8 hT8 hp78 hf8 hfi7 hfl7
    walk_at "cr.n"
    walk_at "cr.go"
    rename_i v1 k d rest H10 hb10 hB10 hd10 hent10 v2 H11 s11 hd11
    have hnew : EntIn Nm Nm 400 (k, d, rest) := EntOf.mono hent10 ym zm L1
    have hr11 := s11 _ _ (hb10.oth _ _ nrb hr9)
    have hh11 := s11 _ _ (hb10.oth _ _ nhb hh9)
    have ht11 := s11 _ _ (hb10.oth _ _ ntb ht9)
    have hp11 := s11 _ _ (hb10.oth _ _ n7b hp9)
    have he11 := (he9.mono (kt_but hb10)).mono (kt_same s11)
    have hf11 := (hf9.mono (kt_but hb10)).mono (kt_same s11)
    have hT11 := tabP_same s11 (tabP_but hb10 hT9)
    have hB11 := hB10.same s11
    have hv11 : Dt K H11 v1 (dE (k, d, rest)) := hd10.mono (kt_same s11)
    have hv2 : Dt K H11 v2 (slotE (k, d, rest)) := hd11
    clear hb10 hB10 hd10 s11 hd11 hB9 hr9 hh9 ht9 he9 hT9 hp9 hf9
    have hwl : ws9.length ≤ 1000 := by rw [A2.len hf11]; omega
    refine c_listF (stp_same H11) (fun H v e => Dt K H v (dE e)) (fun H e v => Dt K H v (slotE e)) (fun _ _ _ _ k h => h.mono k.kt) (fun _ _ _ _ k h => h.mono k.kt) (fun A s => .of (s _ _ hp11)) hf11 hwl ?_ ?_
    · rintro x ⟨k', d', rest'⟩ A Nt Nf hz hP hS hT hF
      have hP : Dt K A x (entD k' d' rest') := hP
      clear hr11 hh11 ht11 hp11 he11 hf11 hT11 hB11 hv11 hv2
      walk_at "cr.n"
      walk_at "cr.go"
      refine ⟨rfl, ?_⟩
      walk_at "cr.go"
      rename_i v B sB hv
      rcases slot_cases (k', d', rest') with hsn | ⟨ds, hsn⟩
      · rw [show slotD k' d' rest' = .none from hsn] at hv
        obtain rfl := hv.non_eq
        refine s_ntNN ?_
        walk_at "cr.go"
        exact hF _ sB
      · rw [show slotD k' d' rest' = .tuple ds from hsn] at hv
        refine s_ntTN hv ?_
        have hP2 : Dt K B x (entD k' d' rest') := hP.mono (kt_same sB)
        walk_at "cr.go"
        exact hT _ _ (by walk_at "cr.sm") (by assumption)
    intro p12 ws12 fs12 H12 s12 np12 hp12 hsub12 h12
    have hs12 : DtAll K H12 ws12 (fs12.map slotE) := a2_das (f := slotE) (A2.flip h12)
    have hls : ∀ d, d ∈ fs12.map slotE → LayN 3 d := fun d hd => by
      obtain ⟨x, hx, rfl⟩ := List.mem_map.mp hd
      exact lay_slot (fun _ z => z.txt) (fun _ z => z.txt) (hfi9 x (hsub12.subset hx))
    walk_at "cr.n"
    walk_at "cr.go"
    refine s_ntInD (hv2.mono (kt_same s12)) (.of hp12) hs12 (lay_slot (fun _ z => z.txt) (fun _ z => z.txt) hnew) hls (by decide) ?_
    have hr12 := s12 _ _ hr11
    have hh12 := s12 _ _ hh11
    have ht12 := s12 _ _ ht11
    have hp12' := s12 _ _ hp11
    have he12 := he11.mono (kt_same s12)
    have hf12 := hf11.mono (kt_same s12)
    have hT12 := tabP_same s12 hT11
    have hB12 := hB11.same s12
    have hv12 := hv11.mono (kt_same s12)
    clear hr11 hh11 ht11 hp11 he11 hf11 hT11 hB11 hv11 hv2 s12 np12 h12 hs12 hp12
    generalize (!(fs12.map slotE).any fun z => PyData.eqv z (slotE (k, d, rest))) = c
    walk_at "cr.go"
    have hap : ws9.length < sizeLine := room5 (by omega)
    cases c with
    | false =>
      refine s_itF ?_
      walk_at "cr.go"
      exact ⟨i_of rfl, hB12, hr12, hh12, ht12, he12, hT12, ws9, fs9, hp12', hf12, hfi9, by omega⟩
    | true =>
      refine s_itT ?_
      have kt12 := kt_mut (o' := .lst (ws9 ++ [v1])) hp12' rfl
      walk_at "cr.go"
      exact ⟨i_of rfl, hB12.upd n7b n7l, by rw [upd_ne n7r]; exact hr12, by rw [upd_ne n7h]; exact hh12, by rw [upd_ne n7t]; exact ht12, he12.mono kt12, tabP_mut hp12' hT12, _, fs9 ++ [(k, d, rest)], upd_same, A2.snoc (R := fun u e => Dt K (upd H12 p7 (.lst (ws9 ++ [v1]))) u (dE e)) (hv12.mono kt12) (hf12.mono kt12), fun x hx => (List.mem_append.mp hx).elim (hfi9 x) (fun z => by rw [List.mem_singleton.mp z]; exact hnew), by rw [List.length_append]; show fs9.length + 1 ≤ _; omega⟩
  rintro f9 H9 ⟨hB9, hr9, hh9, ht9, he9, hT9, ws9, fs9, hp9, hf9, hfi9, hfl9⟩
  have hfl9 : fs9.length ≤ 21 := by omega
  clear hB8 hr8 hh8 ht8 he8 hT8 hp78 hf8 hfi7 hfl7 hh9 ht9
  walk_at "cr.n"
  walk_at "cr.go"
  refine u__law_shuffled rfl hB9 (.of hp9) n7b (by rw [A2.len hf9]; omega) fun pq wq H10 hb10 hB10 npq hq hpm => ?_
  obtain ⟨gs, hg10, hgp⟩ := A2.perm hpm (EntsAt.mono (kt_but hb10) hf9)
  have hgi : ∀ x, x ∈ gs → EntIn Nm Nm 400 x := fun x hx => hfi9 x (hgp.mem_iff.mp hx)
  have hgl : gs.length ≤ 21 := by rw [hgp.length_eq]; exact hfl9
  have hr10 := hb10.oth _ _ nrb hr9
  have he10 := he9.mono (kt_but hb10)
  have hT10 := tabP_but hb10 hT9
  clear hb10 hB9 hr9 he9 hT9 hp9 hf9 hfi9 hfl9 hpm npq hgp hB10
  refine ⟨pq, rfl, ⟨_, .of hq⟩, ?_⟩
  have hwl : wq.length ≤ 1000 := by rw [A2.len hg10]; omega
  refine c_listS (fun H v e => Dt K H v (dE e)) (fun H e v => Dt K H v (dE (revE e))) (fun _ _ _ _ k h => h.mono k.kt) (fun _ _ _ _ k h => h.mono k.kt) (.of hq) hg10 hwl ?_ ?_
  · rintro x ⟨k, d, rest⟩ A N hz hP hS hN
    have hent : EntOf Nm Nm 400 k d rest := hgi _ hz
    have hsk : SeqAt.shaped (.str k) = true := (lay_str (n := 0) (kind_txt hent.kind)).sh
    have hP : Dt K A x (.tuple (.str k :: .int d :: rest)) := hP
    clear hq hg10 hr10 he10 hT10 hS
    walk_at "cr.n"
    walk_at "cr.go"
    refine ⟨rfl, ?_⟩
    walk_at "cr.go"
    refine s_iteD (fun hm => ?_) (fun hm => ?_)
    · obtain ⟨ps, rfl, hps⟩ := mix_ps hent hm
      walk_at "cr.go"
      refine s_slThi (hi := 2) hP (by decide) (by show (2 : Int) < 3; decide) fun v1 A1 sA1 hv1 => ?_
      have hP1 := hP.mono (kt_same sA1)
      have hv1 : Dt K A1 v1 (.tuple [.str k, .int d]) := hv1
      clear hP
      walk_at "cr.go"
      refine s_revTu ?_
      walk_at "cr.go"
      rename_i v2 hv2
      refine s_isRevTu hv2 fun v3 A3 sA3 hv3 => ?_
      have hv1b := hv1.mono (kt_same sA3)
      walk_at "cr.go"
      rename_i v9 H9 s9 h9
      refine hN _ _ (by walk_at "cr.sm") ?_
      subst hm
      rw [revE_mix]
      show Dt K _ _ (.tuple [.str "mix", .int d, .tuple (ps.reverse.map fun p => PyData.tuple [.str p.1, .int p.2])])
      rw [List.map_reverse]
      exact h9
    · walk_at "cr.go"
      refine hN _ _ (by walk_at "cr.sm") ?_
      rw [show revE (k, d, rest) = (k, d, rest) from revE_other hm]
      exact hP
  intro p14 ws14 H14 s14 np14 hp14 h14
  walk_at "cr.n"
  walk_at "cr.go"
  rename_i k1 hk1 k2 hk2 pK hpK
  have hf14 : EntsAt K H14 ws14 (gs.map revE) := EntsAt.of_map h14
  have hfi : ∀ x, x ∈ gs.map revE → EntIn Nm Nm 400 x := fun x hx => by
    obtain ⟨y, hy, rfl⟩ := List.mem_map.mp hx
    exact revE_in (hgi y hy)
  have hfl : (gs.map revE).length ≤ 21 := by rw [List.length_map]; exact hgl
  generalize gs.map revE = fs at *
  have sk1 := same_new (o := .lst vs) hk1
  have sk2 := same_new (o := .lst ws14) hk2
  have sK := same_new (o := .tup [.ref k1, .ref k2]) hpK
  have s15 := (s14.trans sk1).trans (sk2.trans sK)
  have hr15 := s15 _ _ hr10
  have he15 := he10.mono (kt_same s15)
  have hT15 := tabP_same s15 hT10
  have ho15 := sK _ _ (sk2 _ _ (sk1 _ _ hp14))
  have hf15 := hf14.mono (kt_same (sk1.trans (sk2.trans sK)))
  have hk1b := sK _ _ (sk2 _ _ (upd_same (H := H14) (a := k1) (o := .lst vs)))
  have hk2b := sK _ _ (upd_same (H := upd H14 k1 (.lst vs)) (a := k2) (o := .lst ws14))
  have hKb := upd_same (H := upd (upd H14 k1 (.lst vs)) k2 (.lst ws14)) (a := pK) (o := .tup [.ref k1, .ref k2])
  generalize upd (upd (upd H14 k1 (.lst vs)) k2 (.lst ws14)) pK (.tup [.ref k1, .ref k2]) = H15 at *
  clear s15 sK sk1 sk2 hf14 h14 hp14 np14 s14 hr10 he10 hT10 hg10 hq hk1 hk2 hpK hgi hgl hwl
  have wl1 : vs.length ≤ 500 := by omega
  have wl2 : ws14.length ≤ 500 := by rw [A2.len hf15]; omega
  refine u__law_formed rfl (.of hr15) he15 hi3 wl1 fun p1 us1 H16 s16 n16 hp16 he16 => ?_
  walk_at "cr.go"
  refine u__law_formed rfl (.of (s16 _ _ ho15)) (hf15.mono (kt_same s16)) hfi wl2 fun p2 us2 H17 s17 n17 hp17 hf17 => ?_
  have s1 := s16.trans s17
  have D17 : Hd58 K H17 pr p14 pK k1 k2 p1 p2 vs ws14 us1 us2 es fs :=
    ⟨s1 _ _ hr15, s1 _ _ ho15, s1 _ _ hKb, s1 _ _ hk1b, s1 _ _ hk2b, s17 _ _ hp16, hp17, he15.mono (kt_same s1), hf15.mono (kt_same s1), he16.mono (kt_same s17), hf17⟩
  have hT17 := tabP_same s1 hT15
  clear s1 s16 s17 n16 n17 hp16 hp17 he16 hf17 hr15 he15 ho15 hf15 hk1b hk2b hKb hT15
  walk_at "cr.go"
  refine u_parting rfl (.of D17.r) (.of D17.o) D17.e D17.f hi3 hfi wl1 wl2 hT17 fun pp a1 a2 F R H18 x18 t18 f18 hp18 l18a l18b P18 => ?_
  rw [byDay_all hi3, byDay_all hfi] at P18
  have D18 := D17.ext x18
  clear D17 hT17 x18 f18
  have iF := form_in hi3
  have iR := form_in hfi
  have FS := sort_in P18.mem.1 iF
  have RS := sort_in P18.mem.2 iR
  have ul1 : us1.length ≤ 500 := by rw [A2.len D18.e1, List.length_map]; omega
  have ul2 : us2.length ≤ 500 := by rw [A2.len D18.f1, List.length_map]; omega
  walk_at "cr.go"
  refine s_isTy (.base (.tup hp18)) kit_tt ?_
  walk_at "cr.go"
  refine u__law_extra rfl (.of D18.p1) (.of D18.p2) D18.e1 D18.f1 iF iR ul1 ul2 fun q1 F1 R1 H19 s19 n19 l19 P19 => ?_
  have x19 := extP_same (extP_refl H18) s19
  have D19 := D18.ext x19
  have hp19 := s19 _ _ hp18
  have l19a := lst_ext l18a x19
  have l19b := lst_ext l18b x19
  have t19 := tabP_same s19 t18
  rw [sortE_of_perm (P19.left P18) fun x hx => iF x (P19.mem.1 x hx)] at l19
  clear D18 hp18 l18a l18b t18 x19 s19 n19 P19
  walk_at "cr.go"
  refine u__law_extra rfl (.of D19.p2) (.of D19.p1) D19.f1 D19.e1 iR iF ul2 ul1 fun q2 F2 R2 H20 s20 n20 l20 P20 => ?_
  have x20 := extP_same (extP_refl H19) s20
  have D20 := D19.ext x20
  have hp20 := s20 _ _ hp19
  have l20a := lst_ext l19a x20
  have l20b := lst_ext l19b x20
  have m20 := lst_ext l19 x20
  have t20 := tabP_same s20 t19
  rw [sortE_of_perm (P20.left P18.symm) fun x hx => iR x (P20.mem.1 x hx)] at l20
  clear D19 hp19 l19a l19b t19 x20 s20 n20 P20 l19
  walk_at "cr.go"
  rename_i pz hpz
  have x21 := extP_same (extP_refl H20) (same_new (o := .tup [.ref q1, .ref q2]) hpz)
  have D21 := D20.ext x21
  have hp21 := x21 _ _ hp20 (fun ps z => nomatch z)
  have l21a := lst_ext l20a x21
  have l21b := lst_ext l20b x21
  have t21 := tabP_same (same_new (o := .tup [.ref q1, .ref q2]) hpz) t20
  refine s_nePr hp21 l21a l21b upd_same (lst_ext m20 x21) (lst_ext l20 x21) FS RS ?_
  generalize upd H20 pz (.tup [.ref q1, .ref q2]) = H21 at *
  clear D20 hp20 l20a l20b t20 x21 m20 l20 hpz
  walk_at "cr.go"
  refine u_parting rfl (.of D21.o) (.of D21.r) D21.f D21.e hfi hi3 wl2 wl1 t21 fun pb b1 b2 F3 R3 H22 x22 t22 f22 hb22 l22c l22d P22 => ?_
  rw [byDay_all hi3, byDay_all hfi] at P22
  have D22 := D21.ext x22
  have hp22 := x22 _ _ hp21 (fun ps z => nomatch z)
  have l22a := lst_ext l21a x22
  have l22b := lst_ext l21b x22
  rw [sortE_of_perm (P22.left P18.symm) fun x hx => iR x (P22.mem.1 x hx)] at l22c
  rw [sortE_of_perm (P22.right P18.symm) fun x hx => iF x (P22.mem.2 x hx)] at l22d
  clear D21 hp21 l21a l21b t21 x22 f22
  walk_at "cr.go"
  rename_i py hpy
  have x23 := extP_same (extP_refl H22) (same_new (o := .tup [.ref a2, .ref a1]) hpy)
  refine s_nePr (x23 _ _ hb22 (fun ps z => nomatch z)) (lst_ext l22c x23) (lst_ext l22d x23) upd_same (lst_ext l22b x23) (lst_ext l22a x23) RS FS ?_
  have D23 := D22.ext x23
  have t23 := tabP_same (same_new (o := .tup [.ref a2, .ref a1]) hpy) t22
  generalize upd H22 py (.tup [.ref a2, .ref a1]) = H23 at *
  clear D22 hp22 l22a l22b t22 x23 l22c l22d hpy hb22
  walk_at "cr.go"
  refine s_isRev (.of D23.r) fun pv hpv => ?_
  have x24 := extP_same (extP_refl H23) (same_new (o := .lst vs.reverse) hpv)
  have t24 := tabP_same (same_new (o := .lst vs.reverse) hpv) t23
  have D24 := D23.ext x24
  have hv24 : upd H23 pv (.lst vs.reverse) pv = some (.lst vs.reverse) := upd_same
  generalize upd H23 pv (.lst vs.reverse) = H24 at *
  clear D23 t23 x24 hpv
  walk_at "cr.go"
  refine u_parting rfl (.of D24.r) (.of hv24) D24.e (A2.revQ D24.e) hi3 (fun x hx => hi3 x (List.mem_reverse.mp hx)) wl1 (by rw [List.length_reverse]; exact wl1) t24 fun pb3 b3 b4 F4 R4 H25 x25 t25 f25 hb25 l25a l25b P25 => ?_
  rw [byDay_all hi3, byDay_all (fun x hx => hi3 x (List.mem_reverse.mp hx)), List.map_reverse] at P25
  obtain ⟨rfl, rfl⟩ := PartOf.none (P25.perm (.refl _) (List.reverse_perm _).symm)
  have e0 : sortE [] = [] := List.Perm.eq_nil (sortE_perm [])
  rw [e0] at l25a l25b
  have D25 := D24.ext x25
  clear D24 hv24 t24 x25 f25 P25
  walk_at "cr.go"
  rename_i g1 hg1 g2 hg2 g3 hg3
  have y1' := same_new (o := .lst []) hg1
  have y2' := same_new (o := .lst []) hg2
  have y3' := same_new (o := .tup [.ref g1, .ref g2]) hg3
  have x26 := extP_same (extP_refl H25) ((y1'.trans y2').trans y3')
  refine s_nePr (es := []) (fs := []) (x26 _ _ hb25 (fun ps z => nomatch z)) (lst_ext l25a x26) (lst_ext l25b x26) upd_same ⟨[], y3' _ _ (y2' _ _ upd_same), .nil⟩ ⟨[], y3' _ _ upd_same, .nil⟩ (fun x hx => nomatch hx) (fun x hx => nomatch hx) ?_
  have D26 := D25.ext x26
  generalize upd (upd (upd H25 g1 (.lst [])) g2 (.lst [])) g3 (.tup [.ref g1, .ref g2]) = H26 at *
  clear D25 x26 y1' y2' y3' hg1 hg2 hg3 l25a l25b hb25 t25
  walk_at "cr.go"
  rename_i pe hpe
  have D27 := D26.ext (extP_same (extP_refl H26) (same_new (o := .tup [.ref pr, .ref p14]) hpe))
  refine s_eqPr upd_same ⟨vs, D27.r, EntsAt.daQ D27.e⟩ ⟨ws14, D27.o, EntsAt.daQ D27.f⟩ D27.k ⟨vs, D27.k1, EntsAt.daQ D27.e⟩ ⟨ws14, D27.k2, EntsAt.daQ D27.f⟩ hi3 hfi ?_
  walk_at "cr.go"
  exact q _

end
theorem all_mk {l : PySem.W.OpenLaw} {w : World} {K : PySem.W.Frag} {h : Heap} {mg : Str → Option Value} {fa : Addr} (X : K.In h) (G : h.Ns mainGlobals mg) (hfa : mg "law" = some (.ref fa))
    {t_LAST : Tok}
    {t_LETTERS : Tok}
    {t_MOST_PRICE : Tok}
    {t_MOST_SUM : Tok}
    {t_WHOLE : Tok}
    {a_FORMS : Addr} {es_FORMS : Array DictEntry} {n_FORMS : Nat}
    {a_FORMS_price : Addr} {d_FORMS_price : Option Addr} {n_FORMS_price : Nat} {z_FORMS_price : Array (Option Value)}
    {a_FORMS_mix : Addr} {d_FORMS_mix : Option Addr} {n_FORMS_mix : Nat} {z_FORMS_mix : Array (Option Value)}
    {a_FORMS_come : Addr} {d_FORMS_come : Option Addr} {n_FORMS_come : Nat} {z_FORMS_come : Array (Option Value)}
    {a_FORMS_go : Addr} {d_FORMS_go : Option Addr} {n_FORMS_go : Nat} {z_FORMS_go : Array (Option Value)}
    {a_FORMS_draw : Addr} {d_FORMS_draw : Option Addr} {n_FORMS_draw : Nat} {z_FORMS_draw : Array (Option Value)}
    {a_FORMS_give : Addr} {d_FORMS_give : Option Addr} {n_FORMS_give : Nat} {z_FORMS_give : Array (Option Value)}
    {a_FORMS_rate : Addr} {d_FORMS_rate : Option Addr} {n_FORMS_rate : Nat} {z_FORMS_rate : Array (Option Value)}
    {a_FORMS_harvest : Addr} {d_FORMS_harvest : Option Addr} {n_FORMS_harvest : Nat} {z_FORMS_harvest : Array (Option Value)}
    {a_FORMS_aside : Addr} {d_FORMS_aside : Option Addr} {n_FORMS_aside : Nat} {z_FORMS_aside : Array (Option Value)}
    {a_FORMS_home : Addr} {d_FORMS_home : Option Addr} {n_FORMS_home : Nat} {z_FORMS_home : Array (Option Value)}
    {a_FORMS_levy : Addr} {d_FORMS_levy : Option Addr} {n_FORMS_levy : Nat} {z_FORMS_levy : Array (Option Value)}
    {a_FORMS_hurdle : Addr} {d_FORMS_hurdle : Option Addr} {n_FORMS_hurdle : Nat} {z_FORMS_hurdle : Array (Option Value)}
    {f_is_whole : Addr} {od_is_whole an_is_whole : Option Addr} {sl_is_whole : Array (Option Value)} {oc_is_whole dc_is_whole pm_is_whole cd_is_whole ct_is_whole : Value} {kV_is_whole : Value}
    {f_is_day : Addr} {od_is_day an_is_day : Option Addr} {sl_is_day : Array (Option Value)} {oc_is_day dc_is_day pm_is_day cd_is_day ct_is_day : Value} {kV_is_day : Value}
    {f_is_name : Addr} {od_is_name an_is_name : Option Addr} {sl_is_name : Array (Option Value)} {oc_is_name dc_is_name pm_is_name cd_is_name ct_is_name : Value} {kV_is_name : Value}
    {f_is_price : Addr} {od_is_price an_is_price : Option Addr} {sl_is_price : Array (Option Value)} {oc_is_price dc_is_price pm_is_price cd_is_price ct_is_price : Value} {kV_is_price : Value}
    {f_is_sum : Addr} {od_is_sum an_is_sum : Option Addr} {sl_is_sum : Array (Option Value)} {oc_is_sum dc_is_sum pm_is_sum cd_is_sum ct_is_sum : Value} {kV_is_sum : Value}
    {f_is_parts : Addr} {od_is_parts an_is_parts : Option Addr} {sl_is_parts : Array (Option Value)} {oc_is_parts dc_is_parts pm_is_parts cd_is_parts ct_is_parts : Value} {kV_is_parts : Value}
    {f_is_rate : Addr} {od_is_rate an_is_rate : Option Addr} {sl_is_rate : Array (Option Value)} {oc_is_rate dc_is_rate pm_is_rate cd_is_rate ct_is_rate : Value} {kV_is_rate : Value}
    {f_is_levy : Addr} {od_is_levy an_is_levy : Option Addr} {sl_is_levy : Array (Option Value)} {oc_is_levy dc_is_levy pm_is_levy cd_is_levy ct_is_levy : Value} {kV_is_levy : Value}
    {f_is_pair : Addr} {od_is_pair an_is_pair : Option Addr} {sl_is_pair : Array (Option Value)} {oc_is_pair dc_is_pair pm_is_pair cd_is_pair ct_is_pair : Value} {kV_is_pair : Value}
    {f_is_pairs : Addr} {od_is_pairs an_is_pairs : Option Addr} {sl_is_pairs : Array (Option Value)} {oc_is_pairs dc_is_pairs pm_is_pairs cd_is_pairs ct_is_pairs : Value} {kV_is_pairs : Value}
    {f_checked : Addr} {od_checked an_checked : Option Addr} {sl_checked : Array (Option Value)} {oc_checked dc_checked pm_checked cd_checked ct_checked : Value} {kV_checked : Value}
    {f_by_day : Addr} {od_by_day an_by_day : Option Addr} {sl_by_day : Array (Option Value)} {oc_by_day dc_by_day pm_by_day cd_by_day ct_by_day : Value} {dK_by_day : Addr}
    {u0_by_day : Tok}
    {f_in_order : Addr} {od_in_order an_in_order : Option Addr} {sl_in_order : Array (Option Value)} {oc_in_order dc_in_order pm_in_order cd_in_order ct_in_order : Value} {kV_in_order : Value}
    {f_parting : Addr} {od_parting an_parting : Option Addr} {sl_parting : Array (Option Value)} {oc_parting dc_parting pm_parting cd_parting ct_parting : Value} {kV_parting : Value}
    {f__law_bag : Addr} {od__law_bag an__law_bag : Option Addr} {sl__law_bag : Array (Option Value)} {oc__law_bag dc__law_bag pm__law_bag cd__law_bag ct__law_bag : Value} {kV__law_bag : Value}
    {f__law_pull : Addr} {od__law_pull an__law_pull : Option Addr} {sl__law_pull : Array (Option Value)} {oc__law_pull dc__law_pull pm__law_pull cd__law_pull ct__law_pull : Value} {kV__law_pull : Value}
    {f__law_wide : Addr} {od__law_wide an__law_wide : Option Addr} {sl__law_wide : Array (Option Value)} {oc__law_wide dc__law_wide pm__law_wide cd__law_wide ct__law_wide : Value} {kV__law_wide : Value}
    {f__law_pennies : Addr} {od__law_pennies an__law_pennies : Option Addr} {sl__law_pennies : Array (Option Value)} {oc__law_pennies dc__law_pennies pm__law_pennies cd__law_pennies ct__law_pennies : Value} {kV__law_pennies : Value}
    {f__law_price : Addr} {od__law_price an__law_price : Option Addr} {sl__law_price : Array (Option Value)} {oc__law_price dc__law_price pm__law_price cd__law_price ct__law_price : Value} {kV__law_price : Value}
    {f__law_pairs : Addr} {od__law_pairs an__law_pairs : Option Addr} {sl__law_pairs : Array (Option Value)} {oc__law_pairs dc__law_pairs pm__law_pairs cd__law_pairs ct__law_pairs : Value} {kV__law_pairs : Value}
    {f__law_entry : Addr} {od__law_entry an__law_entry : Option Addr} {sl__law_entry : Array (Option Value)} {oc__law_entry dc__law_entry pm__law_entry cd__law_entry ct__law_entry : Value} {kV__law_entry : Value}
    {f__law_slot : Addr} {od__law_slot an__law_slot : Option Addr} {sl__law_slot : Array (Option Value)} {oc__law_slot dc__law_slot pm__law_slot cd__law_slot ct__law_slot : Value} {kV__law_slot : Value}
    {f__law_name : Addr} {od__law_name an__law_name : Option Addr} {sl__law_name : Array (Option Value)} {oc__law_name dc__law_name pm__law_name cd__law_name ct__law_name : Value} {kV__law_name : Value}
    {f__law_names : Addr} {od__law_names an__law_names : Option Addr} {sl__law_names : Array (Option Value)} {oc__law_names dc__law_names pm__law_names cd__law_names ct__law_names : Value} {kV__law_names : Value}
    {f__law_book : Addr} {od__law_book an__law_book : Option Addr} {sl__law_book : Array (Option Value)} {oc__law_book dc__law_book pm__law_book cd__law_book ct__law_book : Value} {kV__law_book : Value}
    {f__law_shuffled : Addr} {od__law_shuffled an__law_shuffled : Option Addr} {sl__law_shuffled : Array (Option Value)} {oc__law_shuffled dc__law_shuffled pm__law_shuffled cd__law_shuffled ct__law_shuffled : Value} {kV__law_shuffled : Value}
    {f__law_extra : Addr} {od__law_extra an__law_extra : Option Addr} {sl__law_extra : Array (Option Value)} {oc__law_extra dc__law_extra pm__law_extra cd__law_extra ct__law_extra : Value} {kV__law_extra : Value}
    {f__law_formed : Addr} {od__law_formed an__law_formed : Option Addr} {sl__law_formed : Array (Option Value)} {oc__law_formed dc__law_formed pm__law_formed cd__law_formed ct__law_formed : Value} {kV__law_formed : Value}
    {f_law : Addr} {od_law an_law : Option Addr} {sl_law : Array (Option Value)} {oc_law dc_law pm_law cd_law ct_law : Value} {kV_law : Value}
    {tc tP : Addr} {eT : Value} {dT0 : Option Addr} {vT : Array Value} {sT : Array (Option Value)}
    (hn_bool : PySem.W.nsIn K mainGlobals "bool" = some none)
    (hn_int : PySem.W.nsIn K mainGlobals "int" = some none)
    (hn_isinstance : PySem.W.nsIn K mainGlobals "isinstance" = some none)
    (hn_all : PySem.W.nsIn K mainGlobals "all" = some none)
    (hn_len : PySem.W.nsIn K mainGlobals "len" = some none)
    (hn_str : PySem.W.nsIn K mainGlobals "str" = some none)
    (hn_tuple : PySem.W.nsIn K mainGlobals "tuple" = some none)
    (hn_enumerate : PySem.W.nsIn K mainGlobals "enumerate" = some none)
    (hn_sorted : PySem.W.nsIn K mainGlobals "sorted" = some none)
    (hn_list : PySem.W.nsIn K mainGlobals "list" = some none)
    (hn_range : PySem.W.nsIn K mainGlobals "range" = some none)
    (hc_LAST : PySem.W.nsIn K mainGlobals "LAST" = some (some (.int 400 t_LAST)))
    (hc_LETTERS : PySem.W.nsIn K mainGlobals "LETTERS" = some (some (.str "abcdefghijklmnopqrstuvwxyz" t_LETTERS)))
    (hc_MOST_PRICE : PySem.W.nsIn K mainGlobals "MOST_PRICE" = some (some (.int 1000000 t_MOST_PRICE)))
    (hc_MOST_SUM : PySem.W.nsIn K mainGlobals "MOST_SUM" = some (some (.int 1000000000 t_MOST_SUM)))
    (hc_WHOLE : PySem.W.nsIn K mainGlobals "WHOLE" = some (some (.int 10000 t_WHOLE)))
    (hc_FORMS : PySem.W.nsIn K mainGlobals "FORMS" = some (some (.ref a_FORMS)))
    (hld_FORMS : K.lookup a_FORMS = some ⟨.type "dict", none, .dict es_FORMS n_FORMS, #[]⟩)
    (hkl_FORMS : PySem.W.KeysLit w.params es_FORMS.toList)
    (hsm_FORMS : (a_FORMS == sysModules) = false)
    (hi_FORMS_price : PySem.W.nsIn K a_FORMS "price" = some (some (.ref a_FORMS_price)))
    (hi_FORMS_mix : PySem.W.nsIn K a_FORMS "mix" = some (some (.ref a_FORMS_mix)))
    (hi_FORMS_come : PySem.W.nsIn K a_FORMS "come" = some (some (.ref a_FORMS_come)))
    (hi_FORMS_go : PySem.W.nsIn K a_FORMS "go" = some (some (.ref a_FORMS_go)))
    (hi_FORMS_draw : PySem.W.nsIn K a_FORMS "draw" = some (some (.ref a_FORMS_draw)))
    (hi_FORMS_give : PySem.W.nsIn K a_FORMS "give" = some (some (.ref a_FORMS_give)))
    (hi_FORMS_rate : PySem.W.nsIn K a_FORMS "rate" = some (some (.ref a_FORMS_rate)))
    (hi_FORMS_harvest : PySem.W.nsIn K a_FORMS "harvest" = some (some (.ref a_FORMS_harvest)))
    (hi_FORMS_aside : PySem.W.nsIn K a_FORMS "aside" = some (some (.ref a_FORMS_aside)))
    (hi_FORMS_home : PySem.W.nsIn K a_FORMS "home" = some (some (.ref a_FORMS_home)))
    (hi_FORMS_levy : PySem.W.nsIn K a_FORMS "levy" = some (some (.ref a_FORMS_levy)))
    (hi_FORMS_hurdle : PySem.W.nsIn K a_FORMS "hurdle" = some (some (.ref a_FORMS_hurdle)))
    (ha_is_whole : PySem.W.nsIn K mainGlobals "is_whole" = some (some (.ref f_is_whole)))
    (hl_is_whole : K.lookup f_is_whole = some ⟨oc_is_whole, od_is_whole, .func (PySem.W.fnOf "is_whole" "is_whole" (defArgs s_is_whole) (defBody s_is_whole) (defScope s_is_whole) .none kV_is_whole dc_is_whole pm_is_whole an_is_whole cd_is_whole ct_is_whole), sl_is_whole⟩)
    (hc_is_whole : PySem.W.codeIn K cd_is_whole "is_whole" = true)
    (hk_is_whole : PySem.W.keepIn K (.ref f_is_whole) = true)
    (ha_is_day : PySem.W.nsIn K mainGlobals "is_day" = some (some (.ref f_is_day)))
    (hl_is_day : K.lookup f_is_day = some ⟨oc_is_day, od_is_day, .func (PySem.W.fnOf "is_day" "is_day" (defArgs s_is_day) (defBody s_is_day) (defScope s_is_day) .none kV_is_day dc_is_day pm_is_day an_is_day cd_is_day ct_is_day), sl_is_day⟩)
    (hc_is_day : PySem.W.codeIn K cd_is_day "is_day" = true)
    (hk_is_day : PySem.W.keepIn K (.ref f_is_day) = true)
    (ha_is_name : PySem.W.nsIn K mainGlobals "is_name" = some (some (.ref f_is_name)))
    (hl_is_name : K.lookup f_is_name = some ⟨oc_is_name, od_is_name, .func (PySem.W.fnOf "is_name" "is_name" (defArgs s_is_name) (defBody s_is_name) (defScope s_is_name) .none kV_is_name dc_is_name pm_is_name an_is_name cd_is_name ct_is_name), sl_is_name⟩)
    (hc_is_name : PySem.W.codeIn K cd_is_name "is_name" = true)
    (hk_is_name : PySem.W.keepIn K (.ref f_is_name) = true)
    (ha_is_price : PySem.W.nsIn K mainGlobals "is_price" = some (some (.ref f_is_price)))
    (hl_is_price : K.lookup f_is_price = some ⟨oc_is_price, od_is_price, .func (PySem.W.fnOf "is_price" "is_price" (defArgs s_is_price) (defBody s_is_price) (defScope s_is_price) .none kV_is_price dc_is_price pm_is_price an_is_price cd_is_price ct_is_price), sl_is_price⟩)
    (hc_is_price : PySem.W.codeIn K cd_is_price "is_price" = true)
    (hk_is_price : PySem.W.keepIn K (.ref f_is_price) = true)
    (ha_is_sum : PySem.W.nsIn K mainGlobals "is_sum" = some (some (.ref f_is_sum)))
    (hl_is_sum : K.lookup f_is_sum = some ⟨oc_is_sum, od_is_sum, .func (PySem.W.fnOf "is_sum" "is_sum" (defArgs s_is_sum) (defBody s_is_sum) (defScope s_is_sum) .none kV_is_sum dc_is_sum pm_is_sum an_is_sum cd_is_sum ct_is_sum), sl_is_sum⟩)
    (hc_is_sum : PySem.W.codeIn K cd_is_sum "is_sum" = true)
    (hk_is_sum : PySem.W.keepIn K (.ref f_is_sum) = true)
    (ha_is_parts : PySem.W.nsIn K mainGlobals "is_parts" = some (some (.ref f_is_parts)))
    (hl_is_parts : K.lookup f_is_parts = some ⟨oc_is_parts, od_is_parts, .func (PySem.W.fnOf "is_parts" "is_parts" (defArgs s_is_parts) (defBody s_is_parts) (defScope s_is_parts) .none kV_is_parts dc_is_parts pm_is_parts an_is_parts cd_is_parts ct_is_parts), sl_is_parts⟩)
    (hc_is_parts : PySem.W.codeIn K cd_is_parts "is_parts" = true)
    (hk_is_parts : PySem.W.keepIn K (.ref f_is_parts) = true)
    (ha_is_rate : PySem.W.nsIn K mainGlobals "is_rate" = some (some (.ref f_is_rate)))
    (hl_is_rate : K.lookup f_is_rate = some ⟨oc_is_rate, od_is_rate, .func (PySem.W.fnOf "is_rate" "is_rate" (defArgs s_is_rate) (defBody s_is_rate) (defScope s_is_rate) .none kV_is_rate dc_is_rate pm_is_rate an_is_rate cd_is_rate ct_is_rate), sl_is_rate⟩)
    (hc_is_rate : PySem.W.codeIn K cd_is_rate "is_rate" = true)
    (hk_is_rate : PySem.W.keepIn K (.ref f_is_rate) = true)
    (ha_is_levy : PySem.W.nsIn K mainGlobals "is_levy" = some (some (.ref f_is_levy)))
    (hl_is_levy : K.lookup f_is_levy = some ⟨oc_is_levy, od_is_levy, .func (PySem.W.fnOf "is_levy" "is_levy" (defArgs s_is_levy) (defBody s_is_levy) (defScope s_is_levy) .none kV_is_levy dc_is_levy pm_is_levy an_is_levy cd_is_levy ct_is_levy), sl_is_levy⟩)
    (hc_is_levy : PySem.W.codeIn K cd_is_levy "is_levy" = true)
    (hk_is_levy : PySem.W.keepIn K (.ref f_is_levy) = true)
    (ha_is_pair : PySem.W.nsIn K mainGlobals "is_pair" = some (some (.ref f_is_pair)))
    (hl_is_pair : K.lookup f_is_pair = some ⟨oc_is_pair, od_is_pair, .func (PySem.W.fnOf "is_pair" "is_pair" (defArgs s_is_pair) (defBody s_is_pair) (defScope s_is_pair) .none kV_is_pair dc_is_pair pm_is_pair an_is_pair cd_is_pair ct_is_pair), sl_is_pair⟩)
    (hc_is_pair : PySem.W.codeIn K cd_is_pair "is_pair" = true)
    (hk_is_pair : PySem.W.keepIn K (.ref f_is_pair) = true)
    (ha_is_pairs : PySem.W.nsIn K mainGlobals "is_pairs" = some (some (.ref f_is_pairs)))
    (hl_is_pairs : K.lookup f_is_pairs = some ⟨oc_is_pairs, od_is_pairs, .func (PySem.W.fnOf "is_pairs" "is_pairs" (defArgs s_is_pairs) (defBody s_is_pairs) (defScope s_is_pairs) .none kV_is_pairs dc_is_pairs pm_is_pairs an_is_pairs cd_is_pairs ct_is_pairs), sl_is_pairs⟩)
    (hc_is_pairs : PySem.W.codeIn K cd_is_pairs "is_pairs" = true)
    (hk_is_pairs : PySem.W.keepIn K (.ref f_is_pairs) = true)
    (ha_checked : PySem.W.nsIn K mainGlobals "checked" = some (some (.ref f_checked)))
    (hl_checked : K.lookup f_checked = some ⟨oc_checked, od_checked, .func (PySem.W.fnOf "checked" "checked" (defArgs s_checked) (defBody s_checked) (defScope s_checked) .none kV_checked dc_checked pm_checked an_checked cd_checked ct_checked), sl_checked⟩)
    (hc_checked : PySem.W.codeIn K cd_checked "checked" = true)
    (hk_checked : PySem.W.keepIn K (.ref f_checked) = true)
    (ha_by_day : PySem.W.nsIn K mainGlobals "by_day" = some (some (.ref f_by_day)))
    (hl_by_day : K.lookup f_by_day = some ⟨oc_by_day, od_by_day, .func (PySem.W.fnOf "by_day" "by_day" (defArgs s_by_day) (defBody s_by_day) (defScope s_by_day) .none (.ref dK_by_day) dc_by_day pm_by_day an_by_day cd_by_day ct_by_day), sl_by_day⟩)
    (hc_by_day : PySem.W.codeIn K cd_by_day "by_day" = true)
    (hk_by_day : PySem.W.keepIn K (.ref f_by_day) = true)
    (he0_by_day : PySem.W.nsIn K dK_by_day "day" = some (some (.int 400 u0_by_day)))
    (ha_in_order : PySem.W.nsIn K mainGlobals "in_order" = some (some (.ref f_in_order)))
    (hl_in_order : K.lookup f_in_order = some ⟨oc_in_order, od_in_order, .func (PySem.W.fnOf "in_order" "in_order" (defArgs s_in_order) (defBody s_in_order) (defScope s_in_order) .none kV_in_order dc_in_order pm_in_order an_in_order cd_in_order ct_in_order), sl_in_order⟩)
    (hc_in_order : PySem.W.codeIn K cd_in_order "in_order" = true)
    (hk_in_order : PySem.W.keepIn K (.ref f_in_order) = true)
    (ha_parting : PySem.W.nsIn K mainGlobals "parting" = some (some (.ref f_parting)))
    (hl_parting : K.lookup f_parting = some ⟨oc_parting, od_parting, .func (PySem.W.fnOf "parting" "parting" (defArgs s_parting) (defBody s_parting) (defScope s_parting) .none kV_parting dc_parting pm_parting an_parting cd_parting ct_parting), sl_parting⟩)
    (hc_parting : PySem.W.codeIn K cd_parting "parting" = true)
    (hk_parting : PySem.W.keepIn K (.ref f_parting) = true)
    (ha__law_bag : PySem.W.nsIn K mainGlobals "_law_bag" = some (some (.ref f__law_bag)))
    (hl__law_bag : K.lookup f__law_bag = some ⟨oc__law_bag, od__law_bag, .func (PySem.W.fnOf "_law_bag" "_law_bag" (defArgs s__law_bag) (defBody s__law_bag) (defScope s__law_bag) .none kV__law_bag dc__law_bag pm__law_bag an__law_bag cd__law_bag ct__law_bag), sl__law_bag⟩)
    (hc__law_bag : PySem.W.codeIn K cd__law_bag "_law_bag" = true)
    (hk__law_bag : PySem.W.keepIn K (.ref f__law_bag) = true)
    (ha__law_pull : PySem.W.nsIn K mainGlobals "_law_pull" = some (some (.ref f__law_pull)))
    (hl__law_pull : K.lookup f__law_pull = some ⟨oc__law_pull, od__law_pull, .func (PySem.W.fnOf "_law_pull" "_law_pull" (defArgs s__law_pull) (defBody s__law_pull) (defScope s__law_pull) .none kV__law_pull dc__law_pull pm__law_pull an__law_pull cd__law_pull ct__law_pull), sl__law_pull⟩)
    (hc__law_pull : PySem.W.codeIn K cd__law_pull "_law_pull" = true)
    (hk__law_pull : PySem.W.keepIn K (.ref f__law_pull) = true)
    (ha__law_wide : PySem.W.nsIn K mainGlobals "_law_wide" = some (some (.ref f__law_wide)))
    (hl__law_wide : K.lookup f__law_wide = some ⟨oc__law_wide, od__law_wide, .func (PySem.W.fnOf "_law_wide" "_law_wide" (defArgs s__law_wide) (defBody s__law_wide) (defScope s__law_wide) .none kV__law_wide dc__law_wide pm__law_wide an__law_wide cd__law_wide ct__law_wide), sl__law_wide⟩)
    (hc__law_wide : PySem.W.codeIn K cd__law_wide "_law_wide" = true)
    (hk__law_wide : PySem.W.keepIn K (.ref f__law_wide) = true)
    (ha__law_pennies : PySem.W.nsIn K mainGlobals "_law_pennies" = some (some (.ref f__law_pennies)))
    (hl__law_pennies : K.lookup f__law_pennies = some ⟨oc__law_pennies, od__law_pennies, .func (PySem.W.fnOf "_law_pennies" "_law_pennies" (defArgs s__law_pennies) (defBody s__law_pennies) (defScope s__law_pennies) .none kV__law_pennies dc__law_pennies pm__law_pennies an__law_pennies cd__law_pennies ct__law_pennies), sl__law_pennies⟩)
    (hc__law_pennies : PySem.W.codeIn K cd__law_pennies "_law_pennies" = true)
    (hk__law_pennies : PySem.W.keepIn K (.ref f__law_pennies) = true)
    (ha__law_price : PySem.W.nsIn K mainGlobals "_law_price" = some (some (.ref f__law_price)))
    (hl__law_price : K.lookup f__law_price = some ⟨oc__law_price, od__law_price, .func (PySem.W.fnOf "_law_price" "_law_price" (defArgs s__law_price) (defBody s__law_price) (defScope s__law_price) .none kV__law_price dc__law_price pm__law_price an__law_price cd__law_price ct__law_price), sl__law_price⟩)
    (hc__law_price : PySem.W.codeIn K cd__law_price "_law_price" = true)
    (hk__law_price : PySem.W.keepIn K (.ref f__law_price) = true)
    (ha__law_pairs : PySem.W.nsIn K mainGlobals "_law_pairs" = some (some (.ref f__law_pairs)))
    (hl__law_pairs : K.lookup f__law_pairs = some ⟨oc__law_pairs, od__law_pairs, .func (PySem.W.fnOf "_law_pairs" "_law_pairs" (defArgs s__law_pairs) (defBody s__law_pairs) (defScope s__law_pairs) .none kV__law_pairs dc__law_pairs pm__law_pairs an__law_pairs cd__law_pairs ct__law_pairs), sl__law_pairs⟩)
    (hc__law_pairs : PySem.W.codeIn K cd__law_pairs "_law_pairs" = true)
    (hk__law_pairs : PySem.W.keepIn K (.ref f__law_pairs) = true)
    (ha__law_entry : PySem.W.nsIn K mainGlobals "_law_entry" = some (some (.ref f__law_entry)))
    (hl__law_entry : K.lookup f__law_entry = some ⟨oc__law_entry, od__law_entry, .func (PySem.W.fnOf "_law_entry" "_law_entry" (defArgs s__law_entry) (defBody s__law_entry) (defScope s__law_entry) .none kV__law_entry dc__law_entry pm__law_entry an__law_entry cd__law_entry ct__law_entry), sl__law_entry⟩)
    (hc__law_entry : PySem.W.codeIn K cd__law_entry "_law_entry" = true)
    (hk__law_entry : PySem.W.keepIn K (.ref f__law_entry) = true)
    (ha__law_slot : PySem.W.nsIn K mainGlobals "_law_slot" = some (some (.ref f__law_slot)))
    (hl__law_slot : K.lookup f__law_slot = some ⟨oc__law_slot, od__law_slot, .func (PySem.W.fnOf "_law_slot" "_law_slot" (defArgs s__law_slot) (defBody s__law_slot) (defScope s__law_slot) .none kV__law_slot dc__law_slot pm__law_slot an__law_slot cd__law_slot ct__law_slot), sl__law_slot⟩)
    (hc__law_slot : PySem.W.codeIn K cd__law_slot "_law_slot" = true)
    (hk__law_slot : PySem.W.keepIn K (.ref f__law_slot) = true)
    (ha__law_name : PySem.W.nsIn K mainGlobals "_law_name" = some (some (.ref f__law_name)))
    (hl__law_name : K.lookup f__law_name = some ⟨oc__law_name, od__law_name, .func (PySem.W.fnOf "_law_name" "_law_name" (defArgs s__law_name) (defBody s__law_name) (defScope s__law_name) .none kV__law_name dc__law_name pm__law_name an__law_name cd__law_name ct__law_name), sl__law_name⟩)
    (hc__law_name : PySem.W.codeIn K cd__law_name "_law_name" = true)
    (hk__law_name : PySem.W.keepIn K (.ref f__law_name) = true)
    (ha__law_names : PySem.W.nsIn K mainGlobals "_law_names" = some (some (.ref f__law_names)))
    (hl__law_names : K.lookup f__law_names = some ⟨oc__law_names, od__law_names, .func (PySem.W.fnOf "_law_names" "_law_names" (defArgs s__law_names) (defBody s__law_names) (defScope s__law_names) .none kV__law_names dc__law_names pm__law_names an__law_names cd__law_names ct__law_names), sl__law_names⟩)
    (hc__law_names : PySem.W.codeIn K cd__law_names "_law_names" = true)
    (hk__law_names : PySem.W.keepIn K (.ref f__law_names) = true)
    (ha__law_book : PySem.W.nsIn K mainGlobals "_law_book" = some (some (.ref f__law_book)))
    (hl__law_book : K.lookup f__law_book = some ⟨oc__law_book, od__law_book, .func (PySem.W.fnOf "_law_book" "_law_book" (defArgs s__law_book) (defBody s__law_book) (defScope s__law_book) .none kV__law_book dc__law_book pm__law_book an__law_book cd__law_book ct__law_book), sl__law_book⟩)
    (hc__law_book : PySem.W.codeIn K cd__law_book "_law_book" = true)
    (hk__law_book : PySem.W.keepIn K (.ref f__law_book) = true)
    (ha__law_shuffled : PySem.W.nsIn K mainGlobals "_law_shuffled" = some (some (.ref f__law_shuffled)))
    (hl__law_shuffled : K.lookup f__law_shuffled = some ⟨oc__law_shuffled, od__law_shuffled, .func (PySem.W.fnOf "_law_shuffled" "_law_shuffled" (defArgs s__law_shuffled) (defBody s__law_shuffled) (defScope s__law_shuffled) .none kV__law_shuffled dc__law_shuffled pm__law_shuffled an__law_shuffled cd__law_shuffled ct__law_shuffled), sl__law_shuffled⟩)
    (hc__law_shuffled : PySem.W.codeIn K cd__law_shuffled "_law_shuffled" = true)
    (hk__law_shuffled : PySem.W.keepIn K (.ref f__law_shuffled) = true)
    (ha__law_extra : PySem.W.nsIn K mainGlobals "_law_extra" = some (some (.ref f__law_extra)))
    (hl__law_extra : K.lookup f__law_extra = some ⟨oc__law_extra, od__law_extra, .func (PySem.W.fnOf "_law_extra" "_law_extra" (defArgs s__law_extra) (defBody s__law_extra) (defScope s__law_extra) .none kV__law_extra dc__law_extra pm__law_extra an__law_extra cd__law_extra ct__law_extra), sl__law_extra⟩)
    (hc__law_extra : PySem.W.codeIn K cd__law_extra "_law_extra" = true)
    (hk__law_extra : PySem.W.keepIn K (.ref f__law_extra) = true)
    (ha__law_formed : PySem.W.nsIn K mainGlobals "_law_formed" = some (some (.ref f__law_formed)))
    (hl__law_formed : K.lookup f__law_formed = some ⟨oc__law_formed, od__law_formed, .func (PySem.W.fnOf "_law_formed" "_law_formed" (defArgs s__law_formed) (defBody s__law_formed) (defScope s__law_formed) .none kV__law_formed dc__law_formed pm__law_formed an__law_formed cd__law_formed ct__law_formed), sl__law_formed⟩)
    (hc__law_formed : PySem.W.codeIn K cd__law_formed "_law_formed" = true)
    (hk__law_formed : PySem.W.keepIn K (.ref f__law_formed) = true)
    (ha_law : PySem.W.nsIn K mainGlobals "law" = some (some (.ref f_law)))
    (hl_law : K.lookup f_law = some ⟨oc_law, od_law, .func (PySem.W.fnOf "law" "law" (defArgs s_law) (defBody s_law) (defScope s_law) .none kV_law dc_law pm_law an_law cd_law ct_law), sl_law⟩)
    (hc_law : PySem.W.codeIn K cd_law "law" = true)
    (hk_law : PySem.W.keepIn K (.ref f_law) = true)
    (hq_FORMS_price : K.lookup a_FORMS_price = some ⟨.type "tuple", d_FORMS_price, .seq #[.ref f_is_day, .ref f_is_name, .ref f_is_price] n_FORMS_price, z_FORMS_price⟩)
    (hq_FORMS_mix : K.lookup a_FORMS_mix = some ⟨.type "tuple", d_FORMS_mix, .seq #[.ref f_is_day, .ref f_is_pairs] n_FORMS_mix, z_FORMS_mix⟩)
    (hq_FORMS_come : K.lookup a_FORMS_come = some ⟨.type "tuple", d_FORMS_come, .seq #[.ref f_is_day, .ref f_is_name, .ref f_is_sum] n_FORMS_come, z_FORMS_come⟩)
    (hq_FORMS_go : K.lookup a_FORMS_go = some ⟨.type "tuple", d_FORMS_go, .seq #[.ref f_is_day, .ref f_is_name, .ref f_is_parts] n_FORMS_go, z_FORMS_go⟩)
    (hq_FORMS_draw : K.lookup a_FORMS_draw = some ⟨.type "tuple", d_FORMS_draw, .seq #[.ref f_is_day, .ref f_is_name, .ref f_is_sum] n_FORMS_draw, z_FORMS_draw⟩)
    (hq_FORMS_give : K.lookup a_FORMS_give = some ⟨.type "tuple", d_FORMS_give, .seq #[.ref f_is_day, .ref f_is_name, .ref f_is_name, .ref f_is_parts] n_FORMS_give, z_FORMS_give⟩)
    (hq_FORMS_rate : K.lookup a_FORMS_rate = some ⟨.type "tuple", d_FORMS_rate, .seq #[.ref f_is_day, .ref f_is_rate] n_FORMS_rate, z_FORMS_rate⟩)
    (hq_FORMS_harvest : K.lookup a_FORMS_harvest = some ⟨.type "tuple", d_FORMS_harvest, .seq #[.ref f_is_day] n_FORMS_harvest, z_FORMS_harvest⟩)
    (hq_FORMS_aside : K.lookup a_FORMS_aside = some ⟨.type "tuple", d_FORMS_aside, .seq #[.ref f_is_day, .ref f_is_name] n_FORMS_aside, z_FORMS_aside⟩)
    (hq_FORMS_home : K.lookup a_FORMS_home = some ⟨.type "tuple", d_FORMS_home, .seq #[.ref f_is_day, .ref f_is_name] n_FORMS_home, z_FORMS_home⟩)
    (hq_FORMS_levy : K.lookup a_FORMS_levy = some ⟨.type "tuple", d_FORMS_levy, .seq #[.ref f_is_day, .ref f_is_levy] n_FORMS_levy, z_FORMS_levy⟩)
    (hq_FORMS_hurdle : K.lookup a_FORMS_hurdle = some ⟨.type "tuple", d_FORMS_hurdle, .seq #[.ref f_is_day, .ref f_is_parts] n_FORMS_hurdle, z_FORMS_hurdle⟩)
    (htcode : cd_in_order = .ref tc)
    (htlk : K.lookup tc = some ⟨eT, dT0, .fields vT, sT⟩)
    (htp : vT[11]? = some (.ref tP))
    (hthd : PySem.W.codeHdIn K tc tP = true)
    (htno : K.lookup tP = none)
    (htab : h.get? tP = some { cls := .none, data := .fields #[] })
    : LamX.LawAtS l w K CX0 9 63 "_law_script" mg fa h := by
  have e := hfa.symm.trans (PySem.W.mg_of X G ha_law)
  cases e
  have F := fun_mk (st := s_law) hl_law hc_law hk_law
  have T : ∃ T : Top w K mg, T.tc = tc ∧ T.tP = tP := ⟨{
    n_bool := PySem.W.mg_none_of X G hn_bool,
    n_int := PySem.W.mg_none_of X G hn_int,
    n_isinstance := PySem.W.mg_none_of X G hn_isinstance,
    n_all := PySem.W.mg_none_of X G hn_all,
    n_len := PySem.W.mg_none_of X G hn_len,
    n_str := PySem.W.mg_none_of X G hn_str,
    n_tuple := PySem.W.mg_none_of X G hn_tuple,
    n_enumerate := PySem.W.mg_none_of X G hn_enumerate,
    n_sorted := PySem.W.mg_none_of X G hn_sorted,
    n_list := PySem.W.mg_none_of X G hn_list,
    n_range := PySem.W.mg_none_of X G hn_range,
    t_LAST := t_LAST,
    c_LAST := PySem.W.mg_of X G hc_LAST,
    t_LETTERS := t_LETTERS,
    c_LETTERS := PySem.W.mg_of X G hc_LETTERS,
    t_MOST_PRICE := t_MOST_PRICE,
    c_MOST_PRICE := PySem.W.mg_of X G hc_MOST_PRICE,
    t_MOST_SUM := t_MOST_SUM,
    c_MOST_SUM := PySem.W.mg_of X G hc_MOST_SUM,
    t_WHOLE := t_WHOLE,
    c_WHOLE := PySem.W.mg_of X G hc_WHOLE,
    a_FORMS := a_FORMS,
    c_FORMS := PySem.W.mg_of X G hc_FORMS,
    kd_FORMS := ⟨_, _, ⟨hld_FORMS, hkl_FORMS, hsm_FORMS⟩⟩,
    f_is_whole := f_is_whole,
    fd_is_whole := _,
    F_is_whole := fun_mk (st := s_is_whole) hl_is_whole hc_is_whole hk_is_whole,
    b_is_whole := (fun_mk (st := s_is_whole) hl_is_whole hc_is_whole hk_is_whole).binds (ps := ["one", "least", "most"]) fun _ _ _ _ _ _ us hl => match us, hl with | [_, _, _], _ => rfl,
    k_is_whole := hk_is_whole,
    g_is_whole := PySem.W.mg_of X G ha_is_whole,
    f_is_day := f_is_day,
    fd_is_day := _,
    F_is_day := fun_mk (st := s_is_day) hl_is_day hc_is_day hk_is_day,
    b_is_day := (fun_mk (st := s_is_day) hl_is_day hc_is_day hk_is_day).binds (ps := ["one"]) fun _ _ _ _ _ _ us hl => match us, hl with | [_], _ => rfl,
    k_is_day := hk_is_day,
    g_is_day := PySem.W.mg_of X G ha_is_day,
    f_is_name := f_is_name,
    fd_is_name := _,
    F_is_name := fun_mk (st := s_is_name) hl_is_name hc_is_name hk_is_name,
    b_is_name := (fun_mk (st := s_is_name) hl_is_name hc_is_name hk_is_name).binds (ps := ["one"]) fun _ _ _ _ _ _ us hl => match us, hl with | [_], _ => rfl,
    k_is_name := hk_is_name,
    g_is_name := PySem.W.mg_of X G ha_is_name,
    f_is_price := f_is_price,
    fd_is_price := _,
    F_is_price := fun_mk (st := s_is_price) hl_is_price hc_is_price hk_is_price,
    b_is_price := (fun_mk (st := s_is_price) hl_is_price hc_is_price hk_is_price).binds (ps := ["one"]) fun _ _ _ _ _ _ us hl => match us, hl with | [_], _ => rfl,
    k_is_price := hk_is_price,
    g_is_price := PySem.W.mg_of X G ha_is_price,
    f_is_sum := f_is_sum,
    fd_is_sum := _,
    F_is_sum := fun_mk (st := s_is_sum) hl_is_sum hc_is_sum hk_is_sum,
    b_is_sum := (fun_mk (st := s_is_sum) hl_is_sum hc_is_sum hk_is_sum).binds (ps := ["one"]) fun _ _ _ _ _ _ us hl => match us, hl with | [_], _ => rfl,
    k_is_sum := hk_is_sum,
    g_is_sum := PySem.W.mg_of X G ha_is_sum,
    f_is_parts := f_is_parts,
    fd_is_parts := _,
    F_is_parts := fun_mk (st := s_is_parts) hl_is_parts hc_is_parts hk_is_parts,
    b_is_parts := (fun_mk (st := s_is_parts) hl_is_parts hc_is_parts hk_is_parts).binds (ps := ["one"]) fun _ _ _ _ _ _ us hl => match us, hl with | [_], _ => rfl,
    k_is_parts := hk_is_parts,
    g_is_parts := PySem.W.mg_of X G ha_is_parts,
    f_is_rate := f_is_rate,
    fd_is_rate := _,
    F_is_rate := fun_mk (st := s_is_rate) hl_is_rate hc_is_rate hk_is_rate,
    b_is_rate := (fun_mk (st := s_is_rate) hl_is_rate hc_is_rate hk_is_rate).binds (ps := ["one"]) fun _ _ _ _ _ _ us hl => match us, hl with | [_], _ => rfl,
    k_is_rate := hk_is_rate,
    g_is_rate := PySem.W.mg_of X G ha_is_rate,
    f_is_levy := f_is_levy,
    fd_is_levy := _,
    F_is_levy := fun_mk (st := s_is_levy) hl_is_levy hc_is_levy hk_is_levy,
    b_is_levy := (fun_mk (st := s_is_levy) hl_is_levy hc_is_levy hk_is_levy).binds (ps := ["one"]) fun _ _ _ _ _ _ us hl => match us, hl with | [_], _ => rfl,
    k_is_levy := hk_is_levy,
    g_is_levy := PySem.W.mg_of X G ha_is_levy,
    f_is_pair := f_is_pair,
    fd_is_pair := _,
    F_is_pair := fun_mk (st := s_is_pair) hl_is_pair hc_is_pair hk_is_pair,
    b_is_pair := (fun_mk (st := s_is_pair) hl_is_pair hc_is_pair hk_is_pair).binds (ps := ["one"]) fun _ _ _ _ _ _ us hl => match us, hl with | [_], _ => rfl,
    k_is_pair := hk_is_pair,
    g_is_pair := PySem.W.mg_of X G ha_is_pair,
    f_is_pairs := f_is_pairs,
    fd_is_pairs := _,
    F_is_pairs := fun_mk (st := s_is_pairs) hl_is_pairs hc_is_pairs hk_is_pairs,
    b_is_pairs := (fun_mk (st := s_is_pairs) hl_is_pairs hc_is_pairs hk_is_pairs).binds (ps := ["some"]) fun _ _ _ _ _ _ us hl => match us, hl with | [_], _ => rfl,
    k_is_pairs := hk_is_pairs,
    g_is_pairs := PySem.W.mg_of X G ha_is_pairs,
    f_checked := f_checked,
    fd_checked := _,
    F_checked := fun_mk (st := s_checked) hl_checked hc_checked hk_checked,
    b_checked := (fun_mk (st := s_checked) hl_checked hc_checked hk_checked).binds (ps := ["entry"]) fun _ _ _ _ _ _ us hl => match us, hl with | [_], _ => rfl,
    k_checked := hk_checked,
    g_checked := PySem.W.mg_of X G ha_checked,
    f_by_day := f_by_day,
    fd_by_day := _,
    F_by_day := ⟨⟨oc_by_day, od_by_day, _, _, dc_by_day, pm_by_day, an_by_day, cd_by_day, ct_by_day, sl_by_day, rfl, hl_by_day, hc_by_day, .inl ⟨rfl, rfl⟩, .inr ⟨_, rfl, by
      intro q hq
      simp only [List.mem_cons, List.not_mem_nil, or_false] at hq
      rcases hq with rfl
      · exact ⟨_, he0_by_day, ⟨_, rfl⟩⟩⟩⟩, hk_by_day⟩,
    k_by_day := hk_by_day,
    g_by_day := PySem.W.mg_of X G ha_by_day,
    f_in_order := f_in_order,
    fd_in_order := _,
    F_in_order := fun_mk (st := s_in_order) hl_in_order hc_in_order hk_in_order,
    b_in_order := (fun_mk (st := s_in_order) hl_in_order hc_in_order hk_in_order).binds (ps := ["entries"]) fun _ _ _ _ _ _ us hl => match us, hl with | [_], _ => rfl,
    k_in_order := hk_in_order,
    g_in_order := PySem.W.mg_of X G ha_in_order,
    f_parting := f_parting,
    fd_parting := _,
    F_parting := fun_mk (st := s_parting) hl_parting hc_parting hk_parting,
    b_parting := (fun_mk (st := s_parting) hl_parting hc_parting hk_parting).binds (ps := ["before", "after"]) fun _ _ _ _ _ _ us hl => match us, hl with | [_, _], _ => rfl,
    k_parting := hk_parting,
    g_parting := PySem.W.mg_of X G ha_parting,
    f__law_bag := f__law_bag,
    fd__law_bag := _,
    F__law_bag := fun_mk (st := s__law_bag) hl__law_bag hc__law_bag hk__law_bag,
    b__law_bag := (fun_mk (st := s__law_bag) hl__law_bag hc__law_bag hk__law_bag).binds (ps := ["_law_script"]) fun _ _ _ _ _ _ us hl => match us, hl with | [_], _ => rfl,
    k__law_bag := hk__law_bag,
    g__law_bag := PySem.W.mg_of X G ha__law_bag,
    f__law_pull := f__law_pull,
    fd__law_pull := _,
    F__law_pull := fun_mk (st := s__law_pull) hl__law_pull hc__law_pull hk__law_pull,
    b__law_pull := (fun_mk (st := s__law_pull) hl__law_pull hc__law_pull hk__law_pull).binds (ps := ["_law_bag_here", "_law_many"]) fun _ _ _ _ _ _ us hl => match us, hl with | [_, _], _ => rfl,
    k__law_pull := hk__law_pull,
    g__law_pull := PySem.W.mg_of X G ha__law_pull,
    f__law_wide := f__law_wide,
    fd__law_wide := _,
    F__law_wide := fun_mk (st := s__law_wide) hl__law_wide hc__law_wide hk__law_wide,
    b__law_wide := (fun_mk (st := s__law_wide) hl__law_wide hc__law_wide hk__law_wide).binds (ps := ["_law_bag_here", "_law_many"]) fun _ _ _ _ _ _ us hl => match us, hl with | [_, _], _ => rfl,
    k__law_wide := hk__law_wide,
    g__law_wide := PySem.W.mg_of X G ha__law_wide,
    f__law_pennies := f__law_pennies,
    fd__law_pennies := _,
    F__law_pennies := fun_mk (st := s__law_pennies) hl__law_pennies hc__law_pennies hk__law_pennies,
    b__law_pennies := (fun_mk (st := s__law_pennies) hl__law_pennies hc__law_pennies hk__law_pennies).binds (ps := ["_law_bag_here"]) fun _ _ _ _ _ _ us hl => match us, hl with | [_], _ => rfl,
    k__law_pennies := hk__law_pennies,
    g__law_pennies := PySem.W.mg_of X G ha__law_pennies,
    f__law_price := f__law_price,
    fd__law_price := _,
    F__law_price := fun_mk (st := s__law_price) hl__law_price hc__law_price hk__law_price,
    b__law_price := (fun_mk (st := s__law_price) hl__law_price hc__law_price hk__law_price).binds (ps := ["_law_bag_here"]) fun _ _ _ _ _ _ us hl => match us, hl with | [_], _ => rfl,
    k__law_price := hk__law_price,
    g__law_price := PySem.W.mg_of X G ha__law_price,
    f__law_pairs := f__law_pairs,
    fd__law_pairs := _,
    F__law_pairs := fun_mk (st := s__law_pairs) hl__law_pairs hc__law_pairs hk__law_pairs,
    b__law_pairs := (fun_mk (st := s__law_pairs) hl__law_pairs hc__law_pairs hk__law_pairs).binds (ps := ["_law_bag_here", "_law_things"]) fun _ _ _ _ _ _ us hl => match us, hl with | [_, _], _ => rfl,
    k__law_pairs := hk__law_pairs,
    g__law_pairs := PySem.W.mg_of X G ha__law_pairs,
    f__law_entry := f__law_entry,
    fd__law_entry := _,
    F__law_entry := fun_mk (st := s__law_entry) hl__law_entry hc__law_entry hk__law_entry,
    b__law_entry := (fun_mk (st := s__law_entry) hl__law_entry hc__law_entry hk__law_entry).binds (ps := ["_law_bag_here", "_law_holders", "_law_things", "_law_last"]) fun _ _ _ _ _ _ us hl => match us, hl with | [_, _, _, _], _ => rfl,
    k__law_entry := hk__law_entry,
    g__law_entry := PySem.W.mg_of X G ha__law_entry,
    f__law_slot := f__law_slot,
    fd__law_slot := _,
    F__law_slot := fun_mk (st := s__law_slot) hl__law_slot hc__law_slot hk__law_slot,
    b__law_slot := (fun_mk (st := s__law_slot) hl__law_slot hc__law_slot hk__law_slot).binds (ps := ["_law_row"]) fun _ _ _ _ _ _ us hl => match us, hl with | [_], _ => rfl,
    k__law_slot := hk__law_slot,
    g__law_slot := PySem.W.mg_of X G ha__law_slot,
    f__law_name := f__law_name,
    fd__law_name := _,
    F__law_name := fun_mk (st := s__law_name) hl__law_name hc__law_name hk__law_name,
    b__law_name := (fun_mk (st := s__law_name) hl__law_name hc__law_name hk__law_name).binds (ps := ["_law_bag_here"]) fun _ _ _ _ _ _ us hl => match us, hl with | [_], _ => rfl,
    k__law_name := hk__law_name,
    g__law_name := PySem.W.mg_of X G ha__law_name,
    f__law_names := f__law_names,
    fd__law_names := _,
    F__law_names := fun_mk (st := s__law_names) hl__law_names hc__law_names hk__law_names,
    b__law_names := (fun_mk (st := s__law_names) hl__law_names hc__law_names hk__law_names).binds (ps := ["_law_bag_here", "_law_many"]) fun _ _ _ _ _ _ us hl => match us, hl with | [_, _], _ => rfl,
    k__law_names := hk__law_names,
    g__law_names := PySem.W.mg_of X G ha__law_names,
    f__law_book := f__law_book,
    fd__law_book := _,
    F__law_book := fun_mk (st := s__law_book) hl__law_book hc__law_book hk__law_book,
    b__law_book := (fun_mk (st := s__law_book) hl__law_book hc__law_book hk__law_book).binds (ps := ["_law_bag_here", "_law_many"]) fun _ _ _ _ _ _ us hl => match us, hl with | [_, _], _ => rfl,
    k__law_book := hk__law_book,
    g__law_book := PySem.W.mg_of X G ha__law_book,
    f__law_shuffled := f__law_shuffled,
    fd__law_shuffled := _,
    F__law_shuffled := fun_mk (st := s__law_shuffled) hl__law_shuffled hc__law_shuffled hk__law_shuffled,
    b__law_shuffled := (fun_mk (st := s__law_shuffled) hl__law_shuffled hc__law_shuffled hk__law_shuffled).binds (ps := ["_law_bag_here", "_law_rows"]) fun _ _ _ _ _ _ us hl => match us, hl with | [_, _], _ => rfl,
    k__law_shuffled := hk__law_shuffled,
    g__law_shuffled := PySem.W.mg_of X G ha__law_shuffled,
    f__law_extra := f__law_extra,
    fd__law_extra := _,
    F__law_extra := fun_mk (st := s__law_extra) hl__law_extra hc__law_extra hk__law_extra,
    b__law_extra := (fun_mk (st := s__law_extra) hl__law_extra hc__law_extra hk__law_extra).binds (ps := ["_law_one", "_law_other"]) fun _ _ _ _ _ _ us hl => match us, hl with | [_, _], _ => rfl,
    k__law_extra := hk__law_extra,
    g__law_extra := PySem.W.mg_of X G ha__law_extra,
    f__law_formed := f__law_formed,
    fd__law_formed := _,
    F__law_formed := fun_mk (st := s__law_formed) hl__law_formed hc__law_formed hk__law_formed,
    b__law_formed := (fun_mk (st := s__law_formed) hl__law_formed hc__law_formed hk__law_formed).binds (ps := ["_law_rows"]) fun _ _ _ _ _ _ us hl => match us, hl with | [_], _ => rfl,
    k__law_formed := hk__law_formed,
    g__law_formed := PySem.W.mg_of X G ha__law_formed,
    a_FORMS_price := a_FORMS_price,
    i_FORMS_price := hi_FORMS_price,
    q_FORMS_price := fun H => .inr ⟨_, _, _, hq_FORMS_price, rfl, rfl, (by show 3 ≤ sizeLine; decide), .cons rfl (.cons rfl (.cons rfl (.nil)))⟩,
    a_FORMS_mix := a_FORMS_mix,
    i_FORMS_mix := hi_FORMS_mix,
    q_FORMS_mix := fun H => .inr ⟨_, _, _, hq_FORMS_mix, rfl, rfl, (by show 2 ≤ sizeLine; decide), .cons rfl (.cons rfl (.nil))⟩,
    a_FORMS_come := a_FORMS_come,
    i_FORMS_come := hi_FORMS_come,
    q_FORMS_come := fun H => .inr ⟨_, _, _, hq_FORMS_come, rfl, rfl, (by show 3 ≤ sizeLine; decide), .cons rfl (.cons rfl (.cons rfl (.nil)))⟩,
    a_FORMS_go := a_FORMS_go,
    i_FORMS_go := hi_FORMS_go,
    q_FORMS_go := fun H => .inr ⟨_, _, _, hq_FORMS_go, rfl, rfl, (by show 3 ≤ sizeLine; decide), .cons rfl (.cons rfl (.cons rfl (.nil)))⟩,
    a_FORMS_draw := a_FORMS_draw,
    i_FORMS_draw := hi_FORMS_draw,
    q_FORMS_draw := fun H => .inr ⟨_, _, _, hq_FORMS_draw, rfl, rfl, (by show 3 ≤ sizeLine; decide), .cons rfl (.cons rfl (.cons rfl (.nil)))⟩,
    a_FORMS_give := a_FORMS_give,
    i_FORMS_give := hi_FORMS_give,
    q_FORMS_give := fun H => .inr ⟨_, _, _, hq_FORMS_give, rfl, rfl, (by show 4 ≤ sizeLine; decide), .cons rfl (.cons rfl (.cons rfl (.cons rfl (.nil))))⟩,
    a_FORMS_rate := a_FORMS_rate,
    i_FORMS_rate := hi_FORMS_rate,
    q_FORMS_rate := fun H => .inr ⟨_, _, _, hq_FORMS_rate, rfl, rfl, (by show 2 ≤ sizeLine; decide), .cons rfl (.cons rfl (.nil))⟩,
    a_FORMS_harvest := a_FORMS_harvest,
    i_FORMS_harvest := hi_FORMS_harvest,
    q_FORMS_harvest := fun H => .inr ⟨_, _, _, hq_FORMS_harvest, rfl, rfl, (by show 1 ≤ sizeLine; decide), .cons rfl (.nil)⟩,
    a_FORMS_aside := a_FORMS_aside,
    i_FORMS_aside := hi_FORMS_aside,
    q_FORMS_aside := fun H => .inr ⟨_, _, _, hq_FORMS_aside, rfl, rfl, (by show 2 ≤ sizeLine; decide), .cons rfl (.cons rfl (.nil))⟩,
    a_FORMS_home := a_FORMS_home,
    i_FORMS_home := hi_FORMS_home,
    q_FORMS_home := fun H => .inr ⟨_, _, _, hq_FORMS_home, rfl, rfl, (by show 2 ≤ sizeLine; decide), .cons rfl (.cons rfl (.nil))⟩,
    a_FORMS_levy := a_FORMS_levy,
    i_FORMS_levy := hi_FORMS_levy,
    q_FORMS_levy := fun H => .inr ⟨_, _, _, hq_FORMS_levy, rfl, rfl, (by show 2 ≤ sizeLine; decide), .cons rfl (.cons rfl (.nil))⟩,
    a_FORMS_hurdle := a_FORMS_hurdle,
    i_FORMS_hurdle := hi_FORMS_hurdle,
    q_FORMS_hurdle := fun H => .inr ⟨_, _, _, hq_FORMS_hurdle, rfl, rfl, (by show 2 ≤ sizeLine; decide), .cons rfl (.cons rfl (.nil))⟩,
    tc := tc,
    tP := tP,
    tcode := htcode }, rfl, rfl⟩
  obtain ⟨T, rfl, rfl⟩ := T
  refine ⟨_, [(T.tc, T.tP)], sp_law K T.tP, fun p hp => ?_, fun p hp => ?_, fun p hp => ?_, fun s v => .of_eq rfl, fun H a ns hl _ hT hS => ⟨a, ns, rfl, hS, hl, LamX.TabS.nil (hT _ List.mem_cons_self), fun _ => rfl⟩, fun base _ _ TB => ok_law F T (TB _ List.mem_cons_self)⟩
  · rw [List.mem_singleton.mp hp]; exact htab
  · rw [List.mem_singleton.mp hp]; exact htno
  · rw [List.mem_singleton.mp hp]; exact PySem.W.codeHd_of_K X hthd
end Cr
open PySem PySem.W PyProof.Rows
set_option maxRecDepth 100000 in
set_option maxHeartbeats 0 in
theorem PySem.Challenge.cw_crestpool_k58_what_parts_two_lists_holds : PySem.Challenge.rw_crestpool_k58_what_parts_two_lists.Holds := by
  w_on; o_law; k_head; (case hw => w_witness2)
  refine LamX.walk_ofTs (l := PySem.Challenge.rw_crestpool_k58_what_parts_two_lists) (n := 63) (k := 9) (x := "_law_script") (CX := fun _ => L2.CX0) rfl (by decide) rfl ⟨rfl, by decide, by decide⟩ (fun w h Y => PySem.W.km_in_of Y) ?F (fun _ _ _ _ _ h => h)
  case F =>
    intro w mg fa h Y KX G hmg
    refine' Cr.all_mk KX G hmg ?hn_bool ?hn_int ?hn_isinstance ?hn_all ?hn_len ?hn_str ?hn_tuple ?hn_enumerate ?hn_sorted ?hn_list ?hn_range ?hc_LAST ?hc_LETTERS ?hc_MOST_PRICE ?hc_MOST_SUM ?hc_WHOLE ?hc_FORMS ?hld_FORMS ?hkl_FORMS ?hsm_FORMS ?hi_FORMS_price ?hi_FORMS_mix ?hi_FORMS_come ?hi_FORMS_go ?hi_FORMS_draw ?hi_FORMS_give ?hi_FORMS_rate ?hi_FORMS_harvest ?hi_FORMS_aside ?hi_FORMS_home ?hi_FORMS_levy ?hi_FORMS_hurdle ?ha_is_whole ?hl_is_whole ?hc_is_whole ?hk_is_whole ?ha_is_day ?hl_is_day ?hc_is_day ?hk_is_day ?ha_is_name ?hl_is_name ?hc_is_name ?hk_is_name ?ha_is_price ?hl_is_price ?hc_is_price ?hk_is_price ?ha_is_sum ?hl_is_sum ?hc_is_sum ?hk_is_sum ?ha_is_parts ?hl_is_parts ?hc_is_parts ?hk_is_parts ?ha_is_rate ?hl_is_rate ?hc_is_rate ?hk_is_rate ?ha_is_levy ?hl_is_levy ?hc_is_levy ?hk_is_levy ?ha_is_pair ?hl_is_pair ?hc_is_pair ?hk_is_pair ?ha_is_pairs ?hl_is_pairs ?hc_is_pairs ?hk_is_pairs ?ha_checked ?hl_checked ?hc_checked ?hk_checked ?ha_by_day ?hl_by_day ?hc_by_day ?hk_by_day ?he0_by_day ?ha_in_order ?hl_in_order ?hc_in_order ?hk_in_order ?ha_parting ?hl_parting ?hc_parting ?hk_parting ?ha__law_bag ?hl__law_bag ?hc__law_bag ?hk__law_bag ?ha__law_pull ?hl__law_pull ?hc__law_pull ?hk__law_pull ?ha__law_wide ?hl__law_wide ?hc__law_wide ?hk__law_wide ?ha__law_pennies ?hl__law_pennies ?hc__law_pennies ?hk__law_pennies ?ha__law_price ?hl__law_price ?hc__law_price ?hk__law_price ?ha__law_pairs ?hl__law_pairs ?hc__law_pairs ?hk__law_pairs ?ha__law_entry ?hl__law_entry ?hc__law_entry ?hk__law_entry ?ha__law_slot ?hl__law_slot ?hc__law_slot ?hk__law_slot ?ha__law_name ?hl__law_name ?hc__law_name ?hk__law_name ?ha__law_names ?hl__law_names ?hc__law_names ?hk__law_names ?ha__law_book ?hl__law_book ?hc__law_book ?hk__law_book ?ha__law_shuffled ?hl__law_shuffled ?hc__law_shuffled ?hk__law_shuffled ?ha__law_extra ?hl__law_extra ?hc__law_extra ?hk__law_extra ?ha__law_formed ?hl__law_formed ?hc__law_formed ?hk__law_formed ?ha_law ?hl_law ?hc_law ?hk_law ?hq_FORMS_price ?hq_FORMS_mix ?hq_FORMS_come ?hq_FORMS_go ?hq_FORMS_draw ?hq_FORMS_give ?hq_FORMS_rate ?hq_FORMS_harvest ?hq_FORMS_aside ?hq_FORMS_home ?hq_FORMS_levy ?hq_FORMS_hurdle ?htcode ?htlk ?htp ?hthd ?htno ?htab
    (case hn_bool => k_is)
    (case hn_int => k_is)
    (case hn_isinstance => k_is)
    (case hn_all => k_is)
    (case hn_len => k_is)
    (case hn_str => k_is)
    (case hn_tuple => k_is)
    (case hn_enumerate => k_is)
    (case hn_sorted => k_is)
    (case hn_list => k_is)
    (case hn_range => k_is)
    (case hc_LAST => k_is)
    (case hc_LETTERS => k_is)
    (case hc_MOST_PRICE => k_is)
    (case hc_MOST_SUM => k_is)
    (case hc_WHOLE => k_is)
    (case hc_FORMS => k_is)
    (case hld_FORMS => k_is)
    (case hkl_FORMS => first | exact trivial | (repeat (first | exact trivial | refine ⟨⟨_, _, rfl, rfl⟩, ?_⟩)))
    (case hsm_FORMS => first | rfl | decide +kernel)
    (case hi_FORMS_price => k_is)
    (case hi_FORMS_mix => k_is)
    (case hi_FORMS_come => k_is)
    (case hi_FORMS_go => k_is)
    (case hi_FORMS_draw => k_is)
    (case hi_FORMS_give => k_is)
    (case hi_FORMS_rate => k_is)
    (case hi_FORMS_harvest => k_is)
    (case hi_FORMS_aside => k_is)
    (case hi_FORMS_home => k_is)
    (case hi_FORMS_levy => k_is)
    (case hi_FORMS_hurdle => k_is)
    (case ha_is_whole => k_is)
    (case hl_is_whole => k_is)
    (case hc_is_whole => k_is)
    (case hk_is_whole => k_is)
    (case ha_is_day => k_is)
    (case hl_is_day => k_is)
    (case hc_is_day => k_is)
    (case hk_is_day => k_is)
    (case ha_is_name => k_is)
    (case hl_is_name => k_is)
    (case hc_is_name => k_is)
    (case hk_is_name => k_is)
    (case ha_is_price => k_is)
    (case hl_is_price => k_is)
    (case hc_is_price => k_is)
    (case hk_is_price => k_is)
    (case ha_is_sum => k_is)
    (case hl_is_sum => k_is)
    (case hc_is_sum => k_is)
    (case hk_is_sum => k_is)
    (case ha_is_parts => k_is)
    (case hl_is_parts => k_is)
    (case hc_is_parts => k_is)
    (case hk_is_parts => k_is)
    (case ha_is_rate => k_is)
    (case hl_is_rate => k_is)
    (case hc_is_rate => k_is)
    (case hk_is_rate => k_is)
    (case ha_is_levy => k_is)
    (case hl_is_levy => k_is)
    (case hc_is_levy => k_is)
    (case hk_is_levy => k_is)
    (case ha_is_pair => k_is)
    (case hl_is_pair => k_is)
    (case hc_is_pair => k_is)
    (case hk_is_pair => k_is)
    (case ha_is_pairs => k_is)
    (case hl_is_pairs => k_is)
    (case hc_is_pairs => k_is)
    (case hk_is_pairs => k_is)
    (case ha_checked => k_is)
    (case hl_checked => k_is)
    (case hc_checked => k_is)
    (case hk_checked => k_is)
    (case ha_by_day => k_is)
    (case hl_by_day => k_is)
    (case hc_by_day => k_is)
    (case hk_by_day => k_is)
    (case he0_by_day => k_is)
    (case ha_in_order => k_is)
    (case hl_in_order => k_is)
    (case hc_in_order => k_is)
    (case hk_in_order => k_is)
    (case ha_parting => k_is)
    (case hl_parting => k_is)
    (case hc_parting => k_is)
    (case hk_parting => k_is)
    (case ha__law_bag => k_is)
    (case hl__law_bag => k_is)
    (case hc__law_bag => k_is)
    (case hk__law_bag => k_is)
    (case ha__law_pull => k_is)
    (case hl__law_pull => k_is)
    (case hc__law_pull => k_is)
    (case hk__law_pull => k_is)
    (case ha__law_wide => k_is)
    (case hl__law_wide => k_is)
    (case hc__law_wide => k_is)
    (case hk__law_wide => k_is)
    (case ha__law_pennies => k_is)
    (case hl__law_pennies => k_is)
    (case hc__law_pennies => k_is)
    (case hk__law_pennies => k_is)
    (case ha__law_price => k_is)
    (case hl__law_price => k_is)
    (case hc__law_price => k_is)
    (case hk__law_price => k_is)
    (case ha__law_pairs => k_is)
    (case hl__law_pairs => k_is)
    (case hc__law_pairs => k_is)
    (case hk__law_pairs => k_is)
    (case ha__law_entry => k_is)
    (case hl__law_entry => k_is)
    (case hc__law_entry => k_is)
    (case hk__law_entry => k_is)
    (case ha__law_slot => k_is)
    (case hl__law_slot => k_is)
    (case hc__law_slot => k_is)
    (case hk__law_slot => k_is)
    (case ha__law_name => k_is)
    (case hl__law_name => k_is)
    (case hc__law_name => k_is)
    (case hk__law_name => k_is)
    (case ha__law_names => k_is)
    (case hl__law_names => k_is)
    (case hc__law_names => k_is)
    (case hk__law_names => k_is)
    (case ha__law_book => k_is)
    (case hl__law_book => k_is)
    (case hc__law_book => k_is)
    (case hk__law_book => k_is)
    (case ha__law_shuffled => k_is)
    (case hl__law_shuffled => k_is)
    (case hc__law_shuffled => k_is)
    (case hk__law_shuffled => k_is)
    (case ha__law_extra => k_is)
    (case hl__law_extra => k_is)
    (case hc__law_extra => k_is)
    (case hk__law_extra => k_is)
    (case ha__law_formed => k_is)
    (case hl__law_formed => k_is)
    (case hc__law_formed => k_is)
    (case hk__law_formed => k_is)
    (case ha_law => k_is)
    (case hl_law => k_is)
    (case hc_law => k_is)
    (case hk_law => k_is)
    (case hq_FORMS_price => k_is)
    (case hq_FORMS_mix => k_is)
    (case hq_FORMS_come => k_is)
    (case hq_FORMS_go => k_is)
    (case hq_FORMS_draw => k_is)
    (case hq_FORMS_give => k_is)
    (case hq_FORMS_rate => k_is)
    (case hq_FORMS_harvest => k_is)
    (case hq_FORMS_aside => k_is)
    (case hq_FORMS_home => k_is)
    (case hq_FORMS_levy => k_is)
    (case hq_FORMS_hurdle => k_is)
    (case htcode => rfl)
    (case htlk => k_is)
    (case htp => rfl)
    (case hthd => first | kernel_rfl | decide +kernel)
    (case htno => first | kernel_rfl | decide +kernel)
    (case htab => exact PySem.W.km_tabs_of Y _ (by k_mem))
#print axioms PySem.Challenge.cw_crestpool_k58_what_parts_two_lists_holds
