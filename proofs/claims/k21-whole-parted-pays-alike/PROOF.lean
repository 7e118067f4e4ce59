import PyProof.Rows.All
import Wide.All
import OpenK.AllK
import Wide.FinOn
import HandS.ForMost
import HandS.ForExc
import HandS.Wide
import HandS.IsInst
import HandS.Defaults
import HandS.ExcIs
import HandS.ExcBuiltin
import HandS.Flow
import HandS.Style
import HandS.MakeKwOnly
import HandS.Comp
import HandS.Deep
import HandS.More
import KE.KDictCopyH
import HandS.Sort
import HandS.Conv
import HandS.TupAny
import HandS.OwnEq
import PySem.Challenge.RW_crestpool_k21_whole_parted_pays_alike
set_option Elab.async false
set_option linter.all false
set_option maxRecDepth 100000
set_option maxHeartbeats 4000000
namespace Cr
/-- a fraction's numbers are below 2 ^ n -/
def Sz (n : Nat) (r : Rat) : Prop := r.num.natAbs < 2 ^ n ∧ r.den < 2 ^ n
theorem Sz.mono {n m : Nat} {r : Rat} (h : Sz n r) (k : n ≤ m) : Sz m r :=
  have e : 2 ^ n ≤ 2 ^ m := Nat.pow_le_pow_right (by decide) k
  ⟨Nat.lt_of_lt_of_le h.1 e, Nat.lt_of_lt_of_le h.2 e⟩
theorem lt_two {a n : Nat} (h : a < 2 ^ n) {b m : Nat} (k : b < 2 ^ m) : a * b < 2 ^ (n + m) := by
  rw [Nat.pow_add]; exact Nat.mul_lt_mul'' h k
/-- the numbers of a quotient in lowest terms are no greater -/
theorem divInt_num_le (t b : Int) (hb : b ≠ 0) : (Rat.divInt t b).num.natAbs ≤ t.natAbs := by
  rw [Rat.num_divInt, Int.natAbs_ediv_of_dvd]
  · refine Nat.le_trans (Nat.div_le_self _ _) ?_
    rw [Int.natAbs_mul, Int.natAbs_sign, if_neg hb, Nat.one_mul]
    exact Nat.le_refl _
  · exact Int.dvd_trans (Int.gcd_dvd_right _ _) (Int.dvd_mul_left _ _)
theorem divInt_den_le (t b : Int) (hb : b ≠ 0) : (Rat.divInt t b).den ≤ b.natAbs := by
  rw [Rat.den_divInt, if_neg hb]
  exact Nat.div_le_self _ _
theorem divInt_sz {t b : Int} {n : Nat} (hb : b ≠ 0) (h1 : t.natAbs < 2 ^ n) (h2 : b.natAbs < 2 ^ n) : Sz n (Rat.divInt t b) :=
  ⟨Nat.lt_of_le_of_lt (divInt_num_le t b hb) h1, Nat.lt_of_le_of_lt (divInt_den_le t b hb) h2⟩
theorem rat_add (r s : Rat) : Rat.divInt (r.num * s.den + s.num * r.den) (r.den * s.den) = r + s := by
  have h1 : (r.den : Int) ≠ 0 := by have := r.den_pos; omega
  have h2 : (s.den : Int) ≠ 0 := by have := s.den_pos; omega
  rw [← Rat.divInt_add_divInt _ _ h1 h2, Rat.num_divInt_den, Rat.num_divInt_den]
theorem rat_sub (r s : Rat) : Rat.divInt (r.num * s.den - s.num * r.den) (r.den * s.den) = r - s := by
  have e := rat_add r (-s)
  rw [Rat.neg_num, Rat.neg_den] at e
  rw [Rat.sub_eq_add_neg, ← e, Int.neg_mul, Int.sub_eq_add_neg]
theorem rat_mul (r s : Rat) : Rat.divInt (r.num * s.num) (r.den * s.den) = r * s := by
  rw [← Rat.divInt_mul_divInt, Rat.num_divInt_den, Rat.num_divInt_den]
theorem den_ne (r : Rat) : (r.den : Int) ≠ 0 := by have := r.den_pos; omega
theorem natAbs_lt_mul {a b : Int} {n m : Nat} (h : a.natAbs < 2 ^ n) (k : b.natAbs < 2 ^ m) : (a * b).natAbs < 2 ^ (n + m) := by
  rw [Int.natAbs_mul]; exact lt_two h k
theorem natAbs_lt_add {a b : Int} {n : Nat} (h : a.natAbs < 2 ^ n) (k : b.natAbs < 2 ^ n) : (a + b).natAbs < 2 ^ (n + 1) := by
  have := Int.natAbs_add_le a b
  rw [Nat.pow_succ]; omega
theorem natAbs_lt_sub {a b : Int} {n : Nat} (h : a.natAbs < 2 ^ n) (k : b.natAbs < 2 ^ n) : (a - b).natAbs < 2 ^ (n + 1) := by
  have := Int.natAbs_add_le a (-b)
  rw [Int.natAbs_neg] at this
  rw [Int.sub_eq_add_neg, Nat.pow_succ]; omega
theorem sz0 : Sz 4000 0 := by unfold Sz; exact ⟨Nat.pow_pos (by decide), Nat.one_lt_two_pow (by decide)⟩
theorem Sz.dA {n : Nat} {r : Rat} (h : Sz n r) : (r.den : Int).natAbs < 2 ^ n := by rw [Int.natAbs_natCast]; exact h.2
theorem pw_le {a n m : Nat} (h : a < 2 ^ n) (k : n ≤ m) : a < 2 ^ m := Nat.lt_of_lt_of_le h (Nat.pow_le_pow_right (by decide) k)
theorem Sz.add {n m : Nat} {r s : Rat} (h : Sz n r) (k : Sz m s) : Sz (n + m + 1) (r + s) := by
  rw [← rat_add]
  refine divInt_sz ?_ ?_ ?_
  · exact Int.mul_ne_zero (den_ne r) (den_ne s)
  · refine natAbs_lt_add (natAbs_lt_mul h.1 k.dA) ?_
    rw [Nat.add_comm]
    exact natAbs_lt_mul k.1 h.dA
  · exact pw_le (natAbs_lt_mul h.dA k.dA) (by omega)
theorem Sz.sub {n m : Nat} {r s : Rat} (h : Sz n r) (k : Sz m s) : Sz (n + m + 1) (r - s) := by
  rw [← rat_sub]
  refine divInt_sz ?_ ?_ ?_
  · exact Int.mul_ne_zero (den_ne r) (den_ne s)
  · refine natAbs_lt_sub (natAbs_lt_mul h.1 k.dA) ?_
    rw [Nat.add_comm]
    exact natAbs_lt_mul k.1 h.dA
  · exact pw_le (natAbs_lt_mul h.dA k.dA) (by omega)
theorem Sz.mul {n m : Nat} {r s : Rat} (h : Sz n r) (k : Sz m s) : Sz (n + m) (r * s) := by
  rw [← rat_mul]
  refine divInt_sz ?_ ?_ ?_
  · exact Int.mul_ne_zero (den_ne r) (den_ne s)
  · exact natAbs_lt_mul h.1 k.1
  · exact natAbs_lt_mul h.dA k.dA
theorem Sz.neg {n : Nat} {r : Rat} (h : Sz n r) : Sz n (-r) := by
  unfold Sz; rw [Rat.neg_num, Rat.neg_den, Int.natAbs_neg]; exact h
theorem num_ne {s : Rat} (h : s ≠ 0) : s.num ≠ 0 := fun e => h (Rat.num_eq_zero.mp e)
theorem rat_div (r s : Rat) : Rat.divInt (r.num * s.den) (r.den * s.num) = r / s := by
  rw [Rat.div_def, ← Rat.num_divInt_den s, Rat.inv_divInt, ← Rat.divInt_mul_divInt, Rat.num_divInt_den]
  rw [Rat.num_divInt_den]
theorem Sz.div {n m : Nat} {r s : Rat} (h : Sz n r) (k : Sz m s) (h0 : s ≠ 0) : Sz (n + m) (r / s) := by
  rw [← rat_div]
  refine divInt_sz ?_ ?_ ?_
  · exact Int.mul_ne_zero (den_ne r) (num_ne h0)
  · exact natAbs_lt_mul h.1 k.dA
  · exact natAbs_lt_mul h.dA k.1
/-- what the two lowest-terms loops end with -/
def lowG (t b : Int) : Int := if b < 0 then -((Nat.gcd t.natAbs b.natAbs : Nat) : Int) else ((Nat.gcd t.natAbs b.natAbs : Nat) : Int)
theorem gcd_pos {t b : Int} (hb : b ≠ 0) : 0 < Nat.gcd t.natAbs b.natAbs := Nat.gcd_pos_of_pos_right _ (by omega)
theorem low_num {t b : Int} (hb : b ≠ 0) : t.fdiv (lowG t b) = (Rat.divInt t b).num := by
  have hg := gcd_pos (t := t) hb
  have hd : ((Nat.gcd t.natAbs b.natAbs : Nat) : Int) ∣ t := by
    have := Int.gcd_dvd_left t b
    exact this
  have e : Int.gcd b t = Nat.gcd t.natAbs b.natAbs := by show Nat.gcd b.natAbs t.natAbs = _; exact Nat.gcd_comm _ _
  rw [Rat.num_divInt, e]
  unfold lowG
  obtain ⟨k, hk⟩ := hd
  generalize hgg : Nat.gcd t.natAbs b.natAbs = g at *
  by_cases h : b < 0
  · rw [if_pos h, Int.sign_eq_neg_one_of_neg h, hk]
    rw [Int.fdiv_eq_ediv_of_dvd (by rw [Int.neg_dvd]; exact Int.dvd_mul_right _ _)]
    rw [Int.ediv_neg, Int.mul_ediv_cancel_left _ (by omega)]
    rw [show (-1 : Int) * (↑g * k) = ↑g * (-k) by rw [Int.mul_neg]; omega, Int.mul_ediv_cancel_left _ (by omega)]
  · rw [if_neg h, Int.sign_eq_one_of_pos (by omega), hk]
    rw [Int.fdiv_eq_ediv_of_dvd (Int.dvd_mul_right _ _), Int.one_mul]
theorem low_den {t b : Int} (hb : b ≠ 0) : b.fdiv (lowG t b) = ((Rat.divInt t b).den : Int) := by
  have hg := gcd_pos (t := t) hb
  have hd : ((Nat.gcd t.natAbs b.natAbs : Nat) : Int) ∣ b := by
    have := Int.gcd_dvd_right t b
    exact this
  have e : Int.gcd b t = Nat.gcd t.natAbs b.natAbs := by show Nat.gcd b.natAbs t.natAbs = _; exact Nat.gcd_comm _ _
  rw [Rat.den_divInt, if_neg hb, e]
  unfold lowG
  obtain ⟨k, hk⟩ := hd
  generalize hgg : Nat.gcd t.natAbs b.natAbs = g at *
  have ea : b.natAbs = g * k.natAbs := by rw [hk, Int.natAbs_mul, Int.natAbs_natCast]
  rw [ea, Nat.mul_div_cancel_left _ hg]
  by_cases h : b < 0
  · rw [if_pos h, hk]
    rw [Int.fdiv_eq_ediv_of_dvd (by rw [Int.neg_dvd]; exact Int.dvd_mul_right _ _)]
    rw [Int.ediv_neg, Int.mul_ediv_cancel_left _ (by omega)]
    have : k < 0 := by
      rcases Int.lt_or_le k 0 with q | q
      · exact q
      · exfalso; have := Int.mul_nonneg (show (0 : Int) ≤ g by omega) q; omega
    omega
  · rw [if_neg h, hk]
    rw [Int.fdiv_eq_ediv_of_dvd (Int.dvd_mul_right _ _), Int.mul_ediv_cancel_left _ (by omega)]
    have : 0 ≤ k := by
      rcases Int.lt_or_le k 0 with q | q
      · exfalso
        have := Int.mul_neg_of_pos_of_neg (show (0 : Int) < g by omega) q; omega
      · exact q
    omega
/-- one turn of the loop -/
theorem gcd_turn (a b : Nat) : Nat.gcd b (a % b) = Nat.gcd a b := by
  rw [Nat.gcd_comm a b, Nat.gcd_rec b a, Nat.gcd_comm]
end Cr
namespace Cr
/-- sums of fractions -/
theorem foldl_add (a : Rat) (rs : List Rat) : rs.foldl (· + ·) a = rs.foldl (· + ·) 0 + a := by
  induction rs generalizing a with
  | nil => show a = 0 + a; grind
  | cons r rs ih =>
    rw [List.foldl_cons, List.foldl_cons, ih (a + r), ih (0 + r)]
    grind
theorem foldl_rev (rs : List Rat) : rs.reverse.foldl (· + ·) 0 = rs.foldl (· + ·) 0 := by
  induction rs with
  | nil => rfl
  | cons r rs ih =>
    rw [List.reverse_cons, List.foldl_append, ih, List.foldl_cons, List.foldl_cons, List.foldl_nil, foldl_add (0 + r)]
    grind
theorem foldl_sz {n m : Nat} (rs : List Rat) (h : ∀ r, r ∈ rs → Sz n r) (a : Rat) (ha : Sz m a) : Sz (m + (n + 1) * rs.length) (rs.foldl (· + ·) a) := by
  induction rs generalizing a m with
  | nil => exact ha.mono (by simp)
  | cons r rs ih =>
    rw [List.foldl_cons]
    refine (ih (fun x hx => h x (List.mem_cons_of_mem _ hx)) (a + r) (ha.add (h r List.mem_cons_self))).mono ?_
    rw [List.length_cons, Nat.mul_add]
    omega
end Cr
namespace Cr
theorem divInt_pos {t b : Int} (h : 0 < t) (k : 0 < b) : 0 < Rat.divInt t b := by
  rw [Rat.divInt_eq_div, Rat.div_def]
  exact Rat.mul_pos (by exact_mod_cast h) (Rat.inv_pos.mpr (by exact_mod_cast k))
/-- the fee in a lot -/
def feeR (w m : Rat) (rate : Int) : Rat := if m < w then (w - m) * Rat.divInt rate 10000 else 0
theorem sz1 {n : Nat} (h : 0 < n) : Sz n 0 := by unfold Sz; exact ⟨Nat.pow_pos (by decide), Nat.one_lt_two_pow (by omega)⟩
theorem feeR_sz {n : Nat} {w m : Rat} {rate : Int} (h : Sz n w) (k : Sz n m) (r0 : 0 ≤ rate) (r1 : rate ≤ 10000) : Sz (2 * n + 65) (feeR w m rate) := by
  unfold feeR
  split
  · exact ((h.sub k).mul (divInt_sz (n := 64) (by decide) (by omega) (by omega))).mono (by omega)
  · exact sz1 (by omega)
end Cr

namespace Cr
/-- the fee in a part of a lot -/
theorem feeR_part {w m r : Rat} {i : Int} (h : 0 < r) : feeR (w * r) (m * r) i = feeR w m i * r := by
  unfold feeR
  by_cases c : m < w
  · rw [if_pos c, if_pos (Rat.mul_lt_mul_of_pos_right c h)]
    grind
  · rw [if_neg c, if_neg (fun z => c ((Rat.mul_lt_mul_right h).mp z))]
    grind
theorem cents {i : Int} : Rat.divInt i 10000 + Rat.divInt (10000 - i) 10000 = 1 := by
  rw [Rat.divInt_eq_div, Rat.divInt_eq_div]
  push_cast
  grind
end Cr
namespace Cr
/-- top and bottom bounded apart -/
def Sz2 (n d : Nat) (r : Rat) : Prop := r.num.natAbs < 2 ^ n ∧ r.den < 2 ^ d
theorem Sz2.mono {n d n' d' : Nat} {r : Rat} (h : Sz2 n d r) (k : n ≤ n') (k' : d ≤ d') : Sz2 n' d' r := ⟨pw_le h.1 k, pw_le h.2 k'⟩
theorem Sz2.sz {n d m : Nat} {r : Rat} (h : Sz2 n d r) (k : n ≤ m) (k' : d ≤ m) : Sz m r := ⟨pw_le h.1 k, pw_le h.2 k'⟩
theorem Sz2.add {n d m e : Nat} {r s : Rat} (h : Sz2 n d r) (k : Sz2 m e s) {x : Nat} (h1 : n + e ≤ x) (h2 : m + d ≤ x) : Sz2 (x + 1) (d + e) (r + s) := by
  rw [← rat_add]
  have hb : (r.den : Int) * s.den ≠ 0 := Int.mul_ne_zero (den_ne r) (den_ne s)
  have ad : (r.den : Int).natAbs < 2 ^ d := by rw [Int.natAbs_natCast]; exact h.2
  have bd : (s.den : Int).natAbs < 2 ^ e := by rw [Int.natAbs_natCast]; exact k.2
  refine ⟨Nat.lt_of_le_of_lt (divInt_num_le _ _ hb) (natAbs_lt_add (pw_le (natAbs_lt_mul h.1 bd) h1) (pw_le (natAbs_lt_mul k.1 ad) h2)), Nat.lt_of_le_of_lt (divInt_den_le _ _ hb) (natAbs_lt_mul ad bd)⟩
theorem Sz2.toSz {n d : Nat} {r : Rat} (h : Sz2 n d r) : Sz (n + d) r := h.sz (Nat.le_add_right _ _) (Nat.le_add_left _ _)
theorem Sz2.mul {n d m e : Nat} {r s : Rat} (h : Sz2 n d r) (k : Sz2 m e s) : Sz2 (n + m) (d + e) (r * s) := by
  rw [← rat_mul]
  have hb : (r.den : Int) * s.den ≠ 0 := Int.mul_ne_zero (den_ne r) (den_ne s)
  have ad : (r.den : Int).natAbs < 2 ^ d := by rw [Int.natAbs_natCast]; exact h.2
  have bd : (s.den : Int).natAbs < 2 ^ e := by rw [Int.natAbs_natCast]; exact k.2
  exact ⟨Nat.lt_of_le_of_lt (divInt_num_le _ _ hb) (natAbs_lt_mul h.1 k.1), Nat.lt_of_le_of_lt (divInt_den_le _ _ hb) (natAbs_lt_mul ad bd)⟩
theorem divInt_sz2 {t b : Int} {n d : Nat} (hb : b ≠ 0) (h1 : t.natAbs < 2 ^ n) (h2 : b.natAbs < 2 ^ d) : Sz2 n d (Rat.divInt t b) :=
  ⟨Nat.lt_of_le_of_lt (divInt_num_le t b hb) h1, Nat.lt_of_le_of_lt (divInt_den_le t b hb) h2⟩
end Cr

namespace Cr
open PySem PySem.Spec PyProof.Rows L2
abbrev St := L2.St

/-! ### rules that take any of several kinds -/
theorem opR_or {X : Cx} {f : Value → Value → Sem Value} {r1 r2 : R2} (h1 : OpR X f r1) (h2 : OpR X f r2) : OpR X f (fun x y H Q => r1 x y H Q ∨ r2 x y H Q) := by
  intro pins s σ H x y v u Q I rx ry h
  rcases h with h | h
  · exact h1 pins s σ H x y v u Q I rx ry h
  · exact h2 pins s σ H x y v u Q I rx ry h
def CDivZ (_ j : Int) : Prop := j ≠ 0 ∧ j.natAbs.log2 < 9000
def CMulZ (i j : Int) : Prop := CMul i j ∨ CMulW i j
def rAddI : R2 := rI0 fun i j => .int (i + j)
def rAddS : R2 := fun x y H Q => ∃ i j, x = .str i ∧ y = .str j ∧ i.length + j.length ≤ sizeLine ∧ Q (.str (i ++ j)) H
def rAddU (K : PySem.W.Frag) : R2 := fun x y H Q => rAddI x y H Q ∨ rAddS x y H Q ∨ rCat x y H Q ∨ rCatT K x y H Q
def rSubU : R2 := rI0 fun i j => .int (i - j)
def rMulI : R2 := rI CMulZ fun i j => .int (i * j)
def rMulU : R2 := fun x y H Q => rMulI x y H Q ∨ rRep x y H Q
def rDivU : R2 := rI CDivZ fun i j => .int (i.fdiv j)
def rModU : R2 := rI (fun _ j => j ≠ 0) fun i j => .int (i.fmod j)
def rPowU : R2 := rI CPow fun i j => .int (i ^ j.toNat)
def rLtI : R2 := rI0 fun i j => .bl (decide (i < j))
def rLeI : R2 := rI0 fun i j => .bl (decide (i ≤ j))
def rGtI : R2 := rI0 fun i j => .bl (decide (j < i))
def rGeI : R2 := rI0 fun i j => .bl (decide (j ≤ i))
def rLenU (K : PySem.W.Frag) : List V → Hp → VK → Prop := fun xs H Q => ∃ x n, xs = [x] ∧ LenV K x H n ∧ Q (.int n) H
def rAbsU : List V → Hp → VK → Prop := fun xs H Q => ∃ i, xs = [.int i] ∧ Q (.int (if i < 0 then -i else i)) H
def rMaxU : List V → Hp → VK → Prop := fun xs H Q => ∃ i j, xs = [.int i, .int j] ∧ Q (.int (if j > i then j else i)) H
def rMinU : List V → Hp → VK → Prop := fun xs H Q => ∃ i j, xs = [.int i, .int j] ∧ Q (.int (if j < i then j else i)) H
def rListU (K : PySem.W.Frag) : List V → Hp → VK → Prop := fun xs H Q => ∃ p ys, xs = [.ref p] ∧ (SqL K H p ys ∨ SqT K H p ys) ∧ ∀ l, H l = none → Q (.ref l) (upd H l (.lst ys))
def rTupU (K : PySem.W.Frag) : List V → Hp → VK → Prop := fun xs H Q => ∃ p ys, xs = [.ref p] ∧ ((SqL K H p ys ∧ ∀ l, H l = none → Q (.ref l) (upd H l (.tup ys))) ∨ (SqT K H p ys ∧ Q (.ref p) H))
def rSlU (K : PySem.W.Frag) : V → Option Int → Option Int → Hp → VK → Prop := fun x lo hi H Q => rSlL K x lo hi H Q ∨ rSlT K x lo hi H Q
def rNegU : V → Hp → VK → Prop := rU fun i => .int (-i)
section
variable {X : Cx}
theorem op_addU : OpR X (binaryOp .Add) (rAddU X.K) := opR_or op_add (opR_or op_add_str (opR_or op_cat op_catT))
theorem op_subU : OpR X (binaryOp .Sub) rSubU := op_sub
theorem op_mulI : OpR X (binaryOp .Mult) rMulI := opI fun _ _ _ _ _ _ _ hc q => mul_int q (hc.elim CMul.ok CMulW.ok)
theorem op_mulU : OpR X (binaryOp .Mult) rMulU := opR_or op_mulI op_rep
theorem op_divU : OpR X (binaryOp .FloorDiv) rDivU := opI fun _ _ _ _ _ _ _ hc q => floordiv_int hc.1 q (.inl (PyProof.noPylong_of_log2 hc.2))
theorem op_modU : OpR X (binaryOp .Mod) rModU := op_modN
theorem op_powU : OpR X (binaryOp .Pow) rPowU := op_pow
theorem op_ltI : OpR X (compareOp .Lt) rLtI := op_lt
theorem op_leI : OpR X (compareOp .LtE) rLeI := op_le
theorem op_gtI : OpR X (compareOp .Gt) rGtI := op_gt
theorem op_geI : OpR X (compareOp .GtE) rGeI := op_ge
theorem call_lenU : CallR X (.builtin "len") (rLenU X.K) := call_len
theorem call_absU : CallR X (.builtin "abs") rAbsU := call_abs
theorem call_maxU (hc : X.calm = true) : CallR X (.builtin "max") rMaxU := call_max2 hc
theorem call_minU (hc : X.calm = true) : CallR X (.builtin "min") rMinU := call_min2 hc
theorem call_listU : CallR X (.type "list") (rListU X.K) := call_list_of
theorem call_tupU : CallR X (.type "tuple") (rTupU X.K) := call_tuple_of
theorem sl_seqU : SlR X (rSlU X.K) := SlR.or sl_list sl_tup
theorem un_negU : UnR X (unaryOp .USub) rNegU := un_neg
end
def tTruU (K : PySem.W.Frag) (ta : TE) : TT := fun σ H Q => ta σ H fun x H' => ∃ k, TruV K x H' k ∧ Q k H'
theorem pt_tru {X : Cx} {a : Expr} {ta : TE} (ha : PE X a ta) (he : ∀ whole, isTrue a X.env whole = (do let v ← whole; standAt a.pos; holding [v] (truthy v)) := by intro _; rfl) : PT X a (tTruU X.K ta) := pt_truth ha he

/-! ### heaps -/
def isT : HO → Bool
  | .tup _ => true
  | .frz _ (.tup _) => true
  | _ => false
/-- tuples stay -/
def KT (H H' : Hp) : Prop := ∀ a o, H a = some o → isT o = true → H' a = some o
theorem KT.refl (H : Hp) : KT H H := fun _ _ h _ => h
theorem KT.trans {H H1 H2 : Hp} (a : KT H H1) (b : KT H1 H2) : KT H H2 := fun x o h t => b x o (a x o h t) t
theorem kt_same {H H' : Hp} (s : Same H H') : KT H H' := fun a o h _ => s a o h
theorem kt_new {H : Hp} {p : Addr} {o : HO} (h : H p = none) : KT H (upd H p o) := fun a u e _ => by rw [upd_ne (ne_of_none e h)]; exact e
theorem kt_mut {H : Hp} {p : Addr} {o o' : HO} (h : H p = some o) (t : isT o = false) : KT H (upd H p o') := fun a u e k => by
  rw [upd_ne (fun z => by subst z; rw [h] at e; cases e; rw [t] at k; cases k)]; exact e
theorem ne_on {H : Hp} {a b : Addr} {o : HO} (h' : H b = none) (h : H a = some o) : a ≠ b := ne_of_none h h'
theorem at_same {H H' : Hp} {a : Addr} {o : HO} (s : Same H H') (h : H a = some o) : H' a = some o := s a o h
theorem free_on {H H' : Hp} {l : Addr} (h : H' l = none) (e : Same H H') : H l = none := e.free h
theorem same_new {H : Hp} {p : Addr} {o : HO} (h : H p = none) : Same H (upd H p o) := fun a u e => by rw [upd_ne (ne_of_none e h)]; exact e
/-- what H0 knows stays where an object that H0 does not know is changed -/
theorem same_mut {H0 H : Hp} {p : Addr} {o : HO} (s : Same H0 H) (h : H0 p = none) : Same H0 (upd H p o) := fun a u e => by rw [upd_ne (ne_of_none e h)]; exact s a u e
/-- all but what stands at b stays; a list stands at b -/
structure But (b : Addr) (H H' : Hp) : Prop where
  oth : ∀ a o, a ≠ b → H a = some o → H' a = some o
  lst : ∃ xs, H b = some (.lst xs)
theorem kt_but {b : Addr} {H H' : Hp} (s : But b H H') : KT H H' := fun a o h t => s.oth a o (fun z => by subst z; obtain ⟨xs, e⟩ := s.lst; rw [e] at h; cases h; cases t) h
theorem sqT_kt {K : PySem.W.Frag} {H H' : Hp} {a : Addr} {xs : List V} (k : KT H H') (h : SqT K H a xs) : SqT K H' a xs := by
  rcases h with (h | ⟨o, h⟩) | h
  · exact .inl (.inl (k _ _ h rfl))
  · exact .inl (.inr ⟨o, k _ _ h rfl⟩)
  · exact .inr h

/-! ### data of tuples, ints, texts, truths, None -/
mutual
inductive Dt (K : PySem.W.Frag) (H : Hp) : V → PyData → Prop
  | non : Dt K H .non .none
  | bl (b : Bool) : Dt K H (.bl b) (.bool b)
  | int (i : Int) : Dt K H (.int i) (.int i)
  | str (x : Str) : Dt K H (.str x) (.str x)
  | tup {a : Addr} {xs : List V} {ds : List PyData} : SqT K H a xs → DtAll K H xs ds → Dt K H (.ref a) (.tuple ds)
inductive DtAll (K : PySem.W.Frag) (H : Hp) : List V → List PyData → Prop
  | nil : DtAll K H [] []
  | cons {v : V} {vs : List V} {d : PyData} {ds : List PyData} : Dt K H v d → DtAll K H vs ds → DtAll K H (v :: vs) (d :: ds)
end
section
variable {K : PySem.W.Frag} {H H' : Hp}
mutual
theorem Dt.mono (k : KT H H') : ∀ {v : V} {d : PyData}, Dt K H v d → Dt K H' v d
  | _, _, .non => .non
  | _, _, .bl b => .bl b
  | _, _, .int i => .int i
  | _, _, .str x => .str x
  | _, _, .tup h a => .tup (sqT_kt k h) (DtAll.mono k a)
theorem DtAll.mono (k : KT H H') : ∀ {vs : List V} {ds : List PyData}, DtAll K H vs ds → DtAll K H' vs ds
  | _, _, .nil => .nil
  | _, _, .cons h a => .cons (Dt.mono k h) (DtAll.mono k a)
end
mutual
theorem Dt.dp : ∀ {v : V} {d : PyData}, Dt K H v d → Dp K H v d
  | _, _, .non => .non
  | _, _, .bl b => .bl b
  | _, _, .int i => .int i
  | _, _, .str x => .str x
  | _, _, .tup h a => .tup h (DtAll.dp a)
theorem DtAll.dp : ∀ {vs : List V} {ds : List PyData}, DtAll K H vs ds → DpAll K H vs ds
  | _, _, .nil => .nil
  | _, _, .cons h a => .cons (Dt.dp h) (DtAll.dp a)
end
theorem Dt.int_eq {v : V} {i : Int} (h : Dt K H v (.int i)) : v = .int i := by cases h; rfl
theorem Dt.bl_eq {v : V} {i : Bool} (h : Dt K H v (.bool i)) : v = .bl i := by cases h; rfl
theorem Dt.str_eq {v : V} {i : Str} (h : Dt K H v (.str i)) : v = .str i := by cases h; rfl
theorem Dt.tup_inv {v : V} {ds : List PyData} (h : Dt K H v (.tuple ds)) : ∃ a xs, v = .ref a ∧ SqT K H a xs ∧ DtAll K H xs ds := by
  cases h with
  | tup h a => exact ⟨_, _, rfl, h, a⟩
theorem DtAll.len {vs : List V} {ds : List PyData} (h : DtAll K H vs ds) : vs.length = ds.length := by
  induction ds generalizing vs with
  | nil => cases h; rfl
  | cons d ds ih => cases h with | cons h a => exact congrArg Nat.succ (ih a)
theorem DtAll.get {vs : List V} {ds : List PyData} (h : DtAll K H vs ds) {i : Nat} {d : PyData} (e : ds[i]? = some d) : ∃ v, vs[i]? = some v ∧ Dt K H v d := by
  induction ds generalizing vs i with
  | nil => cases e
  | cons d' ds ih =>
    cases h with
    | cons h a =>
      cases i with
      | zero => cases e; exact ⟨_, rfl, h⟩
      | succ i => obtain ⟨v, e1, e2⟩ := ih a e; exact ⟨v, e1, e2⟩
theorem DtAll.append {vs ws : List V} {ds es : List PyData} (h : DtAll K H vs ds) (h2 : DtAll K H ws es) : DtAll K H (vs ++ ws) (ds ++ es) := by
  induction ds generalizing vs with
  | nil => cases h; exact h2
  | cons d ds ih => cases h with | cons h a => exact .cons h (ih a)
theorem dt_new {p : Addr} {xs : List V} {ds : List PyData} (h : DtAll K H xs ds) (n : H p = none) : Dt K (upd H p (.tup xs)) (.ref p) (.tuple ds) :=
  .tup (.inl (.inl upd_same)) (h.mono (kt_new n))
/-- a fraction -/
def fr (r : Rat) : PyData := .tuple [.int r.num, .int r.den]
end

/-! ### readings step by step -/
theorem cxK0 {CX : CXT} {P : Program} {w : World} {K : PySem.W.Frag} {mg : Str → Option Value} {base : Heap} {N : List Str} {qual : Str} {scope : Scope} {f : Addr} {cd : Value} {A : Around} {outer : List Env} {s : Shared} {H : Hp} {E : XK} : (cxOf CX P w K mg base N qual scope f cd A outer s H E).nox.K = K := rfl
theorem cxK1 {CX : CXT} {P : Program} {w : World} {K : PySem.W.Frag} {mg : Str → Option Value} {base : Heap} {N : List Str} {qual : Str} {scope : Scope} {f : Addr} {cd : Value} {A : Around} {outer : List Env} {s : Shared} {H : Hp} {E : XK} : (cxOf CX P w K mg base N qual scope f cd A outer s H E).K = K := rfl
section
variable {K : PySem.W.Frag} {σ : St} {H : Hp} {Q : VK} {D : Ends}
theorem s_seq {t u : TS} (h : t { D with nx := u D } σ H) : tSeq t u D σ H := h
theorem s_next (h : D.nx σ H) : tNext D σ H := h
theorem s_brk (h : D.bk σ H) : tBreak D σ H := h
theorem s_cont (h : D.ct σ H) : tCont D σ H := h
theorem s_asg {te : TE} {g : TG} (h : te σ H fun x H1 => g x σ H1 D.nx) : tAsg te g D σ H := h
theorem s_gname {i : Nat} {v : V} {N : St → Hp → Prop} (h : N (σ.set i (some v)) H) : gName i v σ H N := h
theorem s_gsub {to ti : TE} {t : TSet} {v : V} {N : St → Hp → Prop} (h : to σ H fun o H1 => ti σ H1 fun i H2 => t o i v H2 fun H3 => N σ H3) : gSub to ti t v σ H N := h
theorem s_drop {te : TE} (h : te σ H fun _ H1 => D.nx σ H1) : tDrop te D σ H := h
theorem s_ret {te : TE} (h : te σ H D.rt) : tRet te D σ H := h
theorem s_retN (h : D.rt .non H) : tRetN D σ H := h
theorem s_par {i j : Nat} {ta tb : TE} (h : ta σ H fun x H1 => tb σ H1 fun y H2 => D.nx ((σ.set i (some x)).set j (some y)) H2) : tPar i j (tCons ta (tCons tb tNil)) D σ H :=
  (show ta σ H fun x H1 => tb σ H1 fun y H2 => ∃ v w, [x, y] = [v, w] ∧ D.nx ((σ.set i (some v)).set j (some w)) H2 from by
    have e : (fun x H1 => tb σ H1 fun y H2 => ∃ v w, [x, y] = [v, w] ∧ D.nx ((σ.set i (some v)).set j (some w)) H2) = (fun x H1 => tb σ H1 fun y H2 => D.nx ((σ.set i (some x)).set j (some y)) H2) := by
      funext x H1
      have e2 : (fun (y : V) (H2 : Hp) => ∃ v w, [x, y] = [v, w] ∧ D.nx ((σ.set i (some v)).set j (some w)) H2) = (fun y H2 => D.nx ((σ.set i (some x)).set j (some y)) H2) := by
        funext y H2
        refine propext ⟨fun ⟨v, w, e, n⟩ => ?_, fun n => ⟨x, y, rfl, n⟩⟩
        cases e
        exact n
      rw [e2]
    rw [e]
    exact h)
theorem s_if {c : TT} {t u : TS} (h : c σ H fun b H1 => if b = true then t D σ H1 else u D σ H1) : tIfS c t u D σ H := h
theorem s_ifE {c : TT} {ta tb : TE} (h : c σ H fun b H1 => if b = true then ta σ H1 Q else tb σ H1 Q) : tIf c ta tb σ H Q := h
theorem s_itT {A B : Prop} (h : A) : if true = true then A else B := iteT h
theorem s_itF {A B : Prop} (h : B) : if false = true then A else B := iteF h
theorem s_itNT {A B : Prop} (h : B) : if (!true) = true then A else B := iteF h
theorem s_itNF {A B : Prop} (h : A) : if (!false) = true then A else B := iteT h
theorem s_iteD {c A B : Prop} {inst : Decidable c} (h1 : c → A) (h2 : ¬ c → B) : if (@decide c inst) = true then A else B := by
  by_cases h : c
  · rw [decide_eq_true h]; exact iteT (h1 h)
  · rw [decide_eq_false h]; exact iteF (h2 h)
theorem s_iteN {c A B : Prop} {inst : Decidable c} (h1 : ¬ c → A) (h2 : c → B) : if (!@decide c inst) = true then A else B := by
  by_cases h : c
  · rw [decide_eq_true h]; exact iteF (h2 h)
  · rw [decide_eq_false h]; exact iteT (h1 h)
theorem s_iteB {b : Bool} {A B : Prop} (h1 : b = true → A) (h2 : b = false → B) : if b = true then A else B := by
  cases b with
  | true => exact iteT (h1 rfl)
  | false => exact iteF (h2 rfl)
theorem s_var {i : Nat} {v : V} (e : σ[i]? = some (some v)) (h : Q v H) : tVar i σ H Q := ⟨v, e, h⟩
theorem s_v0 {v : V} {σ : St} (h : Q v H) : tVar 0 (some v :: σ) H Q := ⟨v, rfl, h⟩
theorem s_g0 {y : Option V} {v : V} {σ : St} {N : St → Hp → Prop} (h : N (some v :: σ) H) : gName 0 v (y :: σ) H N := h
theorem s_v1 {x0 : Option V} {v : V} {σ : St} (h : Q v H) : tVar 1 (x0 :: some v :: σ) H Q := ⟨v, rfl, h⟩
theorem s_g1 {x0 : Option V} {y : Option V} {v : V} {σ : St} {N : St → Hp → Prop} (h : N (x0 :: some v :: σ) H) : gName 1 v (x0 :: y :: σ) H N := h
theorem s_v2 {x0 x1 : Option V} {v : V} {σ : St} (h : Q v H) : tVar 2 (x0 :: x1 :: some v :: σ) H Q := ⟨v, rfl, h⟩
theorem s_g2 {x0 x1 : Option V} {y : Option V} {v : V} {σ : St} {N : St → Hp → Prop} (h : N (x0 :: x1 :: some v :: σ) H) : gName 2 v (x0 :: x1 :: y :: σ) H N := h
theorem s_v3 {x0 x1 x2 : Option V} {v : V} {σ : St} (h : Q v H) : tVar 3 (x0 :: x1 :: x2 :: some v :: σ) H Q := ⟨v, rfl, h⟩
theorem s_g3 {x0 x1 x2 : Option V} {y : Option V} {v : V} {σ : St} {N : St → Hp → Prop} (h : N (x0 :: x1 :: x2 :: some v :: σ) H) : gName 3 v (x0 :: x1 :: x2 :: y :: σ) H N := h
theorem s_v4 {x0 x1 x2 x3 : Option V} {v : V} {σ : St} (h : Q v H) : tVar 4 (x0 :: x1 :: x2 :: x3 :: some v :: σ) H Q := ⟨v, rfl, h⟩
theorem s_g4 {x0 x1 x2 x3 : Option V} {y : Option V} {v : V} {σ : St} {N : St → Hp → Prop} (h : N (x0 :: x1 :: x2 :: x3 :: some v :: σ) H) : gName 4 v (x0 :: x1 :: x2 :: x3 :: y :: σ) H N := h
theorem s_v5 {x0 x1 x2 x3 x4 : Option V} {v : V} {σ : St} (h : Q v H) : tVar 5 (x0 :: x1 :: x2 :: x3 :: x4 :: some v :: σ) H Q := ⟨v, rfl, h⟩
theorem s_g5 {x0 x1 x2 x3 x4 : Option V} {y : Option V} {v : V} {σ : St} {N : St → Hp → Prop} (h : N (x0 :: x1 :: x2 :: x3 :: x4 :: some v :: σ) H) : gName 5 v (x0 :: x1 :: x2 :: x3 :: x4 :: y :: σ) H N := h
theorem s_v6 {x0 x1 x2 x3 x4 x5 : Option V} {v : V} {σ : St} (h : Q v H) : tVar 6 (x0 :: x1 :: x2 :: x3 :: x4 :: x5 :: some v :: σ) H Q := ⟨v, rfl, h⟩
theorem s_g6 {x0 x1 x2 x3 x4 x5 : Option V} {y : Option V} {v : V} {σ : St} {N : St → Hp → Prop} (h : N (x0 :: x1 :: x2 :: x3 :: x4 :: x5 :: some v :: σ) H) : gName 6 v (x0 :: x1 :: x2 :: x3 :: x4 :: x5 :: y :: σ) H N := h
theorem s_v7 {x0 x1 x2 x3 x4 x5 x6 : Option V} {v : V} {σ : St} (h : Q v H) : tVar 7 (x0 :: x1 :: x2 :: x3 :: x4 :: x5 :: x6 :: some v :: σ) H Q := ⟨v, rfl, h⟩
theorem s_g7 {x0 x1 x2 x3 x4 x5 x6 : Option V} {y : Option V} {v : V} {σ : St} {N : St → Hp → Prop} (h : N (x0 :: x1 :: x2 :: x3 :: x4 :: x5 :: x6 :: some v :: σ) H) : gName 7 v (x0 :: x1 :: x2 :: x3 :: x4 :: x5 :: x6 :: y :: σ) H N := h
theorem s_v8 {x0 x1 x2 x3 x4 x5 x6 x7 : Option V} {v : V} {σ : St} (h : Q v H) : tVar 8 (x0 :: x1 :: x2 :: x3 :: x4 :: x5 :: x6 :: x7 :: some v :: σ) H Q := ⟨v, rfl, h⟩
theorem s_g8 {x0 x1 x2 x3 x4 x5 x6 x7 : Option V} {y : Option V} {v : V} {σ : St} {N : St → Hp → Prop} (h : N (x0 :: x1 :: x2 :: x3 :: x4 :: x5 :: x6 :: x7 :: some v :: σ) H) : gName 8 v (x0 :: x1 :: x2 :: x3 :: x4 :: x5 :: x6 :: x7 :: y :: σ) H N := h
theorem s_v9 {x0 x1 x2 x3 x4 x5 x6 x7 x8 : Option V} {v : V} {σ : St} (h : Q v H) : tVar 9 (x0 :: x1 :: x2 :: x3 :: x4 :: x5 :: x6 :: x7 :: x8 :: some v :: σ) H Q := ⟨v, rfl, h⟩
theorem s_g9 {x0 x1 x2 x3 x4 x5 x6 x7 x8 : Option V} {y : Option V} {v : V} {σ : St} {N : St → Hp → Prop} (h : N (x0 :: x1 :: x2 :: x3 :: x4 :: x5 :: x6 :: x7 :: x8 :: some v :: σ) H) : gName 9 v (x0 :: x1 :: x2 :: x3 :: x4 :: x5 :: x6 :: x7 :: x8 :: y :: σ) H N := h
theorem s_v10 {x0 x1 x2 x3 x4 x5 x6 x7 x8 x9 : Option V} {v : V} {σ : St} (h : Q v H) : tVar 10 (x0 :: x1 :: x2 :: x3 :: x4 :: x5 :: x6 :: x7 :: x8 :: x9 :: some v :: σ) H Q := ⟨v, rfl, h⟩
theorem s_g10 {x0 x1 x2 x3 x4 x5 x6 x7 x8 x9 : Option V} {y : Option V} {v : V} {σ : St} {N : St → Hp → Prop} (h : N (x0 :: x1 :: x2 :: x3 :: x4 :: x5 :: x6 :: x7 :: x8 :: x9 :: some v :: σ) H) : gName 10 v (x0 :: x1 :: x2 :: x3 :: x4 :: x5 :: x6 :: x7 :: x8 :: x9 :: y :: σ) H N := h
theorem s_v11 {x0 x1 x2 x3 x4 x5 x6 x7 x8 x9 x10 : Option V} {v : V} {σ : St} (h : Q v H) : tVar 11 (x0 :: x1 :: x2 :: x3 :: x4 :: x5 :: x6 :: x7 :: x8 :: x9 :: x10 :: some v :: σ) H Q := ⟨v, rfl, h⟩
theorem s_g11 {x0 x1 x2 x3 x4 x5 x6 x7 x8 x9 x10 : Option V} {y : Option V} {v : V} {σ : St} {N : St → Hp → Prop} (h : N (x0 :: x1 :: x2 :: x3 :: x4 :: x5 :: x6 :: x7 :: x8 :: x9 :: x10 :: some v :: σ) H) : gName 11 v (x0 :: x1 :: x2 :: x3 :: x4 :: x5 :: x6 :: x7 :: x8 :: x9 :: x10 :: y :: σ) H N := h
theorem s_v12 {x0 x1 x2 x3 x4 x5 x6 x7 x8 x9 x10 x11 : Option V} {v : V} {σ : St} (h : Q v H) : tVar 12 (x0 :: x1 :: x2 :: x3 :: x4 :: x5 :: x6 :: x7 :: x8 :: x9 :: x10 :: x11 :: some v :: σ) H Q := ⟨v, rfl, h⟩
theorem s_g12 {x0 x1 x2 x3 x4 x5 x6 x7 x8 x9 x10 x11 : Option V} {y : Option V} {v : V} {σ : St} {N : St → Hp → Prop} (h : N (x0 :: x1 :: x2 :: x3 :: x4 :: x5 :: x6 :: x7 :: x8 :: x9 :: x10 :: x11 :: some v :: σ) H) : gName 12 v (x0 :: x1 :: x2 :: x3 :: x4 :: x5 :: x6 :: x7 :: x8 :: x9 :: x10 :: x11 :: y :: σ) H N := h
theorem s_v13 {x0 x1 x2 x3 x4 x5 x6 x7 x8 x9 x10 x11 x12 : Option V} {v : V} {σ : St} (h : Q v H) : tVar 13 (x0 :: x1 :: x2 :: x3 :: x4 :: x5 :: x6 :: x7 :: x8 :: x9 :: x10 :: x11 :: x12 :: some v :: σ) H Q := ⟨v, rfl, h⟩
theorem s_g13 {x0 x1 x2 x3 x4 x5 x6 x7 x8 x9 x10 x11 x12 : Option V} {y : Option V} {v : V} {σ : St} {N : St → Hp → Prop} (h : N (x0 :: x1 :: x2 :: x3 :: x4 :: x5 :: x6 :: x7 :: x8 :: x9 :: x10 :: x11 :: x12 :: some v :: σ) H) : gName 13 v (x0 :: x1 :: x2 :: x3 :: x4 :: x5 :: x6 :: x7 :: x8 :: x9 :: x10 :: x11 :: x12 :: y :: σ) H N := h
theorem s_v14 {x0 x1 x2 x3 x4 x5 x6 x7 x8 x9 x10 x11 x12 x13 : Option V} {v : V} {σ : St} (h : Q v H) : tVar 14 (x0 :: x1 :: x2 :: x3 :: x4 :: x5 :: x6 :: x7 :: x8 :: x9 :: x10 :: x11 :: x12 :: x13 :: some v :: σ) H Q := ⟨v, rfl, h⟩
theorem s_g14 {x0 x1 x2 x3 x4 x5 x6 x7 x8 x9 x10 x11 x12 x13 : Option V} {y : Option V} {v : V} {σ : St} {N : St → Hp → Prop} (h : N (x0 :: x1 :: x2 :: x3 :: x4 :: x5 :: x6 :: x7 :: x8 :: x9 :: x10 :: x11 :: x12 :: x13 :: some v :: σ) H) : gName 14 v (x0 :: x1 :: x2 :: x3 :: x4 :: x5 :: x6 :: x7 :: x8 :: x9 :: x10 :: x11 :: x12 :: x13 :: y :: σ) H N := h
theorem s_v15 {x0 x1 x2 x3 x4 x5 x6 x7 x8 x9 x10 x11 x12 x13 x14 : Option V} {v : V} {σ : St} (h : Q v H) : tVar 15 (x0 :: x1 :: x2 :: x3 :: x4 :: x5 :: x6 :: x7 :: x8 :: x9 :: x10 :: x11 :: x12 :: x13 :: x14 :: some v :: σ) H Q := ⟨v, rfl, h⟩
theorem s_g15 {x0 x1 x2 x3 x4 x5 x6 x7 x8 x9 x10 x11 x12 x13 x14 : Option V} {y : Option V} {v : V} {σ : St} {N : St → Hp → Prop} (h : N (x0 :: x1 :: x2 :: x3 :: x4 :: x5 :: x6 :: x7 :: x8 :: x9 :: x10 :: x11 :: x12 :: x13 :: x14 :: some v :: σ) H) : gName 15 v (x0 :: x1 :: x2 :: x3 :: x4 :: x5 :: x6 :: x7 :: x8 :: x9 :: x10 :: x11 :: x12 :: x13 :: x14 :: y :: σ) H N := h
theorem s_v16 {x0 x1 x2 x3 x4 x5 x6 x7 x8 x9 x10 x11 x12 x13 x14 x15 : Option V} {v : V} {σ : St} (h : Q v H) : tVar 16 (x0 :: x1 :: x2 :: x3 :: x4 :: x5 :: x6 :: x7 :: x8 :: x9 :: x10 :: x11 :: x12 :: x13 :: x14 :: x15 :: some v :: σ) H Q := ⟨v, rfl, h⟩
theorem s_g16 {x0 x1 x2 x3 x4 x5 x6 x7 x8 x9 x10 x11 x12 x13 x14 x15 : Option V} {y : Option V} {v : V} {σ : St} {N : St → Hp → Prop} (h : N (x0 :: x1 :: x2 :: x3 :: x4 :: x5 :: x6 :: x7 :: x8 :: x9 :: x10 :: x11 :: x12 :: x13 :: x14 :: x15 :: some v :: σ) H) : gName 16 v (x0 :: x1 :: x2 :: x3 :: x4 :: x5 :: x6 :: x7 :: x8 :: x9 :: x10 :: x11 :: x12 :: x13 :: x14 :: x15 :: y :: σ) H N := h
theorem s_v17 {x0 x1 x2 x3 x4 x5 x6 x7 x8 x9 x10 x11 x12 x13 x14 x15 x16 : Option V} {v : V} {σ : St} (h : Q v H) : tVar 17 (x0 :: x1 :: x2 :: x3 :: x4 :: x5 :: x6 :: x7 :: x8 :: x9 :: x10 :: x11 :: x12 :: x13 :: x14 :: x15 :: x16 :: some v :: σ) H Q := ⟨v, rfl, h⟩
theorem s_g17 {x0 x1 x2 x3 x4 x5 x6 x7 x8 x9 x10 x11 x12 x13 x14 x15 x16 : Option V} {y : Option V} {v : V} {σ : St} {N : St → Hp → Prop} (h : N (x0 :: x1 :: x2 :: x3 :: x4 :: x5 :: x6 :: x7 :: x8 :: x9 :: x10 :: x11 :: x12 :: x13 :: x14 :: x15 :: x16 :: some v :: σ) H) : gName 17 v (x0 :: x1 :: x2 :: x3 :: x4 :: x5 :: x6 :: x7 :: x8 :: x9 :: x10 :: x11 :: x12 :: x13 :: x14 :: x15 :: x16 :: y :: σ) H N := h
theorem s_c {v : V} (h : Q v H) : tC v σ H Q := h
theorem s_op {r : R2} {ta tb : TE} (h : ta σ H fun x H1 => tb σ H1 fun y H2 => r x y H2 Q) : tOp r ta tb σ H Q := h
theorem s_un {r : V → Hp → VK → Prop} {ta : TE} (h : ta σ H fun x H1 => r x H1 Q) : tUn r ta σ H Q := h
def NewT (xs : List V) (H : Hp) (Q : VK) : Prop := xs.length ≤ sizeLine ∧ ∀ p, H p = none → Q (.ref p) (upd H p (.tup xs))
def NewL (xs : List V) (H : Hp) (Q : VK) : Prop := xs.length ≤ sizeLine ∧ ∀ p, H p = none → Q (.ref p) (upd H p (.lst xs))
theorem s_tup {ta : TA} (h : ta σ H fun xs H1 => NewT xs H1 Q) : tTup ta σ H Q := h
theorem s_lst {ta : TA} (h : ta σ H fun xs H1 => NewL xs H1 Q) : tLst ta σ H Q := h
theorem s_newT {xs : List V} (z : xs.length ≤ sizeLine) (h : ∀ p, H p = none → Q (.ref p) (upd H p (.tup xs))) : NewT xs H Q := ⟨z, h⟩
theorem s_newL {xs : List V} (z : xs.length ≤ sizeLine) (h : ∀ p, H p = none → Q (.ref p) (upd H p (.lst xs))) : NewL xs H Q := ⟨z, h⟩
theorem size_le {xs : List V} (h : xs.length ≤ 1000) : xs.length ≤ sizeLine := Nat.le_of_lt (L2.small1000 h)
theorem size_le2 {n : Nat} (h : n ≤ 1000) : n ≤ sizeLine := Nat.le_of_lt (L2.small1000 h)
-- for
def ForR (J : It) (g : TG) (tb : TS) (D : Ends) (σ : St) (H1 : Hp) : Prop := ∃ W : Nat → Nat → St → Hp → Prop, (∃ m, W 0 m σ H1) ∧ ∀ i m σ H, W i m σ H →
  (J.stop i H ∧ D.nx σ H) ∨ (J.go i H ∧ ∃ N : St → Hp → Prop, (∀ σ' H', N σ' H' → ∃ m', m' < m ∧ W (i + 1) m' σ' H') ∧ ∀ x H', J.yld i H x H' → g x σ H' fun σ2 H2 => tb { D with nx := N, ct := N, bk := D.nx } σ2 H2)
theorem s_for {wi : TI} {g : TG} {tb : TS} (h : wi σ H fun J H1 => ForR J g tb D σ H1) : tFor wi g tb D σ H := h
theorem s_iList {tl : TE} {R : It → Hp → Prop} (h : tl σ H fun x H1 => ∃ a, x = .ref a ∧ (∃ xs, SqL K H1 a xs) ∧ R (Itl K a) H1) : iList K tl σ H R := h
theorem s_iTup {tl : TE} {R : It → Hp → Prop} (h : tl σ H fun x H1 => ∃ a, x = .ref a ∧ (∃ xs, SqT K H1 a xs) ∧ R (Itt K a) H1) : iTup K tl σ H R := h
theorem s_isL {p : Addr} {xs : List V} {N : Addr → Prop} (hs : SqL K H p xs) (h : N p) : ∃ a, V.ref p = V.ref a ∧ (∃ xs, SqL K H a xs) ∧ N a := ⟨p, rfl, ⟨xs, hs⟩, h⟩
theorem s_rng1 {ta : TA} {R : It → Hp → Prop} (h : ta σ H fun vs H1 => ∃ j : Int, vs = [.int j] ∧ -(2 ^ 62) ≤ j ∧ j < 2 ^ 62 ∧ R (Itr 0 j.toNat) H1) : iRng1 ta σ H R := h
theorem s_isR1 {i : Int} {N : Int → Prop} (l1 : -(2 ^ 62) ≤ i) (l2 : i < 2 ^ 62) (h : N i) : ∃ j : Int, [V.int i] = [V.int j] ∧ -(2 ^ 62) ≤ j ∧ j < 2 ^ 62 ∧ N j := ⟨i, rfl, l1, l2, h⟩
theorem f_list {a : Addr} {xs : List V} {g : TG} {tb : TS} (Pv : Nat → St → Hp → Prop) (h0 : Pv 0 σ H) (hl : ∀ i σ H, i ≤ xs.length → Pv i σ H → SqL K H a xs)
    (hs : ∀ i x σ H, xs[i]? = some x → Pv i σ H → g x σ H fun σ2 H2 => tb { D with nx := Pv (i + 1), ct := Pv (i + 1), bk := D.nx } σ2 H2) (hd : ∀ σ H, Pv xs.length σ H → D.nx σ H) : ForR (Itl K a) g tb D σ H := for_list Pv h0 hl hs hd
theorem f_range {lo : Int} {n : Nat} {g : TG} {tb : TS} (Pv : Nat → St → Hp → Prop) (h0 : Pv 0 σ H)
    (hs : ∀ i σ H, i < n → Pv i σ H → g (.int (lo + i)) σ H fun σ2 H2 => tb { D with nx := Pv (i + 1), ct := Pv (i + 1), bk := D.nx } σ2 H2) (hd : ∀ σ H, Pv n σ H → D.nx σ H) : ForR (Itr lo n) g tb D σ H := for_range Pv h0 hs hd
/-- a walk over a list that changes no heap; the slots i, j are the body's -/
theorem f_all2 {a : Addr} {xs : List V} {g : TG} {tb : TS} (Φ : Hp → V → Prop) (i j : Nat) (hs : SqL K H a xs) (hx : ∀ x, x ∈ xs → Φ H x) (hi : ∃ y z, (σ.set i y).set j z = σ)
    (turn : ∀ x y z, Φ H x → g x ((σ.set i y).set j z) H fun σ2 H2 => tb { D with nx := fun σ' H' => (∃ y z, σ' = (σ.set i y).set j z) ∧ H' = H, ct := fun σ' H' => (∃ y z, σ' = (σ.set i y).set j z) ∧ H' = H, bk := D.nx } σ2 H2)
    (fin : ∀ y z, D.nx ((σ.set i y).set j z) H) : ForR (Itl K a) g tb D σ H := by
  refine f_list (xs := xs) (fun _ σ' H' => (∃ y z, σ' = (σ.set i y).set j z) ∧ H' = H) ⟨?_, rfl⟩ ?_ ?_ ?_
  · obtain ⟨y, z, e⟩ := hi
    exact ⟨y, z, e.symm⟩
  · rintro _ _ _ _ ⟨_, rfl⟩
    exact hs
  · rintro n x σ' H' e ⟨⟨y, z, rfl⟩, rfl⟩
    exact turn x y z (hx x (List.mem_of_getElem? e))
  · rintro σ' H' ⟨⟨y, z, rfl⟩, rfl⟩
    exact fin y z
/-- the slots js hold what f tells -/
def sets (σ : St) (js : List Nat) (f : Nat → Option V) : St := js.foldl (fun s j => s.set j (f j)) σ
def Upd (js : List Nat) (σ σ' : St) : Prop := ∃ f, σ' = sets σ js f
theorem i_of {σ' : St} {js : List Nat} (h : σ' = sets σ js (fun j => (σ'[j]?).join)) : Upd js σ σ' := ⟨_, h⟩
/-- a walk over a list: the slots js are the body's, R holds of the heap -/
theorem f_each {a : Addr} {xs : List V} {g : TG} {tb : TS} (js : List Nat) (R : Nat → Hp → Prop) (r0 : R 0 H) (h0 : σ = sets σ js (fun j => (σ[j]?).join)) (hs : ∀ n H', R n H' → SqL K H' a xs)
    (turn : ∀ n x f H1, xs[n]? = some x → R n H1 → g x (sets σ js f) H1 fun σ2 H2 => tb { D with nx := fun σ' H' => Upd js σ σ' ∧ R (n + 1) H', ct := fun σ' H' => Upd js σ σ' ∧ R (n + 1) H', bk := D.nx } σ2 H2)
    (fin : ∀ f H1, R xs.length H1 → D.nx (sets σ js f) H1) : ForR (Itl K a) g tb D σ H := by
  refine f_list (xs := xs) (fun n σ' H' => Upd js σ σ' ∧ R n H') ⟨i_of h0, r0⟩ ?_ ?_ ?_
  · rintro n _ H' _ ⟨_, r⟩
    exact hs n H' r
  · rintro n x σ' H' e ⟨⟨f, rfl⟩, r⟩
    exact turn n x f H' e r
  · rintro σ' H' ⟨⟨f, rfl⟩, r⟩
    exact fin f H' r
/-- the same where the turn lays new things alone -/
theorem f_eachS {a : Addr} {xs : List V} {g : TG} {tb : TS} (Φ : Hp → V → Prop) (js : List Nat) (hs : SqL K H a xs) (h0 : σ = sets σ js (fun j => (σ[j]?).join)) (hx : ∀ x, x ∈ xs → Φ H x)
    (turn : ∀ x f H1, Same H H1 → Φ H x → g x (sets σ js f) H1 fun σ2 H2 => tb { D with nx := fun σ' H' => Upd js σ σ' ∧ Same H H', ct := fun σ' H' => Upd js σ σ' ∧ Same H H', bk := D.nx } σ2 H2)
    (fin : ∀ f H1, Same H H1 → D.nx (sets σ js f) H1) : ForR (Itl K a) g tb D σ H :=
  f_each (xs := xs) js (fun _ H' => Same H H') (Same.refl H) h0 (fun _ _ r => r.seq hs) (fun _ x f H1 e r => turn x f H1 r (hx x (List.mem_of_getElem? e))) fin
theorem r_each {lo : Int} {m : Nat} {g : TG} {tb : TS} (js : List Nat) (R : Nat → Hp → Prop) (r0 : R 0 H) (h0 : σ = sets σ js (fun j => (σ[j]?).join))
    (turn : ∀ n f H1, n < m → R n H1 → g (.int (lo + n)) (sets σ js f) H1 fun σ2 H2 => tb { D with nx := fun σ' H' => Upd js σ σ' ∧ R (n + 1) H', ct := fun σ' H' => Upd js σ σ' ∧ R (n + 1) H', bk := D.nx } σ2 H2)
    (fin : ∀ f H1, R m H1 → D.nx (sets σ js f) H1) : ForR (Itr lo m) g tb D σ H := by
  refine f_range (fun n σ' H' => Upd js σ σ' ∧ R n H') ⟨i_of h0, r0⟩ ?_ ?_
  · rintro n σ' H' e ⟨⟨f, rfl⟩, r⟩
    exact turn n f H' e r
  · rintro σ' H' ⟨⟨f, rfl⟩, r⟩
    exact fin f H' r
theorem s_ixR0 {a : Addr} {v0 : V} {vs : List V} (hs : H a = some (.tup (v0 :: vs))) (h : Q v0 H) : rIx K (.ref a) (.int 0) H Q := .inr (.inl ⟨a, _, 0, _, rfl, rfl, SqT.of hs, atI_nat (j := 0) rfl, h⟩)
theorem s_ixR1 {a : Addr} {v0 v1 : V} {vs : List V} (hs : H a = some (.tup (v0 :: v1 :: vs))) (h : Q v1 H) : rIx K (.ref a) (.int 1) H Q := .inr (.inl ⟨a, _, 1, _, rfl, rfl, SqT.of hs, atI_nat (j := 1) rfl, h⟩)
theorem s_ixR2 {a : Addr} {v0 v1 v2 : V} {vs : List V} (hs : H a = some (.tup (v0 :: v1 :: v2 :: vs))) (h : Q v2 H) : rIx K (.ref a) (.int 2) H Q := .inr (.inl ⟨a, _, 2, _, rfl, rfl, SqT.of hs, atI_nat (j := 2) rfl, h⟩)
theorem s_ixR3 {a : Addr} {v0 v1 v2 v3 : V} {vs : List V} (hs : H a = some (.tup (v0 :: v1 :: v2 :: v3 :: vs))) (h : Q v3 H) : rIx K (.ref a) (.int 3) H Q := .inr (.inl ⟨a, _, 3, _, rfl, rfl, SqT.of hs, atI_nat (j := 3) rfl, h⟩)
theorem s_addT {x y : V} {ds es : List PyData} (hx : Dt K H x (.tuple ds)) (hy : Dt K H y (.tuple es)) (n1 : ds ≠ []) (n2 : es ≠ []) (l : ds.length + es.length ≤ 1000) (h : ∀ v H', Same H H' → Dt K H' v (.tuple (ds ++ es)) → Q v H') : rAddU K x y H Q := by
  obtain ⟨a, xs, rfl, hs, ha⟩ := hx.tup_inv
  obtain ⟨b, ys, rfl, ht, hb⟩ := hy.tup_inv
  have e1 := ha.len
  have e2 := hb.len
  refine .inr (.inr (.inr ⟨a, b, xs, ys, rfl, rfl, hs, ht, fun z => n1 ?_, Nat.le_of_lt (L2.small1000 (by omega)), fun z => absurd ?_ n2, fun _ p hp => h _ _ (same_new hp) (dt_new (ha.append hb) hp)⟩))
  · subst z; exact List.length_eq_zero_iff.mp e1.symm
  · subst z; exact List.length_eq_zero_iff.mp e2.symm
theorem s_addT1 {x y : V} {d : PyData} {es : List PyData} (hx : Dt K H x (.tuple [d])) (hy : Dt K H y (.tuple es)) (n2 : es ≠ []) (l : 1 + es.length ≤ 1000) (h : ∀ v H', Same H H' → Dt K H' v (.tuple (d :: es)) → Q v H') : rAddU K x y H Q := s_addT hx hy (List.cons_ne_nil _ _) n2 l h
/-- a list of data -/
theorem s_addL {a b : Addr} {xs ys : List V} (hx : H a = some (.lst xs)) (hy : H b = some (.lst ys)) (z : xs.length + ys.length ≤ sizeLine) (h : ∀ p, H p = none → Q (.ref p) (upd H p (.lst (xs ++ ys)))) : rAddU K (.ref a) (.ref b) H Q :=
  .inr (.inr (.inl ⟨a, b, xs, ys, rfl, rfl, hx, hy, z, h⟩))
def RevQ (K : PySem.W.Frag) (x : V) (H : Hp) (Q : VK) : Prop := ∃ p xs, x = .ref p ∧ SqL K H p xs ∧ ∀ l, H l = none → Q (.ref l) (upd H l (.lst xs.reverse))
theorem s_revL {te : TE} (h : te σ H fun x H1 => RevQ K x H1 Q) : tRevL K te σ H Q := h
theorem s_isRev {p : Addr} {xs : List V} (hs : SqL K H p xs) (h : ∀ l, H l = none → Q (.ref l) (upd H l (.lst xs.reverse))) : RevQ K (.ref p) H Q := ⟨p, xs, rfl, hs, h⟩
/-- two lists of the same fractions -/
def lay : PyData → Bool := fun d => d.canLay0 && decide (d.depth ≤ 64)
theorem frs_lay : ∀ rs : List Rat, PyData.canLayAll0 (rs.map fr) = true
  | [] => by simp [PyData.canLayAll0]
  | r :: rs => by rw [List.map_cons, PyData.canLayAll0, frs_lay rs]; rfl
theorem frs_depth : ∀ rs : List Rat, PyData.depthAll (rs.map fr) ≤ 2
  | [] => by simp [PyData.depthAll]
  | r :: rs => by
    have h := frs_depth rs
    have h1 : (fr r).depth ≤ 2 := by show PyData.depth (.tuple [.int r.num, .int r.den]) ≤ 2; simp [PyData.depth, PyData.depthAll]
    simp only [List.map_cons, PyData.depthAll]
    omega
theorem sh_frs (rs : List Rat) : SeqAt.shaped (.list (rs.map fr)) = true := by
  have h1 := frs_lay rs
  have h2 := frs_depth rs
  unfold SeqAt.shaped
  rw [Bool.and_eq_true]
  refine ⟨by rw [PyData.canLay0]; exact h1, decide_eq_true (by simp only [PyData.depth]; omega)⟩
theorem s_eqLF {a b : Addr} {vs ws : List V} {rs : List Rat} (ha : SqL K H a vs) (hb : SqL K H b ws) (da : DtAll K H vs (rs.map fr)) (db : DtAll K H ws (rs.map fr)) (h : Q (.bl true) H) : rEqD K (.ref a) (.ref b) H Q :=
  ⟨_, _, .lst ha da.dp, .lst hb db.dp, sh_frs rs, sh_frs rs, by rw [SeqAt.eqv_refl _ (SeqAt.canLay_of_shaped (sh_frs rs))]; exact h⟩
theorem DtAll.rev {vs : List V} {ds : List PyData} (h : DtAll K H vs ds) : DtAll K H vs.reverse ds.reverse := by
  induction ds generalizing vs with
  | nil => cases h; exact .nil
  | cons d ds ih => cases h with | cons h a => rw [List.reverse_cons, List.reverse_cons]; exact (ih a).append (.cons h .nil)
-- slices
theorem s_sl {r : V → Option Int → Option Int → Hp → VK → Prop} {te : TE} {tl th : TO} (h : te σ H fun x H1 => tl σ H1 fun l H2 => th σ H2 fun u H3 => r x l u H3 Q) : tSl r te tl th σ H Q := h
theorem s_noPart {N : Option Int → Hp → Prop} (h : N none H) : tNoPart σ H N := h
theorem s_part {t : TE} {N : Option Int → Hp → Prop} (h : t σ H fun x H1 => ∃ i, x = .int i ∧ N (some i) H1) : tPart t σ H N := h
theorem s_isI {i : Int} {N : Int → Prop} (h : N i) : ∃ j, V.int i = V.int j ∧ N j := ⟨i, rfl, h⟩
theorem s_slL {a : Addr} {xs : List V} {lo hi : Option Int} (hs : SqL K H a xs) (h : ∀ p, H p = none → Q (.ref p) (upd H p (.lst (cutV xs lo hi)))) : rSlU K (.ref a) lo hi H Q := .inl ⟨a, xs, rfl, hs, h⟩
theorem cut_ints (ns : List Int) (lo hi : Option Int) : ∃ ms : List Int, cutV (ns.map V.int) lo hi = ms.map V.int :=
  ⟨(ns.drop (HT.sIx (ns.map V.int).length 0 lo)).take (HT.sIx (ns.map V.int).length (ns.map V.int).length hi - HT.sIx (ns.map V.int).length 0 lo), by unfold cutV; rw [List.map_take, List.map_drop]⟩
theorem s_listL {a : Addr} {xs : List V} (hs : SqL K H a xs) (h : ∀ p, H p = none → Q (.ref p) (upd H p (.lst xs))) : rListU K [.ref a] H Q := ⟨a, xs, rfl, .inl hs, h⟩
/-- some item of a list -/
theorem s_menu {a : Addr} {xs : List V} {i : Int} (hs : SqL K H a xs) (h0 : 0 ≤ i) (h1 : i < xs.length) (h : ∀ v, v ∈ xs → Q v H) : rIx K (.ref a) (.int i) H Q := by
  obtain ⟨j, rfl⟩ : ∃ j : Nat, i = (j : Int) := ⟨i.toNat, by omega⟩
  have hj : j < xs.length := by omega
  exact .inl ⟨a, xs, _, xs[j], rfl, rfl, hs, atI_nat (List.getElem?_eq_getElem hj), h _ (List.getElem_mem hj)⟩
theorem s_menuP {a : Addr} {xs : List V} {i : Int} (Φ : Hp → V → Prop) (hs : SqL K H a xs) (h0 : 0 ≤ i) (h1 : i < xs.length) (hx : ∀ v, v ∈ xs → Φ H v) (h : ∀ v, Φ H v → Q v H) : rIx K (.ref a) (.int i) H Q :=
  s_menu hs h0 h1 fun v hv => h v (hx v hv)
theorem s_menuI {a : Addr} {xs : List V} {i : Int} (lo hi : Int) (hs : SqL K H a xs) (h0 : 0 ≤ i) (h1 : i < xs.length) (hx : ∀ v, v ∈ xs → ∃ z, v = .int z ∧ lo ≤ z ∧ z ≤ hi) (h : ∀ z, lo ≤ z → z ≤ hi → Q (.int z) H) : rIx K (.ref a) (.int i) H Q :=
  s_menu hs h0 h1 fun v hv => by
    obtain ⟨z, rfl, a, b⟩ := hx v hv
    exact h z a b
theorem s_app {to : TE} {t : TA} {r : V → List V → Hp → VK → Prop} {T : String} (h : to σ H fun x H1 => tyV K T x H1 ∧ t σ H1 fun xs H2 => r x xs H2 Q) : tBM K T r to t σ H Q := h
theorem s_tyL {a : Addr} {xs : List V} {N : Prop} (hs : SqL K H a xs) (h : N) : tyV K "list" (.ref a) H ∧ N := ⟨.inl ⟨rfl, xs, hs⟩, h⟩
theorem s_append {a : Addr} {xs : List V} {y : V} (hs : H a = some (.lst xs)) (z : xs.length < sizeLine) (h : Q .non (upd H a (.lst (xs ++ [y])))) : rAppend (.ref a) [y] H Q := ⟨a, xs, y, rfl, rfl, hs, z, h⟩
theorem s_nil {N : List V → Hp → Prop} (h : N [] H) : tNil σ H N := h
theorem s_cons {ta : TE} {tr : TA} {N : List V → Hp → Prop} (h : ta σ H fun x H1 => tr σ H1 fun xs H2 => N (x :: xs) H2) : tCons ta tr σ H N := h
theorem s_cb {r : List V → Hp → VK → Prop} {t : TA} (h : t σ H fun vs H1 => r vs H1 Q) : tCB r t σ H Q := h
theorem s_call {sp : Sp} {dvs : List V} {E : XK} {t : TA} (h : t σ H fun vs H1 => sp (vs ++ dvs) H1 Q E) : tCall sp dvs E t σ H Q := h
theorem s_test {t : TE} {N : Bool → Hp → Prop} (h : t σ H fun x H' => ∃ k, x = .bl k ∧ N k H') : tTest t σ H N := h
theorem s_B {t : TE} {N : Bool → Hp → Prop} (h : t σ H fun x H' => ∃ k, x = .bl k ∧ N k H') : tB t σ H N := h
theorem s_tru {t : TE} {N : Bool → Hp → Prop} (h : t σ H fun x H' => ∃ k, TruV K x H' k ∧ N k H') : tTruU K t σ H N := h
theorem s_isB {k : Bool} {N : Bool → Prop} (h : N k) : ∃ k', V.bl k = V.bl k' ∧ N k' := ⟨k, rfl, h⟩
theorem s_truI {i : Int} {N : Bool → Prop} (h : N (i != 0)) : ∃ k, TruV K (.int i) H k ∧ N k := ⟨_, rfl, h⟩
theorem s_truB {b : Bool} {N : Bool → Prop} (h : N b) : ∃ k, TruV K (.bl b) H k ∧ N k := ⟨_, rfl, h⟩
theorem s_and {t u : TT} {N : Bool → Hp → Prop} (h : t σ H fun c H1 => if c = true then u σ H1 N else N false H1) : tAnd t u σ H N := h
theorem s_or {t u : TT} {N : Bool → Hp → Prop} (h : t σ H fun c H1 => if c = true then N true H1 else u σ H1 N) : tOr t u σ H N := h
theorem s_not {t : TT} {N : Bool → Hp → Prop} (h : t σ H fun c H1 => N (!c) H1) : tNot t σ H N := h
theorem s_andV {ta tb : TE} (h : ta σ H fun x H1 => ∃ c, x = .bl c ∧ if c = true then tb σ H1 Q else Q (.bl false) H1) : tAndV ta tb σ H Q := h
theorem s_orV {ta tb : TE} (h : ta σ H fun x H1 => ∃ c, x = .bl c ∧ if c = true then Q (.bl true) H1 else tb σ H1 Q) : tOrV ta tb σ H Q := h
theorem s_notV {ta : TE} (h : ta σ H fun x H1 => ∃ c, x = .bl c ∧ Q (.bl (!c)) H1) : tNotV ta σ H Q := h
theorem s_chain {r r' : R2} {ta tb tc : TE} (h : ta σ H fun x H1 => tb σ H1 fun y H2 => r x y H2 fun z H3 => ∃ k, z = .bl k ∧ if k = true then tc σ H3 fun w H4 => r' y w H4 Q else Q (.bl false) H3) : tChain r r' ta tb tc σ H Q := by
  first
    | exact h
    | (unfold tChain; exact h)
-- by values
theorem s_addI {i j : Int} (h : Q (.int (i + j)) H) : rAddU K (.int i) (.int j) H Q := .inl ⟨i, j, rfl, rfl, h⟩
theorem s_addS {i j : Str} (l : i.length + j.length ≤ sizeLine) (h : Q (.str (i ++ j)) H) : rAddU K (.str i) (.str j) H Q := .inr (.inl ⟨i, j, rfl, rfl, l, h⟩)
theorem s_subI {i j : Int} (h : Q (.int (i - j)) H) : rSubU (.int i) (.int j) H Q := ⟨i, j, rfl, rfl, h⟩
theorem s_mulI {i j : Int} (c : CMulZ i j) (h : Q (.int (i * j)) H) : rMulU (.int i) (.int j) H Q := .inl ⟨i, j, rfl, rfl, c, h⟩
theorem s_divI {i j : Int} (c : CDivZ i j) (h : Q (.int (i.fdiv j)) H) : rDivU (.int i) (.int j) H Q := ⟨i, j, rfl, rfl, c, h⟩
theorem s_modI {i j : Int} (c : j ≠ 0) (h : Q (.int (i.fmod j)) H) : rModU (.int i) (.int j) H Q := ⟨i, j, rfl, rfl, c, h⟩
theorem s_powI {i j : Int} (c : CPow i j) (h : Q (.int (i ^ j.toNat)) H) : rPowU (.int i) (.int j) H Q := ⟨i, j, rfl, rfl, c, h⟩
theorem s_pow2 (h : Q (.int 100) H) : rPowU (.int 10) (.int 2) H Q := s_powI ⟨by decide, by decide, by decide⟩ (by exact h)
theorem s_pow3 (h : Q (.int 1000) H) : rPowU (.int 10) (.int 3) H Q := s_powI ⟨by decide, by decide, by decide⟩ (by exact h)
theorem s_pow4 (h : Q (.int 10000) H) : rPowU (.int 10) (.int 4) H Q := s_powI ⟨by decide, by decide, by decide⟩ (by exact h)
theorem s_pow5 (h : Q (.int 100000) H) : rPowU (.int 10) (.int 5) H Q := s_powI ⟨by decide, by decide, by decide⟩ (by exact h)
theorem s_pow6 (h : Q (.int 1000000) H) : rPowU (.int 10) (.int 6) H Q := s_powI ⟨by decide, by decide, by decide⟩ (by exact h)
theorem s_pow7 (h : Q (.int 10000000) H) : rPowU (.int 10) (.int 7) H Q := s_powI ⟨by decide, by decide, by decide⟩ (by exact h)
theorem s_pow8 (h : Q (.int 100000000) H) : rPowU (.int 10) (.int 8) H Q := s_powI ⟨by decide, by decide, by decide⟩ (by exact h)
theorem s_pow9 (h : Q (.int 1000000000) H) : rPowU (.int 10) (.int 9) H Q := s_powI ⟨by decide, by decide, by decide⟩ (by exact h)
theorem s_pow10 (h : Q (.int 10000000000) H) : rPowU (.int 10) (.int 10) H Q := s_powI ⟨by decide, by decide, by decide⟩ (by exact h)
theorem s_pow12 (h : Q (.int 1000000000000) H) : rPowU (.int 10) (.int 12) H Q := s_powI ⟨by decide, by decide, by decide⟩ (by exact h)
theorem s_negI {i : Int} (h : Q (.int (-i)) H) : rNegU (.int i) H Q := ⟨i, rfl, h⟩
theorem s_ltI {i j : Int} (h : Q (.bl (decide (i < j))) H) : rLtI (.int i) (.int j) H Q := ⟨i, j, rfl, rfl, h⟩
theorem s_leI {i j : Int} (h : Q (.bl (decide (i ≤ j))) H) : rLeI (.int i) (.int j) H Q := ⟨i, j, rfl, rfl, h⟩
theorem s_gtI {i j : Int} (h : Q (.bl (decide (j < i))) H) : rGtI (.int i) (.int j) H Q := ⟨i, j, rfl, rfl, h⟩
theorem s_geI {i j : Int} (h : Q (.bl (decide (j ≤ i))) H) : rGeI (.int i) (.int j) H Q := ⟨i, j, rfl, rfl, h⟩
theorem eqvI (i j : Int) : PyData.eqv (.int i) (.int j) = decide (i = j) := by
  simp only [PyData.eqv]
  by_cases h : i = j <;> simp [h]
theorem eqvB (i j : Bool) : PyData.eqv (.bool i) (.bool j) = decide (i = j) := by
  cases i <;> cases j <;> (simp only [PyData.eqv]; rfl)
theorem shI (i : Int) : SeqAt.shaped (.int i) = true := rfl
theorem shB (i : Bool) : SeqAt.shaped (.bool i) = true := rfl
theorem s_eqI {i j : Int} (h : Q (.bl (decide (i = j))) H) : rEqD K (.int i) (.int j) H Q := ⟨_, _, .int i, .int j, shI i, shI j, by rw [eqvI]; exact h⟩
theorem s_neI {i j : Int} (h : Q (.bl (!decide (i = j))) H) : rNeD K (.int i) (.int j) H Q := ⟨_, _, .int i, .int j, shI i, shI j, by rw [eqvI]; exact h⟩
theorem s_eqB {i j : Bool} (h : Q (.bl (decide (i = j))) H) : rEqD K (.bl i) (.bl j) H Q := ⟨_, _, .bl i, .bl j, shB i, shB j, by rw [eqvB]; exact h⟩
theorem s_neB {i j : Bool} (h : Q (.bl (!decide (i = j))) H) : rNeD K (.bl i) (.bl j) H Q := ⟨_, _, .bl i, .bl j, shB i, shB j, by rw [eqvB]; exact h⟩
/-- two data -/
theorem s_eqD {x y : V} {d e : PyData} (hx : Dt K H x d) (hy : Dt K H y e) (sd : SeqAt.shaped d = true) (se : SeqAt.shaped e = true) (h : Q (.bl (PyData.eqv d e)) H) : rEqD K x y H Q := ⟨d, e, hx.dp, hy.dp, sd, se, h⟩
theorem s_neD {x y : V} {d e : PyData} (hx : Dt K H x d) (hy : Dt K H y e) (sd : SeqAt.shaped d = true) (se : SeqAt.shaped e = true) (h : Q (.bl (!PyData.eqv d e)) H) : rNeD K x y H Q := ⟨d, e, hx.dp, hy.dp, sd, se, h⟩
theorem shfr (r : Rat) : SeqAt.shaped (fr r) = true := rfl
theorem eqvfr (r s : Rat) : PyData.eqv (fr r) (fr s) = decide (r = s) := by
  have e : PyData.eqv (fr r) (fr s) = ((r.num == s.num) && (((r.den : Int) == (s.den : Int)) && true)) := by simp only [fr, PyData.eqv, PyData.eqvAll]
  rw [e]
  by_cases h : r = s
  · subst h; simp
  · have : ¬ (r.num = s.num ∧ (r.den : Int) = s.den) := fun ⟨a, b⟩ => h (Rat.ext a (by omega))
    rw [decide_eq_false h]
    by_cases h1 : r.num = s.num
    · have h2 : ¬ (r.den : Int) = s.den := fun z => this ⟨h1, z⟩
      rw [beq_eq_false_iff_ne.mpr h2]; simp
    · rw [beq_eq_false_iff_ne.mpr h1]; simp
theorem s_eqF {x y : V} {d e : Rat} (hx : Dt K H x (fr d)) (hy : Dt K H y (fr e)) (h : Q (.bl (decide (d = e))) H) : rEqD K x y H Q := ⟨_, _, hx.dp, hy.dp, shfr _, shfr _, by rw [eqvfr]; exact h⟩
theorem s_neF {x y : V} {d e : Rat} (hx : Dt K H x (fr d)) (hy : Dt K H y (fr e)) (h : Q (.bl (!decide (d = e))) H) : rNeD K x y H Q := ⟨_, _, hx.dp, hy.dp, shfr _, shfr _, by rw [eqvfr]; exact h⟩
theorem s_eqFF {x y : V} {d : Rat} (hx : Dt K H x (fr d)) (hy : Dt K H y (fr d)) (h : Q (.bl true) H) : rEqD K x y H Q := s_eqF hx hy (by rw [decide_eq_true rfl]; exact h)
theorem s_neFF {x y : V} {d : Rat} (hx : Dt K H x (fr d)) (hy : Dt K H y (fr d)) (h : Q (.bl false) H) : rNeD K x y H Q := s_neF hx hy (by rw [decide_eq_true rfl]; exact h)
theorem sh2 (a b : Rat) : SeqAt.shaped (.tuple [fr a, fr b]) = true := rfl
theorem s_eqD2 {x y : V} {a b : Rat} (hx : Dt K H x (.tuple [fr a, fr b])) (hy : Dt K H y (.tuple [fr a, fr b])) (h : Q (.bl true) H) : rEqD K x y H Q := s_eqD hx hy (sh2 a b) (sh2 a b) (by rw [SeqAt.eqv_refl _ (SeqAt.canLay_of_shaped (sh2 a b))]; exact h)
theorem s_neD2 {x y : V} {a b : Rat} (hx : Dt K H x (.tuple [fr a, fr b])) (hy : Dt K H y (.tuple [fr a, fr b])) (h : Q (.bl false) H) : rNeD K x y H Q := s_neD hx hy (sh2 a b) (sh2 a b) (by rw [SeqAt.eqv_refl _ (SeqAt.canLay_of_shaped (sh2 a b))]; exact h)
-- subscripts
theorem atI_of {α : Type} {xs : List α} {i : Nat} {v : α} (h : xs[i]? = some v) : atI xs (i : Int) = some v := atI_nat h
theorem DtAll.at {vs : List V} {ds : List PyData} (h : DtAll K H vs ds) {i : Int} {d : PyData} (e : atI ds i = some d) : ∃ v, atI vs i = some v ∧ Dt K H v d := by
  unfold atI at e ⊢
  rw [h.len]
  cases q : ixN ds.length i with
  | none => rw [q] at e; cases e
  | some j => rw [q] at e; exact h.get e
theorem s_ixT {x : V} {ds : List PyData} {i : Int} {d : PyData} (hx : Dt K H x (.tuple ds)) (e : atI ds i = some d) (h : ∀ v, Dt K H v d → Q v H) : rIx K x (.int i) H Q := by
  obtain ⟨a, xs, rfl, hs, ha⟩ := hx.tup_inv
  obtain ⟨v, e1, e2⟩ := ha.at e
  exact .inr (.inl ⟨a, xs, i, v, rfl, rfl, hs, e1, h v e2⟩)
theorem s_ixTi {x : V} {ds : List PyData} {i : Int} {z : Int} (hx : Dt K H x (.tuple ds)) (e : atI ds i = some (.int z)) (h : Q (.int z) H) : rIx K x (.int i) H Q :=
  s_ixT hx e fun v hv => by rw [hv.int_eq]; exact h
theorem s_ixTs {x : V} {ds : List PyData} {i : Int} {z : Str} (hx : Dt K H x (.tuple ds)) (e : atI ds i = some (.str z)) (h : Q (.str z) H) : rIx K x (.int i) H Q :=
  s_ixT hx e fun v hv => by rw [hv.str_eq]; exact h
theorem s_ixF0 {x : V} {r : Rat} (hx : Dt K H x (fr r)) (h : Q (.int r.num) H) : rIx K x (.int 0) H Q := s_ixTi (i := 0) hx rfl h
theorem s_ixF1 {x : V} {r : Rat} (hx : Dt K H x (fr r)) (h : Q (.int r.den) H) : rIx K x (.int 1) H Q := s_ixTi (i := 1) hx rfl h
theorem s_ixL {a : Addr} {xs : List V} {i : Int} {v : V} (hs : SqL K H a xs) (e : atI xs i = some v) (h : Q v H) : rIx K (.ref a) (.int i) H Q := .inl ⟨a, xs, i, v, rfl, rfl, hs, e, h⟩
theorem s_ixS {z : Str} {i : Int} {c : Nat} (l : z.length ≤ sizeLine) (e : atI z.cps.toList i = some c) (h : Q (.str ⟨#[c]⟩) H) : rIx K (.str z) (.int i) H Q := .inr (.inr ⟨z, i, c, rfl, rfl, l, e, h⟩)
theorem s_setL {a : Addr} {xs : List V} {i : Int} {j : Nat} {v : V} {N : Hp → Prop} (hs : H a = some (.lst xs)) (e : ixN xs.length i = some j) (h : N (upd H a (.lst (xs.set j v)))) : rSetL (.ref a) (.int i) v H N := ⟨a, xs, i, j, rfl, rfl, hs, e, h⟩
theorem s_ixT0 {x : V} {d0 : PyData} {ds : List PyData} (hx : Dt K H x (.tuple (d0 :: ds))) (h : ∀ v, Dt K H v d0 → Q v H) : rIx K x (.int 0) H Q := s_ixT hx (atI_nat (j := 0) rfl) h
theorem s_ixL0 {a : Addr} {v0 : V} {vs : List V} (hs : SqL K H a (v0 :: vs)) (h : Q v0 H) : rIx K (.ref a) (.int 0) H Q := s_ixL hs (atI_nat (j := 0) rfl) h
theorem s_setL0 {a : Addr} {v0 v : V} {vs : List V} {N : Hp → Prop} (hs : H a = some (.lst (v0 :: vs))) (h : N (upd H a (.lst (v :: vs)))) : rSetL (.ref a) (.int 0) v H N := s_setL (j := 0) hs (by show ixN _ ((0 : Nat) : Int) = some 0; unfold ixN; rw [if_pos (by omega), if_pos (by simp only [List.length_cons]; omega)]; rfl) h
theorem s_ixT1 {x : V} {d0 d1 : PyData} {ds : List PyData} (hx : Dt K H x (.tuple (d0 :: d1 :: ds))) (h : ∀ v, Dt K H v d1 → Q v H) : rIx K x (.int 1) H Q := s_ixT hx (atI_nat (j := 1) rfl) h
theorem s_ixL1 {a : Addr} {v0 v1 : V} {vs : List V} (hs : SqL K H a (v0 :: v1 :: vs)) (h : Q v1 H) : rIx K (.ref a) (.int 1) H Q := s_ixL hs (atI_nat (j := 1) rfl) h
theorem s_setL1 {a : Addr} {v0 v1 v : V} {vs : List V} {N : Hp → Prop} (hs : H a = some (.lst (v0 :: v1 :: vs))) (h : N (upd H a (.lst (v0 :: v :: vs)))) : rSetL (.ref a) (.int 1) v H N := s_setL (j := 1) hs (by show ixN _ ((1 : Nat) : Int) = some 1; unfold ixN; rw [if_pos (by omega), if_pos (by simp only [List.length_cons]; omega)]; rfl) h
theorem s_ixT2 {x : V} {d0 d1 d2 : PyData} {ds : List PyData} (hx : Dt K H x (.tuple (d0 :: d1 :: d2 :: ds))) (h : ∀ v, Dt K H v d2 → Q v H) : rIx K x (.int 2) H Q := s_ixT hx (atI_nat (j := 2) rfl) h
theorem s_ixL2 {a : Addr} {v0 v1 v2 : V} {vs : List V} (hs : SqL K H a (v0 :: v1 :: v2 :: vs)) (h : Q v2 H) : rIx K (.ref a) (.int 2) H Q := s_ixL hs (atI_nat (j := 2) rfl) h
theorem s_setL2 {a : Addr} {v0 v1 v2 v : V} {vs : List V} {N : Hp → Prop} (hs : H a = some (.lst (v0 :: v1 :: v2 :: vs))) (h : N (upd H a (.lst (v0 :: v1 :: v :: vs)))) : rSetL (.ref a) (.int 2) v H N := s_setL (j := 2) hs (by show ixN _ ((2 : Nat) : Int) = some 2; unfold ixN; rw [if_pos (by omega), if_pos (by simp only [List.length_cons]; omega)]; rfl) h
theorem s_ixT3 {x : V} {d0 d1 d2 d3 : PyData} {ds : List PyData} (hx : Dt K H x (.tuple (d0 :: d1 :: d2 :: d3 :: ds))) (h : ∀ v, Dt K H v d3 → Q v H) : rIx K x (.int 3) H Q := s_ixT hx (atI_nat (j := 3) rfl) h
theorem s_ixL3 {a : Addr} {v0 v1 v2 v3 : V} {vs : List V} (hs : SqL K H a (v0 :: v1 :: v2 :: v3 :: vs)) (h : Q v3 H) : rIx K (.ref a) (.int 3) H Q := s_ixL hs (atI_nat (j := 3) rfl) h
theorem s_setL3 {a : Addr} {v0 v1 v2 v3 v : V} {vs : List V} {N : Hp → Prop} (hs : H a = some (.lst (v0 :: v1 :: v2 :: v3 :: vs))) (h : N (upd H a (.lst (v0 :: v1 :: v2 :: v :: vs)))) : rSetL (.ref a) (.int 3) v H N := s_setL (j := 3) hs (by show ixN _ ((3 : Nat) : Int) = some 3; unfold ixN; rw [if_pos (by omega), if_pos (by simp only [List.length_cons]; omega)]; rfl) h
theorem s_ixT4 {x : V} {d0 d1 d2 d3 d4 : PyData} {ds : List PyData} (hx : Dt K H x (.tuple (d0 :: d1 :: d2 :: d3 :: d4 :: ds))) (h : ∀ v, Dt K H v d4 → Q v H) : rIx K x (.int 4) H Q := s_ixT hx (atI_nat (j := 4) rfl) h
theorem s_ixL4 {a : Addr} {v0 v1 v2 v3 v4 : V} {vs : List V} (hs : SqL K H a (v0 :: v1 :: v2 :: v3 :: v4 :: vs)) (h : Q v4 H) : rIx K (.ref a) (.int 4) H Q := s_ixL hs (atI_nat (j := 4) rfl) h
theorem s_setL4 {a : Addr} {v0 v1 v2 v3 v4 v : V} {vs : List V} {N : Hp → Prop} (hs : H a = some (.lst (v0 :: v1 :: v2 :: v3 :: v4 :: vs))) (h : N (upd H a (.lst (v0 :: v1 :: v2 :: v3 :: v :: vs)))) : rSetL (.ref a) (.int 4) v H N := s_setL (j := 4) hs (by show ixN _ ((4 : Nat) : Int) = some 4; unfold ixN; rw [if_pos (by omega), if_pos (by simp only [List.length_cons]; omega)]; rfl) h
theorem s_ixT5 {x : V} {d0 d1 d2 d3 d4 d5 : PyData} {ds : List PyData} (hx : Dt K H x (.tuple (d0 :: d1 :: d2 :: d3 :: d4 :: d5 :: ds))) (h : ∀ v, Dt K H v d5 → Q v H) : rIx K x (.int 5) H Q := s_ixT hx (atI_nat (j := 5) rfl) h
theorem s_ixL5 {a : Addr} {v0 v1 v2 v3 v4 v5 : V} {vs : List V} (hs : SqL K H a (v0 :: v1 :: v2 :: v3 :: v4 :: v5 :: vs)) (h : Q v5 H) : rIx K (.ref a) (.int 5) H Q := s_ixL hs (atI_nat (j := 5) rfl) h
theorem s_setL5 {a : Addr} {v0 v1 v2 v3 v4 v5 v : V} {vs : List V} {N : Hp → Prop} (hs : H a = some (.lst (v0 :: v1 :: v2 :: v3 :: v4 :: v5 :: vs))) (h : N (upd H a (.lst (v0 :: v1 :: v2 :: v3 :: v4 :: v :: vs)))) : rSetL (.ref a) (.int 5) v H N := s_setL (j := 5) hs (by show ixN _ ((5 : Nat) : Int) = some 5; unfold ixN; rw [if_pos (by omega), if_pos (by simp only [List.length_cons]; omega)]; rfl) h
-- calls of built-ins
theorem s_lenL {a : Addr} {xs : List V} (hs : SqL K H a xs) (h : Q (.int xs.length) H) : rLenU K [.ref a] H Q := ⟨.ref a, xs.length, rfl, .inl ⟨xs, hs, rfl⟩, h⟩
theorem s_lenT {x : V} {ds : List PyData} (hx : Dt K H x (.tuple ds)) (h : Q (.int ds.length) H) : rLenU K [x] H Q := by
  obtain ⟨a, xs, rfl, hs, ha⟩ := hx.tup_inv
  exact ⟨.ref a, xs.length, rfl, .inr ⟨xs, hs, rfl⟩, by rw [ha.len]; exact h⟩
theorem size1 {a : V} : [a].length ≤ sizeLine := by show 1 ≤ sizeLine; decide
theorem size2 {a b : V} : [a, b].length ≤ sizeLine := by show 2 ≤ sizeLine; decide
theorem size3 {a b c : V} : [a, b, c].length ≤ sizeLine := by show 3 ≤ sizeLine; decide
theorem size4 {a b c d : V} : [a, b, c, d].length ≤ sizeLine := by show 4 ≤ sizeLine; decide
theorem abs_if (i : Int) : (if i < 0 then -i else i) = (i.natAbs : Int) := by
  by_cases h : i < 0
  · rw [if_pos h]; omega
  · rw [if_neg h]; omega
theorem s_abs {i : Int} (h : Q (.int (i.natAbs : Int)) H) : rAbsU [.int i] H Q := ⟨i, rfl, by rw [abs_if]; exact h⟩
theorem lt_dec (r s : Rat) : decide (r.num * (s.den : Int) < s.num * (r.den : Int)) = decide (r < s) := by
  by_cases h : r < s
  · rw [decide_eq_true h, decide_eq_true ((Rat.lt_iff r s).mp h)]
  · rw [decide_eq_false h, decide_eq_false (fun z => h ((Rat.lt_iff r s).mpr z))]
theorem mz_of {i j : Int} {n m : Nat} (h : i.natAbs < 2 ^ n) (k : j.natAbs < 2 ^ m) (h0 : 0 < n) (k0 : 0 < m) (l : n + m ≤ 1000000) : CMulZ i j := .inr (wide_mul h k h0 k0 l)
theorem mz_nd {r s : Rat} (h : Sz 400000 r) (k : Sz 400000 s) : CMulZ r.num s.den := mz_of h.1 k.dA (by decide) (by decide) (by decide)
theorem mz_nn {r s : Rat} (h : Sz 400000 r) (k : Sz 400000 s) : CMulZ r.num s.num := mz_of h.1 k.1 (by decide) (by decide) (by decide)
theorem mz_dd {r s : Rat} (h : Sz 400000 r) (k : Sz 400000 s) : CMulZ r.den s.den := mz_of h.dA k.dA (by decide) (by decide) (by decide)
theorem mz_dn {r s : Rat} (h : Sz 400000 r) (k : Sz 400000 s) : CMulZ r.den s.num := mz_of h.dA k.1 (by decide) (by decide) (by decide)
theorem cz_l {i j : Int} (h : -18446744073709551616 < i) (k : i < 18446744073709551616) : CMulZ i j := .inl (.inl ⟨h, k⟩)
theorem cz_r {i j : Int} (h : -18446744073709551616 < j) (k : j < 18446744073709551616) : CMulZ i j := .inl (.inr ⟨h, k⟩)
theorem dz_of {i j : Int} {n : Nat} (h : j ≠ 0) (k : j.natAbs < 2 ^ n) (h0 : 0 < n) (l : n ≤ 9000) : CDivZ i j := ⟨h, Nat.lt_of_lt_of_le (PySem.Flt.log2_lt_of h0 k) l⟩
theorem dz_sm {i j : Int} (h : 0 < j) (k : j < 18446744073709551616) : CDivZ i j := dz_of (n := 64) (by omega) (by omega) (by decide) (by decide)
theorem s_max {i j : Int} (h : Q (.int (if j > i then j else i)) H) : rMaxU [.int i, .int j] H Q := ⟨i, j, rfl, h⟩
theorem s_min {i j : Int} (h : Q (.int (if j < i then j else i)) H) : rMinU [.int i, .int j] H Q := ⟨i, j, rfl, h⟩
theorem kit_ii : kitB "int" "int" = some true := by decide +kernel
theorem kit_ib : kitB "int" "bool" = some false := by decide +kernel
theorem kit_bi : kitB "bool" "int" = some true := by decide +kernel
theorem kit_bb : kitB "bool" "bool" = some true := by decide +kernel
theorem kit_tt : kitB "tuple" "tuple" = some true := by decide +kernel
theorem s_isII {i : Int} (h : Q (.bl true) H) : rIsi K [.int i, .ty "int"] H Q := ⟨_, _, _, _, true, rfl, .ty _, .base (.int i), kit_ty kit_ii, h⟩
theorem s_isIB {i : Int} (h : Q (.bl false) H) : rIsi K [.int i, .ty "bool"] H Q := ⟨_, _, _, _, false, rfl, .ty _, .base (.int i), kit_ty kit_ib, h⟩
theorem s_isBI {b : Bool} (h : Q (.bl true) H) : rIsi K [.bl b, .ty "int"] H Q := ⟨_, _, _, _, true, rfl, .ty _, .base (.bl b), kit_ty kit_bi, h⟩
theorem s_isBB {b : Bool} (h : Q (.bl true) H) : rIsi K [.bl b, .ty "bool"] H Q := ⟨_, _, _, _, true, rfl, .ty _, .base (.bl b), kit_ty kit_bb, h⟩
theorem Dt.tyT {x : V} {ds : List PyData} (hx : Dt K H x (.tuple ds)) : TyX K H x (.type "tuple") := by
  obtain ⟨a, xs, rfl, hs, _⟩ := hx.tup_inv
  rcases hs with (h | ⟨o, h⟩) | ⟨o, its, n, h, c, _⟩
  · exact .base (.tup h)
  · exact .fTuple h
  · exact .kTuple h c
theorem s_isTT {x : V} {ds : List PyData} (hx : Dt K H x (.tuple ds)) (h : Q (.bl true) H) : rIsi K [x, .ty "tuple"] H Q := ⟨_, _, _, _, true, rfl, .ty _, hx.tyT, kit_ty kit_tt, h⟩
end
/-! ### the law's bag: [the script's numbers, how many are taken, what is left of a great one, the salt] -/
def Bag (H : Hp) (b l : Addr) : Prop := ∃ (ns : List Int) (p r z : Int), H b = some (.lst [.ref l, .int p, .int r, .int z]) ∧ H l = some (.lst (ns.map V.int)) ∧ 0 ≤ p ∧ -(2 ^ 40) < z ∧ z < 2 ^ 40 ∧ l ≠ b
theorem Bag.same {H H' : Hp} {b l : Addr} (s : Same H H') (h : Bag H b l) : Bag H' b l := by
  obtain ⟨ns, p, r, z, h1, h2, h3⟩ := h
  exact ⟨ns, p, r, z, s _ _ h1, s _ _ h2, h3⟩
theorem Bag.upd {H : Hp} {b l q : Addr} {o : HO} (h : Bag H b l) (n1 : q ≠ b) (n2 : q ≠ l) : Bag (upd H q o) b l := by
  obtain ⟨ns, p, r, z, h1, h2, h3⟩ := h
  exact ⟨ns, p, r, z, (upd_ne n1.symm).trans h1, (upd_ne n2.symm).trans h2, h3⟩
theorem Bag.ne1 {H : Hp} {b l q : Addr} (h : Bag H b l) (n : H q = none) : q ≠ b := fun e => by
  obtain ⟨_, _, _, _, h1, _⟩ := h
  rw [e, h1] at n
  cases n
theorem Bag.ne2 {H : Hp} {b l q : Addr} (h : Bag H b l) (n : H q = none) : q ≠ l := fun e => by
  obtain ⟨_, _, _, _, _, h1, _⟩ := h
  rw [e, h1] at n
  cases n
theorem Bag.ne1' {H : Hp} {b l q : Addr} (n : H q = none) (h : Bag H b l) : q ≠ b := h.ne1 n
theorem Bag.ne2' {H : Hp} {b l q : Addr} (n : H q = none) (h : Bag H b l) : q ≠ l := h.ne2 n
theorem Bag.new {H : Hp} {b l q : Addr} {o : HO} (h : Bag H b l) (n : H q = none) : Bag (L2.upd H q o) b l := h.same (same_new n)
theorem but_of {H H' : Hp} {b l : Addr} (h : Bag H b l) (k : ∀ a o, a ≠ b → H a = some o → H' a = some o) : But b H H' := ⟨k, by obtain ⟨_, _, _, _, h1, _⟩ := h; exact ⟨_, h1⟩⟩
theorem But.same {H H1 H2 : Hp} {b : Addr} (s : But b H H1) (t : Same H1 H2) : But b H H2 := ⟨fun a o n h => t _ _ (s.oth a o n h), s.lst⟩
theorem But.trans {H H1 H2 : Hp} {b : Addr} (s : But b H H1) (t : But b H1 H2) : But b H H2 := ⟨fun a o n h => t.oth a o n (s.oth a o n h), s.lst⟩
theorem But.ofSame {H H1 : Hp} {b l : Addr} (h : Bag H b l) (t : Same H H1) : But b H H1 := but_of h fun a o _ e => t a o e
theorem but_mut {H H1 : Hp} {b q : Addr} {o : HO} (s : But b H H1) (n : H q = none) : But b H (upd H1 q o) := ⟨fun a u k h => by rw [upd_ne (ne_of_none h n)]; exact s.oth a u k h, s.lst⟩
theorem But.free {H H1 : Hp} {b q : Addr} (s : But b H H1) (nb : q ≠ b) (h : H1 q = none) : H q = none := by
  cases e : H q with
  | none => rfl
  | some o => rw [s.oth q o nb e] at h; cases h
/-- a def upon data that lays nothing -/
def spV {α : Type} (K : PySem.W.Frag) (arg : α → List PyData) (pre : α → Prop) (res : α → V) : Sp := fun vs H Q _ => ∃ x : α, DtAll K H vs (arg x) ∧ pre x ∧ Q (res x) H
theorem spV.len {α : Type} {K : PySem.W.Frag} {arg : α → List PyData} {pre : α → Prop} {res : α → V} {n : Nat} (hn : ∀ x, (arg x).length = n) {vs : List V} {H : Hp} {Q : VK} {E : XK} (h : spV K arg pre res vs H Q E) : vs.length = n := by
  obtain ⟨x, h, _⟩ := h
  exact h.len.trans (hn x)
theorem da1 {K : PySem.W.Frag} {H : Hp} {vs : List V} {a : PyData} (h : DtAll K H vs [a]) : ∃ x, vs = [x] ∧ Dt K H x a := by
  cases h with | cons h t => cases t; exact ⟨_, rfl, h⟩
theorem da2 {K : PySem.W.Frag} {H : Hp} {vs : List V} {a b : PyData} (h : DtAll K H vs [a, b]) : ∃ x y, vs = [x, y] ∧ Dt K H x a ∧ Dt K H y b := by
  cases h with | cons h t => obtain ⟨y, rfl, k⟩ := da1 t; exact ⟨_, _, rfl, h, k⟩
theorem da3 {K : PySem.W.Frag} {H : Hp} {vs : List V} {a b c : PyData} (h : DtAll K H vs [a, b, c]) : ∃ x y z, vs = [x, y, z] ∧ Dt K H x a ∧ Dt K H y b ∧ Dt K H z c := by
  cases h with | cons h t => obtain ⟨y, z, rfl, k⟩ := da2 t; exact ⟨_, _, _, rfl, h, k⟩
/-- a draw: args behind the bag, what is asked of them, what comes -/
def spB {α : Type} (K : PySem.W.Frag) (arg : α → List PyData) (pre : α → Prop) (post : α → PyData → Prop) : Sp := fun vs H Q _ => ∃ (b l : Addr) (ws : List V) (x : α), vs = .ref b :: ws ∧ Bag H b l ∧ DtAll K H ws (arg x) ∧ pre x ∧
  ∀ v d H', But b H H' → Bag H' b l → post x d → Dt K H' v d → Q v H'
/-- a def upon data -/
def spP {α : Type} (K : PySem.W.Frag) (arg : α → List PyData) (pre : α → Prop) (res : α → PyData) : Sp := fun vs H Q _ => ∃ x : α, DtAll K H vs (arg x) ∧ pre x ∧ ∀ v H', Same H H' → Dt K H' v (res x) → Q v H'
theorem spB.len {α : Type} {K : PySem.W.Frag} {arg : α → List PyData} {pre : α → Prop} {post : α → PyData → Prop} {n : Nat} (hn : ∀ x, (arg x).length = n) {vs : List V} {H : Hp} {Q : VK} {E : XK} (h : spB K arg pre post vs H Q E) : vs.length = n + 1 := by
  obtain ⟨b, l, ws, x, rfl, _, h, _⟩ := h
  exact congrArg Nat.succ (h.len.trans (hn x))
theorem spP.len {α : Type} {K : PySem.W.Frag} {arg : α → List PyData} {pre : α → Prop} {res : α → PyData} {n : Nat} (hn : ∀ x, (arg x).length = n) {vs : List V} {H : Hp} {Q : VK} {E : XK} (h : spP K arg pre res vs H Q E) : vs.length = n := by
  obtain ⟨x, h, _⟩ := h
  exact h.len.trans (hn x)
end Cr

namespace Cr
open PySem PySem.Spec PyProof.Rows L2
/-! ### own error classes without an __init__ of their own -/
structure ExcT (K : PySem.W.Frag) (mg : Str → Option Value) (x : Str) (C : Addr) (bm : List Value) (new : String) : Prop where
  g : mg x = some (.ref C)
  q : PySem.W.excIn K C bm new = true
  k : PySem.W.keepIn K (.ref C) = true
  s : PySem.W.subIn K (.ref C) (.type "BaseException") = some true
  t : PySem.W.typeIn K (.ref C) = some (.type "type")
  hd : PySem.W.hasDictIn K C = true
  self : PySem.W.subIn K (.ref C) (.ref C) = some true
theorem ExcT.te {K : PySem.W.Frag} {mg : Str → Option Value} {x : Str} {C : Addr} {bm : List Value} {new : String} (T : ExcT K mg x C bm new) : PySem.W.exmOne K (.ref C) (.ref C) = some true := PySem.W.exm_ref T.s T.hd T.t T.self
section
variable {X : Cx} {pos : Pos}
/-- C(), an own error without arguments -/
theorem pmk_own0 {C : Addr} {bmB : List Value} {B newId initId : String} {x : Str} {p : Pos} (F : ExcBaseFacts B newId initId bmB) (q : PySem.W.excIn X.K C bmB newId = true) (gC : X.mg x = some (.ref C))
    (kC : PySem.W.keepIn X.K (.ref C) = true) (r : Raises X (.ref C)) (hg : Gl X x) (hdb : (x == ("__debug__" : Str)) = false := by decide) :
    PMk X (.Call (.Name x p) [] [] pos) (fun _ H Q => Q (.ref C) none H) := by
  intro pins s σ H Q I h
  refine wpAny_Call_Name_kw (ld_glob I hg gC ?_ hdb)
  refine PySem.W.callWith_K0 I.kIn kC ?_
  show wpAny _ _ (call (.ref C) []) _ _ _
  obtain ⟨bm, N, nm, qn, bs, hdct, sn, sub, ab, col, dd, k0, k1, k2, k3, k5, mN, hC, hN, hni, T⟩ := exc_obj I.kIn q
  refine wpAny_call_exc_subT F T hC hN hni (fun h' e hm => ?_) (Nat.zero_le _)
  exact mk_of I hm r h (I.hok.gone hm.new)
end
/-! ### calls with keywords -/
theorem kb1 {K : PySem.W.Frag} {x qual : Str} {params : Arguments} {body : List Stmt} {scope : Scope} {dvs : List V} {kws : List (Str × V)} {f : Addr} {fd : FuncData} {ps : List Str} (F : FunD K x qual params body scope dvs kws f fd) (n : Nat) (ks : List Str)
    (g : {α : Type} → List α → List α → List α → List α) (hd : dvs ≠ [])
    (hrel : ∀ {vs ds zs : List V} {us its ws : List Value}, Vals vs us → Vals ds its → Vals zs ws → Vals (g vs ds zs) (g us its ws))
    (h : ∀ (T : Addr) (kV doc pm : Value) (an : Option Addr) (cdv ct : Value) (us its ws : List Value), us.length = n → its.length = dvs.length → ws.length = ks.length →
      ∃ k, bindArgs (PySem.W.fnOf x qual params body scope (.ref T) kV doc pm an cdv ct) ⟨us, ks.zip ws⟩ = seqItems? (.ref T) >>= k ∧ k (some its.toArray) = pure (ps.zip (g us its ws))) :
    ∃ its : List Value, KBn K fd ps n ks (fun us ws => g us its ws) (fun vs zs => g vs dvs zs) := by
  obtain ⟨oc, od, dV, kV, doc, pm, an, cdv, ct, osl, rfl, lk, hcd, hD, hK⟩ := F.ex
  rcases hD with ⟨e, _⟩ | ⟨_, T, o, its, m, rfl, lT, oT, rT⟩
  · exact absurd e hd
  · refine ⟨its, ⟨fun s us ws X l1 l2 => ?_, fun r1 r2 => hrel r1 rT r2⟩⟩
    obtain ⟨k, e1, e2⟩ := h T kV doc pm an cdv ct us its ws l1 rT.length.symm l2
    refine BindsTo.of_looks fun M => ?_
    rw [e1]
    exact looks_items X lT oT (.of_pure e2)
/-- f(k = v, ..) -/
theorem pe_callN0 {X : Cx} {CX : CXT} {k : Nat} {f : Addr} {fd : FuncData} {ps ks : List Str} {sp : Sp} {E : XK} {x : Str} {p pos : Pos} {kws : List Keyword} {tk : TA} {g : List Value → List Value → List Value} {gV : List V → List V → List V}
    (F : FnOk X.prog X.w X.K X.mg X.base CX k f fd ps sp) (hr : Room k X.A) (hg : Gl X x) (hm : X.mg x = some (.ref f)) (hk : PySem.W.keepIn X.K (.ref f) = true) (hb : KBn X.K fd ps 0 ks g gV) (hx : Passes CX X E)
    (hkw : PK X kws tk) (hall : (backToKw pos (keywordEach kws X.env)).all (·.1.isSome) = true := by rfl) (hks : (backToKw pos (keywordEach kws X.env)).filterMap (·.1) = ks := by rfl)
    (hdb : (x == ("__debug__" : Str)) = false := by decide)
    (hpl : ((backTo pos (starEach [] X.env)).any (·.1) || (backToKw pos (keywordEach kws X.env)).any (·.1.isNone)) = false := by rfl) :
    PE X (.Call (.Name x p) [] kws pos) (tCallN 0 ks.length sp gV E tNil tk) := by
  refine ⟨fun pins s σ H Q I h => ?_⟩
  refine wpAny_Call_Name_kw (ld_glob I hg hm ?_ hdb)
  refine PySem.W.callWith_KW0 (h₀ := X.base) I.ok.mod.kin hk hall ?_ hpl
  refine thn (hkw.run pos pins s σ H _ I h) fun ws s2 ⟨zs, H2, I2, rz, l1, l2, q2⟩ => ⟨I2.kIn, ?_⟩
  rw [hks]
  exact run_fnN (us := []) (vs := []) F hr hb hx I2 .nil rz rfl l2 q2
theorem kit_sub {K : PySem.W.Frag} {D : Addr} {n : String} {b : Bool} (m : PySem.W.kitMeta n = true) (e : PySem.W.subIn K (.ref D) (.type n) = some b) : PySem.W.kitOne K (.ref D) (.type n) = some b := by
  show (if (Value.ref D == Value.type n) = true then some true else (if PySem.W.kitMeta n = true then PySem.W.subIn K (.ref D) (.type n) else none)) = some b
  rw [if_neg (by intro h; cases (beq_iff_eq.mp h)), if_pos m]
  exact e
/-- isinstance of the error that the suite holds -/
def rIsX (K : PySem.W.Frag) (D a : Addr) (cls : Value) (d : Option Addr) : List V → Hp → VK → Prop := fun xs H Q => cls = .ref D ∧ d = none ∧ rIsE K D a xs H Q
theorem call_isX {X : Cx} {a D : Addr} {oe : Obj} {pn : List (Addr × Obj)} {cls : Value} {d : Option Addr} (C : ExcC X.K D) (hz : Zc cls d oe) (hf : ∃ vs, oe.data = .fields vs) : CallR (X.suite a ((a, oe) :: pn)) (.builtin "isinstance") (rIsX X.K D a cls d) := by
  intro pins s σ H xs us Q I r h
  obtain ⟨rfl, rfl, h⟩ := h
  exact call_isE C hz hf pins s σ H xs us Q I r h
section
variable {K : PySem.W.Frag} {σ : St} {H : Hp} {Q : VK} {D : Ends}
theorem s_callS {sp : Sp} {E : St → XK} {t : TA} (h : t σ H fun vs H1 => sp vs H1 Q (E σ)) : tCallS sp E t σ H Q := h
theorem s_caught {C : Addr} {ts : Addr → Value → Option Addr → TS} {Wout : WX} {d : Option Addr} (e : PySem.W.exmOne K (.ref C) (.ref C) = some true) (h : ∀ a, H a = none → ts a (.ref C) d D σ H) : wOnly K (.ref C) ts Wout D (.ref C) d σ H :=
  ⟨true, e, fun _ a ha => h a ha, fun z => Bool.noConfusion z⟩
theorem s_callN {n m : Nat} {sp : Sp} {gV : List V → List V → List V} {E : XK} {t tk : TA} (h : t σ H fun vs H1 => tk σ H1 fun zs H2 => vs.length = n ∧ zs.length = m ∧ sp (gV vs zs) H2 Q E) : tCallN n m sp gV E t tk σ H Q := h
theorem s_lens {vs zs : List V} {n m : Nat} {N : Prop} (h1 : vs.length = n) (h2 : zs.length = m) (h : N) : vs.length = n ∧ zs.length = m ∧ N := ⟨h1, h2, h⟩
theorem s_isX {D a : Addr} {n : String} {b : Bool} (e : PySem.W.kitOne K (.ref D) (.type n) = some b) (h : Q (.bl b) H) : rIsX K D a (.ref D) none [.ref a, .ty n] H Q := ⟨rfl, rfl, .ty n, .type n, b, rfl, fun _ r => r, e, h⟩
theorem s_caughtAs {C : Addr} {i : Nat} {ts : Addr → Value → Option Addr → TS} {Wout : WX} {d : Option Addr} (e : PySem.W.exmOne K (.ref C) (.ref C) = some true)
    (h : ∀ a, H a = none → ts a (.ref C) d { nx := fun σ' H' => D.nx (σ'.set i none) H', rt := D.rt, bk := fun σ' H' => D.bk (σ'.set i none) H', ct := fun σ' H' => D.ct (σ'.set i none) H' } (σ.set i (some (.ref a))) H) : wAs K (.ref C) i ts Wout D (.ref C) d σ H :=
  ⟨true, e, fun _ => h, fun z => Bool.noConfusion z⟩
end
/-! ### lots: instances that never change once they are made -/
def isZ : HO → Bool
  | .ins _ _ _ => true
  | o => isT o
def KI (H H' : Hp) : Prop := ∀ a o, H a = some o → isZ o = true → H' a = some o
theorem isZ_T {o : HO} (h : isT o = true) : isZ o = true := by cases o <;> first | exact h | rfl
theorem KI.kt {H H' : Hp} (k : KI H H') : KT H H' := fun a o h t => k a o h (isZ_T t)
theorem ki_same {H H' : Hp} (s : Same H H') : KI H H' := fun a o h _ => s a o h
theorem ki_new {H : Hp} {p : Addr} {o : HO} (h : H p = none) : KI H (upd H p o) := fun a u e _ => by rw [upd_ne (ne_of_none e h)]; exact e
theorem ki_mut {H : Hp} {p : Addr} {o o' : HO} (h : H p = some o) (t : isZ o = false) : KI H (upd H p o') := fun a u e k => by
  rw [upd_ne (fun z => by subst z; rw [h] at e; cases e; rw [t] at k; cases k)]; exact e
theorem ki_but {b : Addr} {H H' : Hp} (s : But b H H') : KI H H' := fun a o h t => s.oth a o (fun z => by subst z; obtain ⟨xs, e⟩ := s.lst; rw [e] at h; cases h; cases t) h
def IsLot (K : PySem.W.Frag) (C : Addr) (H : Hp) (v : V) (w m : Rat) : Prop := ∃ (a dx : Addr) (x y : V), v = .ref a ∧ H a = some (.ins C dx [(("worth" : Str), x), (("mark" : Str), y)]) ∧ Dt K H x (fr w) ∧ Dt K H y (fr m)
section
variable {K : PySem.W.Frag} {C : Addr} {H H' : Hp} {v : V} {w m : Rat} {Q : VK} {σ : St}
theorem IsLot.mono (k : KI H H') (h : IsLot K C H v w m) : IsLot K C H' v w m := by
  obtain ⟨a, dx, x, y, e, h1, h2, h3⟩ := h
  exact ⟨a, dx, x, y, e, k _ _ h1 rfl, h2.mono k.kt, h3.mono k.kt⟩
theorem wm : ¬ (("worth" : Str) = "mark") := by decide +kernel
def FldQ (K : PySem.W.Frag) (x : V) (f : Str) (H : Hp) (Q : VK) : Prop := ∃ a C dx fs v, x = V.ref a ∧ H a = some (.ins C dx fs) ∧ Cls K C ∧ NoAttr K C f ∧ fs.lookup f = some v ∧ Q v H
theorem s_fld {ta : TE} {f : Str} (h : ta σ H fun x H1 => FldQ K x f H1 Q) : tFld K ta f σ H Q := h
theorem s_worth (h : IsLot K C H v w m) (c : Cls K C) (n : NoAttr K C "worth") (q : ∀ x, Dt K H x (fr w) → Q x H) : FldQ K v "worth" H Q := by
  obtain ⟨a, dx, x, y, e, h1, h2, h3⟩ := h
  exact ⟨a, C, dx, _, x, e, h1, c, n, by
    show List.lookup ("worth" : Str) [(("worth" : Str), x), (("mark" : Str), y)] = some x
    rw [List.lookup_cons, show (("worth" : Str) == "worth") = true by decide +kernel], q x h2⟩
theorem s_mark (h : IsLot K C H v w m) (c : Cls K C) (n : NoAttr K C "mark") (q : ∀ x, Dt K H x (fr m) → Q x H) : FldQ K v "mark" H Q := by
  obtain ⟨a, dx, x, y, e, h1, h2, h3⟩ := h
  exact ⟨a, C, dx, _, y, e, h1, c, n, by
    show List.lookup ("mark" : Str) [(("worth" : Str), x), (("mark" : Str), y)] = some y
    rw [List.lookup_cons, show (("mark" : Str) == "worth") = false by decide +kernel]
    rfl, q y h3⟩
def MethQ (C : Addr) (m : Str) (x : V) (H : Hp) (N : Prop) : Prop := ∃ a dx fs, x = V.ref a ∧ H a = some (.ins C dx fs) ∧ fs.lookup m = none ∧ N
theorem s_meth {mn : Str} {sp : Sp} {dvs : List V} {E : XK} {ta : TE} {t : TA} (h : ta σ H fun x H1 => MethQ C mn x H1 (t σ H1 fun vs H2 => sp (x :: (vs ++ dvs)) H2 Q E)) : tMeth C mn sp dvs E ta t σ H Q := h
theorem s_mlot {mn : Str} {N : Prop} (h : IsLot K C H v w m) (e1 : (mn == ("worth" : Str)) = false) (e2 : (mn == ("mark" : Str)) = false) (n : N) : MethQ C mn v H N := by
  obtain ⟨a, dx, x, y, e, h1, _⟩ := h
  exact ⟨a, dx, _, e, h1, by
    rw [List.lookup_cons, e1, List.lookup_cons, e2]
    rfl, n⟩
def MakeQ (C : Addr) (sp : Sp) (dvs : List V) (E : XK) (vs : List V) (H : Hp) (Q : VK) : Prop := ∀ x dx, H x = none → H dx = none → dx ≠ x →
  sp (.ref x :: (vs ++ dvs)) (upd (upd H dx (.own x)) x (.ins C dx [])) (fun v H2 => v = .non ∧ Q (.ref x) H2) E
theorem s_make {sp : Sp} {dvs : List V} {E : XK} {t : TA} (h : t σ H fun vs H1 => MakeQ C sp dvs E vs H1 Q) : tMake C sp dvs E t σ H Q := h
end
end Cr
namespace Cr
open PySem PySem.Spec PyProof.Rows L2
theorem units65 {k : Nat} {A : Around} (r : Room k A) : A.units + 65 < cLine := by have := r.un; omega
/-! ### a cut behind a statement; list comprehensions; more of built-ins -/
inductive A2 {α β : Type} (R : α → β → Prop) : List α → List β → Prop
  | nil : A2 R [] []
  | cons {x : α} {y : β} {xs : List α} {ys : List β} : R x y → A2 R xs ys → A2 R (x :: xs) (y :: ys)
theorem A2.mono {α β : Type} {R S : α → β → Prop} (h : ∀ x y, R x y → S x y) : ∀ {xs : List α} {ys : List β}, A2 R xs ys → A2 S xs ys
  | _, _, .nil => .nil
  | _, _, .cons a b => .cons (h _ _ a) (A2.mono h b)
theorem A2.snoc {α β : Type} {R : α → β → Prop} {x : α} {y : β} (r : R x y) : ∀ {xs : List α} {ys : List β}, A2 R xs ys → A2 R (xs ++ [x]) (ys ++ [y])
  | _, _, .nil => .cons r .nil
  | _, _, .cons a b => .cons a (A2.snoc r b)
theorem A2.len {α β : Type} {R : α → β → Prop} : ∀ {xs : List α} {ys : List β}, A2 R xs ys → xs.length = ys.length
  | _, _, .nil => rfl
  | _, _, .cons _ b => congrArg Nat.succ (A2.len b)
section
variable {K : PySem.W.Frag} {σ : St} {H : Hp} {Q : VK} {D : Ends}
theorem s_cut {t : TS} (js : List Nat) (I : (Nat → Option V) → Hp → Prop) (h : ∀ N' : St → Hp → Prop, (∀ σ' H', σ' = sets σ js (fun j => (σ'[j]?).join) → I (fun j => (σ'[j]?).join) H' → N' σ' H') → t { D with nx := N' } σ H)
    (hN : ∀ f H', I f H' → D.nx (sets σ js f) H') : t D σ H := h D.nx fun σ' H' e i => by rw [e]; exact hN _ H' i
def LcR (J : It) (g : TG) (tt : TT) (te : TE) (vs : List Nat) (σ : St) (H1 : Hp) (Q : VK) : Prop := ∀ D, H1 D = none → ∃ W : Nat → Nat → Hp → Prop, (∃ m, W 0 m (upd H1 D (.lst []))) ∧ ∀ i m H, W i m H →
  (J.stop i H ∧ Q (.ref D) H) ∨ (J.go i H ∧ ∃ Nx : Hp → Prop, (∀ H', Nx H' → ∃ m', m' < m ∧ W (i + 1) m' H') ∧ ∀ x H', J.yld i H x H' → g x (wipe σ vs) H' fun σ2 H2 => wipe σ2 vs = wipe σ vs ∧ tt σ2 H2 fun b H3 =>
    if b = true then te σ2 H3 fun y H4 => ∃ acc, H4 D = some (.lst acc) ∧ acc.length < sizeLine ∧ Nx (upd H4 D (.lst (acc ++ [y]))) else Nx H3)
theorem s_lc {wi : TI} {g : TG} {tt : TT} {te : TE} {vs : List Nat} (h : wi σ H fun J H1 => LcR J g tt te vs σ H1 Q) : tLc wi g tt te vs σ H Q := h
/-- what may happen to the heap at a turn -/
structure Stp (H1 : Hp) (S : Hp → Hp → Prop) : Prop where
  s0 : S H1 H1
  tr : ∀ A B, S H1 A → S A B → S H1 B
  new : ∀ A p o, S H1 A → H1 p = none → S H1 (upd A p o)
  ki : ∀ A B, S A B → KI A B
  keep : ∀ A B p ys, H1 p = none → S H1 A → S A B → A p = some (.lst ys) → B p = some (.lst ys)
theorem stp_same (H1 : Hp) : Stp H1 Same := ⟨Same.refl _, fun _ _ a b => a.trans b, fun _ _ _ a n => same_mut a n, fun _ _ a => ki_same a, fun _ _ _ _ _ _ b e => b _ _ e⟩
def ButB (b l : Addr) : Hp → Hp → Prop := fun A B => But b A B ∧ Bag B b l
theorem stp_but {b l : Addr} {H1 : Hp} (h : Bag H1 b l) : Stp H1 (ButB b l) :=
  ⟨⟨But.ofSame h (Same.refl _), h⟩, fun _ _ a c => ⟨a.1.trans c.1, c.2⟩, fun _ _ _ a n => ⟨but_mut a.1 n, a.2.upd (h.ne1 n) (h.ne2 n)⟩, fun _ _ a => ki_but a.1, fun _ _ _ _ n _ c e => c.1.oth _ _ (h.ne1 n) e⟩
/-- the turns of a list comprehension without a test, over any things that come one by one -/
theorem A2.at {α β : Type} {R : α → β → Prop} : ∀ {xs : List α} {ys : List β}, A2 R xs ys → ∀ {i : Nat} {x : α}, xs[i]? = some x → ∃ y, ys[i]? = some y ∧ R x y
  | _, _, .cons a _, 0, _, e => ⟨_, rfl, by cases e; exact a⟩
  | _, _, .cons _ b, i + 1, _, e => A2.at b (i := i) e
theorem c_core {α : Type} {g : TG} {te : TE} {vs : List Nat} {H1 : Hp} {xs : List V} {zs : List α} {S : Hp → Hp → Prop} (St : Stp H1 S) (P : Hp → V → α → Prop) (R : Hp → α → V → Prop) (pm : ∀ A B x z, KI A B → P A x z → P B x z) (rm : ∀ A B z y, KI A B → R A z y → R B z y)
    (hx : A2 (P H1) xs zs) (hz : xs.length ≤ 1000) {J : It}
    (turn : ∀ x z A (N : V → Hp → Prop), z ∈ zs → P A x z → S H1 A → (∀ y B, S A B → R B z y → N y B) → g x (wipe σ vs) A fun σ2 B => wipe σ2 vs = wipe σ vs ∧ te σ2 B N)
    (fin : ∀ p ys A, S H1 A → H1 p = none → A p = some (.lst ys) → A2 (R A) zs ys → Q (.ref p) A)
    (run : ∀ (D : Addr) (Pv : Nat → Hp → Prop), Pv 0 (upd H1 D (.lst [])) → (∀ i H, Pv i H → S H1 H) →
      (∀ i x H, xs[i]? = some x → Pv i H → g x (wipe σ vs) H fun σ2 H2 => wipe σ2 vs = wipe σ vs ∧ tYes σ2 H2 fun b H3 => if b = true then te σ2 H3 fun y H4 => ∃ acc, H4 D = some (.lst acc) ∧ acc.length < sizeLine ∧ Pv (i + 1) (upd H4 D (.lst (acc ++ [y]))) else Pv (i + 1) H3) →
      (∀ H, Pv xs.length H → Q (.ref D) H) →
      ∃ W : Nat → Nat → Hp → Prop, (∃ m, W 0 m (upd H1 D (.lst []))) ∧ ∀ i m H, W i m H →
      (J.stop i H ∧ Q (.ref D) H) ∨ (J.go i H ∧ ∃ Nx : Hp → Prop, (∀ H', Nx H' → ∃ m', m' < m ∧ W (i + 1) m' H') ∧ ∀ x H', J.yld i H x H' → g x (wipe σ vs) H' fun σ2 H2 => wipe σ2 vs = wipe σ vs ∧ tYes σ2 H2 fun b H3 =>
        if b = true then te σ2 H3 fun y H4 => ∃ acc, H4 D = some (.lst acc) ∧ acc.length < sizeLine ∧ Nx (upd H4 D (.lst (acc ++ [y]))) else Nx H3)) :
    LcR J g tYes te vs σ H1 Q := by
  intro p hp
  have lx := hx.len
  refine run p (fun i A => i ≤ xs.length ∧ S H1 A ∧ ∃ ys, A p = some (.lst ys) ∧ A2 (R A) (zs.take i) ys) ⟨Nat.zero_le _, St.new _ _ _ St.s0 hp, [], upd_same, .nil⟩ (fun i A h => h.2.1) ?_ ?_
  · rintro i x A e ⟨hi, hs, ys, h1, h2⟩
    obtain ⟨z, ez, pz⟩ := hx.at e
    refine turn x z A _ (List.mem_of_getElem? ez) (pm _ _ _ _ (St.ki _ _ hs) pz) hs fun y B sb r => ?_
    have hlt : i < xs.length := (List.getElem?_eq_some_iff.mp e).1
    have e3 := St.keep _ _ _ _ hp hs sb h1
    have hl : ys.length = i := by rw [← h2.len, List.length_take]; omega
    have k : KI B (upd B p (.lst (ys ++ [y]))) := ki_mut e3 rfl
    refine ⟨ys, e3, L2.small1000 (by omega), by omega, St.new _ _ _ (St.tr _ _ hs sb) hp, ys ++ [y], upd_same, ?_⟩
    have et : zs.take (i + 1) = zs.take i ++ [z] := by rw [List.take_add_one, ez]; rfl
    rw [et]
    exact .snoc (rm _ _ _ _ k r) (h2.mono fun u v z => rm _ _ _ _ k (rm _ _ _ _ (St.ki _ _ sb) z))
  · rintro A ⟨_, hs, ys, h1, h2⟩
    rw [lx, List.take_length] at h2
    exact fin p ys A hs hp h1 h2
theorem c_list {α : Type} {a : Addr} {xs : List V} {zs : List α} {g : TG} {te : TE} {vs : List Nat} {S : Hp → Hp → Prop} (St : Stp H S) (P : Hp → V → α → Prop) (R : Hp → α → V → Prop) (pm : ∀ A B x z, KI A B → P A x z → P B x z) (rm : ∀ A B z y, KI A B → R A z y → R B z y)
    (hl : ∀ A, S H A → SqL K A a xs) (hx : A2 (P H) xs zs) (hz : xs.length ≤ 1000)
    (turn : ∀ x z A (N : V → Hp → Prop), z ∈ zs → P A x z → S H A → (∀ y B, S A B → R B z y → N y B) → g x (wipe σ vs) A fun σ2 B => wipe σ2 vs = wipe σ vs ∧ te σ2 B N)
    (fin : ∀ p ys A, S H A → H p = none → A p = some (.lst ys) → A2 (R A) zs ys → Q (.ref p) A) : LcR (Itl K a) g tYes te vs σ H Q :=
  c_core St P R pm rm hx hz turn fin fun _ Pv h0 hS hs hd => lc_list Pv h0 (fun i A _ p => hl A (hS i A p)) hs hd
/-- over a list of these, things of the heap laid alone -/
theorem c_listS {α : Type} {a : Addr} {xs : List V} {zs : List α} {g : TG} {te : TE} {vs : List Nat} (P : Hp → V → α → Prop) (R : Hp → α → V → Prop) (pm : ∀ A B x z, KI A B → P A x z → P B x z) (rm : ∀ A B z y, KI A B → R A z y → R B z y)
    (hs : SqL K H a xs) (hx : A2 (P H) xs zs) (hz : xs.length ≤ 1000)
    (turn : ∀ x z A (N : V → Hp → Prop), z ∈ zs → P A x z → Same H A → (∀ y B, Same A B → R B z y → N y B) → g x (wipe σ vs) A fun σ2 B => wipe σ2 vs = wipe σ vs ∧ te σ2 B N)
    (fin : ∀ p ys A, Same H A → H p = none → A p = some (.lst ys) → A2 (R A) zs ys → Q (.ref p) A) : LcR (Itl K a) g tYes te vs σ H Q :=
  c_list (stp_same H) P R pm rm (fun _ s => s.seq hs) hx hz turn fin
theorem a2_range {lo : Int} (n : Nat) : A2 (fun (x : V) (i : Nat) => x = .int (lo + i)) ((List.range n).map fun (i : Nat) => V.int (lo + i)) (List.range n) := by
  induction n with
  | zero => exact .nil
  | succ n ih => rw [List.range_succ, List.map_append]; exact A2.snoc (R := fun (x : V) (i : Nat) => x = .int (lo + i)) rfl ih
theorem c_range {lo : Int} {n : Nat} {g : TG} {te : TE} {vs : List Nat} {S : Hp → Hp → Prop} (St : Stp H S) (R : Hp → Nat → V → Prop) (rm : ∀ A B z y, KI A B → R A z y → R B z y) (hz : n ≤ 1000)
    (turn : ∀ (i : Nat) A (N : V → Hp → Prop), i < n → S H A → (∀ y B, S A B → R B i y → N y B) → g (.int (lo + i)) (wipe σ vs) A fun σ2 B => wipe σ2 vs = wipe σ vs ∧ te σ2 B N)
    (fin : ∀ p ys A, S H A → H p = none → A p = some (.lst ys) → A2 (R A) (List.range n) ys → Q (.ref p) A) : LcR (Itr lo n) g tYes te vs σ H Q := by
  have hl : ((List.range n).map fun (i : Nat) => V.int (lo + i)).length = n := by rw [List.length_map, List.length_range]
  refine c_core (xs := (List.range n).map fun (i : Nat) => V.int (lo + i)) (zs := List.range n) St (fun _ x i => x = .int (lo + i)) R (fun _ _ _ _ _ h => h) rm (a2_range n) (by omega) (fun x i A N hm e s k => ?_) fin fun _ Pv h0 hS hs hd => lc_range Pv h0 (fun i A hi p => hs i _ A (by rw [List.getElem?_map, List.getElem?_range hi]; rfl) p) (by rw [hl] at hd; exact hd)
  subst e
  exact turn i A N (List.mem_range.mp hm) s k
-- int(x), x is None
def rIntU : List V → Hp → VK → Prop := fun xs H Q => (∃ i, xs = [.int i] ∧ Q (.int i) H) ∨ ∃ k, xs = [.bl k] ∧ Q (.int (if k then 1 else 0)) H
theorem call_intU {X : Cx} : CallR X (.type "int") rIntU := call_int1
theorem s_intB {b : Bool} (h : Q (.int (if b = true then 1 else 0)) H) : rIntU [.bl b] H Q := .inr ⟨b, rfl, h⟩
theorem s_intT (h : Q (.int 1) H) : rIntU [.bl true] H Q := s_intB h
theorem s_intF (h : Q (.int 0) H) : rIntU [.bl false] H Q := s_intB h
theorem s_intBt {c : Prop} {inst : Decidable c} (h0 : c) (h : Q (.int 1) H) : rIntU [.bl (@decide c inst)] H Q := s_intB (by rw [decide_eq_true h0]; exact h)
theorem s_intBf {c : Prop} {inst : Decidable c} (h0 : ¬ c) (h : Q (.int 0) H) : rIntU [.bl (@decide c inst)] H Q := s_intB (by rw [decide_eq_false h0]; exact h)
theorem s_intI {i : Int} (h : Q (.int i) H) : rIntU [.int i] H Q := .inl ⟨i, rfl, h⟩
def rIsU : R2 := fun x y H Q => y = .non ∧ Q (.bl (decide (x = .non))) H
theorem op_isU {X : Cx} : OpR X (compareOp .Is) rIsU := op_isN
def rNotU : R2 := fun x y H Q => y = .non ∧ Q (.bl (!decide (x = .non))) H
theorem op_notU {X : Cx} : OpR X (compareOp .IsNot) rNotU := op_notN
theorem s_isNN (h : Q (.bl true) H) : rIsU .non .non H Q := ⟨rfl, by rw [decide_eq_true rfl]; exact h⟩
theorem s_isRN {a : Addr} (h : Q (.bl false) H) : rIsU (.ref a) .non H Q := ⟨rfl, by rw [decide_eq_false (fun z => by cases z)]; exact h⟩
theorem s_isTN {x : V} {ds : List PyData} (hx : Dt K H x (.tuple ds)) (h : Q (.bl false) H) : rIsU x .non H Q := by
  obtain ⟨a, xs, rfl, _⟩ := hx.tup_inv
  exact s_isRN h
theorem s_isFN {x : V} {r : Rat} (hx : Dt K H x (fr r)) (h : Q (.bl false) H) : rIsU x .non H Q := s_isTN (ds := [.int r.num, .int r.den]) hx h
theorem s_ntNN (h : Q (.bl false) H) : rNotU .non .non H Q := ⟨rfl, by rw [decide_eq_true rfl]; exact h⟩
theorem s_ntRN {a : Addr} (h : Q (.bl true) H) : rNotU (.ref a) .non H Q := ⟨rfl, by rw [decide_eq_false (fun z => by cases z)]; exact h⟩
theorem s_ntTN {x : V} {ds : List PyData} (hx : Dt K H x (.tuple ds)) (h : Q (.bl true) H) : rNotU x .non H Q := by
  obtain ⟨a, xs, rfl, _⟩ := hx.tup_inv
  exact s_ntRN h
theorem s_ntFN {x : V} {r : Rat} (hx : Dt K H x (fr r)) (h : Q (.bl true) H) : rNotU x .non H Q := s_ntTN (ds := [.int r.num, .int r.den]) hx h
theorem s_eqFt {x y : V} {d e : Rat} (hx : Dt K H x (fr d)) (hy : Dt K H y (fr e)) (h0 : d = e) (h : Q (.bl true) H) : rEqD K x y H Q := s_eqF hx hy (by rw [decide_eq_true h0]; exact h)
theorem s_eqFf {x y : V} {d e : Rat} (hx : Dt K H x (fr d)) (hy : Dt K H y (fr e)) (h0 : ¬ d = e) (h : Q (.bl false) H) : rEqD K x y H Q := s_eqF hx hy (by rw [decide_eq_false h0]; exact h)
theorem s_neFt {x y : V} {d e : Rat} (hx : Dt K H x (fr d)) (hy : Dt K H y (fr e)) (h0 : d = e) (h : Q (.bl false) H) : rNeD K x y H Q := s_neF hx hy (by rw [decide_eq_true h0]; exact h)
theorem s_neFf {x y : V} {d e : Rat} (hx : Dt K H x (fr d)) (hy : Dt K H y (fr e)) (h0 : ¬ d = e) (h : Q (.bl true) H) : rNeD K x y H Q := s_neF hx hy (by rw [decide_eq_false h0]; exact h)
theorem s_eqBB {i : Bool} (h : Q (.bl true) H) : rEqD K (.bl i) (.bl i) H Q := s_eqB (by rw [decide_eq_true rfl]; exact h)
theorem s_neBB {i : Bool} (h : Q (.bl false) H) : rNeD K (.bl i) (.bl i) H Q := s_neB (by rw [decide_eq_true rfl]; exact h)
theorem s_neFT (h : Q (.bl true) H) : rNeD K (.bl false) (.bl true) H Q := s_neB h
theorem s_neTF (h : Q (.bl true) H) : rNeD K (.bl true) (.bl false) H Q := s_neB h
theorem s_eqFT (h : Q (.bl false) H) : rEqD K (.bl false) (.bl true) H Q := s_eqB h
theorem s_eqTF (h : Q (.bl false) H) : rEqD K (.bl true) (.bl false) H Q := s_eqB h
theorem dt_zn {p : Addr} (n : H p = none) : Dt K (upd H p (.tup [.int 0, .int 1])) (.ref p) (fr 0) := dt_new (ds := [.int 0, .int 1]) (.cons (.int 0) (.cons (.int 1) .nil)) n
theorem dt_1n {p : Addr} (n : H p = none) : Dt K (upd H p (.tup [.int 1, .int 1])) (.ref p) (fr 1) := dt_new (ds := [.int 1, .int 1]) (.cons (.int 1) (.cons (.int 1) .nil)) n
theorem Dt.non_eq {v : V} (h : Dt K H v .none) : v = .non := by cases h; rfl
theorem s_cutI {c : Bool} {t u : TS} (js : List Nat) (I : (Nat → Option V) → Hp → Prop) (h : ∀ N' : St → Hp → Prop, (∀ σ' H', σ' = sets σ js (fun j => (σ'[j]?).join) → I (fun j => (σ'[j]?).join) H' → N' σ' H') → if c = true then t { D with nx := N' } σ H else u { D with nx := N' } σ H)
    (hN : ∀ f H', I f H' → D.nx (sets σ js f) H') : if c = true then t D σ H else u D σ H := h D.nx fun σ' H' e i => by rw [e]; exact hN _ H' i
theorem s_neNN (h : Q (.bl false) H) : rNeD K .non .non H Q := ⟨_, _, .non, .non, rfl, rfl, by simpa [PyData.eqv] using h⟩
theorem s_eqNN (h : Q (.bl true) H) : rEqD K .non .non H Q := ⟨_, _, .non, .non, rfl, rfl, by simpa [PyData.eqv] using h⟩
theorem eqv2 (a b c d : Rat) : PyData.eqv (.tuple [fr a, fr b]) (.tuple [fr c, fr d]) = decide (a = c ∧ b = d) := by
  have e : PyData.eqv (.tuple [fr a, fr b]) (.tuple [fr c, fr d]) = (PyData.eqv (fr a) (fr c) && (PyData.eqv (fr b) (fr d) && true)) := by simp only [PyData.eqv, PyData.eqvAll]
  rw [e, eqvfr, eqvfr]
  by_cases h1 : a = c <;> by_cases h2 : b = d <;> simp [h1, h2]
theorem s_eqP {x y : V} {a b c d : Rat} (hx : Dt K H x (.tuple [fr a, fr b])) (hy : Dt K H y (.tuple [fr c, fr d])) (h : Q (.bl (decide (a = c ∧ b = d))) H) : rEqD K x y H Q := s_eqD hx hy (sh2 a b) (sh2 c d) (by rw [eqv2]; exact h)
theorem s_neP {x y : V} {a b c d : Rat} (hx : Dt K H x (.tuple [fr a, fr b])) (hy : Dt K H y (.tuple [fr c, fr d])) (h : Q (.bl (!decide (a = c ∧ b = d))) H) : rNeD K x y H Q := s_neD hx hy (sh2 a b) (sh2 c d) (by rw [eqv2]; exact h)
theorem s_eqPf {x y : V} {a b c d : Rat} (hx : Dt K H x (.tuple [fr a, fr b])) (hy : Dt K H y (.tuple [fr c, fr d])) (n : ¬ (a = c ∧ b = d)) (h : Q (.bl false) H) : rEqD K x y H Q := s_eqP hx hy (by rw [decide_eq_false n]; exact h)
theorem s_nePf {x y : V} {a b c d : Rat} (hx : Dt K H x (.tuple [fr a, fr b])) (hy : Dt K H y (.tuple [fr c, fr d])) (n : ¬ (a = c ∧ b = d)) (h : Q (.bl true) H) : rNeD K x y H Q := s_neP hx hy (by rw [decide_eq_false n]; exact h)
/-- l.index(x) -/
theorem s_index {a : Addr} {vs : List V} {ds : List PyData} {y : V} {d : PyData} (j : Nat) {z : PyData} (hs : SqL K H a vs) (ha : DtAll K H vs ds) (hy : Dt K H y d) (sl : SeqAt.shaped (.list ds) = true) (sd : SeqAt.shaped d = true) (e : ds[j]? = some z) (ez : PyData.eqv z d = true)
    (no : ∀ (m : Nat) (z' : PyData), m < j → ds[m]? = some z' → PyData.eqv z' d = false) (h : Q (.int (j : Nat)) H) : rIndexD K (.ref a) [y] H Q :=
  ⟨a, y, d, ds, j, z, rfl, rfl, .lst hs ha.dp, hy.dp, sl, sd, e, ez, no, h⟩
theorem sh22 (a b c d : Rat) : SeqAt.shaped (.list [.tuple [fr a, fr b], .tuple [fr c, fr d]]) = true := rfl
theorem s_idx0 {p : Addr} {v0 v1 y : V} {a b c d : Rat} (hs : SqL K H p [v0, v1]) (h0 : Dt K H v0 (.tuple [fr a, fr b])) (h1 : Dt K H v1 (.tuple [fr c, fr d])) (hy : Dt K H y (.tuple [fr a, fr b])) (h : Q (.int 0) H) : rIndexD K (.ref p) [y] H Q :=
  s_index 0 hs (.cons h0 (.cons h1 .nil)) hy (sh22 a b c d) (sh2 a b) rfl (by rw [eqv2, decide_eq_true ⟨rfl, rfl⟩]) (fun m _ hm _ => absurd hm (Nat.not_lt_zero _)) h
theorem s_idx1 {p : Addr} {v0 v1 y : V} {a b c d : Rat} (hs : SqL K H p [v0, v1]) (h0 : Dt K H v0 (.tuple [fr a, fr b])) (h1 : Dt K H v1 (.tuple [fr c, fr d])) (hy : Dt K H y (.tuple [fr c, fr d])) (n : ¬ (a = c ∧ b = d)) (h : Q (.int 1) H) : rIndexD K (.ref p) [y] H Q :=
  s_index 1 hs (.cons h0 (.cons h1 .nil)) hy (sh22 a b c d) (sh2 c d) rfl (by rw [eqv2, decide_eq_true ⟨rfl, rfl⟩]) (fun m z' hm hz => by
    obtain rfl : m = 0 := by omega
    cases hz
    rw [eqv2, decide_eq_false n]) h
end
end Cr
namespace Cr
open PySem PySem.Spec PyProof.Rows L2
/-! ### tuples of any length taken apart and put together -/
section
variable {K : PySem.W.Frag} {σ : St} {H : Hp} {Q : VK} {D : Ends}
theorem DtAll.take {vs : List V} {ds : List PyData} (h : DtAll K H vs ds) : ∀ n : Nat, DtAll K H (vs.take n) (ds.take n) := by
  induction ds generalizing vs with
  | nil => cases h; intro n; rw [List.take_nil, List.take_nil]; exact .nil
  | cons d ds ih =>
    cases h with
    | cons h a =>
      intro n
      cases n with
      | zero => exact .nil
      | succ n => exact .cons h (ih a n)
theorem DtAll.drop {vs : List V} {ds : List PyData} (h : DtAll K H vs ds) : ∀ n : Nat, DtAll K H (vs.drop n) (ds.drop n) := by
  induction ds generalizing vs with
  | nil => cases h; intro n; rw [List.drop_nil, List.drop_nil]; exact .nil
  | cons d ds ih =>
    cases h with
    | cons h a =>
      intro n
      cases n with
      | zero => exact .cons h a
      | succ n => exact ih a n
theorem s_gtup {n : Nat} {t : TGs} {x : V} {ds : List PyData} {N : St → Hp → Prop} (hx : Dt K H x (.tuple ds)) (e : ds.length = n) (h : ∀ xs, DtAll K H xs ds → t xs σ H N) : gTup K n t x σ H N := by
  obtain ⟨a, xs, rfl, hs, ha⟩ := hx.tup_inv
  exact ⟨a, xs, rfl, hs, ha.len.trans e, h xs ha⟩
theorem s_gcons {t : TG} {u : TGs} {xs : List V} {d : PyData} {ds : List PyData} {N : St → Hp → Prop} (hx : DtAll K H xs (d :: ds)) (h : ∀ v r, Dt K H v d → DtAll K H r ds → t v σ H fun σ' H' => u r σ' H' N) : gCons t u xs σ H N := by
  cases hx with
  | cons a b => exact ⟨_, _, rfl, h _ _ a b⟩
theorem s_gnil {xs : List V} {N : St → Hp → Prop} (hx : DtAll K H xs []) (h : N σ H) : gNil xs σ H N := by
  cases hx
  exact ⟨rfl, h⟩
theorem cut_hi {α : Type} (xs : List α) {hi : Int} (h0 : 0 ≤ hi) : (xs.drop (HT.sIx xs.length 0 none)).take (HT.sIx xs.length xs.length (some hi) - HT.sIx xs.length 0 none) = xs.take hi.toNat := by
  obtain ⟨k, rfl⟩ : ∃ k : Nat, hi = (k : Int) := ⟨hi.toNat, by omega⟩
  rw [HT.sIx_nat, HT.sIx_none, List.drop_zero, Int.toNat_natCast, Nat.sub_zero]
  by_cases h : k ≤ xs.length
  · rw [Nat.min_eq_left h]
  · rw [Nat.min_eq_right (by omega), List.take_length, List.take_of_length_le (by omega)]
theorem cut_lo {α : Type} (xs : List α) {lo : Int} (h0 : 0 ≤ lo) : (xs.drop (HT.sIx xs.length 0 (some lo))).take (HT.sIx xs.length xs.length none - HT.sIx xs.length 0 (some lo)) = xs.drop lo.toNat := by
  obtain ⟨k, rfl⟩ : ∃ k : Nat, lo = (k : Int) := ⟨lo.toNat, by omega⟩
  rw [HT.sIx_nat, HT.sIx_none, Int.toNat_natCast]
  by_cases h : k ≤ xs.length
  · rw [Nat.min_eq_left h, List.take_of_length_le (by rw [List.length_drop]; omega)]
  · rw [Nat.min_eq_right (by omega), List.drop_eq_nil_of_le (Nat.le_refl _), List.drop_eq_nil_of_le (by omega), List.take_nil]
theorem cut_two {α : Type} (xs : List α) {lo hi : Int} (h0 : 0 ≤ lo) (h1 : 0 ≤ hi) : (xs.drop (HT.sIx xs.length 0 (some lo))).take (HT.sIx xs.length xs.length (some hi) - HT.sIx xs.length 0 (some lo)) = (xs.drop lo.toNat).take (hi.toNat - lo.toNat) := by
  obtain ⟨k, rfl⟩ : ∃ k : Nat, lo = (k : Int) := ⟨lo.toNat, by omega⟩
  obtain ⟨j, rfl⟩ : ∃ j : Nat, hi = (j : Int) := ⟨hi.toNat, by omega⟩
  rw [HT.sIx_nat, HT.sIx_nat, Int.toNat_natCast, Int.toNat_natCast]
  by_cases h : k ≤ xs.length
  · rw [Nat.min_eq_left h]
    by_cases g : j ≤ xs.length
    · rw [Nat.min_eq_left g]
    · rw [Nat.min_eq_right (by omega), List.take_of_length_le (by rw [List.length_drop]; omega), List.take_of_length_le (by rw [List.length_drop]; omega)]
  · rw [Nat.min_eq_right (show xs.length ≤ k by omega), List.drop_eq_nil_of_le (Nat.le_refl _), List.drop_eq_nil_of_le (by omega), List.take_nil, List.take_nil]
theorem cutV_hi (xs : List V) {hi : Int} (h0 : 0 ≤ hi) : cutV xs none (some hi) = xs.take hi.toNat := cut_hi xs h0
theorem cutV_lo (xs : List V) {lo : Int} (h0 : 0 ≤ lo) : cutV xs (some lo) none = xs.drop lo.toNat := cut_lo xs h0
theorem cutV_two (xs : List V) {lo hi : Int} (h0 : 0 ≤ lo) (h1 : 0 ≤ hi) : cutV xs (some lo) (some hi) = (xs.drop lo.toNat).take (hi.toNat - lo.toNat) := cut_two xs h0 h1
/-- t[:n], t[n:], t[n:m] of a tuple of data, never the whole -/
theorem s_slThi {x : V} {ds : List PyData} {hi : Int} (hx : Dt K H x (.tuple ds)) (h0 : 0 ≤ hi) (h1 : hi < ds.length) (h : ∀ v H', Same H H' → Dt K H' v (.tuple (ds.take hi.toNat)) → Q v H') : rSlU K x none (some hi) H Q := by
  obtain ⟨a, xs, rfl, hs, ha⟩ := hx.tup_inv
  have e := ha.len
  refine .inr ⟨a, xs, rfl, hs, fun z => ?_, fun p hp => h _ _ (same_new hp) ?_⟩
  · obtain ⟨k, rfl⟩ : ∃ k : Nat, hi = (k : Int) := ⟨hi.toNat, by omega⟩
    have z2 := z.2
    rw [HT.sIx_nat] at z2
    omega
  · rw [cutV_hi xs h0]
    exact dt_new (ha.take _) hp
theorem s_slTlo {x : V} {ds : List PyData} {lo : Int} (hx : Dt K H x (.tuple ds)) (h0 : 0 < lo) (h1 : 0 < ds.length) (h : ∀ v H', Same H H' → Dt K H' v (.tuple (ds.drop lo.toNat)) → Q v H') : rSlU K x (some lo) none H Q := by
  obtain ⟨a, xs, rfl, hs, ha⟩ := hx.tup_inv
  have e := ha.len
  refine .inr ⟨a, xs, rfl, hs, fun z => ?_, fun p hp => h _ _ (same_new hp) ?_⟩
  · obtain ⟨k, rfl⟩ : ∃ k : Nat, lo = (k : Int) := ⟨lo.toNat, by omega⟩
    have z1 := z.1
    rw [HT.sIx_nat] at z1
    omega
  · rw [cutV_lo xs (by omega)]
    exact dt_new (ha.drop _) hp
theorem s_slT2 {x : V} {ds : List PyData} {lo hi : Int} (hx : Dt K H x (.tuple ds)) (h0 : 0 < lo) (h1 : 0 ≤ hi) (h2 : 0 < ds.length) (h : ∀ v H', Same H H' → Dt K H' v (.tuple ((ds.drop lo.toNat).take (hi.toNat - lo.toNat))) → Q v H') : rSlU K x (some lo) (some hi) H Q := by
  obtain ⟨a, xs, rfl, hs, ha⟩ := hx.tup_inv
  have e := ha.len
  refine .inr ⟨a, xs, rfl, hs, fun z => ?_, fun p hp => h _ _ (same_new hp) ?_⟩
  · obtain ⟨k, rfl⟩ : ∃ k : Nat, lo = (k : Int) := ⟨lo.toNat, by omega⟩
    have z1 := z.1
    rw [HT.sIx_nat] at z1
    omega
  · rw [cutV_two xs (by omega) h1]
    exact dt_new ((ha.drop _).take _) hp
/-- tuple(xs), list(t) -/
theorem s_tupL {p : Addr} {ys : List V} {ds : List PyData} (hs : SqL K H p ys) (ha : DtAll K H ys ds) (h : ∀ v H', Same H H' → Dt K H' v (.tuple ds) → Q v H') : rTupU K [.ref p] H Q :=
  ⟨p, ys, rfl, .inl ⟨hs, fun l hl => h _ _ (same_new hl) (dt_new ha hl)⟩⟩
theorem s_tupT {x : V} {ds : List PyData} (hx : Dt K H x (.tuple ds)) (h : Q x H) : rTupU K [x] H Q := by
  obtain ⟨a, xs, rfl, hs, ha⟩ := hx.tup_inv
  exact ⟨a, xs, rfl, .inr ⟨hs, h⟩⟩
theorem s_listT {x : V} {ds : List PyData} (hx : Dt K H x (.tuple ds)) (h : ∀ l ys H', Same H H' → H l = none → H' l = some (.lst ys) → DtAll K H' ys ds → Q (.ref l) H') : rListU K [x] H Q := by
  obtain ⟨a, xs, rfl, hs, ha⟩ := hx.tup_inv
  exact ⟨a, xs, rfl, .inr hs, fun l hl => h l xs _ (same_new hl) hl upd_same (ha.mono (kt_new hl))⟩
theorem s_addTG {x y : V} {ds es : List PyData} (hx : Dt K H x (.tuple ds)) (hy : Dt K H y (.tuple es)) (n1 : ds ≠ []) (l : ds.length + es.length ≤ 1000) (h : ∀ v H', Same H H' → Dt K H' v (.tuple (ds ++ es)) → Q v H') : rAddU K x y H Q := by
  by_cases n2 : es = []
  · subst n2
    have hx2 := hx
    obtain ⟨a, xs, rfl, hs, ha⟩ := hx.tup_inv
    obtain ⟨b, ys, rfl, ht, hb⟩ := hy.tup_inv
    have e1 := ha.len
    have e2 := hb.len
    simp only [List.length_nil] at l e2
    obtain rfl : ys = [] := List.length_eq_zero_iff.mp e2
    refine .inr (.inr (.inr ⟨a, b, xs, [], rfl, rfl, hs, ht, fun z => n1 (by subst z; exact List.length_eq_zero_iff.mp e1.symm), Nat.le_of_lt (L2.small1000 (by simp only [List.length_nil]; omega)), fun _ => h _ _ (Same.refl _) (by rw [List.append_nil]; exact hx2), fun z => absurd rfl z⟩))
  · exact s_addT hx hy n1 n2 l h
theorem s_ixT6 {x : V} {d0 d1 d2 d3 d4 d5 d6 : PyData} {ds : List PyData} (hx : Dt K H x (.tuple (d0 :: d1 :: d2 :: d3 :: d4 :: d5 :: d6 :: ds))) (h : ∀ v, Dt K H v d6 → Q v H) : rIx K x (.int 6) H Q := s_ixT hx (atI_nat (j := 6) rfl) h
theorem s_ixT7 {x : V} {d0 d1 d2 d3 d4 d5 d6 d7 : PyData} {ds : List PyData} (hx : Dt K H x (.tuple (d0 :: d1 :: d2 :: d3 :: d4 :: d5 :: d6 :: d7 :: ds))) (h : ∀ v, Dt K H v d7 → Q v H) : rIx K x (.int 7) H Q := s_ixT hx (atI_nat (j := 7) rfl) h
theorem s_ixT8 {x : V} {d0 d1 d2 d3 d4 d5 d6 d7 d8 : PyData} {ds : List PyData} (hx : Dt K H x (.tuple (d0 :: d1 :: d2 :: d3 :: d4 :: d5 :: d6 :: d7 :: d8 :: ds))) (h : ∀ v, Dt K H v d8 → Q v H) : rIx K x (.int 8) H Q := s_ixT hx (atI_nat (j := 8) rfl) h
theorem s_ixT9 {x : V} {d0 d1 d2 d3 d4 d5 d6 d7 d8 d9 : PyData} {ds : List PyData} (hx : Dt K H x (.tuple (d0 :: d1 :: d2 :: d3 :: d4 :: d5 :: d6 :: d7 :: d8 :: d9 :: ds))) (h : ∀ v, Dt K H v d9 → Q v H) : rIx K x (.int 9) H Q := s_ixT hx (atI_nat (j := 9) rfl) h
theorem s_ixT10 {x : V} {d0 d1 d2 d3 d4 d5 d6 d7 d8 d9 d10 : PyData} {ds : List PyData} (hx : Dt K H x (.tuple (d0 :: d1 :: d2 :: d3 :: d4 :: d5 :: d6 :: d7 :: d8 :: d9 :: d10 :: ds))) (h : ∀ v, Dt K H v d10 → Q v H) : rIx K x (.int 10) H Q := s_ixT hx (atI_nat (j := 10) rfl) h
theorem last10 {α : Type} {a b c d e f g i j k : α} : [a, b, c, d, e, f, g, i, j, k].getLast? = some k := rfl
theorem s_ixTm1 {x : V} {ds : List PyData} {d : PyData} (hx : Dt K H x (.tuple ds)) (e : ds.getLast? = some d) (h : ∀ v, Dt K H v d → Q v H) : rIx K x (.int (-1)) H Q := by
  refine s_ixT hx (i := -1) ?_ h
  have hl : 0 < ds.length := by
    cases ds with
    | nil => cases e
    | cons _ _ => simp
  rw [List.getLast?_eq_getElem?] at e
  unfold atI ixN
  rw [if_neg (by omega)]
  rw [if_pos (by omega)]
  show ds[((-1 : Int) + ds.length).toNat]? = some d
  rw [← e]
  congr 1
  omega
theorem s_truL {p : Addr} {xs : List V} {N : Bool → Prop} (hs : SqL K H p xs) (h : N (!xs.isEmpty)) : ∃ k, TruV K (.ref p) H k ∧ N k := ⟨_, .inl ⟨xs, hs, rfl⟩, h⟩
theorem s_isBb {b : Bool} (h : Q (.bl true) H) : rIsB (.bl b) (.bl b) H Q := ⟨b, b, rfl, rfl, by rw [decide_eq_true rfl]; exact h⟩
theorem s_ntBb {b : Bool} (h : Q (.bl false) H) : rNotB (.bl b) (.bl b) H Q := ⟨b, b, rfl, rfl, by rw [decide_eq_true rfl]; exact h⟩
theorem s_ixLm1 {a : Addr} {xs : List V} {v : V} (hs : SqL K H a xs) (e : xs.getLast? = some v) (h : Q v H) : rIx K (.ref a) (.int (-1)) H Q := by
  refine s_ixL hs (i := -1) ?_ h
  have hl : 0 < xs.length := by
    cases xs with
    | nil => cases e
    | cons _ _ => simp
  rw [List.getLast?_eq_getElem?] at e
  unfold atI ixN
  rw [if_neg (by omega)]
  rw [if_pos (by omega)]
  show xs[((-1 : Int) + xs.length).toNat]? = some v
  rw [← e]
  congr 1
  omega
theorem ixN_nat {n j : Nat} (h : j < n) : ixN n (j : Int) = some j := by
  unfold ixN
  rw [if_pos (by omega), if_pos (by omega)]
  rfl
theorem DtAll.set {vs : List V} {ds : List PyData} {v : V} {d : PyData} (h : DtAll K H vs ds) (hv : Dt K H v d) : ∀ n : Nat, DtAll K H (vs.set n v) (ds.set n d) := by
  induction ds generalizing vs with
  | nil => cases h; intro n; exact .nil
  | cons d ds ih =>
    cases h with
    | cons h a =>
      intro n
      cases n with
      | zero => exact .cons hv a
      | succ n => exact .cons h (ih a n)
theorem s_isBl {a b : Bool} (h : Q (.bl (decide (a = b))) H) : rIsB (.bl a) (.bl b) H Q := ⟨a, b, rfl, rfl, h⟩
theorem s_ntBl {a b : Bool} (h : Q (.bl (!decide (a = b))) H) : rNotB (.bl a) (.bl b) H Q := ⟨a, b, rfl, rfl, h⟩
end
end Cr
namespace Cr
open PySem PySem.Spec PyProof.Rows L2
/-! ### texts: signs, names -/
def sign (c : Nat) : Str := ⟨#[c]⟩
/-- a name: one to twelve small letters -/
def Nm (x : Str) : Prop := 1 ≤ x.cps.size ∧ x.cps.size ≤ 12 ∧ ∀ c, c ∈ x.cps.toList → 97 ≤ c ∧ c ≤ 122
theorem str_app (a b : Str) : a ++ b = ⟨a.cps ++ b.cps⟩ := rfl
theorem join_signs : ∀ cs : List Nat, Txt.join ("" : Str) (cs.map sign) = ⟨cs.toArray⟩ := by
  intro cs
  show Builtin.Str.glued _ _ = _
  rw [StrLaws.glued_eq_join]
  have e : (("" : String) : Str) = ⟨#[]⟩ := by decide +kernel
  rw [e]
  induction cs with
  | nil => rfl
  | cons c cs ih =>
    cases cs with
    | nil => rfl
    | cons d r =>
      show sign c ++ ⟨#[]⟩ ++ Str.join ⟨#[]⟩ (sign d :: r.map sign) = _
      rw [show sign d :: r.map sign = (d :: r).map sign from rfl, ih]
      simp [str_app, sign]
def rJoinU (K : PySem.W.Frag) : V → List V → Hp → VK → Prop := fun x xs H Q => ∃ a p, ∃ ys : List Str, x = .str a ∧ xs = [.ref p] ∧ (SqL K H p (ys.map V.str) ∨ SqT K H p (ys.map V.str)) ∧ (ys.map (·.length)).sum + ys.length * a.length ≤ 16777216 ∧ Q (.str (Txt.join a ys)) H
theorem pe_joinU {X : Cx} {o e : Expr} {to te : TE} {apos pos : Pos} (ho : PE X o to) (he : PE X e te) (hs : starEach [e] X.env = [(false, eval e X.env)] := by rfl) (hbase : attributeBase o "join" X.env (eval o X.env) = eval o X.env := by rfl) (hline : (apos.endLine == pos.line) = true := by rfl) :
    PE X (.Call (.Attribute o "join" apos) [e] [] pos) (tM1 (rJoinU X.K) to te) := pe_join ho he hs hbase hline
theorem small_sum : ∀ ys : List Str, (∀ y, y ∈ ys → y.length ≤ 1000) → (ys.map (·.length)).sum ≤ 1000 * ys.length
  | [], _ => Nat.le_refl _
  | y :: ys, h => by
    have h1 := h y List.mem_cons_self
    have h2 := small_sum ys fun z hz => h z (List.mem_cons_of_mem _ hz)
    rw [List.map_cons, List.sum_cons, List.length_cons]
    omega
theorem abc_list : (("abcdefghijklmnopqrstuvwxyz" : String) : Str).cps.toList = (List.range 26).map (97 + ·) := by decide +kernel
theorem abch_cps : (("abcdefgh" : String) : Str).cps = #[97, 98, 99, 100, 101, 102, 103, 104] := by decide +kernel
def rInsertU : V → List V → Hp → VK → Prop := fun x vs H Q => ∃ (l : Addr) (xs : List V) (i : Int) (y : V), x = .ref l ∧ vs = [.int i, y] ∧ H l = some (.lst xs) ∧ xs.length < sizeLine ∧ 0 ≤ i ∧ i < 2 ^ 63 ∧ Q .non (upd H l (.lst (xs.take i.toNat ++ [y] ++ xs.drop i.toNat)))
theorem mt_insertU {X : Cx} : MtR X "list.insert" rInsertU := mt_insert
def TaQ (x : V) (N : Prop) : Prop := (∃ a, x = V.str a) ∧ N
section
variable {K : PySem.W.Frag} {σ : St} {H : Hp} {Q : VK} {D : Ends}
theorem s_m1 {r : V → List V → Hp → VK → Prop} {to te : TE} (h : to σ H fun x H1 => TaQ x (te σ H1 fun y H2 => r x [y] H2 Q)) : tM1 r to te σ H Q := h
theorem s_isStr {a : Str} {N : Prop} (h : N) : TaQ (.str a) N := ⟨⟨a, rfl⟩, h⟩
theorem s_join {p : Addr} {a : Str} {ys : List Str} (hs : SqL K H p (ys.map V.str)) (hl : (ys.map (·.length)).sum + ys.length * a.length ≤ 16777216) (h : Q (.str (Txt.join a ys)) H) : rJoinU K (.str a) [.ref p] H Q := ⟨a, p, ys, rfl, rfl, .inl hs, hl, h⟩
theorem s_abc {k : Int} (h0 : 0 ≤ k) (h1 : k < 26) (h : ∀ c, 97 ≤ c → c ≤ 122 → Q (.str (sign c)) H) : rIx K (.str ("abcdefghijklmnopqrstuvwxyz" : String)) (.int k) H Q := by
  obtain ⟨j, rfl⟩ : ∃ j : Nat, k = (j : Int) := ⟨k.toNat, by omega⟩
  refine s_ixS (c := 97 + j) (by decide +kernel) (atI_nat ?_) (h _ (by omega) (by omega))
  rw [abc_list, List.getElem?_map, List.getElem?_range (by omega)]
  rfl
theorem eqV_str (x y : Str) : eqV (.str x) (.str y) = decide (x = y) := by
  show (x == y) = _
  by_cases h : x = y
  · subst h; simp
  · rw [decide_eq_false h]; exact beq_eq_false_iff_ne.mpr h
theorem inV_strs (x : Str) : ∀ ys : List Str, inV (.str x) (ys.map V.str) = decide (x ∈ ys)
  | [] => rfl
  | y :: ys => by
    have ih := inV_strs x ys
    unfold inV at ih ⊢
    rw [List.map_cons, List.any_cons, ih, eqV_str]
    by_cases h : y = x
    · subst h; simp
    · rw [decide_eq_false h, Bool.false_or]
      by_cases g : x ∈ ys
      · rw [decide_eq_true g, decide_eq_true (List.mem_cons_of_mem _ g)]
      · rw [decide_eq_false g, decide_eq_false (fun z => (List.mem_cons.mp z).elim (fun e => h e.symm) g)]
theorem flat_strs (ys : List Str) : (ys.map V.str).all flatV = true := by
  rw [List.all_map, List.all_eq_true]
  intro _ _
  rfl
theorem s_inS {p : Addr} {x : Str} {ys : List Str} (hs : SqL K H p (ys.map V.str)) (h : Q (.bl (decide (x ∈ ys))) H) : rIn K false (.str x) (.ref p) H Q :=
  ⟨p, _, rfl, .inl hs, rfl, flat_strs ys, by rw [inV_strs]; exact h⟩
theorem s_ntInS {p : Addr} {x : Str} {ys : List Str} (hs : SqL K H p (ys.map V.str)) (h : Q (.bl (!decide (x ∈ ys))) H) : rIn K true (.str x) (.ref p) H Q :=
  ⟨p, _, rfl, .inl hs, rfl, flat_strs ys, by rw [inV_strs]; exact h⟩
def takeS (x : Str) (n : Nat) : Str := ⟨(x.cps.toList.take n).toArray⟩
def dropS (x : Str) (n : Nat) : Str := ⟨(x.cps.toList.drop n).toArray⟩
theorem s_slShi {x : Str} {hi : Int} (l : x.length ≤ sizeLine) (h0 : 0 ≤ hi) (h : Q (.str (takeS x hi.toNat)) H) : rSlS (.str x) none (some hi) H Q :=
  ⟨x, rfl, l, by
    unfold cutS
    rw [show x.length = x.cps.toList.length from rfl, cut_hi _ h0]
    exact h⟩
theorem s_slSlo {x : Str} {lo : Int} (l : x.length ≤ sizeLine) (h0 : 0 ≤ lo) (h : Q (.str (dropS x lo.toNat)) H) : rSlS (.str x) (some lo) none H Q :=
  ⟨x, rfl, l, by
    unfold cutS
    rw [show x.length = x.cps.toList.length from rfl, cut_lo _ h0]
    exact h⟩
theorem f_str {x : Str} {g : TG} {tb : TS} (Pv : Nat → St → Hp → Prop) (h0 : Pv 0 σ H)
    (hs : ∀ i c σ H, x.cps[i]? = some c → Pv i σ H → g (.str (sign c)) σ H fun σ2 H2 => tb { D with nx := Pv (i + 1), ct := Pv (i + 1), bk := D.nx } σ2 H2) (hd : ∀ σ H, Pv x.cps.size σ H → D.nx σ H) : ForR (Its x) g tb D σ H := by
  refine ⟨fun i m σ' H' => m = x.cps.size - i ∧ i ≤ x.cps.size ∧ Pv i σ' H', ⟨_, rfl, Nat.zero_le _, h0⟩, ?_⟩
  rintro i m σ' H' ⟨rfl, hi, p⟩
  by_cases hlt : i < x.cps.size
  · refine .inr ⟨hlt, Pv (i + 1), fun σ2 H2 p' => ⟨x.cps.size - (i + 1), by omega, rfl, hlt, p'⟩, fun v H2 y => ?_⟩
    obtain ⟨e, c, ec, ev⟩ := y
    subst e ev
    exact hs i c _ _ ec p
  · have e : i = x.cps.size := by omega
    subst e
    exact .inl ⟨Nat.le_refl _, hd _ _ p⟩
theorem s_iStr {te : TE} {R : It → Hp → Prop} (h : te σ H fun v H1 => ∃ x, v = .str x ∧ R (Its x) H1) : iStr te σ H R := h
theorem s_isIts {x : Str} {N : Str → Prop} (h : N x) : ∃ y, V.str x = .str y ∧ N y := ⟨x, rfl, h⟩
end
end Cr
namespace Cr
open PySem PySem.Spec PyProof.Rows L2
/-! ### dicts; fields and methods of small instances -/
def GetA (x : V) (H : Hp) (N : Addr → Prop) : Prop := ∃ a, x = .ref a ∧ IsD H a ∧ N a
def GetB (a : Addr) (y : V) (H : Hp) (N : Option V → Prop) : Prop := ∃ o, DGet H a y o ∧ N o
def PutQ (x y v : V) (H : Hp) (N : Hp → Prop) : Prop := ∃ a H4, x = .ref a ∧ DPut H a y v H4 ∧ N H4
section
variable {K : PySem.W.Frag} {σ : St} {H : Hp} {Q : VK} {D : Ends}
theorem s_dget2 {td ty tx : TE} (h : td σ H fun x H1 => GetA x H1 fun a => ty σ H1 fun y H2 => tx σ H2 fun z H3 => GetB a y H3 fun o => Q (o.getD z) H3) : tDGet2 td ty tx σ H Q := h
theorem s_dput {td ty tv : TE} (h : tv σ H fun v H1 => td σ H1 fun x H2 => ty σ H2 fun y H3 => PutQ x y v H3 fun H4 => D.nx σ H4) : sDPut td ty tv D σ H := h
theorem s_getA {d : Addr} {kvs : List (Key × V)} {N : Addr → Prop} (hd : H d = some (.dK kvs)) (h : N d) : GetA (.ref d) H N := ⟨d, rfl, .inl ⟨kvs, .inl hd⟩, h⟩
theorem s_getBS {d : Addr} {kvs : List (Key × V)} {s : Str} {N : Option V → Prop} (hd : H d = some (.dK kvs)) (h : N (valV kvs (.inr s))) : GetB d (.str s) H N := ⟨_, DGet.k (k := .inr s) hd, h⟩
theorem s_getBI {d : Addr} {kvs : List (Key × V)} {i : Int} {N : Option V → Prop} (hd : H d = some (.dK kvs)) (h : N (valV kvs (.inl i))) : GetB d (.int i) H N := ⟨_, DGet.k (k := .inl i) hd, h⟩
theorem s_putS {d : Addr} {kvs : List (Key × V)} {s : Str} {v : V} {N : Hp → Prop} (hd : H d = some (.dK kvs)) (hl : kvs.length < sizeLine) (h : N (upd H d (.dK (putK kvs (.inr s) v)))) : PutQ (.ref d) (.str s) v H N := ⟨d, _, rfl, DPut.k (k := .inr s) hd hl, h⟩
theorem s_dnewK (h : ∀ p, H p = none → Q (.ref p) (upd H p (.dK []))) : tDNewK σ H Q := h
theorem s_eqII {i : Int} (h : Q (.bl true) H) : rEqD K (.int i) (.int i) H Q := s_eqI (by rw [decide_eq_true rfl]; exact h)
theorem s_neII {i : Int} (h : Q (.bl false) H) : rNeD K (.int i) (.int i) H Q := s_neI (by rw [decide_eq_true rfl]; exact h)
theorem s_fld1 {a : Addr} {C dx : Addr} {f : Str} {v : V} (hx : H a = some (.ins C dx [(f, v)])) (c : Cls K C) (n : NoAttr K C f) (q : Q v H) : FldQ K (.ref a) f H Q :=
  ⟨a, C, dx, _, v, rfl, hx, c, n, by rw [List.lookup_cons, beq_self_eq_true], q⟩
theorem s_meth1 {C a dx : Addr} {f mn : Str} {v : V} {N : Prop} (hx : H a = some (.ins C dx [(f, v)])) (e : (mn == f) = false) (n : N) : MethQ C mn (.ref a) H N :=
  ⟨a, dx, _, rfl, hx, by rw [List.lookup_cons, e]; rfl, n⟩


end
/-- all but what stands at d stays, a dict or a list stands at d -/
structure Oth (d : Addr) (H H' : Hp) : Prop where
  oth : ∀ a o, a ≠ d → H a = some o → H' a = some o
  mu : ∃ o, H d = some o ∧ isZ o = false
theorem ki_oth {d : Addr} {H H' : Hp} (s : Oth d H H') : KI H H' := fun a o h t => s.oth a o (fun z => by
  subst z
  obtain ⟨u, e, k⟩ := s.mu
  rw [e] at h
  cases h
  rw [k] at t
  cases t) h
theorem ne_new {H : Hp} {p q : Addr} {o : HO} (h : upd H p o q = none) : q ≠ p := fun e => by rw [e, upd_same] at h; cases h
theorem free_upd {H : Hp} {p q : Addr} {o : HO} (h : upd H p o q = none) : H q = none := by
  have n := ne_new h
  rw [upd_ne n] at h
  exact h
theorem Oth.bag {d b l : Addr} {H H' : Hp} (s : Oth d H H') (n1 : d ≠ b) (n2 : d ≠ l) (h : Bag H b l) : Bag H' b l := by
  obtain ⟨ns, p, r, z, h1, h2, h3⟩ := h
  exact ⟨ns, p, r, z, s.oth _ _ n1.symm h1, s.oth _ _ n2.symm h2, h3⟩
end Cr
namespace Cr
open PySem PySem.Spec PyProof.Rows L2
/-! ### list(d.values()) -/
def DVals (H : Hp) (a : Addr) (vs : List V) : Prop := (∃ kvs : List (Key × V), H a = some (.dK kvs) ∧ vs = kvs.map (·.2)) ∨ ∃ kvs : List (List Key × V), H a = some (.dT kvs) ∧ vs = kvs.map (·.2)
def tListVals (td : TE) : TE := fun σ H Q => td σ H fun x H1 => ∃ a vs, x = V.ref a ∧ DVals H1 a vs ∧ ∀ l, H1 l = none → Q (.ref l) (upd H1 l (.lst vs))
theorem dvals_raw {X : Cx} {pins : List (Addr × Obj)} {σ : St} {H : Hp} {s : Shared} {a : Addr} {vs : List V} (I : Inv X pins σ H s) (h : DVals H a vs) :
    ∃ es ep, s.heap.DictRaw a es ep ∧ (a == sysModules) = false ∧ vs.length ≤ sizeLine ∧ es.size = vs.length ∧ ∀ i (hi : i < es.size), ∃ v, vs[i]? = some v ∧ RelV v es[i].val := by
  rcases h with ⟨kvs, e, rfl⟩ | ⟨kvs, e, rfl⟩
  · obtain ⟨hz, hs, ks, rel, dof⟩ := dk_of I.hok e
    obtain ⟨es, ep, hr, hsz, hv⟩ := Heap.DictOf.raw dof
    have hl := KV.length rel
    refine ⟨es, ep, hr, hs, by rw [List.length_map]; exact hz, by rw [List.length_map, hsz, hl], fun i hi => ?_⟩
    have hi2 : i < ks.length := by omega
    obtain ⟨x, h1, h2⟩ := KV.at' rel (i := i) (k := ks[i].1) (v := ks[i].2) (List.getElem?_eq_getElem hi2)
    refine ⟨x, by rw [List.getElem?_map, h1]; rfl, ?_⟩
    rw [(hv i hi ks[i].1 ks[i].2 (List.getElem?_eq_getElem hi2)).2]
    exact h2
  · obtain ⟨hz, hs, xs, rel, dof⟩ := dt_of I.hok e
    obtain ⟨es, ep, hr, hsz, hv⟩ := Heap.DictOfH.raw dof
    have hl : kvs.length = xs.length := Paired.length rel
    have at_ : ∀ {kvs : List (List Key × V)} {xs : List (List Key × Addr × Value)}, L2.KT H kvs xs → ∀ {i : Nat} {y : List Key × Addr × Value}, xs[i]? = some y → ∃ p, kvs[i]? = some p ∧ RelV p.2 y.2.2 := by
      intro kvs xs r
      induction r with
      | nil => intro i y e; simp at e
      | cons hp t ih =>
        intro i y e
        cases i with
        | zero => simp at e; subst e; exact ⟨_, rfl, hp.2.2⟩
        | succ i => simp at e; exact ih e
    refine ⟨es, ep, hr, hs, by rw [List.length_map]; exact hz, by rw [List.length_map, hsz, hl], fun i hi => ?_⟩
    obtain ⟨y, h1, _, h3, _⟩ := hv i hi
    obtain ⟨p, h4, h5⟩ := at_ rel h1
    refine ⟨p.2, by rw [List.getElem?_map, h4]; rfl, ?_⟩
    rw [h3]
    exact h5
section
variable {X : Cx} {o : Expr} {p pos apos mpos : Pos} {td : TE}
theorem pe_listVals (hc : X.calm = true) (hg : Gl X "list") (hm : X.mg "list" = none) (hd : PE X o td) (hbase : attributeBase o "values" X.env (eval o X.env) = eval o X.env := by rfl) (hline : (apos.endLine == mpos.line) = true := by rfl)
    (hse : starEach [Expr.Call (.Attribute o "values" apos) [] [] mpos] X.env = [(false, eval (Expr.Call (.Attribute o "values" apos) [] [] mpos) X.env)] := by rfl) :
    PE X (.Call (.Name "list" p) [.Call (.Attribute o "values" apos) [] [] mpos] [] pos) (tListVals td) := by
  refine ⟨fun pins s σ H Q I h => ?_⟩
  refine wpAny_Call_Name_kw (ld_blt I hg hm (u := .type "list") (by first | rfl | decide +kernel) ?_ (by first | decide +kernel | decide) (by first | decide +kernel | decide))
  rw [hse]
  refine PySem.callWith_type1 (wpAny_Call_method0_late hbase hline (thn (hd.run pins s σ H _ I h) fun v s1 ⟨x, H1, I1, r1, a, vs, ex, ha, q⟩ => ?_))
  subst ex
  obtain rfl : v = Value.ref a := r1
  obtain ⟨es, ep, hr, hsys, hz, hsz, hv⟩ := dvals_raw I1 ha
  obtain ⟨ob, ho, hx, hdat⟩ := id hr
  refine ⟨"dict", "dict.values", F.plainAttrs_dict, F.slot_dict_values, F.type_dict_values, ⟨ob, ho, hx.1⟩, fun b e => ?_, Calls.callWith_builtin rfl (PySem.evalArgs_none ?_)⟩
  · cases e
    exact ⟨ob, ho, hx.2.1⟩
  refine call_meetsIn F.slot_dict_values ⟨ob, ho, hx.1⟩ F.entry_dict_values (F.args_dict_values_1 _) (meets_dict_values_raw a hsys) ⟨⟨es, ep, hr⟩, ?_⟩
  have k1 : ∀ b u, s1.heap.get? b = some u → (s1.heap.push { cls := .type "dict_values", data := .fields #[.ref a] }).get? b = some u := fun b u e => Heap.get?_push_of_some _ e
  refine PySem.W.kdl_call (KdlSrc.rawValues (r := s1.heap.objs.size) (d := a) (es := es) (ep := ep)) (I1.ok.hd hc) ⟨⟨_, Heap.get?_push_size _ rfl, rfl, rfl⟩, ⟨ob, k1 _ _ ho, hx, hdat⟩⟩ (by omega) fun h' tk acc' c' hkeep hS hacc => ?_
  have hsz1 : s1.heap.objs.size ≤ (s1.heap.push { cls := .type "dict_values", data := .fields #[.ref a] }).objs.size := by rw [Heap.size_push]; exact Nat.le_succ _
  refine ⟨.ref _, upd H1 _ (.lst vs), I1.laid (t' := tk) (fun b u e => hkeep b u (k1 b u e)) hsz1 (show ObjOk X.prog X.w _ _ _ (.lst vs) from ⟨hz, acc'.toList, c', ?_, ?_⟩), rfl, q _ (I1.hok.fresh hsz1)⟩
  · refine vals_of_at (by have h1 := hacc.1; rw [show acc'.toList.length = acc'.size by simp]; omega) fun j x u h1 h2 => ?_
    obtain ⟨hi, e2⟩ := hacc.2 j u (by rw [← Array.getElem?_toList]; exact h2)
    obtain ⟨v, h3, h4⟩ := hv j hi
    rw [h1] at h3
    cases h3
    rw [e2]
    exact h4
  · rw [Array.toArray_toList]
    exact hS
end
end Cr
namespace Cr
open PySem PySem.Spec PyProof.Rows L2
/-- a fraction's own tuple, not frozen, no constant -/
def Fz (H : Hp) (v : V) (r : Rat) : Prop := ∃ a, v = .ref a ∧ H a = some (.tup [.int r.num, .int r.den])
theorem Fz.dt {K : PySem.W.Frag} {H : Hp} {v : V} {r : Rat} (h : Fz H v r) : Dt K H v (fr r) := by
  obtain ⟨a, rfl, h⟩ := h
  exact .tup (.inl (.inl h)) (.cons (.int _) (.cons (.int _) .nil))
theorem fz_new {H : Hp} {p : Addr} {r : Rat} : Fz (upd H p (.tup [.int r.num, .int r.den])) (.ref p) r := ⟨p, rfl, upd_same⟩
/-- a fraction as a key -/
def keyF (r : Rat) : List Key := [.inl r.num, .inl (r.den : Int)]
theorem keyF_inj {r s : Rat} (h : keyF r = keyF s) : r = s := by
  injection h with h1 h2
  injection h2 with h2 _
  exact Rat.ext (Sum.inl.inj h1) (by have := Sum.inl.inj h2; omega)
theorem Fz.get {H : Hp} {d : Addr} {v : V} {r : Rat} {kvs : List (List Key × V)} (h : Fz H v r) (e : H d = some (.dT kvs)) : DGet H d v (valV kvs (keyF r)) := by
  obtain ⟨a, rfl, h⟩ := h
  exact DGet.t e h
theorem Fz.put {H : Hp} {d : Addr} {v y : V} {r : Rat} {kvs : List (List Key × V)} (h : Fz H v r) (e : H d = some (.dT kvs)) (l : kvs.length < sizeLine) : DPut H d v y (upd H d (.dT (putK kvs (keyF r) y))) := by
  obtain ⟨a, rfl, h⟩ := h
  exact DPut.t e h l
theorem Fz.mono {H H' : Hp} {v : V} {r : Rat} (k : KT H H') (h : Fz H v r) : Fz H' v r := by
  obtain ⟨a, e, h⟩ := h
  exact ⟨a, e, k _ _ h rfl⟩
section
variable {K : PySem.W.Frag} {σ : St} {H : Hp} {Q : VK} {D : Ends}
def DInQ (y x : V) (H : Hp) (N : Bool → Prop) : Prop := ∃ a o, x = V.ref a ∧ DGet H a y o ∧ N o.isSome
def DGetQ (x y : V) (H : Hp) (N : V → Prop) : Prop := ∃ a v, x = V.ref a ∧ DGet H a y (some v) ∧ N v
theorem s_dinV {ty td : TE} (h : ty σ H fun y H1 => td σ H1 fun x H2 => DInQ y x H2 fun b => Q (.bl b) H2) : tDIn ty td σ H Q := by
  have e : (fun y H1 => td σ H1 fun x H2 => DInQ y x H2 fun b => Q (.bl b) H2) = fun y H1 => td σ H1 fun x H2 => ∃ a o, x = V.ref a ∧ DGet H2 a y o ∧ Q (.bl o.isSome) H2 := rfl
  exact h
theorem s_dgetV {ty td : TE} (h : td σ H fun x H1 => ty σ H1 fun y H2 => DGetQ x y H2 fun v => Q v H2) : tDGet td ty σ H Q := h
theorem s_dinF {d : Addr} {y : V} {r : Rat} {kvs : List (List Key × V)} {N : Bool → Prop} (h : Fz H y r) (e : H d = some (.dT kvs)) (n : N (valV kvs (keyF r)).isSome) : DInQ y (.ref d) H N := ⟨d, _, rfl, h.get e, n⟩
theorem s_dgetF {d : Addr} {y v : V} {r : Rat} {kvs : List (List Key × V)} {N : V → Prop} (h : Fz H y r) (e : H d = some (.dT kvs)) (ev : valV kvs (keyF r) = some v) (n : N v) : DGetQ (.ref d) y H N := ⟨d, v, rfl, by rw [← ev]; exact h.get e, n⟩
theorem s_putF {d : Addr} {y v : V} {r : Rat} {kvs : List (List Key × V)} {N : Hp → Prop} (h : Fz H y r) (e : H d = some (.dT kvs)) (l : kvs.length < sizeLine) (n : N (upd H d (.dT (putK kvs (keyF r) v)))) : PutQ (.ref d) y v H N := ⟨d, _, rfl, h.put e l, n⟩
theorem s_dnewT (h : ∀ p, H p = none → Q (.ref p) (upd H p (.dT []))) : tDNewT σ H Q := h
def LvQ (x : V) (H : Hp) (Q : VK) : Prop := ∃ a vs, x = V.ref a ∧ DVals H a vs ∧ ∀ l, H l = none → Q (.ref l) (upd H l (.lst vs))
theorem s_lv {td : TE} (h : td σ H fun x H1 => LvQ x H1 Q) : tListVals td σ H Q := h
theorem s_lvT {d : Addr} {kvs : List (List Key × V)} (e : H d = some (.dT kvs)) (h : ∀ l, H l = none → Q (.ref l) (upd H l (.lst (kvs.map (·.2))))) : LvQ (.ref d) H Q := ⟨d, _, rfl, .inr ⟨kvs, e, rfl⟩, h⟩
theorem s_lvK {d : Addr} {kvs : List (Key × V)} (e : H d = some (.dK kvs)) (h : ∀ l, H l = none → Q (.ref l) (upd H l (.lst (kvs.map (·.2))))) : LvQ (.ref d) H Q := ⟨d, _, rfl, .inl ⟨kvs, e, rfl⟩, h⟩
theorem s_aug {i : Nat} {te : TE} {ti : TIp} {x : V} (e : σ[i]? = some (some x)) (h : te σ H fun y H1 => ti x y H1 fun z H2 => gName i z σ H2 D.nx) : tAug i te ti D σ H := ⟨x, e, h⟩
theorem s_ipAdd {i j : Int} (h : Q (.int (i + j)) H) : ipI (fun i j => i + j) (.int i) (.int j) H Q := ⟨i, j, rfl, rfl, h⟩
theorem s_ipSub {i j : Int} (h : Q (.int (i - j)) H) : ipI (fun i j => i - j) (.int i) (.int j) H Q := ⟨i, j, rfl, rfl, h⟩
theorem s_insert {a : Addr} {xs : List V} {i : Int} {y : V} (hs : H a = some (.lst xs)) (z : xs.length < sizeLine) (h0 : 0 ≤ i) (h1 : i < 2 ^ 63) (h : Q .non (upd H a (.lst (xs.take i.toNat ++ [y] ++ xs.drop i.toNat)))) : rInsertU (.ref a) [.int i, y] H Q := ⟨a, xs, i, y, rfl, rfl, hs, z, h0, h1, h⟩
theorem s_popAt {a : Addr} {xs : List V} {j : Nat} {y : V} (hs : H a = some (.lst xs)) (hl : xs.length ≤ 1000) (e : xs[j]? = some y) (h : Q y (upd H a (.lst (xs.eraseIdx j)))) : rPopAt (.ref a) [.int (j : Int)] H Q := by
  have hj : j < xs.length := (List.getElem?_eq_some_iff.mp e).1
  refine ⟨a, xs, _, j, y, rfl, rfl, hs, by omega, by omega, ?_, e, h⟩
  unfold seqIndex?
  simp only []
  first
    | rfl
    | (rw [if_neg (by omega)]; rw [if_pos (by omega)]; rfl)
    | (simp; omega)
end
end Cr
namespace Cr
open PySem PySem.Spec PyProof.Rows L2
/-! ### list comprehensions over a range with a test; texts compared -/
section
variable {K : PySem.W.Frag} {σ : St} {H : Hp} {Q : VK} {D : Ends}
theorem c_rangeT {n : Nat} {g : TG} {tt : TT} {te : TE} {vs : List Nat} (pr : Nat → Bool) (f : Nat → V) (hz : n ≤ 1000)
    (turn : ∀ (i : Nat) A (Nt : V → Hp → Prop) (Nf : Hp → Prop), i < n → Same H A → (pr i = true → ∀ B, Same A B → Nt (f i) B) → (pr i = false → ∀ B, Same A B → Nf B) → g (.int (0 + (i : Int))) (wipe σ vs) A fun σ2 B => wipe σ2 vs = wipe σ vs ∧ tt σ2 B fun b B2 => if b = true then te σ2 B2 Nt else Nf B2)
    (fin : ∀ q A, Same H A → H q = none → A q = some (.lst (((List.range n).filter pr).map f)) → Q (.ref q) A) : LcR (Itr 0 n) g tt te vs σ H Q := by
  intro d hd
  have hlen : ∀ i, i ≤ n → (((List.range i).filter pr).map f).length ≤ 1000 := fun i hi => by
    rw [List.length_map]
    have := List.length_filter_le pr (List.range i)
    rw [List.length_range] at this
    omega
  refine lc_range (fun i A => Same H A ∧ A d = some (.lst (((List.range i).filter pr).map f))) ⟨same_new hd, upd_same⟩ ?_ ?_
  · rintro i A hi ⟨hs, hA⟩
    refine turn i A _ _ hi hs (fun hp B sb => ?_) (fun hp B sb => ?_)
    · refine ⟨_, sb _ _ hA, L2.small1000 (hlen i (by omega)), same_mut (hs.trans sb) hd, ?_⟩
      rw [upd_same, List.range_succ, List.filter_append, List.map_append, List.filter_cons_of_pos hp]
      rfl
    · refine ⟨hs.trans sb, ?_⟩
      rw [List.range_succ, List.filter_append, List.map_append, List.filter_cons_of_neg (by rw [hp]; exact Bool.false_ne_true), List.filter_nil, List.map_nil, List.append_nil]
      exact sb _ _ hA
  · rintro A ⟨hs, hA⟩
    exact fin d A hs hd hA
theorem eqvS (i j : Str) : PyData.eqv (.str i) (.str j) = decide (i = j) := by
  simp only [PyData.eqv]
  by_cases h : i = j <;> simp [h]
theorem s_eqS {i j : Str} (oi : SeqAt.shaped (.str i) = true) (oj : SeqAt.shaped (.str j) = true) (h : Q (.bl (decide (i = j))) H) : rEqD K (.str i) (.str j) H Q := ⟨_, _, .str i, .str j, oi, oj, by rw [eqvS]; exact h⟩
theorem s_neS {i j : Str} (oi : SeqAt.shaped (.str i) = true) (oj : SeqAt.shaped (.str j) = true) (h : Q (.bl (!decide (i = j))) H) : rNeD K (.str i) (.str j) H Q := ⟨_, _, .str i, .str j, oi, oj, by rw [eqvS]; exact h⟩
theorem s_eqSS {i : Str} (oi : SeqAt.shaped (.str i) = true) (h : Q (.bl true) H) : rEqD K (.str i) (.str i) H Q := s_eqS oi oi (by rw [decide_eq_true rfl]; exact h)
theorem s_neSS {i : Str} (oi : SeqAt.shaped (.str i) = true) (h : Q (.bl false) H) : rNeD K (.str i) (.str i) H Q := s_neS oi oi (by rw [decide_eq_true rfl]; exact h)
end
end Cr

namespace Cr
open PySem PySem.Spec PyProof.Rows L2
/-! ### data that can be laid out; isinstance; slices of tuples; written dicts -/
def LayN (n : Nat) (d : PyData) : Prop := d.canLay0 = true ∧ d.depth ≤ n
theorem LayN.mono {n m : Nat} {d : PyData} (h : LayN n d) (k : n ≤ m) : LayN m d := ⟨h.1, Nat.le_trans h.2 k⟩
theorem lay_all : ∀ {ds : List PyData}, (∀ d, d ∈ ds → d.canLay0 = true) → PyData.canLayAll0 ds = true
  | [], _ => by simp [PyData.canLayAll0]
  | d :: ds, h => by rw [PyData.canLayAll0, h d List.mem_cons_self, lay_all fun e he => h e (List.mem_cons_of_mem _ he)]; rfl
theorem depth_all {n : Nat} : ∀ {ds : List PyData}, (∀ d, d ∈ ds → d.depth ≤ n) → PyData.depthAll ds ≤ n
  | [], _ => by simp [PyData.depthAll]
  | d :: ds, h => by
    have h1 := h d List.mem_cons_self
    have h2 := depth_all fun e he => h e (List.mem_cons_of_mem _ he)
    simp only [PyData.depthAll]
    omega
theorem lay_tup {n : Nat} {ds : List PyData} (h : ∀ d, d ∈ ds → LayN n d) : LayN (n + 1) (.tuple ds) :=
  ⟨by rw [PyData.canLay0]; exact lay_all fun d hd => (h d hd).1, by have := depth_all fun d hd => (h d hd).2; simp only [PyData.depth]; omega⟩
theorem lay_lst {n : Nat} {ds : List PyData} (h : ∀ d, d ∈ ds → LayN n d) : LayN (n + 1) (.list ds) :=
  ⟨by rw [PyData.canLay0]; exact lay_all fun d hd => (h d hd).1, by have := depth_all fun d hd => (h d hd).2; simp only [PyData.depth]; omega⟩
theorem lay_int {n : Nat} (i : Int) : LayN n (.int i) := ⟨by simp only [PyData.canLay0], by simp only [PyData.depth]; omega⟩
theorem lay_non {n : Nat} : LayN n .none := ⟨by simp only [PyData.canLay0], by simp only [PyData.depth]; omega⟩
theorem lay_bl {n : Nat} (b : Bool) : LayN n (.bool b) := ⟨by simp only [PyData.canLay0], by simp only [PyData.depth]; omega⟩
def TxtOk (x : Str) : Prop := x.cps.all (· < 0x110000) = true
theorem lay_str {n : Nat} {x : Str} (h : TxtOk x) : LayN n (.str x) := ⟨by rw [PyData.canLay0]; exact h, by simp only [PyData.depth]; omega⟩
theorem LayN.sh {n : Nat} {d : PyData} (h : LayN n d) (k : n ≤ 64 := by decide) : SeqAt.shaped d = true := by
  unfold SeqAt.shaped
  rw [Bool.and_eq_true]
  exact ⟨h.1, decide_eq_true (Nat.le_trans h.2 k)⟩
theorem Nm.txt {x : Str} (h : Nm x) : TxtOk x := by
  unfold TxtOk
  rw [Array.all_eq_true']
  intro c hc
  have := h.2.2 c (by simpa using hc)
  exact decide_eq_true (by omega)
section
variable {K : PySem.W.Frag} {σ : St} {H : Hp} {Q : VK} {D : Ends}
/-- data against the same data -/
theorem s_eqDr {x y : V} {d : PyData} {n : Nat} (hx : Dt K H x d) (hy : Dt K H y d) (s : LayN n d) (k : n ≤ 64) (h : Q (.bl true) H) : rEqD K x y H Q :=
  ⟨d, d, hx.dp, hy.dp, s.sh k, s.sh k, by rw [SeqAt.eqv_refl _ s.1]; exact h⟩
theorem s_neDr {x y : V} {d : PyData} {n : Nat} (hx : Dt K H x d) (hy : Dt K H y d) (s : LayN n d) (k : n ≤ 64) (h : Q (.bl false) H) : rNeD K x y H Q :=
  ⟨d, d, hx.dp, hy.dp, s.sh k, s.sh k, by rw [SeqAt.eqv_refl _ s.1]; exact h⟩
theorem s_eqLr {a b : Addr} {xs ys : List V} {ds : List PyData} {n : Nat} (ha : SqL K H a xs) (hb : SqL K H b ys) (hx : DtAll K H xs ds) (hy : DtAll K H ys ds) (s : ∀ d, d ∈ ds → LayN n d) (k : n ≤ 63) (h : Q (.bl true) H) : rEqD K (.ref a) (.ref b) H Q :=
  ⟨.list ds, .list ds, .lst ha hx.dp, .lst hb hy.dp, (lay_lst s).sh (by omega), (lay_lst s).sh (by omega), by rw [SeqAt.eqv_refl _ (lay_lst s).1]; exact h⟩
theorem s_neLr {a b : Addr} {xs ys : List V} {ds : List PyData} {n : Nat} (ha : SqL K H a xs) (hb : SqL K H b ys) (hx : DtAll K H xs ds) (hy : DtAll K H ys ds) (s : ∀ d, d ∈ ds → LayN n d) (k : n ≤ 63) (h : Q (.bl false) H) : rNeD K (.ref a) (.ref b) H Q :=
  ⟨.list ds, .list ds, .lst ha hx.dp, .lst hb hy.dp, (lay_lst s).sh (by omega), (lay_lst s).sh (by omega), by rw [SeqAt.eqv_refl _ (lay_lst s).1]; exact h⟩
/-- isinstance by names of types -/
theorem s_isTy {x : V} {n m : String} {b : Bool} (hx : TyX K H x (.type n)) (e : kitB n m = some b) (h : Q (.bl b) H) : rIsi K [x, .ty m] H Q := ⟨_, _, _, _, b, rfl, .ty _, hx, kit_ty e, h⟩
theorem kit_ll : kitB "list" "list" = some true := by decide +kernel
theorem kit_ss : kitB "str" "str" = some true := by decide +kernel
theorem kit_si : kitB "str" "int" = some false := by decide +kernel
theorem kit_sb : kitB "str" "bool" = some false := by decide +kernel
theorem kit_st : kitB "str" "tuple" = some false := by decide +kernel
theorem kit_is : kitB "int" "str" = some false := by decide +kernel
theorem kit_it : kitB "int" "tuple" = some false := by decide +kernel
theorem kit_bs : kitB "bool" "str" = some false := by decide +kernel
theorem kit_bt : kitB "bool" "tuple" = some false := by decide +kernel
theorem kit_ns : kitB "NoneType" "str" = some false := by decide +kernel
theorem kit_ni : kitB "NoneType" "int" = some false := by decide +kernel
theorem kit_nb : kitB "NoneType" "bool" = some false := by decide +kernel
theorem kit_nt : kitB "NoneType" "tuple" = some false := by decide +kernel
theorem kit_ts : kitB "tuple" "str" = some false := by decide +kernel
theorem kit_ti : kitB "tuple" "int" = some false := by decide +kernel
theorem kit_tb : kitB "tuple" "bool" = some false := by decide +kernel
theorem s_isLL {a : Addr} {xs : List V} (hx : H a = some (.lst xs)) (h : Q (.bl true) H) : rIsi K [.ref a, .ty "list"] H Q := s_isTy (.base (.lst hx)) kit_ll h
theorem s_isSS {x : Str} (h : Q (.bl true) H) : rIsi K [.str x, .ty "str"] H Q := s_isTy (.base (.str x)) kit_ss h
theorem s_isSI {x : Str} (h : Q (.bl false) H) : rIsi K [.str x, .ty "int"] H Q := s_isTy (.base (.str x)) kit_si h
theorem s_isST {x : Str} (h : Q (.bl false) H) : rIsi K [.str x, .ty "tuple"] H Q := s_isTy (.base (.str x)) kit_st h
theorem s_isIS {i : Int} (h : Q (.bl false) H) : rIsi K [.int i, .ty "str"] H Q := s_isTy (.base (.int i)) kit_is h
theorem s_isIT {i : Int} (h : Q (.bl false) H) : rIsi K [.int i, .ty "tuple"] H Q := s_isTy (.base (.int i)) kit_it h
theorem s_isNT (h : Q (.bl false) H) : rIsi K [.non, .ty "tuple"] H Q := s_isTy (.base .non) kit_nt h
/-- t[:n] of a tuple, also the whole -/
theorem s_slA {x : V} {ds : List PyData} {hi : Int} (hx : Dt K H x (.tuple ds)) (h0 : 0 ≤ hi) (h : ∀ v H', Same H H' → Dt K H' v (.tuple (ds.take hi.toNat)) → Q v H') : rSlA K x none (some hi) H Q := by
  have hx0 := hx
  obtain ⟨a, xs, rfl, hs, ha⟩ := hx.tup_inv
  refine ⟨a, xs, rfl, hs, fun z => h _ _ (Same.refl _) ?_, fun _ p hp => h _ _ (same_new hp) (by rw [cutV_hi xs h0]; exact dt_new (ha.take _) hp)⟩
  obtain ⟨k, rfl⟩ : ∃ k : Nat, hi = (k : Int) := ⟨hi.toNat, by omega⟩
  have z2 := z.2
  rw [HT.sIx_nat] at z2
  have e := ha.len
  rw [Int.toNat_natCast, List.take_of_length_le (by omega)]
  exact hx0
/-- x in D, D[x] of a written dict -/
def rKin (K : PySem.W.Frag) (d : Addr) : R2 := fun x y H Q => ∃ (z : Str) (r : Option Value), x = .str z ∧ y = .ref d ∧ PySem.W.nsIn K d z = some r ∧ Q (.bl r.isSome) H
def rKntin (K : PySem.W.Frag) (d : Addr) : R2 := fun x y H Q => ∃ (z : Str) (r : Option Value), x = .str z ∧ y = .ref d ∧ PySem.W.nsIn K d z = some r ∧ Q (.bl (!r.isSome)) H
theorem op_kin {X : Cx} {d : Addr} {es : Array DictEntry} {n : Nat} (D : KDict X.K X.w d es n) : OpR X (compareOp .In) (rKin X.K d) := op_in_kd D
theorem op_kntin {X : Cx} {d : Addr} {es : Array DictEntry} {n : Nat} (D : KDict X.K X.w d es n) : OpR X (compareOp .NotIn) (rKntin X.K d) := op_notIn_kd D
theorem s_kinT {d : Addr} {z : Str} {u : Value} (e : PySem.W.nsIn K d z = some (some u)) (h : Q (.bl true) H) : rKin K d (.str z) (.ref d) H Q := ⟨z, _, rfl, rfl, e, h⟩
theorem s_kinF {d : Addr} {z : Str} (e : PySem.W.nsIn K d z = some none) (h : Q (.bl false) H) : rKin K d (.str z) (.ref d) H Q := ⟨z, _, rfl, rfl, e, h⟩
theorem s_kntinT {d : Addr} {z : Str} {u : Value} (e : PySem.W.nsIn K d z = some (some u)) (h : Q (.bl false) H) : rKntin K d (.str z) (.ref d) H Q := ⟨z, _, rfl, rfl, e, h⟩
theorem s_kntinF {d : Addr} {z : Str} (e : PySem.W.nsIn K d z = some none) (h : Q (.bl true) H) : rKntin K d (.str z) (.ref d) H Q := ⟨z, _, rfl, rfl, e, h⟩
theorem s_kin {d : Addr} {z : Str} {r : Option Value} (e : PySem.W.nsIn K d z = some r) (h : Q (.bl r.isSome) H) : rKin K d (.str z) (.ref d) H Q := ⟨z, r, rfl, rfl, e, h⟩
theorem s_kntin {d : Addr} {z : Str} {r : Option Value} (e : PySem.W.nsIn K d z = some r) (h : Q (.bl (!r.isSome)) H) : rKntin K d (.str z) (.ref d) H Q := ⟨z, r, rfl, rfl, e, h⟩
theorem s_kget {w : World} {d : Addr} {z : Str} {u : Value} {v : V} {es : Array DictEntry} {n : Nat} (D : KDict K w d es n) (e : PySem.W.nsIn K d z = some (some u)) (r : RelV v u) (h : Q v H) : rIxD K w (.ref d) (.str z) H Q := ⟨d, z, v, rfl, rfl, ⟨es, n, u, D.at_, D.lit, e, r⟩, h⟩
/-- x in [..] of texts, as a written list -/
theorem s_inSL {p : Addr} {x : Str} {vs : List V} (ys : List Str) (hs : SqL K H p vs) (e : vs = ys.map V.str) (h : Q (.bl (decide (x ∈ ys))) H) : rIn K false (.str x) (.ref p) H Q := by
  subst e
  exact s_inS hs h
theorem s_inW1 {p : Addr} {x y0 : Str} (h : Q (.bl (decide (x ∈ [y0]))) (upd H p (.lst [.str y0]))) : rIn K false (.str x) (.ref p) (upd H p (.lst [.str y0])) Q := s_inSL [y0] (.of upd_same) rfl h
theorem s_inW2 {p : Addr} {x y0 y1 : Str} (h : Q (.bl (decide (x ∈ [y0, y1]))) (upd H p (.lst [.str y0, .str y1]))) : rIn K false (.str x) (.ref p) (upd H p (.lst [.str y0, .str y1])) Q := s_inSL [y0, y1] (.of upd_same) rfl h
theorem s_inW3 {p : Addr} {x y0 y1 y2 : Str} (h : Q (.bl (decide (x ∈ [y0, y1, y2]))) (upd H p (.lst [.str y0, .str y1, .str y2]))) : rIn K false (.str x) (.ref p) (upd H p (.lst [.str y0, .str y1, .str y2])) Q := s_inSL [y0, y1, y2] (.of upd_same) rfl h
theorem s_inW4 {p : Addr} {x y0 y1 y2 y3 : Str} (h : Q (.bl (decide (x ∈ [y0, y1, y2, y3]))) (upd H p (.lst [.str y0, .str y1, .str y2, .str y3]))) : rIn K false (.str x) (.ref p) (upd H p (.lst [.str y0, .str y1, .str y2, .str y3])) Q := s_inSL [y0, y1, y2, y3] (.of upd_same) rfl h
theorem s_inW5 {p : Addr} {x y0 y1 y2 y3 y4 : Str} (h : Q (.bl (decide (x ∈ [y0, y1, y2, y3, y4]))) (upd H p (.lst [.str y0, .str y1, .str y2, .str y3, .str y4]))) : rIn K false (.str x) (.ref p) (upd H p (.lst [.str y0, .str y1, .str y2, .str y3, .str y4])) Q := s_inSL [y0, y1, y2, y3, y4] (.of upd_same) rfl h
theorem s_inW6 {p : Addr} {x y0 y1 y2 y3 y4 y5 : Str} (h : Q (.bl (decide (x ∈ [y0, y1, y2, y3, y4, y5]))) (upd H p (.lst [.str y0, .str y1, .str y2, .str y3, .str y4, .str y5]))) : rIn K false (.str x) (.ref p) (upd H p (.lst [.str y0, .str y1, .str y2, .str y3, .str y4, .str y5])) Q := s_inSL [y0, y1, y2, y3, y4, y5] (.of upd_same) rfl h
theorem s_inW7 {p : Addr} {x y0 y1 y2 y3 y4 y5 y6 : Str} (h : Q (.bl (decide (x ∈ [y0, y1, y2, y3, y4, y5, y6]))) (upd H p (.lst [.str y0, .str y1, .str y2, .str y3, .str y4, .str y5, .str y6]))) : rIn K false (.str x) (.ref p) (upd H p (.lst [.str y0, .str y1, .str y2, .str y3, .str y4, .str y5, .str y6])) Q := s_inSL [y0, y1, y2, y3, y4, y5, y6] (.of upd_same) rfl h
theorem s_inW8 {p : Addr} {x y0 y1 y2 y3 y4 y5 y6 y7 : Str} (h : Q (.bl (decide (x ∈ [y0, y1, y2, y3, y4, y5, y6, y7]))) (upd H p (.lst [.str y0, .str y1, .str y2, .str y3, .str y4, .str y5, .str y6, .str y7]))) : rIn K false (.str x) (.ref p) (upd H p (.lst [.str y0, .str y1, .str y2, .str y3, .str y4, .str y5, .str y6, .str y7])) Q := s_inSL [y0, y1, y2, y3, y4, y5, y6, y7] (.of upd_same) rfl h
theorem s_inW9 {p : Addr} {x y0 y1 y2 y3 y4 y5 y6 y7 y8 : Str} (h : Q (.bl (decide (x ∈ [y0, y1, y2, y3, y4, y5, y6, y7, y8]))) (upd H p (.lst [.str y0, .str y1, .str y2, .str y3, .str y4, .str y5, .str y6, .str y7, .str y8]))) : rIn K false (.str x) (.ref p) (upd H p (.lst [.str y0, .str y1, .str y2, .str y3, .str y4, .str y5, .str y6, .str y7, .str y8])) Q := s_inSL [y0, y1, y2, y3, y4, y5, y6, y7, y8] (.of upd_same) rfl h
theorem s_inW10 {p : Addr} {x y0 y1 y2 y3 y4 y5 y6 y7 y8 y9 : Str} (h : Q (.bl (decide (x ∈ [y0, y1, y2, y3, y4, y5, y6, y7, y8, y9]))) (upd H p (.lst [.str y0, .str y1, .str y2, .str y3, .str y4, .str y5, .str y6, .str y7, .str y8, .str y9]))) : rIn K false (.str x) (.ref p) (upd H p (.lst [.str y0, .str y1, .str y2, .str y3, .str y4, .str y5, .str y6, .str y7, .str y8, .str y9])) Q := s_inSL [y0, y1, y2, y3, y4, y5, y6, y7, y8, y9] (.of upd_same) rfl h
theorem s_inW11 {p : Addr} {x y0 y1 y2 y3 y4 y5 y6 y7 y8 y9 y10 : Str} (h : Q (.bl (decide (x ∈ [y0, y1, y2, y3, y4, y5, y6, y7, y8, y9, y10]))) (upd H p (.lst [.str y0, .str y1, .str y2, .str y3, .str y4, .str y5, .str y6, .str y7, .str y8, .str y9, .str y10]))) : rIn K false (.str x) (.ref p) (upd H p (.lst [.str y0, .str y1, .str y2, .str y3, .str y4, .str y5, .str y6, .str y7, .str y8, .str y9, .str y10])) Q := s_inSL [y0, y1, y2, y3, y4, y5, y6, y7, y8, y9, y10] (.of upd_same) rfl h
theorem s_inW12 {p : Addr} {x y0 y1 y2 y3 y4 y5 y6 y7 y8 y9 y10 y11 : Str} (h : Q (.bl (decide (x ∈ [y0, y1, y2, y3, y4, y5, y6, y7, y8, y9, y10, y11]))) (upd H p (.lst [.str y0, .str y1, .str y2, .str y3, .str y4, .str y5, .str y6, .str y7, .str y8, .str y9, .str y10, .str y11]))) : rIn K false (.str x) (.ref p) (upd H p (.lst [.str y0, .str y1, .str y2, .str y3, .str y4, .str y5, .str y6, .str y7, .str y8, .str y9, .str y10, .str y11])) Q := s_inSL [y0, y1, y2, y3, y4, y5, y6, y7, y8, y9, y10, y11] (.of upd_same) rfl h
/-- the turns of a list comprehension with a test whose outcome hangs on the heap -/
theorem c_listF {α : Type} {a : Addr} {xs : List V} {zs : List α} {g : TG} {tt : TT} {te : TE} {vs : List Nat} {S : Hp → Hp → Prop} (St : Stp H S) (P : Hp → V → α → Prop) (R : Hp → α → V → Prop) (pm : ∀ A B x z, KI A B → P A x z → P B x z) (rm : ∀ A B z y, KI A B → R A z y → R B z y)
    (hl : ∀ A, S H A → SqL K A a xs) (hx : A2 (P H) xs zs) (hz : xs.length ≤ 1000)
    (turn : ∀ x z A (Nt : V → Hp → Prop) (Nf : Hp → Prop), z ∈ zs → P A x z → S H A → (∀ y B, S A B → R B z y → Nt y B) → (∀ B, S A B → Nf B) → g x (wipe σ vs) A fun σ2 B => wipe σ2 vs = wipe σ vs ∧ tt σ2 B fun b B2 => if b = true then te σ2 B2 Nt else Nf B2)
    (fin : ∀ p ys zs' A, S H A → H p = none → A p = some (.lst ys) → zs'.Sublist zs → A2 (R A) zs' ys → Q (.ref p) A) : LcR (Itl K a) g tt te vs σ H Q := by
  intro p hp
  have lx := hx.len
  refine lc_list (xs := xs) (fun i A => i ≤ xs.length ∧ S H A ∧ ∃ ys zs', A p = some (.lst ys) ∧ zs'.Sublist (zs.take i) ∧ A2 (R A) zs' ys) ⟨Nat.zero_le _, St.new _ _ _ St.s0 hp, [], [], upd_same, List.nil_sublist _, .nil⟩ (fun i A _ h => hl A h.2.1) ?_ ?_
  · rintro i x A e ⟨hi, hs, ys, zs', h1, hsub, h2⟩
    obtain ⟨z, ez, pz⟩ := hx.at e
    have hlt : i < xs.length := (List.getElem?_eq_some_iff.mp e).1
    have et : zs.take (i + 1) = zs.take i ++ [z] := by rw [List.take_add_one, ez]; rfl
    refine turn x z A _ _ (List.mem_of_getElem? ez) (pm _ _ _ _ (St.ki _ _ hs) pz) hs (fun y B sb r => ?_) (fun B sb => ?_)
    · have e3 := St.keep _ _ _ _ hp hs sb h1
      have hl : ys.length ≤ i := by
        have := hsub.length_le
        rw [← h2.len]
        rw [List.length_take] at this
        omega
      have k : KI B (upd B p (.lst (ys ++ [y]))) := ki_mut e3 rfl
      refine ⟨ys, e3, L2.small1000 (by omega), by omega, St.new _ _ _ (St.tr _ _ hs sb) hp, ys ++ [y], zs' ++ [z], upd_same, by rw [et]; exact hsub.append (List.Sublist.refl _), ?_⟩
      exact .snoc (rm _ _ _ _ k r) (h2.mono fun u v z => rm _ _ _ _ k (rm _ _ _ _ (St.ki _ _ sb) z))
    · exact ⟨by omega, St.tr _ _ hs sb, ys, zs', St.keep _ _ _ _ hp hs sb h1, by rw [et]; exact hsub.trans (List.sublist_append_left _ _), h2.mono fun u v z => rm _ _ _ _ (St.ki _ _ sb) z⟩
  · rintro A ⟨_, hs, ys, zs', h1, hsub, h2⟩
    rw [lx, List.take_length] at hsub
    exact fin p ys zs' A hs hp h1 hsub h2
end
theorem A2.flip {α β : Type} {R : α → β → Prop} : ∀ {xs : List α} {ys : List β}, A2 R xs ys → A2 (fun y x => R x y) ys xs
  | _, _, .nil => .nil
  | _, _, .cons a b => .cons a (A2.flip b)
theorem A2.mem {α β : Type} {R : α → β → Prop} : ∀ {xs : List α} {ys : List β}, A2 R xs ys → ∀ {x : α}, x ∈ xs → ∃ y, y ∈ ys ∧ R x y
  | _, _, .cons a b, x, h => by
    rcases List.mem_cons.mp h with e | e
    · subst e; exact ⟨_, List.mem_cons_self, a⟩
    · obtain ⟨y, h1, h2⟩ := A2.mem b e
      exact ⟨y, List.mem_cons_of_mem _ h1, h2⟩
theorem A2.perm {α β : Type} {R : α → β → Prop} {xs xs' : List α} (p : xs'.Perm xs) : ∀ {ys : List β}, A2 R xs ys → ∃ ys', A2 R xs' ys' ∧ ys'.Perm ys := by
  induction p with
  | nil => intro ys h; exact ⟨ys, h, List.Perm.refl _⟩
  | cons x _ ih =>
    intro ys h
    cases h with
    | cons a b =>
      obtain ⟨ys', h1, h2⟩ := ih b
      exact ⟨_, .cons a h1, h2.cons _⟩
  | swap x y l =>
    intro ys h
    cases h with
    | cons a b =>
      cases b with
      | cons c d => exact ⟨_, .cons c (.cons a d), List.Perm.swap _ _ _⟩
  | trans _ _ ih1 ih2 =>
    intro ys h
    obtain ⟨y1, h1, h2⟩ := ih2 h
    obtain ⟨y2, h3, h4⟩ := ih1 h1
    exact ⟨y2, h3, h4.trans h2⟩
theorem a2_das {K : PySem.W.Frag} {H : Hp} {α : Type} {f : α → PyData} : ∀ {vs : List V} {ls : List α}, A2 (fun v l => Dt K H v (f l)) vs ls → DtAll K H vs (ls.map f)
  | _, _, .nil => .nil
  | _, _, .cons a b => .cons a (a2_das b)
theorem das_a2 {K : PySem.W.Frag} {H : Hp} : ∀ {vs : List V} {ds : List PyData}, DtAll K H vs ds → A2 (fun v d => Dt K H v d) vs ds
  | _, [], h => by cases h; exact .nil
  | _, d :: ds, h => by cases h with | cons a b => exact .cons a (das_a2 b)
theorem a2_strs (ys : List Str) : A2 (fun v y => v = V.str y) (ys.map V.str) ys := by
  induction ys with
  | nil => exact .nil
  | cons y ys ih => exact .cons rfl ih
/-! ### entries -/
abbrev pairsD (ps : List (Str × Int)) : PyData := .tuple (ps.map fun p => .tuple [.str p.1, .int p.2])
structure PsOf (Tn : Str → Prop) (ps : List (Str × Int)) : Prop where
  l0 : 1 ≤ ps.length
  l1 : ps.length ≤ 8
  nd : (ps.map Prod.fst).Nodup
  ok : ∀ p, p ∈ ps → Tn p.1 ∧ 1 ≤ p.2 ∧ p.2 ≤ 1000000
/-- an entry of holders, things, a last day -/
inductive EntOf (Hn Tn : Str → Prop) (L : Int) : Str → Int → List PyData → Prop
  | price {d p : Int} {t : Str} : 0 ≤ d → d ≤ L → Tn t → 1 ≤ p → p ≤ 1000000 → EntOf Hn Tn L "price" d [.str t, .int p]
  | mix {d : Int} {ps : List (Str × Int)} : 0 ≤ d → d ≤ L → PsOf Tn ps → EntOf Hn Tn L "mix" d [pairsD ps]
  | come {d p : Int} {t : Str} : 0 ≤ d → d ≤ L → Hn t → 1 ≤ p → p ≤ 1000000000 → EntOf Hn Tn L "come" d [.str t, .int p]
  | go {d p : Int} {t : Str} : 0 ≤ d → d ≤ L → Hn t → 1 ≤ p → p ≤ 10000 → EntOf Hn Tn L "go" d [.str t, .int p]
  | draw {d p : Int} {t : Str} : 0 ≤ d → d ≤ L → Hn t → 1 ≤ p → p ≤ 1000000000 → EntOf Hn Tn L "draw" d [.str t, .int p]
  | give {d p : Int} {t u : Str} : 0 ≤ d → d ≤ L → Hn t → Hn u → t ≠ u → 1 ≤ p → p ≤ 10000 → EntOf Hn Tn L "give" d [.str t, .str u, .int p]
  | rate {d p : Int} : 0 ≤ d → d ≤ L → 0 ≤ p → p ≤ 9999 → EntOf Hn Tn L "rate" d [.int p]
  | harvest {d : Int} : 0 ≤ d → d ≤ L → EntOf Hn Tn L "harvest" d []
  | aside {d : Int} {t : Str} : 0 ≤ d → d ≤ L → Tn t → EntOf Hn Tn L "aside" d [.str t]
  | home {d : Int} {t : Str} : 0 ≤ d → d ≤ L → Tn t → EntOf Hn Tn L "home" d [.str t]
  | levy {d p : Int} : 0 ≤ d → d ≤ L → 1 ≤ p → p ≤ 9999 → EntOf Hn Tn L "levy" d [.int p]
  | hurdle {d p : Int} : 0 ≤ d → d ≤ L → 1 ≤ p → p ≤ 10000 → EntOf Hn Tn L "hurdle" d [.int p]
abbrev entD (k : Str) (d : Int) (rest : List PyData) : PyData := .tuple (.str k :: .int d :: rest)
def kindsE : List Str := ["price", "mix", "come", "go", "draw", "give", "rate", "harvest", "aside", "home", "levy", "hurdle"]
theorem EntOf.mono {Hn Tn Hn' Tn' : Str → Prop} {L L' d : Int} {k : Str} {rest : List PyData} (h : EntOf Hn Tn L k d rest) (a : ∀ x, Hn x → Hn' x) (b : ∀ x, Tn x → Tn' x) (c : L ≤ L') : EntOf Hn' Tn' L' k d rest := by
  cases h with
  | price d0 d1 t p0 p1 => exact .price d0 (by omega) (b _ t) p0 p1
  | mix d0 d1 h => exact .mix d0 (by omega) ⟨h.l0, h.l1, h.nd, fun p hp => ⟨b _ (h.ok p hp).1, (h.ok p hp).2⟩⟩
  | come d0 d1 t p0 p1 => exact .come d0 (by omega) (a _ t) p0 p1
  | go d0 d1 t p0 p1 => exact .go d0 (by omega) (a _ t) p0 p1
  | draw d0 d1 t p0 p1 => exact .draw d0 (by omega) (a _ t) p0 p1
  | give d0 d1 t u n p0 p1 => exact .give d0 (by omega) (a _ t) (a _ u) n p0 p1
  | rate d0 d1 p0 p1 => exact .rate d0 (by omega) p0 p1
  | harvest d0 d1 => exact .harvest d0 (by omega)
  | aside d0 d1 t => exact .aside d0 (by omega) (b _ t)
  | home d0 d1 t => exact .home d0 (by omega) (b _ t)
  | levy d0 d1 p0 p1 => exact .levy d0 (by omega) p0 p1
  | hurdle d0 d1 p0 p1 => exact .hurdle d0 (by omega) p0 p1
theorem EntOf.kind {Hn Tn : Str → Prop} {L d : Int} {k : Str} {rest : List PyData} (h : EntOf Hn Tn L k d rest) : k ∈ kindsE := by
  cases h <;> decide +kernel
theorem EntOf.day {Hn Tn : Str → Prop} {L d : Int} {k : Str} {rest : List PyData} (h : EntOf Hn Tn L k d rest) : 0 ≤ d ∧ d ≤ L := by
  cases h <;> exact ⟨by assumption, by assumption⟩
theorem lay_ps {Tn : Str → Prop} (hT : ∀ x, Tn x → TxtOk x) {ps : List (Str × Int)} (h : PsOf Tn ps) : LayN 2 (pairsD ps) :=
  lay_tup fun d hd => by
    obtain ⟨p, hp, rfl⟩ := List.mem_map.mp hd
    exact lay_tup fun e he => by
      simp only [List.mem_cons, List.not_mem_nil, or_false] at he
      rcases he with rfl | rfl
      · exact lay_str (hT _ (h.ok p hp).1)
      · exact lay_int _
theorem kind_txt {k : Str} (h : k ∈ kindsE) : TxtOk k := by
  unfold kindsE at h
  simp only [List.mem_cons, List.not_mem_nil, or_false] at h
  rcases h with rfl | rfl | rfl | rfl | rfl | rfl | rfl | rfl | rfl | rfl | rfl | rfl <;> (unfold TxtOk; decide +kernel)
theorem two {a b e : PyData} {n : Nat} (ha : LayN n a) (hb : LayN n b) (h : e ∈ [a, b]) : LayN n e := by
  rcases List.mem_cons.mp h with rfl | h
  · exact ha
  · rw [List.mem_singleton] at h; rw [h]; exact hb
theorem EntOf.lay {Hn Tn : Str → Prop} {L d : Int} {k : Str} {rest : List PyData} (hH : ∀ x, Hn x → TxtOk x) (hT : ∀ x, Tn x → TxtOk x) (h : EntOf Hn Tn L k d rest) : ∀ e, e ∈ (.str k :: .int d :: rest : List PyData) → LayN 2 e := by
  intro e he0
  rcases List.mem_cons.mp he0 with rfl | he1
  · exact lay_str (kind_txt h.kind)
  rcases List.mem_cons.mp he1 with rfl | he
  · exact lay_int _
  clear he0 he1
  cases h with
  | price d0 d1 t p0 p1 => exact two (lay_str (hT _ t)) (lay_int _) he
  | mix d0 d1 h => rw [List.mem_singleton] at he; rw [he]; exact lay_ps hT h
  | come d0 d1 t p0 p1 => exact two (lay_str (hH _ t)) (lay_int _) he
  | go d0 d1 t p0 p1 => exact two (lay_str (hH _ t)) (lay_int _) he
  | draw d0 d1 t p0 p1 => exact two (lay_str (hH _ t)) (lay_int _) he
  | give d0 d1 t u n p0 p1 =>
    rcases List.mem_cons.mp he with rfl | he
    · exact lay_str (hH _ t)
    · exact two (lay_str (hH _ u)) (lay_int _) he
  | rate d0 d1 p0 p1 => rw [List.mem_singleton] at he; rw [he]; exact lay_int _
  | harvest d0 d1 => cases he
  | aside d0 d1 t => rw [List.mem_singleton] at he; rw [he]; exact lay_str (hT _ t)
  | home d0 d1 t => rw [List.mem_singleton] at he; rw [he]; exact lay_str (hT _ t)
  | levy d0 d1 p0 p1 => rw [List.mem_singleton] at he; rw [he]; exact lay_int _
  | hurdle d0 d1 p0 p1 => rw [List.mem_singleton] at he; rw [he]; exact lay_int _
/-- the slot of an entry -/
def slotN (k : Str) : Option Nat := if k ∈ (["price", "aside", "home"] : List Str) then some 3 else if k ∈ (["come", "go", "draw", "give"] : List Str) then none else some 2
def slotD (k : Str) (d : Int) (rest : List PyData) : PyData := match slotN k with
  | some n => .tuple ((.str k :: .int d :: rest : List PyData).take n)
  | none => .none
theorem lay_slot {Hn Tn : Str → Prop} {L d : Int} {k : Str} {rest : List PyData} (hH : ∀ x, Hn x → TxtOk x) (hT : ∀ x, Tn x → TxtOk x) (h : EntOf Hn Tn L k d rest) : LayN 3 (slotD k d rest) := by
  unfold slotD
  split
  · exact lay_tup fun e he => h.lay hH hT e (List.mem_of_mem_take he)
  · exact lay_non
theorem take_foldl {rs : List Rat} {n : Nat} {r s0 : Rat} (e : rs[n]? = some r) : (rs.take (n + 1)).foldl (· + ·) s0 = (rs.take n).foldl (· + ·) s0 + r := by
  rw [List.take_add_one, e, List.foldl_append]
  rfl
theorem take_sz {rs : List Rat} {n : Nat} {s0 : Rat} (z1 : ∀ r, r ∈ rs → Sz 64 r) (l1 : rs.length ≤ 40) (z2 : Sz 100 s0) : Sz 4000 ((rs.take n).foldl (· + ·) s0) := by
  refine (foldl_sz (n := 64) (rs.take n) (fun r hr => z1 r (List.mem_of_mem_take hr)) s0 z2).mono ?_
  have : (rs.take n).length ≤ 40 := by rw [List.length_take]; omega
  omega
theorem map_get {rs : List Rat} {n : Nat} {d : PyData} (e : (rs.map fr)[n]? = some d) : ∃ r, rs[n]? = some r ∧ d = fr r := by
  rw [List.getElem?_map] at e
  cases q : rs[n]? with
  | none => rw [q] at e; cases e
  | some r => rw [q] at e; exact ⟨r, rfl, (Option.some.inj e).symm⟩
theorem DtAll.item {K : PySem.W.Frag} {H : Hp} {ws : List V} {ds : List PyData} (h : DtAll K H ws ds) {n : Nat} {x : V} (e : ws[n]? = some x) : ∃ d, ds[n]? = some d ∧ Dt K H x d := by
  obtain ⟨hn, ex⟩ := List.getElem?_eq_some_iff.mp e
  have hn2 : n < ds.length := by rw [← h.len]; exact hn
  obtain ⟨v, e1, e2⟩ := h.get (List.getElem?_eq_getElem hn2)
  rw [e1] at e
  cases e
  exact ⟨_, List.getElem?_eq_getElem hn2, e2⟩
end Cr

namespace Cr
/-! ### != of two lists whose items are equal by their own == -/
section
open PySem PySem.Spec PySem.Calls PySem.SeqAt AutoSeq1 MeetsSeq MeetsSeq2 MeetsSeq3 PyProof.Rows
variable {prog : Program} {w : World} {A : Around} {R : Result → Shared → Prop}
theorem ne_turns (p q : Addr) (N : Nat) (J : Nat → Shared → Prop) (all : GQ.ListI prog w A (fun e t => R (.error e) t) p q N J) (last : ∀ t, J N t → R (.ok (.ret (.bool false))) t) : ∀ (k m : Nat), N - m = k → m ≤ N → ∀ t, J m t →
    wpAny (model prog w) A.in1 (Builtin.«list.__eq__.loop» ⟨[.ref p, .ref q, rawInt m, rawInt 3], []⟩) (GQ.FinOf prog w A R) (fun e t => R (.error e) t) t := by
  intro k
  induction k with
  | zero =>
    intro m hk hm t jt
    obtain ⟨us, vs, n1, n2, g1, g2, z1, z2, _⟩ := all _ _ jt
    obtain rfl : m = N := by omega
    have done := last t jt
    obtain ⟨hp, g, d, tk, os⟩ := t
    wp_walk using wpAny_loadPart' g1, wpAny_loadPart' g2
    rw [show us[((m : Nat) : Int).toNat]? = none by simp; omega, show vs[((m : Nat) : Int).toNat]? = none by simp; omega]
    wp_walk using wpAny_loadPart' g1, wpAny_loadPart' g2
    show R (.ok (.ret (.bool (us.size != vs.size)))) _
    rw [z1, z2, bne_self_eq_false]
    exact done
  | succ k more =>
    intro m hk hm t jt
    obtain ⟨us, vs, n1, n2, g1, g2, z1, z2, turn⟩ := all _ _ jt
    have m1 : m < us.size := by omega
    have m2 : m < vs.size := by omega
    have once := turn m1 m2
    obtain ⟨hp, g, d, tk, os⟩ := t
    wp_walk using wpAny_loadPart' g1, wpAny_loadPart' g2
    rw [show us[((m : Nat) : Int).toNat]? = some us[m] by simp [m1], show vs[((m : Nat) : Int).toNat]? = some vs[m] by simp [m2]]
    refine wpAny_bind (wpAny_mono once (fun yes t2 both => ?_) fun _ _ x => x)
    obtain ⟨rfl, j2⟩ := both
    have onward := more (m + 1) (by omega) (by omega) t2 j2
    obtain ⟨hp2, g2, d2, tk2, os2⟩ := t2
    wp_walk
    rw [show ((m : Int) + 1) = ((m + 1 : Nat) : Int) by omega]
    refine ⟨plainId_quiet plain_eq_loop _, ?_⟩
    refine codeAny_builtin entry_eq_loop ?_
    rw [Around.under_plainId plain_eq_loop _]; exact onward
theorem ne_list {E : Value → Shared → Prop} {t : Shared} {p q : Addr} {N : Nat} {Q : Value → Shared → Prop} (room : A.units < cLine) (J : Nat → Shared → Prop) (all : GQ.ListI prog w A E p q N J) (last : ∀ t, J N t → Q (.bool false) t) (jt : J 0 t) : wpAny (model prog w) A (richCompare .NotEq (.ref p) (.ref q)) Q E t := by
  obtain ⟨us, vs, n1, n2, g1, g2, z1, z2, _⟩ := all _ _ jt
  refine wpAny_richCompare_same_room (op := .NotEq) ⟨_, g1, rfl⟩ ⟨_, g2, rfl⟩ F.slot_list_ne (GQ.call_here F.slot_list_ne ⟨_, g1, rfl⟩ F.entry_list_ne (F.args_list_ne_2 _ _) ?_) room
  have onward := ne_turns (A := A) (R := wants (fun v t => v ≠ .notImplemented ∧ Q v t) E) p q N J all (fun t' z => ⟨(fun x => nomatch x), last t' z⟩) _ 0 rfl (Nat.zero_le _) t jt
  have sub := AutoSeq1.sub_list_list
  obtain ⟨hp, g, d, tk, os⟩ := t
  have alike : ¬ (us.size != vs.size) = true := by simp [z1, z2]
  wp_walk using wpAny_loadPart' g1, wpAny_loadPart' g2
  refine ⟨plainId_quiet plain_eq_loop _, ?_⟩
  refine codeAny_builtin entry_eq_loop ?_
  rw [Around.under_plainId plain_eq_loop _]; exact onward
end
section
open PySem PySem.Spec PyProof.Rows L2
def rNeG (D : Eqv) : R2 := fun x y H Q => DList D x y H ∧ ∀ H', Ext H H' → Q (.bl false) H'
theorem op_neGL {X : Cx} {n : Nat} {D : Eqv} (mon : Mon D) (eq : EqG X n D) (room : Room (n + 1) X.A) : OpR X (compareOp .NotEq) (rNeG D) := by
  intro pins t σ H x y v u Q I rx ry hq
  obtain ⟨⟨p, q, xs, ys, rfl, rfl, h1, h2, items⟩, k⟩ := hq
  cases rx
  cases ry
  show wpAny (model X.prog X.w) X.A (richCompare .NotEq (.ref p) (.ref q)) (EP X pins σ Q) X.xe t
  refine ne_list (N := xs.length) room.units0 (fun _ t' => LoopI X pins σ H t') (fun m t' z => ?_) (fun t' z => ?_) ⟨H, I, Ext.rfl'⟩
  · obtain ⟨H1, I1, grown⟩ := id z
    obtain ⟨_, us, n1, r1, e1⟩ := I1.hok p _ (grown _ _ h1)
    obtain ⟨_, vs, n2, r2, e2⟩ := I1.hok q _ (grown _ _ h2)
    refine ⟨us.toArray, vs.toArray, n1, n2, e1, e2, ?_, ?_, fun m1 m2 => turnG mon eq ⟨room, rfl⟩ items r1 r2 m m1 m2 t' z⟩
    · rw [List.size_toArray, ← r1.length]
    · rw [List.size_toArray, ← r2.length, ← items.1]
  · obtain ⟨H1, I1, grown⟩ := z
    exact ⟨.bl false, H1, I1, rfl, k H1 grown⟩
end
end Cr

/-! ## short words of the walk: local rows, by keys of our own -/
local macro_rules | `(tactic| walk_at "cr.kt") => `(tactic| with_reducible first
  | with_reducible assumption
  | exact Cr.kt_new (by with_reducible assumption)
  | exact Cr.kt_mut (by with_reducible assumption) rfl
  | exact Cr.kt_same (by with_reducible assumption)
  | exact Cr.kt_but (by with_reducible assumption))
local macro_rules | `(tactic| walk_at "cr.dt") => `(tactic| with_reducible first
  | with_reducible assumption
  | exact Cr.Dt.int _
  | exact Cr.Dt.bl _
  | exact Cr.Dt.str _
  | exact Cr.Dt.non
  | ((with_reducible refine' Cr.dt_new ?z (by with_reducible assumption)); (case z => walk_at "cr.da"))
  | exact Cr.dt_zn (by with_reducible assumption)
  | exact Cr.dt_1n (by with_reducible assumption)
  | (refine' Cr.Dt.mono (Cr.kt_new (by with_reducible assumption)) ?z; (case z => walk_at "cr.dt"))
  | (refine' Cr.Dt.mono (Cr.kt_mut (by with_reducible assumption) rfl) ?z; (case z => walk_at "cr.dt"))
  | (refine' Cr.Dt.mono (Cr.kt_same (by with_reducible assumption)) ?z; (case z => walk_at "cr.dt"))
  | (refine' Cr.Dt.mono (Cr.kt_but (by with_reducible assumption)) ?z; (case z => walk_at "cr.dt"))
  | (refine' Cr.Dt.mono (by with_reducible assumption) ?z; (case z => walk_at "cr.dt"))
  | exact (by with_reducible assumption : ∀ H : L2.Hp, Cr.Dt _ H _ _) _)
local macro_rules | `(tactic| walk_at "cr.da") => `(tactic| with_reducible first
  | exact Cr.DtAll.nil
  | (refine' Cr.DtAll.cons ?z ?w; (case z => walk_at "cr.dt"); (case w => walk_at "cr.da"))
  | with_reducible assumption)
local macro_rules | `(tactic| walk_at "cr.lot") => `(tactic| with_reducible first
  | with_reducible assumption
  | (refine' Cr.IsLot.mono (Cr.ki_new (by with_reducible assumption)) ?z; (case z => walk_at "cr.lot"))
  | (refine' Cr.IsLot.mono (Cr.ki_mut (by with_reducible assumption) rfl) ?z; (case z => walk_at "cr.lot"))
  | (refine' Cr.IsLot.mono (Cr.ki_same (by with_reducible assumption)) ?z; (case z => walk_at "cr.lot"))
  | (refine' Cr.IsLot.mono (Cr.ki_but (by with_reducible assumption)) ?z; (case z => walk_at "cr.lot"))
  | (refine' Cr.IsLot.mono (by with_reducible assumption) ?z; (case z => walk_at "cr.lot")))
/-- all of a list's -/
local macro_rules | `(tactic| walk_at "cr.das") => `(tactic| with_reducible first
  | with_reducible assumption
  | (refine' Cr.DtAll.mono (Cr.kt_new (by with_reducible assumption)) ?z; (case z => walk_at "cr.das"))
  | (refine' Cr.DtAll.mono (Cr.kt_mut (by with_reducible assumption) rfl) ?z; (case z => walk_at "cr.das"))
  | (refine' Cr.DtAll.mono (Cr.kt_same (by with_reducible assumption)) ?z; (case z => walk_at "cr.das"))
  | (refine' Cr.DtAll.mono (Cr.kt_but (by with_reducible assumption)) ?z; (case z => walk_at "cr.das"))
  | (refine' Cr.DtAll.mono (by with_reducible assumption) ?z; (case z => walk_at "cr.das")))
/-- H0 to H -/
local macro_rules | `(tactic| walk_at "cr.sm") => `(tactic| with_reducible first
  | exact L2.Same.refl _
  | with_reducible assumption
  | (refine' L2.Same.trans ?z (Cr.same_new (by with_reducible assumption)); (case z => walk_at "cr.sm"))
  | (refine' L2.Same.trans ?z (by with_reducible assumption); (case z => walk_at "cr.sm"))
  | (refine' Cr.same_mut ?z (by walk_at "cr.fr"); (case z => walk_at "cr.sm")))
/-- H p = none, from a later heap -/
local macro_rules | `(tactic| walk_at "cr.fr") => `(tactic| with_reducible first
  | with_reducible assumption
  | (refine' Cr.free_on (by with_reducible assumption) ?z; (case z => walk_at "cr.sm")))
/-- what stands at an address -/
local macro_rules | `(tactic| walk_at "cr.at") => `(tactic| with_reducible first
  | with_reducible assumption
  | exact L2.upd_same
  | (refine' Eq.trans (L2.upd_ne (by walk_at "cr.ne")) ?z; (case z => walk_at "cr.at"))
  | (refine' Cr.at_same (by with_reducible assumption) ?z; (case z => walk_at "cr.at"))
  | (refine' Cr.But.oth (by with_reducible assumption) _ _ (by walk_at "cr.ne") ?z; (case z => walk_at "cr.at"))
  | (refine' Cr.Oth.oth (by with_reducible assumption) _ _ (by walk_at "cr.ne") ?z; (case z => walk_at "cr.at")))
local macro_rules | `(tactic| walk_at "cr.ne") => `(tactic| with_reducible first
  | with_reducible assumption
  | exact Ne.symm (by with_reducible assumption)
  | (refine' Cr.Bag.ne1' (by with_reducible assumption) ?z; (case z => with_reducible assumption))
  | (refine' Cr.Bag.ne2' (by with_reducible assumption) ?z; (case z => with_reducible assumption))
  | (refine' Ne.symm (Cr.Bag.ne1' (by with_reducible assumption) ?z); (case z => with_reducible assumption))
  | (refine' Ne.symm (Cr.Bag.ne2' (by with_reducible assumption) ?z); (case z => with_reducible assumption))
  | (refine' Cr.Bag.ne1' (by with_reducible assumption) ?z; (case z => walk_at "cr.bag"))
  | (refine' Cr.Bag.ne2' (by with_reducible assumption) ?z; (case z => walk_at "cr.bag"))
  | (refine' Cr.ne_on (by with_reducible assumption) ?z; (case z => walk_at "cr.at"))
  | (refine' Ne.symm (Cr.ne_on (by with_reducible assumption) ?z); (case z => walk_at "cr.at")))
local macro_rules | `(tactic| walk_at "cr.bag") => `(tactic| with_reducible first
  | with_reducible assumption
  | (refine' Cr.Bag.new ?z (by with_reducible assumption); (case z => walk_at "cr.bag"))
  | (refine' Cr.Bag.same (by with_reducible assumption) ?z; (case z => walk_at "cr.bag"))
  | (refine' Cr.Oth.bag (by with_reducible assumption) (by with_reducible assumption) (by with_reducible assumption) ?z; (case z => walk_at "cr.bag"))
  | (refine' Cr.Bag.upd ?z (by walk_at "cr.ne") (by walk_at "cr.ne"); (case z => walk_at "cr.bag")))
/-- all but the bag -/
local macro_rules | `(tactic| walk_at "cr.but") => `(tactic| with_reducible first
  | with_reducible assumption
  | (refine' Cr.But.same ?z (Cr.same_new (by with_reducible assumption)); (case z => walk_at "cr.but"))
  | (refine' Cr.But.trans ?z (by with_reducible assumption); (case z => walk_at "cr.but"))
  | (refine' Cr.But.same ?z (by with_reducible assumption); (case z => walk_at "cr.but"))
  | exact Cr.But.ofSame (by with_reducible assumption) (L2.Same.refl _)
  | (refine' Cr.but_mut ?z (by walk_at "cr.fr"); (case z => walk_at "cr.but")))
local macro_rules | `(tactic| walk_at "cr.size") => `(tactic| first
  | exact Cr.size2
  | exact Cr.size1
  | exact Cr.size3
  | exact Cr.size4
  | exact Cr.size_le (by with_unfolding_all decide)
  | exact Cr.size_le (by simp only [List.length_cons, List.length_nil]; omega))
local macro_rules | `(tactic| walk_at "cr.room") => `(tactic| first
  | with_reducible assumption
  | (refine L2.small1000 ?_; (try simp only [List.length_append, List.length_cons, List.length_nil, List.length_reverse, List.length_map, List.length_take, List.length_drop, List.length_set]); omega)
  | (refine Cr.size_le2 ?_; (try simp only [List.length_append, List.length_cons, List.length_nil, List.length_reverse, List.length_map, List.length_take, List.length_drop, List.length_set]); omega))
local macro_rules | `(tactic| walk_at "cr.lst") => `(tactic| with_reducible first
  | with_reducible assumption
  | (refine' L2.SqL.of ?z; (case z => walk_at "cr.at"))
  | (refine' L2.Same.seq (Cr.same_new (by with_reducible assumption)) ?z; (case z => walk_at "cr.lst"))
  | (refine' L2.Same.seq (by with_reducible assumption) ?z; (case z => walk_at "cr.lst")))
local macro_rules | `(tactic| walk_at "cr.sz") => `(tactic| first
  | with_reducible assumption
  | exact Cr.cz_l (by omega) (by omega)
  | exact Cr.cz_r (by omega) (by omega)
  | exact Cr.mz_nd (by walk_at "cr.z") (by walk_at "cr.z")
  | exact Cr.mz_dn (by walk_at "cr.z") (by walk_at "cr.z")
  | exact Cr.mz_nn (by walk_at "cr.z") (by walk_at "cr.z")
  | exact Cr.mz_dd (by walk_at "cr.z") (by walk_at "cr.z"))
local macro_rules | `(tactic| walk_at "cr.z") => `(tactic| first
  | with_reducible assumption
  | exact Cr.Sz.mono (by walk_at "cr.zz") (by decide))
local macro_rules | `(tactic| walk_at "cr.len") => `(tactic| first | (simp only [List.length_cons, List.length_nil]; omega) | (simp only [List.length_append, List.length_cons, List.length_nil, List.length_reverse, List.length_map, List.length_take, List.length_drop, List.length_set]; omega))
local macro_rules | `(tactic| walk_at "cr.items") => `(tactic| (intro v hv; simp only [List.mem_cons, List.not_mem_nil, or_false] at hv; first
  | (rcases hv with rfl | rfl | rfl | rfl | rfl | rfl <;> exact ⟨_, rfl, by omega, by omega⟩)
  | (rcases hv with rfl | rfl | rfl | rfl | rfl <;> exact ⟨_, rfl, by omega, by omega⟩)
  | (rcases hv with rfl | rfl | rfl | rfl <;> exact ⟨_, rfl, by omega, by omega⟩)
  | (rcases hv with rfl | rfl | rfl <;> exact ⟨_, rfl, by omega, by omega⟩)
  | (rcases hv with rfl | rfl <;> exact ⟨_, rfl, by omega, by omega⟩)))
local macro_rules | `(tactic| walk_at "cr.pw") => `(tactic| first
  | with_reducible assumption
  | exact Cr.pw_le (n := 64) (by omega) (by decide))
local macro_rules | `(tactic| walk_at "cr.zz") => `(tactic| with_reducible first
  | with_reducible assumption
  | exact Cr.Sz2.toSz (by with_reducible assumption)
  | exact Cr.divInt_sz (n := 64) (by omega) (by omega) (by omega)
  | (refine' Cr.Sz.add ?zl ?zr; (case zl => walk_at "cr.zz"); (case zr => walk_at "cr.zz"))
  | (refine' Cr.Sz.sub ?zl ?zr; (case zl => walk_at "cr.zz"); (case zr => walk_at "cr.zz"))
  | (refine' Cr.Sz.mul ?zl ?zr; (case zl => walk_at "cr.zz"); (case zr => walk_at "cr.zz"))
  | (refine' Cr.Sz.div ?zl ?zr ?zn; (case zl => walk_at "cr.zz"); (case zr => walk_at "cr.zz"); (case zn => assumption)))
local macro_rules | `(tactic| walk_at "cr.div") => `(tactic| first
  | with_reducible assumption
  | exact Cr.dz_sm (by omega) (by omega))
local macro_rules | `(tactic| walk_at "cr.fz") => `(tactic| with_reducible first
  | with_reducible assumption
  | (refine' Cr.Fz.mono (Cr.kt_new (by with_reducible assumption)) ?z; (case z => walk_at "cr.fz"))
  | (refine' Cr.Fz.mono (Cr.kt_mut (by with_reducible assumption) rfl) ?z; (case z => walk_at "cr.fz"))
  | (refine' Cr.Fz.mono (Cr.kt_same (by with_reducible assumption)) ?z; (case z => walk_at "cr.fz"))
  | (refine' Cr.Fz.mono (Cr.kt_but (by with_reducible assumption)) ?z; (case z => walk_at "cr.fz"))
  | (refine' Cr.Fz.mono (by with_reducible assumption) ?z; (case z => walk_at "cr.fz")))
local macro_rules | `(tactic| walk_at "cr.till") => `(tactic| with_reducible first
  | with_reducible assumption)
/-- one step of a reading -/
local macro_rules | `(tactic| walk_at "cr.s") => `(tactic| with_reducible first
  | refine Cr.s_seq ?_
  | refine Cr.s_asg ?_
  | refine Cr.s_op ?_
  | refine Cr.s_v0 ?_
  | refine Cr.s_g0 ?_
  | refine Cr.s_v1 ?_
  | refine Cr.s_g1 ?_
  | refine Cr.s_v2 ?_
  | refine Cr.s_g2 ?_
  | refine Cr.s_v3 ?_
  | refine Cr.s_g3 ?_
  | refine Cr.s_v4 ?_
  | refine Cr.s_g4 ?_
  | refine Cr.s_v5 ?_
  | refine Cr.s_g5 ?_
  | refine Cr.s_v6 ?_
  | refine Cr.s_g6 ?_
  | refine Cr.s_v7 ?_
  | refine Cr.s_g7 ?_
  | refine Cr.s_v8 ?_
  | refine Cr.s_g8 ?_
  | refine Cr.s_v9 ?_
  | refine Cr.s_g9 ?_
  | refine Cr.s_v10 ?_
  | refine Cr.s_g10 ?_
  | refine Cr.s_v11 ?_
  | refine Cr.s_g11 ?_
  | refine Cr.s_v12 ?_
  | refine Cr.s_g12 ?_
  | refine Cr.s_v13 ?_
  | refine Cr.s_g13 ?_
  | refine Cr.s_v14 ?_
  | refine Cr.s_g14 ?_
  | refine Cr.s_v15 ?_
  | refine Cr.s_g15 ?_
  | refine Cr.s_v16 ?_
  | refine Cr.s_g16 ?_
  | refine Cr.s_v17 ?_
  | refine Cr.s_g17 ?_
  | refine Cr.s_c ?_
  | refine Cr.s_ret ?_
  | refine Cr.s_if ?_
  | refine Cr.s_test ?_
  | refine Cr.s_tru ?_
  | refine Cr.s_B ?_
  | refine Cr.s_isB ?_
  | refine Cr.s_truI ?_
  | refine Cr.s_truB ?_
  | refine Cr.s_call ?_
  | refine Cr.s_callS ?_
  | refine Cr.s_callN ?_
  | (refine' Cr.s_lens ?k1 ?k2 ?_; (case k1 => with_unfolding_all rfl); (case k2 => with_unfolding_all rfl))
  | refine Cr.s_cons ?_
  | refine Cr.s_nil ?_
  | refine Cr.s_cb ?_
  | refine Cr.s_tup ?_
  | refine Cr.s_lst ?_
  | (refine Cr.s_par ?_; (try simp only [List.set_cons_zero, List.set_cons_succ]))
  | refine Cr.s_un ?_
  | refine Cr.s_drop ?_
  | refine Cr.s_next ?_
  | refine Cr.s_brk ?_
  | refine Cr.s_cont ?_
  | refine Cr.s_retN ?_
  | refine Cr.s_ifE ?_
  | refine Cr.s_and ?_
  | refine Cr.s_or ?_
  | refine Cr.s_not ?_
  | refine Cr.s_andV ?_
  | refine Cr.s_orV ?_
  | refine Cr.s_notV ?_
  | refine Cr.s_chain ?_
  | refine Cr.s_itT ?_
  | refine Cr.s_itF ?_
  | refine Cr.s_itNT ?_
  | refine Cr.s_itNF ?_
  | refine Cr.s_gsub ?_
  | refine Cr.s_addI ?_
  | refine Cr.s_subI ?_
  | refine Cr.s_negI ?_
  | refine Cr.s_ltI ?_
  | refine Cr.s_leI ?_
  | refine Cr.s_gtI ?_
  | refine Cr.s_geI ?_
  | (refine' Cr.s_eqSS ?k1 ?_; (case k1 => first | with_reducible assumption | with_unfolding_all decide +kernel))
  | (refine' Cr.s_neSS ?k1 ?_; (case k1 => first | with_reducible assumption | with_unfolding_all decide +kernel))
  | (refine' Cr.s_eqS ?k1 ?k2 ?_; (case k1 => first | with_reducible assumption | with_unfolding_all decide +kernel); (case k2 => first | with_reducible assumption | with_unfolding_all decide +kernel))
  | (refine' Cr.s_neS ?k1 ?k2 ?_; (case k1 => first | with_reducible assumption | with_unfolding_all decide +kernel); (case k2 => first | with_reducible assumption | with_unfolding_all decide +kernel))
  | refine Cr.s_neII ?_
  | refine Cr.s_eqII ?_
  | refine Cr.s_eqI ?_
  | refine Cr.s_neI ?_
  | refine Cr.s_eqBB ?_
  | refine Cr.s_neBB ?_
  | refine Cr.s_neFT ?_
  | refine Cr.s_neTF ?_
  | refine Cr.s_eqFT ?_
  | refine Cr.s_eqTF ?_
  | refine Cr.s_eqB ?_
  | refine Cr.s_neB ?_
  | refine Cr.s_abs ?_
  | refine Cr.s_max ?_
  | refine Cr.s_min ?_
  | refine Cr.s_isII ?_
  | refine Cr.s_isIB ?_
  | refine Cr.s_isBI ?_
  | refine Cr.s_isBB ?_
  | (refine' Cr.s_isTT ?k1 ?_; (case k1 => with_reducible walk_at "cr.dt"))
  | (refine' Cr.s_ixF0 ?k1 ?_; (case k1 => with_reducible walk_at "cr.dt"))
  | (refine' Cr.s_ixF1 ?k1 ?_; (case k1 => with_reducible walk_at "cr.dt"))
  | (refine' Cr.s_ixT0 ?k1 ?_; (case k1 => with_reducible walk_at "cr.dt"); intro v hv; first | (have ev := Cr.Dt.int_eq hv; subst ev) | (have ev := Cr.Dt.str_eq hv; subst ev) | (have ev := Cr.Dt.bl_eq hv; subst ev) | skip)
  | (refine' Cr.s_ixL0 ?k1 ?_; (case k1 => with_reducible walk_at "cr.lst"))
  | (refine' Cr.s_setL0 ?k1 ?_; (case k1 => with_reducible walk_at "cr.at"))
  | (refine' Cr.s_ixT1 ?k1 ?_; (case k1 => with_reducible walk_at "cr.dt"); intro v hv; first | (have ev := Cr.Dt.int_eq hv; subst ev) | (have ev := Cr.Dt.str_eq hv; subst ev) | (have ev := Cr.Dt.bl_eq hv; subst ev) | skip)
  | (refine' Cr.s_ixL1 ?k1 ?_; (case k1 => with_reducible walk_at "cr.lst"))
  | (refine' Cr.s_setL1 ?k1 ?_; (case k1 => with_reducible walk_at "cr.at"))
  | (refine' Cr.s_ixT2 ?k1 ?_; (case k1 => with_reducible walk_at "cr.dt"); intro v hv; first | (have ev := Cr.Dt.int_eq hv; subst ev) | (have ev := Cr.Dt.str_eq hv; subst ev) | (have ev := Cr.Dt.bl_eq hv; subst ev) | skip)
  | (refine' Cr.s_ixL2 ?k1 ?_; (case k1 => with_reducible walk_at "cr.lst"))
  | (refine' Cr.s_setL2 ?k1 ?_; (case k1 => with_reducible walk_at "cr.at"))
  | (refine' Cr.s_ixT3 ?k1 ?_; (case k1 => with_reducible walk_at "cr.dt"); intro v hv; first | (have ev := Cr.Dt.int_eq hv; subst ev) | (have ev := Cr.Dt.str_eq hv; subst ev) | (have ev := Cr.Dt.bl_eq hv; subst ev) | skip)
  | (refine' Cr.s_ixL3 ?k1 ?_; (case k1 => with_reducible walk_at "cr.lst"))
  | (refine' Cr.s_setL3 ?k1 ?_; (case k1 => with_reducible walk_at "cr.at"))
  | (refine' Cr.s_ixT4 ?k1 ?_; (case k1 => with_reducible walk_at "cr.dt"); intro v hv; first | (have ev := Cr.Dt.int_eq hv; subst ev) | (have ev := Cr.Dt.str_eq hv; subst ev) | (have ev := Cr.Dt.bl_eq hv; subst ev) | skip)
  | (refine' Cr.s_ixL4 ?k1 ?_; (case k1 => with_reducible walk_at "cr.lst"))
  | (refine' Cr.s_setL4 ?k1 ?_; (case k1 => with_reducible walk_at "cr.at"))
  | (refine' Cr.s_ixT5 ?k1 ?_; (case k1 => with_reducible walk_at "cr.dt"); intro v hv; first | (have ev := Cr.Dt.int_eq hv; subst ev) | (have ev := Cr.Dt.str_eq hv; subst ev) | (have ev := Cr.Dt.bl_eq hv; subst ev) | skip)
  | (refine' Cr.s_ixL5 ?k1 ?_; (case k1 => with_reducible walk_at "cr.lst"))
  | (refine' Cr.s_setL5 ?k1 ?_; (case k1 => with_reducible walk_at "cr.at"))
  | (refine' Cr.s_ixR0 ?k1 ?_; (case k1 => with_reducible walk_at "cr.at"))
  | (refine' Cr.s_ixR1 ?k1 ?_; (case k1 => with_reducible walk_at "cr.at"))
  | (refine' Cr.s_ixR2 ?k1 ?_; (case k1 => with_reducible walk_at "cr.at"))
  | (refine' Cr.s_ixR3 ?k1 ?_; (case k1 => with_reducible walk_at "cr.at"))
  | (refine' Cr.s_addT1 ?k1 ?k2 ?k4 ?k5 ?_; (case k1 => with_reducible walk_at "cr.dt"); (case k2 => with_reducible walk_at "cr.dt"); (case k4 => exact List.cons_ne_nil _ _); (case k5 => walk_at "cr.len"); intro v H' hs hd)
  | (refine' Cr.s_addTG ?k1 ?k2 ?k3 ?k5 ?_; (case k1 => with_reducible walk_at "cr.dt"); (case k2 => with_reducible walk_at "cr.dt"); (case k3 => first | with_reducible assumption | exact List.cons_ne_nil _ _); (case k5 => first | with_reducible assumption | walk_at "cr.len"); intro v H' hs hd; (try simp only [List.cons_append, List.nil_append] at hd))
  | (refine' Cr.s_ixL ?k1 ?k2 ?_; (case k1 => with_reducible walk_at "cr.lst"); (case k2 => with_reducible assumption))
  | (refine' Cr.s_setL ?k1 ?k2 ?_; (case k1 => with_reducible walk_at "cr.at"); (case k2 => assumption))
  | (refine' Cr.s_lenT ?k1 ?_; (case k1 => with_reducible walk_at "cr.dt"))
  | (refine' Cr.s_lenL ?k1 ?_; (case k1 => with_reducible walk_at "cr.lst"))
  | (refine' Cr.s_mulI ?k1 ?_; (case k1 => with_reducible walk_at "cr.sz"))
  | (refine' Cr.s_divI ?k1 ?_; (case k1 => with_reducible walk_at "cr.div"))
  | (refine' Cr.s_modI ?k1 ?_; (case k1 => first | with_reducible assumption | omega))
  | refine Cr.s_pow2 ?_
  | refine Cr.s_pow3 ?_
  | refine Cr.s_pow4 ?_
  | refine Cr.s_pow5 ?_
  | refine Cr.s_pow6 ?_
  | refine Cr.s_pow7 ?_
  | refine Cr.s_pow8 ?_
  | refine Cr.s_pow9 ?_
  | refine Cr.s_pow10 ?_
  | refine Cr.s_pow12 ?_
  | (refine' Cr.s_powI ?k1 ?_; (case k1 => with_unfolding_all exact ⟨by decide, by decide, by decide⟩))
  | (refine' Cr.s_eqFF ?k1 ?k2 ?_; (case k1 => with_reducible walk_at "cr.dt"); (case k2 => with_reducible walk_at "cr.dt"))
  | (refine' Cr.s_neFF ?k1 ?k2 ?_; (case k1 => with_reducible walk_at "cr.dt"); (case k2 => with_reducible walk_at "cr.dt"))
  | (refine' Cr.s_eqD2 ?k1 ?k2 ?_; (case k1 => with_reducible walk_at "cr.dt"); (case k2 => with_reducible walk_at "cr.dt"))
  | (refine' Cr.s_neD2 ?k1 ?k2 ?_; (case k1 => with_reducible walk_at "cr.dt"); (case k2 => with_reducible walk_at "cr.dt"))
  | (refine' Cr.s_eqPf ?k1 ?k2 ?k3 ?_; (case k1 => with_reducible walk_at "cr.dt"); (case k2 => with_reducible walk_at "cr.dt"); (case k3 => with_reducible assumption))
  | (refine' Cr.s_nePf ?k1 ?k2 ?k3 ?_; (case k1 => with_reducible walk_at "cr.dt"); (case k2 => with_reducible walk_at "cr.dt"); (case k3 => with_reducible assumption))
  | (refine' Cr.s_gtup ?k1 ?k2 ?_; (case k1 => with_reducible walk_at "cr.dt"); (case k2 => with_unfolding_all rfl); intro xs hxs)
  | (refine' Cr.s_gcons ?k1 ?_; (case k1 => with_reducible walk_at "cr.das"); intro v r hv hr; first | (have ev := Cr.Dt.int_eq hv; subst ev) | (have ev := Cr.Dt.str_eq hv; subst ev) | (have ev := Cr.Dt.bl_eq hv; subst ev) | skip)
  | (refine' Cr.s_gnil ?k1 ?_; (case k1 => with_reducible walk_at "cr.das"))
  | (refine' Cr.s_truL ?k1 ?_; (case k1 => with_reducible walk_at "cr.lst"))
  | refine Cr.s_isBb ?_
  | refine Cr.s_ntBb ?_
  | (refine' Cr.s_ixLm1 ?k1 ?k2 ?_; (case k1 => with_reducible walk_at "cr.lst"); (case k2 => with_reducible assumption))
  | refine Cr.s_isBl ?_
  | refine Cr.s_ntBl ?_
  | (refine' Cr.s_tupL ?k1 ?k2 ?_; (case k1 => with_reducible walk_at "cr.lst"); (case k2 => with_reducible walk_at "cr.das"); intro v H' hs hd)
  | (refine' Cr.s_tupT ?k1 ?_; (case k1 => with_reducible walk_at "cr.dt"))
  | (refine' Cr.s_listT ?k1 ?_; (case k1 => with_reducible walk_at "cr.dt"); intro l ys H' hs nl hl hd)
  | (refine' Cr.s_ixT6 ?k1 ?_; (case k1 => with_reducible walk_at "cr.dt"); intro v hv; first | (have ev := Cr.Dt.int_eq hv; subst ev) | (have ev := Cr.Dt.str_eq hv; subst ev) | (have ev := Cr.Dt.bl_eq hv; subst ev) | skip)
  | (refine' Cr.s_ixT7 ?k1 ?_; (case k1 => with_reducible walk_at "cr.dt"); intro v hv; first | (have ev := Cr.Dt.int_eq hv; subst ev) | (have ev := Cr.Dt.str_eq hv; subst ev) | (have ev := Cr.Dt.bl_eq hv; subst ev) | skip)
  | (refine' Cr.s_ixT8 ?k1 ?_; (case k1 => with_reducible walk_at "cr.dt"); intro v hv; first | (have ev := Cr.Dt.int_eq hv; subst ev) | (have ev := Cr.Dt.str_eq hv; subst ev) | (have ev := Cr.Dt.bl_eq hv; subst ev) | skip)
  | (refine' Cr.s_ixT9 ?k1 ?_; (case k1 => with_reducible walk_at "cr.dt"); intro v hv; first | (have ev := Cr.Dt.int_eq hv; subst ev) | (have ev := Cr.Dt.str_eq hv; subst ev) | (have ev := Cr.Dt.bl_eq hv; subst ev) | skip)
  | (refine' Cr.s_ixT10 ?k1 ?_; (case k1 => with_reducible walk_at "cr.dt"); intro v hv; first | (have ev := Cr.Dt.int_eq hv; subst ev) | (have ev := Cr.Dt.str_eq hv; subst ev) | (have ev := Cr.Dt.bl_eq hv; subst ev) | skip)
  | (refine' Cr.s_ixTm1 ?k1 ?k2 ?_; (case k1 => with_reducible walk_at "cr.dt"); (case k2 => exact Cr.last10); intro v hv; first | (have ev := Cr.Dt.int_eq hv; subst ev) | (have ev := Cr.Dt.str_eq hv; subst ev) | (have ev := Cr.Dt.bl_eq hv; subst ev) | skip)
  | refine Cr.s_m1 ?_
  | refine Cr.s_isStr ?_
  | refine Cr.s_iStr ?_
  | refine Cr.s_isIts ?_
  | (refine' Cr.s_join ?k1 ?k2 ?_; (case k1 => with_reducible walk_at "cr.lst"); (case k2 => with_reducible assumption))
  | (refine' Cr.s_abc ?k1 ?k2 ?_; (case k1 => omega); (case k2 => omega); intro c hc0 hc1)
  | refine Cr.s_inW1 ?_
  | refine Cr.s_inW2 ?_
  | refine Cr.s_inW3 ?_
  | refine Cr.s_inW4 ?_
  | refine Cr.s_inW5 ?_
  | refine Cr.s_inW6 ?_
  | refine Cr.s_inW7 ?_
  | refine Cr.s_inW8 ?_
  | refine Cr.s_inW9 ?_
  | refine Cr.s_inW10 ?_
  | refine Cr.s_inW11 ?_
  | refine Cr.s_inW12 ?_
  | (refine' Cr.s_inS ?k1 ?_; (case k1 => with_reducible walk_at "cr.lst"))
  | (refine' Cr.s_ntInS ?k1 ?_; (case k1 => with_reducible walk_at "cr.lst"))
  | (refine' Cr.s_slShi ?k1 ?k2 ?_; (case k1 => with_reducible assumption); (case k2 => omega))
  | (refine' Cr.s_slSlo ?k1 ?k2 ?_; (case k1 => with_reducible assumption); (case k2 => omega))
  | (refine' Cr.s_addS ?k1 ?_; (case k1 => with_reducible assumption))
  | refine Cr.s_dget2 ?_
  | refine Cr.s_dput ?_
  | (refine' Cr.s_getA ?k1 ?_; (case k1 => with_reducible walk_at "cr.at"))
  | (refine' Cr.s_getBS ?k1 ?_; (case k1 => with_reducible walk_at "cr.at"))
  | (refine' Cr.s_getBI ?k1 ?_; (case k1 => with_reducible walk_at "cr.at"))
  | (refine' Cr.s_putS ?k1 ?k2 ?_; (case k1 => with_reducible walk_at "cr.at"); (case k2 => with_reducible assumption))
  | (refine' Cr.s_fld1 ?k1 ?k2 ?k3 ?_; (case k1 => with_reducible walk_at "cr.at"); (case k2 => with_reducible assumption); (case k3 => with_reducible assumption))
  | (refine' Cr.s_meth1 ?k1 ?k2 ?_; (case k1 => with_reducible walk_at "cr.at"); (case k2 => with_unfolding_all decide +kernel))
  | refine Cr.s_dinV ?_
  | refine Cr.s_dgetV ?_
  | refine Cr.s_lv ?_
  | (refine Cr.s_dnewT ?_; intro p hp)
  | (refine Cr.s_dnewK ?_; intro p hp)
  | (refine' Cr.s_dinF ?k1 ?k2 ?_; (case k1 => with_reducible walk_at "cr.fz"); (case k2 => with_reducible walk_at "cr.at"))
  | (refine' Cr.s_dgetF ?k1 ?k2 ?k3 ?_; (case k1 => with_reducible walk_at "cr.fz"); (case k2 => with_reducible walk_at "cr.at"); (case k3 => with_reducible assumption))
  | (refine' Cr.s_putF ?k1 ?k2 ?k3 ?_; (case k1 => with_reducible walk_at "cr.fz"); (case k2 => with_reducible walk_at "cr.at"); (case k3 => with_reducible assumption))
  | (refine' Cr.s_lvT ?k1 ?_; (case k1 => with_reducible walk_at "cr.at"); intro l hl)
  | (refine' Cr.s_lvK ?k1 ?_; (case k1 => with_reducible walk_at "cr.at"); intro l hl)
  | (refine' Cr.s_insert ?k1 ?k2 ?k3 ?k4 ?_; (case k1 => with_reducible walk_at "cr.at"); (case k2 => walk_at "cr.room"); (case k3 => omega); (case k4 => omega))
  | (refine' Cr.s_aug ?k1 ?_; (case k1 => with_unfolding_all rfl))
  | refine Cr.s_ipAdd ?_
  | refine Cr.s_ipSub ?_
  | refine Cr.s_isNN ?_
  | refine Cr.s_ntNN ?_
  | refine Cr.s_neNN ?_
  | refine Cr.s_eqNN ?_
  | refine Cr.s_isRN ?_
  | refine Cr.s_ntRN ?_
  | (refine' Cr.s_isFN ?k1 ?_; (case k1 => with_reducible walk_at "cr.dt"))
  | (refine' Cr.s_ntFN ?k1 ?_; (case k1 => with_reducible walk_at "cr.dt"))
  | (refine' Cr.s_isTN ?k1 ?_; (case k1 => with_reducible walk_at "cr.dt"))
  | (refine' Cr.s_ntTN ?k1 ?_; (case k1 => with_reducible walk_at "cr.dt"))
  | refine Cr.s_lc ?_
  | refine Cr.s_intT ?_
  | refine Cr.s_intF ?_
  | (refine' Cr.s_intBt ?k1 ?_; (case k1 => with_reducible assumption))
  | (refine' Cr.s_intBf ?k1 ?_; (case k1 => with_reducible assumption))
  | refine Cr.s_intB ?_
  | refine Cr.s_intI ?_
  | (refine' Cr.s_eqFt ?k1 ?k2 ?k3 ?_; (case k1 => with_reducible walk_at "cr.dt"); (case k2 => with_reducible walk_at "cr.dt"); (case k3 => with_reducible assumption))
  | (refine' Cr.s_eqFf ?k1 ?k2 ?k3 ?_; (case k1 => with_reducible walk_at "cr.dt"); (case k2 => with_reducible walk_at "cr.dt"); (case k3 => with_reducible assumption))
  | (refine' Cr.s_neFt ?k1 ?k2 ?k3 ?_; (case k1 => with_reducible walk_at "cr.dt"); (case k2 => with_reducible walk_at "cr.dt"); (case k3 => with_reducible assumption))
  | (refine' Cr.s_neFf ?k1 ?k2 ?k3 ?_; (case k1 => with_reducible walk_at "cr.dt"); (case k2 => with_reducible walk_at "cr.dt"); (case k3 => with_reducible assumption))
  | (refine' Cr.s_eqF ?k1 ?k2 ?_; (case k1 => with_reducible walk_at "cr.dt"); (case k2 => with_reducible walk_at "cr.dt"))
  | (refine' Cr.s_neF ?k1 ?k2 ?_; (case k1 => with_reducible walk_at "cr.dt"); (case k2 => with_reducible walk_at "cr.dt"))
  | (refine' Cr.s_newT ?k1 ?_; (case k1 => with_reducible walk_at "cr.size"); intro p hp)
  | (refine' Cr.s_newL ?k1 ?_; (case k1 => with_reducible walk_at "cr.size"); intro p hp)
  | refine Cr.s_for ?_
  | refine Cr.s_iList ?_
  | refine Cr.s_rng1 ?_
  | refine Cr.s_fld ?_
  | refine Cr.s_meth ?_
  | refine Cr.s_make ?_
  | (refine' Cr.s_worth ?k1 ?k2 ?k3 ?_; (case k1 => with_reducible walk_at "cr.lot"); (case k2 => with_reducible assumption); (case k3 => with_reducible assumption); intro x hx)
  | (refine' Cr.s_mark ?k1 ?k2 ?k3 ?_; (case k1 => with_reducible walk_at "cr.lot"); (case k2 => with_reducible assumption); (case k3 => with_reducible assumption); intro x hx)
  | (refine' Cr.s_mlot ?k1 ?k2 ?k3 ?_; (case k1 => with_reducible walk_at "cr.lot"); (case k2 => with_unfolding_all decide +kernel); (case k3 => with_unfolding_all decide +kernel))
  | (refine' Cr.s_append ?k1 ?k2 ?_; (case k1 => with_reducible walk_at "cr.at"); (case k2 => walk_at "cr.room"))
  | (refine' Cr.s_addL ?k1 ?k2 ?k3 ?_; (case k1 => with_reducible walk_at "cr.at"); (case k2 => with_reducible walk_at "cr.at"); (case k3 => walk_at "cr.room"); intro p hp)
  | refine Cr.s_sl ?_
  | refine Cr.s_revL ?_
  | (refine' Cr.s_isRev ?k1 ?_; (case k1 => with_reducible walk_at "cr.lst"); intro p hp)
  | refine Cr.s_noPart ?_
  | refine Cr.s_part ?_
  | refine Cr.s_isI ?_
  | refine Cr.s_app ?_
  | (refine' Cr.s_isL ?k1 ?_; (case k1 => with_reducible walk_at "cr.lst"))
  | (refine' Cr.s_tyL ?k1 ?_; (case k1 => with_reducible walk_at "cr.lst"))
  | (refine' Cr.s_isR1 ?k1 ?k2 ?_; (case k1 => omega); (case k2 => omega))
  | (refine' Cr.s_slL ?k1 ?_; (case k1 => with_reducible walk_at "cr.lst"); intro p hp)
  | (refine' Cr.s_listL ?k1 ?_; (case k1 => with_reducible walk_at "cr.lst"); intro p hp)
  | (refine' Cr.s_kinT ?k1 ?_; (case k1 => with_reducible assumption))
  | (refine' Cr.s_kinF ?k1 ?_; (case k1 => with_reducible assumption))
  | (refine' Cr.s_kntinT ?k1 ?_; (case k1 => with_reducible assumption))
  | (refine' Cr.s_kntinF ?k1 ?_; (case k1 => with_reducible assumption))
  | (refine' Cr.s_slA ?k1 ?k2 ?_; (case k1 => with_reducible walk_at "cr.dt"); (case k2 => omega); intro v H' hs hd)
  | (refine' Cr.s_isLL ?k1 ?_; (case k1 => with_reducible walk_at "cr.at"))
  | refine Cr.s_isSS ?_
  | refine Cr.s_isSI ?_
  | refine Cr.s_isST ?_
  | refine Cr.s_isIS ?_
  | refine Cr.s_isIT ?_
  | refine Cr.s_isNT ?_
  | refine Cr.s_var (by with_unfolding_all rfl) ?_
  | refine Cr.s_gname ?_
  | walk_at "cr.call")
local macro_rules | `(tactic| walk_at "cr.go") => `(tactic| repeat (walk_at "cr.s"))
/-- the slots as a written list -/
local macro_rules | `(tactic| walk_at "cr.n") => `(tactic| (try simp only [Cr.sets, L2.wipe, List.foldl_cons, List.foldl_nil, List.set_cons_zero, List.set_cons_succ]))
local macro_rules | `(tactic| walk_at "cr.k") => `(tactic| ((try simp only [Cr.cxK0, Cr.cxK1]); (try simp only [L2.start, List.map_cons, List.map_nil, List.length_cons, List.length_nil, List.cons_append, List.nil_append, Nat.reduceAdd, Nat.reduceSub, List.reduceReplicate, List.replicate, Nat.zero_add]); walk_at "cr.go"))

namespace Cr
open PySem PySem.Spec PyProof.Rows L2
section

def topS (i : Nat) : Stmt := PySem.Challenge.pw_crestpool_k21_whole_parted_pays_alike.main.body.getD i (.Pass ⟨0, 0, 0, 0⟩)
abbrev s_LotU_initU : Stmt := inClass (topS 12) 0
theorem sc_LotU_initU : FnScope ["self", "worth", "mark"] ["self", "worth", "mark"] (defScope s_LotU_initU) := ⟨rfl, rfl, rfl, by decide +kernel, rfl, by decide +kernel, by decide +kernel⟩
abbrev s_LotU_eqU : Stmt := inClass (topS 12) 1
theorem sc_LotU_eqU : FnScope ["self", "other"] ["self", "other"] (defScope s_LotU_eqU) := ⟨rfl, rfl, rfl, by decide +kernel, rfl, by decide +kernel, by decide +kernel⟩
abbrev s_lowest : Stmt := topS 5
theorem sc_lowest : FnScope ["top", "bottom", "one", "other"] ["top", "bottom"] (defScope s_lowest) := ⟨rfl, rfl, rfl, by decide +kernel, rfl, by decide +kernel, by decide +kernel⟩
abbrev s_minus : Stmt := topS 7
theorem sc_minus : FnScope ["one", "other"] ["one", "other"] (defScope s_minus) := ⟨rfl, rfl, rfl, by decide +kernel, rfl, by decide +kernel, by decide +kernel⟩
abbrev s_times : Stmt := topS 8
theorem sc_times : FnScope ["one", "other"] ["one", "other"] (defScope s_times) := ⟨rfl, rfl, rfl, by decide +kernel, rfl, by decide +kernel, by decide +kernel⟩
abbrev s_less : Stmt := topS 10
theorem sc_less : FnScope ["one", "other"] ["one", "other"] (defScope s_less) := ⟨rfl, rfl, rfl, by decide +kernel, rfl, by decide +kernel, by decide +kernel⟩
abbrev s_Lot_fee : Stmt := inClass (topS 12) 4
theorem sc_Lot_fee : FnScope ["self", "rate"] ["self", "rate"] (defScope s_Lot_fee) := ⟨rfl, rfl, rfl, by decide +kernel, rfl, by decide +kernel, by decide +kernel⟩
abbrev s_Lot_net : Stmt := inClass (topS 12) 5
theorem sc_Lot_net : FnScope ["self", "rate"] ["self", "rate"] (defScope s_Lot_net) := ⟨rfl, rfl, rfl, by decide +kernel, rfl, by decide +kernel, by decide +kernel⟩
abbrev s_Lot_scaled : Stmt := inClass (topS 12) 9
theorem sc_Lot_scaled : FnScope ["self", "factor"] ["self", "factor"] (defScope s_Lot_scaled) := ⟨rfl, rfl, rfl, by decide +kernel, rfl, by decide +kernel, by decide +kernel⟩
abbrev s_Lot_part : Stmt := inClass (topS 12) 10
theorem sc_Lot_part : FnScope ["self", "parts"] ["self", "parts"] (defScope s_Lot_part) := ⟨rfl, rfl, rfl, by decide +kernel, rfl, by decide +kernel, by decide +kernel⟩
abbrev s_Lot_rest : Stmt := inClass (topS 12) 11
theorem sc_Lot_rest : FnScope ["self", "parts"] ["self", "parts"] (defScope s_Lot_rest) := ⟨rfl, rfl, rfl, by decide +kernel, rfl, by decide +kernel, by decide +kernel⟩
abbrev s_plus : Stmt := topS 6
theorem sc_plus : FnScope ["one", "other"] ["one", "other"] (defScope s_plus) := ⟨rfl, rfl, rfl, by decide +kernel, rfl, by decide +kernel, by decide +kernel⟩
abbrev s_over : Stmt := topS 9
theorem sc_over : FnScope ["one", "other"] ["one", "other"] (defScope s_over) := ⟨rfl, rfl, rfl, by decide +kernel, rfl, by decide +kernel, by decide +kernel⟩
abbrev s_Lot_standing : Stmt := inClass (topS 12) 12
theorem sc_Lot_standing : FnScope ["self"] ["self"] (defScope s_Lot_standing) := ⟨rfl, rfl, rfl, by decide +kernel, rfl, by decide +kernel, by decide +kernel⟩
abbrev s_in_standing_order : Stmt := topS 13
theorem sc_in_standing_order : FnScope ["lots", "found", "one", "at"] ["lots"] (defScope s_in_standing_order) := ⟨rfl, rfl, rfl, by decide +kernel, rfl, by decide +kernel, by decide +kernel⟩
abbrev s_joined : Stmt := topS 14
theorem sc_joined : FnScope ["lots", "sums", "one", "key"] ["lots"] (defScope s_joined) := ⟨rfl, rfl, rfl, by decide +kernel, rfl, by decide +kernel, by decide +kernel⟩
abbrev s__law_bag : Stmt := topS 16
theorem sc__law_bag : FnScope ["_law_script", "_law_salt", "_law_cell"] ["_law_script"] (defScope s__law_bag) := ⟨rfl, rfl, rfl, by decide +kernel, rfl, by decide +kernel, by decide +kernel⟩
abbrev s__law_pull : Stmt := topS 17
theorem sc__law_pull : FnScope ["_law_bag_here", "_law_many", "_law_found", "_law_cell"] ["_law_bag_here", "_law_many"] (defScope s__law_pull) := ⟨rfl, rfl, rfl, by decide +kernel, rfl, by decide +kernel, by decide +kernel⟩
abbrev s__law_low : Stmt := topS 19
theorem sc__law_low : FnScope ["_law_upper", "_law_lower", "_law_one", "_law_other", "_law_keep"] ["_law_upper", "_law_lower"] (defScope s__law_low) := ⟨rfl, rfl, rfl, by decide +kernel, rfl, by decide +kernel, by decide +kernel⟩
abbrev s__law_wide : Stmt := topS 18
theorem sc__law_wide : FnScope ["_law_bag_here", "_law_many", "_law_low_here"] ["_law_bag_here", "_law_many"] (defScope s__law_wide) := ⟨rfl, rfl, rfl, by decide +kernel, rfl, by decide +kernel, by decide +kernel⟩
abbrev s__law_factor : Stmt := topS 20
theorem sc__law_factor : FnScope ["_law_bag_here", "_law_upper"] ["_law_bag_here"] (defScope s__law_factor) := ⟨rfl, rfl, rfl, by decide +kernel, rfl, by decide +kernel, by decide +kernel⟩
abbrev s__law_mul : Stmt := topS 21
theorem sc__law_mul : FnScope ["_law_one", "_law_other"] ["_law_one", "_law_other"] (defScope s__law_mul) := ⟨rfl, rfl, rfl, by decide +kernel, rfl, by decide +kernel, by decide +kernel⟩
abbrev s__law_lotpair : Stmt := topS 22
theorem sc__law_lotpair : FnScope ["_law_bag_here", "_law_mark", "_law_more"] ["_law_bag_here"] (defScope s__law_lotpair) := ⟨rfl, rfl, rfl, by decide +kernel, rfl, by decide +kernel, by decide +kernel⟩
abbrev s__law_tax : Stmt := topS 23
theorem sc__law_tax : FnScope ["_law_bag_here"] ["_law_bag_here"] (defScope s__law_tax) := ⟨rfl, rfl, rfl, by decide +kernel, rfl, by decide +kernel, by decide +kernel⟩
abbrev s__law_add : Stmt := topS 24
theorem sc__law_add : FnScope ["_law_one", "_law_other"] ["_law_one", "_law_other"] (defScope s__law_add) := ⟨rfl, rfl, rfl, by decide +kernel, rfl, by decide +kernel, by decide +kernel⟩
abbrev s__law_sum : Stmt := topS 25
theorem sc__law_sum : FnScope ["_law_rows", "_law_total", "_law_one"] ["_law_rows"] (defScope s__law_sum) := ⟨rfl, rfl, rfl, by decide +kernel, rfl, by decide +kernel, by decide +kernel⟩
abbrev s_Lot_harvested : Stmt := inClass (topS 12) 6
theorem sc_Lot_harvested : FnScope ["self", "rate", "left"] ["self", "rate"] (defScope s_Lot_harvested) := ⟨rfl, rfl, rfl, by decide +kernel, rfl, by decide +kernel, by decide +kernel⟩
abbrev s_Lot_grown : Stmt := inClass (topS 12) 7
theorem sc_Lot_grown : FnScope ["self", "factor"] ["self", "factor"] (defScope s_Lot_grown) := ⟨rfl, rfl, rfl, by decide +kernel, rfl, by decide +kernel, by decide +kernel⟩
abbrev s_Lot_raised : Stmt := inClass (topS 12) 8
theorem sc_Lot_raised : FnScope ["self", "factor"] ["self", "factor"] (defScope s_Lot_raised) := ⟨rfl, rfl, rfl, by decide +kernel, rfl, by decide +kernel, by decide +kernel⟩
abbrev s__law_turned : Stmt := topS 26
theorem sc__law_turned : FnScope ["_law_lot", "_law_deed"] ["_law_lot", "_law_deed"] (defScope s__law_turned) := ⟨rfl, rfl, rfl, by decide +kernel, rfl, by decide +kernel, by decide +kernel⟩
abbrev s_law : Stmt := topS 27
theorem sc_law : FnScope ["_law_script", "_law_bag_here", "_law_one", "_law_whole", "_law_pieces", "_law_k", "_law_lot", "_law_cents", "_law_deed"] ["_law_script"] (defScope s_law) := ⟨rfl, rfl, rfl, by decide +kernel, rfl, by decide +kernel, by decide +kernel⟩
/-- what the top has left -/
structure Top (w : World) (K : PySem.W.Frag) (mg : Str → Option Value) where
  n_isinstance : mg "isinstance" = none
  n_abs : mg "abs" = none
  n_len : mg "len" = none
  n_list : mg "list" = none
  n_range : mg "range" = none
  a_NOUGHT : Addr
  c_NOUGHT : mg "NOUGHT" = some (.ref a_NOUGHT)
  q_NOUGHT : ∀ H, SqT K H a_NOUGHT [.int 0, .int 1]
  t_WHOLE : Tok
  c_WHOLE : mg "WHOLE" = some (.int 10000 t_WHOLE)
  x_ByNought : Addr
  e_ByNought : ExcT K mg "ByNought" x_ByNought [.type "ZeroDivisionError", .type "ArithmeticError", .type "Exception", .type "BaseException", .type "object"] "ZeroDivisionError.__new__"
  f_LotU_initU : Addr
  fd_LotU_initU : FuncData
  F_LotU_initU : Fun K "__init__" "Lot.__init__" s_LotU_initU f_LotU_initU fd_LotU_initU
  b_LotU_initU : Binds K fd_LotU_initU ["self", "worth", "mark"] []
  k_LotU_initU : PySem.W.keepIn K (.ref f_LotU_initU) = true
  f_LotU_eqU : Addr
  fd_LotU_eqU : FuncData
  F_LotU_eqU : Fun K "__eq__" "Lot.__eq__" s_LotU_eqU f_LotU_eqU fd_LotU_eqU
  b_LotU_eqU : Binds K fd_LotU_eqU ["self", "other"] []
  k_LotU_eqU : PySem.W.keepIn K (.ref f_LotU_eqU) = true
  f_lowest : Addr
  fd_lowest : FuncData
  F_lowest : FunD K "lowest" "lowest" (defArgs s_lowest) (defBody s_lowest) (defScope s_lowest) [V.int 1] [] f_lowest fd_lowest
  k_lowest : PySem.W.keepIn K (.ref f_lowest) = true
  g_lowest : mg "lowest" = some (.ref f_lowest)
  f_minus : Addr
  fd_minus : FuncData
  F_minus : Fun K "minus" "minus" s_minus f_minus fd_minus
  b_minus : Binds K fd_minus ["one", "other"] []
  k_minus : PySem.W.keepIn K (.ref f_minus) = true
  g_minus : mg "minus" = some (.ref f_minus)
  f_times : Addr
  fd_times : FuncData
  F_times : Fun K "times" "times" s_times f_times fd_times
  b_times : Binds K fd_times ["one", "other"] []
  k_times : PySem.W.keepIn K (.ref f_times) = true
  g_times : mg "times" = some (.ref f_times)
  f_less : Addr
  fd_less : FuncData
  F_less : Fun K "less" "less" s_less f_less fd_less
  b_less : Binds K fd_less ["one", "other"] []
  k_less : PySem.W.keepIn K (.ref f_less) = true
  g_less : mg "less" = some (.ref f_less)
  f_Lot_fee : Addr
  fd_Lot_fee : FuncData
  F_Lot_fee : Fun K "fee" "Lot.fee" s_Lot_fee f_Lot_fee fd_Lot_fee
  b_Lot_fee : Binds K fd_Lot_fee ["self", "rate"] []
  k_Lot_fee : PySem.W.keepIn K (.ref f_Lot_fee) = true
  f_Lot_net : Addr
  fd_Lot_net : FuncData
  F_Lot_net : Fun K "net" "Lot.net" s_Lot_net f_Lot_net fd_Lot_net
  b_Lot_net : Binds K fd_Lot_net ["self", "rate"] []
  k_Lot_net : PySem.W.keepIn K (.ref f_Lot_net) = true
  f_Lot_scaled : Addr
  fd_Lot_scaled : FuncData
  F_Lot_scaled : Fun K "scaled" "Lot.scaled" s_Lot_scaled f_Lot_scaled fd_Lot_scaled
  b_Lot_scaled : Binds K fd_Lot_scaled ["self", "factor"] []
  k_Lot_scaled : PySem.W.keepIn K (.ref f_Lot_scaled) = true
  f_Lot_part : Addr
  fd_Lot_part : FuncData
  F_Lot_part : Fun K "part" "Lot.part" s_Lot_part f_Lot_part fd_Lot_part
  b_Lot_part : Binds K fd_Lot_part ["self", "parts"] []
  k_Lot_part : PySem.W.keepIn K (.ref f_Lot_part) = true
  f_Lot_rest : Addr
  fd_Lot_rest : FuncData
  F_Lot_rest : Fun K "rest" "Lot.rest" s_Lot_rest f_Lot_rest fd_Lot_rest
  b_Lot_rest : Binds K fd_Lot_rest ["self", "parts"] []
  k_Lot_rest : PySem.W.keepIn K (.ref f_Lot_rest) = true
  f_plus : Addr
  fd_plus : FuncData
  F_plus : Fun K "plus" "plus" s_plus f_plus fd_plus
  b_plus : Binds K fd_plus ["one", "other"] []
  k_plus : PySem.W.keepIn K (.ref f_plus) = true
  g_plus : mg "plus" = some (.ref f_plus)
  f_over : Addr
  fd_over : FuncData
  F_over : Fun K "over" "over" s_over f_over fd_over
  b_over : Binds K fd_over ["one", "other"] []
  k_over : PySem.W.keepIn K (.ref f_over) = true
  g_over : mg "over" = some (.ref f_over)
  f_Lot_standing : Addr
  fd_Lot_standing : FuncData
  F_Lot_standing : Fun K "standing" "Lot.standing" s_Lot_standing f_Lot_standing fd_Lot_standing
  b_Lot_standing : Binds K fd_Lot_standing ["self"] []
  k_Lot_standing : PySem.W.keepIn K (.ref f_Lot_standing) = true
  f_in_standing_order : Addr
  fd_in_standing_order : FuncData
  F_in_standing_order : Fun K "in_standing_order" "in_standing_order" s_in_standing_order f_in_standing_order fd_in_standing_order
  b_in_standing_order : Binds K fd_in_standing_order ["lots"] []
  k_in_standing_order : PySem.W.keepIn K (.ref f_in_standing_order) = true
  g_in_standing_order : mg "in_standing_order" = some (.ref f_in_standing_order)
  f_joined : Addr
  fd_joined : FuncData
  F_joined : Fun K "joined" "joined" s_joined f_joined fd_joined
  b_joined : Binds K fd_joined ["lots"] []
  k_joined : PySem.W.keepIn K (.ref f_joined) = true
  g_joined : mg "joined" = some (.ref f_joined)
  f__law_bag : Addr
  fd__law_bag : FuncData
  F__law_bag : Fun K "_law_bag" "_law_bag" s__law_bag f__law_bag fd__law_bag
  b__law_bag : Binds K fd__law_bag ["_law_script"] []
  k__law_bag : PySem.W.keepIn K (.ref f__law_bag) = true
  g__law_bag : mg "_law_bag" = some (.ref f__law_bag)
  f__law_pull : Addr
  fd__law_pull : FuncData
  F__law_pull : Fun K "_law_pull" "_law_pull" s__law_pull f__law_pull fd__law_pull
  b__law_pull : Binds K fd__law_pull ["_law_bag_here", "_law_many"] []
  k__law_pull : PySem.W.keepIn K (.ref f__law_pull) = true
  g__law_pull : mg "_law_pull" = some (.ref f__law_pull)
  f__law_low : Addr
  fd__law_low : FuncData
  F__law_low : Fun K "_law_low" "_law_low" s__law_low f__law_low fd__law_low
  b__law_low : Binds K fd__law_low ["_law_upper", "_law_lower"] []
  k__law_low : PySem.W.keepIn K (.ref f__law_low) = true
  g__law_low : mg "_law_low" = some (.ref f__law_low)
  f__law_wide : Addr
  fd__law_wide : FuncData
  F__law_wide : Fun K "_law_wide" "_law_wide" s__law_wide f__law_wide fd__law_wide
  b__law_wide : Binds K fd__law_wide ["_law_bag_here", "_law_many"] []
  k__law_wide : PySem.W.keepIn K (.ref f__law_wide) = true
  g__law_wide : mg "_law_wide" = some (.ref f__law_wide)
  f__law_factor : Addr
  fd__law_factor : FuncData
  F__law_factor : Fun K "_law_factor" "_law_factor" s__law_factor f__law_factor fd__law_factor
  b__law_factor : Binds K fd__law_factor ["_law_bag_here"] []
  k__law_factor : PySem.W.keepIn K (.ref f__law_factor) = true
  g__law_factor : mg "_law_factor" = some (.ref f__law_factor)
  f__law_mul : Addr
  fd__law_mul : FuncData
  F__law_mul : Fun K "_law_mul" "_law_mul" s__law_mul f__law_mul fd__law_mul
  b__law_mul : Binds K fd__law_mul ["_law_one", "_law_other"] []
  k__law_mul : PySem.W.keepIn K (.ref f__law_mul) = true
  g__law_mul : mg "_law_mul" = some (.ref f__law_mul)
  f__law_lotpair : Addr
  fd__law_lotpair : FuncData
  F__law_lotpair : Fun K "_law_lotpair" "_law_lotpair" s__law_lotpair f__law_lotpair fd__law_lotpair
  b__law_lotpair : Binds K fd__law_lotpair ["_law_bag_here"] []
  k__law_lotpair : PySem.W.keepIn K (.ref f__law_lotpair) = true
  g__law_lotpair : mg "_law_lotpair" = some (.ref f__law_lotpair)
  f__law_tax : Addr
  fd__law_tax : FuncData
  F__law_tax : Fun K "_law_tax" "_law_tax" s__law_tax f__law_tax fd__law_tax
  b__law_tax : Binds K fd__law_tax ["_law_bag_here"] []
  k__law_tax : PySem.W.keepIn K (.ref f__law_tax) = true
  g__law_tax : mg "_law_tax" = some (.ref f__law_tax)
  f__law_add : Addr
  fd__law_add : FuncData
  F__law_add : Fun K "_law_add" "_law_add" s__law_add f__law_add fd__law_add
  b__law_add : Binds K fd__law_add ["_law_one", "_law_other"] []
  k__law_add : PySem.W.keepIn K (.ref f__law_add) = true
  g__law_add : mg "_law_add" = some (.ref f__law_add)
  f__law_sum : Addr
  fd__law_sum : FuncData
  F__law_sum : Fun K "_law_sum" "_law_sum" s__law_sum f__law_sum fd__law_sum
  b__law_sum : Binds K fd__law_sum ["_law_rows"] []
  k__law_sum : PySem.W.keepIn K (.ref f__law_sum) = true
  g__law_sum : mg "_law_sum" = some (.ref f__law_sum)
  f_Lot_harvested : Addr
  fd_Lot_harvested : FuncData
  F_Lot_harvested : Fun K "harvested" "Lot.harvested" s_Lot_harvested f_Lot_harvested fd_Lot_harvested
  b_Lot_harvested : Binds K fd_Lot_harvested ["self", "rate"] []
  k_Lot_harvested : PySem.W.keepIn K (.ref f_Lot_harvested) = true
  f_Lot_grown : Addr
  fd_Lot_grown : FuncData
  F_Lot_grown : Fun K "grown" "Lot.grown" s_Lot_grown f_Lot_grown fd_Lot_grown
  b_Lot_grown : Binds K fd_Lot_grown ["self", "factor"] []
  k_Lot_grown : PySem.W.keepIn K (.ref f_Lot_grown) = true
  f_Lot_raised : Addr
  fd_Lot_raised : FuncData
  F_Lot_raised : Fun K "raised" "Lot.raised" s_Lot_raised f_Lot_raised fd_Lot_raised
  b_Lot_raised : Binds K fd_Lot_raised ["self", "factor"] []
  k_Lot_raised : PySem.W.keepIn K (.ref f_Lot_raised) = true
  f__law_turned : Addr
  fd__law_turned : FuncData
  F__law_turned : Fun K "_law_turned" "_law_turned" s__law_turned f__law_turned fd__law_turned
  b__law_turned : Binds K fd__law_turned ["_law_lot", "_law_deed"] []
  k__law_turned : PySem.W.keepIn K (.ref f__law_turned) = true
  g__law_turned : mg "_law_turned" = some (.ref f__law_turned)
  C_Lot : Addr
  c_Lot : mg "Lot" = some (.ref C_Lot)
  cl_Lot : Cls K C_Lot
  na_Lot_worth : NoAttr K C_Lot "worth"
  na_Lot_mark : NoAttr K C_Lot "mark"
  M_Lot : Mk K C_Lot f_LotU_initU
  m_LotU_eqU : Meth K C_Lot "__eq__" f_LotU_eqU
  m_Lot_fee : Meth K C_Lot "fee" f_Lot_fee
  m_Lot_net : Meth K C_Lot "net" f_Lot_net
  m_Lot_harvested : Meth K C_Lot "harvested" f_Lot_harvested
  m_Lot_grown : Meth K C_Lot "grown" f_Lot_grown
  m_Lot_raised : Meth K C_Lot "raised" f_Lot_raised
  m_Lot_scaled : Meth K C_Lot "scaled" f_Lot_scaled
  m_Lot_part : Meth K C_Lot "part" f_Lot_part
  m_Lot_rest : Meth K C_Lot "rest" f_Lot_rest
  m_Lot_standing : Meth K C_Lot "standing" f_Lot_standing
  lot_ca : PySem.W.findIn K (.ref C_Lot) "__class__" = some (some (.builtin "object.__class__"))
  lot_cn : PySem.W.specialIn K (.builtin "object.__class__") "__get__" = some (some (.builtin "getset_descriptor.__get__"))
  lot_ct : PySem.W.takesIn K (.builtin "object.__class__") = some true
  lot_cm : PySem.W.mroIn K C_Lot (.type "object") = some true
section
variable {w : World} {K : PySem.W.Frag} {mg : Str → Option Value}
theorem bi_lowest_2 (T : Top w K mg) : ∃ ds, Vals [] ds ∧ Binds K T.fd_lowest ["top", "bottom"] ds :=
  T.F_lowest.binds1 2 1 (by simp) rfl fun _ _ _ _ _ _ _ us its h1 h2 => match us, its, h1, h2 with | [_, _], [_], _, _ => ⟨_, rfl, rfl⟩
end
variable {P : Program} {w : World} {K : PySem.W.Frag} {mg : Str → Option Value} {base : Heap}
/-! ### LotU_initU -/
def sp_LotU_initU (_K : PySem.W.Frag) (C : Addr) : Sp := fun vs H Q _ => ∃ (p dx : Addr) (x y : V), vs = [.ref p, x, y] ∧ H p = some (.ins C dx []) ∧ ∀ H', (∀ b o, b ≠ p → H b = some o → H' b = some o) → H' p = some (.ins C dx [(("worth" : Str), x), (("mark" : Str), y)]) → Q .non H'
theorem put_wm (x y : V) : putF "mark" y (putF "worth" x []) = [(("worth" : Str), x), (("mark" : Str), y)] := by
  show (if ("worth" : Str) = "mark" then [(("worth" : Str), y)] else (("worth" : Str), x) :: putF "mark" y []) = _
  rw [if_neg wm]
  rfl
theorem ok_LotU_initU (T : Top w K mg) : FnOk P w K mg base CX0 1 T.f_LotU_initU T.fd_LotU_initU ["self", "worth", "mark"] (sp_LotU_initU K T.C_Lot) := by
  have hcl_Lot := T.cl_Lot
  have hna_Lot_worth := T.na_Lot_worth
  have hna_Lot_mark := T.na_Lot_mark
  refine T.F_LotU_initU.ok sc_LotU_initU (fun vs H Q E h => by obtain ⟨p, dx, x, y, rfl, _⟩ := h; rfl) (fun cdv A outer s H vs Q E hr h => ?_)
  obtain ⟨p, dx, x, y, rfl, hp, q⟩ := h
  refine ⟨_, (pss_cons (ps_fld (pv 0) (pv 1) rfl)
      (pss_one (ps_fld (pv 0) (pv 2) rfl))), ?_⟩
  refine s_seq ?_
  refine ⟨x, rfl, .ref p, rfl, p, T.C_Lot, dx, [], rfl, hp, T.cl_Lot, T.na_Lot_worth, by show 0 < 1000; decide, y, rfl, .ref p, rfl, p, T.C_Lot, dx, _, rfl, upd_same, T.cl_Lot, T.na_Lot_mark, (by show 1 < 1000; decide), ?_⟩
  exact q _ (fun b o hb e => by rw [upd_ne hb, upd_ne hb]; exact e) (by rw [upd_same, put_wm])
theorem u_makeLot {C : Addr} {H : Hp} {Q : VK} {E : XK} {vs : List V} {x y : V} {w m : Rat} (e : vs = [x, y]) (hx : Dt K H x (fr w)) (hy : Dt K H y (fr m)) (q : ∀ v H', Same H H' → IsLot K C H' v w m → Q v H') : MakeQ C (sp_LotU_initU K C) [] E vs H Q := by
  subst e
  intro p dx np nd ne
  refine ⟨p, dx, x, y, rfl, upd_same, fun H' k hp => ⟨rfl, ?_⟩⟩
  have s : Same H H' := Same.made np nd (fun b o e hb => k b o hb e)
  exact q _ _ s ⟨p, dx, x, y, rfl, hp, hx.mono (kt_same s), hy.mono (kt_same s)⟩
local macro_rules | `(tactic| walk_at "cr.call") => `(tactic| ((with_reducible refine' Cr.u_makeLot ?e ?a ?b ?_); (case e => with_unfolding_all rfl); (case a => walk_at "cr.dt"); (case b => walk_at "cr.dt"); intro v H' hs hl))

/-! ### LotU_eqU -/
def LotR (K : PySem.W.Frag) (C : Addr) : Addr → Addr → Hp → Prop := fun a b H => ∃ w m, IsLot K C H (.ref a) w m ∧ IsLot K C H (.ref b) w m
def sp_LotU_eqU (K : PySem.W.Frag) (C : Addr) : Sp := spEq (LotR K C)
theorem s_isOwn {H : Hp} {Q : VK} {C : Addr} {v : V} {w m : Rat} (hl : IsLot K C H v w m) (cl : Cls K C) (ha : PySem.W.findIn K (.ref C) "__class__" = some (some (.builtin "object.__class__")))
    (hn : PySem.W.specialIn K (.builtin "object.__class__") "__get__" = some (some (.builtin "getset_descriptor.__get__"))) (ht : PySem.W.takesIn K (.builtin "object.__class__") = some true) (hm : PySem.W.mroIn K C (.type "object") = some true)
    (q : Q (.bl true) H) : rIsi K [v, .ref C] H Q := by
  obtain ⟨a, dx, x, y, rfl, h1, _⟩ := hl
  exact ⟨_, _, .ref C, .ref C, true, rfl, .own C, .base (.ins h1 cl ha hn ht hm), by show (if (Value.ref C == Value.ref C) = true then some true else _) = some true; rw [if_pos (beq_self_eq_true _)], q⟩
theorem s_eqLot {H : Hp} {Q : VK} {C : Addr} {x y : V} {w m : Rat} (h1 : IsLot K C H x w m) (h2 : IsLot K C H y w m) (q : ∀ H', Same H H' → Q (.bl true) H') : rEqG (DIns C (LotR K C)) x y H Q := by
  have k1 := h1
  have k2 := h2
  obtain ⟨a, dx, x1, y1, rfl, e1, _⟩ := h1
  obtain ⟨b, dy, x2, y2, rfl, e2, _⟩ := h2
  exact ⟨⟨a, b, dx, dy, _, _, rfl, rfl, e1, e2, w, m, k1, k2⟩, q⟩
theorem ok_LotU_eqU (T : Top w K mg) : FnOk P w K mg base CX0 1 T.f_LotU_eqU T.fd_LotU_eqU ["self", "other"] (sp_LotU_eqU K T.C_Lot) := by
  have hcl_Lot := T.cl_Lot
  have hna_Lot_worth := T.na_Lot_worth
  have hna_Lot_mark := T.na_Lot_mark
  refine T.F_LotU_eqU.ok sc_LotU_eqU (fun vs H Q E h => by obtain ⟨a, b, rfl, _⟩ := h; rfl) (fun cdv A outer s H vs Q E hr h => ?_)
  obtain ⟨a, b, rfl, ⟨w, m, h1, h2⟩, q⟩ := h
  refine ⟨_, (pss_cons (ps_if (pt_not (pt_tru (pe_callB call_isi (by rfl) T.n_isinstance (by decide +kernel) (pa_cons (pv 1) (pa_cons (pe_glob (v := .ref T.C_Lot) (by rfl) T.c_Lot rfl) pa_nil))))) (pss_one (ps_ret pe_bl)) pss_nil)
      (pss_one (ps_ret (pe_and (pe_cmpR (op_eqD hr.units) (pe_fld (pv 0) rfl) (pe_fld (pv 1) rfl) (nomark _)) (pe_one (pe_cmpR (op_eqD hr.units) (pe_fld (pv 0) rfl) (pe_fld (pv 1) rfl) (nomark _))))))), ?_⟩
  walk_at "cr.k"
  refine s_isOwn h2 T.cl_Lot T.lot_ca T.lot_cn T.lot_ct T.lot_cm ?_
  walk_at "cr.go"
  exact q _ (fun _ _ e => e)
local macro_rules | `(tactic| walk_at "cr.call") => `(tactic| ((with_reducible refine' Cr.s_eqLot ?a ?b ?_); (case a => walk_at "cr.lot"); (case b => walk_at "cr.lot"); intro H' hs))

/-! ### lowest -/
def sp_lowest (K : PySem.W.Frag) (C : Addr) : Sp := fun vs H Q E => ∃ t b : Int, vs = [.int t, .int b] ∧ b.natAbs < 2 ^ 8000 ∧ (b = 0 → E (.ref C) none H) ∧ (b ≠ 0 → ∀ v H', Same H H' → Fz H' v (Rat.divInt t b) → Q v H')
theorem u_lowestF {C : Addr} {H : Hp} {Q : VK} {E : XK} {vs : List V} {t b : Int} (e : vs = [.int t, .int b]) (z1 : b ≠ 0) (z2 : b.natAbs < 2 ^ 8000) (q : ∀ v H', Same H H' → Fz H' v (Rat.divInt t b) → Q v H') : sp_lowest K C vs H Q E := ⟨t, b, e, z2, fun z => absurd z z1, fun _ => q⟩
theorem u_lowest {C : Addr} {H : Hp} {Q : VK} {E : XK} {vs : List V} {t b : Int} (e : vs = [.int t, .int b]) (z1 : b ≠ 0) (z2 : b.natAbs < 2 ^ 8000) (q : ∀ v H', Same H H' → Dt K H' v (fr (Rat.divInt t b)) → Q v H') : sp_lowest K C vs H Q E := ⟨t, b, e, z2, fun z => absurd z z1, fun _ v H' s f => q v H' s f.dt⟩
theorem u_lowest0 {C : Addr} {H : Hp} {Q : VK} {E : XK} {vs : List V} {t b : Int} (e : vs = [.int t, .int b]) (hb : b = 0) (q : E (.ref C) none H) : sp_lowest K C vs H Q E := ⟨t, b, e, by subst hb; exact Nat.pow_pos (by decide), fun _ => q, fun z => absurd hb z⟩
theorem ok_lowest (T : Top w K mg) : FnOk P w K mg base (L2.CX P w) 1 T.f_lowest T.fd_lowest ["top", "bottom"] (sp_lowest K T.x_ByNought) := by
  have hcl_Lot := T.cl_Lot
  have hna_Lot_worth := T.na_Lot_worth
  have hna_Lot_mark := T.na_Lot_mark
  refine T.F_lowest.ok sc_lowest (fun vs H Q E h => by obtain ⟨t, b, rfl, _⟩ := h; rfl) (fun cdv A outer s H vs Q E hr h => ?_)
  obtain ⟨t, b, rfl, hz, q0, q⟩ := h
  refine ⟨_, (pss_cons (ps_if (pt_cmpR (op_eqD hr.units) (pv 1) pe_int (nomark _)) (pss_one (ps_raise rfl (takes_of rfl rfl rfl rfl) (pmk_own0 PySem.F.excBase_ZeroDivisionError T.e_ByNought.q T.e_ByNought.g T.e_ByNought.k (raises_own T.e_ByNought.s T.e_ByNought.t) (by exact rfl)))) pss_nil)
      (pss_cons (ps_par (i := 2) (j := 3) (by rfl) sc_lowest.nd rfl rfl (by decide) rfl rfl (pa_cons (pe_callB call_absU (by rfl) T.n_abs (by decide +kernel) (pa_cons (pv 0) pa_nil)) (pa_cons (pe_callB call_absU (by rfl) T.n_abs (by decide +kernel) (pa_cons (pv 1) pa_nil)) pa_nil)) (by rfl))
      (pss_cons (ps_while (passes_of rfl) (pt_tru (pv 3)) (pss_one (ps_par (i := 2) (j := 3) (by rfl) sc_lowest.nd rfl rfl (by decide) rfl rfl (pa_cons (pv 3) (pa_cons (pe_op op_modU (pv 2) (pv 3)) pa_nil)) (by rfl))))
      (pss_cons (ps_if (pt_cmpR op_ltI (pv 1) pe_int (nomark _)) (pss_one (ps_set (i := 2) sc_lowest.nd rfl (Or.inl rfl) (pe_un un_negU (pv 2)))) pss_nil)
      (pss_one (ps_ret (pe_tup (pa_cons (pe_op op_divU (pv 0) (pv 2)) (pa_cons (pe_op op_divU (pv 1) (pv 2)) pa_nil))))))))), ?_⟩
  walk_at "cr.k"
  refine s_iteD (fun hb => q0 hb) (fun hb => ?_)
  have q := q hb
  clear q0
  walk_at "cr.go"
  refine ⟨fun m σ' H' => ∃ a : Nat, σ' = [some (.int t), some (.int b), some (.int a), some (.int (m : Nat))] ∧ Nat.gcd a m = Nat.gcd t.natAbs b.natAbs ∧ H' = H, ⟨b.natAbs, t.natAbs, rfl, rfl, rfl⟩, ?_⟩
  rintro k σ' H' ⟨a, rfl, hg, rfl⟩
  walk_at "cr.go"
  by_cases hk : k = 0
  · subst hk
    rw [show (((0 : Nat) : Int) != 0) = false by rfl]
    have hg' : a = Nat.gcd t.natAbs b.natAbs := by rw [← hg]; simp
    have gp := gcd_pos (t := t) hb
    have lg : (Nat.gcd t.natAbs b.natAbs) ≤ b.natAbs := Nat.le_of_dvd (by omega) (Nat.gcd_dvd_right _ _)
    walk_at "cr.go"
    have dz : ∀ i : Int, CDivZ i (lowG t b) := fun i => dz_of (n := 8000) (by unfold lowG; split <;> omega) (Nat.lt_of_le_of_lt (by unfold lowG; split <;> omega) hz) (by decide) (by decide)
    by_cases h : b < 0
    · rw [decide_eq_true h]
      have e : -(a : Int) = lowG t b := by rw [lowG, if_pos h, hg']
      walk_at "cr.go"
      rw [e]
      have d1 := dz t
      have d2 := dz b
      walk_at "cr.go"
      rename_i p hp
      rw [low_num hb, low_den hb]
      exact q _ _ (same_new hp) fz_new
    · rw [decide_eq_false h]
      have e : (a : Int) = lowG t b := by rw [lowG, if_neg h, hg']
      walk_at "cr.go"
      rw [e]
      have d1 := dz t
      have d2 := dz b
      walk_at "cr.go"
      rename_i p hp
      rw [low_num hb, low_den hb]
      exact q _ _ (same_new hp) fz_new
  · rw [show ((k : Int) != 0) = true from bne_iff_ne.mpr (by omega)]
    refine iteT ⟨fun σ' H' => ∃ m', m' < k ∧ ∃ a : Nat, σ' = [some (.int t), some (.int b), some (.int a), some (.int (m' : Nat))] ∧ Nat.gcd a m' = Nat.gcd t.natAbs b.natAbs ∧ H' = _, fun _ _ h => h, ?_⟩
    walk_at "cr.go"
    refine ⟨a % k, Nat.mod_lt _ (by omega), k, ?_, (gcd_turn a k).trans hg, rfl⟩
    rw [show ((a : Int).fmod (k : Int)) = ((a % k : Nat) : Int) by rw [Int.fmod_eq_emod_of_nonneg _ (by omega)]; rfl]
    try rfl
local macro_rules | `(tactic| walk_at "cr.call") => `(tactic| ((with_reducible refine' Cr.u_lowest ?e ?a ?b ?_); (case e => with_unfolding_all rfl); (case a => first | with_reducible assumption | omega); (case b => walk_at "cr.pw"); intro v H' hs hd))

/-! ### minus -/
def sp_minus (K : PySem.W.Frag) (C : Addr) : Sp := fun vs H Q E => ∃ (x y : V) (r s : Rat), vs = [x, y] ∧ Dt K H x (fr r) ∧ Dt K H y (fr s) ∧ Sz 4000 r ∧ Sz 4000 s ∧ (∀ v H', Same H H' → Dt K H' v (fr (r - s)) → Q v H')
theorem u_minus {C : Addr} {H : Hp} {Q : VK} {E : XK} {vs : List V} {x y : V} {r s : Rat} (e : vs = [x, y]) (hx : Dt K H x (fr r)) (hy : Dt K H y (fr s)) (z1 : Sz 4000 r) (z2 : Sz 4000 s) (q : ∀ v H', Same H H' → Dt K H' v (fr (r - s)) → Q v H') : sp_minus K C vs H Q E := ⟨x, y, r, s, e, hx, hy, z1, z2, q⟩
theorem ok_minus (T : Top w K mg) : FnOk P w K mg base (L2.CX P w) 2 T.f_minus T.fd_minus ["one", "other"] (sp_minus K T.x_ByNought) := by
  have G_lowest := ok_lowest (P := P) (w := w) (base := base) T
  have hcl_Lot := T.cl_Lot
  have hna_Lot_worth := T.na_Lot_worth
  have hna_Lot_mark := T.na_Lot_mark
  obtain ⟨_, v_lowest_2, b_lowest_2⟩ := bi_lowest_2 T
  cases v_lowest_2
  refine T.F_minus.okX sc_minus (fun vs H Q E h => by obtain ⟨x, y, r, s, rfl, _⟩ := h; rfl) (fun cdv A outer s0 H vs Q E hr h => ?_)
  obtain ⟨x, y, r, s, rfl, hx, hy, z1, z2, q⟩ := h
  refine ⟨_, (pss_one (ps_ret (pe_call (G_lowest) (hr.mono (by decide)) (by rfl) T.g_lowest T.k_lowest b_lowest_2 .nil passL (pa_cons (pe_op op_subU (pe_op op_mulU (pe_ix ix_seq (pv 0) pe_int (fun _ _ => rfl)) (pe_ix ix_seq (pv 1) pe_int (fun _ _ => rfl))) (pe_op op_mulU (pe_ix ix_seq (pv 1) pe_int (fun _ _ => rfl)) (pe_ix ix_seq (pv 0) pe_int (fun _ _ => rfl)))) (pa_cons (pe_op op_mulU (pe_ix ix_seq (pv 0) pe_int (fun _ _ => rfl)) (pe_ix ix_seq (pv 1) pe_int (fun _ _ => rfl))) pa_nil))))), ?_⟩
  have z1' := z1.mono (show 4000 ≤ 400000 by decide)
  have z2' := z2.mono (show 4000 ≤ 400000 by decide)
  have dn : (r.den : Int) * s.den ≠ 0 := Int.mul_ne_zero (den_ne r) (den_ne s)
  have dz : ((r.den : Int) * s.den).natAbs < 2 ^ 8000 := natAbs_lt_mul z1.dA z2.dA
  walk_at "cr.k"
  rename_i v H' hs hd
  rw [rat_sub] at hd
  exact q _ _ (by walk_at "cr.sm") (by walk_at "cr.dt")
local macro_rules | `(tactic| walk_at "cr.call") => `(tactic| ((with_reducible refine' Cr.u_minus ?e ?a ?b ?c ?d ?_); (case e => with_unfolding_all rfl); (case a => walk_at "cr.dt"); (case b => walk_at "cr.dt"); (case c => walk_at "cr.z"); (case d => walk_at "cr.z"); intro v H' hs hd))

/-! ### times -/
def sp_times (K : PySem.W.Frag) (C : Addr) : Sp := fun vs H Q E => ∃ (x y : V) (r s : Rat), vs = [x, y] ∧ Dt K H x (fr r) ∧ Dt K H y (fr s) ∧ Sz 4000 r ∧ Sz 4000 s ∧ (∀ v H', Same H H' → Dt K H' v (fr (r * s)) → Q v H')
theorem u_times {C : Addr} {H : Hp} {Q : VK} {E : XK} {vs : List V} {x y : V} {r s : Rat} (e : vs = [x, y]) (hx : Dt K H x (fr r)) (hy : Dt K H y (fr s)) (z1 : Sz 4000 r) (z2 : Sz 4000 s) (q : ∀ v H', Same H H' → Dt K H' v (fr (r * s)) → Q v H') : sp_times K C vs H Q E := ⟨x, y, r, s, e, hx, hy, z1, z2, q⟩
theorem ok_times (T : Top w K mg) : FnOk P w K mg base (L2.CX P w) 2 T.f_times T.fd_times ["one", "other"] (sp_times K T.x_ByNought) := by
  have G_lowest := ok_lowest (P := P) (w := w) (base := base) T
  have hcl_Lot := T.cl_Lot
  have hna_Lot_worth := T.na_Lot_worth
  have hna_Lot_mark := T.na_Lot_mark
  obtain ⟨_, v_lowest_2, b_lowest_2⟩ := bi_lowest_2 T
  cases v_lowest_2
  refine T.F_times.okX sc_times (fun vs H Q E h => by obtain ⟨x, y, r, s, rfl, _⟩ := h; rfl) (fun cdv A outer s0 H vs Q E hr h => ?_)
  obtain ⟨x, y, r, s, rfl, hx, hy, z1, z2, q⟩ := h
  refine ⟨_, (pss_one (ps_ret (pe_call (G_lowest) (hr.mono (by decide)) (by rfl) T.g_lowest T.k_lowest b_lowest_2 .nil passL (pa_cons (pe_op op_mulU (pe_ix ix_seq (pv 0) pe_int (fun _ _ => rfl)) (pe_ix ix_seq (pv 1) pe_int (fun _ _ => rfl))) (pa_cons (pe_op op_mulU (pe_ix ix_seq (pv 0) pe_int (fun _ _ => rfl)) (pe_ix ix_seq (pv 1) pe_int (fun _ _ => rfl))) pa_nil))))), ?_⟩
  have z1' := z1.mono (show 4000 ≤ 400000 by decide)
  have z2' := z2.mono (show 4000 ≤ 400000 by decide)
  have dn : (r.den : Int) * s.den ≠ 0 := Int.mul_ne_zero (den_ne r) (den_ne s)
  have dz : ((r.den : Int) * s.den).natAbs < 2 ^ 8000 := natAbs_lt_mul z1.dA z2.dA
  walk_at "cr.k"
  rename_i v H' hs hd
  rw [rat_mul] at hd
  exact q _ _ (by walk_at "cr.sm") (by walk_at "cr.dt")
local macro_rules | `(tactic| walk_at "cr.call") => `(tactic| ((with_reducible refine' Cr.u_times ?e ?a ?b ?c ?d ?_); (case e => with_unfolding_all rfl); (case a => walk_at "cr.dt"); (case b => walk_at "cr.dt"); (case c => walk_at "cr.z"); (case d => walk_at "cr.z"); intro v H' hs hd))

/-! ### less -/
def sp_less (K : PySem.W.Frag) : Sp := spV K (fun x : Rat × Rat => [fr x.1, fr x.2]) (fun x => Sz 400000 x.1 ∧ Sz 400000 x.2) (fun x => .bl (decide (x.1 < x.2)))
theorem u_less {H : Hp} {Q : VK} {E : XK} {vs : List V} {x y : V} {r s : Rat} (e : vs = [x, y]) (hx : Dt K H x (fr r)) (hy : Dt K H y (fr s)) (z1 : Sz 400000 r) (z2 : Sz 400000 s) (q : Q (.bl (decide (r < s))) H) : sp_less K vs H Q E := by
  subst e
  exact ⟨(r, s), .cons hx (.cons hy .nil), ⟨z1, z2⟩, q⟩
theorem ok_less (T : Top w K mg) : FnOk P w K mg base CX0 1 T.f_less T.fd_less ["one", "other"] (sp_less K) := by
  have hcl_Lot := T.cl_Lot
  have hna_Lot_worth := T.na_Lot_worth
  have hna_Lot_mark := T.na_Lot_mark
  refine T.F_less.ok sc_less (fun vs H Q E h => by obtain ⟨x, h, _⟩ := h; exact h.len) (fun cdv A outer s H vs Q E hr h => ?_)
  obtain ⟨⟨r, t⟩, hd, ⟨z1, z2⟩, q⟩ := h
  obtain ⟨x, y, rfl, hx, hy⟩ := da2 hd
  dsimp only at hx hy q z1 z2
  refine ⟨_, (pss_one (ps_ret (pe_cmpR op_ltI (pe_op op_mulU (pe_ix ix_seq (pv 0) pe_int (fun _ _ => rfl)) (pe_ix ix_seq (pv 1) pe_int (fun _ _ => rfl))) (pe_op op_mulU (pe_ix ix_seq (pv 1) pe_int (fun _ _ => rfl)) (pe_ix ix_seq (pv 0) pe_int (fun _ _ => rfl))) (nomark _)))), ?_⟩
  walk_at "cr.k"
  rw [lt_dec]
  exact q
local macro_rules | `(tactic| walk_at "cr.call") => `(tactic| ((with_reducible refine' Cr.u_less ?e ?a ?b ?c ?d ?_); (case e => with_unfolding_all rfl); (case a => walk_at "cr.dt"); (case b => walk_at "cr.dt"); (case c => walk_at "cr.z"); (case d => walk_at "cr.z")))

/-! ### Lot_fee -/
theorem Top.nought {K : PySem.W.Frag} {mg : Str → Option Value} (T : Top w K mg) (H : Hp) : Dt K H (.ref T.a_NOUGHT) (fr 0) := show Dt K H (.ref T.a_NOUGHT) (.tuple [.int 0, .int 1]) from .tup (T.q_NOUGHT H) (.cons (.int 0) (.cons (.int 1) .nil))
def sp_Lot_fee (K : PySem.W.Frag) (C : Addr) : Sp := fun vs H Q _ => ∃ (v : V) (w m : Rat) (i : Int), vs = [v, .int i] ∧ IsLot K C H v w m ∧ Sz 1900 w ∧ Sz 1900 m ∧ 0 ≤ i ∧ i ≤ 10000 ∧ ∀ x H', Same H H' → Dt K H' x (fr (feeR w m i)) → Q x H'
theorem u_Lot_fee {C : Addr} {H : Hp} {Q : VK} {E : XK} {vs : List V} {v : V} {w m : Rat} {i : Int} (e : vs = [v, .int i]) (hl : IsLot K C H v w m) (z1 : Sz 1900 w) (z2 : Sz 1900 m) (i0 : 0 ≤ i) (i1 : i ≤ 10000) (q : ∀ x H', Same H H' → Dt K H' x (fr (feeR w m i)) → Q x H') : sp_Lot_fee K C vs H Q E := ⟨v, w, m, i, e, hl, z1, z2, i0, i1, q⟩
theorem ok_Lot_fee (T : Top w K mg) : FnOk P w K mg base CX0 3 T.f_Lot_fee T.fd_Lot_fee ["self", "rate"] (sp_Lot_fee K T.C_Lot) := by
  have G_lowest := ok_lowest (P := P) (w := w) (base := base) T
  have G_minus := ok_minus (P := P) (w := w) (base := base) T
  have G_times := ok_times (P := P) (w := w) (base := base) T
  have G_less := ok_less (P := P) (w := w) (base := base) T
  have hcl_Lot := T.cl_Lot
  have hna_Lot_worth := T.na_Lot_worth
  have hna_Lot_mark := T.na_Lot_mark
  obtain ⟨_, v_lowest_2, b_lowest_2⟩ := bi_lowest_2 T
  cases v_lowest_2
  have hN := T.nought
  refine T.F_Lot_fee.ok sc_Lot_fee (fun vs H Q E h => by obtain ⟨v, w, m, i, rfl, _⟩ := h; rfl) (fun cdv A outer s H vs Q E hr h => ?_)
  obtain ⟨v, w, m, i, rfl, hl, z1, z2, i0, i1, q⟩ := h
  refine ⟨_, (pss_cons (ps_if (pt_not (pt_tru (pe_call (G_less) (hr.mono (by decide)) (by rfl) T.g_less T.k_less T.b_less .nil pass0 (pa_cons (pe_fld (pv 0) rfl) (pa_cons (pe_fld (pv 0) rfl) pa_nil))))) (pss_one (ps_ret (pe_glob (v := .ref T.a_NOUGHT) (by rfl) T.c_NOUGHT rfl))) pss_nil)
      (pss_one (ps_ret (pe_call (G_times) (hr.mono (by decide)) (by rfl) T.g_times T.k_times T.b_times .nil passL (pa_cons (pe_call (G_minus) (hr.mono (by decide)) (by rfl) T.g_minus T.k_minus T.b_minus .nil passL (pa_cons (pe_fld (pv 0) rfl) (pa_cons (pe_fld (pv 0) rfl) pa_nil))) (pa_cons (pe_call (G_lowest) (hr.mono (by decide)) (by rfl) T.g_lowest T.k_lowest b_lowest_2 .nil passL (pa_cons (pv 1) (pa_cons (pe_glob (v := .int 10000) (by rfl) T.c_WHOLE ⟨_, rfl⟩) pa_nil))) pa_nil)))))), ?_⟩
  walk_at "cr.k"
  refine s_iteN (fun h => ?_) (fun h => ?_)
  · walk_at "cr.go"
    have e : feeR w m i = 0 := by unfold feeR; rw [if_neg h]
    rw [e] at q
    exact q _ _ (Same.refl _) (hN _)
  · have e : feeR w m i = (w - m) * Rat.divInt i 10000 := by unfold feeR; rw [if_pos h]
    rw [e] at q
    walk_at "cr.go"
    exact q _ _ (by walk_at "cr.sm") (by walk_at "cr.dt")
local macro_rules | `(tactic| walk_at "cr.call") => `(tactic| ((with_reducible refine' Cr.u_Lot_fee ?e ?a ?b ?c ?d ?f ?_); (case e => with_unfolding_all rfl); (case a => walk_at "cr.lot"); (case b => walk_at "cr.z"); (case c => walk_at "cr.z"); (case d => omega); (case f => omega); intro x H' hs hd))

/-! ### Lot_net -/
def sp_Lot_net (K : PySem.W.Frag) (C : Addr) : Sp := fun vs H Q _ => ∃ (v : V) (w m : Rat) (i : Int), vs = [v, .int i] ∧ IsLot K C H v w m ∧ Sz 1000 w ∧ Sz 1000 m ∧ 0 ≤ i ∧ i ≤ 10000 ∧ ∀ x H', Same H H' → Dt K H' x (fr (w - feeR w m i)) → Q x H'
theorem u_Lot_net {C : Addr} {H : Hp} {Q : VK} {E : XK} {vs : List V} {v : V} {w m : Rat} {i : Int} (e : vs = [v, .int i]) (hl : IsLot K C H v w m) (z1 : Sz 1000 w) (z2 : Sz 1000 m) (i0 : 0 ≤ i) (i1 : i ≤ 10000) (q : ∀ x H', Same H H' → Dt K H' x (fr (w - feeR w m i)) → Q x H') : sp_Lot_net K C vs H Q E := ⟨v, w, m, i, e, hl, z1, z2, i0, i1, q⟩
theorem ok_Lot_net (T : Top w K mg) : FnOk P w K mg base CX0 4 T.f_Lot_net T.fd_Lot_net ["self", "rate"] (sp_Lot_net K T.C_Lot) := by
  have G_minus := ok_minus (P := P) (w := w) (base := base) T
  have G_Lot_fee := ok_Lot_fee (P := P) (w := w) (base := base) T
  have hcl_Lot := T.cl_Lot
  have hna_Lot_worth := T.na_Lot_worth
  have hna_Lot_mark := T.na_Lot_mark
  refine T.F_Lot_net.ok sc_Lot_net (fun vs H Q E h => by obtain ⟨v, w, m, i, rfl, _⟩ := h; rfl) (fun cdv A outer s H vs Q E hr h => ?_)
  obtain ⟨v, w, m, i, rfl, hl, z1, z2, i0, i1, q⟩ := h
  have zf : Sz 4000 (feeR w m i) := (feeR_sz z1 z2 i0 i1).mono (by decide)
  refine ⟨_, (pss_one (ps_ret (pe_call (G_minus) (hr.mono (by decide)) (by rfl) T.g_minus T.k_minus T.b_minus .nil passL (pa_cons (pe_fld (pv 0) rfl) (pa_cons (pe_meth (pv 0) T.cl_Lot T.m_Lot_fee (G_Lot_fee) (hr.mono (by decide)) T.b_Lot_fee .nil pass0 (pa_cons (pv 1) pa_nil)) pa_nil))))), ?_⟩
  walk_at "cr.k"
  exact q _ _ (by walk_at "cr.sm") (by walk_at "cr.dt")
local macro_rules | `(tactic| walk_at "cr.call") => `(tactic| ((with_reducible refine' Cr.u_Lot_net ?e ?a ?b ?c ?d ?f ?_); (case e => with_unfolding_all rfl); (case a => walk_at "cr.lot"); (case b => walk_at "cr.z"); (case c => walk_at "cr.z"); (case d => omega); (case f => omega); intro x H' hs hd))

/-! ### Lot_scaled -/
def sp_Lot_scaled (K : PySem.W.Frag) (C : Addr) : Sp := fun vs H Q _ => ∃ (v x : V) (w m r : Rat), vs = [v, x] ∧ IsLot K C H v w m ∧ Dt K H x (fr r) ∧ Sz 4000 w ∧ Sz 4000 m ∧ Sz 4000 r ∧ ∀ y H', Same H H' → IsLot K C H' y (w * r) (m * r) → Q y H'
theorem u_Lot_scaled {C : Addr} {H : Hp} {Q : VK} {E : XK} {vs : List V} {v x : V} {w m r : Rat} (e : vs = [v, x]) (hl : IsLot K C H v w m) (hx : Dt K H x (fr r)) (z1 : Sz 4000 w) (z2 : Sz 4000 m) (z3 : Sz 4000 r) (q : ∀ y H', Same H H' → IsLot K C H' y (w * r) (m * r) → Q y H') : sp_Lot_scaled K C vs H Q E := ⟨v, x, w, m, r, e, hl, hx, z1, z2, z3, q⟩
theorem ok_Lot_scaled (T : Top w K mg) : FnOk P w K mg base CX0 3 T.f_Lot_scaled T.fd_Lot_scaled ["self", "factor"] (sp_Lot_scaled K T.C_Lot) := by
  have G_LotU_initU := ok_LotU_initU (P := P) (w := w) (base := base) T
  have G_times := ok_times (P := P) (w := w) (base := base) T
  have hcl_Lot := T.cl_Lot
  have hna_Lot_worth := T.na_Lot_worth
  have hna_Lot_mark := T.na_Lot_mark
  refine T.F_Lot_scaled.ok sc_Lot_scaled (fun vs H Q E h => by obtain ⟨v, x, w, m, r, rfl, _⟩ := h; rfl) (fun cdv A outer s H vs Q E hr h => ?_)
  obtain ⟨v, x, w, m, r, rfl, hl, hx, z1, z2, z3, q⟩ := h
  refine ⟨_, (pss_one (ps_ret (pe_make T.M_Lot (G_LotU_initU) (hr.mono (by decide)) (by rfl) T.c_Lot T.b_LotU_initU .nil pass0 (pa_cons (pe_call (G_times) (hr.mono (by decide)) (by rfl) T.g_times T.k_times T.b_times .nil passL (pa_cons (pe_fld (pv 0) rfl) (pa_cons (pv 1) pa_nil))) (pa_cons (pe_call (G_times) (hr.mono (by decide)) (by rfl) T.g_times T.k_times T.b_times .nil passL (pa_cons (pe_fld (pv 0) rfl) (pa_cons (pv 1) pa_nil))) pa_nil))))), ?_⟩
  walk_at "cr.k"
  exact q _ _ (by walk_at "cr.sm") (by walk_at "cr.lot")
local macro_rules | `(tactic| walk_at "cr.call") => `(tactic| ((with_reducible refine' Cr.u_Lot_scaled ?e ?a ?b ?c ?d ?f ?_); (case e => with_unfolding_all rfl); (case a => walk_at "cr.lot"); (case b => walk_at "cr.dt"); (case c => walk_at "cr.z"); (case d => walk_at "cr.z"); (case f => walk_at "cr.z"); intro y H' hs hl))

/-! ### Lot_part -/
def sp_Lot_part (K : PySem.W.Frag) (C : Addr) : Sp := fun vs H Q _ => ∃ (v : V) (w m : Rat) (i : Int), vs = [v, .int i] ∧ IsLot K C H v w m ∧ Sz 4000 w ∧ Sz 4000 m ∧ 1 ≤ i ∧ i ≤ 10000 ∧ ∀ y H', Same H H' → IsLot K C H' y (w * Rat.divInt (i) 10000) (m * Rat.divInt (i) 10000) → Q y H'
theorem u_Lot_part {C : Addr} {H : Hp} {Q : VK} {E : XK} {vs : List V} {v : V} {w m : Rat} {i : Int} (e : vs = [v, .int i]) (hl : IsLot K C H v w m) (z1 : Sz 4000 w) (z2 : Sz 4000 m) (i0 : 1 ≤ i) (i1 : i ≤ 10000) (q : ∀ y H', Same H H' → IsLot K C H' y (w * Rat.divInt (i) 10000) (m * Rat.divInt (i) 10000) → Q y H') : sp_Lot_part K C vs H Q E := ⟨v, w, m, i, e, hl, z1, z2, i0, i1, q⟩
theorem ok_Lot_part (T : Top w K mg) : FnOk P w K mg base CX0 4 T.f_Lot_part T.fd_Lot_part ["self", "parts"] (sp_Lot_part K T.C_Lot) := by
  have G_lowest := ok_lowest (P := P) (w := w) (base := base) T
  have G_Lot_scaled := ok_Lot_scaled (P := P) (w := w) (base := base) T
  have hcl_Lot := T.cl_Lot
  have hna_Lot_worth := T.na_Lot_worth
  have hna_Lot_mark := T.na_Lot_mark
  obtain ⟨_, v_lowest_2, b_lowest_2⟩ := bi_lowest_2 T
  cases v_lowest_2
  refine T.F_Lot_part.ok sc_Lot_part (fun vs H Q E h => by obtain ⟨v, w, m, i, rfl, _⟩ := h; rfl) (fun cdv A outer s H vs Q E hr h => ?_)
  obtain ⟨v, w, m, i, rfl, hl, z1, z2, i0, i1, q⟩ := h
  refine ⟨_, (pss_one (ps_ret (pe_meth (pv 0) T.cl_Lot T.m_Lot_scaled (G_Lot_scaled) (hr.mono (by decide)) T.b_Lot_scaled .nil pass0 (pa_cons (pe_call (G_lowest) (hr.mono (by decide)) (by rfl) T.g_lowest T.k_lowest b_lowest_2 .nil passL (pa_cons (pv 1) (pa_cons (pe_glob (v := .int 10000) (by rfl) T.c_WHOLE ⟨_, rfl⟩) pa_nil))) pa_nil)))), ?_⟩
  walk_at "cr.k"
  exact q _ _ (by walk_at "cr.sm") (by walk_at "cr.lot")
local macro_rules | `(tactic| walk_at "cr.call") => `(tactic| ((with_reducible refine' Cr.u_Lot_part ?e ?a ?b ?c ?d ?f ?_); (case e => with_unfolding_all rfl); (case a => walk_at "cr.lot"); (case b => walk_at "cr.z"); (case c => walk_at "cr.z"); (case d => omega); (case f => omega); intro y H' hs hl))

/-! ### Lot_rest -/
def sp_Lot_rest (K : PySem.W.Frag) (C : Addr) : Sp := fun vs H Q _ => ∃ (v : V) (w m : Rat) (i : Int), vs = [v, .int i] ∧ IsLot K C H v w m ∧ Sz 4000 w ∧ Sz 4000 m ∧ 1 ≤ i ∧ i ≤ 10000 ∧ ∀ y H', Same H H' → IsLot K C H' y (w * Rat.divInt (10000 - i) 10000) (m * Rat.divInt (10000 - i) 10000) → Q y H'
theorem u_Lot_rest {C : Addr} {H : Hp} {Q : VK} {E : XK} {vs : List V} {v : V} {w m : Rat} {i : Int} (e : vs = [v, .int i]) (hl : IsLot K C H v w m) (z1 : Sz 4000 w) (z2 : Sz 4000 m) (i0 : 1 ≤ i) (i1 : i ≤ 10000) (q : ∀ y H', Same H H' → IsLot K C H' y (w * Rat.divInt (10000 - i) 10000) (m * Rat.divInt (10000 - i) 10000) → Q y H') : sp_Lot_rest K C vs H Q E := ⟨v, w, m, i, e, hl, z1, z2, i0, i1, q⟩
theorem ok_Lot_rest (T : Top w K mg) : FnOk P w K mg base CX0 4 T.f_Lot_rest T.fd_Lot_rest ["self", "parts"] (sp_Lot_rest K T.C_Lot) := by
  have G_lowest := ok_lowest (P := P) (w := w) (base := base) T
  have G_Lot_scaled := ok_Lot_scaled (P := P) (w := w) (base := base) T
  have hcl_Lot := T.cl_Lot
  have hna_Lot_worth := T.na_Lot_worth
  have hna_Lot_mark := T.na_Lot_mark
  obtain ⟨_, v_lowest_2, b_lowest_2⟩ := bi_lowest_2 T
  cases v_lowest_2
  refine T.F_Lot_rest.ok sc_Lot_rest (fun vs H Q E h => by obtain ⟨v, w, m, i, rfl, _⟩ := h; rfl) (fun cdv A outer s H vs Q E hr h => ?_)
  obtain ⟨v, w, m, i, rfl, hl, z1, z2, i0, i1, q⟩ := h
  refine ⟨_, (pss_one (ps_ret (pe_meth (pv 0) T.cl_Lot T.m_Lot_scaled (G_Lot_scaled) (hr.mono (by decide)) T.b_Lot_scaled .nil pass0 (pa_cons (pe_call (G_lowest) (hr.mono (by decide)) (by rfl) T.g_lowest T.k_lowest b_lowest_2 .nil passL (pa_cons (pe_op op_subU (pe_glob (v := .int 10000) (by rfl) T.c_WHOLE ⟨_, rfl⟩) (pv 1)) (pa_cons (pe_glob (v := .int 10000) (by rfl) T.c_WHOLE ⟨_, rfl⟩) pa_nil))) pa_nil)))), ?_⟩
  walk_at "cr.k"
  exact q _ _ (by walk_at "cr.sm") (by walk_at "cr.lot")
local macro_rules | `(tactic| walk_at "cr.call") => `(tactic| ((with_reducible refine' Cr.u_Lot_rest ?e ?a ?b ?c ?d ?f ?_); (case e => with_unfolding_all rfl); (case a => walk_at "cr.lot"); (case b => walk_at "cr.z"); (case c => walk_at "cr.z"); (case d => omega); (case f => omega); intro y H' hs hl))

/-! ### plus -/
def sp_plus (K : PySem.W.Frag) (C : Addr) : Sp := fun vs H Q E => ∃ (x y : V) (r s : Rat), vs = [x, y] ∧ Dt K H x (fr r) ∧ Dt K H y (fr s) ∧ Sz 4000 r ∧ Sz 4000 s ∧ (∀ v H', Same H H' → Dt K H' v (fr (r + s)) → Q v H')
theorem u_plus {C : Addr} {H : Hp} {Q : VK} {E : XK} {vs : List V} {x y : V} {r s : Rat} (e : vs = [x, y]) (hx : Dt K H x (fr r)) (hy : Dt K H y (fr s)) (z1 : Sz 4000 r) (z2 : Sz 4000 s) (q : ∀ v H', Same H H' → Dt K H' v (fr (r + s)) → Q v H') : sp_plus K C vs H Q E := ⟨x, y, r, s, e, hx, hy, z1, z2, q⟩
theorem ok_plus (T : Top w K mg) : FnOk P w K mg base (L2.CX P w) 2 T.f_plus T.fd_plus ["one", "other"] (sp_plus K T.x_ByNought) := by
  have G_lowest := ok_lowest (P := P) (w := w) (base := base) T
  have hcl_Lot := T.cl_Lot
  have hna_Lot_worth := T.na_Lot_worth
  have hna_Lot_mark := T.na_Lot_mark
  obtain ⟨_, v_lowest_2, b_lowest_2⟩ := bi_lowest_2 T
  cases v_lowest_2
  refine T.F_plus.okX sc_plus (fun vs H Q E h => by obtain ⟨x, y, r, s, rfl, _⟩ := h; rfl) (fun cdv A outer s0 H vs Q E hr h => ?_)
  obtain ⟨x, y, r, s, rfl, hx, hy, z1, z2, q⟩ := h
  refine ⟨_, (pss_one (ps_ret (pe_call (G_lowest) (hr.mono (by decide)) (by rfl) T.g_lowest T.k_lowest b_lowest_2 .nil passL (pa_cons (pe_op op_addU (pe_op op_mulU (pe_ix ix_seq (pv 0) pe_int (fun _ _ => rfl)) (pe_ix ix_seq (pv 1) pe_int (fun _ _ => rfl))) (pe_op op_mulU (pe_ix ix_seq (pv 1) pe_int (fun _ _ => rfl)) (pe_ix ix_seq (pv 0) pe_int (fun _ _ => rfl)))) (pa_cons (pe_op op_mulU (pe_ix ix_seq (pv 0) pe_int (fun _ _ => rfl)) (pe_ix ix_seq (pv 1) pe_int (fun _ _ => rfl))) pa_nil))))), ?_⟩
  have z1' := z1.mono (show 4000 ≤ 400000 by decide)
  have z2' := z2.mono (show 4000 ≤ 400000 by decide)
  have dn : (r.den : Int) * s.den ≠ 0 := Int.mul_ne_zero (den_ne r) (den_ne s)
  have dz : ((r.den : Int) * s.den).natAbs < 2 ^ 8000 := natAbs_lt_mul z1.dA z2.dA
  walk_at "cr.k"
  rename_i v H' hs hd
  rw [rat_add] at hd
  exact q _ _ (by walk_at "cr.sm") (by walk_at "cr.dt")
local macro_rules | `(tactic| walk_at "cr.call") => `(tactic| ((with_reducible refine' Cr.u_plus ?e ?a ?b ?c ?d ?_); (case e => with_unfolding_all rfl); (case a => walk_at "cr.dt"); (case b => walk_at "cr.dt"); (case c => walk_at "cr.z"); (case d => walk_at "cr.z"); intro v H' hs hd))

/-! ### over -/
def sp_over (K : PySem.W.Frag) (C : Addr) : Sp := fun vs H Q E => ∃ (x y : V) (r s : Rat), vs = [x, y] ∧ Dt K H x (fr r) ∧ Dt K H y (fr s) ∧ Sz 4000 r ∧ Sz 4000 s ∧ (s = 0 → E (.ref C) none H) ∧ (s ≠ 0 → ∀ v H', Same H H' → Fz H' v (r / s) → Q v H')
theorem u_overF {C : Addr} {H : Hp} {Q : VK} {E : XK} {vs : List V} {x y : V} {r s : Rat} (e : vs = [x, y]) (hx : Dt K H x (fr r)) (hy : Dt K H y (fr s)) (z1 : Sz 4000 r) (z2 : Sz 4000 s) (z3 : s ≠ 0) (q : ∀ v H', Same H H' → Fz H' v (r / s) → Q v H') : sp_over K C vs H Q E := ⟨x, y, r, s, e, hx, hy, z1, z2, fun z => absurd z z3, fun _ => q⟩
theorem u_over {C : Addr} {H : Hp} {Q : VK} {E : XK} {vs : List V} {x y : V} {r s : Rat} (e : vs = [x, y]) (hx : Dt K H x (fr r)) (hy : Dt K H y (fr s)) (z1 : Sz 4000 r) (z2 : Sz 4000 s) (z3 : s ≠ 0) (q : ∀ v H', Same H H' → Dt K H' v (fr (r / s)) → Q v H') : sp_over K C vs H Q E := ⟨x, y, r, s, e, hx, hy, z1, z2, fun z => absurd z z3, fun _ v H' s f => q v H' s f.dt⟩
theorem u_over0 {C : Addr} {H : Hp} {Q : VK} {E : XK} {vs : List V} {x y : V} {r s : Rat} (e : vs = [x, y]) (hx : Dt K H x (fr r)) (hy : Dt K H y (fr s)) (z1 : Sz 4000 r) (z2 : Sz 4000 s) (z3 : s = 0) (q : E (.ref C) none H) : sp_over K C vs H Q E := ⟨x, y, r, s, e, hx, hy, z1, z2, fun _ => q, fun z => absurd z3 z⟩
theorem ok_over (T : Top w K mg) : FnOk P w K mg base (L2.CX P w) 2 T.f_over T.fd_over ["one", "other"] (sp_over K T.x_ByNought) := by
  have G_lowest := ok_lowest (P := P) (w := w) (base := base) T
  have hcl_Lot := T.cl_Lot
  have hna_Lot_worth := T.na_Lot_worth
  have hna_Lot_mark := T.na_Lot_mark
  obtain ⟨_, v_lowest_2, b_lowest_2⟩ := bi_lowest_2 T
  cases v_lowest_2
  refine T.F_over.okX sc_over (fun vs H Q E h => by obtain ⟨x, y, r, s, rfl, _⟩ := h; rfl) (fun cdv A outer s0 H vs Q E hr h => ?_)
  obtain ⟨x, y, r, s, rfl, hx, hy, z1, z2, q0, q⟩ := h
  refine ⟨_, (pss_one (ps_ret (pe_call (G_lowest) (hr.mono (by decide)) (by rfl) T.g_lowest T.k_lowest b_lowest_2 .nil (passes_call (E := E) (takes_of rfl rfl rfl rfl) (fun _ _ _ _ h => h)) (pa_cons (pe_op op_mulU (pe_ix ix_seq (pv 0) pe_int (fun _ _ => rfl)) (pe_ix ix_seq (pv 1) pe_int (fun _ _ => rfl))) (pa_cons (pe_op op_mulU (pe_ix ix_seq (pv 0) pe_int (fun _ _ => rfl)) (pe_ix ix_seq (pv 1) pe_int (fun _ _ => rfl))) pa_nil))))), ?_⟩
  have z1' := z1.mono (show 4000 ≤ 400000 by decide)
  have z2' := z2.mono (show 4000 ≤ 400000 by decide)
  have dz : ((r.den : Int) * s.num).natAbs < 2 ^ 8000 := natAbs_lt_mul z1.dA z2.1
  by_cases hs : s = 0
  · walk_at "cr.k"
    exact u_lowest0 rfl (by rw [hs]; exact Int.mul_zero _) (q0 hs)
  · walk_at "cr.k"
    have dn : (r.den : Int) * s.num ≠ 0 := Int.mul_ne_zero (den_ne r) (num_ne hs)
    refine u_lowestF rfl dn (by walk_at "cr.pw") fun v H' hs' hf => ?_
    rw [rat_div] at hf
    exact q hs _ _ hs' hf
local macro_rules | `(tactic| walk_at "cr.call") => `(tactic| ((with_reducible refine' Cr.u_over ?e ?a ?b ?c ?d ?f ?_); (case e => with_unfolding_all rfl); (case a => walk_at "cr.dt"); (case b => walk_at "cr.dt"); (case c => walk_at "cr.z"); (case d => walk_at "cr.z"); (case f => with_reducible assumption); intro v H' hs hd))

/-! ### Lot_standing -/
def sp_Lot_standing (K : PySem.W.Frag) (C : Addr) : Sp := fun vs H Q _ => ∃ (v : V) (w m : Rat), vs = [v] ∧ IsLot K C H v w m ∧ Sz 1900 w ∧ Sz 1900 m ∧ m ≠ 0 ∧ ∀ y H', Same H H' → Fz H' y (w / m) → Q y H'
theorem u_Lot_standing {C : Addr} {H : Hp} {Q : VK} {E : XK} {vs : List V} {v : V} {w m : Rat} (e : vs = [v]) (hl : IsLot K C H v w m) (z1 : Sz 1900 w) (z2 : Sz 1900 m) (z3 : m ≠ 0) (q : ∀ y H', Same H H' → Fz H' y (w / m) → Q y H') : sp_Lot_standing K C vs H Q E := ⟨v, w, m, e, hl, z1, z2, z3, q⟩
theorem ok_Lot_standing (T : Top w K mg) : FnOk P w K mg base CX0 3 T.f_Lot_standing T.fd_Lot_standing ["self"] (sp_Lot_standing K T.C_Lot) := by
  have G_over := ok_over (P := P) (w := w) (base := base) T
  have hcl_Lot := T.cl_Lot
  have hna_Lot_worth := T.na_Lot_worth
  have hna_Lot_mark := T.na_Lot_mark
  refine T.F_Lot_standing.ok sc_Lot_standing (fun vs H Q E h => by obtain ⟨v, w, m, rfl, _⟩ := h; rfl) (fun cdv A outer s H vs Q E hr h => ?_)
  obtain ⟨v, w, m, rfl, hl, z1, z2, z3, q⟩ := h
  have y1 := z1.mono (show 1900 ≤ 4000 by decide)
  have y2 := z2.mono (show 1900 ≤ 4000 by decide)
  refine ⟨_, (pss_one (ps_ret (pe_call (G_over) (hr.mono (by decide)) (by rfl) T.g_over T.k_over T.b_over .nil passL (pa_cons (pe_fld (pv 0) rfl) (pa_cons (pe_fld (pv 0) rfl) pa_nil))))), ?_⟩
  have z4 := num_ne z3
  clear z3
  walk_at "cr.k"
  refine u_overF rfl (by walk_at "cr.dt") (by walk_at "cr.dt") y1 y2 (fun z => z4 (by rw [z]; rfl)) fun y H' hs hf => ?_
  exact q _ _ hs hf
local macro_rules | `(tactic| walk_at "cr.call") => `(tactic| ((with_reducible refine' Cr.u_Lot_standing ?e ?a ?b ?c ?d ?_); (case e => with_unfolding_all rfl); (case a => walk_at "cr.lot"); (case b => walk_at "cr.z"); (case c => walk_at "cr.z"); (case d => with_reducible assumption); intro y H' hs hf; have hd := Cr.Fz.dt (K := K) hf))

/-! ### in_standing_order -/
/-- lots by worth and mark; how the worth stands to the mark -/
def stL (l : Rat × Rat) : Rat := l.1 / l.2
def LotsAt (K : PySem.W.Frag) (C : Addr) (H : Hp) : List V → List (Rat × Rat) → Prop := A2 fun v l => IsLot K C H v l.1 l.2
def LotOk (l : Rat × Rat) : Prop := Sz 1900 l.1 ∧ Sz 1900 l.2 ∧ 0 < l.2
def insL (acc : List (Rat × Rat)) (x : Rat × Rat) : List (Rat × Rat) := match acc with
  | [] => [x]
  | y :: ys => if stL x < stL y then x :: y :: ys else y :: insL ys x
theorem ins_at (x : Rat × Rat) : ∀ (acc : List (Rat × Rat)) (k : Nat), k ≤ acc.length → (∀ y, y ∈ acc.take k → ¬ stL x < stL y) → (∀ y, acc[k]? = some y → stL x < stL y) → acc.take k ++ [x] ++ acc.drop k = insL acc x
  | [], k, hk, _, _ => by simp [insL]
  | y :: ys, 0, _, _, h => by
    have h1 := h y rfl
    show [] ++ [x] ++ (y :: ys) = insL (y :: ys) x
    rw [insL, if_pos h1]
    rfl
  | y :: ys, k + 1, hk, h0, h => by
    have h1 := h0 y (by simp)
    rw [insL, if_neg h1, ← ins_at x ys k (by simpa using hk) (fun z hz => h0 z (by simp [hz])) (fun z hz => h z (by simpa using hz))]
    rfl
theorem ins_mem {x y : Rat × Rat} : ∀ {acc : List (Rat × Rat)}, y ∈ insL acc x ↔ y = x ∨ y ∈ acc
  | [] => by simp [insL]
  | z :: zs => by
    unfold insL
    split
    · simp
    · rw [List.mem_cons, ins_mem (acc := zs), List.mem_cons]
      constructor
      · rintro (h | h | h)
        · exact .inr (.inl h)
        · exact .inl h
        · exact .inr (.inr h)
      · rintro (h | h | h)
        · exact .inr (.inl h)
        · exact .inl h
        · exact .inr (.inr h)
theorem ins_len (x : Rat × Rat) : ∀ acc : List (Rat × Rat), (insL acc x).length = acc.length + 1
  | [] => rfl
  | z :: zs => by
    unfold insL
    split
    · rfl
    · rw [List.length_cons, ins_len x zs]; rfl
def sortL (ls : List (Rat × Rat)) : List (Rat × Rat) := ls.foldl insL []
theorem fold_mem {y : Rat × Rat} : ∀ (ls acc : List (Rat × Rat)), y ∈ ls.foldl insL acc ↔ y ∈ acc ∨ y ∈ ls
  | [], acc => by simp
  | x :: xs, acc => by
    rw [List.foldl_cons, fold_mem xs, ins_mem, List.mem_cons]
    constructor
    · rintro ((h | h) | h)
      · exact .inr (.inl h)
      · exact .inl h
      · exact .inr (.inr h)
    · rintro (h | h | h)
      · exact .inl (.inr h)
      · exact .inl (.inl h)
      · exact .inr h
theorem fold_len : ∀ (ls acc : List (Rat × Rat)), (ls.foldl insL acc).length = acc.length + ls.length
  | [], acc => by simp
  | x :: xs, acc => by rw [List.foldl_cons, fold_len xs, ins_len, List.length_cons]; omega
theorem LotsAt.mono {K : PySem.W.Frag} {C : Addr} {H H' : Hp} {vs : List V} {ls : List (Rat × Rat)} (k : KI H H') (h : LotsAt K C H vs ls) : LotsAt K C H' vs ls := A2.mono (fun _ _ z => z.mono k) h
theorem A2.take {α β : Type} {R : α → β → Prop} : ∀ {xs : List α} {ys : List β}, A2 R xs ys → ∀ n : Nat, A2 R (xs.take n) (ys.take n)
  | _, _, .nil, n => by rw [List.take_nil, List.take_nil]; exact .nil
  | _, _, .cons a b, 0 => .nil
  | _, _, .cons a b, n + 1 => .cons a (A2.take b n)
theorem A2.drop {α β : Type} {R : α → β → Prop} : ∀ {xs : List α} {ys : List β}, A2 R xs ys → ∀ n : Nat, A2 R (xs.drop n) (ys.drop n)
  | _, _, .nil, n => by rw [List.drop_nil, List.drop_nil]; exact .nil
  | _, _, .cons a b, 0 => .cons a b
  | _, _, .cons a b, n + 1 => A2.drop b n
theorem A2.app {α β : Type} {R : α → β → Prop} : ∀ {xs xs' : List α} {ys ys' : List β}, A2 R xs ys → A2 R xs' ys' → A2 R (xs ++ xs') (ys ++ ys')
  | _, _, _, _, .nil, h => h
  | _, _, _, _, .cons a b, h => .cons a (A2.app b h)
def sp_in_standing_order (K : PySem.W.Frag) (C : Addr) : Sp := fun vs H Q _ => ∃ (a : Addr) (ws : List V) (ls : List (Rat × Rat)), vs = [.ref a] ∧ SqL K H a ws ∧ LotsAt K C H ws ls ∧ (∀ l, l ∈ ls → LotOk l) ∧ ls.length ≤ 500 ∧ ∀ p ws' H', Same H H' → H p = none → H' p = some (.lst ws') → LotsAt K C H' ws' (sortL ls) → Q (.ref p) H'
theorem u_in_standing_order {C : Addr} {H : Hp} {Q : VK} {E : XK} {vs : List V} {a : Addr} {ws : List V} {ls : List (Rat × Rat)} (e : vs = [.ref a]) (hs : SqL K H a ws) (hl : LotsAt K C H ws ls) (ho : ∀ l, l ∈ ls → LotOk l) (hz : ls.length ≤ 500) (q : ∀ p ws' H', Same H H' → H p = none → H' p = some (.lst ws') → LotsAt K C H' ws' (sortL ls) → Q (.ref p) H') : sp_in_standing_order K C vs H Q E := ⟨a, ws, ls, e, hs, hl, ho, hz, q⟩
set_option maxHeartbeats 2000000 in
theorem ok_in_standing_order (T : Top w K mg) : FnOk P w K mg base CX0 4 T.f_in_standing_order T.fd_in_standing_order ["lots"] (sp_in_standing_order K T.C_Lot) := by
  have G_less := ok_less (P := P) (w := w) (base := base) T
  have G_Lot_standing := ok_Lot_standing (P := P) (w := w) (base := base) T
  have hcl_Lot := T.cl_Lot
  have hna_Lot_worth := T.na_Lot_worth
  have hna_Lot_mark := T.na_Lot_mark
  refine T.F_in_standing_order.ok sc_in_standing_order (fun vs H Q E h => by obtain ⟨a, ws, ls, rfl, _⟩ := h; rfl) (fun cdv A outer s H vs Q E hr h => ?_)
  obtain ⟨a, ws, ls, rfl, hs, hl, ho, hz, q⟩ := h
  refine ⟨_, (pss_cons (ps_set (i := 1) sc_in_standing_order.nd rfl (Or.inl rfl) (pe_lst pa_nil))
      (pss_cons (ps_for PassesOwn.never rfl (pi_list (pv 0)) (pg_name (i := 2) sc_in_standing_order.nd rfl (Or.inl rfl)) (pss_cons (ps_set (i := 3) sc_in_standing_order.nd rfl (Or.inl rfl) pe_int)
      (pss_cons (ps_while PassesOwn.never (PW.pt (pw_and (pt_cmpR op_ltI (pv 3) (pe_callB call_lenU (by rfl) T.n_len (by decide +kernel) (pa_cons (pv 1) pa_nil)) (nomark _)) (pw_and1 (pt_not (pt_tru (pe_call (G_less) (hr.mono (by decide)) (by rfl) T.g_less T.k_less T.b_less .nil pass0 (pa_cons (pe_meth0 (pv 2) T.cl_Lot T.m_Lot_standing (G_Lot_standing) (hr.mono (by decide)) T.b_Lot_standing .nil pass0) (pa_cons (pe_meth0 (pe_ix ix_seq (pv 1) (pv 3) (fun _ _ => rfl)) T.cl_Lot T.m_Lot_standing (G_Lot_standing) (hr.mono (by decide)) T.b_Lot_standing .nil pass0) pa_nil)))))))) (pss_one (ps_aug (i := 3) sc_in_standing_order.nd rfl (Or.inl rfl) pe_int ip_add)))
      (pss_one (ps_expr (pe_bm PySem.F.plainAttrs_list PySem.F.slot_list_insert PySem.F.type_list_insert mt_insertU (pv 1) (pa_cons (pv 3) (pa_cons (pv 2) pa_nil))))))))
      (pss_one (ps_ret (pv 1))))), ?_⟩
  walk_at "cr.k"
  rename_i p hp
  have sm0 := same_new (o := .lst []) hp
  refine f_list (xs := ws) (fun n σ' H' => ∃ y2 y3 ws', σ' = [some (.ref a), some (.ref p), y2, y3] ∧ Same H H' ∧ H' p = some (.lst ws') ∧ LotsAt K T.C_Lot H' ws' ((ls.take n).foldl insL [])) ⟨none, none, [], rfl, sm0, upd_same, .nil⟩ ?_ ?_ ?_
  · rintro n σ' H' _ ⟨_, _, _, _, r, _⟩
    exact r.seq hs
  · rintro n x σ' H' hx ⟨y2, y3, ws', rfl, hs1, hp1, hl1⟩
    clear sm0
    obtain ⟨l0, e0, hx0⟩ := hl.at hx
    obtain ⟨w0, m0⟩ := l0
    have hok0 := ho _ (List.mem_of_getElem? e0)
    have hx1 : IsLot K T.C_Lot H' x w0 m0 := hx0.mono (ki_same hs1)
    have hacc : ∀ y, y ∈ (ls.take n).foldl insL [] → LotOk y := fun y hy => by
      rcases (fold_mem _ _).mp hy with h | h
      · cases h
      · exact ho y (List.mem_of_mem_take h)
    have hlen : ((ls.take n).foldl insL []).length ≤ 500 := by rw [fold_len, List.length_take, List.length_nil]; omega
    have hfold : (ls.take (n + 1)).foldl insL [] = insL ((ls.take n).foldl insL []) (w0, m0) := by
      rw [List.take_add_one, e0, List.foldl_append]; rfl
    rw [hfold]
    generalize (ls.take n).foldl insL [] = acc at hl1 hacc hlen
    have hwl : ws'.length = acc.length := hl1.len
    obtain ⟨z1, z2, z3⟩ := hok0
    dsimp only at z1 z2 z3
    have n3 : m0 ≠ 0 := fun z => by rw [z] at z3; exact absurd z3 (by decide)
    have noins : ∀ (k : Nat) H'', Same H' H'' → k ≤ acc.length → (∀ y, y ∈ acc.take k → ¬ stL (w0, m0) < stL y) → (∀ y, acc[k]? = some y → stL (w0, m0) < stL y) → LotsAt K T.C_Lot (upd H'' p (.lst (ws'.take k ++ [x] ++ ws'.drop k))) (ws'.take k ++ [x] ++ ws'.drop k) (insL acc (w0, m0)) := fun k H'' sm hk h1 h2 => by
      rw [← ins_at (w0, m0) acc k hk h1 h2]
      have ki : KI H' (upd H'' p (.lst (ws'.take k ++ [x] ++ ws'.drop k))) := fun b o e t => ki_mut (sm _ _ hp1) rfl b o (ki_same sm b o e t) t
      have hl2 : LotsAt K T.C_Lot (upd H'' p (.lst (ws'.take k ++ [x] ++ ws'.drop k))) ws' acc := hl1.mono ki
      exact A2.app (A2.app (A2.take hl2 k) (.cons (hx1.mono ki) .nil)) (A2.drop hl2 k)
    walk_at "cr.go"
    refine ⟨fun m σ' H'' => ∃ k : Nat, σ' = [some (.ref a), some (.ref p), some x, some (.int (k : Int))] ∧ m = acc.length - k ∧ k ≤ acc.length ∧ Same H' H'' ∧ ∀ y, y ∈ acc.take k → ¬ stL (w0, m0) < stL y, ⟨_, 0, rfl, rfl, Nat.zero_le _, Same.refl _, fun y hy => by simp at hy⟩, ?_⟩
    rintro m σ' H'' ⟨k, rfl, rfl, hk, sm, hno⟩
    have hp2 : H'' p = some (.lst ws') := sm _ _ hp1
    have hx2 : IsLot K T.C_Lot H'' x w0 m0 := hx1.mono (ki_same sm)
    have hroom : ws'.length ≤ 500 := by omega
    clear hx0 hx1
    walk_at "cr.go"
    refine s_iteD (fun hlt => ?_) (fun hlt => ?_)
    · have hk2 : k < acc.length := by omega
      have hk3 : k < ws'.length := by omega
      obtain ⟨l1, el1, hy⟩ := hl1.at (i := k) (List.getElem?_eq_getElem hk3)
      have ey : atI ws' (k : Int) = some ws'[k] := atI_nat (List.getElem?_eq_getElem hk3)
      obtain ⟨w1, m1⟩ := l1
      obtain ⟨z4, z5, z6⟩ := hacc _ (List.mem_of_getElem? el1)
      dsimp only at z4 z5 z6
      have n4 : m1 ≠ 0 := fun z => by rw [z] at z6; exact absurd z6 (by decide)
      have hy2 : IsLot K T.C_Lot H'' ws'[k] w1 m1 := hy.mono (ki_same sm)
      clear hy
      walk_at "cr.go"
      refine s_iteN (fun h => ?_) (fun h => ?_)
      · refine ⟨fun σ' H1 => ∃ m', m' < acc.length - k ∧ ∃ k' : Nat, σ' = [some (.ref a), some (.ref p), some x, some (.int (k' : Int))] ∧ m' = acc.length - k' ∧ k' ≤ acc.length ∧ Same H' H1 ∧ ∀ y, y ∈ acc.take k' → ¬ stL (w0, m0) < stL y, fun _ _ h => h, ?_⟩
        walk_at "cr.go"
        refine ⟨acc.length - (k + 1), by omega, k + 1, rfl, rfl, by omega, by walk_at "cr.sm", fun y hy => ?_⟩
        rw [List.take_add_one, el1] at hy
        rcases List.mem_append.mp hy with h1 | h1
        · exact hno y h1
        · rw [show (some (w1, m1) : Option (Rat × Rat)).toList = [(w1, m1)] from rfl, List.mem_singleton] at h1
          rw [h1]
          exact h
      · rename_i Hl hsl hfl hdl
        have sml : Same H' Hl := by walk_at "cr.sm"
        have hl2 := noins k Hl sml hk hno (fun y hy => by rw [el1] at hy; cases hy; exact h)
        have hpl : Hl p = some (.lst ws') := sml _ _ hp1
        walk_at "cr.go"
        exact ⟨_, _, _, rfl, by walk_at "cr.sm", upd_same, hl2⟩
    · have hk2 : k = acc.length := by omega
      have hl2 := noins k H'' sm hk hno (fun y hy => by rw [hk2, List.getElem?_eq_none (Nat.le_refl _)] at hy; cases hy)
      walk_at "cr.go"
      exact ⟨_, _, _, rfl, by walk_at "cr.sm", upd_same, hl2⟩
  · rintro σ' H' ⟨y2, y3, ws', rfl, hs1, hp1, hl1⟩
    rw [show ws.length = ls.length from hl.len, List.take_length] at hl1
    walk_at "cr.go"
    exact q p ws' _ hs1 hp hp1 hl1
local macro_rules | `(tactic| walk_at "cr.call") => `(tactic| ((with_reducible refine' Cr.u_in_standing_order ?e ?a ?b ?c ?d ?_); (case e => with_unfolding_all rfl); (case a => walk_at "cr.lst"); (case b => with_reducible assumption); (case c => with_reducible assumption); (case d => first | with_reducible assumption | omega); intro p ws' H' hs np hp hl))

/-! ### joined -/
def addL (g x : Rat × Rat) : Rat × Rat := (g.1 + x.1, g.2 + x.2)
theorem st_add {g x : Rat × Rat} (h : stL g = stL x) (p : 0 < g.2) (q : 0 < x.2) : stL (addL g x) = stL x := by
  unfold stL addL at *
  obtain ⟨a, b⟩ := g
  obtain ⟨c, d⟩ := x
  dsimp only at *
  have h1 : b ≠ 0 := by grind
  have h2 : d ≠ 0 := by grind
  have h3 : b + d ≠ 0 := by grind
  have e : a = c / d * b := by grind
  grind
def addG (gs : List (Rat × Rat)) (x : Rat × Rat) : List (Rat × Rat) := if (gs.any fun g => decide (stL g = stL x)) = true then gs.map (fun g => if stL g = stL x then addL g x else g) else gs ++ [x]
def groupL (ls : List (Rat × Rat)) : List (Rat × Rat) := ls.foldl addG []
def joinL (ls : List (Rat × Rat)) : List (Rat × Rat) := sortL (groupL ls)
/-- groups behind so many lots -/
structure Grp (N D n : Nat) (gs : List (Rat × Rat)) : Prop where
  nd : (gs.map stL).Nodup
  ok : ∀ g, g ∈ gs → Sz2 (N + n * (D + 1)) (n * D) g.1 ∧ Sz2 (N + n * (D + 1)) (n * D) g.2 ∧ 0 < g.2
  len : gs.length ≤ n
def LotIn (N D : Nat) (l : Rat × Rat) : Prop := Sz2 N D l.1 ∧ Sz2 N D l.2 ∧ 0 < l.2
theorem add_map_st {gs : List (Rat × Rat)} {x : Rat × Rat} (hg : ∀ g, g ∈ gs → 0 < g.2) (hx : 0 < x.2) : (gs.map (fun g => if stL g = stL x then addL g x else g)).map stL = gs.map stL := by
  rw [List.map_map]
  refine List.map_congr_left fun g h => ?_
  show stL (if stL g = stL x then addL g x else g) = stL g
  by_cases e : stL g = stL x
  · rw [if_pos e, st_add e (hg g h) hx, e]
  · rw [if_neg e]
theorem Grp.step {N D n : Nat} {gs : List (Rat × Rat)} {x : Rat × Rat} (h : Grp N D n gs) (hx : LotIn N D x) (hn : 1 ≤ n ∨ gs = []) : Grp N D (n + 1) (addG gs x) := by
  have e1 : (n + 1) * (D + 1) = n * (D + 1) + (D + 1) := Nat.succ_mul _ _
  have e2 : (n + 1) * D = n * D + D := Nat.succ_mul _ _
  have e3 : n * (D + 1) = n * D + n := Nat.mul_succ _ _
  have up : ∀ g, g ∈ gs → Sz2 (N + (n + 1) * (D + 1)) ((n + 1) * D) g.1 ∧ Sz2 (N + (n + 1) * (D + 1)) ((n + 1) * D) g.2 ∧ 0 < g.2 := fun g hg => by
    obtain ⟨a, b, c⟩ := h.ok g hg
    exact ⟨a.mono (by omega) (by omega), b.mono (by omega) (by omega), c⟩
  unfold addG
  split
  · rename_i hany
    refine ⟨?_, fun g hg => ?_, ?_⟩
    · rw [add_map_st (fun g hg => (h.ok g hg).2.2) hx.2.2]; exact h.nd
    · obtain ⟨g0, hg0, rfl⟩ := List.mem_map.mp hg
      by_cases e : stL g0 = stL x
      · rw [if_pos e]
        obtain ⟨a, b, c⟩ := h.ok g0 hg0
        refine ⟨?_, ?_, ?_⟩
        · exact ((a.add hx.1 (x := N + n * (D + 1) + D) (by omega) (by omega))).mono (by omega) (by omega)
        · exact ((b.add hx.2.1 (x := N + n * (D + 1) + D) (by omega) (by omega))).mono (by omega) (by omega)
        · have := hx.2.2
          show 0 < g0.2 + x.2
          grind
      · rw [if_neg e]; exact up g0 hg0
    · rw [List.length_map]; have := h.len; omega
  · rename_i hany
    refine ⟨?_, fun g hg => ?_, ?_⟩
    · rw [List.map_append, List.nodup_append]
      refine ⟨h.nd, by simp, fun a ha b hb e => hany ?_⟩
      obtain ⟨g, hg, rfl⟩ := List.mem_map.mp ha
      rw [List.any_eq_true]
      refine ⟨g, hg, decide_eq_true ?_⟩
      rw [e]
      simpa using hb
    · rcases List.mem_append.mp hg with e | e
      · exact up g e
      · rw [List.mem_singleton] at e
        subst e
        exact ⟨hx.1.mono (by omega) (by omega), hx.2.1.mono (by omega) (by omega), hx.2.2⟩
    · rw [List.length_append]; have := h.len; simp; omega
def GrpAt (K : PySem.W.Frag) (C : Addr) (H : Hp) : List (List Key × V) → List (Rat × Rat) → Prop := A2 fun kv g => kv.1 = keyF (stL g) ∧ IsLot K C H kv.2 g.1 g.2
theorem GrpAt.mono {K : PySem.W.Frag} {C : Addr} {H H' : Hp} {kvs : List (List Key × V)} {gs : List (Rat × Rat)} (k : KI H H') (h : GrpAt K C H kvs gs) : GrpAt K C H' kvs gs := A2.mono (fun _ _ z => ⟨z.1, z.2.mono k⟩) h
theorem grp_val {K : PySem.W.Frag} {C : Addr} {H : Hp} {s : Rat} : ∀ {kvs : List (List Key × V)} {gs : List (Rat × Rat)}, GrpAt K C H kvs gs → (∃ v g, valV kvs (keyF s) = some v ∧ g ∈ gs ∧ stL g = s ∧ IsLot K C H v g.1 g.2) ∨ (valV kvs (keyF s) = none ∧ ∀ g, g ∈ gs → stL g ≠ s)
  | _, _, .nil => .inr ⟨rfl, fun _ h => nomatch h⟩
  | _, _, .cons (x := kv) (y := g) h t => by
    by_cases e : stL g = s
    · exact .inl ⟨kv.2, g, valV_pos (by rw [h.1, e]), List.mem_cons_self, e, h.2⟩
    · have ne : ¬ kv.1 = keyF s := fun z => e (keyF_inj (h.1.symm.trans z))
      rcases grp_val (s := s) t with ⟨v, g', h1, h2, h3⟩ | ⟨h1, h2⟩
      · exact .inl ⟨v, g', by rw [valV_neg ne]; exact h1, List.mem_cons_of_mem _ h2, h3⟩
      · refine .inr ⟨by rw [valV_neg ne]; exact h1, fun g' hg' => ?_⟩
        rcases List.mem_cons.mp hg' with z | z
        · rw [z]; exact e
        · exact h2 g' z
theorem grp_any {K : PySem.W.Frag} {C : Addr} {H : Hp} {s : Rat} : ∀ {kvs : List (List Key × V)} {gs : List (Rat × Rat)}, GrpAt K C H kvs gs → (kvs.any fun kv => decide (kv.1 = keyF s)) = gs.any fun g => decide (stL g = s)
  | _, _, .nil => rfl
  | _, _, .cons (x := kv) (y := g) h t => by
    rw [List.any_cons, List.any_cons, grp_any (s := s) t]
    congr 1
    by_cases e : stL g = s
    · rw [decide_eq_true e, decide_eq_true (by rw [h.1, e])]
    · rw [decide_eq_false e, decide_eq_false (fun z => e (keyF_inj (h.1.symm.trans z)))]
theorem grp_map {K : PySem.W.Frag} {C : Addr} {H : Hp} {x g0 : Rat × Rat} {v : V} (e0 : stL g0 = stL x) (hv : IsLot K C H v (addL g0 x).1 (addL g0 x).2) (hs : stL (addL g0 x) = stL x) : ∀ {kvs : List (List Key × V)} {gs : List (Rat × Rat)}, GrpAt K C H kvs gs → (∀ g, g ∈ gs → stL g = stL x → g = g0) →
    GrpAt K C H (kvs.map fun kv => if kv.1 = keyF (stL x) then (kv.1, v) else kv) (gs.map fun g => if stL g = stL x then addL g x else g)
  | _, _, .nil, _ => .nil
  | _, _, .cons (x := kv) (y := g) h t, hu => by
    refine .cons ?_ (grp_map e0 hv hs t fun g' hg' => hu g' (List.mem_cons_of_mem _ hg'))
    dsimp only
    by_cases e : stL g = stL x
    · rw [if_pos e, if_pos (by rw [h.1, e])]
      have := hu g List.mem_cons_self e
      subst this
      exact ⟨by rw [hs, ← e]; exact h.1, hv⟩
    · rw [if_neg e, if_neg (fun z => e (keyF_inj (h.1.symm.trans z)))]
      exact h
theorem nodup_same {gs : List (Rat × Rat)} (h : (gs.map stL).Nodup) {g g' : Rat × Rat} (a : g ∈ gs) (b : g' ∈ gs) (e : stL g = stL g') : g = g' := by
  obtain ⟨i, hi, rfl⟩ := List.mem_iff_getElem.mp a
  obtain ⟨j, hj, rfl⟩ := List.mem_iff_getElem.mp b
  have : i = j := by
    have := (List.getElem_inj (h₀ := by simpa using hi) (h₁ := by simpa using hj) h (i := i) (j := j)).mp (by rw [List.getElem_map, List.getElem_map]; exact e)
    exact this
  subst this
  rfl
theorem grp_put {K : PySem.W.Frag} {C : Addr} {H : Hp} {x g0 : Rat × Rat} {v : V} {kvs : List (List Key × V)} {gs : List (Rat × Rat)} {N D n : Nat} (h : GrpAt K C H kvs gs) (hg : Grp N D n gs) (hx : 0 < x.2) (m0 : g0 ∈ gs) (e0 : stL g0 = stL x) (hv : IsLot K C H v (g0.1 + x.1) (g0.2 + x.2)) : GrpAt K C H (putK kvs (keyF (stL x)) v) (addG gs x) := by
  have hany : (gs.any fun g => decide (stL g = stL x)) = true := List.any_eq_true.mpr ⟨g0, m0, decide_eq_true e0⟩
  unfold putK addG
  rw [grp_any h, if_pos hany, if_pos hany]
  exact grp_map e0 hv (st_add e0 (hg.ok g0 m0).2.2 hx) h fun g hg' e => nodup_same hg.nd hg' m0 (e.trans e0.symm)
theorem grp_new {K : PySem.W.Frag} {C : Addr} {H : Hp} {x : Rat × Rat} {v : V} {kvs : List (List Key × V)} {gs : List (Rat × Rat)} (h : GrpAt K C H kvs gs) (no : ∀ g, g ∈ gs → stL g ≠ stL x) (hv : IsLot K C H v x.1 x.2) : GrpAt K C H (putK kvs (keyF (stL x)) v) (addG gs x) := by
  have hany : ¬ (gs.any fun g => decide (stL g = stL x)) = true := fun z => by
    obtain ⟨g, hg, e⟩ := List.any_eq_true.mp z
    exact no g hg (of_decide_eq_true e)
  unfold putK addG
  rw [grp_any h, if_neg hany, if_neg hany]
  exact A2.app h (.cons ⟨rfl, hv⟩ .nil)
theorem grp_lots {K : PySem.W.Frag} {C : Addr} {H : Hp} : ∀ {kvs : List (List Key × V)} {gs : List (Rat × Rat)}, GrpAt K C H kvs gs → LotsAt K C H (kvs.map (·.2)) gs
  | _, _, .nil => .nil
  | _, _, .cons h t => .cons h.2 (grp_lots t)
theorem Grp.lotOk {N D n m : Nat} {gs : List (Rat × Rat)} (h : Grp N D n gs) (k : n ≤ m) (hk : N + m * (D + 1) ≤ 1900) : ∀ g, g ∈ gs → LotOk g := fun g hg => by
  obtain ⟨a, b, c⟩ := h.ok g hg
  have e1 : n * (D + 1) ≤ m * (D + 1) := Nat.mul_le_mul_right _ k
  have e2 : n * (D + 1) = n * D + n := Nat.mul_succ _ _
  exact ⟨a.sz (by omega) (by omega), b.sz (by omega) (by omega), c⟩
def sp_joined (K : PySem.W.Frag) (C : Addr) : Sp := fun vs H Q _ => ∃ (a : Addr) (ws : List V) (ls : List (Rat × Rat)) (N D : Nat), vs = [.ref a] ∧ SqL K H a ws ∧ LotsAt K C H ws ls ∧ (∀ l, l ∈ ls → LotIn N D l) ∧ N + (ls.length + 1) * (D + 1) ≤ 1900 ∧ ls.length ≤ 500 ∧ ∀ p ws' H', Same H H' → H p = none → H' p = some (.lst ws') → LotsAt K C H' ws' (joinL ls) → Q (.ref p) H'
theorem u_joined {C : Addr} {H : Hp} {Q : VK} {E : XK} {vs : List V} {a : Addr} {ws : List V} {ls : List (Rat × Rat)} (N D : Nat) (e : vs = [.ref a]) (hs : SqL K H a ws) (hl : LotsAt K C H ws ls) (ho : ∀ l, l ∈ ls → LotIn N D l) (hz : N + (ls.length + 1) * (D + 1) ≤ 1900) (hy : ls.length ≤ 500) (q : ∀ p ws' H', Same H H' → H p = none → H' p = some (.lst ws') → LotsAt K C H' ws' (joinL ls) → Q (.ref p) H') : sp_joined K C vs H Q E := ⟨a, ws, ls, N, D, e, hs, hl, ho, hz, hy, q⟩
set_option maxHeartbeats 2000000 in
theorem ok_joined (T : Top w K mg) : FnOk P w K mg base CX0 5 T.f_joined T.fd_joined ["lots"] (sp_joined K T.C_Lot) := by
  have G_LotU_initU := ok_LotU_initU (P := P) (w := w) (base := base) T
  have G_plus := ok_plus (P := P) (w := w) (base := base) T
  have G_Lot_standing := ok_Lot_standing (P := P) (w := w) (base := base) T
  have G_in_standing_order := ok_in_standing_order (P := P) (w := w) (base := base) T
  have hcl_Lot := T.cl_Lot
  have hna_Lot_worth := T.na_Lot_worth
  have hna_Lot_mark := T.na_Lot_mark
  refine T.F_joined.ok sc_joined (fun vs H Q E h => by obtain ⟨a, ws, ls, N, D, rfl, _⟩ := h; rfl) (fun cdv A outer s H vs Q E hr h => ?_)
  obtain ⟨a, ws, ls, N, D, rfl, hs, hl, ho, hz, hy, q⟩ := h
  refine ⟨_, (pss_cons (ps_set (i := 1) sc_joined.nd rfl (Or.inl rfl) pe_dnewT)
      (pss_cons (ps_for PassesOwn.never rfl (pi_list (pv 0)) (pg_name (i := 2) sc_joined.nd rfl (Or.inl rfl)) (pss_cons (ps_set (i := 3) sc_joined.nd rfl (Or.inl rfl) (pe_meth0 (pv 2) T.cl_Lot T.m_Lot_standing (G_Lot_standing) (hr.mono (by decide)) T.b_Lot_standing .nil pass0))
      (pss_one (ps_if (pt_cmp (pc_din (hu_of hr) (pv 3) (pv 1))) (pss_one (ps_dput (hu_of hr) (pv 1) (pv 3) (pe_make T.M_Lot (G_LotU_initU) (hr.mono (by decide)) (by rfl) T.c_Lot T.b_LotU_initU .nil pass0 (pa_cons (pe_call (G_plus) (hr.mono (by decide)) (by rfl) T.g_plus T.k_plus T.b_plus .nil passL (pa_cons (pe_fld (pe_dget (hu_of hr) (pv 1) (pv 3) (fun _ _ => rfl)) rfl) (pa_cons (pe_fld (pv 2) rfl) pa_nil))) (pa_cons (pe_call (G_plus) (hr.mono (by decide)) (by rfl) T.g_plus T.k_plus T.b_plus .nil passL (pa_cons (pe_fld (pe_dget (hu_of hr) (pv 1) (pv 3) (fun _ _ => rfl)) rfl) (pa_cons (pe_fld (pv 2) rfl) pa_nil))) pa_nil))) rfl)) (pss_one (ps_dput (hu_of hr) (pv 1) (pv 3) (pe_make T.M_Lot (G_LotU_initU) (hr.mono (by decide)) (by rfl) T.c_Lot T.b_LotU_initU .nil pass0 (pa_cons (pe_fld (pv 2) rfl) (pa_cons (pe_fld (pv 2) rfl) pa_nil))) rfl))))))
      (pss_one (ps_ret (pe_call (G_in_standing_order) (hr.mono (by decide)) (by rfl) T.g_in_standing_order T.k_in_standing_order T.b_in_standing_order .nil pass0 (pa_cons (pe_listVals rfl (by rfl) T.n_list (pv 1)) pa_nil)))))), ?_⟩
  walk_at "cr.k"
  rename_i d hd
  have sm0 := same_new (o := .dT []) hd
  refine f_list (xs := ws) (fun n σ' H' => ∃ y2 y3 kvs, σ' = [some (.ref a), some (.ref d), y2, y3] ∧ Same H H' ∧ H' d = some (.dT kvs) ∧ GrpAt K T.C_Lot H' kvs ((ls.take n).foldl addG []) ∧ Grp N D n ((ls.take n).foldl addG [])) ⟨none, none, [], rfl, sm0, upd_same, .nil, ⟨List.nodup_nil, (fun _ h => nomatch h), Nat.le_refl _⟩⟩ ?_ ?_ ?_
  · rintro n σ' H' _ ⟨_, _, _, _, r, _⟩
    exact r.seq hs
  · rintro n x σ' H' hx ⟨y2, y3, kvs, rfl, hs1, hd1, hg1, hgr⟩
    clear sm0
    obtain ⟨l0, e0, hx0⟩ := hl.at hx
    have hn : n < ls.length := (List.getElem?_eq_some_iff.mp e0).1
    have hok0 := ho _ (List.mem_of_getElem? e0)
    obtain ⟨w0, m0⟩ := l0
    have hx1 : IsLot K T.C_Lot H' x w0 m0 := hx0.mono (ki_same hs1)
    have hfold : (ls.take (n + 1)).foldl addG [] = addG ((ls.take n).foldl addG []) (w0, m0) := by
      rw [List.take_add_one, e0, List.foldl_append]; rfl
    have hstep := hgr.step hok0 (by
      by_cases z : n = 0
      · subst z; exact .inr rfl
      · exact .inl (by omega))
    rw [hfold]
    have e1 : n * (D + 1) ≤ ls.length * (D + 1) := Nat.mul_le_mul_right _ (by omega)
    have e2 : (ls.length + 1) * (D + 1) = ls.length * (D + 1) + (D + 1) := Nat.succ_mul _ _
    have e3 : n * (D + 1) = n * D + n := Nat.mul_succ _ _
    have z1 : Sz 1900 w0 := hok0.1.sz (by omega) (by omega)
    have z2 : Sz 1900 m0 := hok0.2.1.sz (by omega) (by omega)
    have z3 : 0 < m0 := hok0.2.2
    have n3 : m0 ≠ 0 := fun z => by rw [z] at z3; exact absurd z3 (by decide)
    have hgl := hgr.lotOk (m := ls.length) (by omega) (by omega)
    generalize (ls.take n).foldl addG [] = gs at hg1 hgr hstep hgl
    have hkl : kvs.length = gs.length := hg1.len
    have hroom : kvs.length < sizeLine := L2.small1000 (by have := hgr.len; omega)
    clear hx0
    rcases grp_val (s := w0 / m0) hg1 with ⟨v0, g0, hv0, hm0, hs0, hl0⟩ | ⟨hv0, hno⟩
    · obtain ⟨wg, mg⟩ := g0
      obtain ⟨z4, z5, z6⟩ := hgl _ hm0
      dsimp only at z4 z5 z6 hl0
      walk_at "cr.go"
      rw [show (valV kvs (keyF (w0 / m0))).isSome = true by rw [hv0]; rfl]
      walk_at "cr.go"
      rename_i vL HL hsL hlL
      have sm : Same H' HL := by walk_at "cr.sm"
      have ki : KI H' (upd HL d (.dT (putK kvs (keyF (w0 / m0)) vL))) := fun b o e t => ki_mut (sm _ _ hd1) rfl b o (ki_same sm b o e t) t
      exact ⟨_, _, _, rfl, by walk_at "cr.sm", upd_same, grp_put (x := (w0, m0)) (hg1.mono ki) hgr z3 hm0 hs0 (hlL.mono (ki_mut (sm _ _ hd1) rfl)), hstep⟩
    · walk_at "cr.go"
      rw [show (valV kvs (keyF (w0 / m0))).isSome = false by rw [hv0]; rfl]
      walk_at "cr.go"
      rename_i vL HL hsL hlL
      have sm : Same H' HL := by walk_at "cr.sm"
      have ki : KI H' (upd HL d (.dT (putK kvs (keyF (w0 / m0)) vL))) := fun b o e t => ki_mut (sm _ _ hd1) rfl b o (ki_same sm b o e t) t
      exact ⟨_, _, _, rfl, by walk_at "cr.sm", upd_same, grp_new (x := (w0, m0)) (hg1.mono ki) hno (hlL.mono (ki_mut (sm _ _ hd1) rfl)), hstep⟩
  · rintro σ' H' ⟨y2, y3, kvs, rfl, hs1, hd1, hg1, hgr⟩
    rw [show ws.length = ls.length from hl.len, List.take_length] at hg1 hgr
    walk_at "cr.go"
    rename_i l0 hl0
    have e2 : (ls.length + 1) * (D + 1) = ls.length * (D + 1) + (D + 1) := Nat.succ_mul _ _
    refine u_in_standing_order rfl (SqL.of upd_same) ((grp_lots hg1).mono (ki_new hl0)) (hgr.lotOk (Nat.le_refl _) (by omega)) (by have := hgr.len; omega) fun p ws' H2 hs2 np hp2 hl2 => ?_
    exact q p ws' H2 (hs1.trans ((same_new hl0).trans hs2)) (hs1.free (free_upd np)) hp2 hl2
local macro_rules | `(tactic| walk_at "cr.call") => `(tactic| ((with_reducible refine' Cr.u_joined _ _ ?e ?a ?b ?c ?d ?f ?_); (case e => with_unfolding_all rfl); (case a => walk_at "cr.lst"); (case b => with_reducible assumption); (case c => with_reducible assumption); (case d => first | with_reducible assumption | omega); (case f => first | with_reducible assumption | omega); intro p ws' H' hs np hp hl))

/-! ### _law_bag -/
def sp__law_bag (K : PySem.W.Frag) : Sp := fun vs H Q _ => ∃ (a : Addr) (ns : List Int), vs = [.ref a] ∧ SqL K H a (ns.map V.int) ∧ ∀ b l H', Same H H' → H b = none → H l = none → Bag H' b l → Q (.ref b) H'
theorem u__law_bag {H : Hp} {Q : VK} {E : XK} {vs : List V} {a : Addr} {ns : List Int} (e : vs = [.ref a]) (h : SqL K H a (ns.map V.int)) (q : ∀ b l H', Same H H' → H b = none → H l = none → Bag H' b l → Q (.ref b) H') : sp__law_bag K vs H Q E := ⟨a, ns, e, h, q⟩
theorem ok__law_bag (T : Top w K mg) : FnOk P w K mg base CX0 1 T.f__law_bag T.fd__law_bag ["_law_script"] (sp__law_bag K) := by
  have hcl_Lot := T.cl_Lot
  have hna_Lot_worth := T.na_Lot_worth
  have hna_Lot_mark := T.na_Lot_mark
  refine T.F__law_bag.ok sc__law_bag (fun vs H Q E h => by obtain ⟨a, ns, rfl, _⟩ := h; rfl) (fun cdv A outer s H vs Q E hr h => ?_)
  obtain ⟨a, ns, rfl, hS, q⟩ := h
  refine ⟨_, (pss_cons (ps_set (i := 1) sc__law_bag.nd rfl (Or.inl rfl) pe_int)
      (pss_cons (ps_for PassesOwn.never rfl (pi_list (pe_slice sl_seqU (pv 0) po_none (po_some pe_int))) (pg_name (i := 2) sc__law_bag.nd rfl (Or.inl rfl)) (pss_one (ps_set (i := 1) sc__law_bag.nd rfl (Or.inl rfl) (pe_op op_modU (pe_op op_addU (pe_op op_mulU (pv 1) pe_int) (pv 2)) pe_int))))
      (pss_one (ps_ret (pe_lst (pa_cons (pe_callTy call_listU (by rfl) T.n_list (by decide +kernel) (pa_cons (pe_slice sl_seqU (pv 0) po_none (po_some pe_int)) pa_nil)) (pa_cons pe_int (pa_cons pe_int (pa_cons (pv 1) pa_nil))))))))), ?_⟩
  obtain ⟨ms, hms⟩ := cut_ints ns none (some 63)
  walk_at "cr.k"
  rename_i p hp
  rw [hms]
  refine f_list (xs := ms.map V.int) (fun i σ' H' => ∃ (z : Int) (y : Option V), σ' = [some (.ref a), some (.int z), y] ∧ 0 ≤ z ∧ z < 2147483629 ∧ H' = upd H p (.lst (ms.map V.int))) ⟨7, none, rfl, by decide, by decide, rfl⟩ ?_ ?_ ?_
  · rintro i σ' H' _ ⟨z, y, _, _, _, rfl⟩
    exact SqL.of upd_same
  · rintro i x σ' H' hx ⟨z, y, rfl, h0, h1, rfl⟩
    obtain ⟨c, hc, rfl⟩ : ∃ c, ms[i]? = some c ∧ x = V.int c := by
      rw [List.getElem?_map] at hx
      cases e : ms[i]? with
      | none => rw [e] at hx; cases hx
      | some c => rw [e] at hx; exact ⟨c, rfl, (Option.some.inj hx).symm⟩
    walk_at "cr.go"
    refine ⟨_, _, rfl, ?_, ?_, rfl⟩
    · rw [Int.fmod_eq_emod_of_nonneg _ (by decide)]; exact Int.emod_nonneg _ (by decide)
    · rw [Int.fmod_eq_emod_of_nonneg _ (by decide)]; exact Int.emod_lt_of_pos _ (by decide)
  · rintro σ' H' ⟨z, y, rfl, h0, h1, rfl⟩
    walk_at "cr.go"
    rw [hms]
    rename_i p2 hp2 p3 hp3 p4 hp4
    have n3 : H p3 = none := (same_new hp).free ((same_new hp2).free hp3)
    have n4 : H p4 = none := (same_new hp).free ((same_new hp2).free ((same_new hp3).free hp4))
    refine q p4 p3 _ (by walk_at "cr.sm") n4 n3 ⟨ms, 0, 0, z, upd_same, ?_, by decide, by omega, by omega, ?_⟩
    · rw [upd_ne (ne_of_none (upd_same) hp4), upd_same]
    · exact ne_of_none (upd_same) hp4
local macro_rules | `(tactic| walk_at "cr.call") => `(tactic| ((with_reducible refine' Cr.u__law_bag ?e ?a ?_); (case e => with_unfolding_all rfl); (case a => walk_at "cr.lst"); intro b l H' hs nb nl hB))

/-! ### _law_pull -/
def sp__law_pull (K : PySem.W.Frag) : Sp := fun vs H Q _ => ∃ (b l : Addr) (m : Int), vs = [.ref b, .int m] ∧ Bag H b l ∧ 0 < m ∧ m < 2 ^ 64 ∧ ∀ k H', 0 ≤ k → k < m → But b H H' → Bag H' b l → Q (.int k) H'
theorem u__law_pull {H : Hp} {Q : VK} {E : XK} {vs : List V} {b l : Addr} {m : Int} (e : vs = [.ref b, .int m]) (h : Bag H b l) (h0 : 0 < m) (h1 : m < 2 ^ 64) (q : ∀ k H', 0 ≤ k → k < m → But b H H' → Bag H' b l → Q (.int k) H') : sp__law_pull K vs H Q E := ⟨b, l, m, e, h, h0, h1, q⟩
theorem fmod_in {i m : Int} (h : 0 < m) : 0 ≤ i.fmod m ∧ i.fmod m < m := by
  rw [Int.fmod_eq_emod_of_nonneg _ (by omega)]
  exact ⟨Int.emod_nonneg _ (by omega), Int.emod_lt_of_pos _ h⟩
theorem dz_small {i j : Int} (h : 0 < j) (k : j < 2 ^ 64) : CDivZ i j := dz_of (n := 64) (by omega) (by omega) (by decide) (by decide)
theorem but_upd {H H1 : Hp} {b : Addr} {o : HO} (h : But b H H1) : But b H (upd H1 b o) := ⟨fun a u n e => by rw [upd_ne n]; exact h.oth a u n e, h.lst⟩
theorem ok__law_pull (T : Top w K mg) : FnOk P w K mg base CX0 1 T.f__law_pull T.fd__law_pull ["_law_bag_here", "_law_many"] (sp__law_pull K) := by
  have hcl_Lot := T.cl_Lot
  have hna_Lot_worth := T.na_Lot_worth
  have hna_Lot_mark := T.na_Lot_mark
  refine T.F__law_pull.ok sc__law_pull (fun vs H Q E h => by obtain ⟨b, l, m, rfl, _⟩ := h; rfl) (fun cdv A outer s H vs Q E hr h => ?_)
  obtain ⟨b, l, m, rfl, hB, h0, h1, q⟩ := h
  have hB' := hB
  obtain ⟨ns, p, r, z, e1, e2, hp0, hz0, hz1, hlb⟩ := hB
  have dz : ∀ i, CDivZ i m := fun i => dz_small h0 h1
  refine ⟨_, (pss_cons (ps_if (pt_cmpR op_gtI (pe_ix ix_seq (pv 0) pe_int (fun _ _ => rfl)) pe_int (nomark _)) (pss_cons (ps_set (i := 2) sc__law_pull.nd rfl (Or.inl rfl) (pe_op op_modU (pe_ix ix_seq (pv 0) pe_int (fun _ _ => rfl)) (pv 1)))
      (pss_cons (ps_asg (pe_op op_divU (pe_ix ix_seq (pv 0) pe_int (fun _ _ => rfl)) (pv 1)) (pg_sub (pv 0) pe_int set_list))
      (pss_one (ps_ret (pv 2))))) pss_nil)
      (pss_cons (ps_set (i := 3) sc__law_pull.nd rfl (Or.inl rfl) pe_int)
      (pss_cons (ps_if (pt_cmpR op_ltI (pe_ix ix_seq (pv 0) pe_int (fun _ _ => rfl)) (pe_callB call_lenU (by rfl) T.n_len (by decide +kernel) (pa_cons (pe_ix ix_seq (pv 0) pe_int (fun _ _ => rfl)) pa_nil)) (nomark _)) (pss_one (ps_set (i := 3) sc__law_pull.nd rfl (Or.inl rfl) (pe_ix ix_seq (pe_ix ix_seq (pv 0) pe_int (fun _ _ => rfl)) (pe_ix ix_seq (pv 0) pe_int (fun _ _ => rfl)) (fun _ _ => rfl)))) pss_nil)
      (pss_cons (ps_asg (pe_op op_addU (pe_ix ix_seq (pv 0) pe_int (fun _ _ => rfl)) pe_int) (pg_sub (pv 0) pe_int set_list))
      (pss_cons (ps_if (pt_cmpR op_geI (pv 3) (pe_op op_powU pe_int pe_int) (nomark _)) (pss_cons (ps_asg (pe_op op_divU (pv 3) (pv 1)) (pg_sub (pv 0) pe_int set_list))
      (pss_one (ps_ret (pe_op op_modU (pv 3) (pv 1))))) pss_nil)
      (pss_cons (ps_asg (pe_op op_modU (pe_op op_addU (pe_op op_addU (pe_op op_mulU (pe_ix ix_seq (pv 0) pe_int (fun _ _ => rfl)) pe_int) (pe_op op_modU (pv 3) pe_int)) (pe_op op_mulU pe_int (pe_ix ix_seq (pv 0) pe_int (fun _ _ => rfl)))) pe_int) (pg_sub (pv 0) pe_int set_list))
      (pss_cons (ps_asg (pe_op op_modU (pe_op op_addU (pe_op op_mulU (pe_ix ix_seq (pv 0) pe_int (fun _ _ => rfl)) pe_int) pe_int) pe_int) (pg_sub (pv 0) pe_int set_list))
      (pss_one (ps_ret (pe_op op_modU (pe_op op_divU (pe_ix ix_seq (pv 0) pe_int (fun _ _ => rfl)) pe_int) (pv 1))))))))))), ?_⟩
  walk_at "cr.k"
  by_cases hr0 : 0 < r
  · rw [decide_eq_true hr0]
    have d := dz r
    walk_at "cr.go"
    exact q _ _ (fmod_in h0).1 (fmod_in h0).2 (but_upd (but_of hB' fun _ _ _ e => e)) ⟨ns, p, r.fdiv m, z, upd_same, (upd_ne hlb).trans e2, hp0, hz0, hz1, hlb⟩
  · rw [decide_eq_false hr0]
    walk_at "cr.go"
    have tl : ∀ (z' p' r' : Int) (H' : Hp), H' = upd H b (.lst [.ref l, .int p', .int r', .int z']) → 0 ≤ p' → -(2 ^ 40) < z' → z' < 2 ^ 40 → Bag H' b l := fun z' p' r' H' e h1 h2 h3 => by
      subst e
      exact ⟨ns, p', r', z', upd_same, (upd_ne hlb).trans e2, h1, h2, h3, hlb⟩
    have bt : ∀ o : HO, But b H (upd H b o) := fun o => but_upd (but_of hB' fun _ _ _ e => e)
    have zi : ∀ i : Int, -(2 ^ 40) < i.fmod 2147483647 ∧ i.fmod 2147483647 < 2 ^ 40 := fun i => by
      have := fmod_in (i := i) (m := 2147483647) (by decide)
      omega
    have zm : ∀ i : Int, CMulZ (i.fmod 2147483647) 69621 := fun i => by
      have := fmod_in (i := i) (m := 2147483647) (by decide)
      exact .inl (.inl ⟨by omega, by omega⟩)
    have hlen : (ns.map V.int).length = ns.length := List.length_map _
    refine s_iteD (fun hlt => ?_) (fun hlt => ?_)
    · have hlt' : p < ns.length := by have := hlt; omega
      obtain ⟨c, hc⟩ : ∃ c : Int, atI (ns.map V.int) p = some (.int c) := by
        obtain ⟨j, rfl⟩ : ∃ j : Nat, p = (j : Int) := ⟨p.toNat, by omega⟩
        have hj : j < ns.length := by omega
        exact ⟨ns[j], atI_nat (by rw [List.getElem?_map, List.getElem?_eq_getElem hj]; rfl)⟩
      have d := dz c
      walk_at "cr.go"
      refine s_iteD (fun hc => ?_) (fun hc => ?_)
      · walk_at "cr.go"
        simp only [upd_upd]
        exact q _ _ (fmod_in h0).1 (fmod_in h0).2 (bt _) (tl z (p + 1) (c.fdiv m) _ rfl (by omega) hz0 hz1)
      · walk_at "cr.go"
        have zz := zm ((z * 48271 + c.fmod 2147483629 + 17 * (p + 1)))
        walk_at "cr.go"
        have dd : CDivZ ((((z * 48271 + c.fmod 2147483629 + 17 * (p + 1)).fmod 2147483647) * 69621 + 11).fmod 2147483647) 64 := dz_small (by decide) (by decide)
        walk_at "cr.go"
        simp only [upd_upd]
        exact q _ _ (fmod_in h0).1 (fmod_in h0).2 (bt _) (tl _ (p + 1) r _ rfl (by omega) (zi _).1 (zi _).2)
    · have d := dz 0
      walk_at "cr.go"
      refine s_iteD (fun hc => ?_) (fun hc => ?_)
      · walk_at "cr.go"
        simp only [upd_upd]
        exact q _ _ (fmod_in h0).1 (fmod_in h0).2 (bt _) (tl z (p + 1) ((0 : Int).fdiv m) _ rfl (by omega) hz0 hz1)
      · walk_at "cr.go"
        have zz := zm ((z * 48271 + (0 : Int).fmod 2147483629 + 17 * (p + 1)))
        walk_at "cr.go"
        have dd : CDivZ ((((z * 48271 + (0 : Int).fmod 2147483629 + 17 * (p + 1)).fmod 2147483647) * 69621 + 11).fmod 2147483647) 64 := dz_small (by decide) (by decide)
        walk_at "cr.go"
        simp only [upd_upd]
        exact q _ _ (fmod_in h0).1 (fmod_in h0).2 (bt _) (tl _ (p + 1) r _ rfl (by omega) (zi _).1 (zi _).2)
local macro_rules | `(tactic| walk_at "cr.call") => `(tactic| ((with_reducible refine' Cr.u__law_pull ?e ?a ?b ?c ?_); (case e => with_unfolding_all rfl); (case a => walk_at "cr.bag"); (case b => first | assumption | omega | decide); (case c => first | assumption | omega | decide); intro k H' hk0 hk1 hb hB))

/-! ### _law_low -/
def sp__law_low (K : PySem.W.Frag) : Sp := spP K (fun x : Int × Int => [.int x.1, .int x.2]) (fun x => x.2 ≠ 0 ∧ x.2.natAbs < 2 ^ 8000) (fun x => fr (Rat.divInt x.1 x.2))
theorem u__law_low {H : Hp} {Q : VK} {E : XK} {vs : List V} {t b : Int} (e : vs = [.int t, .int b]) (z1 : b ≠ 0) (z2 : b.natAbs < 2 ^ 8000) (q : ∀ v H', Same H H' → Dt K H' v (fr (Rat.divInt t b)) → Q v H') : sp__law_low K vs H Q E := by
  subst e
  exact ⟨(t, b), .cons (.int _) (.cons (.int _) .nil), ⟨z1, z2⟩, q⟩
theorem ok__law_low (T : Top w K mg) : FnOk P w K mg base CX0 1 T.f__law_low T.fd__law_low ["_law_upper", "_law_lower"] (sp__law_low K) := by
  have hcl_Lot := T.cl_Lot
  have hna_Lot_worth := T.na_Lot_worth
  have hna_Lot_mark := T.na_Lot_mark
  refine T.F__law_low.ok sc__law_low (fun vs H Q E h => by obtain ⟨x, h, _⟩ := h; exact h.len) (fun cdv A outer s H vs Q E hr h => ?_)
  obtain ⟨⟨t, b⟩, hd, ⟨hb, hz⟩, q⟩ := h
  obtain ⟨x, y, rfl, hx, hy⟩ := da2 hd
  cases hx
  cases hy
  dsimp only at q hb hz
  refine ⟨_, (pss_cons (ps_set (i := 2) sc__law_low.nd rfl (Or.inl rfl) (pe_callB call_absU (by rfl) T.n_abs (by decide +kernel) (pa_cons (pv 0) pa_nil)))
      (pss_cons (ps_set (i := 3) sc__law_low.nd rfl (Or.inl rfl) (pe_callB call_absU (by rfl) T.n_abs (by decide +kernel) (pa_cons (pv 1) pa_nil)))
      (pss_cons (ps_while PassesOwn.never (pt_cmpR (op_neD hr.units) (pv 3) pe_int (nomark _)) (pss_cons (ps_set (i := 4) sc__law_low.nd rfl (Or.inl rfl) (pe_op op_modU (pv 2) (pv 3)))
      (pss_cons (ps_set (i := 2) sc__law_low.nd rfl (Or.inl rfl) (pv 3))
      (pss_one (ps_set (i := 3) sc__law_low.nd rfl (Or.inl rfl) (pv 4))))))
      (pss_cons (ps_if (pt_cmpR op_ltI (pv 1) pe_int (nomark _)) (pss_one (ps_set (i := 2) sc__law_low.nd rfl (Or.inl rfl) (pe_un un_negU (pv 2)))) pss_nil)
      (pss_one (ps_ret (pe_tup (pa_cons (pe_op op_divU (pv 0) (pv 2)) (pa_cons (pe_op op_divU (pv 1) (pv 2)) pa_nil))))))))), ?_⟩
  walk_at "cr.k"
  refine ⟨fun m σ' H' => ∃ a : Nat, ∃ y, σ' = [some (.int t), some (.int b), some (.int a), some (.int (m : Nat)), y] ∧ Nat.gcd a m = Nat.gcd t.natAbs b.natAbs ∧ H' = H, ⟨b.natAbs, t.natAbs, none, rfl, rfl, rfl⟩, ?_⟩
  rintro k σ' H' ⟨a, y, rfl, hg, rfl⟩
  walk_at "cr.go"
  by_cases hk : k = 0
  · subst hk
    rw [show (!decide (((0 : Nat) : Int) = 0)) = false by rfl]
    have hg' : a = Nat.gcd t.natAbs b.natAbs := by rw [← hg]; simp
    have gp := gcd_pos (t := t) hb
    have lg : (Nat.gcd t.natAbs b.natAbs) ≤ b.natAbs := Nat.le_of_dvd (by omega) (Nat.gcd_dvd_right _ _)
    walk_at "cr.go"
    have dz : ∀ i : Int, CDivZ i (lowG t b) := fun i => dz_of (n := 8000) (by unfold lowG; split <;> omega) (Nat.lt_of_le_of_lt (by unfold lowG; split <;> omega) hz) (by decide) (by decide)
    by_cases h : b < 0
    · rw [decide_eq_true h]
      have e : -(a : Int) = lowG t b := by rw [lowG, if_pos h, hg']
      walk_at "cr.go"
      rw [e]
      have d1 := dz t
      have d2 := dz b
      walk_at "cr.go"
      rename_i p hp
      rw [low_num hb, low_den hb]
      exact q _ _ (same_new hp) (dt_new (.cons (.int _) (.cons (.int _) .nil)) hp)
    · rw [decide_eq_false h]
      have e : (a : Int) = lowG t b := by rw [lowG, if_neg h, hg']
      walk_at "cr.go"
      rw [e]
      have d1 := dz t
      have d2 := dz b
      walk_at "cr.go"
      rename_i p hp
      rw [low_num hb, low_den hb]
      exact q _ _ (same_new hp) (dt_new (.cons (.int _) (.cons (.int _) .nil)) hp)
  · rw [show (!decide ((k : Int) = 0)) = true by rw [decide_eq_false (by omega)]; rfl]
    refine iteT ⟨fun σ' H' => ∃ m', m' < k ∧ ∃ a : Nat, ∃ y, σ' = [some (.int t), some (.int b), some (.int a), some (.int (m' : Nat)), y] ∧ Nat.gcd a m' = Nat.gcd t.natAbs b.natAbs ∧ H' = _, fun _ _ h => h, ?_⟩
    walk_at "cr.go"
    refine ⟨a % k, Nat.mod_lt _ (by omega), k, some (.int (a % k : Nat)), ?_, (gcd_turn a k).trans hg, rfl⟩
    rw [show ((a : Int).fmod (k : Int)) = ((a % k : Nat) : Int) by rw [Int.fmod_eq_emod_of_nonneg _ (by omega)]; rfl]
    try rfl
local macro_rules | `(tactic| walk_at "cr.call") => `(tactic| ((with_reducible refine' Cr.u__law_low ?e ?a ?b ?_); (case e => with_unfolding_all rfl); (case a => first | assumption | omega); (case b => walk_at "cr.pw"); intro v H' hs hd))

/-! ### _law_wide -/
def sp__law_wide (K : PySem.W.Frag) : Sp := fun vs H Q _ => ∃ (b l : Addr) (m : Int), vs = [.ref b, .int m] ∧ Bag H b l ∧ 0 < m ∧ ∀ k H', 0 ≤ k → k < m → But b H H' → Bag H' b l → Q (.int k) H'
theorem u__law_wide {H : Hp} {Q : VK} {E : XK} {vs : List V} {b l : Addr} {m : Int} (e : vs = [.ref b, .int m]) (h : Bag H b l) (h0 : 0 < m) (q : ∀ k H', 0 ≤ k → k < m → But b H H' → Bag H' b l → Q (.int k) H') : sp__law_wide K vs H Q E := ⟨b, l, m, e, h, h0, q⟩
theorem ok__law_wide (T : Top w K mg) : FnOk P w K mg base CX0 2 T.f__law_wide T.fd__law_wide ["_law_bag_here", "_law_many"] (sp__law_wide K) := by
  have G__law_pull := ok__law_pull (P := P) (w := w) (base := base) T
  have hcl_Lot := T.cl_Lot
  have hna_Lot_worth := T.na_Lot_worth
  have hna_Lot_mark := T.na_Lot_mark
  refine T.F__law_wide.ok sc__law_wide (fun vs H Q E h => by obtain ⟨b, l, m, rfl, _⟩ := h; rfl) (fun cdv A outer s H vs Q E hr h => ?_)
  obtain ⟨b, l, m, rfl, hB, h0, q⟩ := h
  refine ⟨_, (pss_cons (ps_set (i := 2) sc__law_wide.nd rfl (Or.inl rfl) (pe_call (G__law_pull) (hr.mono (by decide)) (by rfl) T.g__law_pull T.k__law_pull T.b__law_pull .nil pass0 (pa_cons (pv 0) (pa_cons pe_int pa_nil))))
      (pss_one (ps_ret (pe_op op_modU (pe_op op_addU (pv 2) (pe_op op_mulU pe_int (pe_call (G__law_pull) (hr.mono (by decide)) (by rfl) T.g__law_pull T.k__law_pull T.b__law_pull .nil pass0 (pa_cons (pv 0) (pa_cons pe_int pa_nil))))) (pv 1))))), ?_⟩
  walk_at "cr.k"
  exact q _ _ (fmod_in h0).1 (fmod_in h0).2 (by walk_at "cr.but") (by walk_at "cr.bag")
local macro_rules | `(tactic| walk_at "cr.call") => `(tactic| ((with_reducible refine' Cr.u__law_wide ?e ?a ?b ?_); (case e => with_unfolding_all rfl); (case a => walk_at "cr.bag"); (case b => first | assumption | omega | decide); intro k H' hk0 hk1 hb hB))

/-! ### _law_factor -/
def sp__law_factor (K : PySem.W.Frag) : Sp := fun vs H Q _ => ∃ (b l : Addr), vs = [.ref b] ∧ Bag H b l ∧ ∀ v r H', But b H H' → Bag H' b l → Dt K H' v (fr r) → Sz2 28 14 r → 0 < r → Q v H'
theorem u__law_factor {H : Hp} {Q : VK} {E : XK} {vs : List V} {b l : Addr} (e : vs = [.ref b]) (h : Bag H b l) (q : ∀ v r H', But b H H' → Bag H' b l → Dt K H' v (fr r) → Sz2 28 14 r → 0 < r → Q v H') : sp__law_factor K vs H Q E := ⟨b, l, e, h, q⟩
theorem ok__law_factor (T : Top w K mg) : FnOk P w K mg base CX0 3 T.f__law_factor T.fd__law_factor ["_law_bag_here"] (sp__law_factor K) := by
  have G__law_pull := ok__law_pull (P := P) (w := w) (base := base) T
  have G__law_low := ok__law_low (P := P) (w := w) (base := base) T
  have G__law_wide := ok__law_wide (P := P) (w := w) (base := base) T
  have hcl_Lot := T.cl_Lot
  have hna_Lot_worth := T.na_Lot_worth
  have hna_Lot_mark := T.na_Lot_mark
  refine T.F__law_factor.ok sc__law_factor (fun vs H Q E h => by obtain ⟨b, l, rfl, _⟩ := h; rfl) (fun cdv A outer s H vs Q E hr h => ?_)
  obtain ⟨b, l, rfl, hB, q⟩ := h
  refine ⟨_, (pss_cons (ps_set (i := 1) sc__law_factor.nd rfl (Or.inl rfl) (pe_op op_addU pe_int (pe_ix ix_seq (pe_lst (pa_cons (pe_call (G__law_pull) (hr.mono (by decide)) (by rfl) T.g__law_pull T.k__law_pull T.b__law_pull .nil pass0 (pa_cons (pv 0) (pa_cons pe_int pa_nil))) (pa_cons (pe_call (G__law_pull) (hr.mono (by decide)) (by rfl) T.g__law_pull T.k__law_pull T.b__law_pull .nil pass0 (pa_cons (pv 0) (pa_cons (pe_op op_powU pe_int pe_int) pa_nil))) (pa_cons (pe_call (G__law_wide) (hr.mono (by decide)) (by rfl) T.g__law_wide T.k__law_wide T.b__law_wide .nil pass0 (pa_cons (pv 0) (pa_cons (pe_op op_powU pe_int pe_int) pa_nil))) pa_nil)))) (pe_call (G__law_pull) (hr.mono (by decide)) (by rfl) T.g__law_pull T.k__law_pull T.b__law_pull .nil pass0 (pa_cons (pv 0) (pa_cons pe_int pa_nil))) (fun _ _ => rfl))))
      (pss_one (ps_ret (pe_call (G__law_low) (hr.mono (by decide)) (by rfl) T.g__law_low T.k__law_low T.b__law_low .nil pass0 (pa_cons (pv 1) (pa_cons (pe_op op_addU pe_int (pe_ix ix_seq (pe_lst (pa_cons (pe_call (G__law_pull) (hr.mono (by decide)) (by rfl) T.g__law_pull T.k__law_pull T.b__law_pull .nil pass0 (pa_cons (pv 0) (pa_cons pe_int pa_nil))) (pa_cons (pe_call (G__law_pull) (hr.mono (by decide)) (by rfl) T.g__law_pull T.k__law_pull T.b__law_pull .nil pass0 (pa_cons (pv 0) (pa_cons (pe_op op_powU pe_int pe_int) pa_nil))) pa_nil))) (pe_call (G__law_pull) (hr.mono (by decide)) (by rfl) T.g__law_pull T.k__law_pull T.b__law_pull .nil pass0 (pa_cons (pv 0) (pa_cons pe_int pa_nil))) (fun _ _ => rfl))) pa_nil)))))), ?_⟩
  walk_at "cr.k"
  refine s_menuI 0 100000000 (by walk_at "cr.lst") (by assumption) (by walk_at "cr.len") (by walk_at "cr.items") fun t1 t11 t12 => ?_
  walk_at "cr.go"
  refine s_menuI 0 10000 (by walk_at "cr.lst") (by assumption) (by walk_at "cr.len") (by walk_at "cr.items") fun t2 t21 t22 => ?_
  walk_at "cr.go"
  exact q _ _ _ (by walk_at "cr.but") (by walk_at "cr.bag") (by walk_at "cr.dt") (divInt_sz2 (n := 28) (d := 14) (by omega) (by omega) (by omega)) (divInt_pos (by omega) (by omega))
local macro_rules | `(tactic| walk_at "cr.call") => `(tactic| ((with_reducible refine' Cr.u__law_factor ?e ?a ?_); (case e => with_unfolding_all rfl); (case a => walk_at "cr.bag"); intro v r H' hb hB hd hz hp))

/-! ### _law_mul -/
def sp__law_mul (K : PySem.W.Frag) : Sp := fun vs H Q E => ∃ (x y : V) (r s : Rat), vs = [x, y] ∧ Dt K H x (fr r) ∧ Dt K H y (fr s) ∧ Sz 4000 r ∧ Sz 4000 s ∧ (∀ v H', Same H H' → Dt K H' v (fr (r * s)) → Q v H')
theorem u__law_mul {H : Hp} {Q : VK} {E : XK} {vs : List V} {x y : V} {r s : Rat} (e : vs = [x, y]) (hx : Dt K H x (fr r)) (hy : Dt K H y (fr s)) (z1 : Sz 4000 r) (z2 : Sz 4000 s) (q : ∀ v H', Same H H' → Dt K H' v (fr (r * s)) → Q v H') : sp__law_mul K vs H Q E := ⟨x, y, r, s, e, hx, hy, z1, z2, q⟩
theorem ok__law_mul (T : Top w K mg) : FnOk P w K mg base CX0 2 T.f__law_mul T.fd__law_mul ["_law_one", "_law_other"] (sp__law_mul K) := by
  have G__law_low := ok__law_low (P := P) (w := w) (base := base) T
  have hcl_Lot := T.cl_Lot
  have hna_Lot_worth := T.na_Lot_worth
  have hna_Lot_mark := T.na_Lot_mark
  refine T.F__law_mul.ok sc__law_mul (fun vs H Q E h => by obtain ⟨x, y, r, s, rfl, _⟩ := h; rfl) (fun cdv A outer s0 H vs Q E hr h => ?_)
  obtain ⟨x, y, r, s, rfl, hx, hy, z1, z2, q⟩ := h
  refine ⟨_, (pss_one (ps_ret (pe_call (G__law_low) (hr.mono (by decide)) (by rfl) T.g__law_low T.k__law_low T.b__law_low .nil pass0 (pa_cons (pe_op op_mulU (pe_ix ix_seq (pv 0) pe_int (fun _ _ => rfl)) (pe_ix ix_seq (pv 1) pe_int (fun _ _ => rfl))) (pa_cons (pe_op op_mulU (pe_ix ix_seq (pv 0) pe_int (fun _ _ => rfl)) (pe_ix ix_seq (pv 1) pe_int (fun _ _ => rfl))) pa_nil))))), ?_⟩
  have z1' := z1.mono (show 4000 ≤ 400000 by decide)
  have z2' := z2.mono (show 4000 ≤ 400000 by decide)
  have dn : (r.den : Int) * s.den ≠ 0 := Int.mul_ne_zero (den_ne r) (den_ne s)
  have dz : ((r.den : Int) * s.den).natAbs < 2 ^ 8000 := natAbs_lt_mul z1.dA z2.dA
  walk_at "cr.k"
  rename_i v H' hs hd
  rw [rat_mul] at hd
  exact q _ _ (by walk_at "cr.sm") (by walk_at "cr.dt")
local macro_rules | `(tactic| walk_at "cr.call") => `(tactic| ((with_reducible refine' Cr.u__law_mul ?e ?a ?b ?c ?d ?_); (case e => with_unfolding_all rfl); (case a => walk_at "cr.dt"); (case b => walk_at "cr.dt"); (case c => walk_at "cr.z"); (case d => walk_at "cr.z"); intro v H' hs hd))

/-! ### _law_lotpair -/
def sp__law_lotpair (K : PySem.W.Frag) : Sp := fun vs H Q _ => ∃ (b l : Addr), vs = [.ref b] ∧ Bag H b l ∧ ∀ v w m H', But b H H' → Bag H' b l → Dt K H' v (.tuple [fr w, fr m]) → Sz2 42 28 w → Sz2 28 14 m → 0 < w → 0 < m → Q v H'
theorem u__law_lotpair {H : Hp} {Q : VK} {E : XK} {vs : List V} {b l : Addr} (e : vs = [.ref b]) (h : Bag H b l) (q : ∀ v w m H', But b H H' → Bag H' b l → Dt K H' v (.tuple [fr w, fr m]) → Sz2 42 28 w → Sz2 28 14 m → 0 < w → 0 < m → Q v H') : sp__law_lotpair K vs H Q E := ⟨b, l, e, h, q⟩
theorem fr_1 : fr (Rat.divInt 10001 10000) = .tuple [.int 10001, .int 10000] := by unfold fr; rw [Rat.num_divInt, Rat.den_divInt]; rfl
theorem fr_2 : fr (Rat.divInt 1 2) = .tuple [.int 1, .int 2] := by unfold fr; rw [Rat.num_divInt, Rat.den_divInt]; rfl
theorem dt_1 {H : Hp} {v : V} (h : Dt K H v (.tuple [.int 10001, .int 10000])) : Dt K H v (fr (Rat.divInt 10001 10000)) := by rw [fr_1]; exact h
theorem dt_2 {H : Hp} {v : V} (h : Dt K H v (.tuple [.int 1, .int 2])) : Dt K H v (fr (Rat.divInt 1 2)) := by rw [fr_2]; exact h
theorem ok__law_lotpair (T : Top w K mg) : FnOk P w K mg base CX0 4 T.f__law_lotpair T.fd__law_lotpair ["_law_bag_here"] (sp__law_lotpair K) := by
  have G__law_pull := ok__law_pull (P := P) (w := w) (base := base) T
  have G__law_factor := ok__law_factor (P := P) (w := w) (base := base) T
  have G__law_mul := ok__law_mul (P := P) (w := w) (base := base) T
  have hcl_Lot := T.cl_Lot
  have hna_Lot_worth := T.na_Lot_worth
  have hna_Lot_mark := T.na_Lot_mark
  refine T.F__law_lotpair.ok sc__law_lotpair (fun vs H Q E h => by obtain ⟨b, l, rfl, _⟩ := h; rfl) (fun cdv A outer s H vs Q E hr h => ?_)
  obtain ⟨b, l, rfl, hB, q⟩ := h
  refine ⟨_, (pss_cons (ps_set (i := 1) sc__law_lotpair.nd rfl (Or.inl rfl) (pe_call (G__law_factor) (hr.mono (by decide)) (by rfl) T.g__law_factor T.k__law_factor T.b__law_factor .nil pass0 (pa_cons (pv 0) pa_nil)))
      (pss_cons (ps_set (i := 2) sc__law_lotpair.nd rfl (Or.inl rfl) (pe_lst (pa_cons (pv 1) (pa_cons (pe_call (G__law_factor) (hr.mono (by decide)) (by rfl) T.g__law_factor T.k__law_factor T.b__law_factor .nil pass0 (pa_cons (pv 0) pa_nil)) (pa_cons (pe_call (G__law_mul) (hr.mono (by decide)) (by rfl) T.g__law_mul T.k__law_mul T.b__law_mul .nil pass0 (pa_cons (pv 1) (pa_cons (pe_tup (pa_cons pe_int (pa_cons pe_int pa_nil))) pa_nil))) (pa_cons (pe_call (G__law_mul) (hr.mono (by decide)) (by rfl) T.g__law_mul T.k__law_mul T.b__law_mul .nil pass0 (pa_cons (pv 1) (pa_cons (pe_tup (pa_cons pe_int (pa_cons pe_int pa_nil))) pa_nil))) pa_nil))))))
      (pss_one (ps_ret (pe_tup (pa_cons (pe_ix ix_seq (pv 2) (pe_call (G__law_pull) (hr.mono (by decide)) (by rfl) T.g__law_pull T.k__law_pull T.b__law_pull .nil pass0 (pa_cons (pv 0) (pa_cons pe_int pa_nil))) (fun _ _ => rfl)) (pa_cons (pv 1) pa_nil))))))), ?_⟩
  walk_at "cr.k"
  rename_i v1 m H1 hb1 hB1 hd1 z1 hm v2 r H2 hb2 hB2 hd2 z2 hr2 p1 hp1
  have d1 := dt_1 (K := K) (H := upd H2 p1 (.tup [.int 10001, .int 10000])) (v := .ref p1) (by walk_at "cr.dt")
  walk_at "cr.go"
  rename_i v3 H3 hs3 hd3 p2 hp2
  have d2 := dt_2 (K := K) (H := upd H3 p2 (.tup [.int 1, .int 2])) (v := .ref p2) (by walk_at "cr.dt")
  walk_at "cr.go"
  have zm : Sz2 42 28 m := z1.mono (by decide) (by decide)
  refine s_menuP (fun H v => ∃ w, Dt K H v (fr w) ∧ Sz2 42 28 w ∧ 0 < w) (by walk_at "cr.lst") (by assumption) (by walk_at "cr.len") (fun v hv => ?_) fun v hv => ?_
  · simp only [List.mem_cons, List.not_mem_nil, or_false] at hv
    rcases hv with h | h | h | h
    · subst h; exact ⟨_, by walk_at "cr.dt", zm, hm⟩
    · subst h; exact ⟨_, by walk_at "cr.dt", z2.mono (by decide) (by decide), hr2⟩
    · subst h; exact ⟨_, by walk_at "cr.dt", (z1.mul (divInt_sz2 (n := 14) (d := 14) (by decide) (by decide) (by decide))).mono (by decide) (by decide), Rat.mul_pos hm (divInt_pos (by decide) (by decide))⟩
    · subst h; exact ⟨_, by walk_at "cr.dt", (z1.mul (divInt_sz2 (n := 14) (d := 14) (by decide) (by decide) (by decide))).mono (by decide) (by decide), Rat.mul_pos hm (divInt_pos (by decide) (by decide))⟩
  obtain ⟨w, hw, zw, hw0⟩ := hv
  walk_at "cr.go"
  exact q _ _ _ _ (by walk_at "cr.but") (by walk_at "cr.bag") (by walk_at "cr.dt") zw z1 hw0 hm
local macro_rules | `(tactic| walk_at "cr.call") => `(tactic| ((with_reducible refine' Cr.u__law_lotpair ?e ?a ?_); (case e => with_unfolding_all rfl); (case a => walk_at "cr.bag"); intro v w m H' hb hB hd hz1 hz2 hp1 hp2))

/-! ### _law_tax -/
def sp__law_tax (_K : PySem.W.Frag) : Sp := fun vs H Q _ => ∃ (b l : Addr), vs = [.ref b] ∧ Bag H b l ∧ ∀ i H', 0 ≤ i → i ≤ 9999 → But b H H' → Bag H' b l → Q (.int i) H'
theorem u__law_tax {H : Hp} {Q : VK} {E : XK} {vs : List V} {b l : Addr} (e : vs = [.ref b]) (h : Bag H b l) (q : ∀ i H', 0 ≤ i → i ≤ 9999 → But b H H' → Bag H' b l → Q (.int i) H') : sp__law_tax K vs H Q E := ⟨b, l, e, h, q⟩
theorem ok__law_tax (T : Top w K mg) : FnOk P w K mg base CX0 2 T.f__law_tax T.fd__law_tax ["_law_bag_here"] (sp__law_tax K) := by
  have G__law_pull := ok__law_pull (P := P) (w := w) (base := base) T
  have hcl_Lot := T.cl_Lot
  have hna_Lot_worth := T.na_Lot_worth
  have hna_Lot_mark := T.na_Lot_mark
  refine T.F__law_tax.ok sc__law_tax (fun vs H Q E h => by obtain ⟨b, l, rfl, _⟩ := h; rfl) (fun cdv A outer s H vs Q E hr h => ?_)
  obtain ⟨b, l, rfl, hB, q⟩ := h
  refine ⟨_, (pss_one (ps_ret (pe_ix ix_seq (pe_lst (pa_cons pe_int (pa_cons pe_int (pa_cons pe_int (pa_cons (pe_op op_addU pe_int (pe_call (G__law_pull) (hr.mono (by decide)) (by rfl) T.g__law_pull T.k__law_pull T.b__law_pull .nil pass0 (pa_cons (pv 0) (pa_cons pe_int pa_nil)))) pa_nil))))) (pe_call (G__law_pull) (hr.mono (by decide)) (by rfl) T.g__law_pull T.k__law_pull T.b__law_pull .nil pass0 (pa_cons (pv 0) (pa_cons pe_int pa_nil))) (fun _ _ => rfl)))), ?_⟩
  walk_at "cr.k"
  refine s_menuI 0 9999 (by walk_at "cr.lst") (by assumption) (by walk_at "cr.len") (by walk_at "cr.items") fun t1 t11 t12 => ?_
  exact q _ _ t11 t12 (by walk_at "cr.but") (by walk_at "cr.bag")
local macro_rules | `(tactic| walk_at "cr.call") => `(tactic| ((with_reducible refine' Cr.u__law_tax ?e ?a ?_); (case e => with_unfolding_all rfl); (case a => walk_at "cr.bag"); intro i H' hi0 hi1 hb hB))

/-! ### _law_add -/
def sp__law_add (K : PySem.W.Frag) : Sp := fun vs H Q E => ∃ (x y : V) (r s : Rat), vs = [x, y] ∧ Dt K H x (fr r) ∧ Dt K H y (fr s) ∧ Sz 4000 r ∧ Sz 4000 s ∧ (∀ v H', Same H H' → Dt K H' v (fr (r + s)) → Q v H')
theorem u__law_add {H : Hp} {Q : VK} {E : XK} {vs : List V} {x y : V} {r s : Rat} (e : vs = [x, y]) (hx : Dt K H x (fr r)) (hy : Dt K H y (fr s)) (z1 : Sz 4000 r) (z2 : Sz 4000 s) (q : ∀ v H', Same H H' → Dt K H' v (fr (r + s)) → Q v H') : sp__law_add K vs H Q E := ⟨x, y, r, s, e, hx, hy, z1, z2, q⟩
theorem ok__law_add (T : Top w K mg) : FnOk P w K mg base CX0 2 T.f__law_add T.fd__law_add ["_law_one", "_law_other"] (sp__law_add K) := by
  have G__law_low := ok__law_low (P := P) (w := w) (base := base) T
  have hcl_Lot := T.cl_Lot
  have hna_Lot_worth := T.na_Lot_worth
  have hna_Lot_mark := T.na_Lot_mark
  refine T.F__law_add.ok sc__law_add (fun vs H Q E h => by obtain ⟨x, y, r, s, rfl, _⟩ := h; rfl) (fun cdv A outer s0 H vs Q E hr h => ?_)
  obtain ⟨x, y, r, s, rfl, hx, hy, z1, z2, q⟩ := h
  refine ⟨_, (pss_one (ps_ret (pe_call (G__law_low) (hr.mono (by decide)) (by rfl) T.g__law_low T.k__law_low T.b__law_low .nil pass0 (pa_cons (pe_op op_addU (pe_op op_mulU (pe_ix ix_seq (pv 0) pe_int (fun _ _ => rfl)) (pe_ix ix_seq (pv 1) pe_int (fun _ _ => rfl))) (pe_op op_mulU (pe_ix ix_seq (pv 1) pe_int (fun _ _ => rfl)) (pe_ix ix_seq (pv 0) pe_int (fun _ _ => rfl)))) (pa_cons (pe_op op_mulU (pe_ix ix_seq (pv 0) pe_int (fun _ _ => rfl)) (pe_ix ix_seq (pv 1) pe_int (fun _ _ => rfl))) pa_nil))))), ?_⟩
  have z1' := z1.mono (show 4000 ≤ 400000 by decide)
  have z2' := z2.mono (show 4000 ≤ 400000 by decide)
  have dn : (r.den : Int) * s.den ≠ 0 := Int.mul_ne_zero (den_ne r) (den_ne s)
  have dz : ((r.den : Int) * s.den).natAbs < 2 ^ 8000 := natAbs_lt_mul z1.dA z2.dA
  walk_at "cr.k"
  rename_i v H' hs hd
  rw [rat_add] at hd
  exact q _ _ (by walk_at "cr.sm") (by walk_at "cr.dt")
local macro_rules | `(tactic| walk_at "cr.call") => `(tactic| ((with_reducible refine' Cr.u__law_add ?e ?a ?b ?c ?d ?_); (case e => with_unfolding_all rfl); (case a => walk_at "cr.dt"); (case b => walk_at "cr.dt"); (case c => walk_at "cr.z"); (case d => walk_at "cr.z"); intro v H' hs hd))

/-! ### _law_sum -/
def sp__law_sum (K : PySem.W.Frag) : Sp := fun vs H Q _ => ∃ (a : Addr) (ws : List V) (rs : List Rat), vs = [.ref a] ∧ SqL K H a ws ∧ DtAll K H ws (rs.map fr) ∧ (∀ r, r ∈ rs → Sz 780 r) ∧ rs.length ≤ 5 ∧ ∀ v H', Same H H' → Dt K H' v (fr (rs.foldl (· + ·) 0)) → Q v H'
theorem u__law_sum {H : Hp} {Q : VK} {E : XK} {vs : List V} {a : Addr} {ws : List V} {rs : List Rat} (e : vs = [.ref a]) (hs : SqL K H a ws) (hd : DtAll K H ws (rs.map fr)) (z1 : ∀ r, r ∈ rs → Sz 780 r) (l1 : rs.length ≤ 5)
    (q : ∀ v H', Same H H' → Dt K H' v (fr (rs.foldl (· + ·) 0)) → Q v H') : sp__law_sum K vs H Q E := ⟨a, ws, rs, e, hs, hd, z1, l1, q⟩
theorem ok__law_sum (T : Top w K mg) : FnOk P w K mg base CX0 3 T.f__law_sum T.fd__law_sum ["_law_rows"] (sp__law_sum K) := by
  have G__law_add := ok__law_add (P := P) (w := w) (base := base) T
  have hcl_Lot := T.cl_Lot
  have hna_Lot_worth := T.na_Lot_worth
  have hna_Lot_mark := T.na_Lot_mark
  refine T.F__law_sum.ok sc__law_sum (fun vs H Q E h => by obtain ⟨a, ws, rs, rfl, _⟩ := h; rfl) (fun cdv A outer s H vs Q E hr h => ?_)
  obtain ⟨a, ws, rs, rfl, hs, hd, z1, l1, q⟩ := h
  refine ⟨_, (pss_cons (ps_set (i := 1) sc__law_sum.nd rfl (Or.inl rfl) (pe_tup (pa_cons pe_int (pa_cons pe_int pa_nil))))
      (pss_cons (ps_for PassesOwn.never rfl (pi_list (pv 0)) (pg_name (i := 2) sc__law_sum.nd rfl (Or.inl rfl)) (pss_one (ps_set (i := 1) sc__law_sum.nd rfl (Or.inl rfl) (pe_call (G__law_add) (hr.mono (by decide)) (by rfl) T.g__law_add T.k__law_add T.b__law_add .nil pass0 (pa_cons (pv 1) (pa_cons (pv 2) pa_nil))))))
      (pss_one (ps_ret (pv 1))))), ?_⟩
  walk_at "cr.k"
  rename_i p hp
  have h0 : Dt K (upd H p (.tup [.int 0, .int 1])) (.ref p) (fr 0) := (show Dt K (upd H p (.tup [.int 0, .int 1])) (.ref p) (.tuple [.int 0, .int 1]) by walk_at "cr.dt")
  have sn := same_new (o := .tup [.int 0, .int 1]) hp
  refine f_list (xs := ws) (fun n σ' H' => ∃ t y, σ' = [some (.ref a), some t, y] ∧ Same H H' ∧ Dt K H' t (fr ((rs.take n).foldl (· + ·) 0))) ⟨.ref p, none, rfl, sn, h0⟩ ?_ ?_ ?_
  · rintro n σ' H' _ ⟨_, _, _, r, _⟩
    exact r.seq hs
  · rintro n x σ' H' hx ⟨t, y, rfl, hs1, ht⟩
    clear sn h0
    obtain ⟨d, e1, hxd⟩ := hd.item hx
    obtain ⟨r, e2, rfl⟩ := map_get e1
    have hr1 : Sz 4000 r := (z1 r (List.mem_of_getElem? e2)).mono (by decide)
    have hr2 : Sz 4000 ((rs.take n).foldl (· + ·) 0) := (foldl_sz (n := 780) (m := 1) (rs.take n) (fun r hr => z1 r (List.mem_of_mem_take hr)) 0 (sz1 (by decide))).mono (by rw [List.length_take]; omega)
    walk_at "cr.go"
    refine ⟨_, _, rfl, by walk_at "cr.sm", ?_⟩
    rw [take_foldl e2]
    assumption
  · rintro σ' H' ⟨t, y, rfl, hs1, ht⟩
    clear sn h0
    rw [show ws.length = rs.length by rw [hd.len, List.length_map], List.take_length] at ht
    walk_at "cr.go"
    exact q _ _ hs1 ht
local macro_rules | `(tactic| walk_at "cr.call") => `(tactic| ((with_reducible refine' Cr.u__law_sum ?e ?a ?b ?d ?f ?_); (case e => with_unfolding_all rfl); (case a => walk_at "cr.lst"); (case b => walk_at "cr.das"); (case d => with_reducible assumption); (case f => first | with_reducible assumption | omega); intro v H' hs hd))

/-! ### Lot_harvested -/
def hvW (w m : Rat) (i : Int) : Rat := if m < w then w - feeR w m i else w
def hvM (w m : Rat) (i : Int) : Rat := if m < w then w - feeR w m i else m
def sp_Lot_harvested (K : PySem.W.Frag) (C : Addr) : Sp := fun vs H Q _ => ∃ (v : V) (w m : Rat) (i : Int), vs = [v, .int i] ∧ IsLot K C H v w m ∧ Sz 1000 w ∧ Sz 1000 m ∧ 0 ≤ i ∧ i ≤ 10000 ∧ ∀ y H', Same H H' → IsLot K C H' y (hvW w m i) (hvM w m i) → Q y H'
theorem u_Lot_harvested {C : Addr} {H : Hp} {Q : VK} {E : XK} {vs : List V} {v : V} {w m : Rat} {i : Int} (e : vs = [v, .int i]) (hl : IsLot K C H v w m) (z1 : Sz 1000 w) (z2 : Sz 1000 m) (i0 : 0 ≤ i) (i1 : i ≤ 10000) (q : ∀ y H', Same H H' → IsLot K C H' y (hvW w m i) (hvM w m i) → Q y H') : sp_Lot_harvested K C vs H Q E := ⟨v, w, m, i, e, hl, z1, z2, i0, i1, q⟩
theorem ok_Lot_harvested (T : Top w K mg) : FnOk P w K mg base CX0 5 T.f_Lot_harvested T.fd_Lot_harvested ["self", "rate"] (sp_Lot_harvested K T.C_Lot) := by
  have G_LotU_initU := ok_LotU_initU (P := P) (w := w) (base := base) T
  have G_less := ok_less (P := P) (w := w) (base := base) T
  have G_Lot_net := ok_Lot_net (P := P) (w := w) (base := base) T
  have hcl_Lot := T.cl_Lot
  have hna_Lot_worth := T.na_Lot_worth
  have hna_Lot_mark := T.na_Lot_mark
  refine T.F_Lot_harvested.ok sc_Lot_harvested (fun vs H Q E h => by obtain ⟨v, w, m, i, rfl, _⟩ := h; rfl) (fun cdv A outer s H vs Q E hr h => ?_)
  obtain ⟨v, w, m, i, rfl, hl, z1, z2, i0, i1, q⟩ := h
  refine ⟨_, (pss_cons (ps_set (i := 2) sc_Lot_harvested.nd rfl (Or.inl rfl) (pe_meth (pv 0) T.cl_Lot T.m_Lot_net (G_Lot_net) (hr.mono (by decide)) T.b_Lot_net .nil pass0 (pa_cons (pv 1) pa_nil)))
      (pss_cons (ps_if (pt_tru (pe_call (G_less) (hr.mono (by decide)) (by rfl) T.g_less T.k_less T.b_less .nil pass0 (pa_cons (pe_fld (pv 0) rfl) (pa_cons (pe_fld (pv 0) rfl) pa_nil)))) (pss_one (ps_ret (pe_make T.M_Lot (G_LotU_initU) (hr.mono (by decide)) (by rfl) T.c_Lot T.b_LotU_initU .nil pass0 (pa_cons (pv 2) (pa_cons (pv 2) pa_nil))))) pss_nil)
      (pss_one (ps_ret (pe_make T.M_Lot (G_LotU_initU) (hr.mono (by decide)) (by rfl) T.c_Lot T.b_LotU_initU .nil pass0 (pa_cons (pe_fld (pv 0) rfl) (pa_cons (pe_fld (pv 0) rfl) pa_nil))))))), ?_⟩
  walk_at "cr.k"
  refine s_iteD (fun h => ?_) (fun h => ?_)
  · have e1 : hvW w m i = w - feeR w m i := by unfold hvW; rw [if_pos h]
    have e2 : hvM w m i = w - feeR w m i := by unfold hvM; rw [if_pos h]
    rw [e1, e2] at q
    walk_at "cr.go"
    exact q _ _ (by walk_at "cr.sm") (by walk_at "cr.lot")
  · have e1 : hvW w m i = w := by unfold hvW; rw [if_neg h]
    have e2 : hvM w m i = m := by unfold hvM; rw [if_neg h]
    rw [e1, e2] at q
    walk_at "cr.go"
    exact q _ _ (by walk_at "cr.sm") (by walk_at "cr.lot")
local macro_rules | `(tactic| walk_at "cr.call") => `(tactic| ((with_reducible refine' Cr.u_Lot_harvested ?e ?a ?b ?c ?d ?f ?_); (case e => with_unfolding_all rfl); (case a => walk_at "cr.lot"); (case b => walk_at "cr.z"); (case c => walk_at "cr.z"); (case d => omega); (case f => omega); intro y H' hs hl))

/-! ### Lot_grown -/
def sp_Lot_grown (K : PySem.W.Frag) (C : Addr) : Sp := fun vs H Q _ => ∃ (v x : V) (w m r : Rat), vs = [v, x] ∧ IsLot K C H v w m ∧ Dt K H x (fr r) ∧ Sz 4000 w ∧ Sz 4000 m ∧ Sz 4000 r ∧ ∀ y H', Same H H' → IsLot K C H' y (w * r) (m) → Q y H'
theorem u_Lot_grown {C : Addr} {H : Hp} {Q : VK} {E : XK} {vs : List V} {v x : V} {w m r : Rat} (e : vs = [v, x]) (hl : IsLot K C H v w m) (hx : Dt K H x (fr r)) (z1 : Sz 4000 w) (z2 : Sz 4000 m) (z3 : Sz 4000 r) (q : ∀ y H', Same H H' → IsLot K C H' y (w * r) (m) → Q y H') : sp_Lot_grown K C vs H Q E := ⟨v, x, w, m, r, e, hl, hx, z1, z2, z3, q⟩
theorem ok_Lot_grown (T : Top w K mg) : FnOk P w K mg base CX0 3 T.f_Lot_grown T.fd_Lot_grown ["self", "factor"] (sp_Lot_grown K T.C_Lot) := by
  have G_LotU_initU := ok_LotU_initU (P := P) (w := w) (base := base) T
  have G_times := ok_times (P := P) (w := w) (base := base) T
  have hcl_Lot := T.cl_Lot
  have hna_Lot_worth := T.na_Lot_worth
  have hna_Lot_mark := T.na_Lot_mark
  refine T.F_Lot_grown.ok sc_Lot_grown (fun vs H Q E h => by obtain ⟨v, x, w, m, r, rfl, _⟩ := h; rfl) (fun cdv A outer s H vs Q E hr h => ?_)
  obtain ⟨v, x, w, m, r, rfl, hl, hx, z1, z2, z3, q⟩ := h
  refine ⟨_, (pss_one (ps_ret (pe_make T.M_Lot (G_LotU_initU) (hr.mono (by decide)) (by rfl) T.c_Lot T.b_LotU_initU .nil pass0 (pa_cons (pe_call (G_times) (hr.mono (by decide)) (by rfl) T.g_times T.k_times T.b_times .nil passL (pa_cons (pe_fld (pv 0) rfl) (pa_cons (pv 1) pa_nil))) (pa_cons (pe_fld (pv 0) rfl) pa_nil))))), ?_⟩
  walk_at "cr.k"
  exact q _ _ (by walk_at "cr.sm") (by walk_at "cr.lot")
local macro_rules | `(tactic| walk_at "cr.call") => `(tactic| ((with_reducible refine' Cr.u_Lot_grown ?e ?a ?b ?c ?d ?f ?_); (case e => with_unfolding_all rfl); (case a => walk_at "cr.lot"); (case b => walk_at "cr.dt"); (case c => walk_at "cr.z"); (case d => walk_at "cr.z"); (case f => walk_at "cr.z"); intro y H' hs hl))

/-! ### Lot_raised -/
def sp_Lot_raised (K : PySem.W.Frag) (C : Addr) : Sp := fun vs H Q _ => ∃ (v x : V) (w m r : Rat), vs = [v, x] ∧ IsLot K C H v w m ∧ Dt K H x (fr r) ∧ Sz 4000 w ∧ Sz 4000 m ∧ Sz 4000 r ∧ ∀ y H', Same H H' → IsLot K C H' y (w) (m * r) → Q y H'
theorem u_Lot_raised {C : Addr} {H : Hp} {Q : VK} {E : XK} {vs : List V} {v x : V} {w m r : Rat} (e : vs = [v, x]) (hl : IsLot K C H v w m) (hx : Dt K H x (fr r)) (z1 : Sz 4000 w) (z2 : Sz 4000 m) (z3 : Sz 4000 r) (q : ∀ y H', Same H H' → IsLot K C H' y (w) (m * r) → Q y H') : sp_Lot_raised K C vs H Q E := ⟨v, x, w, m, r, e, hl, hx, z1, z2, z3, q⟩
theorem ok_Lot_raised (T : Top w K mg) : FnOk P w K mg base CX0 3 T.f_Lot_raised T.fd_Lot_raised ["self", "factor"] (sp_Lot_raised K T.C_Lot) := by
  have G_LotU_initU := ok_LotU_initU (P := P) (w := w) (base := base) T
  have G_times := ok_times (P := P) (w := w) (base := base) T
  have hcl_Lot := T.cl_Lot
  have hna_Lot_worth := T.na_Lot_worth
  have hna_Lot_mark := T.na_Lot_mark
  refine T.F_Lot_raised.ok sc_Lot_raised (fun vs H Q E h => by obtain ⟨v, x, w, m, r, rfl, _⟩ := h; rfl) (fun cdv A outer s H vs Q E hr h => ?_)
  obtain ⟨v, x, w, m, r, rfl, hl, hx, z1, z2, z3, q⟩ := h
  refine ⟨_, (pss_one (ps_ret (pe_make T.M_Lot (G_LotU_initU) (hr.mono (by decide)) (by rfl) T.c_Lot T.b_LotU_initU .nil pass0 (pa_cons (pe_fld (pv 0) rfl) (pa_cons (pe_call (G_times) (hr.mono (by decide)) (by rfl) T.g_times T.k_times T.b_times .nil passL (pa_cons (pe_fld (pv 0) rfl) (pa_cons (pv 1) pa_nil))) pa_nil))))), ?_⟩
  walk_at "cr.k"
  exact q _ _ (by walk_at "cr.sm") (by walk_at "cr.lot")
local macro_rules | `(tactic| walk_at "cr.call") => `(tactic| ((with_reducible refine' Cr.u_Lot_raised ?e ?a ?b ?c ?d ?f ?_); (case e => with_unfolding_all rfl); (case a => walk_at "cr.lot"); (case b => walk_at "cr.dt"); (case c => walk_at "cr.z"); (case d => walk_at "cr.z"); (case f => walk_at "cr.z"); intro y H' hs hl))

/-! ### _law_turned -/
def dW (j : Int) (r : Rat) (t : Int) (w m : Rat) : Rat := if j = 0 then w * r else if j = 1 then w else hvW w m t
def dM (j : Int) (r : Rat) (t : Int) (w m : Rat) : Rat := if j = 0 then m else if j = 1 then m * r else hvM w m t
def sp__law_turned (K : PySem.W.Frag) (C : Addr) : Sp := fun vs H Q _ => ∃ (v x : V) (w m r : Rat) (j t : Int), vs = [v, x] ∧ IsLot K C H v w m ∧ Dt K H x (.tuple [.int j, fr r, .int t]) ∧ Sz 1000 w ∧ Sz 1000 m ∧ Sz 1000 r ∧ 0 ≤ t ∧ t ≤ 10000 ∧ ∀ y H', Same H H' → IsLot K C H' y (dW j r t w m) (dM j r t w m) → Q y H'
theorem u__law_turned {C : Addr} {H : Hp} {Q : VK} {E : XK} {vs : List V} {v x : V} {w m r : Rat} {j t : Int} (e : vs = [v, x]) (hl : IsLot K C H v w m) (hx : Dt K H x (.tuple [.int j, fr r, .int t])) (z1 : Sz 1000 w) (z2 : Sz 1000 m) (z3 : Sz 1000 r) (t0 : 0 ≤ t) (t1 : t ≤ 10000) (q : ∀ y H', Same H H' → IsLot K C H' y (dW j r t w m) (dM j r t w m) → Q y H') : sp__law_turned K C vs H Q E := ⟨v, x, w, m, r, j, t, e, hl, hx, z1, z2, z3, t0, t1, q⟩
theorem ok__law_turned (T : Top w K mg) : FnOk P w K mg base CX0 6 T.f__law_turned T.fd__law_turned ["_law_lot", "_law_deed"] (sp__law_turned K T.C_Lot) := by
  have G_Lot_harvested := ok_Lot_harvested (P := P) (w := w) (base := base) T
  have G_Lot_grown := ok_Lot_grown (P := P) (w := w) (base := base) T
  have G_Lot_raised := ok_Lot_raised (P := P) (w := w) (base := base) T
  have hcl_Lot := T.cl_Lot
  have hna_Lot_worth := T.na_Lot_worth
  have hna_Lot_mark := T.na_Lot_mark
  refine T.F__law_turned.ok sc__law_turned (fun vs H Q E h => by obtain ⟨v, x, w, m, r, j, t, rfl, _⟩ := h; rfl) (fun cdv A outer s H vs Q E hr h => ?_)
  obtain ⟨v, x, w, m, r, j, t, rfl, hl, hx, z1, z2, z3, t0, t1, q⟩ := h
  have z1' : Sz 4000 w := z1.mono (by decide)
  have z2' : Sz 4000 m := z2.mono (by decide)
  have z3' : Sz 4000 r := z3.mono (by decide)
  refine ⟨_, (pss_cons (ps_if (pt_cmpR (op_eqD hr.units) (pe_ix ix_seq (pv 1) pe_int (fun _ _ => rfl)) pe_int (nomark _)) (pss_one (ps_ret (pe_meth (pv 0) T.cl_Lot T.m_Lot_grown (G_Lot_grown) (hr.mono (by decide)) T.b_Lot_grown .nil pass0 (pa_cons (pe_ix ix_seq (pv 1) pe_int (fun _ _ => rfl)) pa_nil)))) pss_nil)
      (pss_cons (ps_if (pt_cmpR (op_eqD hr.units) (pe_ix ix_seq (pv 1) pe_int (fun _ _ => rfl)) pe_int (nomark _)) (pss_one (ps_ret (pe_meth (pv 0) T.cl_Lot T.m_Lot_raised (G_Lot_raised) (hr.mono (by decide)) T.b_Lot_raised .nil pass0 (pa_cons (pe_ix ix_seq (pv 1) pe_int (fun _ _ => rfl)) pa_nil)))) pss_nil)
      (pss_one (ps_ret (pe_meth (pv 0) T.cl_Lot T.m_Lot_harvested (G_Lot_harvested) (hr.mono (by decide)) T.b_Lot_harvested .nil pass0 (pa_cons (pe_ix ix_seq (pv 1) pe_int (fun _ _ => rfl)) pa_nil)))))), ?_⟩
  walk_at "cr.k"
  refine s_iteD (fun h => ?_) (fun h => ?_)
  · walk_at "cr.go"
    exact q _ _ (by walk_at "cr.sm") (by unfold dW dM; rw [if_pos h, if_pos h]; assumption)
  walk_at "cr.go"
  refine s_iteD (fun h2 => ?_) (fun h2 => ?_)
  · walk_at "cr.go"
    exact q _ _ (by walk_at "cr.sm") (by unfold dW dM; rw [if_neg h, if_neg h, if_pos h2, if_pos h2]; assumption)
  walk_at "cr.go"
  exact q _ _ (by walk_at "cr.sm") (by unfold dW dM; rw [if_neg h, if_neg h, if_neg h2, if_neg h2]; assumption)
local macro_rules | `(tactic| walk_at "cr.call") => `(tactic| ((with_reducible refine' Cr.u__law_turned ?e ?a ?b ?c ?d ?f ?g1 ?g2 ?_); (case e => with_unfolding_all rfl); (case a => walk_at "cr.lot"); (case b => walk_at "cr.dt"); (case c => walk_at "cr.z"); (case d => walk_at "cr.z"); (case f => walk_at "cr.z"); (case g1 => first | with_reducible assumption | omega); (case g2 => first | with_reducible assumption | omega); intro y H' hs hl))

/-! ### law -/
def sp_law (K : PySem.W.Frag) : Sp := fun vs H Q _ => ∃ (a : Addr) (ns : List Int), vs = [.ref a] ∧ SqL K H a (ns.map V.int) ∧ ns.length ≤ 63 ∧ ∀ H', Q (.bl true) H'
theorem LotR_mon {K : PySem.W.Frag} {C : Addr} : ∀ a b H H', Ext H H' → LotR K C a b H → LotR K C a b H' := fun a b H H' e h => by
  obtain ⟨w, m, h1, h2⟩ := h
  exact ⟨w, m, h1.mono (ki_same e), h2.mono (ki_same e)⟩
theorem insLot {K : PySem.W.Frag} {C : Addr} {H : Hp} {x y : V} {w m : Rat} (h1 : IsLot K C H x w m) (h2 : IsLot K C H y w m) : DIns C (LotR K C) x y H := by
  have k1 := h1
  have k2 := h2
  obtain ⟨a, dx, x1, y1, rfl, e1, _⟩ := h1
  obtain ⟨b, dy, x2, y2, rfl, e2, _⟩ := h2
  exact ⟨a, b, dx, dy, _, _, rfl, rfl, e1, e2, w, m, k1, k2⟩
theorem s_neJ1 {K : PySem.W.Frag} {C : Addr} {H : Hp} {Q : VK} {p q : Addr} {x y : V} {w m : Rat} (a : H p = some (.lst [x])) (b : H q = some (.lst [y])) (h1 : IsLot K C H x w m) (h2 : IsLot K C H y w m) (k : ∀ H', Same H H' → Q (.bl false) H') : rNeG (DIns C (LotR K C)) (.ref p) (.ref q) H Q :=
  ⟨⟨p, q, [x], [y], rfl, rfl, a, b, Prs.cons (insLot h1 h2) Prs.nil⟩, k⟩
theorem s_eqJ1 {K : PySem.W.Frag} {C : Addr} {H : Hp} {Q : VK} {p q : Addr} {x y : V} {w m : Rat} (a : H p = some (.lst [x])) (b : H q = some (.lst [y])) (h1 : IsLot K C H x w m) (h2 : IsLot K C H y w m) (k : ∀ H', Same H H' → Q (.bl true) H') : rEqG (DList (DIns C (LotR K C))) (.ref p) (.ref q) H Q :=
  ⟨⟨p, q, [x], [y], rfl, rfl, a, b, Prs.cons (insLot h1 h2) Prs.nil⟩, k⟩
/-! the parts of one lot -/
def sumR (fs : List Rat) : Rat := fs.foldl (· + ·) 0
theorem sum_cons (f : Rat) (fs : List Rat) : sumR (f :: fs) = f + sumR fs := by
  unfold sumR
  rw [List.foldl_cons, foldl_add]; grind
theorem sum_app (xs ys : List Rat) : sumR (xs ++ ys) = sumR xs + sumR ys := by
  induction xs with
  | nil => show sumR ys = sumR [] + sumR ys; unfold sumR; simp only [List.foldl_nil]; grind
  | cons x xs ih => rw [List.cons_append, sum_cons, sum_cons, ih]; grind
theorem sum_erase : ∀ (fs : List Rat) (j : Nat) (h : j < fs.length), sumR (fs.eraseIdx j) + fs[j] = sumR fs
  | f :: fs, 0, _ => by rw [List.eraseIdx_cons_zero, List.getElem_cons_zero, sum_cons]; grind
  | f :: fs, j + 1, h => by
    have := sum_erase fs j (by simpa using h)
    rw [List.eraseIdx_cons_succ, List.getElem_cons_succ, sum_cons, sum_cons]; grind
theorem sum_mul (c : Rat) (fs : List Rat) : sumR (fs.map (c * ·)) = c * sumR fs := by
  induction fs with
  | nil => show sumR [] = c * sumR []; unfold sumR; simp only [List.foldl_nil]; grind
  | cons f fs ih => rw [List.map_cons, sum_cons, sum_cons, ih]; grind
theorem A2.erase {α β : Type} {R : α → β → Prop} : ∀ {xs : List α} {ys : List β}, A2 R xs ys → ∀ j : Nat, A2 R (xs.eraseIdx j) (ys.eraseIdx j)
  | _, _, .nil, j => by rw [List.eraseIdx_nil, List.eraseIdx_nil]; exact .nil
  | _, _, .cons a b, 0 => b
  | _, _, .cons a b, j + 1 => .cons a (A2.erase b j)
theorem a2_map {α β γ : Type} {R : α → γ → Prop} {g : β → γ} : ∀ {xs : List α} {ys : List β}, A2 (fun x y => R x (g y)) xs ys → A2 R xs (ys.map g)
  | _, _, .nil => .nil
  | _, _, .cons a b => .cons a (a2_map b)
def PieceAt (K : PySem.W.Frag) (C : Addr) (H : Hp) (w m : Rat) : List V → List Rat → Prop := A2 fun v f => IsLot K C H v (w * f) (m * f)
theorem PieceAt.mono {K : PySem.W.Frag} {C : Addr} {H H' : Hp} {w m : Rat} {vs : List V} {fs : List Rat} (k : KI H H') (h : PieceAt K C H w m vs fs) : PieceAt K C H' w m vs fs := A2.mono (fun _ _ z => z.mono k) h
theorem fold_one {w m : Rat} (hm : 0 < m) : ∀ (fs : List Rat) (s : Rat), 0 < s → (∀ f, f ∈ fs → 0 < f) → (fs.map fun f => (w * f, m * f)).foldl addG [(w * s, m * s)] = [(w * (s + sumR fs), m * (s + sumR fs))]
  | [], s, _, _ => by show [(w * s, m * s)] = [(w * (s + 0), m * (s + 0))]; rw [Rat.add_zero]
  | f :: fs, s, hs, hf => by
    have h0 := hf f List.mem_cons_self
    have st : stL (w * s, m * s) = stL (w * f, m * f) := by
      unfold stL
      show w * s / (m * s) = w * f / (m * f)
      have : m ≠ 0 := by grind
      have : s ≠ 0 := by grind
      have : f ≠ 0 := by grind
      have : m * s ≠ 0 := by grind
      have : m * f ≠ 0 := by grind
      grind
    have hadd : addG [(w * s, m * s)] (w * f, m * f) = [(w * (s + f), m * (s + f))] := by
      unfold addG
      have c : ([(w * s, m * s)].any fun g => decide (stL g = stL (w * f, m * f))) = true := by
        rw [List.any_cons, decide_eq_true st]; rfl
      rw [if_pos c, List.map_cons, List.map_nil, if_pos st]
      unfold addL
      show [(w * s + w * f, m * s + m * f)] = _
      rw [Rat.mul_add, Rat.mul_add]
    rw [List.map_cons, List.foldl_cons, hadd, fold_one hm fs (s + f) (by grind) (fun g hg => hf g (List.mem_cons_of_mem _ hg)), sum_cons]
    rw [Rat.add_assoc]
theorem join_parts {w m : Rat} (hm : 0 < m) {fs : List Rat} (h1 : sumR fs = 1) (hf : ∀ f, f ∈ fs → 0 < f) : joinL (fs.map fun f => (w * f, m * f)) = [(w, m)] := by
  cases fs with
  | nil => exact absurd h1 (by decide)
  | cons f fs =>
    have e : groupL ((f :: fs).map fun f => (w * f, m * f)) = [(w, m)] := by
      unfold groupL
      rw [List.map_cons, List.foldl_cons]
      have : addG [] (w * f, m * f) = [(w * f, m * f)] := rfl
      rw [this, fold_one hm fs f (hf f List.mem_cons_self) (fun g hg => hf g (List.mem_cons_of_mem _ hg)), ← sum_cons, h1, Rat.mul_one, Rat.mul_one]
    unfold joinL sortL
    rw [e]
    rfl
theorem hv_part {w m f : Rat} {t : Int} (h : 0 < f) : hvW (w * f) (m * f) t = hvW w m t * f ∧ hvM (w * f) (m * f) t = hvM w m t * f := by
  unfold hvW hvM
  rw [feeR_part h]
  by_cases c : m < w
  · rw [if_pos c, if_pos (Rat.mul_lt_mul_of_pos_right c h), if_pos c, if_pos (Rat.mul_lt_mul_of_pos_right c h)]
    constructor <;> grind
  · rw [if_neg c, if_neg (fun z => c ((Rat.mul_lt_mul_right h).mp z)), if_neg c, if_neg (fun z => c ((Rat.mul_lt_mul_right h).mp z))]
    exact ⟨rfl, rfl⟩
theorem d_part {w m f r : Rat} {j t : Int} (h : 0 < f) : dW j r t (w * f) (m * f) = dW j r t w m * f ∧ dM j r t (w * f) (m * f) = dM j r t w m * f := by
  unfold dW dM
  by_cases h0 : j = 0
  · simp only [if_pos h0]; constructor <;> grind
  · by_cases h1 : j = 1
    · simp only [if_neg h0, if_pos h1]; constructor <;> grind
    · simp only [if_neg h0, if_neg h1]; exact hv_part h
/-- worth and mark over one bottom -/
def CW (n : Nat) (w m : Rat) : Prop := ∃ (q a b : Int), 0 < q ∧ q.natAbs < 2 ^ (42 + 14 * n) ∧ a.natAbs < 2 ^ (56 + 15 * n) ∧ b.natAbs < 2 ^ (56 + 15 * n) ∧ 0 < b ∧ 0 < a ∧ w = Rat.divInt a q ∧ m = Rat.divInt b q
theorem CW.pos {n : Nat} {w m : Rat} (h : CW n w m) : 0 < m := by
  obtain ⟨q, a, b, q0, _, _, _, b0, _, _, rfl⟩ := h
  exact divInt_pos b0 q0
theorem CW.sz {n : Nat} {w m : Rat} (h : CW n w m) : Sz2 (56 + 15 * n) (42 + 14 * n) w ∧ Sz2 (56 + 15 * n) (42 + 14 * n) m := by
  obtain ⟨q, a, b, q0, q1, a1, b1, b0, _, rfl, rfl⟩ := h
  exact ⟨divInt_sz2 (by omega) a1 q1, divInt_sz2 (by omega) b1 q1⟩
theorem CW.start {w m : Rat} (h1 : Sz2 42 28 w) (h2 : Sz2 28 14 m) (w0 : 0 < w) (m0 : 0 < m) : CW 0 w m := by
  have dw := w.den_pos
  have dm := m.den_pos
  have nw : 0 < w.num := by have := (Rat.lt_iff 0 w).mp w0; simpa using this
  have nm : 0 < m.num := by have := (Rat.lt_iff 0 m).mp m0; simpa using this
  have ad : (w.den : Int).natAbs < 2 ^ 28 := by rw [Int.natAbs_natCast]; exact h1.2
  have bd : (m.den : Int).natAbs < 2 ^ 14 := by rw [Int.natAbs_natCast]; exact h2.2
  refine ⟨w.den * m.den, w.num * m.den, m.num * w.den, Int.mul_pos (by omega) (by omega), pw_le (natAbs_lt_mul ad bd) (by decide), pw_le (natAbs_lt_mul h1.1 bd) (by decide), pw_le (natAbs_lt_mul h2.1 ad) (by decide), Int.mul_pos nm (by omega), Int.mul_pos nw (by omega), ?_, ?_⟩
  · rw [← Rat.divInt_mul_divInt, Rat.num_divInt_den, Rat.divInt_self' (den_ne m), Rat.mul_one]
  · rw [Int.mul_comm (w.den : Int), ← Rat.divInt_mul_divInt, Rat.num_divInt_den, Rat.divInt_self' (den_ne w), Rat.mul_one]
theorem pw14 (n : Nat) : 2 ^ (42 + 14 * (n + 1)) = 2 ^ (42 + 14 * n) * 16384 := by rw [show 42 + 14 * (n + 1) = 42 + 14 * n + 14 by omega, Nat.pow_add]
theorem pw15 (n : Nat) : 2 ^ (56 + 15 * (n + 1)) = 2 ^ (56 + 15 * n) * 32768 := by rw [show 56 + 15 * (n + 1) = 56 + 15 * n + 15 by omega, Nat.pow_add]
theorem mul_small {a c : Int} {N k : Nat} (h : a.natAbs < N) (h2 : c.natAbs ≤ k) (hk : 0 < k) : (a * c).natAbs < N * k := by
  rw [Int.natAbs_mul]
  calc a.natAbs * c.natAbs ≤ a.natAbs * k := Nat.mul_le_mul_left _ h2
    _ < N * k := Nat.mul_lt_mul_of_pos_right h hk
theorem CW.mono {n k : Nat} {w m : Rat} (h : CW n w m) (hk : n ≤ k) : CW k w m := by
  obtain ⟨q, a, b, q0, q1, a1, b1, r⟩ := h
  exact ⟨q, a, b, q0, pw_le q1 (by omega), pw_le a1 (by omega), pw_le b1 (by omega), r⟩
theorem div_same {a q v : Int} (hv : v ≠ 0) : Rat.divInt (a * v) (q * v) = Rat.divInt a q := by
  rw [← Rat.divInt_mul_divInt, Rat.divInt_self' hv, Rat.mul_one]
theorem CW.deed {n : Nat} {w m : Rat} {u v : Int} {j t : Int} (h : CW n w m) (u0 : 1 ≤ u) (u1 : u ≤ 40) (v0 : 1 ≤ v) (v1 : v ≤ 40) (t0 : 0 ≤ t) (t1 : t ≤ 9999) : CW (n + 1) (dW j (Rat.divInt u v) t w m) (dM j (Rat.divInt u v) t w m) := by
  by_cases h0 : j = 0
  · obtain ⟨q, a, b, q0, q1, a1, b1, b0, a0, rfl, rfl⟩ := h
    unfold dW dM
    rw [if_pos h0, if_pos h0]
    refine ⟨q * v, a * u, b * v, Int.mul_pos q0 (by omega), ?_, ?_, ?_, Int.mul_pos b0 (by omega), Int.mul_pos a0 (by omega), by rw [Rat.divInt_mul_divInt], (div_same (by omega)).symm⟩
    · rw [pw14]; exact mul_small q1 (by omega) (by decide)
    · rw [pw15]; exact mul_small a1 (by omega) (by decide)
    · rw [pw15]; exact mul_small b1 (by omega) (by decide)
  by_cases h1 : j = 1
  · obtain ⟨q, a, b, q0, q1, a1, b1, b0, a0, rfl, rfl⟩ := h
    unfold dW dM
    rw [if_neg h0, if_neg h0, if_pos h1, if_pos h1]
    refine ⟨q * v, a * v, b * u, Int.mul_pos q0 (by omega), ?_, ?_, ?_, Int.mul_pos b0 (by omega), Int.mul_pos a0 (by omega), (div_same (by omega)).symm, by rw [Rat.divInt_mul_divInt]⟩
    · rw [pw14]; exact mul_small q1 (by omega) (by decide)
    · rw [pw15]; exact mul_small a1 (by omega) (by decide)
    · rw [pw15]; exact mul_small b1 (by omega) (by decide)
  unfold dW dM
  rw [if_neg h0, if_neg h0, if_neg h1, if_neg h1]
  by_cases c : m < w
  · have e : hvW w m t = w - feeR w m t ∧ hvM w m t = w - feeR w m t := by unfold hvW hvM; rw [if_pos c, if_pos c]; exact ⟨rfl, rfl⟩
    rw [e.1, e.2]
    have ef : feeR w m t = (w - m) * Rat.divInt t 10000 := by unfold feeR; rw [if_pos c]
    rw [ef]
    obtain ⟨q, a, b, q0, q1, a1, b1, b0, a0, rfl, rfl⟩ := h
    have hab : b < a := by
      have hq : (0 : Rat) < q := by exact_mod_cast q0
      rw [Rat.divInt_eq_div, Rat.divInt_eq_div, Rat.div_lt_iff hq] at c
      have e : (a : Rat) / q * q = a := by have : (q : Rat) ≠ 0 := by grind
                                           grind
      rw [e] at c
      exact_mod_cast c
    have val : Rat.divInt a q - (Rat.divInt a q - Rat.divInt b q) * Rat.divInt t 10000 = Rat.divInt (a * 10000 - (a - b) * t) (q * 10000) := by
      have hq : (q : Rat) ≠ 0 := by exact_mod_cast (show q ≠ 0 by omega)
      rw [Rat.divInt_eq_div, Rat.divInt_eq_div, Rat.divInt_eq_div, Rat.divInt_eq_div]
      push_cast
      grind
    have l1 : (a - b) * t ≤ (a - b) * 9999 := Int.mul_le_mul_of_nonneg_left t1 (by omega)
    have l0 : 0 ≤ (a - b) * t := Int.mul_nonneg (by omega) t0
    have pos : 0 < a * 10000 - (a - b) * t := by omega
    have sm : (a * 10000 - (a - b) * t).natAbs < 2 ^ (56 + 15 * (n + 1)) := by
      rw [pw15]
      generalize 2 ^ (56 + 15 * n) = N at *
      omega
    rw [val]
    refine ⟨q * 10000, _, _, by omega, ?_, sm, sm, pos, pos, rfl, rfl⟩
    rw [pw14]; exact mul_small q1 (by decide) (by decide)
  · have e : hvW w m t = w ∧ hvM w m t = m := by unfold hvW hvM; rw [if_neg c, if_neg c]; exact ⟨rfl, rfl⟩
    rw [e.1, e.2]
    exact h.mono (Nat.le_succ n)
structure Fr1 (n : Nat) (fs : List Rat) : Prop where
  len : fs.length = n + 1
  one : sumR fs = 1
  ok : ∀ f, f ∈ fs → 0 < f ∧ Sz2 (1 + 14 * n) (1 + 14 * n) f
theorem Fr1.step {n : Nat} {fs : List Rat} {c : Int} {j : Nat} (h : Fr1 n fs) (hj : j < fs.length) (c0 : 1 ≤ c) (c1 : c ≤ 9999) : Fr1 (n + 1) (fs.eraseIdx j ++ [fs[j] * Rat.divInt c 10000] ++ [fs[j] * Rat.divInt (10000 - c) 10000]) := by
  have hm : fs[j] ∈ fs := List.getElem_mem hj
  obtain ⟨f0, fz⟩ := h.ok _ hm
  refine ⟨?_, ?_, fun f hf => ?_⟩
  · rw [List.length_append, List.length_append, List.length_eraseIdx_of_lt hj, List.length_singleton, List.length_singleton, h.len]; omega
  · have e := sum_erase fs j hj
    have ce := cents (i := c)
    rw [sum_app, sum_app]
    have s1 : ∀ x : Rat, sumR [x] = x := fun x => by rw [sum_cons]; show x + 0 = x; rw [Rat.add_zero]
    rw [s1, s1, Rat.add_assoc, ← Rat.mul_add, ce, Rat.mul_one, e, h.one]
  · rcases List.mem_append.mp hf with hf | hf
    · rcases List.mem_append.mp hf with hf | hf
      · obtain ⟨a, b⟩ := h.ok f (List.mem_of_mem_eraseIdx hf)
        exact ⟨a, b.mono (by omega) (by omega)⟩
      · rw [List.mem_singleton] at hf
        rw [hf]
        exact ⟨Rat.mul_pos f0 (divInt_pos (by omega) (by decide)), (fz.mul (divInt_sz2 (n := 14) (d := 14) (by decide) (by omega) (by decide))).mono (by omega) (by omega)⟩
    · rw [List.mem_singleton] at hf
      rw [hf]
      exact ⟨Rat.mul_pos f0 (divInt_pos (by omega) (by decide)), (fz.mul (divInt_sz2 (n := 14) (d := 14) (by decide) (by omega) (by decide))).mono (by omega) (by omega)⟩
structure S1 (K : PySem.W.Frag) (C b l p : Addr) (wv : V) (w m : Rat) (n : Nat) (H : Hp) : Prop where
  bag : Bag H b l
  whole : IsLot K C H wv w m
  ex : ∃ ws fs, H p = some (.lst ws) ∧ PieceAt K C H w m ws fs ∧ Fr1 n fs
structure S2 (K : PySem.W.Frag) (C b l p : Addr) (wv : V) (n : Nat) (fs : List Rat) (H : Hp) : Prop where
  bag : Bag H b l
  nb : p ≠ b
  ex : ∃ w m ws, CW n w m ∧ IsLot K C H wv w m ∧ H p = some (.lst ws) ∧ PieceAt K C H w m ws fs
theorem sum_fee {w m : Rat} {t : Int} {fs : List Rat} (h1 : sumR fs = 1) (hf : ∀ f, f ∈ fs → 0 < f) : (fs.map fun f => feeR (w * f) (m * f) t).foldl (· + ·) 0 = feeR w m t := by
  have e : (fs.map fun f => feeR (w * f) (m * f) t) = fs.map (feeR w m t * ·) := List.map_congr_left fun f h => feeR_part (hf f h)
  rw [e]
  show sumR _ = _
  rw [sum_mul, h1, Rat.mul_one]
theorem sum_net {w m : Rat} {t : Int} {fs : List Rat} (h1 : sumR fs = 1) (hf : ∀ f, f ∈ fs → 0 < f) : (fs.map fun f => w * f - feeR (w * f) (m * f) t).foldl (· + ·) 0 = w - feeR w m t := by
  have e : (fs.map fun f => w * f - feeR (w * f) (m * f) t) = fs.map ((w - feeR w m t) * ·) := List.map_congr_left fun f h => by rw [feeR_part (hf f h)]; grind
  rw [e]
  show sumR _ = _
  rw [sum_mul, h1, Rat.mul_one]
theorem sum_mark {m : Rat} {fs : List Rat} (h1 : sumR fs = 1) : (fs.map fun f => m * f).foldl (· + ·) 0 = m := by
  show sumR (fs.map (m * ·)) = _
  rw [sum_mul, h1, Rat.mul_one]
theorem a2_frs {K : PySem.W.Frag} {H : Hp} {g : Rat → Rat} : ∀ {zs : List Rat} {vs : List V}, A2 (fun z v => Dt K H v (fr (g z))) zs vs → DtAll K H vs ((zs.map g).map fr)
  | _, _, .nil => .nil
  | _, _, .cons a b => .cons a (a2_frs b)
set_option maxHeartbeats 4000000 in
theorem ok_law {f : Addr} {fd : FuncData} (F : Fun K "law" "law" s_law f fd) (T : Top w K mg) : FnOk P w K mg base CX0 7 f fd ["_law_script"] (sp_law K) := by
  have G_LotU_initU := ok_LotU_initU (P := P) (w := w) (base := base) T
  have G_LotU_eqU := ok_LotU_eqU (P := P) (w := w) (base := base) T
  have G_Lot_fee := ok_Lot_fee (P := P) (w := w) (base := base) T
  have G_Lot_net := ok_Lot_net (P := P) (w := w) (base := base) T
  have G_Lot_part := ok_Lot_part (P := P) (w := w) (base := base) T
  have G_Lot_rest := ok_Lot_rest (P := P) (w := w) (base := base) T
  have G_joined := ok_joined (P := P) (w := w) (base := base) T
  have G__law_bag := ok__law_bag (P := P) (w := w) (base := base) T
  have G__law_pull := ok__law_pull (P := P) (w := w) (base := base) T
  have G__law_low := ok__law_low (P := P) (w := w) (base := base) T
  have G__law_lotpair := ok__law_lotpair (P := P) (w := w) (base := base) T
  have G__law_tax := ok__law_tax (P := P) (w := w) (base := base) T
  have G__law_sum := ok__law_sum (P := P) (w := w) (base := base) T
  have G__law_turned := ok__law_turned (P := P) (w := w) (base := base) T
  have hcl_Lot := T.cl_Lot
  have hna_Lot_worth := T.na_Lot_worth
  have hna_Lot_mark := T.na_Lot_mark
  refine F.ok sc_law (fun vs H Q E h => by obtain ⟨a, ns, rfl, _⟩ := h; rfl) (fun cdv A outer s H vs Q E hr h => ?_)
  obtain ⟨a, ns, rfl, hS, _, q⟩ := h
  refine ⟨_, (pss_cons (ps_set (i := 1) sc_law.nd rfl (Or.inl rfl) (pe_call (G__law_bag) (hr.mono (by decide)) (by rfl) T.g__law_bag T.k__law_bag T.b__law_bag .nil pass0 (pa_cons (pv 0) pa_nil)))
      (pss_cons (ps_set (i := 2) sc_law.nd rfl (Or.inl rfl) (pe_call (G__law_lotpair) (hr.mono (by decide)) (by rfl) T.g__law_lotpair T.k__law_lotpair T.b__law_lotpair .nil pass0 (pa_cons (pv 1) pa_nil)))
      (pss_cons (ps_set (i := 3) sc_law.nd rfl (Or.inl rfl) (pe_make T.M_Lot (G_LotU_initU) (hr.mono (by decide)) (by rfl) T.c_Lot T.b_LotU_initU .nil pass0 (pa_cons (pe_ix ix_seq (pv 2) pe_int (fun _ _ => rfl)) (pa_cons (pe_ix ix_seq (pv 2) pe_int (fun _ _ => rfl)) pa_nil))))
      (pss_cons (ps_set (i := 4) sc_law.nd rfl (Or.inl rfl) (pe_lst (pa_cons (pe_make T.M_Lot (G_LotU_initU) (hr.mono (by decide)) (by rfl) T.c_Lot T.b_LotU_initU .nil pass0 (pa_cons (pe_ix ix_seq (pv 2) pe_int (fun _ _ => rfl)) (pa_cons (pe_ix ix_seq (pv 2) pe_int (fun _ _ => rfl)) pa_nil))) pa_nil)))
      (pss_cons (ps_for PassesOwn.never rfl (pi_range1 rfl T.n_range (pa_cons (pe_op op_addU pe_int (pe_call (G__law_pull) (hr.mono (by decide)) (by rfl) T.g__law_pull T.k__law_pull T.b__law_pull .nil pass0 (pa_cons (pv 1) (pa_cons pe_int pa_nil)))) pa_nil)) (pg_name (i := 5) sc_law.nd rfl (Or.inl rfl)) (pss_cons (ps_set (i := 6) sc_law.nd rfl (Or.inl rfl) (pe_bm PySem.F.plainAttrs_list PySem.F.slot_list_pop PySem.F.type_list_pop mt_popAt (pv 4) (pa_cons (pe_call (G__law_pull) (hr.mono (by decide)) (by rfl) T.g__law_pull T.k__law_pull T.b__law_pull .nil pass0 (pa_cons (pv 1) (pa_cons (pe_callB call_lenU (by rfl) T.n_len (by decide +kernel) (pa_cons (pv 4) pa_nil)) pa_nil))) pa_nil)))
      (pss_cons (ps_set (i := 7) sc_law.nd rfl (Or.inl rfl) (pe_op op_addU pe_int (pe_call (G__law_pull) (hr.mono (by decide)) (by rfl) T.g__law_pull T.k__law_pull T.b__law_pull .nil pass0 (pa_cons (pv 1) (pa_cons pe_int pa_nil)))))
      (pss_cons (ps_expr (pe_bm PySem.F.plainAttrs_list PySem.F.slot_list_append PySem.F.type_list_append mt_append (pv 4) (pa_cons (pe_meth (pv 6) T.cl_Lot T.m_Lot_part (G_Lot_part) (hr.mono (by decide)) T.b_Lot_part .nil pass0 (pa_cons (pv 7) pa_nil)) pa_nil)))
      (pss_one (ps_expr (pe_bm PySem.F.plainAttrs_list PySem.F.slot_list_append PySem.F.type_list_append mt_append (pv 4) (pa_cons (pe_meth (pv 6) T.cl_Lot T.m_Lot_rest (G_Lot_rest) (hr.mono (by decide)) T.b_Lot_rest .nil pass0 (pa_cons (pv 7) pa_nil)) pa_nil))))))))
      (pss_cons (ps_for PassesOwn.never rfl (pi_range1 rfl T.n_range (pa_cons (pe_call (G__law_pull) (hr.mono (by decide)) (by rfl) T.g__law_pull T.k__law_pull T.b__law_pull .nil pass0 (pa_cons (pv 1) (pa_cons pe_int pa_nil))) pa_nil)) (pg_name (i := 5) sc_law.nd rfl (Or.inl rfl)) (pss_cons (ps_set (i := 8) sc_law.nd rfl (Or.inr rfl) (pe_tup (pa_cons (pe_call (G__law_pull) (hr.mono (by decide)) (by rfl) T.g__law_pull T.k__law_pull T.b__law_pull .nil pass0 (pa_cons (pv 1) (pa_cons pe_int pa_nil))) (pa_cons (pe_call (G__law_low) (hr.mono (by decide)) (by rfl) T.g__law_low T.k__law_low T.b__law_low .nil pass0 (pa_cons (pe_op op_addU pe_int (pe_call (G__law_pull) (hr.mono (by decide)) (by rfl) T.g__law_pull T.k__law_pull T.b__law_pull .nil pass0 (pa_cons (pv 1) (pa_cons pe_int pa_nil)))) (pa_cons (pe_op op_addU pe_int (pe_call (G__law_pull) (hr.mono (by decide)) (by rfl) T.g__law_pull T.k__law_pull T.b__law_pull .nil pass0 (pa_cons (pv 1) (pa_cons pe_int pa_nil)))) pa_nil))) (pa_cons (pe_call (G__law_tax) (hr.mono (by decide)) (by rfl) T.g__law_tax T.k__law_tax T.b__law_tax .nil pass0 (pa_cons (pv 1) pa_nil)) pa_nil)))))
      (pss_cons (ps_if (pt_cmpR (op_neD hr.units) (pe_call (G__law_sum) (hr.mono (by decide)) (by rfl) T.g__law_sum T.k__law_sum T.b__law_sum .nil pass0 (pa_cons (pe_lc (own := [("_law_lot", 6)]) (g := gName 6) (tt := tYes) rfl sc_law.nd (pi_list (pv 4)) (blkOk_by (N := ["_law_script", "_law_bag_here", "_law_one", "_law_whole", "_law_pieces", "_law_k", "_law_lot", "_law_cents", "_law_deed"]) (sc := defScope s_law) (by decide +kernel)) (fun _ _ _ _ _ => pg_name (i := 6) sc_law.nd rfl (Or.inl rfl)) (fun _ _ _ _ _ => pts_nil) (fun _ _ _ _ _ => (pe_meth (pv 6) T.cl_Lot T.m_Lot_fee (G_Lot_fee) (hr.mono (by decide)) T.b_Lot_fee .nil pass0 (pa_cons (pe_ix (show IxR _ (rIx K) from ix_seq) (pv 8) pe_int (fun _ _ => rfl)) pa_nil)))) pa_nil)) (pe_meth (pv 3) T.cl_Lot T.m_Lot_fee (G_Lot_fee) (hr.mono (by decide)) T.b_Lot_fee .nil pass0 (pa_cons (pe_ix ix_seq (pv 8) pe_int (fun _ _ => rfl)) pa_nil)) (nomark _)) (pss_one (ps_ret pe_bl)) pss_nil)
      (pss_cons (ps_if (pt_cmpR (op_neD hr.units) (pe_call (G__law_sum) (hr.mono (by decide)) (by rfl) T.g__law_sum T.k__law_sum T.b__law_sum .nil pass0 (pa_cons (pe_lc (own := [("_law_lot", 6)]) (g := gName 6) (tt := tYes) rfl sc_law.nd (pi_list (pv 4)) (blkOk_by (N := ["_law_script", "_law_bag_here", "_law_one", "_law_whole", "_law_pieces", "_law_k", "_law_lot", "_law_cents", "_law_deed"]) (sc := defScope s_law) (by decide +kernel)) (fun _ _ _ _ _ => pg_name (i := 6) sc_law.nd rfl (Or.inl rfl)) (fun _ _ _ _ _ => pts_nil) (fun _ _ _ _ _ => (pe_meth (pv 6) T.cl_Lot T.m_Lot_net (G_Lot_net) (hr.mono (by decide)) T.b_Lot_net .nil pass0 (pa_cons (pe_ix (show IxR _ (rIx K) from ix_seq) (pv 8) pe_int (fun _ _ => rfl)) pa_nil)))) pa_nil)) (pe_meth (pv 3) T.cl_Lot T.m_Lot_net (G_Lot_net) (hr.mono (by decide)) T.b_Lot_net .nil pass0 (pa_cons (pe_ix ix_seq (pv 8) pe_int (fun _ _ => rfl)) pa_nil)) (nomark _)) (pss_one (ps_ret pe_bl)) pss_nil)
      (pss_cons (ps_set (i := 3) sc_law.nd rfl (Or.inl rfl) (pe_call (G__law_turned) (hr.mono (by decide)) (by rfl) T.g__law_turned T.k__law_turned T.b__law_turned .nil pass0 (pa_cons (pv 3) (pa_cons (pv 8) pa_nil))))
      (pss_cons (ps_setLc (i := 4) (own := [("_law_lot", 6)]) (g := gName 6) (tt := tYes) rfl sc_law.nd rfl rfl (sw_true rfl rfl rfl (by decide +kernel)) (pi_list (pv 4)) (blkOk_by (N := ["_law_script", "_law_bag_here", "_law_one", "_law_whole", "_law_pieces", "_law_k", "_law_lot", "_law_cents", "_law_deed"]) (sc := defScope s_law) (by decide +kernel)) (fun _ _ _ _ _ => pg_name (i := 6) sc_law.nd rfl (Or.inl rfl)) (fun _ _ _ _ _ => pts_nil) (fun _ _ _ _ _ => (pe_call (G__law_turned) (hr.mono (by decide)) (by rfl) T.g__law_turned T.k__law_turned T.b__law_turned .nil pass0 (pa_cons (pv 6) (pa_cons (pv 8) pa_nil)))))
      (pss_one (ps_if (pt_cmpR (op_neGL (mon_ins (LotR_mon)) (eqG_ins (CX := CX0) (E := E0) G_LotU_eqU T.m_LotU_eqU.at_ T.m_LotU_eqU.fn T.b_LotU_eqU pass0) (hr.mono (by decide))) (pe_call (G_joined) (hr.mono (by decide)) (by rfl) T.g_joined T.k_joined T.b_joined .nil pass0 (pa_cons (pe_callTy call_listU (by rfl) T.n_list (by decide +kernel) (pa_cons (pv 4) pa_nil)) pa_nil)) (pe_lst (pa_cons (pv 3) pa_nil)) (nomark _)) (pss_one (ps_ret pe_bl)) pss_nil))))))))
      (pss_one (ps_ret (pe_and (pe_cmpR (op_eqG (rcG_list (mon_ins (LotR_mon)) (eqG_ins (CX := CX0) (E := E0) G_LotU_eqU T.m_LotU_eqU.at_ T.m_LotU_eqU.fn T.b_LotU_eqU pass0)) (hr.mono (by decide))) (pe_call (G_joined) (hr.mono (by decide)) (by rfl) T.g_joined T.k_joined T.b_joined .nil pass0 (pa_cons (pv 4) pa_nil)) (pe_lst (pa_cons (pv 3) pa_nil)) (nomark _)) (pe_one (pe_cmpR (op_eqD hr.units) (pe_call (G__law_sum) (hr.mono (by decide)) (by rfl) T.g__law_sum T.k__law_sum T.b__law_sum .nil pass0 (pa_cons (pe_lc (own := [("_law_lot", 6)]) (g := gName 6) (tt := tYes) rfl sc_law.nd (pi_list (pv 4)) (blkOk_by (N := ["_law_script", "_law_bag_here", "_law_one", "_law_whole", "_law_pieces", "_law_k", "_law_lot", "_law_cents", "_law_deed"]) (sc := defScope s_law) (by decide +kernel)) (fun _ _ _ _ _ => pg_name (i := 6) sc_law.nd rfl (Or.inl rfl)) (fun _ _ _ _ _ => pts_nil) (fun _ _ _ _ _ => (show PE _ _ (tFld K _ _) from (pe_fld (pv 6) rfl)))) pa_nil)) (pe_fld (pv 3) rfl) (nomark _)))))))))))), ?_⟩
  walk_at "cr.k"
  rename_i b l H1 hs1 nb nl hB1 v1 w m H2 hb2 hB2 hd2 z1 z2 p1 p2 x1 hx1 x2 hx2 wv H3 hs3 hl3 x3 hx3 x4 hx4 y1 H4 hs4 hl4 p hp k H5 hk0 hk1 hb5 hB5
  have npb : p ≠ b := by walk_at "cr.ne"
  have npl : p ≠ l := by walk_at "cr.ne"
  have hL5 : H5 p = some (.lst [y1]) := by walk_at "cr.at"
  have hW5 : IsLot K T.C_Lot H5 wv w m := by walk_at "cr.lot"
  have hY5 : IsLot K T.C_Lot H5 y1 (w * 1) (m * 1) := by rw [Rat.mul_one, Rat.mul_one]; walk_at "cr.lot"
  have cw0 := CW.start z1 z2 p1 p2
  have zw : Sz 1000 w := z1.sz (by decide) (by decide)
  have zm : Sz 1000 m := z2.sz (by decide) (by decide)
  clear hs1 nb nl hB1 hb2 hB2 hd2 hx1 hx2 hs3 hl3 hx3 hx4 hs4 hl4 hp hb5 hS
  refine r_each [5, 6, 7] (fun n H' => S1 K T.C_Lot b l p wv w m n H') ⟨hB5, hW5, [y1], [1], hL5, .cons hY5 .nil, rfl, by rw [sum_cons]; exact Rat.add_zero 1, fun f hf => ?_⟩ rfl ?_ ?_
  · rw [List.mem_singleton] at hf
    rw [hf]
    exact ⟨by decide, by decide +kernel, by decide +kernel⟩
  · rintro n f H6 hn ⟨hB6, hW6, ws, fs, hL6, hP6, hF6⟩
    clear hB5 hW5 hL5 hY5
    have hn4 : n < 4 := by omega
    have hwl : ws.length = fs.length := A2.len hP6
    have hfl := hF6.len
    have hw0 : (0 : Int) < (ws.length : Int) := by omega
    have hw1 : (ws.length : Int) < 2 ^ 64 := by omega
    walk_at "cr.n"
    walk_at "cr.go"
    rename_i j0 H7 hj0 hj1 hb7 hB7
    obtain ⟨j, rfl⟩ : ∃ j : Nat, j0 = (j : Int) := ⟨j0.toNat, by omega⟩
    have hj : j < ws.length := by omega
    have hjf : j < fs.length := by omega
    have hL7 : H7 p = some (.lst ws) := hb7.oth _ _ npb hL6
    have hP7 : PieceAt K T.C_Lot H7 w m ws fs := hP6.mono (ki_but hb7)
    have hW7 : IsLot K T.C_Lot H7 wv w m := hW6.mono (ki_but hb7)
    obtain ⟨g, eg, hy⟩ := A2.at hP7 (i := j) (List.getElem?_eq_getElem hj)
    obtain rfl : g = fs[j] := by rw [List.getElem?_eq_getElem hjf] at eg; exact (Option.some.inj eg).symm
    obtain ⟨g0, gz⟩ := hF6.ok _ (List.getElem_mem hjf)
    have zg1 : Sz 4000 (w * fs[j]) := (z1.mul gz).sz (by omega) (by omega)
    have zg2 : Sz 4000 (m * fs[j]) := (z2.mul gz).sz (by omega) (by omega)
    clear hL6 hP6 hW6 hb7 hB6
    refine s_popAt hL7 (by omega) (List.getElem?_eq_getElem hj) ?_
    have hP8 : PieceAt K T.C_Lot (upd H7 p (.lst (ws.eraseIdx j))) w m (ws.eraseIdx j) (fs.eraseIdx j) := PieceAt.mono (ki_mut hL7 rfl) (A2.erase hP7 j)
    have hW8 : IsLot K T.C_Lot (upd H7 p (.lst (ws.eraseIdx j))) wv w m := hW7.mono (ki_mut hL7 rfl)
    have hy8 : IsLot K T.C_Lot (upd H7 p (.lst (ws.eraseIdx j))) ws[j] (w * fs[j]) (m * fs[j]) := hy.mono (ki_mut hL7 rfl)
    have hB8 : Bag (upd H7 p (.lst (ws.eraseIdx j))) b l := hB7.upd npb npl
    have hL8 : upd H7 p (.lst (ws.eraseIdx j)) p = some (.lst (ws.eraseIdx j)) := upd_same
    have hel : (ws.eraseIdx j).length ≤ 10 := by rw [List.length_eraseIdx_of_lt hj]; omega
    clear hP7 hW7 hy hB7 hL7 hw0 hw1
    generalize upd H7 p (.lst (ws.eraseIdx j)) = H8 at *
    generalize ws.eraseIdx j = ws' at *
    generalize ws[j] = lv at *
    walk_at "cr.go"
    rename_i cc H9 hc0 hc1 hb9 hB9 v10 H10 hs10 hl10
    have hst := hF6.step hjf (c := 1 + cc) (by omega) (by omega)
    have k9 : KI H8 H9 := ki_but hb9
    have hL10 : H10 p = some (.lst ws') := hs10 _ _ (hb9.oth _ _ npb hL8)
    have hy11 : IsLot K T.C_Lot (upd H10 p (.lst (ws' ++ [v10]))) lv (w * fs[j]) (m * fs[j]) := ((hy8.mono k9).mono (ki_same hs10)).mono (ki_mut hL10 rfl)
    walk_at "cr.go"
    rename_i v12 H12 hs12 hl12
    have hL12 : H12 p = some (.lst (ws' ++ [v10])) := hs12 _ _ upd_same
    have k12 : KI H10 H12 := fun a o e t => ki_same hs12 _ _ (ki_mut hL10 rfl _ _ e t) t
    have kE : KI H12 (upd H12 p (.lst (ws' ++ [v10] ++ [v12]))) := ki_mut hL12 rfl
    have k10 : KI H9 H10 := ki_same hs10
    refine ⟨i_of rfl, ?_, ?_, _, _, upd_same, ?_, hst⟩
    · exact (((((hB9.same hs10).upd npb npl).same hs12))).upd npb npl
    · exact (((hW8.mono k9).mono k10).mono k12).mono kE
    · refine A2.snoc (R := fun v f => IsLot K T.C_Lot (upd H12 p (.lst (ws' ++ [v10] ++ [v12]))) v (w * f) (m * f)) ?_ (A2.snoc (R := fun v f => IsLot K T.C_Lot (upd H12 p (.lst (ws' ++ [v10] ++ [v12]))) v (w * f) (m * f)) ?_ ?_)
      · rw [← Rat.mul_assoc, ← Rat.mul_assoc]; exact hl12.mono kE
      · rw [← Rat.mul_assoc, ← Rat.mul_assoc]; exact (hl10.mono k12).mono kE
      · exact (PieceAt.mono kE (PieceAt.mono k12 (PieceAt.mono k10 (PieceAt.mono k9 hP8))))
  · rintro f H6 ⟨hB6, hW6, ws, fs, hL6, hP6, hF6⟩
    clear hB5 hW5 hL5 hY5
    have hfl : fs.length ≤ 5 := by rw [hF6.len]; omega
    have hf0 : ∀ f, f ∈ fs → 0 < f := fun f hf => (hF6.ok f hf).1
    have hfz : ∀ f, f ∈ fs → Sz2 57 57 f := fun f hf => (hF6.ok f hf).2.mono (by omega) (by omega)
    have h1 := hF6.one
    have hfn : 1 ≤ fs.length := by rw [hF6.len]; omega
    clear hF6
    walk_at "cr.n"
    walk_at "cr.go"
    rename_i k2 H7 hk20 hk21 hb7 hB7
    refine f_range (fun n σ' H' => ∃ wv' pp y5 y6 y7 y8, σ' = [some (.ref a), some (.ref b), some v1, some wv', some (.ref pp), y5, y6, y7, y8] ∧ S2 K T.C_Lot b l pp wv' n fs H') ⟨wv, p, _, _, _, _, rfl, hB7, npb, w, m, ws, cw0, hW6.mono (ki_but hb7), hb7.oth _ _ npb hL6, hP6.mono (ki_but hb7)⟩ ?_ ?_
    · rintro n σ' H8 hn ⟨wv', pp, y5, y6, y7, y8, rfl, hB8, nb8, w', m', ws', hc8, hW8, hL8, hP8⟩
      clear hB6 hW6 hL6 hP6 hb7 hB7 zw zm z1 z2 p1 p2 cw0
      have hn8 : n < 8 := by omega
      obtain ⟨zw, zm⟩ := hc8.sz
      have zw : Sz2 176 154 w' := zw.mono (by omega) (by omega)
      have zm : Sz2 176 154 m' := zm.mono (by omega) (by omega)
      have zw1 : Sz 1000 w' := zw.sz (by decide) (by decide)
      have zm1 : Sz 1000 m' := zm.sz (by decide) (by decide)
      walk_at "cr.go"
      rename_i dj H9 hj0 hj1 hb9 hB9 u H10 hu0 hu1 hb10 hB10 v H11 hv0 hv1 hb11 hB11 rv H12 hs12 hd12 t H13 ht0 ht1 hb13 hB13 pd hpd
      have hdd : Dt K (upd H13 pd (.tup [.int dj, rv, .int t])) (.ref pd) (.tuple [.int dj, fr (Rat.divInt (1 + u) (1 + v)), .int t]) := by walk_at "cr.dt"
      have kk : KI H8 (upd H13 pd (.tup [.int dj, rv, .int t])) := fun a o e t => ki_new hpd _ _ (ki_but hb13 _ _ (ki_same hs12 _ _ (ki_but hb11 _ _ (ki_but hb10 _ _ (ki_but hb9 _ _ e t) t) t) t) t) t
      have hb14 : But b H8 (upd H13 pd (.tup [.int dj, rv, .int t])) := by walk_at "cr.but"
      have hB14 : Bag (upd H13 pd (.tup [.int dj, rv, .int t])) b l := by walk_at "cr.bag"
      have hL14 := hb14.oth _ _ nb8 hL8
      have hW14 := hW8.mono kk
      have hP14 := PieceAt.mono kk hP8
      have hnew := hc8.deed (j := dj) (t := t) (u := 1 + u) (v := 1 + v) (by omega) (by omega) (by omega) (by omega) ht0 ht1
      have zr : Sz 1000 (Rat.divInt (1 + u) (1 + v)) := (divInt_sz (n := 64) (by omega) (by omega) (by omega)).mono (by decide)
      clear hpd hb13 hs12 hd12 hb11 hb10 hb9 hB9 hB10 hB11 hB13 hb14 hB8 hL8 hW8 hP8 kk
      generalize upd H13 pd (.tup [.int dj, rv, .int t]) = H14 at *
      generalize Rat.divInt (1 + u) (1 + v) = r at *
      have zl : ∀ f, f ∈ fs → Sz2 233 211 (w' * f) ∧ Sz2 233 211 (m' * f) := fun f hf => ⟨zw.mul (hfz f hf), zm.mul (hfz f hf)⟩
      have hwl : ws'.length ≤ 5 := by rw [A2.len hP14]; exact hfl
      have hml : (fs.map fun f => feeR (w' * f) (m' * f) t).length ≤ 5 := by rw [List.length_map]; exact hfl
      have hml2 : (fs.map fun f => w' * f - feeR (w' * f) (m' * f) t).length ≤ 5 := by rw [List.length_map]; exact hfl
      have hz1 : ∀ x, x ∈ (fs.map fun f => feeR (w' * f) (m' * f) t) → Sz 780 x := fun x hx => by
        obtain ⟨f, hf, rfl⟩ := List.mem_map.mp hx
        exact (feeR_sz (n := 233) ((zl f hf).1.sz (by decide) (by decide)) ((zl f hf).2.sz (by decide) (by decide)) ht0 (by omega)).mono (by decide)
      have hz2 : ∀ x, x ∈ (fs.map fun f => w' * f - feeR (w' * f) (m' * f) t) → Sz 780 x := fun x hx => by
        obtain ⟨f, hf, rfl⟩ := List.mem_map.mp hx
        exact (((zl f hf).1.sz (m := 233) (by decide) (by decide)).sub (feeR_sz (n := 233) ((zl f hf).1.sz (by decide) (by decide)) ((zl f hf).2.sz (by decide) (by decide)) ht0 (by omega))).mono (by decide)
      have es1 := sum_fee (w := w') (m := m') (t := t) h1 hf0
      have es2 := sum_net (w := w') (m := m') (t := t) h1 hf0
      refine c_listS (fun H x f => IsLot K T.C_Lot H x (w' * f) (m' * f)) (fun H f y => Dt K H y (fr (feeR (w' * f) (m' * f) t))) (fun _ _ _ f k h => IsLot.mono (w := w' * f) (m := m' * f) k h) (fun _ _ _ _ k h => h.mono k.kt) (SqL.of hL14) hP14 (by omega) ?_ ?_
      · rintro x f A N hm hx hS hN
        have hdA := hdd.mono (kt_same hS)
        obtain ⟨zf1, zf2⟩ := zl f hm
        have zf1 : Sz 1900 (w' * f) := zf1.sz (by decide) (by decide)
        have zf2 : Sz 1900 (m' * f) := zf2.sz (by decide) (by decide)
        clear hdd
        walk_at "cr.n"
        walk_at "cr.go"
        refine ⟨rfl, ?_⟩
        walk_at "cr.go"
        exact hN _ _ (by walk_at "cr.sm") (by assumption)
      intro p15 y15 H15 hs15 hp15 hL15 h15
      have hd15 := a2_frs (g := fun f => feeR (w' * f) (m' * f) t) h15
      have hdd15 := hdd.mono (kt_same hs15)
      have hW15 := hW14.mono (ki_same hs15)
      have hL15' := hs15 _ _ hL14
      have hP15 := PieceAt.mono (ki_same hs15) hP14
      have hB15 := hB14.same hs15
      clear hdd hW14 hL14 hP14 hB14 h15 hp15 hs15
      walk_at "cr.go"
      rename_i v16 H16 hs16 hd16 hv16 x17 H17 hs17 hd17
      have s17 : Same H15 H17 := hs16.trans hs17
      have hdd17 := hdd15.mono (kt_same s17)
      have hW17 := hW15.mono (ki_same s17)
      have hL17 := s17 _ _ hL15'
      have hP17 := PieceAt.mono (ki_same s17) hP15
      have hB17 := hB15.same s17
      clear hs16 hd16 hv16 hs17 hd17 hdd15 hW15 hL15 hL15' hP15 hB15 hd15 s17
      refine c_listS (fun H x f => IsLot K T.C_Lot H x (w' * f) (m' * f)) (fun H f y => Dt K H y (fr (w' * f - feeR (w' * f) (m' * f) t))) (fun _ _ _ f k h => IsLot.mono (w := w' * f) (m := m' * f) k h) (fun _ _ _ _ k h => h.mono k.kt) (SqL.of hL17) hP17 (by omega) ?_ ?_
      · rintro x f A N hm hx hS hN
        have hdA := hdd17.mono (kt_same hS)
        obtain ⟨zf1, zf2⟩ := zl f hm
        have zf1 : Sz 1000 (w' * f) := zf1.sz (by decide) (by decide)
        have zf2 : Sz 1000 (m' * f) := zf2.sz (by decide) (by decide)
        clear hdd17
        walk_at "cr.n"
        walk_at "cr.go"
        refine ⟨rfl, ?_⟩
        walk_at "cr.go"
        exact hN _ _ (by walk_at "cr.sm") (by assumption)
      intro p18 y18 H18 hs18 hp18 hL18 h18
      have hd18 := a2_frs (g := fun f => w' * f - feeR (w' * f) (m' * f) t) h18
      have hdd18 := hdd17.mono (kt_same hs18)
      have hW18 := hW17.mono (ki_same hs18)
      have hL18' := hs18 _ _ hL17
      have hP18 := PieceAt.mono (ki_same hs18) hP17
      have hB18 := hB17.same hs18
      clear hdd17 hW17 hL17 hP17 hB17 h18 hp18 hs18
      walk_at "cr.go"
      rename_i v19 H19 hs19 hd19 hv19 x20 H20 hs20 hd20 wn H21 hs21 hl21
      have s21 : Same H18 H21 := (hs19.trans hs20).trans hs21
      have hdd21 := hdd18.mono (kt_same s21)
      have hL21 := s21 _ _ hL18'
      have hP21 := PieceAt.mono (ki_same s21) hP18
      have hB21 := hB18.same s21
      clear hs19 hd19 hv19 hs20 hd20 hs21 hdd18 hW18 hL18 hL18' hP18 hB18 hd18 s21
      refine c_listS (fun H x f => IsLot K T.C_Lot H x (w' * f) (m' * f)) (fun H f y => IsLot K T.C_Lot H y (dW dj r t w' m' * f) (dM dj r t w' m' * f)) (fun _ _ _ f k h => IsLot.mono (w := w' * f) (m := m' * f) k h) (fun _ _ f _ k h => IsLot.mono (w := dW dj r t w' m' * f) (m := dM dj r t w' m' * f) k h) (SqL.of hL21) hP21 (by omega) ?_ ?_
      · rintro x f A N hm hx hS hN
        have hdA := hdd21.mono (kt_same hS)
        obtain ⟨zf1, zf2⟩ := zl f hm
        have zf1 : Sz 1000 (w' * f) := zf1.sz (by decide) (by decide)
        have zf2 : Sz 1000 (m' * f) := zf2.sz (by decide) (by decide)
        have ed := d_part (w := w') (m := m') (r := r) (j := dj) (t := t) (hf0 f hm)
        clear hdd21
        walk_at "cr.n"
        walk_at "cr.go"
        refine ⟨rfl, ?_⟩
        walk_at "cr.go"
        rename_i yv B hsB hlB
        rw [ed.1, ed.2] at hlB
        exact hN _ _ (by walk_at "cr.sm") hlB
      intro p22 y22 H22 hs22 hp22 hL22 h22
      have hP22 : PieceAt K T.C_Lot H22 (dW dj r t w' m') (dM dj r t w' m') y22 fs := A2.flip h22
      have hW22 := hl21.mono (ki_same hs22)
      have hB22 := hB21.same hs22
      have n22 : p22 ≠ b := hB21.ne1 hp22
      clear hdd21 hl21 hL21 hP21 hB21 h22 hp22 hs22 es1 es2 hz1 hz2 zl zw zm zw1 zm1 hc8 hml hml2
      generalize dW dj r t w' m' = w2 at *
      generalize dM dj r t w' m' = m2 at *
      have m0 := hnew.pos
      obtain ⟨zw, zm⟩ := hnew.sz
      have zw : Sz2 176 154 w2 := zw.mono (by omega) (by omega)
      have zm : Sz2 176 154 m2 := zm.mono (by omega) (by omega)
      have lin : ∀ x, x ∈ (fs.map fun f => (w2 * f, m2 * f)) → LotIn 233 211 x := fun x hx => by
        obtain ⟨f, hf, rfl⟩ := List.mem_map.mp hx
        exact ⟨zw.mul (hfz f hf), zm.mul (hfz f hf), Rat.mul_pos m0 (hf0 f hf)⟩
      have ej := join_parts (w := w2) m0 h1 hf0
      have hll : (fs.map fun f => (w2 * f, m2 * f)).length ≤ 5 := by rw [List.length_map]; exact hfl
      walk_at "cr.go"
      rename_i p23 hp23
      have hlo23 : LotsAt K T.C_Lot (upd H22 p23 (.lst y22)) y22 (fs.map fun f => (w2 * f, m2 * f)) := a2_map (g := fun f => (w2 * f, m2 * f)) (PieceAt.mono (ki_new hp23) hP22)
      walk_at "cr.go"
      rename_i p24 y24 H24 hs24 hp24 hL24 hlo24 p25 hp25
      rw [ej] at hlo24
      obtain ⟨j24, rfl, hj24⟩ : ∃ y, y24 = [y] ∧ IsLot K T.C_Lot H24 y w2 m2 := by
        cases hlo24 with
        | cons a b => cases b; exact ⟨_, rfl, a⟩
      have s25 : Same H22 (upd H24 p25 (.lst [wn])) := by walk_at "cr.sm"
      refine s_neJ1 (by walk_at "cr.at") upd_same (by walk_at "cr.lot") (hW22.mono (ki_same s25)) fun H26 s26 => ?_
      have s22 := s25.trans s26
      walk_at "cr.go"
      exact ⟨_, _, _, _, _, _, rfl, hB22.same s22, n22, w2, m2, _, hnew, hW22.mono (ki_same s22), s22 _ _ hL22, PieceAt.mono (ki_same s22) hP22⟩
    · rintro σ' H8 ⟨wv', pp, y5, y6, y7, y8, rfl, hB8, nb8, w2, m2, ws', hc8, hW8, hL8, hP8⟩
      clear hB6 hW6 hL6 hP6 hb7 hB7 zw zm z1 z2 p1 p2 cw0
      have m0 := hc8.pos
      obtain ⟨zw, zm⟩ := hc8.sz
      have zw : Sz2 176 154 w2 := zw.mono (by omega) (by omega)
      have zm : Sz2 176 154 m2 := zm.mono (by omega) (by omega)
      have lin : ∀ x, x ∈ (fs.map fun f => (w2 * f, m2 * f)) → LotIn 233 211 x := fun x hx => by
        obtain ⟨f, hf, rfl⟩ := List.mem_map.mp hx
        exact ⟨zw.mul (hfz f hf), zm.mul (hfz f hf), Rat.mul_pos m0 (hf0 f hf)⟩
      have ej := join_parts (w := w2) m0 h1 hf0
      have hll : (fs.map fun f => (w2 * f, m2 * f)).length ≤ 5 := by rw [List.length_map]; exact hfl
      have hlo8 : LotsAt K T.C_Lot H8 ws' (fs.map fun f => (w2 * f, m2 * f)) := a2_map (g := fun f => (w2 * f, m2 * f)) hP8
      walk_at "cr.go"
      rename_i p24 y24 H24 hs24 hp24 hL24 hlo24 p25 hp25
      rw [ej] at hlo24
      obtain ⟨j24, rfl, hj24⟩ : ∃ y, y24 = [y] ∧ IsLot K T.C_Lot H24 y w2 m2 := by
        cases hlo24 with
        | cons a b => cases b; exact ⟨_, rfl, a⟩
      have s25 : Same H8 (upd H24 p25 (.lst [wv'])) := by walk_at "cr.sm"
      refine s_eqJ1 (by walk_at "cr.at") upd_same (by walk_at "cr.lot") (hW8.mono (ki_same s25)) fun H26 s26 => ?_
      have s22 := s25.trans s26
      have hW26 := hW8.mono (ki_same s22)
      have hL26 := s22 _ _ hL8
      have hP26 := PieceAt.mono (ki_same s22) hP8
      clear hlo8 hs24 hp24 hL24 hlo24 hj24 hp25 s25 s26 s22 hW8 hL8 hP8
      walk_at "cr.go"
      refine c_listS (fun H x f => IsLot K T.C_Lot H x (w2 * f) (m2 * f)) (fun H f y => Dt K H y (fr (m2 * f))) (fun _ _ _ f k h => IsLot.mono (w := w2 * f) (m := m2 * f) k h) (fun _ _ _ _ k h => h.mono k.kt) (SqL.of hL26) hP26 (by rw [A2.len hP26]; omega) ?_ ?_
      · rintro x f A N hm hx hS hN
        walk_at "cr.n"
        walk_at "cr.go"
        refine ⟨rfl, ?_⟩
        walk_at "cr.go"
        exact hN _ _ (by walk_at "cr.sm") (by assumption)
      intro p28 y28 H28 hs28 hp28 hL28 h28
      have hd28 := a2_frs (g := fun f => m2 * f) h28
      have hW28 := hW26.mono (ki_same hs28)
      have hz3 : ∀ x, x ∈ (fs.map fun f => m2 * f) → Sz 780 x := fun x hx => by
        obtain ⟨f, hf, rfl⟩ := List.mem_map.mp hx
        exact (zm.mul (hfz f hf)).sz (by decide) (by decide)
      have hml : (fs.map fun f => m2 * f).length ≤ 5 := by rw [List.length_map]; exact hfl
      have es := sum_mark (m := m2) h1
      clear hW26 hL26 hP26 h28 hp28 hs28
      walk_at "cr.go"
      exact q _

end
theorem all_mk {l : PySem.W.OpenLaw} {w : World} {K : PySem.W.Frag} {h : Heap} {mg : Str → Option Value} {fa : Addr} (X : K.In h) (G : h.Ns mainGlobals mg) (hfa : mg "law" = some (.ref fa))
    {C_Lot : Addr}
    {a_NOUGHT : Addr} {d_NOUGHT : Option Addr} {n_NOUGHT : Nat} {z_NOUGHT : Array (Option Value)} {t0_NOUGHT : Tok} {t1_NOUGHT : Tok}
    {t_WHOLE : Tok}
    {x_ByNought : Addr}
    {f_LotU_initU : Addr} {od_LotU_initU an_LotU_initU : Option Addr} {sl_LotU_initU : Array (Option Value)} {oc_LotU_initU dc_LotU_initU pm_LotU_initU cd_LotU_initU ct_LotU_initU : Value} {kV_LotU_initU : Value}
    {f_LotU_eqU : Addr} {od_LotU_eqU an_LotU_eqU : Option Addr} {sl_LotU_eqU : Array (Option Value)} {oc_LotU_eqU dc_LotU_eqU pm_LotU_eqU cd_LotU_eqU ct_LotU_eqU : Value} {kV_LotU_eqU : Value}
    {f_lowest : Addr} {od_lowest an_lowest : Option Addr} {sl_lowest : Array (Option Value)} {oc_lowest dc_lowest pm_lowest cd_lowest ct_lowest : Value} {kV_lowest : Value} {dT_lowest : Addr} {oT_lowest : Option Addr} {nT_lowest : Nat} {cT_lowest : Value} {zT_lowest : Array (Option Value)} {w0_lowest : Tok}
    {f_minus : Addr} {od_minus an_minus : Option Addr} {sl_minus : Array (Option Value)} {oc_minus dc_minus pm_minus cd_minus ct_minus : Value} {kV_minus : Value}
    {f_times : Addr} {od_times an_times : Option Addr} {sl_times : Array (Option Value)} {oc_times dc_times pm_times cd_times ct_times : Value} {kV_times : Value}
    {f_less : Addr} {od_less an_less : Option Addr} {sl_less : Array (Option Value)} {oc_less dc_less pm_less cd_less ct_less : Value} {kV_less : Value}
    {f_Lot_fee : Addr} {od_Lot_fee an_Lot_fee : Option Addr} {sl_Lot_fee : Array (Option Value)} {oc_Lot_fee dc_Lot_fee pm_Lot_fee cd_Lot_fee ct_Lot_fee : Value} {kV_Lot_fee : Value}
    {f_Lot_net : Addr} {od_Lot_net an_Lot_net : Option Addr} {sl_Lot_net : Array (Option Value)} {oc_Lot_net dc_Lot_net pm_Lot_net cd_Lot_net ct_Lot_net : Value} {kV_Lot_net : Value}
    {f_Lot_scaled : Addr} {od_Lot_scaled an_Lot_scaled : Option Addr} {sl_Lot_scaled : Array (Option Value)} {oc_Lot_scaled dc_Lot_scaled pm_Lot_scaled cd_Lot_scaled ct_Lot_scaled : Value} {kV_Lot_scaled : Value}
    {f_Lot_part : Addr} {od_Lot_part an_Lot_part : Option Addr} {sl_Lot_part : Array (Option Value)} {oc_Lot_part dc_Lot_part pm_Lot_part cd_Lot_part ct_Lot_part : Value} {kV_Lot_part : Value}
    {f_Lot_rest : Addr} {od_Lot_rest an_Lot_rest : Option Addr} {sl_Lot_rest : Array (Option Value)} {oc_Lot_rest dc_Lot_rest pm_Lot_rest cd_Lot_rest ct_Lot_rest : Value} {kV_Lot_rest : Value}
    {f_plus : Addr} {od_plus an_plus : Option Addr} {sl_plus : Array (Option Value)} {oc_plus dc_plus pm_plus cd_plus ct_plus : Value} {kV_plus : Value}
    {f_over : Addr} {od_over an_over : Option Addr} {sl_over : Array (Option Value)} {oc_over dc_over pm_over cd_over ct_over : Value} {kV_over : Value}
    {f_Lot_standing : Addr} {od_Lot_standing an_Lot_standing : Option Addr} {sl_Lot_standing : Array (Option Value)} {oc_Lot_standing dc_Lot_standing pm_Lot_standing cd_Lot_standing ct_Lot_standing : Value} {kV_Lot_standing : Value}
    {f_in_standing_order : Addr} {od_in_standing_order an_in_standing_order : Option Addr} {sl_in_standing_order : Array (Option Value)} {oc_in_standing_order dc_in_standing_order pm_in_standing_order cd_in_standing_order ct_in_standing_order : Value} {kV_in_standing_order : Value}
    {f_joined : Addr} {od_joined an_joined : Option Addr} {sl_joined : Array (Option Value)} {oc_joined dc_joined pm_joined cd_joined ct_joined : Value} {kV_joined : Value}
    {f__law_bag : Addr} {od__law_bag an__law_bag : Option Addr} {sl__law_bag : Array (Option Value)} {oc__law_bag dc__law_bag pm__law_bag cd__law_bag ct__law_bag : Value} {kV__law_bag : Value}
    {f__law_pull : Addr} {od__law_pull an__law_pull : Option Addr} {sl__law_pull : Array (Option Value)} {oc__law_pull dc__law_pull pm__law_pull cd__law_pull ct__law_pull : Value} {kV__law_pull : Value}
    {f__law_low : Addr} {od__law_low an__law_low : Option Addr} {sl__law_low : Array (Option Value)} {oc__law_low dc__law_low pm__law_low cd__law_low ct__law_low : Value} {kV__law_low : Value}
    {f__law_wide : Addr} {od__law_wide an__law_wide : Option Addr} {sl__law_wide : Array (Option Value)} {oc__law_wide dc__law_wide pm__law_wide cd__law_wide ct__law_wide : Value} {kV__law_wide : Value}
    {f__law_factor : Addr} {od__law_factor an__law_factor : Option Addr} {sl__law_factor : Array (Option Value)} {oc__law_factor dc__law_factor pm__law_factor cd__law_factor ct__law_factor : Value} {kV__law_factor : Value}
    {f__law_mul : Addr} {od__law_mul an__law_mul : Option Addr} {sl__law_mul : Array (Option Value)} {oc__law_mul dc__law_mul pm__law_mul cd__law_mul ct__law_mul : Value} {kV__law_mul : Value}
    {f__law_lotpair : Addr} {od__law_lotpair an__law_lotpair : Option Addr} {sl__law_lotpair : Array (Option Value)} {oc__law_lotpair dc__law_lotpair pm__law_lotpair cd__law_lotpair ct__law_lotpair : Value} {kV__law_lotpair : Value}
    {f__law_tax : Addr} {od__law_tax an__law_tax : Option Addr} {sl__law_tax : Array (Option Value)} {oc__law_tax dc__law_tax pm__law_tax cd__law_tax ct__law_tax : Value} {kV__law_tax : Value}
    {f__law_add : Addr} {od__law_add an__law_add : Option Addr} {sl__law_add : Array (Option Value)} {oc__law_add dc__law_add pm__law_add cd__law_add ct__law_add : Value} {kV__law_add : Value}
    {f__law_sum : Addr} {od__law_sum an__law_sum : Option Addr} {sl__law_sum : Array (Option Value)} {oc__law_sum dc__law_sum pm__law_sum cd__law_sum ct__law_sum : Value} {kV__law_sum : Value}
    {f_Lot_harvested : Addr} {od_Lot_harvested an_Lot_harvested : Option Addr} {sl_Lot_harvested : Array (Option Value)} {oc_Lot_harvested dc_Lot_harvested pm_Lot_harvested cd_Lot_harvested ct_Lot_harvested : Value} {kV_Lot_harvested : Value}
    {f_Lot_grown : Addr} {od_Lot_grown an_Lot_grown : Option Addr} {sl_Lot_grown : Array (Option Value)} {oc_Lot_grown dc_Lot_grown pm_Lot_grown cd_Lot_grown ct_Lot_grown : Value} {kV_Lot_grown : Value}
    {f_Lot_raised : Addr} {od_Lot_raised an_Lot_raised : Option Addr} {sl_Lot_raised : Array (Option Value)} {oc_Lot_raised dc_Lot_raised pm_Lot_raised cd_Lot_raised ct_Lot_raised : Value} {kV_Lot_raised : Value}
    {f__law_turned : Addr} {od__law_turned an__law_turned : Option Addr} {sl__law_turned : Array (Option Value)} {oc__law_turned dc__law_turned pm__law_turned cd__law_turned ct__law_turned : Value} {kV__law_turned : Value}
    {f_law : Addr} {od_law an_law : Option Addr} {sl_law : Array (Option Value)} {oc_law dc_law pm_law cd_law ct_law : Value} {kV_law : Value}
    (haC_Lot : PySem.W.nsIn K mainGlobals "Lot" = some (some (.ref C_Lot)))
    (hn_isinstance : PySem.W.nsIn K mainGlobals "isinstance" = some none)
    (hn_abs : PySem.W.nsIn K mainGlobals "abs" = some none)
    (hn_len : PySem.W.nsIn K mainGlobals "len" = some none)
    (hn_list : PySem.W.nsIn K mainGlobals "list" = some none)
    (hn_range : PySem.W.nsIn K mainGlobals "range" = some none)
    (hc_NOUGHT : PySem.W.nsIn K mainGlobals "NOUGHT" = some (some (.ref a_NOUGHT)))
    (hq_NOUGHT : K.lookup a_NOUGHT = some ⟨.type "tuple", d_NOUGHT, .seq #[.int 0 t0_NOUGHT, .int 1 t1_NOUGHT] n_NOUGHT, z_NOUGHT⟩)
    (hc_WHOLE : PySem.W.nsIn K mainGlobals "WHOLE" = some (some (.int 10000 t_WHOLE)))
    (hxg_ByNought : PySem.W.nsIn K mainGlobals "ByNought" = some (some (.ref x_ByNought)))
    (hxq_ByNought : PySem.W.excIn K x_ByNought [.type "ZeroDivisionError", .type "ArithmeticError", .type "Exception", .type "BaseException", .type "object"] "ZeroDivisionError.__new__" = true)
    (hxk_ByNought : PySem.W.keepIn K (.ref x_ByNought) = true)
    (hxs_ByNought : PySem.W.subIn K (.ref x_ByNought) (.type "BaseException") = some true)
    (hxt_ByNought : PySem.W.typeIn K (.ref x_ByNought) = some (.type "type"))
    (hxh_ByNought : PySem.W.hasDictIn K x_ByNought = true)
    (hxe_ByNought : PySem.W.subIn K (.ref x_ByNought) (.ref x_ByNought) = some true)
    (hlot_ca : PySem.W.findIn K (.ref C_Lot) "__class__" = some (some (.builtin "object.__class__")))
    (hlot_cn : PySem.W.specialIn K (.builtin "object.__class__") "__get__" = some (some (.builtin "getset_descriptor.__get__")))
    (hlot_ct : PySem.W.takesIn K (.builtin "object.__class__") = some true)
    (hlot_cm : PySem.W.mroIn K C_Lot (.type "object") = some true)
    (ha_LotU_initU : PySem.W.findIn K (.ref C_Lot) "__init__" = some (some (.ref f_LotU_initU)))
    (hi_LotU_initU : PySem.W.isFn K (.ref f_LotU_initU) = true)
    (hl_LotU_initU : K.lookup f_LotU_initU = some ⟨oc_LotU_initU, od_LotU_initU, .func (PySem.W.fnOf "__init__" "Lot.__init__" (defArgs s_LotU_initU) (defBody s_LotU_initU) (defScope s_LotU_initU) .none kV_LotU_initU dc_LotU_initU pm_LotU_initU an_LotU_initU cd_LotU_initU ct_LotU_initU), sl_LotU_initU⟩)
    (hc_LotU_initU : PySem.W.codeIn K cd_LotU_initU "Lot.__init__" = true)
    (hk_LotU_initU : PySem.W.keepIn K (.ref f_LotU_initU) = true)
    (ha_LotU_eqU : PySem.W.findIn K (.ref C_Lot) "__eq__" = some (some (.ref f_LotU_eqU)))
    (hi_LotU_eqU : PySem.W.isFn K (.ref f_LotU_eqU) = true)
    (hl_LotU_eqU : K.lookup f_LotU_eqU = some ⟨oc_LotU_eqU, od_LotU_eqU, .func (PySem.W.fnOf "__eq__" "Lot.__eq__" (defArgs s_LotU_eqU) (defBody s_LotU_eqU) (defScope s_LotU_eqU) .none kV_LotU_eqU dc_LotU_eqU pm_LotU_eqU an_LotU_eqU cd_LotU_eqU ct_LotU_eqU), sl_LotU_eqU⟩)
    (hc_LotU_eqU : PySem.W.codeIn K cd_LotU_eqU "Lot.__eq__" = true)
    (hk_LotU_eqU : PySem.W.keepIn K (.ref f_LotU_eqU) = true)
    (ha_lowest : PySem.W.nsIn K mainGlobals "lowest" = some (some (.ref f_lowest)))
    (hl_lowest : K.lookup f_lowest = some ⟨oc_lowest, od_lowest, .func (PySem.W.fnOf "lowest" "lowest" (defArgs s_lowest) (defBody s_lowest) (defScope s_lowest) (.ref dT_lowest) kV_lowest dc_lowest pm_lowest an_lowest cd_lowest ct_lowest), sl_lowest⟩)
    (hc_lowest : PySem.W.codeIn K cd_lowest "lowest" = true)
    (hk_lowest : PySem.W.keepIn K (.ref f_lowest) = true)
    (hd_lowest : K.lookup dT_lowest = some ⟨cT_lowest, oT_lowest, .seq #[.int 1 w0_lowest] nT_lowest, zT_lowest⟩)
    (ha_minus : PySem.W.nsIn K mainGlobals "minus" = some (some (.ref f_minus)))
    (hl_minus : K.lookup f_minus = some ⟨oc_minus, od_minus, .func (PySem.W.fnOf "minus" "minus" (defArgs s_minus) (defBody s_minus) (defScope s_minus) .none kV_minus dc_minus pm_minus an_minus cd_minus ct_minus), sl_minus⟩)
    (hc_minus : PySem.W.codeIn K cd_minus "minus" = true)
    (hk_minus : PySem.W.keepIn K (.ref f_minus) = true)
    (ha_times : PySem.W.nsIn K mainGlobals "times" = some (some (.ref f_times)))
    (hl_times : K.lookup f_times = some ⟨oc_times, od_times, .func (PySem.W.fnOf "times" "times" (defArgs s_times) (defBody s_times) (defScope s_times) .none kV_times dc_times pm_times an_times cd_times ct_times), sl_times⟩)
    (hc_times : PySem.W.codeIn K cd_times "times" = true)
    (hk_times : PySem.W.keepIn K (.ref f_times) = true)
    (ha_less : PySem.W.nsIn K mainGlobals "less" = some (some (.ref f_less)))
    (hl_less : K.lookup f_less = some ⟨oc_less, od_less, .func (PySem.W.fnOf "less" "less" (defArgs s_less) (defBody s_less) (defScope s_less) .none kV_less dc_less pm_less an_less cd_less ct_less), sl_less⟩)
    (hc_less : PySem.W.codeIn K cd_less "less" = true)
    (hk_less : PySem.W.keepIn K (.ref f_less) = true)
    (ha_Lot_fee : PySem.W.findIn K (.ref C_Lot) "fee" = some (some (.ref f_Lot_fee)))
    (hi_Lot_fee : PySem.W.isFn K (.ref f_Lot_fee) = true)
    (hl_Lot_fee : K.lookup f_Lot_fee = some ⟨oc_Lot_fee, od_Lot_fee, .func (PySem.W.fnOf "fee" "Lot.fee" (defArgs s_Lot_fee) (defBody s_Lot_fee) (defScope s_Lot_fee) .none kV_Lot_fee dc_Lot_fee pm_Lot_fee an_Lot_fee cd_Lot_fee ct_Lot_fee), sl_Lot_fee⟩)
    (hc_Lot_fee : PySem.W.codeIn K cd_Lot_fee "Lot.fee" = true)
    (hk_Lot_fee : PySem.W.keepIn K (.ref f_Lot_fee) = true)
    (ha_Lot_net : PySem.W.findIn K (.ref C_Lot) "net" = some (some (.ref f_Lot_net)))
    (hi_Lot_net : PySem.W.isFn K (.ref f_Lot_net) = true)
    (hl_Lot_net : K.lookup f_Lot_net = some ⟨oc_Lot_net, od_Lot_net, .func (PySem.W.fnOf "net" "Lot.net" (defArgs s_Lot_net) (defBody s_Lot_net) (defScope s_Lot_net) .none kV_Lot_net dc_Lot_net pm_Lot_net an_Lot_net cd_Lot_net ct_Lot_net), sl_Lot_net⟩)
    (hc_Lot_net : PySem.W.codeIn K cd_Lot_net "Lot.net" = true)
    (hk_Lot_net : PySem.W.keepIn K (.ref f_Lot_net) = true)
    (ha_Lot_scaled : PySem.W.findIn K (.ref C_Lot) "scaled" = some (some (.ref f_Lot_scaled)))
    (hi_Lot_scaled : PySem.W.isFn K (.ref f_Lot_scaled) = true)
    (hl_Lot_scaled : K.lookup f_Lot_scaled = some ⟨oc_Lot_scaled, od_Lot_scaled, .func (PySem.W.fnOf "scaled" "Lot.scaled" (defArgs s_Lot_scaled) (defBody s_Lot_scaled) (defScope s_Lot_scaled) .none kV_Lot_scaled dc_Lot_scaled pm_Lot_scaled an_Lot_scaled cd_Lot_scaled ct_Lot_scaled), sl_Lot_scaled⟩)
    (hc_Lot_scaled : PySem.W.codeIn K cd_Lot_scaled "Lot.scaled" = true)
    (hk_Lot_scaled : PySem.W.keepIn K (.ref f_Lot_scaled) = true)
    (ha_Lot_part : PySem.W.findIn K (.ref C_Lot) "part" = some (some (.ref f_Lot_part)))
    (hi_Lot_part : PySem.W.isFn K (.ref f_Lot_part) = true)
    (hl_Lot_part : K.lookup f_Lot_part = some ⟨oc_Lot_part, od_Lot_part, .func (PySem.W.fnOf "part" "Lot.part" (defArgs s_Lot_part) (defBody s_Lot_part) (defScope s_Lot_part) .none kV_Lot_part dc_Lot_part pm_Lot_part an_Lot_part cd_Lot_part ct_Lot_part), sl_Lot_part⟩)
    (hc_Lot_part : PySem.W.codeIn K cd_Lot_part "Lot.part" = true)
    (hk_Lot_part : PySem.W.keepIn K (.ref f_Lot_part) = true)
    (ha_Lot_rest : PySem.W.findIn K (.ref C_Lot) "rest" = some (some (.ref f_Lot_rest)))
    (hi_Lot_rest : PySem.W.isFn K (.ref f_Lot_rest) = true)
    (hl_Lot_rest : K.lookup f_Lot_rest = some ⟨oc_Lot_rest, od_Lot_rest, .func (PySem.W.fnOf "rest" "Lot.rest" (defArgs s_Lot_rest) (defBody s_Lot_rest) (defScope s_Lot_rest) .none kV_Lot_rest dc_Lot_rest pm_Lot_rest an_Lot_rest cd_Lot_rest ct_Lot_rest), sl_Lot_rest⟩)
    (hc_Lot_rest : PySem.W.codeIn K cd_Lot_rest "Lot.rest" = true)
    (hk_Lot_rest : PySem.W.keepIn K (.ref f_Lot_rest) = true)
    (ha_plus : PySem.W.nsIn K mainGlobals "plus" = some (some (.ref f_plus)))
    (hl_plus : K.lookup f_plus = some ⟨oc_plus, od_plus, .func (PySem.W.fnOf "plus" "plus" (defArgs s_plus) (defBody s_plus) (defScope s_plus) .none kV_plus dc_plus pm_plus an_plus cd_plus ct_plus), sl_plus⟩)
    (hc_plus : PySem.W.codeIn K cd_plus "plus" = true)
    (hk_plus : PySem.W.keepIn K (.ref f_plus) = true)
    (ha_over : PySem.W.nsIn K mainGlobals "over" = some (some (.ref f_over)))
    (hl_over : K.lookup f_over = some ⟨oc_over, od_over, .func (PySem.W.fnOf "over" "over" (defArgs s_over) (defBody s_over) (defScope s_over) .none kV_over dc_over pm_over an_over cd_over ct_over), sl_over⟩)
    (hc_over : PySem.W.codeIn K cd_over "over" = true)
    (hk_over : PySem.W.keepIn K (.ref f_over) = true)
    (ha_Lot_standing : PySem.W.findIn K (.ref C_Lot) "standing" = some (some (.ref f_Lot_standing)))
    (hi_Lot_standing : PySem.W.isFn K (.ref f_Lot_standing) = true)
    (hl_Lot_standing : K.lookup f_Lot_standing = some ⟨oc_Lot_standing, od_Lot_standing, .func (PySem.W.fnOf "standing" "Lot.standing" (defArgs s_Lot_standing) (defBody s_Lot_standing) (defScope s_Lot_standing) .none kV_Lot_standing dc_Lot_standing pm_Lot_standing an_Lot_standing cd_Lot_standing ct_Lot_standing), sl_Lot_standing⟩)
    (hc_Lot_standing : PySem.W.codeIn K cd_Lot_standing "Lot.standing" = true)
    (hk_Lot_standing : PySem.W.keepIn K (.ref f_Lot_standing) = true)
    (ha_in_standing_order : PySem.W.nsIn K mainGlobals "in_standing_order" = some (some (.ref f_in_standing_order)))
    (hl_in_standing_order : K.lookup f_in_standing_order = some ⟨oc_in_standing_order, od_in_standing_order, .func (PySem.W.fnOf "in_standing_order" "in_standing_order" (defArgs s_in_standing_order) (defBody s_in_standing_order) (defScope s_in_standing_order) .none kV_in_standing_order dc_in_standing_order pm_in_standing_order an_in_standing_order cd_in_standing_order ct_in_standing_order), sl_in_standing_order⟩)
    (hc_in_standing_order : PySem.W.codeIn K cd_in_standing_order "in_standing_order" = true)
    (hk_in_standing_order : PySem.W.keepIn K (.ref f_in_standing_order) = true)
    (ha_joined : PySem.W.nsIn K mainGlobals "joined" = some (some (.ref f_joined)))
    (hl_joined : K.lookup f_joined = some ⟨oc_joined, od_joined, .func (PySem.W.fnOf "joined" "joined" (defArgs s_joined) (defBody s_joined) (defScope s_joined) .none kV_joined dc_joined pm_joined an_joined cd_joined ct_joined), sl_joined⟩)
    (hc_joined : PySem.W.codeIn K cd_joined "joined" = true)
    (hk_joined : PySem.W.keepIn K (.ref f_joined) = true)
    (ha__law_bag : PySem.W.nsIn K mainGlobals "_law_bag" = some (some (.ref f__law_bag)))
    (hl__law_bag : K.lookup f__law_bag = some ⟨oc__law_bag, od__law_bag, .func (PySem.W.fnOf "_law_bag" "_law_bag" (defArgs s__law_bag) (defBody s__law_bag) (defScope s__law_bag) .none kV__law_bag dc__law_bag pm__law_bag an__law_bag cd__law_bag ct__law_bag), sl__law_bag⟩)
    (hc__law_bag : PySem.W.codeIn K cd__law_bag "_law_bag" = true)
    (hk__law_bag : PySem.W.keepIn K (.ref f__law_bag) = true)
    (ha__law_pull : PySem.W.nsIn K mainGlobals "_law_pull" = some (some (.ref f__law_pull)))
    (hl__law_pull : K.lookup f__law_pull = some ⟨oc__law_pull, od__law_pull, .func (PySem.W.fnOf "_law_pull" "_law_pull" (defArgs s__law_pull) (defBody s__law_pull) (defScope s__law_pull) .none kV__law_pull dc__law_pull pm__law_pull an__law_pull cd__law_pull ct__law_pull), sl__law_pull⟩)
    (hc__law_pull : PySem.W.codeIn K cd__law_pull "_law_pull" = true)
    (hk__law_pull : PySem.W.keepIn K (.ref f__law_pull) = true)
    (ha__law_low : PySem.W.nsIn K mainGlobals "_law_low" = some (some (.ref f__law_low)))
    (hl__law_low : K.lookup f__law_low = some ⟨oc__law_low, od__law_low, .func (PySem.W.fnOf "_law_low" "_law_low" (defArgs s__law_low) (defBody s__law_low) (defScope s__law_low) .none kV__law_low dc__law_low pm__law_low an__law_low cd__law_low ct__law_low), sl__law_low⟩)
    (hc__law_low : PySem.W.codeIn K cd__law_low "_law_low" = true)
    (hk__law_low : PySem.W.keepIn K (.ref f__law_low) = true)
    (ha__law_wide : PySem.W.nsIn K mainGlobals "_law_wide" = some (some (.ref f__law_wide)))
    (hl__law_wide : K.lookup f__law_wide = some ⟨oc__law_wide, od__law_wide, .func (PySem.W.fnOf "_law_wide" "_law_wide" (defArgs s__law_wide) (defBody s__law_wide) (defScope s__law_wide) .none kV__law_wide dc__law_wide pm__law_wide an__law_wide cd__law_wide ct__law_wide), sl__law_wide⟩)
    (hc__law_wide : PySem.W.codeIn K cd__law_wide "_law_wide" = true)
    (hk__law_wide : PySem.W.keepIn K (.ref f__law_wide) = true)
    (ha__law_factor : PySem.W.nsIn K mainGlobals "_law_factor" = some (some (.ref f__law_factor)))
    (hl__law_factor : K.lookup f__law_factor = some ⟨oc__law_factor, od__law_factor, .func (PySem.W.fnOf "_law_factor" "_law_factor" (defArgs s__law_factor) (defBody s__law_factor) (defScope s__law_factor) .none kV__law_factor dc__law_factor pm__law_factor an__law_factor cd__law_factor ct__law_factor), sl__law_factor⟩)
    (hc__law_factor : PySem.W.codeIn K cd__law_factor "_law_factor" = true)
    (hk__law_factor : PySem.W.keepIn K (.ref f__law_factor) = true)
    (ha__law_mul : PySem.W.nsIn K mainGlobals "_law_mul" = some (some (.ref f__law_mul)))
    (hl__law_mul : K.lookup f__law_mul = some ⟨oc__law_mul, od__law_mul, .func (PySem.W.fnOf "_law_mul" "_law_mul" (defArgs s__law_mul) (defBody s__law_mul) (defScope s__law_mul) .none kV__law_mul dc__law_mul pm__law_mul an__law_mul cd__law_mul ct__law_mul), sl__law_mul⟩)
    (hc__law_mul : PySem.W.codeIn K cd__law_mul "_law_mul" = true)
    (hk__law_mul : PySem.W.keepIn K (.ref f__law_mul) = true)
    (ha__law_lotpair : PySem.W.nsIn K mainGlobals "_law_lotpair" = some (some (.ref f__law_lotpair)))
    (hl__law_lotpair : K.lookup f__law_lotpair = some ⟨oc__law_lotpair, od__law_lotpair, .func (PySem.W.fnOf "_law_lotpair" "_law_lotpair" (defArgs s__law_lotpair) (defBody s__law_lotpair) (defScope s__law_lotpair) .none kV__law_lotpair dc__law_lotpair pm__law_lotpair an__law_lotpair cd__law_lotpair ct__law_lotpair), sl__law_lotpair⟩)
    (hc__law_lotpair : PySem.W.codeIn K cd__law_lotpair "_law_lotpair" = true)
    (hk__law_lotpair : PySem.W.keepIn K (.ref f__law_lotpair) = true)
    (ha__law_tax : PySem.W.nsIn K mainGlobals "_law_tax" = some (some (.ref f__law_tax)))
    (hl__law_tax : K.lookup f__law_tax = some ⟨oc__law_tax, od__law_tax, .func (PySem.W.fnOf "_law_tax" "_law_tax" (defArgs s__law_tax) (defBody s__law_tax) (defScope s__law_tax) .none kV__law_tax dc__law_tax pm__law_tax an__law_tax cd__law_tax ct__law_tax), sl__law_tax⟩)
    (hc__law_tax : PySem.W.codeIn K cd__law_tax "_law_tax" = true)
    (hk__law_tax : PySem.W.keepIn K (.ref f__law_tax) = true)
    (ha__law_add : PySem.W.nsIn K mainGlobals "_law_add" = some (some (.ref f__law_add)))
    (hl__law_add : K.lookup f__law_add = some ⟨oc__law_add, od__law_add, .func (PySem.W.fnOf "_law_add" "_law_add" (defArgs s__law_add) (defBody s__law_add) (defScope s__law_add) .none kV__law_add dc__law_add pm__law_add an__law_add cd__law_add ct__law_add), sl__law_add⟩)
    (hc__law_add : PySem.W.codeIn K cd__law_add "_law_add" = true)
    (hk__law_add : PySem.W.keepIn K (.ref f__law_add) = true)
    (ha__law_sum : PySem.W.nsIn K mainGlobals "_law_sum" = some (some (.ref f__law_sum)))
    (hl__law_sum : K.lookup f__law_sum = some ⟨oc__law_sum, od__law_sum, .func (PySem.W.fnOf "_law_sum" "_law_sum" (defArgs s__law_sum) (defBody s__law_sum) (defScope s__law_sum) .none kV__law_sum dc__law_sum pm__law_sum an__law_sum cd__law_sum ct__law_sum), sl__law_sum⟩)
    (hc__law_sum : PySem.W.codeIn K cd__law_sum "_law_sum" = true)
    (hk__law_sum : PySem.W.keepIn K (.ref f__law_sum) = true)
    (ha_Lot_harvested : PySem.W.findIn K (.ref C_Lot) "harvested" = some (some (.ref f_Lot_harvested)))
    (hi_Lot_harvested : PySem.W.isFn K (.ref f_Lot_harvested) = true)
    (hl_Lot_harvested : K.lookup f_Lot_harvested = some ⟨oc_Lot_harvested, od_Lot_harvested, .func (PySem.W.fnOf "harvested" "Lot.harvested" (defArgs s_Lot_harvested) (defBody s_Lot_harvested) (defScope s_Lot_harvested) .none kV_Lot_harvested dc_Lot_harvested pm_Lot_harvested an_Lot_harvested cd_Lot_harvested ct_Lot_harvested), sl_Lot_harvested⟩)
    (hc_Lot_harvested : PySem.W.codeIn K cd_Lot_harvested "Lot.harvested" = true)
    (hk_Lot_harvested : PySem.W.keepIn K (.ref f_Lot_harvested) = true)
    (ha_Lot_grown : PySem.W.findIn K (.ref C_Lot) "grown" = some (some (.ref f_Lot_grown)))
    (hi_Lot_grown : PySem.W.isFn K (.ref f_Lot_grown) = true)
    (hl_Lot_grown : K.lookup f_Lot_grown = some ⟨oc_Lot_grown, od_Lot_grown, .func (PySem.W.fnOf "grown" "Lot.grown" (defArgs s_Lot_grown) (defBody s_Lot_grown) (defScope s_Lot_grown) .none kV_Lot_grown dc_Lot_grown pm_Lot_grown an_Lot_grown cd_Lot_grown ct_Lot_grown), sl_Lot_grown⟩)
    (hc_Lot_grown : PySem.W.codeIn K cd_Lot_grown "Lot.grown" = true)
    (hk_Lot_grown : PySem.W.keepIn K (.ref f_Lot_grown) = true)
    (ha_Lot_raised : PySem.W.findIn K (.ref C_Lot) "raised" = some (some (.ref f_Lot_raised)))
    (hi_Lot_raised : PySem.W.isFn K (.ref f_Lot_raised) = true)
    (hl_Lot_raised : K.lookup f_Lot_raised = some ⟨oc_Lot_raised, od_Lot_raised, .func (PySem.W.fnOf "raised" "Lot.raised" (defArgs s_Lot_raised) (defBody s_Lot_raised) (defScope s_Lot_raised) .none kV_Lot_raised dc_Lot_raised pm_Lot_raised an_Lot_raised cd_Lot_raised ct_Lot_raised), sl_Lot_raised⟩)
    (hc_Lot_raised : PySem.W.codeIn K cd_Lot_raised "Lot.raised" = true)
    (hk_Lot_raised : PySem.W.keepIn K (.ref f_Lot_raised) = true)
    (ha__law_turned : PySem.W.nsIn K mainGlobals "_law_turned" = some (some (.ref f__law_turned)))
    (hl__law_turned : K.lookup f__law_turned = some ⟨oc__law_turned, od__law_turned, .func (PySem.W.fnOf "_law_turned" "_law_turned" (defArgs s__law_turned) (defBody s__law_turned) (defScope s__law_turned) .none kV__law_turned dc__law_turned pm__law_turned an__law_turned cd__law_turned ct__law_turned), sl__law_turned⟩)
    (hc__law_turned : PySem.W.codeIn K cd__law_turned "_law_turned" = true)
    (hk__law_turned : PySem.W.keepIn K (.ref f__law_turned) = true)
    (ha_law : PySem.W.nsIn K mainGlobals "law" = some (some (.ref f_law)))
    (hl_law : K.lookup f_law = some ⟨oc_law, od_law, .func (PySem.W.fnOf "law" "law" (defArgs s_law) (defBody s_law) (defScope s_law) .none kV_law dc_law pm_law an_law cd_law ct_law), sl_law⟩)
    (hc_law : PySem.W.codeIn K cd_law "law" = true)
    (hk_law : PySem.W.keepIn K (.ref f_law) = true)
    (hpg_Lot : PySem.W.plainGet K C_Lot Str.empty = true)
    (hhd_Lot : PySem.W.hasDictIn K C_Lot = true)
    (hpo_Lot : PySem.W.plainOver K C_Lot = true)
    (hsa_Lot : PySem.W.findIn K (.ref C_Lot) "__setattr__" = some (some (.builtin "object.__setattr__")))
    (hmk_Lot : PySem.W.makesIn K C_Lot = true)
    (hkc_Lot : PySem.W.keepIn K (.ref C_Lot) = true)
    (hna_Lot_worth : PySem.W.findIn K (.ref C_Lot) "worth" = some none)
    (hna_Lot_mark : PySem.W.findIn K (.ref C_Lot) "mark" = some none)
    : ∃ fd : FuncData, (∀ (s : Shared) (v : Value), BindsTo s fd ⟨[v], []⟩ [("_law_script", v)]) ∧ ∀ base : Heap, K.In base → base.Ns mainGlobals mg → FnOk l.prog w K mg base CX0 7 fa fd ["_law_script"] (sp_law K) := by
  have e := hfa.symm.trans (PySem.W.mg_of X G ha_law)
  cases e
  have F := fun_mk (st := s_law) hl_law hc_law hk_law
  have T : Nonempty (Top w K mg) := ⟨{
    n_isinstance := PySem.W.mg_none_of X G hn_isinstance,
    n_abs := PySem.W.mg_none_of X G hn_abs,
    n_len := PySem.W.mg_none_of X G hn_len,
    n_list := PySem.W.mg_none_of X G hn_list,
    n_range := PySem.W.mg_none_of X G hn_range,
    a_NOUGHT := a_NOUGHT,
    c_NOUGHT := PySem.W.mg_of X G hc_NOUGHT,
    q_NOUGHT := fun H => .inr ⟨_, _, _, hq_NOUGHT, rfl, rfl, (by show 2 ≤ sizeLine; decide), .cons ⟨_, rfl⟩ (.cons ⟨_, rfl⟩ (.nil))⟩,
    t_WHOLE := t_WHOLE,
    c_WHOLE := PySem.W.mg_of X G hc_WHOLE,
    x_ByNought := x_ByNought,
    e_ByNought := ⟨PySem.W.mg_of X G hxg_ByNought, hxq_ByNought, hxk_ByNought, hxs_ByNought, hxt_ByNought, hxh_ByNought, hxe_ByNought⟩,
    lot_ca := hlot_ca,
    lot_cn := hlot_cn,
    lot_ct := hlot_ct,
    lot_cm := hlot_cm,
    f_LotU_initU := f_LotU_initU,
    fd_LotU_initU := _,
    F_LotU_initU := fun_mk (st := s_LotU_initU) hl_LotU_initU hc_LotU_initU hk_LotU_initU,
    b_LotU_initU := (fun_mk (st := s_LotU_initU) hl_LotU_initU hc_LotU_initU hk_LotU_initU).binds (ps := ["self", "worth", "mark"]) fun _ _ _ _ _ _ us hl => match us, hl with | [_, _, _], _ => rfl,
    k_LotU_initU := hk_LotU_initU,
    f_LotU_eqU := f_LotU_eqU,
    fd_LotU_eqU := _,
    F_LotU_eqU := fun_mk (st := s_LotU_eqU) hl_LotU_eqU hc_LotU_eqU hk_LotU_eqU,
    b_LotU_eqU := (fun_mk (st := s_LotU_eqU) hl_LotU_eqU hc_LotU_eqU hk_LotU_eqU).binds (ps := ["self", "other"]) fun _ _ _ _ _ _ us hl => match us, hl with | [_, _], _ => rfl,
    k_LotU_eqU := hk_LotU_eqU,
    f_lowest := f_lowest,
    fd_lowest := _,
    F_lowest := ⟨⟨oc_lowest, od_lowest, _, _, dc_lowest, pm_lowest, an_lowest, cd_lowest, ct_lowest, sl_lowest, rfl, hl_lowest, hc_lowest, .inr ⟨(by simp), dT_lowest, _, _, nT_lowest, rfl, hd_lowest, rfl, .cons ⟨_, rfl⟩ (.nil)⟩, .inl rfl⟩, hk_lowest⟩,
    k_lowest := hk_lowest,
    g_lowest := PySem.W.mg_of X G ha_lowest,
    f_minus := f_minus,
    fd_minus := _,
    F_minus := fun_mk (st := s_minus) hl_minus hc_minus hk_minus,
    b_minus := (fun_mk (st := s_minus) hl_minus hc_minus hk_minus).binds (ps := ["one", "other"]) fun _ _ _ _ _ _ us hl => match us, hl with | [_, _], _ => rfl,
    k_minus := hk_minus,
    g_minus := PySem.W.mg_of X G ha_minus,
    f_times := f_times,
    fd_times := _,
    F_times := fun_mk (st := s_times) hl_times hc_times hk_times,
    b_times := (fun_mk (st := s_times) hl_times hc_times hk_times).binds (ps := ["one", "other"]) fun _ _ _ _ _ _ us hl => match us, hl with | [_, _], _ => rfl,
    k_times := hk_times,
    g_times := PySem.W.mg_of X G ha_times,
    f_less := f_less,
    fd_less := _,
    F_less := fun_mk (st := s_less) hl_less hc_less hk_less,
    b_less := (fun_mk (st := s_less) hl_less hc_less hk_less).binds (ps := ["one", "other"]) fun _ _ _ _ _ _ us hl => match us, hl with | [_, _], _ => rfl,
    k_less := hk_less,
    g_less := PySem.W.mg_of X G ha_less,
    f_Lot_fee := f_Lot_fee,
    fd_Lot_fee := _,
    F_Lot_fee := fun_mk (st := s_Lot_fee) hl_Lot_fee hc_Lot_fee hk_Lot_fee,
    b_Lot_fee := (fun_mk (st := s_Lot_fee) hl_Lot_fee hc_Lot_fee hk_Lot_fee).binds (ps := ["self", "rate"]) fun _ _ _ _ _ _ us hl => match us, hl with | [_, _], _ => rfl,
    k_Lot_fee := hk_Lot_fee,
    f_Lot_net := f_Lot_net,
    fd_Lot_net := _,
    F_Lot_net := fun_mk (st := s_Lot_net) hl_Lot_net hc_Lot_net hk_Lot_net,
    b_Lot_net := (fun_mk (st := s_Lot_net) hl_Lot_net hc_Lot_net hk_Lot_net).binds (ps := ["self", "rate"]) fun _ _ _ _ _ _ us hl => match us, hl with | [_, _], _ => rfl,
    k_Lot_net := hk_Lot_net,
    f_Lot_scaled := f_Lot_scaled,
    fd_Lot_scaled := _,
    F_Lot_scaled := fun_mk (st := s_Lot_scaled) hl_Lot_scaled hc_Lot_scaled hk_Lot_scaled,
    b_Lot_scaled := (fun_mk (st := s_Lot_scaled) hl_Lot_scaled hc_Lot_scaled hk_Lot_scaled).binds (ps := ["self", "factor"]) fun _ _ _ _ _ _ us hl => match us, hl with | [_, _], _ => rfl,
    k_Lot_scaled := hk_Lot_scaled,
    f_Lot_part := f_Lot_part,
    fd_Lot_part := _,
    F_Lot_part := fun_mk (st := s_Lot_part) hl_Lot_part hc_Lot_part hk_Lot_part,
    b_Lot_part := (fun_mk (st := s_Lot_part) hl_Lot_part hc_Lot_part hk_Lot_part).binds (ps := ["self", "parts"]) fun _ _ _ _ _ _ us hl => match us, hl with | [_, _], _ => rfl,
    k_Lot_part := hk_Lot_part,
    f_Lot_rest := f_Lot_rest,
    fd_Lot_rest := _,
    F_Lot_rest := fun_mk (st := s_Lot_rest) hl_Lot_rest hc_Lot_rest hk_Lot_rest,
    b_Lot_rest := (fun_mk (st := s_Lot_rest) hl_Lot_rest hc_Lot_rest hk_Lot_rest).binds (ps := ["self", "parts"]) fun _ _ _ _ _ _ us hl => match us, hl with | [_, _], _ => rfl,
    k_Lot_rest := hk_Lot_rest,
    f_plus := f_plus,
    fd_plus := _,
    F_plus := fun_mk (st := s_plus) hl_plus hc_plus hk_plus,
    b_plus := (fun_mk (st := s_plus) hl_plus hc_plus hk_plus).binds (ps := ["one", "other"]) fun _ _ _ _ _ _ us hl => match us, hl with | [_, _], _ => rfl,
    k_plus := hk_plus,
    g_plus := PySem.W.mg_of X G ha_plus,
    f_over := f_over,
    fd_over := _,
    F_over := fun_mk (st := s_over) hl_over hc_over hk_over,
    b_over := (fun_mk (st := s_over) hl_over hc_over hk_over).binds (ps := ["one", "other"]) fun _ _ _ _ _ _ us hl => match us, hl with | [_, _], _ => rfl,
    k_over := hk_over,
    g_over := PySem.W.mg_of X G ha_over,
    f_Lot_standing := f_Lot_standing,
    fd_Lot_standing := _,
    F_Lot_standing := fun_mk (st := s_Lot_standing) hl_Lot_standing hc_Lot_standing hk_Lot_standing,
    b_Lot_standing := (fun_mk (st := s_Lot_standing) hl_Lot_standing hc_Lot_standing hk_Lot_standing).binds (ps := ["self"]) fun _ _ _ _ _ _ us hl => match us, hl with | [_], _ => rfl,
    k_Lot_standing := hk_Lot_standing,
    f_in_standing_order := f_in_standing_order,
    fd_in_standing_order := _,
    F_in_standing_order := fun_mk (st := s_in_standing_order) hl_in_standing_order hc_in_standing_order hk_in_standing_order,
    b_in_standing_order := (fun_mk (st := s_in_standing_order) hl_in_standing_order hc_in_standing_order hk_in_standing_order).binds (ps := ["lots"]) fun _ _ _ _ _ _ us hl => match us, hl with | [_], _ => rfl,
    k_in_standing_order := hk_in_standing_order,
    g_in_standing_order := PySem.W.mg_of X G ha_in_standing_order,
    f_joined := f_joined,
    fd_joined := _,
    F_joined := fun_mk (st := s_joined) hl_joined hc_joined hk_joined,
    b_joined := (fun_mk (st := s_joined) hl_joined hc_joined hk_joined).binds (ps := ["lots"]) fun _ _ _ _ _ _ us hl => match us, hl with | [_], _ => rfl,
    k_joined := hk_joined,
    g_joined := PySem.W.mg_of X G ha_joined,
    f__law_bag := f__law_bag,
    fd__law_bag := _,
    F__law_bag := fun_mk (st := s__law_bag) hl__law_bag hc__law_bag hk__law_bag,
    b__law_bag := (fun_mk (st := s__law_bag) hl__law_bag hc__law_bag hk__law_bag).binds (ps := ["_law_script"]) fun _ _ _ _ _ _ us hl => match us, hl with | [_], _ => rfl,
    k__law_bag := hk__law_bag,
    g__law_bag := PySem.W.mg_of X G ha__law_bag,
    f__law_pull := f__law_pull,
    fd__law_pull := _,
    F__law_pull := fun_mk (st := s__law_pull) hl__law_pull hc__law_pull hk__law_pull,
    b__law_pull := (fun_mk (st := s__law_pull) hl__law_pull hc__law_pull hk__law_pull).binds (ps := ["_law_bag_here", "_law_many"]) fun _ _ _ _ _ _ us hl => match us, hl with | [_, _], _ => rfl,
    k__law_pull := hk__law_pull,
    g__law_pull := PySem.W.mg_of X G ha__law_pull,
    f__law_low := f__law_low,
    fd__law_low := _,
    F__law_low := fun_mk (st := s__law_low) hl__law_low hc__law_low hk__law_low,
    b__law_low := (fun_mk (st := s__law_low) hl__law_low hc__law_low hk__law_low).binds (ps := ["_law_upper", "_law_lower"]) fun _ _ _ _ _ _ us hl => match us, hl with | [_, _], _ => rfl,
    k__law_low := hk__law_low,
    g__law_low := PySem.W.mg_of X G ha__law_low,
    f__law_wide := f__law_wide,
    fd__law_wide := _,
    F__law_wide := fun_mk (st := s__law_wide) hl__law_wide hc__law_wide hk__law_wide,
    b__law_wide := (fun_mk (st := s__law_wide) hl__law_wide hc__law_wide hk__law_wide).binds (ps := ["_law_bag_here", "_law_many"]) fun _ _ _ _ _ _ us hl => match us, hl with | [_, _], _ => rfl,
    k__law_wide := hk__law_wide,
    g__law_wide := PySem.W.mg_of X G ha__law_wide,
    f__law_factor := f__law_factor,
    fd__law_factor := _,
    F__law_factor := fun_mk (st := s__law_factor) hl__law_factor hc__law_factor hk__law_factor,
    b__law_factor := (fun_mk (st := s__law_factor) hl__law_factor hc__law_factor hk__law_factor).binds (ps := ["_law_bag_here"]) fun _ _ _ _ _ _ us hl => match us, hl with | [_], _ => rfl,
    k__law_factor := hk__law_factor,
    g__law_factor := PySem.W.mg_of X G ha__law_factor,
    f__law_mul := f__law_mul,
    fd__law_mul := _,
    F__law_mul := fun_mk (st := s__law_mul) hl__law_mul hc__law_mul hk__law_mul,
    b__law_mul := (fun_mk (st := s__law_mul) hl__law_mul hc__law_mul hk__law_mul).binds (ps := ["_law_one", "_law_other"]) fun _ _ _ _ _ _ us hl => match us, hl with | [_, _], _ => rfl,
    k__law_mul := hk__law_mul,
    g__law_mul := PySem.W.mg_of X G ha__law_mul,
    f__law_lotpair := f__law_lotpair,
    fd__law_lotpair := _,
    F__law_lotpair := fun_mk (st := s__law_lotpair) hl__law_lotpair hc__law_lotpair hk__law_lotpair,
    b__law_lotpair := (fun_mk (st := s__law_lotpair) hl__law_lotpair hc__law_lotpair hk__law_lotpair).binds (ps := ["_law_bag_here"]) fun _ _ _ _ _ _ us hl => match us, hl with | [_], _ => rfl,
    k__law_lotpair := hk__law_lotpair,
    g__law_lotpair := PySem.W.mg_of X G ha__law_lotpair,
    f__law_tax := f__law_tax,
    fd__law_tax := _,
    F__law_tax := fun_mk (st := s__law_tax) hl__law_tax hc__law_tax hk__law_tax,
    b__law_tax := (fun_mk (st := s__law_tax) hl__law_tax hc__law_tax hk__law_tax).binds (ps := ["_law_bag_here"]) fun _ _ _ _ _ _ us hl => match us, hl with | [_], _ => rfl,
    k__law_tax := hk__law_tax,
    g__law_tax := PySem.W.mg_of X G ha__law_tax,
    f__law_add := f__law_add,
    fd__law_add := _,
    F__law_add := fun_mk (st := s__law_add) hl__law_add hc__law_add hk__law_add,
    b__law_add := (fun_mk (st := s__law_add) hl__law_add hc__law_add hk__law_add).binds (ps := ["_law_one", "_law_other"]) fun _ _ _ _ _ _ us hl => match us, hl with | [_, _], _ => rfl,
    k__law_add := hk__law_add,
    g__law_add := PySem.W.mg_of X G ha__law_add,
    f__law_sum := f__law_sum,
    fd__law_sum := _,
    F__law_sum := fun_mk (st := s__law_sum) hl__law_sum hc__law_sum hk__law_sum,
    b__law_sum := (fun_mk (st := s__law_sum) hl__law_sum hc__law_sum hk__law_sum).binds (ps := ["_law_rows"]) fun _ _ _ _ _ _ us hl => match us, hl with | [_], _ => rfl,
    k__law_sum := hk__law_sum,
    g__law_sum := PySem.W.mg_of X G ha__law_sum,
    f_Lot_harvested := f_Lot_harvested,
    fd_Lot_harvested := _,
    F_Lot_harvested := fun_mk (st := s_Lot_harvested) hl_Lot_harvested hc_Lot_harvested hk_Lot_harvested,
    b_Lot_harvested := (fun_mk (st := s_Lot_harvested) hl_Lot_harvested hc_Lot_harvested hk_Lot_harvested).binds (ps := ["self", "rate"]) fun _ _ _ _ _ _ us hl => match us, hl with | [_, _], _ => rfl,
    k_Lot_harvested := hk_Lot_harvested,
    f_Lot_grown := f_Lot_grown,
    fd_Lot_grown := _,
    F_Lot_grown := fun_mk (st := s_Lot_grown) hl_Lot_grown hc_Lot_grown hk_Lot_grown,
    b_Lot_grown := (fun_mk (st := s_Lot_grown) hl_Lot_grown hc_Lot_grown hk_Lot_grown).binds (ps := ["self", "factor"]) fun _ _ _ _ _ _ us hl => match us, hl with | [_, _], _ => rfl,
    k_Lot_grown := hk_Lot_grown,
    f_Lot_raised := f_Lot_raised,
    fd_Lot_raised := _,
    F_Lot_raised := fun_mk (st := s_Lot_raised) hl_Lot_raised hc_Lot_raised hk_Lot_raised,
    b_Lot_raised := (fun_mk (st := s_Lot_raised) hl_Lot_raised hc_Lot_raised hk_Lot_raised).binds (ps := ["self", "factor"]) fun _ _ _ _ _ _ us hl => match us, hl with | [_, _], _ => rfl,
    k_Lot_raised := hk_Lot_raised,
    f__law_turned := f__law_turned,
    fd__law_turned := _,
    F__law_turned := fun_mk (st := s__law_turned) hl__law_turned hc__law_turned hk__law_turned,
    b__law_turned := (fun_mk (st := s__law_turned) hl__law_turned hc__law_turned hk__law_turned).binds (ps := ["_law_lot", "_law_deed"]) fun _ _ _ _ _ _ us hl => match us, hl with | [_, _], _ => rfl,
    k__law_turned := hk__law_turned,
    g__law_turned := PySem.W.mg_of X G ha__law_turned,
    C_Lot := C_Lot,
    c_Lot := PySem.W.mg_of X G haC_Lot,
    cl_Lot := ⟨hpg_Lot, hhd_Lot, hpo_Lot, hsa_Lot⟩,
    na_Lot_worth := hna_Lot_worth,
    na_Lot_mark := hna_Lot_mark,
    M_Lot := ⟨hmk_Lot, ha_LotU_initU, hi_LotU_initU, hkc_Lot⟩,
    m_LotU_eqU := ⟨ha_LotU_eqU, hi_LotU_eqU, hk_LotU_eqU⟩,
    m_Lot_fee := ⟨ha_Lot_fee, hi_Lot_fee, hk_Lot_fee⟩,
    m_Lot_net := ⟨ha_Lot_net, hi_Lot_net, hk_Lot_net⟩,
    m_Lot_harvested := ⟨ha_Lot_harvested, hi_Lot_harvested, hk_Lot_harvested⟩,
    m_Lot_grown := ⟨ha_Lot_grown, hi_Lot_grown, hk_Lot_grown⟩,
    m_Lot_raised := ⟨ha_Lot_raised, hi_Lot_raised, hk_Lot_raised⟩,
    m_Lot_scaled := ⟨ha_Lot_scaled, hi_Lot_scaled, hk_Lot_scaled⟩,
    m_Lot_part := ⟨ha_Lot_part, hi_Lot_part, hk_Lot_part⟩,
    m_Lot_rest := ⟨ha_Lot_rest, hi_Lot_rest, hk_Lot_rest⟩,
    m_Lot_standing := ⟨ha_Lot_standing, hi_Lot_standing, hk_Lot_standing⟩ }⟩
  obtain ⟨T⟩ := T
  exact ⟨_, fun s v => .of_eq rfl, fun base _ _ => ok_law F T⟩
end Cr
open PySem PySem.W PyProof.Rows
set_option maxRecDepth 100000 in
set_option maxHeartbeats 0 in
theorem PySem.Challenge.cw_crestpool_k21_whole_parted_pays_alike_holds : PySem.Challenge.rw_crestpool_k21_whole_parted_pays_alike.Holds := by
  w_on; o_law; k_head; (case hw => w_witness2)
  k_fill
  refine L2.walk_of (l := PySem.Challenge.rw_crestpool_k21_whole_parted_pays_alike) (n := 63) (k := 7) (x := "_law_script") (CX := fun _ => L2.CX0) (sp := fun w => Cr.sp_law _) rfl (by decide) rfl ⟨rfl, by decide, by decide⟩ (fun w h Y => PySem.W.kIn_of Y) ?F (fun _ _ a ns hl _ hS => ⟨a, ns, rfl, hS, hl, fun _ => rfl⟩) (fun _ _ _ _ _ h => h)
  case F =>
    intro w mg fa h KX G hmg
    refine' Cr.all_mk KX G hmg ?haC_Lot ?hn_isinstance ?hn_abs ?hn_len ?hn_list ?hn_range ?hc_NOUGHT ?hq_NOUGHT ?hc_WHOLE ?hxg_ByNought ?hxq_ByNought ?hxk_ByNought ?hxs_ByNought ?hxt_ByNought ?hxh_ByNought ?hxe_ByNought ?hlot_ca ?hlot_cn ?hlot_ct ?hlot_cm ?ha_LotU_initU ?hi_LotU_initU ?hl_LotU_initU ?hc_LotU_initU ?hk_LotU_initU ?ha_LotU_eqU ?hi_LotU_eqU ?hl_LotU_eqU ?hc_LotU_eqU ?hk_LotU_eqU ?ha_lowest ?hl_lowest ?hc_lowest ?hk_lowest ?hd_lowest ?ha_minus ?hl_minus ?hc_minus ?hk_minus ?ha_times ?hl_times ?hc_times ?hk_times ?ha_less ?hl_less ?hc_less ?hk_less ?ha_Lot_fee ?hi_Lot_fee ?hl_Lot_fee ?hc_Lot_fee ?hk_Lot_fee ?ha_Lot_net ?hi_Lot_net ?hl_Lot_net ?hc_Lot_net ?hk_Lot_net ?ha_Lot_scaled ?hi_Lot_scaled ?hl_Lot_scaled ?hc_Lot_scaled ?hk_Lot_scaled ?ha_Lot_part ?hi_Lot_part ?hl_Lot_part ?hc_Lot_part ?hk_Lot_part ?ha_Lot_rest ?hi_Lot_rest ?hl_Lot_rest ?hc_Lot_rest ?hk_Lot_rest ?ha_plus ?hl_plus ?hc_plus ?hk_plus ?ha_over ?hl_over ?hc_over ?hk_over ?ha_Lot_standing ?hi_Lot_standing ?hl_Lot_standing ?hc_Lot_standing ?hk_Lot_standing ?ha_in_standing_order ?hl_in_standing_order ?hc_in_standing_order ?hk_in_standing_order ?ha_joined ?hl_joined ?hc_joined ?hk_joined ?ha__law_bag ?hl__law_bag ?hc__law_bag ?hk__law_bag ?ha__law_pull ?hl__law_pull ?hc__law_pull ?hk__law_pull ?ha__law_low ?hl__law_low ?hc__law_low ?hk__law_low ?ha__law_wide ?hl__law_wide ?hc__law_wide ?hk__law_wide ?ha__law_factor ?hl__law_factor ?hc__law_factor ?hk__law_factor ?ha__law_mul ?hl__law_mul ?hc__law_mul ?hk__law_mul ?ha__law_lotpair ?hl__law_lotpair ?hc__law_lotpair ?hk__law_lotpair ?ha__law_tax ?hl__law_tax ?hc__law_tax ?hk__law_tax ?ha__law_add ?hl__law_add ?hc__law_add ?hk__law_add ?ha__law_sum ?hl__law_sum ?hc__law_sum ?hk__law_sum ?ha_Lot_harvested ?hi_Lot_harvested ?hl_Lot_harvested ?hc_Lot_harvested ?hk_Lot_harvested ?ha_Lot_grown ?hi_Lot_grown ?hl_Lot_grown ?hc_Lot_grown ?hk_Lot_grown ?ha_Lot_raised ?hi_Lot_raised ?hl_Lot_raised ?hc_Lot_raised ?hk_Lot_raised ?ha__law_turned ?hl__law_turned ?hc__law_turned ?hk__law_turned ?ha_law ?hl_law ?hc_law ?hk_law ?hpg_Lot ?hhd_Lot ?hpo_Lot ?hsa_Lot ?hmk_Lot ?hkc_Lot ?hna_Lot_worth ?hna_Lot_mark
    (case haC_Lot => k_is)
    (case hn_isinstance => k_is)
    (case hn_abs => k_is)
    (case hn_len => k_is)
    (case hn_list => k_is)
    (case hn_range => k_is)
    (case hc_NOUGHT => k_is)
    (case hq_NOUGHT => k_is)
    (case hc_WHOLE => k_is)
    (case hxg_ByNought => k_is)
    (case hxq_ByNought => first | k_exc | k_is)
    (case hxk_ByNought => k_is)
    (case hxs_ByNought => k_is)
    (case hxt_ByNought => k_is)
    (case hxh_ByNought => k_is)
    (case hxe_ByNought => first | rfl | k_is)
    (case hlot_ca => k_is)
    (case hlot_cn => k_is)
    (case hlot_ct => k_is)
    (case hlot_cm => k_is)
    (case ha_LotU_initU => k_is)
    (case hi_LotU_initU => k_is)
    (case hl_LotU_initU => k_is)
    (case hc_LotU_initU => k_is)
    (case hk_LotU_initU => k_is)
    (case ha_LotU_eqU => k_is)
    (case hi_LotU_eqU => k_is)
    (case hl_LotU_eqU => k_is)
    (case hc_LotU_eqU => k_is)
    (case hk_LotU_eqU => k_is)
    (case ha_lowest => k_is)
    (case hl_lowest => k_is)
    (case hc_lowest => k_is)
    (case hk_lowest => k_is)
    (case hd_lowest => k_is)
    (case ha_minus => k_is)
    (case hl_minus => k_is)
    (case hc_minus => k_is)
    (case hk_minus => k_is)
    (case ha_times => k_is)
    (case hl_times => k_is)
    (case hc_times => k_is)
    (case hk_times => k_is)
    (case ha_less => k_is)
    (case hl_less => k_is)
    (case hc_less => k_is)
    (case hk_less => k_is)
    (case ha_Lot_fee => k_is)
    (case hi_Lot_fee => k_is)
    (case hl_Lot_fee => k_is)
    (case hc_Lot_fee => k_is)
    (case hk_Lot_fee => k_is)
    (case ha_Lot_net => k_is)
    (case hi_Lot_net => k_is)
    (case hl_Lot_net => k_is)
    (case hc_Lot_net => k_is)
    (case hk_Lot_net => k_is)
    (case ha_Lot_scaled => k_is)
    (case hi_Lot_scaled => k_is)
    (case hl_Lot_scaled => k_is)
    (case hc_Lot_scaled => k_is)
    (case hk_Lot_scaled => k_is)
    (case ha_Lot_part => k_is)
    (case hi_Lot_part => k_is)
    (case hl_Lot_part => k_is)
    (case hc_Lot_part => k_is)
    (case hk_Lot_part => k_is)
    (case ha_Lot_rest => k_is)
    (case hi_Lot_rest => k_is)
    (case hl_Lot_rest => k_is)
    (case hc_Lot_rest => k_is)
    (case hk_Lot_rest => k_is)
    (case ha_plus => k_is)
    (case hl_plus => k_is)
    (case hc_plus => k_is)
    (case hk_plus => k_is)
    (case ha_over => k_is)
    (case hl_over => k_is)
    (case hc_over => k_is)
    (case hk_over => k_is)
    (case ha_Lot_standing => k_is)
    (case hi_Lot_standing => k_is)
    (case hl_Lot_standing => k_is)
    (case hc_Lot_standing => k_is)
    (case hk_Lot_standing => k_is)
    (case ha_in_standing_order => k_is)
    (case hl_in_standing_order => k_is)
    (case hc_in_standing_order => k_is)
    (case hk_in_standing_order => k_is)
    (case ha_joined => k_is)
    (case hl_joined => k_is)
    (case hc_joined => k_is)
    (case hk_joined => k_is)
    (case ha__law_bag => k_is)
    (case hl__law_bag => k_is)
    (case hc__law_bag => k_is)
    (case hk__law_bag => k_is)
    (case ha__law_pull => k_is)
    (case hl__law_pull => k_is)
    (case hc__law_pull => k_is)
    (case hk__law_pull => k_is)
    (case ha__law_low => k_is)
    (case hl__law_low => k_is)
    (case hc__law_low => k_is)
    (case hk__law_low => k_is)
    (case ha__law_wide => k_is)
    (case hl__law_wide => k_is)
    (case hc__law_wide => k_is)
    (case hk__law_wide => k_is)
    (case ha__law_factor => k_is)
    (case hl__law_factor => k_is)
    (case hc__law_factor => k_is)
    (case hk__law_factor => k_is)
    (case ha__law_mul => k_is)
    (case hl__law_mul => k_is)
    (case hc__law_mul => k_is)
    (case hk__law_mul => k_is)
    (case ha__law_lotpair => k_is)
    (case hl__law_lotpair => k_is)
    (case hc__law_lotpair => k_is)
    (case hk__law_lotpair => k_is)
    (case ha__law_tax => k_is)
    (case hl__law_tax => k_is)
    (case hc__law_tax => k_is)
    (case hk__law_tax => k_is)
    (case ha__law_add => k_is)
    (case hl__law_add => k_is)
    (case hc__law_add => k_is)
    (case hk__law_add => k_is)
    (case ha__law_sum => k_is)
    (case hl__law_sum => k_is)
    (case hc__law_sum => k_is)
    (case hk__law_sum => k_is)
    (case ha_Lot_harvested => k_is)
    (case hi_Lot_harvested => k_is)
    (case hl_Lot_harvested => k_is)
    (case hc_Lot_harvested => k_is)
    (case hk_Lot_harvested => k_is)
    (case ha_Lot_grown => k_is)
    (case hi_Lot_grown => k_is)
    (case hl_Lot_grown => k_is)
    (case hc_Lot_grown => k_is)
    (case hk_Lot_grown => k_is)
    (case ha_Lot_raised => k_is)
    (case hi_Lot_raised => k_is)
    (case hl_Lot_raised => k_is)
    (case hc_Lot_raised => k_is)
    (case hk_Lot_raised => k_is)
    (case ha__law_turned => k_is)
    (case hl__law_turned => k_is)
    (case hc__law_turned => k_is)
    (case hk__law_turned => k_is)
    (case ha_law => k_is)
    (case hl_law => k_is)
    (case hc_law => k_is)
    (case hk_law => k_is)
    (case hpg_Lot => k_is)
    (case hhd_Lot => k_is)
    (case hpo_Lot => k_is)
    (case hsa_Lot => k_is)
    (case hmk_Lot => k_is)
    (case hkc_Lot => k_is)
    (case hna_Lot_worth => k_is)
    (case hna_Lot_mark => k_is)
#print axioms PySem.Challenge.cw_crestpool_k21_whole_parted_pays_alike_holds
