import PyProof.Rows.All
import Wide.All
import OpenK.AllK
import Wide.FinOn
import HandS.ForMost
import HandS.ForExc
import HandS.Wide
import HandS.IsInst
import HandS.Defaults
import HandS.ExcIs
import HandS.ExcBuiltin
import HandS.Flow
import HandS.Style
import HandS.MakeKwOnly
import HandS.Comp
import HandS.Deep
import HandS.More
import KE.KDictCopyH
import HandS.Sort
import HandS.Conv
import HandS.TupAny
import HandS.OwnEq
import HandS.CallLocal
import HandS.Strs
import HandS.SetKeys
import HandS.SetBool
import KE.GoesEnum
import KE.KUnpackStar
import KE.SortData
import HandS.ExcInit
import HandS.ExcField
import HandS.ExcValue
import KE.KExcInit
import KE.KExcIs
import HandS.Nested
import KE.SortKeyHeap
import KE.KLam
import KE.KNestM
import HandS.EndTab
import HandS.DictComp
import HandS.DictTup
import HandS.WordsDict
import HandS.IntHex
import PyProof.ReprRoads
import KE.DataFind
import HandS.FStr
import HandS.Text
import HandS.Iter
import HandS.RaiseMore
import HandS.Head0
import HandS.Head1
import HandS.Head2
import HandS.HeadEnd
import HandS.HeadHook1
import HandS.HeadHook2
import HandS.HeadHook3
import HandS.HeadHook4
import HandS.HeadWalk
import PySem.Challenge.RW_crestpool_k47_entering
set_option Elab.async false
set_option linter.all false
set_option maxRecDepth 100000
set_option maxHeartbeats 4000000
namespace CrT
open PySem PySem.W PySem.Calls PyProof.Rows
abbrev R : OpenRow := OpenLaw.row PySem.Challenge.rw_crestpool_k47_entering
abbrev qv : Program := view R.prog [86]
def names_0 : List PySem.Str := ["_wall", "PoolError", "BadEntry", "BadDay", "BadName", "Twice", "Full", "Early", "NoEntry", "NoTurn", "ByNought", "LAST", "WHOLE", "MOST_PRICE", "MOST_SUM", "LETTERS", "is_name", "is_whole", "is_day", "is_price", "is_sum", "is_parts", "is_rate", "is_levy", "is_pair", "is_pairs", "FORMS", "SLOTS", "checked", "slot"]
def names_1 : List PySem.Str := ["by_day", "in_order", "shown", "page", "NOUGHT", "ONE", "lowest", "plus", "minus", "times", "over", "less", "floor", "added", "Till", "goings", "draws", "comings", "gifts_of", "given_by", "needed", "Lot", "in_standing_order", "joined", "Day", "Course", "planned", "Piece", "Pool", "walked"]
def names_2 : List PySem.Str := ["MOST", "KEEPER", "Book", "_law_slot", "_law_bag", "_law_pull", "_law_name", "_law_names", "_law_wide", "_law_pennies", "_law_price", "_law_pairs", "_law_entry", "_law_try", "_law_due"]
def names : List PySem.Str := names_0 ++ names_1 ++ names_2
set_option maxHeartbeats 0 in
theorem head {H : Hook} {ob : SharedT → H.α} {M : Nat} (ho : ∀ s : SharedT, ob s = H.obs s.abs) (run : ∀ w, HandSHeadRun.RunEq R qv H ob M names w)
    (hc : WalkO qv names (XL qv []) H.says R.toRowW (HandSHeadRun.topDef R.prog 86) [] fun f vs => PySem.call f vs) : PySem.Challenge.rw_crestpool_k47_entering.Holds := by
  w_on; o_law
  refine HandSHeadRun.head_any (r := R) (q := qv) (H := H) (ob := ob) (M := M) (loose := names) (d := HandSHeadRun.topDef R.prog 86) (kwd := []) ho (by kernel_rfl) (fun s => by kernel_rfl) run (by kernel_rfl) (by kernel_rfl) (by kernel_rfl) (by rfl) (by first | assumption | decide +kernel) (by decide +kernel) ⟨rfl, rfl, rfl, rfl, rfl, by decide +kernel⟩ ?hw hc
  case hw => w_witness2
end CrT
namespace Cr
/-- a fraction's numbers are below 2 ^ n -/
def Sz (n : Nat) (r : Rat) : Prop := r.num.natAbs < 2 ^ n ∧ r.den < 2 ^ n
theorem Sz.mono {n m : Nat} {r : Rat} (h : Sz n r) (k : n ≤ m) : Sz m r :=
  have e : 2 ^ n ≤ 2 ^ m := Nat.pow_le_pow_right (by decide) k
  ⟨Nat.lt_of_lt_of_le h.1 e, Nat.lt_of_lt_of_le h.2 e⟩
theorem lt_two {a n : Nat} (h : a < 2 ^ n) {b m : Nat} (k : b < 2 ^ m) : a * b < 2 ^ (n + m) := by
  rw [Nat.pow_add]; exact Nat.mul_lt_mul'' h k
/-- the numbers of a quotient in lowest terms are no greater -/
theorem divInt_num_le (t b : Int) (hb : b ≠ 0) : (Rat.divInt t b).num.natAbs ≤ t.natAbs := by
  rw [Rat.num_divInt, Int.natAbs_ediv_of_dvd]
  · refine Nat.le_trans (Nat.div_le_self _ _) ?_
    rw [Int.natAbs_mul, Int.natAbs_sign, if_neg hb, Nat.one_mul]
    exact Nat.le_refl _
  · exact Int.dvd_trans (Int.gcd_dvd_right _ _) (Int.dvd_mul_left _ _)
theorem divInt_den_le (t b : Int) (hb : b ≠ 0) : (Rat.divInt t b).den ≤ b.natAbs := by
  rw [Rat.den_divInt, if_neg hb]
  exact Nat.div_le_self _ _
theorem divInt_sz {t b : Int} {n : Nat} (hb : b ≠ 0) (h1 : t.natAbs < 2 ^ n) (h2 : b.natAbs < 2 ^ n) : Sz n (Rat.divInt t b) :=
  ⟨Nat.lt_of_le_of_lt (divInt_num_le t b hb) h1, Nat.lt_of_le_of_lt (divInt_den_le t b hb) h2⟩
theorem rat_add (r s : Rat) : Rat.divInt (r.num * s.den + s.num * r.den) (r.den * s.den) = r + s := by
  have h1 : (r.den : Int) ≠ 0 := by have := r.den_pos; omega
  have h2 : (s.den : Int) ≠ 0 := by have := s.den_pos; omega
  rw [← Rat.divInt_add_divInt _ _ h1 h2, Rat.num_divInt_den, Rat.num_divInt_den]
theorem rat_sub (r s : Rat) : Rat.divInt (r.num * s.den - s.num * r.den) (r.den * s.den) = r - s := by
  have e := rat_add r (-s)
  rw [Rat.neg_num, Rat.neg_den] at e
  rw [Rat.sub_eq_add_neg, ← e, Int.neg_mul, Int.sub_eq_add_neg]
theorem rat_mul (r s : Rat) : Rat.divInt (r.num * s.num) (r.den * s.den) = r * s := by
  rw [← Rat.divInt_mul_divInt, Rat.num_divInt_den, Rat.num_divInt_den]
theorem den_ne (r : Rat) : (r.den : Int) ≠ 0 := by have := r.den_pos; omega
theorem natAbs_lt_mul {a b : Int} {n m : Nat} (h : a.natAbs < 2 ^ n) (k : b.natAbs < 2 ^ m) : (a * b).natAbs < 2 ^ (n + m) := by
  rw [Int.natAbs_mul]; exact lt_two h k
theorem natAbs_lt_add {a b : Int} {n : Nat} (h : a.natAbs < 2 ^ n) (k : b.natAbs < 2 ^ n) : (a + b).natAbs < 2 ^ (n + 1) := by
  have := Int.natAbs_add_le a b
  rw [Nat.pow_succ]; omega
theorem natAbs_lt_sub {a b : Int} {n : Nat} (h : a.natAbs < 2 ^ n) (k : b.natAbs < 2 ^ n) : (a - b).natAbs < 2 ^ (n + 1) := by
  have := Int.natAbs_add_le a (-b)
  rw [Int.natAbs_neg] at this
  rw [Int.sub_eq_add_neg, Nat.pow_succ]; omega
theorem sz0 : Sz 4000 0 := by unfold Sz; exact ⟨Nat.pow_pos (by decide), Nat.one_lt_two_pow (by decide)⟩
theorem Sz.dA {n : Nat} {r : Rat} (h : Sz n r) : (r.den : Int).natAbs < 2 ^ n := by rw [Int.natAbs_natCast]; exact h.2
theorem pw_le {a n m : Nat} (h : a < 2 ^ n) (k : n ≤ m) : a < 2 ^ m := Nat.lt_of_lt_of_le h (Nat.pow_le_pow_right (by decide) k)
theorem Sz.add {n m : Nat} {r s : Rat} (h : Sz n r) (k : Sz m s) : Sz (n + m + 1) (r + s) := by
  rw [← rat_add]
  refine divInt_sz ?_ ?_ ?_
  · exact Int.mul_ne_zero (den_ne r) (den_ne s)
  · refine natAbs_lt_add (natAbs_lt_mul h.1 k.dA) ?_
    rw [Nat.add_comm]
    exact natAbs_lt_mul k.1 h.dA
  · exact pw_le (natAbs_lt_mul h.dA k.dA) (by omega)
theorem Sz.sub {n m : Nat} {r s : Rat} (h : Sz n r) (k : Sz m s) : Sz (n + m + 1) (r - s) := by
  rw [← rat_sub]
  refine divInt_sz ?_ ?_ ?_
  · exact Int.mul_ne_zero (den_ne r) (den_ne s)
  · refine natAbs_lt_sub (natAbs_lt_mul h.1 k.dA) ?_
    rw [Nat.add_comm]
    exact natAbs_lt_mul k.1 h.dA
  · exact pw_le (natAbs_lt_mul h.dA k.dA) (by omega)
theorem Sz.mul {n m : Nat} {r s : Rat} (h : Sz n r) (k : Sz m s) : Sz (n + m) (r * s) := by
  rw [← rat_mul]
  refine divInt_sz ?_ ?_ ?_
  · exact Int.mul_ne_zero (den_ne r) (den_ne s)
  · exact natAbs_lt_mul h.1 k.1
  · exact natAbs_lt_mul h.dA k.dA
theorem Sz.neg {n : Nat} {r : Rat} (h : Sz n r) : Sz n (-r) := by
  unfold Sz; rw [Rat.neg_num, Rat.neg_den, Int.natAbs_neg]; exact h
theorem num_ne {s : Rat} (h : s ≠ 0) : s.num ≠ 0 := fun e => h (Rat.num_eq_zero.mp e)
theorem rat_div (r s : Rat) : Rat.divInt (r.num * s.den) (r.den * s.num) = r / s := by
  rw [Rat.div_def, ← Rat.num_divInt_den s, Rat.inv_divInt, ← Rat.divInt_mul_divInt, Rat.num_divInt_den]
  rw [Rat.num_divInt_den]
theorem Sz.div {n m : Nat} {r s : Rat} (h : Sz n r) (k : Sz m s) (h0 : s ≠ 0) : Sz (n + m) (r / s) := by
  rw [← rat_div]
  refine divInt_sz ?_ ?_ ?_
  · exact Int.mul_ne_zero (den_ne r) (num_ne h0)
  · exact natAbs_lt_mul h.1 k.dA
  · exact natAbs_lt_mul h.dA k.1
/-- what the two lowest-terms loops end with -/
def lowG (t b : Int) : Int := if b < 0 then -((Nat.gcd t.natAbs b.natAbs : Nat) : Int) else ((Nat.gcd t.natAbs b.natAbs : Nat) : Int)
theorem gcd_pos {t b : Int} (hb : b ≠ 0) : 0 < Nat.gcd t.natAbs b.natAbs := Nat.gcd_pos_of_pos_right _ (by omega)
theorem low_num {t b : Int} (hb : b ≠ 0) : t.fdiv (lowG t b) = (Rat.divInt t b).num := by
  have hg := gcd_pos (t := t) hb
  have hd : ((Nat.gcd t.natAbs b.natAbs : Nat) : Int) ∣ t := by
    have := Int.gcd_dvd_left t b
    exact this
  have e : Int.gcd b t = Nat.gcd t.natAbs b.natAbs := by show Nat.gcd b.natAbs t.natAbs = _; exact Nat.gcd_comm _ _
  rw [Rat.num_divInt, e]
  unfold lowG
  obtain ⟨k, hk⟩ := hd
  generalize hgg : Nat.gcd t.natAbs b.natAbs = g at *
  by_cases h : b < 0
  · rw [if_pos h, Int.sign_eq_neg_one_of_neg h, hk]
    rw [Int.fdiv_eq_ediv_of_dvd (by rw [Int.neg_dvd]; exact Int.dvd_mul_right _ _)]
    rw [Int.ediv_neg, Int.mul_ediv_cancel_left _ (by omega)]
    rw [show (-1 : Int) * (↑g * k) = ↑g * (-k) by rw [Int.mul_neg]; omega, Int.mul_ediv_cancel_left _ (by omega)]
  · rw [if_neg h, Int.sign_eq_one_of_pos (by omega), hk]
    rw [Int.fdiv_eq_ediv_of_dvd (Int.dvd_mul_right _ _), Int.one_mul]
theorem low_den {t b : Int} (hb : b ≠ 0) : b.fdiv (lowG t b) = ((Rat.divInt t b).den : Int) := by
  have hg := gcd_pos (t := t) hb
  have hd : ((Nat.gcd t.natAbs b.natAbs : Nat) : Int) ∣ b := by
    have := Int.gcd_dvd_right t b
    exact this
  have e : Int.gcd b t = Nat.gcd t.natAbs b.natAbs := by show Nat.gcd b.natAbs t.natAbs = _; exact Nat.gcd_comm _ _
  rw [Rat.den_divInt, if_neg hb, e]
  unfold lowG
  obtain ⟨k, hk⟩ := hd
  generalize hgg : Nat.gcd t.natAbs b.natAbs = g at *
  have ea : b.natAbs = g * k.natAbs := by rw [hk, Int.natAbs_mul, Int.natAbs_natCast]
  rw [ea, Nat.mul_div_cancel_left _ hg]
  by_cases h : b < 0
  · rw [if_pos h, hk]
    rw [Int.fdiv_eq_ediv_of_dvd (by rw [Int.neg_dvd]; exact Int.dvd_mul_right _ _)]
    rw [Int.ediv_neg, Int.mul_ediv_cancel_left _ (by omega)]
    have : k < 0 := by
      rcases Int.lt_or_le k 0 with q | q
      · exact q
      · exfalso; have := Int.mul_nonneg (show (0 : Int) ≤ g by omega) q; omega
    omega
  · rw [if_neg h, hk]
    rw [Int.fdiv_eq_ediv_of_dvd (Int.dvd_mul_right _ _), Int.mul_ediv_cancel_left _ (by omega)]
    have : 0 ≤ k := by
      rcases Int.lt_or_le k 0 with q | q
      · exfalso
        have := Int.mul_neg_of_pos_of_neg (show (0 : Int) < g by omega) q; omega
      · exact q
    omega
/-- one turn of the loop -/
theorem gcd_turn (a b : Nat) : Nat.gcd b (a % b) = Nat.gcd a b := by
  rw [Nat.gcd_comm a b, Nat.gcd_rec b a, Nat.gcd_comm]
end Cr
namespace Cr
/-- sums of fractions -/
theorem foldl_add (a : Rat) (rs : List Rat) : rs.foldl (· + ·) a = rs.foldl (· + ·) 0 + a := by
  induction rs generalizing a with
  | nil => show a = 0 + a; grind
  | cons r rs ih =>
    rw [List.foldl_cons, List.foldl_cons, ih (a + r), ih (0 + r)]
    grind
theorem foldl_rev (rs : List Rat) : rs.reverse.foldl (· + ·) 0 = rs.foldl (· + ·) 0 := by
  induction rs with
  | nil => rfl
  | cons r rs ih =>
    rw [List.reverse_cons, List.foldl_append, ih, List.foldl_cons, List.foldl_cons, List.foldl_nil, foldl_add (0 + r)]
    grind
theorem foldl_sz {n m : Nat} (rs : List Rat) (h : ∀ r, r ∈ rs → Sz n r) (a : Rat) (ha : Sz m a) : Sz (m + (n + 1) * rs.length) (rs.foldl (· + ·) a) := by
  induction rs generalizing a m with
  | nil => exact ha.mono (by simp)
  | cons r rs ih =>
    rw [List.foldl_cons]
    refine (ih (fun x hx => h x (List.mem_cons_of_mem _ hx)) (a + r) (ha.add (h r List.mem_cons_self))).mono ?_
    rw [List.length_cons, Nat.mul_add]
    omega
end Cr
namespace Cr
theorem divInt_pos {t b : Int} (h : 0 < t) (k : 0 < b) : 0 < Rat.divInt t b := by
  rw [Rat.divInt_eq_div, Rat.div_def]
  exact Rat.mul_pos (by exact_mod_cast h) (Rat.inv_pos.mpr (by exact_mod_cast k))
/-- the fee in a lot -/
def feeR (w m : Rat) (rate : Int) : Rat := if m < w then (w - m) * Rat.divInt rate 10000 else 0
theorem sz1 {n : Nat} (h : 0 < n) : Sz n 0 := by unfold Sz; exact ⟨Nat.pow_pos (by decide), Nat.one_lt_two_pow (by omega)⟩
theorem feeR_sz {n : Nat} {w m : Rat} {rate : Int} (h : Sz n w) (k : Sz n m) (r0 : 0 ≤ rate) (r1 : rate ≤ 10000) : Sz (2 * n + 65) (feeR w m rate) := by
  unfold feeR
  split
  · exact ((h.sub k).mul (divInt_sz (n := 64) (by decide) (by omega) (by omega))).mono (by omega)
  · exact sz1 (by omega)
end Cr

namespace Cr
/-- the fee in a part of a lot -/
theorem feeR_part {w m r : Rat} {i : Int} (h : 0 < r) : feeR (w * r) (m * r) i = feeR w m i * r := by
  unfold feeR
  by_cases c : m < w
  · rw [if_pos c, if_pos (Rat.mul_lt_mul_of_pos_right c h)]
    grind
  · rw [if_neg c, if_neg (fun z => c ((Rat.mul_lt_mul_right h).mp z))]
    grind
theorem cents {i : Int} : Rat.divInt i 10000 + Rat.divInt (10000 - i) 10000 = 1 := by
  rw [Rat.divInt_eq_div, Rat.divInt_eq_div]
  push_cast
  grind
end Cr
namespace Cr
/-- top and bottom bounded apart -/
def Sz2 (n d : Nat) (r : Rat) : Prop := r.num.natAbs < 2 ^ n ∧ r.den < 2 ^ d
theorem Sz2.mono {n d n' d' : Nat} {r : Rat} (h : Sz2 n d r) (k : n ≤ n') (k' : d ≤ d') : Sz2 n' d' r := ⟨pw_le h.1 k, pw_le h.2 k'⟩
theorem Sz2.sz {n d m : Nat} {r : Rat} (h : Sz2 n d r) (k : n ≤ m) (k' : d ≤ m) : Sz m r := ⟨pw_le h.1 k, pw_le h.2 k'⟩
theorem Sz2.add {n d m e : Nat} {r s : Rat} (h : Sz2 n d r) (k : Sz2 m e s) {x : Nat} (h1 : n + e ≤ x) (h2 : m + d ≤ x) : Sz2 (x + 1) (d + e) (r + s) := by
  rw [← rat_add]
  have hb : (r.den : Int) * s.den ≠ 0 := Int.mul_ne_zero (den_ne r) (den_ne s)
  have ad : (r.den : Int).natAbs < 2 ^ d := by rw [Int.natAbs_natCast]; exact h.2
  have bd : (s.den : Int).natAbs < 2 ^ e := by rw [Int.natAbs_natCast]; exact k.2
  refine ⟨Nat.lt_of_le_of_lt (divInt_num_le _ _ hb) (natAbs_lt_add (pw_le (natAbs_lt_mul h.1 bd) h1) (pw_le (natAbs_lt_mul k.1 ad) h2)), Nat.lt_of_le_of_lt (divInt_den_le _ _ hb) (natAbs_lt_mul ad bd)⟩
theorem Sz2.toSz {n d : Nat} {r : Rat} (h : Sz2 n d r) : Sz (n + d) r := h.sz (Nat.le_add_right _ _) (Nat.le_add_left _ _)
theorem Sz2.mul {n d m e : Nat} {r s : Rat} (h : Sz2 n d r) (k : Sz2 m e s) : Sz2 (n + m) (d + e) (r * s) := by
  rw [← rat_mul]
  have hb : (r.den : Int) * s.den ≠ 0 := Int.mul_ne_zero (den_ne r) (den_ne s)
  have ad : (r.den : Int).natAbs < 2 ^ d := by rw [Int.natAbs_natCast]; exact h.2
  have bd : (s.den : Int).natAbs < 2 ^ e := by rw [Int.natAbs_natCast]; exact k.2
  exact ⟨Nat.lt_of_le_of_lt (divInt_num_le _ _ hb) (natAbs_lt_mul h.1 k.1), Nat.lt_of_le_of_lt (divInt_den_le _ _ hb) (natAbs_lt_mul ad bd)⟩
theorem divInt_sz2 {t b : Int} {n d : Nat} (hb : b ≠ 0) (h1 : t.natAbs < 2 ^ n) (h2 : b.natAbs < 2 ^ d) : Sz2 n d (Rat.divInt t b) :=
  ⟨Nat.lt_of_le_of_lt (divInt_num_le t b hb) h1, Nat.lt_of_le_of_lt (divInt_den_le t b hb) h2⟩
end Cr

namespace Cr
open PySem PySem.Spec PyProof.Rows L2
abbrev St := L2.St

/-! ### rules that take any of several kinds -/
theorem opR_or {X : Cx} {f : Value → Value → Sem Value} {r1 r2 : R2} (h1 : OpR X f r1) (h2 : OpR X f r2) : OpR X f (fun x y H Q => r1 x y H Q ∨ r2 x y H Q) := by
  intro pins s σ H x y v u Q I rx ry h
  rcases h with h | h
  · exact h1 pins s σ H x y v u Q I rx ry h
  · exact h2 pins s σ H x y v u Q I rx ry h
def CDivZ (_ j : Int) : Prop := j ≠ 0 ∧ j.natAbs.log2 < 9000
def CMulZ (i j : Int) : Prop := CMul i j ∨ CMulW i j
def rAddI : R2 := rI0 fun i j => .int (i + j)
def rAddS : R2 := fun x y H Q => ∃ i j, x = .str i ∧ y = .str j ∧ i.length + j.length ≤ sizeLine ∧ Q (.str (i ++ j)) H
def rAddU (K : PySem.W.Frag) : R2 := fun x y H Q => rAddI x y H Q ∨ rAddS x y H Q ∨ rCat x y H Q ∨ rCatT K x y H Q
def rSubU : R2 := rI0 fun i j => .int (i - j)
def rMulI : R2 := rI CMulZ fun i j => .int (i * j)
def rMulU : R2 := fun x y H Q => rMulI x y H Q ∨ rRep x y H Q
def rDivU : R2 := rI CDivZ fun i j => .int (i.fdiv j)
def rModU : R2 := rI (fun _ j => j ≠ 0) fun i j => .int (i.fmod j)
def rPowU : R2 := rI CPow fun i j => .int (i ^ j.toNat)
def rLtI : R2 := rI0 fun i j => .bl (decide (i < j))
def rLeI : R2 := rI0 fun i j => .bl (decide (i ≤ j))
def rGtI : R2 := rI0 fun i j => .bl (decide (j < i))
def rGeI : R2 := rI0 fun i j => .bl (decide (j ≤ i))
def rLenU (K : PySem.W.Frag) : List V → Hp → VK → Prop := fun xs H Q => ∃ x n, xs = [x] ∧ LenV K x H n ∧ Q (.int n) H
def rAbsU : List V → Hp → VK → Prop := fun xs H Q => ∃ i, xs = [.int i] ∧ Q (.int (if i < 0 then -i else i)) H
def rMaxU : List V → Hp → VK → Prop := fun xs H Q => ∃ i j, xs = [.int i, .int j] ∧ Q (.int (if j > i then j else i)) H
def rMinU : List V → Hp → VK → Prop := fun xs H Q => ∃ i j, xs = [.int i, .int j] ∧ Q (.int (if j < i then j else i)) H
def rListU (K : PySem.W.Frag) : List V → Hp → VK → Prop := fun xs H Q => ∃ p ys, xs = [.ref p] ∧ (SqL K H p ys ∨ SqT K H p ys) ∧ ∀ l, H l = none → Q (.ref l) (upd H l (.lst ys))
def rTupU (K : PySem.W.Frag) : List V → Hp → VK → Prop := fun xs H Q => ∃ p ys, xs = [.ref p] ∧ ((SqL K H p ys ∧ ∀ l, H l = none → Q (.ref l) (upd H l (.tup ys))) ∨ (SqT K H p ys ∧ Q (.ref p) H))
def rSlU (K : PySem.W.Frag) : V → Option Int → Option Int → Hp → VK → Prop := fun x lo hi H Q => rSlL K x lo hi H Q ∨ rSlT K x lo hi H Q
def rNegU : V → Hp → VK → Prop := rU fun i => .int (-i)
section
variable {X : Cx}
theorem op_addU : OpR X (binaryOp .Add) (rAddU X.K) := opR_or op_add (opR_or op_add_str (opR_or op_cat op_catT))
theorem op_subU : OpR X (binaryOp .Sub) rSubU := op_sub
theorem op_mulI : OpR X (binaryOp .Mult) rMulI := opI fun _ _ _ _ _ _ _ hc q => mul_int q (hc.elim CMul.ok CMulW.ok)
theorem op_mulU : OpR X (binaryOp .Mult) rMulU := opR_or op_mulI op_rep
theorem op_divU : OpR X (binaryOp .FloorDiv) rDivU := opI fun _ _ _ _ _ _ _ hc q => floordiv_int hc.1 q (.inl (PyProof.noPylong_of_log2 hc.2))
theorem op_modU : OpR X (binaryOp .Mod) rModU := op_modN
theorem op_powU : OpR X (binaryOp .Pow) rPowU := op_pow
theorem op_ltI : OpR X (compareOp .Lt) rLtI := op_lt
theorem op_leI : OpR X (compareOp .LtE) rLeI := op_le
theorem op_gtI : OpR X (compareOp .Gt) rGtI := op_gt
theorem op_geI : OpR X (compareOp .GtE) rGeI := op_ge
theorem call_lenU : CallR X (.builtin "len") (rLenU X.K) := call_len
theorem call_absU : CallR X (.builtin "abs") rAbsU := call_abs
theorem call_maxU (hc : X.calm = true) : CallR X (.builtin "max") rMaxU := call_max2 hc
theorem call_minU (hc : X.calm = true) : CallR X (.builtin "min") rMinU := call_min2 hc
theorem call_listU : CallR X (.type "list") (rListU X.K) := call_list_of
theorem call_tupU : CallR X (.type "tuple") (rTupU X.K) := call_tuple_of
theorem sl_seqU : SlR X (rSlU X.K) := SlR.or sl_list sl_tup
theorem un_negU : UnR X (unaryOp .USub) rNegU := un_neg
end
def tTruU (K : PySem.W.Frag) (ta : TE) : TT := fun σ H Q => ta σ H fun x H' => ∃ k, TruV K x H' k ∧ Q k H'
theorem pt_tru {X : Cx} {a : Expr} {ta : TE} (ha : PE X a ta) (he : ∀ whole, isTrue a X.env whole = (do let v ← whole; standAt a.pos; holding [v] (truthy v)) := by intro _; rfl) : PT X a (tTruU X.K ta) := pt_truth ha he

/-! ### heaps -/
def isT : HO → Bool
  | .tup _ => true
  | .frz _ (.tup _) => true
  | _ => false
/-- tuples stay -/
def KT (H H' : Hp) : Prop := ∀ a o, H a = some o → isT o = true → H' a = some o
theorem KT.refl (H : Hp) : KT H H := fun _ _ h _ => h
theorem KT.trans {H H1 H2 : Hp} (a : KT H H1) (b : KT H1 H2) : KT H H2 := fun x o h t => b x o (a x o h t) t
theorem kt_same {H H' : Hp} (s : Same H H') : KT H H' := fun a o h _ => s a o h
theorem kt_new {H : Hp} {p : Addr} {o : HO} (h : H p = none) : KT H (upd H p o) := fun a u e _ => by rw [upd_ne (ne_of_none e h)]; exact e
theorem kt_mut {H : Hp} {p : Addr} {o o' : HO} (h : H p = some o) (t : isT o = false) : KT H (upd H p o') := fun a u e k => by
  rw [upd_ne (fun z => by subst z; rw [h] at e; cases e; rw [t] at k; cases k)]; exact e
theorem ne_on {H : Hp} {a b : Addr} {o : HO} (h' : H b = none) (h : H a = some o) : a ≠ b := ne_of_none h h'
theorem at_same {H H' : Hp} {a : Addr} {o : HO} (s : Same H H') (h : H a = some o) : H' a = some o := s a o h
theorem free_on {H H' : Hp} {l : Addr} (h : H' l = none) (e : Same H H') : H l = none := e.free h
theorem same_new {H : Hp} {p : Addr} {o : HO} (h : H p = none) : Same H (upd H p o) := fun a u e => by rw [upd_ne (ne_of_none e h)]; exact e
/-- what H0 knows stays where an object that H0 does not know is changed -/
theorem same_mut {H0 H : Hp} {p : Addr} {o : HO} (s : Same H0 H) (h : H0 p = none) : Same H0 (upd H p o) := fun a u e => by rw [upd_ne (ne_of_none e h)]; exact s a u e
/-- all but what stands at b stays; a list stands at b -/
structure But (b : Addr) (H H' : Hp) : Prop where
  oth : ∀ a o, a ≠ b → H a = some o → H' a = some o
  lst : ∃ xs, H b = some (.lst xs)
theorem kt_but {b : Addr} {H H' : Hp} (s : But b H H') : KT H H' := fun a o h t => s.oth a o (fun z => by subst z; obtain ⟨xs, e⟩ := s.lst; rw [e] at h; cases h; cases t) h
theorem sqT_kt {K : PySem.W.Frag} {H H' : Hp} {a : Addr} {xs : List V} (k : KT H H') (h : SqT K H a xs) : SqT K H' a xs := by
  rcases h with (h | ⟨o, h⟩) | h
  · exact .inl (.inl (k _ _ h rfl))
  · exact .inl (.inr ⟨o, k _ _ h rfl⟩)
  · exact .inr h

/-! ### data of tuples, ints, texts, truths, None -/
mutual
inductive Dt (K : PySem.W.Frag) (H : Hp) : V → PyData → Prop
  | non : Dt K H .non .none
  | bl (b : Bool) : Dt K H (.bl b) (.bool b)
  | int (i : Int) : Dt K H (.int i) (.int i)
  | str (x : Str) : Dt K H (.str x) (.str x)
  | tup {a : Addr} {xs : List V} {ds : List PyData} : SqT K H a xs → DtAll K H xs ds → Dt K H (.ref a) (.tuple ds)
inductive DtAll (K : PySem.W.Frag) (H : Hp) : List V → List PyData → Prop
  | nil : DtAll K H [] []
  | cons {v : V} {vs : List V} {d : PyData} {ds : List PyData} : Dt K H v d → DtAll K H vs ds → DtAll K H (v :: vs) (d :: ds)
end
section
variable {K : PySem.W.Frag} {H H' : Hp}
mutual
theorem Dt.mono (k : KT H H') : ∀ {v : V} {d : PyData}, Dt K H v d → Dt K H' v d
  | _, _, .non => .non
  | _, _, .bl b => .bl b
  | _, _, .int i => .int i
  | _, _, .str x => .str x
  | _, _, .tup h a => .tup (sqT_kt k h) (DtAll.mono k a)
theorem DtAll.mono (k : KT H H') : ∀ {vs : List V} {ds : List PyData}, DtAll K H vs ds → DtAll K H' vs ds
  | _, _, .nil => .nil
  | _, _, .cons h a => .cons (Dt.mono k h) (DtAll.mono k a)
end
mutual
theorem Dt.dp : ∀ {v : V} {d : PyData}, Dt K H v d → Dp K H v d
  | _, _, .non => .non
  | _, _, .bl b => .bl b
  | _, _, .int i => .int i
  | _, _, .str x => .str x
  | _, _, .tup h a => .tup h (DtAll.dp a)
theorem DtAll.dp : ∀ {vs : List V} {ds : List PyData}, DtAll K H vs ds → DpAll K H vs ds
  | _, _, .nil => .nil
  | _, _, .cons h a => .cons (Dt.dp h) (DtAll.dp a)
end
theorem Dt.int_eq {v : V} {i : Int} (h : Dt K H v (.int i)) : v = .int i := by cases h; rfl
theorem Dt.bl_eq {v : V} {i : Bool} (h : Dt K H v (.bool i)) : v = .bl i := by cases h; rfl
theorem Dt.str_eq {v : V} {i : Str} (h : Dt K H v (.str i)) : v = .str i := by cases h; rfl
theorem Dt.tup_inv {v : V} {ds : List PyData} (h : Dt K H v (.tuple ds)) : ∃ a xs, v = .ref a ∧ SqT K H a xs ∧ DtAll K H xs ds := by
  cases h with
  | tup h a => exact ⟨_, _, rfl, h, a⟩
theorem DtAll.len {vs : List V} {ds : List PyData} (h : DtAll K H vs ds) : vs.length = ds.length := by
  induction ds generalizing vs with
  | nil => cases h; rfl
  | cons d ds ih => cases h with | cons h a => exact congrArg Nat.succ (ih a)
theorem DtAll.get {vs : List V} {ds : List PyData} (h : DtAll K H vs ds) {i : Nat} {d : PyData} (e : ds[i]? = some d) : ∃ v, vs[i]? = some v ∧ Dt K H v d := by
  induction ds generalizing vs i with
  | nil => cases e
  | cons d' ds ih =>
    cases h with
    | cons h a =>
      cases i with
      | zero => cases e; exact ⟨_, rfl, h⟩
      | succ i => obtain ⟨v, e1, e2⟩ := ih a e; exact ⟨v, e1, e2⟩
theorem DtAll.append {vs ws : List V} {ds es : List PyData} (h : DtAll K H vs ds) (h2 : DtAll K H ws es) : DtAll K H (vs ++ ws) (ds ++ es) := by
  induction ds generalizing vs with
  | nil => cases h; exact h2
  | cons d ds ih => cases h with | cons h a => exact .cons h (ih a)
theorem dt_new {p : Addr} {xs : List V} {ds : List PyData} (h : DtAll K H xs ds) (n : H p = none) : Dt K (upd H p (.tup xs)) (.ref p) (.tuple ds) :=
  .tup (.inl (.inl upd_same)) (h.mono (kt_new n))
/-- a fraction -/
def fr (r : Rat) : PyData := .tuple [.int r.num, .int r.den]
end

/-! ### readings step by step -/
theorem cxK0 {CX : CXT} {P : Program} {w : World} {K : PySem.W.Frag} {mg : Str → Option Value} {base : Heap} {N : List Str} {qual : Str} {scope : Scope} {f : Addr} {cd : Value} {A : Around} {outer : List Env} {s : Shared} {H : Hp} {E : XK} : (cxOf CX P w K mg base N qual scope f cd A outer s H E).nox.K = K := rfl
theorem cxK1 {CX : CXT} {P : Program} {w : World} {K : PySem.W.Frag} {mg : Str → Option Value} {base : Heap} {N : List Str} {qual : Str} {scope : Scope} {f : Addr} {cd : Value} {A : Around} {outer : List Env} {s : Shared} {H : Hp} {E : XK} : (cxOf CX P w K mg base N qual scope f cd A outer s H E).K = K := rfl
section
variable {K : PySem.W.Frag} {σ : St} {H : Hp} {Q : VK} {D : Ends}
theorem s_seq {t u : TS} (h : t { D with nx := u D } σ H) : tSeq t u D σ H := h
theorem s_next (h : D.nx σ H) : tNext D σ H := h
theorem s_brk (h : D.bk σ H) : tBreak D σ H := h
theorem s_cont (h : D.ct σ H) : tCont D σ H := h
theorem s_asg {te : TE} {g : TG} (h : te σ H fun x H1 => g x σ H1 D.nx) : tAsg te g D σ H := h
theorem s_gname {i : Nat} {v : V} {N : St → Hp → Prop} (h : N (σ.set i (some v)) H) : gName i v σ H N := h
theorem s_gsub {to ti : TE} {t : TSet} {v : V} {N : St → Hp → Prop} (h : to σ H fun o H1 => ti σ H1 fun i H2 => t o i v H2 fun H3 => N σ H3) : gSub to ti t v σ H N := h
theorem s_drop {te : TE} (h : te σ H fun _ H1 => D.nx σ H1) : tDrop te D σ H := h
theorem s_ret {te : TE} (h : te σ H D.rt) : tRet te D σ H := h
theorem s_retN (h : D.rt .non H) : tRetN D σ H := h
theorem s_par {i j : Nat} {ta tb : TE} (h : ta σ H fun x H1 => tb σ H1 fun y H2 => D.nx ((σ.set i (some x)).set j (some y)) H2) : tPar i j (tCons ta (tCons tb tNil)) D σ H :=
  (show ta σ H fun x H1 => tb σ H1 fun y H2 => ∃ v w, [x, y] = [v, w] ∧ D.nx ((σ.set i (some v)).set j (some w)) H2 from by
    have e : (fun x H1 => tb σ H1 fun y H2 => ∃ v w, [x, y] = [v, w] ∧ D.nx ((σ.set i (some v)).set j (some w)) H2) = (fun x H1 => tb σ H1 fun y H2 => D.nx ((σ.set i (some x)).set j (some y)) H2) := by
      funext x H1
      have e2 : (fun (y : V) (H2 : Hp) => ∃ v w, [x, y] = [v, w] ∧ D.nx ((σ.set i (some v)).set j (some w)) H2) = (fun y H2 => D.nx ((σ.set i (some x)).set j (some y)) H2) := by
        funext y H2
        refine propext ⟨fun ⟨v, w, e, n⟩ => ?_, fun n => ⟨x, y, rfl, n⟩⟩
        cases e
        exact n
      rw [e2]
    rw [e]
    exact h)
theorem s_if {c : TT} {t u : TS} (h : c σ H fun b H1 => if b = true then t D σ H1 else u D σ H1) : tIfS c t u D σ H := h
theorem s_ifE {c : TT} {ta tb : TE} (h : c σ H fun b H1 => if b = true then ta σ H1 Q else tb σ H1 Q) : tIf c ta tb σ H Q := h
theorem s_itT {A B : Prop} (h : A) : if true = true then A else B := iteT h
theorem s_itF {A B : Prop} (h : B) : if false = true then A else B := iteF h
theorem s_itNT {A B : Prop} (h : B) : if (!true) = true then A else B := iteF h
theorem s_itNF {A B : Prop} (h : A) : if (!false) = true then A else B := iteT h
theorem s_iteD {c A B : Prop} {inst : Decidable c} (h1 : c → A) (h2 : ¬ c → B) : if (@decide c inst) = true then A else B := by
  by_cases h : c
  · rw [decide_eq_true h]; exact iteT (h1 h)
  · rw [decide_eq_false h]; exact iteF (h2 h)
theorem s_iteN {c A B : Prop} {inst : Decidable c} (h1 : ¬ c → A) (h2 : c → B) : if (!@decide c inst) = true then A else B := by
  by_cases h : c
  · rw [decide_eq_true h]; exact iteF (h2 h)
  · rw [decide_eq_false h]; exact iteT (h1 h)
theorem s_iteB {b : Bool} {A B : Prop} (h1 : b = true → A) (h2 : b = false → B) : if b = true then A else B := by
  cases b with
  | true => exact iteT (h1 rfl)
  | false => exact iteF (h2 rfl)
theorem s_var {i : Nat} {v : V} (e : σ[i]? = some (some v)) (h : Q v H) : tVar i σ H Q := ⟨v, e, h⟩
theorem s_v0 {v : V} {σ : St} (h : Q v H) : tVar 0 (some v :: σ) H Q := ⟨v, rfl, h⟩
theorem s_g0 {y : Option V} {v : V} {σ : St} {N : St → Hp → Prop} (h : N (some v :: σ) H) : gName 0 v (y :: σ) H N := h
theorem s_v1 {x0 : Option V} {v : V} {σ : St} (h : Q v H) : tVar 1 (x0 :: some v :: σ) H Q := ⟨v, rfl, h⟩
theorem s_g1 {x0 : Option V} {y : Option V} {v : V} {σ : St} {N : St → Hp → Prop} (h : N (x0 :: some v :: σ) H) : gName 1 v (x0 :: y :: σ) H N := h
theorem s_v2 {x0 x1 : Option V} {v : V} {σ : St} (h : Q v H) : tVar 2 (x0 :: x1 :: some v :: σ) H Q := ⟨v, rfl, h⟩
theorem s_g2 {x0 x1 : Option V} {y : Option V} {v : V} {σ : St} {N : St → Hp → Prop} (h : N (x0 :: x1 :: some v :: σ) H) : gName 2 v (x0 :: x1 :: y :: σ) H N := h
theorem s_v3 {x0 x1 x2 : Option V} {v : V} {σ : St} (h : Q v H) : tVar 3 (x0 :: x1 :: x2 :: some v :: σ) H Q := ⟨v, rfl, h⟩
theorem s_g3 {x0 x1 x2 : Option V} {y : Option V} {v : V} {σ : St} {N : St → Hp → Prop} (h : N (x0 :: x1 :: x2 :: some v :: σ) H) : gName 3 v (x0 :: x1 :: x2 :: y :: σ) H N := h
theorem s_v4 {x0 x1 x2 x3 : Option V} {v : V} {σ : St} (h : Q v H) : tVar 4 (x0 :: x1 :: x2 :: x3 :: some v :: σ) H Q := ⟨v, rfl, h⟩
theorem s_g4 {x0 x1 x2 x3 : Option V} {y : Option V} {v : V} {σ : St} {N : St → Hp → Prop} (h : N (x0 :: x1 :: x2 :: x3 :: some v :: σ) H) : gName 4 v (x0 :: x1 :: x2 :: x3 :: y :: σ) H N := h
theorem s_v5 {x0 x1 x2 x3 x4 : Option V} {v : V} {σ : St} (h : Q v H) : tVar 5 (x0 :: x1 :: x2 :: x3 :: x4 :: some v :: σ) H Q := ⟨v, rfl, h⟩
theorem s_g5 {x0 x1 x2 x3 x4 : Option V} {y : Option V} {v : V} {σ : St} {N : St → Hp → Prop} (h : N (x0 :: x1 :: x2 :: x3 :: x4 :: some v :: σ) H) : gName 5 v (x0 :: x1 :: x2 :: x3 :: x4 :: y :: σ) H N := h
theorem s_v6 {x0 x1 x2 x3 x4 x5 : Option V} {v : V} {σ : St} (h : Q v H) : tVar 6 (x0 :: x1 :: x2 :: x3 :: x4 :: x5 :: some v :: σ) H Q := ⟨v, rfl, h⟩
theorem s_g6 {x0 x1 x2 x3 x4 x5 : Option V} {y : Option V} {v : V} {σ : St} {N : St → Hp → Prop} (h : N (x0 :: x1 :: x2 :: x3 :: x4 :: x5 :: some v :: σ) H) : gName 6 v (x0 :: x1 :: x2 :: x3 :: x4 :: x5 :: y :: σ) H N := h
theorem s_v7 {x0 x1 x2 x3 x4 x5 x6 : Option V} {v : V} {σ : St} (h : Q v H) : tVar 7 (x0 :: x1 :: x2 :: x3 :: x4 :: x5 :: x6 :: some v :: σ) H Q := ⟨v, rfl, h⟩
theorem s_g7 {x0 x1 x2 x3 x4 x5 x6 : Option V} {y : Option V} {v : V} {σ : St} {N : St → Hp → Prop} (h : N (x0 :: x1 :: x2 :: x3 :: x4 :: x5 :: x6 :: some v :: σ) H) : gName 7 v (x0 :: x1 :: x2 :: x3 :: x4 :: x5 :: x6 :: y :: σ) H N := h
theorem s_v8 {x0 x1 x2 x3 x4 x5 x6 x7 : Option V} {v : V} {σ : St} (h : Q v H) : tVar 8 (x0 :: x1 :: x2 :: x3 :: x4 :: x5 :: x6 :: x7 :: some v :: σ) H Q := ⟨v, rfl, h⟩
theorem s_g8 {x0 x1 x2 x3 x4 x5 x6 x7 : Option V} {y : Option V} {v : V} {σ : St} {N : St → Hp → Prop} (h : N (x0 :: x1 :: x2 :: x3 :: x4 :: x5 :: x6 :: x7 :: some v :: σ) H) : gName 8 v (x0 :: x1 :: x2 :: x3 :: x4 :: x5 :: x6 :: x7 :: y :: σ) H N := h
theorem s_v9 {x0 x1 x2 x3 x4 x5 x6 x7 x8 : Option V} {v : V} {σ : St} (h : Q v H) : tVar 9 (x0 :: x1 :: x2 :: x3 :: x4 :: x5 :: x6 :: x7 :: x8 :: some v :: σ) H Q := ⟨v, rfl, h⟩
theorem s_g9 {x0 x1 x2 x3 x4 x5 x6 x7 x8 : Option V} {y : Option V} {v : V} {σ : St} {N : St → Hp → Prop} (h : N (x0 :: x1 :: x2 :: x3 :: x4 :: x5 :: x6 :: x7 :: x8 :: some v :: σ) H) : gName 9 v (x0 :: x1 :: x2 :: x3 :: x4 :: x5 :: x6 :: x7 :: x8 :: y :: σ) H N := h
theorem s_v10 {x0 x1 x2 x3 x4 x5 x6 x7 x8 x9 : Option V} {v : V} {σ : St} (h : Q v H) : tVar 10 (x0 :: x1 :: x2 :: x3 :: x4 :: x5 :: x6 :: x7 :: x8 :: x9 :: some v :: σ) H Q := ⟨v, rfl, h⟩
theorem s_g10 {x0 x1 x2 x3 x4 x5 x6 x7 x8 x9 : Option V} {y : Option V} {v : V} {σ : St} {N : St → Hp → Prop} (h : N (x0 :: x1 :: x2 :: x3 :: x4 :: x5 :: x6 :: x7 :: x8 :: x9 :: some v :: σ) H) : gName 10 v (x0 :: x1 :: x2 :: x3 :: x4 :: x5 :: x6 :: x7 :: x8 :: x9 :: y :: σ) H N := h
theorem s_v11 {x0 x1 x2 x3 x4 x5 x6 x7 x8 x9 x10 : Option V} {v : V} {σ : St} (h : Q v H) : tVar 11 (x0 :: x1 :: x2 :: x3 :: x4 :: x5 :: x6 :: x7 :: x8 :: x9 :: x10 :: some v :: σ) H Q := ⟨v, rfl, h⟩
theorem s_g11 {x0 x1 x2 x3 x4 x5 x6 x7 x8 x9 x10 : Option V} {y : Option V} {v : V} {σ : St} {N : St → Hp → Prop} (h : N (x0 :: x1 :: x2 :: x3 :: x4 :: x5 :: x6 :: x7 :: x8 :: x9 :: x10 :: some v :: σ) H) : gName 11 v (x0 :: x1 :: x2 :: x3 :: x4 :: x5 :: x6 :: x7 :: x8 :: x9 :: x10 :: y :: σ) H N := h
theorem s_v12 {x0 x1 x2 x3 x4 x5 x6 x7 x8 x9 x10 x11 : Option V} {v : V} {σ : St} (h : Q v H) : tVar 12 (x0 :: x1 :: x2 :: x3 :: x4 :: x5 :: x6 :: x7 :: x8 :: x9 :: x10 :: x11 :: some v :: σ) H Q := ⟨v, rfl, h⟩
theorem s_g12 {x0 x1 x2 x3 x4 x5 x6 x7 x8 x9 x10 x11 : Option V} {y : Option V} {v : V} {σ : St} {N : St → Hp → Prop} (h : N (x0 :: x1 :: x2 :: x3 :: x4 :: x5 :: x6 :: x7 :: x8 :: x9 :: x10 :: x11 :: some v :: σ) H) : gName 12 v (x0 :: x1 :: x2 :: x3 :: x4 :: x5 :: x6 :: x7 :: x8 :: x9 :: x10 :: x11 :: y :: σ) H N := h
theorem s_v13 {x0 x1 x2 x3 x4 x5 x6 x7 x8 x9 x10 x11 x12 : Option V} {v : V} {σ : St} (h : Q v H) : tVar 13 (x0 :: x1 :: x2 :: x3 :: x4 :: x5 :: x6 :: x7 :: x8 :: x9 :: x10 :: x11 :: x12 :: some v :: σ) H Q := ⟨v, rfl, h⟩
theorem s_g13 {x0 x1 x2 x3 x4 x5 x6 x7 x8 x9 x10 x11 x12 : Option V} {y : Option V} {v : V} {σ : St} {N : St → Hp → Prop} (h : N (x0 :: x1 :: x2 :: x3 :: x4 :: x5 :: x6 :: x7 :: x8 :: x9 :: x10 :: x11 :: x12 :: some v :: σ) H) : gName 13 v (x0 :: x1 :: x2 :: x3 :: x4 :: x5 :: x6 :: x7 :: x8 :: x9 :: x10 :: x11 :: x12 :: y :: σ) H N := h
theorem s_v14 {x0 x1 x2 x3 x4 x5 x6 x7 x8 x9 x10 x11 x12 x13 : Option V} {v : V} {σ : St} (h : Q v H) : tVar 14 (x0 :: x1 :: x2 :: x3 :: x4 :: x5 :: x6 :: x7 :: x8 :: x9 :: x10 :: x11 :: x12 :: x13 :: some v :: σ) H Q := ⟨v, rfl, h⟩
theorem s_g14 {x0 x1 x2 x3 x4 x5 x6 x7 x8 x9 x10 x11 x12 x13 : Option V} {y : Option V} {v : V} {σ : St} {N : St → Hp → Prop} (h : N (x0 :: x1 :: x2 :: x3 :: x4 :: x5 :: x6 :: x7 :: x8 :: x9 :: x10 :: x11 :: x12 :: x13 :: some v :: σ) H) : gName 14 v (x0 :: x1 :: x2 :: x3 :: x4 :: x5 :: x6 :: x7 :: x8 :: x9 :: x10 :: x11 :: x12 :: x13 :: y :: σ) H N := h
theorem s_v15 {x0 x1 x2 x3 x4 x5 x6 x7 x8 x9 x10 x11 x12 x13 x14 : Option V} {v : V} {σ : St} (h : Q v H) : tVar 15 (x0 :: x1 :: x2 :: x3 :: x4 :: x5 :: x6 :: x7 :: x8 :: x9 :: x10 :: x11 :: x12 :: x13 :: x14 :: some v :: σ) H Q := ⟨v, rfl, h⟩
theorem s_g15 {x0 x1 x2 x3 x4 x5 x6 x7 x8 x9 x10 x11 x12 x13 x14 : Option V} {y : Option V} {v : V} {σ : St} {N : St → Hp → Prop} (h : N (x0 :: x1 :: x2 :: x3 :: x4 :: x5 :: x6 :: x7 :: x8 :: x9 :: x10 :: x11 :: x12 :: x13 :: x14 :: some v :: σ) H) : gName 15 v (x0 :: x1 :: x2 :: x3 :: x4 :: x5 :: x6 :: x7 :: x8 :: x9 :: x10 :: x11 :: x12 :: x13 :: x14 :: y :: σ) H N := h
theorem s_v16 {x0 x1 x2 x3 x4 x5 x6 x7 x8 x9 x10 x11 x12 x13 x14 x15 : Option V} {v : V} {σ : St} (h : Q v H) : tVar 16 (x0 :: x1 :: x2 :: x3 :: x4 :: x5 :: x6 :: x7 :: x8 :: x9 :: x10 :: x11 :: x12 :: x13 :: x14 :: x15 :: some v :: σ) H Q := ⟨v, rfl, h⟩
theorem s_g16 {x0 x1 x2 x3 x4 x5 x6 x7 x8 x9 x10 x11 x12 x13 x14 x15 : Option V} {y : Option V} {v : V} {σ : St} {N : St → Hp → Prop} (h : N (x0 :: x1 :: x2 :: x3 :: x4 :: x5 :: x6 :: x7 :: x8 :: x9 :: x10 :: x11 :: x12 :: x13 :: x14 :: x15 :: some v :: σ) H) : gName 16 v (x0 :: x1 :: x2 :: x3 :: x4 :: x5 :: x6 :: x7 :: x8 :: x9 :: x10 :: x11 :: x12 :: x13 :: x14 :: x15 :: y :: σ) H N := h
theorem s_v17 {x0 x1 x2 x3 x4 x5 x6 x7 x8 x9 x10 x11 x12 x13 x14 x15 x16 : Option V} {v : V} {σ : St} (h : Q v H) : tVar 17 (x0 :: x1 :: x2 :: x3 :: x4 :: x5 :: x6 :: x7 :: x8 :: x9 :: x10 :: x11 :: x12 :: x13 :: x14 :: x15 :: x16 :: some v :: σ) H Q := ⟨v, rfl, h⟩
theorem s_g17 {x0 x1 x2 x3 x4 x5 x6 x7 x8 x9 x10 x11 x12 x13 x14 x15 x16 : Option V} {y : Option V} {v : V} {σ : St} {N : St → Hp → Prop} (h : N (x0 :: x1 :: x2 :: x3 :: x4 :: x5 :: x6 :: x7 :: x8 :: x9 :: x10 :: x11 :: x12 :: x13 :: x14 :: x15 :: x16 :: some v :: σ) H) : gName 17 v (x0 :: x1 :: x2 :: x3 :: x4 :: x5 :: x6 :: x7 :: x8 :: x9 :: x10 :: x11 :: x12 :: x13 :: x14 :: x15 :: x16 :: y :: σ) H N := h
theorem s_c {v : V} (h : Q v H) : tC v σ H Q := h
theorem s_op {r : R2} {ta tb : TE} (h : ta σ H fun x H1 => tb σ H1 fun y H2 => r x y H2 Q) : tOp r ta tb σ H Q := h
theorem s_un {r : V → Hp → VK → Prop} {ta : TE} (h : ta σ H fun x H1 => r x H1 Q) : tUn r ta σ H Q := h
def NewT (xs : List V) (H : Hp) (Q : VK) : Prop := xs.length ≤ sizeLine ∧ ∀ p, H p = none → Q (.ref p) (upd H p (.tup xs))
def NewL (xs : List V) (H : Hp) (Q : VK) : Prop := xs.length ≤ sizeLine ∧ ∀ p, H p = none → Q (.ref p) (upd H p (.lst xs))
theorem s_tup {ta : TA} (h : ta σ H fun xs H1 => NewT xs H1 Q) : tTup ta σ H Q := h
theorem s_lst {ta : TA} (h : ta σ H fun xs H1 => NewL xs H1 Q) : tLst ta σ H Q := h
theorem s_newT {xs : List V} (z : xs.length ≤ sizeLine) (h : ∀ p, H p = none → Q (.ref p) (upd H p (.tup xs))) : NewT xs H Q := ⟨z, h⟩
theorem s_newL {xs : List V} (z : xs.length ≤ sizeLine) (h : ∀ p, H p = none → Q (.ref p) (upd H p (.lst xs))) : NewL xs H Q := ⟨z, h⟩
theorem size_le {xs : List V} (h : xs.length ≤ 1000) : xs.length ≤ sizeLine := Nat.le_of_lt (L2.small1000 h)
theorem size_le2 {n : Nat} (h : n ≤ 1000) : n ≤ sizeLine := Nat.le_of_lt (L2.small1000 h)
-- for
def ForR (J : It) (g : TG) (tb : TS) (D : Ends) (σ : St) (H1 : Hp) : Prop := ∃ W : Nat → Nat → St → Hp → Prop, (∃ m, W 0 m σ H1) ∧ ∀ i m σ H, W i m σ H →
  (J.stop i H ∧ D.nx σ H) ∨ (J.go i H ∧ ∃ N : St → Hp → Prop, (∀ σ' H', N σ' H' → ∃ m', m' < m ∧ W (i + 1) m' σ' H') ∧ ∀ x H', J.yld i H x H' → g x σ H' fun σ2 H2 => tb { D with nx := N, ct := N, bk := D.nx } σ2 H2)
theorem s_for {wi : TI} {g : TG} {tb : TS} (h : wi σ H fun J H1 => ForR J g tb D σ H1) : tFor wi g tb D σ H := h
theorem s_iList {tl : TE} {R : It → Hp → Prop} (h : tl σ H fun x H1 => ∃ a, x = .ref a ∧ (∃ xs, SqL K H1 a xs) ∧ R (Itl K a) H1) : iList K tl σ H R := h
theorem s_iTup {tl : TE} {R : It → Hp → Prop} (h : tl σ H fun x H1 => ∃ a, x = .ref a ∧ (∃ xs, SqT K H1 a xs) ∧ R (Itt K a) H1) : iTup K tl σ H R := h
theorem s_isL {p : Addr} {xs : List V} {N : Addr → Prop} (hs : SqL K H p xs) (h : N p) : ∃ a, V.ref p = V.ref a ∧ (∃ xs, SqL K H a xs) ∧ N a := ⟨p, rfl, ⟨xs, hs⟩, h⟩
theorem s_rng1 {ta : TA} {R : It → Hp → Prop} (h : ta σ H fun vs H1 => ∃ j : Int, vs = [.int j] ∧ -(2 ^ 62) ≤ j ∧ j < 2 ^ 62 ∧ R (Itr 0 j.toNat) H1) : iRng1 ta σ H R := h
theorem s_isR1 {i : Int} {N : Int → Prop} (l1 : -(2 ^ 62) ≤ i) (l2 : i < 2 ^ 62) (h : N i) : ∃ j : Int, [V.int i] = [V.int j] ∧ -(2 ^ 62) ≤ j ∧ j < 2 ^ 62 ∧ N j := ⟨i, rfl, l1, l2, h⟩
theorem f_list {a : Addr} {xs : List V} {g : TG} {tb : TS} (Pv : Nat → St → Hp → Prop) (h0 : Pv 0 σ H) (hl : ∀ i σ H, i ≤ xs.length → Pv i σ H → SqL K H a xs)
    (hs : ∀ i x σ H, xs[i]? = some x → Pv i σ H → g x σ H fun σ2 H2 => tb { D with nx := Pv (i + 1), ct := Pv (i + 1), bk := D.nx } σ2 H2) (hd : ∀ σ H, Pv xs.length σ H → D.nx σ H) : ForR (Itl K a) g tb D σ H := for_list Pv h0 hl hs hd
theorem f_range {lo : Int} {n : Nat} {g : TG} {tb : TS} (Pv : Nat → St → Hp → Prop) (h0 : Pv 0 σ H)
    (hs : ∀ i σ H, i < n → Pv i σ H → g (.int (lo + i)) σ H fun σ2 H2 => tb { D with nx := Pv (i + 1), ct := Pv (i + 1), bk := D.nx } σ2 H2) (hd : ∀ σ H, Pv n σ H → D.nx σ H) : ForR (Itr lo n) g tb D σ H := for_range Pv h0 hs hd
/-- a walk over a list that changes no heap; the slots i, j are the body's -/
theorem f_all2 {a : Addr} {xs : List V} {g : TG} {tb : TS} (Φ : Hp → V → Prop) (i j : Nat) (hs : SqL K H a xs) (hx : ∀ x, x ∈ xs → Φ H x) (hi : ∃ y z, (σ.set i y).set j z = σ)
    (turn : ∀ x y z, Φ H x → g x ((σ.set i y).set j z) H fun σ2 H2 => tb { D with nx := fun σ' H' => (∃ y z, σ' = (σ.set i y).set j z) ∧ H' = H, ct := fun σ' H' => (∃ y z, σ' = (σ.set i y).set j z) ∧ H' = H, bk := D.nx } σ2 H2)
    (fin : ∀ y z, D.nx ((σ.set i y).set j z) H) : ForR (Itl K a) g tb D σ H := by
  refine f_list (xs := xs) (fun _ σ' H' => (∃ y z, σ' = (σ.set i y).set j z) ∧ H' = H) ⟨?_, rfl⟩ ?_ ?_ ?_
  · obtain ⟨y, z, e⟩ := hi
    exact ⟨y, z, e.symm⟩
  · rintro _ _ _ _ ⟨_, rfl⟩
    exact hs
  · rintro n x σ' H' e ⟨⟨y, z, rfl⟩, rfl⟩
    exact turn x y z (hx x (List.mem_of_getElem? e))
  · rintro σ' H' ⟨⟨y, z, rfl⟩, rfl⟩
    exact fin y z
/-- the slots js hold what f tells -/
def sets (σ : St) (js : List Nat) (f : Nat → Option V) : St := js.foldl (fun s j => s.set j (f j)) σ
def Upd (js : List Nat) (σ σ' : St) : Prop := ∃ f, σ' = sets σ js f
theorem i_of {σ' : St} {js : List Nat} (h : σ' = sets σ js (fun j => (σ'[j]?).join)) : Upd js σ σ' := ⟨_, h⟩
/-- a walk over a list: the slots js are the body's, R holds of the heap -/
theorem f_each {a : Addr} {xs : List V} {g : TG} {tb : TS} (js : List Nat) (R : Nat → Hp → Prop) (r0 : R 0 H) (h0 : σ = sets σ js (fun j => (σ[j]?).join)) (hs : ∀ n H', R n H' → SqL K H' a xs)
    (turn : ∀ n x f H1, xs[n]? = some x → R n H1 → g x (sets σ js f) H1 fun σ2 H2 => tb { D with nx := fun σ' H' => Upd js σ σ' ∧ R (n + 1) H', ct := fun σ' H' => Upd js σ σ' ∧ R (n + 1) H', bk := D.nx } σ2 H2)
    (fin : ∀ f H1, R xs.length H1 → D.nx (sets σ js f) H1) : ForR (Itl K a) g tb D σ H := by
  refine f_list (xs := xs) (fun n σ' H' => Upd js σ σ' ∧ R n H') ⟨i_of h0, r0⟩ ?_ ?_ ?_
  · rintro n _ H' _ ⟨_, r⟩
    exact hs n H' r
  · rintro n x σ' H' e ⟨⟨f, rfl⟩, r⟩
    exact turn n x f H' e r
  · rintro σ' H' ⟨⟨f, rfl⟩, r⟩
    exact fin f H' r
/-- the same where the turn lays new things alone -/
theorem f_eachS {a : Addr} {xs : List V} {g : TG} {tb : TS} (Φ : Hp → V → Prop) (js : List Nat) (hs : SqL K H a xs) (h0 : σ = sets σ js (fun j => (σ[j]?).join)) (hx : ∀ x, x ∈ xs → Φ H x)
    (turn : ∀ x f H1, Same H H1 → Φ H x → g x (sets σ js f) H1 fun σ2 H2 => tb { D with nx := fun σ' H' => Upd js σ σ' ∧ Same H H', ct := fun σ' H' => Upd js σ σ' ∧ Same H H', bk := D.nx } σ2 H2)
    (fin : ∀ f H1, Same H H1 → D.nx (sets σ js f) H1) : ForR (Itl K a) g tb D σ H :=
  f_each (xs := xs) js (fun _ H' => Same H H') (Same.refl H) h0 (fun _ _ r => r.seq hs) (fun _ x f H1 e r => turn x f H1 r (hx x (List.mem_of_getElem? e))) fin
theorem r_each {lo : Int} {m : Nat} {g : TG} {tb : TS} (js : List Nat) (R : Nat → Hp → Prop) (r0 : R 0 H) (h0 : σ = sets σ js (fun j => (σ[j]?).join))
    (turn : ∀ n f H1, n < m → R n H1 → g (.int (lo + n)) (sets σ js f) H1 fun σ2 H2 => tb { D with nx := fun σ' H' => Upd js σ σ' ∧ R (n + 1) H', ct := fun σ' H' => Upd js σ σ' ∧ R (n + 1) H', bk := D.nx } σ2 H2)
    (fin : ∀ f H1, R m H1 → D.nx (sets σ js f) H1) : ForR (Itr lo m) g tb D σ H := by
  refine f_range (fun n σ' H' => Upd js σ σ' ∧ R n H') ⟨i_of h0, r0⟩ ?_ ?_
  · rintro n σ' H' e ⟨⟨f, rfl⟩, r⟩
    exact turn n f H' e r
  · rintro σ' H' ⟨⟨f, rfl⟩, r⟩
    exact fin f H' r
theorem s_ixR0 {a : Addr} {v0 : V} {vs : List V} (hs : H a = some (.tup (v0 :: vs))) (h : Q v0 H) : rIx K (.ref a) (.int 0) H Q := .inr (.inl ⟨a, _, 0, _, rfl, rfl, SqT.of hs, atI_nat (j := 0) rfl, h⟩)
theorem s_ixR1 {a : Addr} {v0 v1 : V} {vs : List V} (hs : H a = some (.tup (v0 :: v1 :: vs))) (h : Q v1 H) : rIx K (.ref a) (.int 1) H Q := .inr (.inl ⟨a, _, 1, _, rfl, rfl, SqT.of hs, atI_nat (j := 1) rfl, h⟩)
theorem s_ixR2 {a : Addr} {v0 v1 v2 : V} {vs : List V} (hs : H a = some (.tup (v0 :: v1 :: v2 :: vs))) (h : Q v2 H) : rIx K (.ref a) (.int 2) H Q := .inr (.inl ⟨a, _, 2, _, rfl, rfl, SqT.of hs, atI_nat (j := 2) rfl, h⟩)
theorem s_ixR3 {a : Addr} {v0 v1 v2 v3 : V} {vs : List V} (hs : H a = some (.tup (v0 :: v1 :: v2 :: v3 :: vs))) (h : Q v3 H) : rIx K (.ref a) (.int 3) H Q := .inr (.inl ⟨a, _, 3, _, rfl, rfl, SqT.of hs, atI_nat (j := 3) rfl, h⟩)
theorem s_addT {x y : V} {ds es : List PyData} (hx : Dt K H x (.tuple ds)) (hy : Dt K H y (.tuple es)) (n1 : ds ≠ []) (n2 : es ≠ []) (l : ds.length + es.length ≤ 1000) (h : ∀ v H', Same H H' → Dt K H' v (.tuple (ds ++ es)) → Q v H') : rAddU K x y H Q := by
  obtain ⟨a, xs, rfl, hs, ha⟩ := hx.tup_inv
  obtain ⟨b, ys, rfl, ht, hb⟩ := hy.tup_inv
  have e1 := ha.len
  have e2 := hb.len
  refine .inr (.inr (.inr ⟨a, b, xs, ys, rfl, rfl, hs, ht, fun z => n1 ?_, Nat.le_of_lt (L2.small1000 (by omega)), fun z => absurd ?_ n2, fun _ p hp => h _ _ (same_new hp) (dt_new (ha.append hb) hp)⟩))
  · subst z; exact List.length_eq_zero_iff.mp e1.symm
  · subst z; exact List.length_eq_zero_iff.mp e2.symm
theorem s_addT1 {x y : V} {d : PyData} {es : List PyData} (hx : Dt K H x (.tuple [d])) (hy : Dt K H y (.tuple es)) (n2 : es ≠ []) (l : 1 + es.length ≤ 1000) (h : ∀ v H', Same H H' → Dt K H' v (.tuple (d :: es)) → Q v H') : rAddU K x y H Q := s_addT hx hy (List.cons_ne_nil _ _) n2 l h
/-- a list of data -/
theorem s_addL {a b : Addr} {xs ys : List V} (hx : H a = some (.lst xs)) (hy : H b = some (.lst ys)) (z : xs.length + ys.length ≤ sizeLine) (h : ∀ p, H p = none → Q (.ref p) (upd H p (.lst (xs ++ ys)))) : rAddU K (.ref a) (.ref b) H Q :=
  .inr (.inr (.inl ⟨a, b, xs, ys, rfl, rfl, hx, hy, z, h⟩))
def RevQ (K : PySem.W.Frag) (x : V) (H : Hp) (Q : VK) : Prop := ∃ p xs, x = .ref p ∧ SqL K H p xs ∧ ∀ l, H l = none → Q (.ref l) (upd H l (.lst xs.reverse))
theorem s_revL {te : TE} (h : te σ H fun x H1 => RevQ K x H1 Q) : tRevL K te σ H Q := h
theorem s_isRev {p : Addr} {xs : List V} (hs : SqL K H p xs) (h : ∀ l, H l = none → Q (.ref l) (upd H l (.lst xs.reverse))) : RevQ K (.ref p) H Q := ⟨p, xs, rfl, hs, h⟩
/-- two lists of the same fractions -/
def lay : PyData → Bool := fun d => d.canLay0 && decide (d.depth ≤ 64)
theorem frs_lay : ∀ rs : List Rat, PyData.canLayAll0 (rs.map fr) = true
  | [] => by simp [PyData.canLayAll0]
  | r :: rs => by rw [List.map_cons, PyData.canLayAll0, frs_lay rs]; rfl
theorem frs_depth : ∀ rs : List Rat, PyData.depthAll (rs.map fr) ≤ 2
  | [] => by simp [PyData.depthAll]
  | r :: rs => by
    have h := frs_depth rs
    have h1 : (fr r).depth ≤ 2 := by show PyData.depth (.tuple [.int r.num, .int r.den]) ≤ 2; simp [PyData.depth, PyData.depthAll]
    simp only [List.map_cons, PyData.depthAll]
    omega
theorem sh_frs (rs : List Rat) : SeqAt.shaped (.list (rs.map fr)) = true := by
  have h1 := frs_lay rs
  have h2 := frs_depth rs
  unfold SeqAt.shaped
  rw [Bool.and_eq_true]
  refine ⟨by rw [PyData.canLay0]; exact h1, decide_eq_true (by simp only [PyData.depth]; omega)⟩
theorem s_eqLF {a b : Addr} {vs ws : List V} {rs : List Rat} (ha : SqL K H a vs) (hb : SqL K H b ws) (da : DtAll K H vs (rs.map fr)) (db : DtAll K H ws (rs.map fr)) (h : Q (.bl true) H) : rEqD K (.ref a) (.ref b) H Q :=
  ⟨_, _, .lst ha da.dp, .lst hb db.dp, sh_frs rs, sh_frs rs, by rw [SeqAt.eqv_refl _ (SeqAt.canLay_of_shaped (sh_frs rs))]; exact h⟩
theorem DtAll.rev {vs : List V} {ds : List PyData} (h : DtAll K H vs ds) : DtAll K H vs.reverse ds.reverse := by
  induction ds generalizing vs with
  | nil => cases h; exact .nil
  | cons d ds ih => cases h with | cons h a => rw [List.reverse_cons, List.reverse_cons]; exact (ih a).append (.cons h .nil)
-- slices
theorem s_sl {r : V → Option Int → Option Int → Hp → VK → Prop} {te : TE} {tl th : TO} (h : te σ H fun x H1 => tl σ H1 fun l H2 => th σ H2 fun u H3 => r x l u H3 Q) : tSl r te tl th σ H Q := h
theorem s_noPart {N : Option Int → Hp → Prop} (h : N none H) : tNoPart σ H N := h
theorem s_part {t : TE} {N : Option Int → Hp → Prop} (h : t σ H fun x H1 => ∃ i, x = .int i ∧ N (some i) H1) : tPart t σ H N := h
theorem s_isI {i : Int} {N : Int → Prop} (h : N i) : ∃ j, V.int i = V.int j ∧ N j := ⟨i, rfl, h⟩
theorem s_slL {a : Addr} {xs : List V} {lo hi : Option Int} (hs : SqL K H a xs) (h : ∀ p, H p = none → Q (.ref p) (upd H p (.lst (cutV xs lo hi)))) : rSlU K (.ref a) lo hi H Q := .inl ⟨a, xs, rfl, hs, h⟩
theorem cut_ints (ns : List Int) (lo hi : Option Int) : ∃ ms : List Int, cutV (ns.map V.int) lo hi = ms.map V.int :=
  ⟨(ns.drop (HT.sIx (ns.map V.int).length 0 lo)).take (HT.sIx (ns.map V.int).length (ns.map V.int).length hi - HT.sIx (ns.map V.int).length 0 lo), by unfold cutV; rw [List.map_take, List.map_drop]⟩
theorem s_listL {a : Addr} {xs : List V} (hs : SqL K H a xs) (h : ∀ p, H p = none → Q (.ref p) (upd H p (.lst xs))) : rListU K [.ref a] H Q := ⟨a, xs, rfl, .inl hs, h⟩
/-- some item of a list -/
theorem s_menu {a : Addr} {xs : List V} {i : Int} (hs : SqL K H a xs) (h0 : 0 ≤ i) (h1 : i < xs.length) (h : ∀ v, v ∈ xs → Q v H) : rIx K (.ref a) (.int i) H Q := by
  obtain ⟨j, rfl⟩ : ∃ j : Nat, i = (j : Int) := ⟨i.toNat, by omega⟩
  have hj : j < xs.length := by omega
  exact .inl ⟨a, xs, _, xs[j], rfl, rfl, hs, atI_nat (List.getElem?_eq_getElem hj), h _ (List.getElem_mem hj)⟩
theorem s_menuP {a : Addr} {xs : List V} {i : Int} (Φ : Hp → V → Prop) (hs : SqL K H a xs) (h0 : 0 ≤ i) (h1 : i < xs.length) (hx : ∀ v, v ∈ xs → Φ H v) (h : ∀ v, Φ H v → Q v H) : rIx K (.ref a) (.int i) H Q :=
  s_menu hs h0 h1 fun v hv => h v (hx v hv)
theorem s_menuI {a : Addr} {xs : List V} {i : Int} (lo hi : Int) (hs : SqL K H a xs) (h0 : 0 ≤ i) (h1 : i < xs.length) (hx : ∀ v, v ∈ xs → ∃ z, v = .int z ∧ lo ≤ z ∧ z ≤ hi) (h : ∀ z, lo ≤ z → z ≤ hi → Q (.int z) H) : rIx K (.ref a) (.int i) H Q :=
  s_menu hs h0 h1 fun v hv => by
    obtain ⟨z, rfl, a, b⟩ := hx v hv
    exact h z a b
theorem s_app {to : TE} {t : TA} {r : V → List V → Hp → VK → Prop} {T : String} (h : to σ H fun x H1 => tyV K T x H1 ∧ t σ H1 fun xs H2 => r x xs H2 Q) : tBM K T r to t σ H Q := h
theorem s_tyL {a : Addr} {xs : List V} {N : Prop} (hs : SqL K H a xs) (h : N) : tyV K "list" (.ref a) H ∧ N := ⟨.inl ⟨rfl, xs, hs⟩, h⟩
theorem s_append {a : Addr} {xs : List V} {y : V} (hs : H a = some (.lst xs)) (z : xs.length < sizeLine) (h : Q .non (upd H a (.lst (xs ++ [y])))) : rAppend (.ref a) [y] H Q := ⟨a, xs, y, rfl, rfl, hs, z, h⟩
theorem s_nil {N : List V → Hp → Prop} (h : N [] H) : tNil σ H N := h
theorem s_cons {ta : TE} {tr : TA} {N : List V → Hp → Prop} (h : ta σ H fun x H1 => tr σ H1 fun xs H2 => N (x :: xs) H2) : tCons ta tr σ H N := h
theorem s_cb {r : List V → Hp → VK → Prop} {t : TA} (h : t σ H fun vs H1 => r vs H1 Q) : tCB r t σ H Q := h
theorem s_call {sp : Sp} {dvs : List V} {E : XK} {t : TA} (h : t σ H fun vs H1 => sp (vs ++ dvs) H1 Q E) : tCall sp dvs E t σ H Q := h
theorem s_test {t : TE} {N : Bool → Hp → Prop} (h : t σ H fun x H' => ∃ k, x = .bl k ∧ N k H') : tTest t σ H N := h
theorem s_B {t : TE} {N : Bool → Hp → Prop} (h : t σ H fun x H' => ∃ k, x = .bl k ∧ N k H') : tB t σ H N := h
theorem s_tru {t : TE} {N : Bool → Hp → Prop} (h : t σ H fun x H' => ∃ k, TruV K x H' k ∧ N k H') : tTruU K t σ H N := h
theorem s_isB {k : Bool} {N : Bool → Prop} (h : N k) : ∃ k', V.bl k = V.bl k' ∧ N k' := ⟨k, rfl, h⟩
theorem s_truI {i : Int} {N : Bool → Prop} (h : N (i != 0)) : ∃ k, TruV K (.int i) H k ∧ N k := ⟨_, rfl, h⟩
theorem s_truB {b : Bool} {N : Bool → Prop} (h : N b) : ∃ k, TruV K (.bl b) H k ∧ N k := ⟨_, rfl, h⟩
theorem s_and {t u : TT} {N : Bool → Hp → Prop} (h : t σ H fun c H1 => if c = true then u σ H1 N else N false H1) : tAnd t u σ H N := h
theorem s_or {t u : TT} {N : Bool → Hp → Prop} (h : t σ H fun c H1 => if c = true then N true H1 else u σ H1 N) : tOr t u σ H N := h
theorem s_not {t : TT} {N : Bool → Hp → Prop} (h : t σ H fun c H1 => N (!c) H1) : tNot t σ H N := h
theorem s_andV {ta tb : TE} (h : ta σ H fun x H1 => ∃ c, x = .bl c ∧ if c = true then tb σ H1 Q else Q (.bl false) H1) : tAndV ta tb σ H Q := h
theorem s_orV {ta tb : TE} (h : ta σ H fun x H1 => ∃ c, x = .bl c ∧ if c = true then Q (.bl true) H1 else tb σ H1 Q) : tOrV ta tb σ H Q := h
theorem s_notV {ta : TE} (h : ta σ H fun x H1 => ∃ c, x = .bl c ∧ Q (.bl (!c)) H1) : tNotV ta σ H Q := h
theorem s_chain {r r' : R2} {ta tb tc : TE} (h : ta σ H fun x H1 => tb σ H1 fun y H2 => r x y H2 fun z H3 => ∃ k, z = .bl k ∧ if k = true then tc σ H3 fun w H4 => r' y w H4 Q else Q (.bl false) H3) : tChain r r' ta tb tc σ H Q := by
  first
    | exact h
    | (unfold tChain; exact h)
-- by values
theorem s_addI {i j : Int} (h : Q (.int (i + j)) H) : rAddU K (.int i) (.int j) H Q := .inl ⟨i, j, rfl, rfl, h⟩
theorem s_addS {i j : Str} (l : i.length + j.length ≤ sizeLine) (h : Q (.str (i ++ j)) H) : rAddU K (.str i) (.str j) H Q := .inr (.inl ⟨i, j, rfl, rfl, l, h⟩)
theorem s_subI {i j : Int} (h : Q (.int (i - j)) H) : rSubU (.int i) (.int j) H Q := ⟨i, j, rfl, rfl, h⟩
theorem s_mulI {i j : Int} (c : CMulZ i j) (h : Q (.int (i * j)) H) : rMulU (.int i) (.int j) H Q := .inl ⟨i, j, rfl, rfl, c, h⟩
theorem s_divI {i j : Int} (c : CDivZ i j) (h : Q (.int (i.fdiv j)) H) : rDivU (.int i) (.int j) H Q := ⟨i, j, rfl, rfl, c, h⟩
theorem s_modI {i j : Int} (c : j ≠ 0) (h : Q (.int (i.fmod j)) H) : rModU (.int i) (.int j) H Q := ⟨i, j, rfl, rfl, c, h⟩
theorem s_powI {i j : Int} (c : CPow i j) (h : Q (.int (i ^ j.toNat)) H) : rPowU (.int i) (.int j) H Q := ⟨i, j, rfl, rfl, c, h⟩
theorem s_pow2 (h : Q (.int 100) H) : rPowU (.int 10) (.int 2) H Q := s_powI ⟨by decide, by decide, by decide⟩ (by exact h)
theorem s_pow3 (h : Q (.int 1000) H) : rPowU (.int 10) (.int 3) H Q := s_powI ⟨by decide, by decide, by decide⟩ (by exact h)
theorem s_pow4 (h : Q (.int 10000) H) : rPowU (.int 10) (.int 4) H Q := s_powI ⟨by decide, by decide, by decide⟩ (by exact h)
theorem s_pow5 (h : Q (.int 100000) H) : rPowU (.int 10) (.int 5) H Q := s_powI ⟨by decide, by decide, by decide⟩ (by exact h)
theorem s_pow6 (h : Q (.int 1000000) H) : rPowU (.int 10) (.int 6) H Q := s_powI ⟨by decide, by decide, by decide⟩ (by exact h)
theorem s_pow7 (h : Q (.int 10000000) H) : rPowU (.int 10) (.int 7) H Q := s_powI ⟨by decide, by decide, by decide⟩ (by exact h)
theorem s_pow8 (h : Q (.int 100000000) H) : rPowU (.int 10) (.int 8) H Q := s_powI ⟨by decide, by decide, by decide⟩ (by exact h)
theorem s_pow9 (h : Q (.int 1000000000) H) : rPowU (.int 10) (.int 9) H Q := s_powI ⟨by decide, by decide, by decide⟩ (by exact h)
theorem s_pow10 (h : Q (.int 10000000000) H) : rPowU (.int 10) (.int 10) H Q := s_powI ⟨by decide, by decide, by decide⟩ (by exact h)
theorem s_pow12 (h : Q (.int 1000000000000) H) : rPowU (.int 10) (.int 12) H Q := s_powI ⟨by decide, by decide, by decide⟩ (by exact h)
theorem s_negI {i : Int} (h : Q (.int (-i)) H) : rNegU (.int i) H Q := ⟨i, rfl, h⟩
theorem s_ltI {i j : Int} (h : Q (.bl (decide (i < j))) H) : rLtI (.int i) (.int j) H Q := ⟨i, j, rfl, rfl, h⟩
theorem s_leI {i j : Int} (h : Q (.bl (decide (i ≤ j))) H) : rLeI (.int i) (.int j) H Q := ⟨i, j, rfl, rfl, h⟩
theorem s_gtI {i j : Int} (h : Q (.bl (decide (j < i))) H) : rGtI (.int i) (.int j) H Q := ⟨i, j, rfl, rfl, h⟩
theorem s_geI {i j : Int} (h : Q (.bl (decide (j ≤ i))) H) : rGeI (.int i) (.int j) H Q := ⟨i, j, rfl, rfl, h⟩
theorem eqvI (i j : Int) : PyData.eqv (.int i) (.int j) = decide (i = j) := by
  simp only [PyData.eqv]
  by_cases h : i = j <;> simp [h]
theorem eqvB (i j : Bool) : PyData.eqv (.bool i) (.bool j) = decide (i = j) := by
  cases i <;> cases j <;> (simp only [PyData.eqv]; rfl)
theorem shI (i : Int) : SeqAt.shaped (.int i) = true := rfl
theorem shB (i : Bool) : SeqAt.shaped (.bool i) = true := rfl
theorem s_eqI {i j : Int} (h : Q (.bl (decide (i = j))) H) : rEqD K (.int i) (.int j) H Q := ⟨_, _, .int i, .int j, shI i, shI j, by rw [eqvI]; exact h⟩
theorem s_neI {i j : Int} (h : Q (.bl (!decide (i = j))) H) : rNeD K (.int i) (.int j) H Q := ⟨_, _, .int i, .int j, shI i, shI j, by rw [eqvI]; exact h⟩
theorem s_eqB {i j : Bool} (h : Q (.bl (decide (i = j))) H) : rEqD K (.bl i) (.bl j) H Q := ⟨_, _, .bl i, .bl j, shB i, shB j, by rw [eqvB]; exact h⟩
theorem s_neB {i j : Bool} (h : Q (.bl (!decide (i = j))) H) : rNeD K (.bl i) (.bl j) H Q := ⟨_, _, .bl i, .bl j, shB i, shB j, by rw [eqvB]; exact h⟩
/-- two data -/
theorem s_eqD {x y : V} {d e : PyData} (hx : Dt K H x d) (hy : Dt K H y e) (sd : SeqAt.shaped d = true) (se : SeqAt.shaped e = true) (h : Q (.bl (PyData.eqv d e)) H) : rEqD K x y H Q := ⟨d, e, hx.dp, hy.dp, sd, se, h⟩
theorem s_neD {x y : V} {d e : PyData} (hx : Dt K H x d) (hy : Dt K H y e) (sd : SeqAt.shaped d = true) (se : SeqAt.shaped e = true) (h : Q (.bl (!PyData.eqv d e)) H) : rNeD K x y H Q := ⟨d, e, hx.dp, hy.dp, sd, se, h⟩
theorem shfr (r : Rat) : SeqAt.shaped (fr r) = true := rfl
theorem eqvfr (r s : Rat) : PyData.eqv (fr r) (fr s) = decide (r = s) := by
  have e : PyData.eqv (fr r) (fr s) = ((r.num == s.num) && (((r.den : Int) == (s.den : Int)) && true)) := by simp only [fr, PyData.eqv, PyData.eqvAll]
  rw [e]
  by_cases h : r = s
  · subst h; simp
  · have : ¬ (r.num = s.num ∧ (r.den : Int) = s.den) := fun ⟨a, b⟩ => h (Rat.ext a (by omega))
    rw [decide_eq_false h]
    by_cases h1 : r.num = s.num
    · have h2 : ¬ (r.den : Int) = s.den := fun z => this ⟨h1, z⟩
      rw [beq_eq_false_iff_ne.mpr h2]; simp
    · rw [beq_eq_false_iff_ne.mpr h1]; simp
theorem s_eqF {x y : V} {d e : Rat} (hx : Dt K H x (fr d)) (hy : Dt K H y (fr e)) (h : Q (.bl (decide (d = e))) H) : rEqD K x y H Q := ⟨_, _, hx.dp, hy.dp, shfr _, shfr _, by rw [eqvfr]; exact h⟩
theorem s_neF {x y : V} {d e : Rat} (hx : Dt K H x (fr d)) (hy : Dt K H y (fr e)) (h : Q (.bl (!decide (d = e))) H) : rNeD K x y H Q := ⟨_, _, hx.dp, hy.dp, shfr _, shfr _, by rw [eqvfr]; exact h⟩
theorem s_eqFF {x y : V} {d : Rat} (hx : Dt K H x (fr d)) (hy : Dt K H y (fr d)) (h : Q (.bl true) H) : rEqD K x y H Q := s_eqF hx hy (by rw [decide_eq_true rfl]; exact h)
theorem s_neFF {x y : V} {d : Rat} (hx : Dt K H x (fr d)) (hy : Dt K H y (fr d)) (h : Q (.bl false) H) : rNeD K x y H Q := s_neF hx hy (by rw [decide_eq_true rfl]; exact h)
theorem sh2 (a b : Rat) : SeqAt.shaped (.tuple [fr a, fr b]) = true := rfl
theorem s_eqD2 {x y : V} {a b : Rat} (hx : Dt K H x (.tuple [fr a, fr b])) (hy : Dt K H y (.tuple [fr a, fr b])) (h : Q (.bl true) H) : rEqD K x y H Q := s_eqD hx hy (sh2 a b) (sh2 a b) (by rw [SeqAt.eqv_refl _ (SeqAt.canLay_of_shaped (sh2 a b))]; exact h)
theorem s_neD2 {x y : V} {a b : Rat} (hx : Dt K H x (.tuple [fr a, fr b])) (hy : Dt K H y (.tuple [fr a, fr b])) (h : Q (.bl false) H) : rNeD K x y H Q := s_neD hx hy (sh2 a b) (sh2 a b) (by rw [SeqAt.eqv_refl _ (SeqAt.canLay_of_shaped (sh2 a b))]; exact h)
-- subscripts
theorem atI_of {α : Type} {xs : List α} {i : Nat} {v : α} (h : xs[i]? = some v) : atI xs (i : Int) = some v := atI_nat h
theorem DtAll.at {vs : List V} {ds : List PyData} (h : DtAll K H vs ds) {i : Int} {d : PyData} (e : atI ds i = some d) : ∃ v, atI vs i = some v ∧ Dt K H v d := by
  unfold atI at e ⊢
  rw [h.len]
  cases q : ixN ds.length i with
  | none => rw [q] at e; cases e
  | some j => rw [q] at e; exact h.get e
theorem s_ixT {x : V} {ds : List PyData} {i : Int} {d : PyData} (hx : Dt K H x (.tuple ds)) (e : atI ds i = some d) (h : ∀ v, Dt K H v d → Q v H) : rIx K x (.int i) H Q := by
  obtain ⟨a, xs, rfl, hs, ha⟩ := hx.tup_inv
  obtain ⟨v, e1, e2⟩ := ha.at e
  exact .inr (.inl ⟨a, xs, i, v, rfl, rfl, hs, e1, h v e2⟩)
theorem s_ixTi {x : V} {ds : List PyData} {i : Int} {z : Int} (hx : Dt K H x (.tuple ds)) (e : atI ds i = some (.int z)) (h : Q (.int z) H) : rIx K x (.int i) H Q :=
  s_ixT hx e fun v hv => by rw [hv.int_eq]; exact h
theorem s_ixTs {x : V} {ds : List PyData} {i : Int} {z : Str} (hx : Dt K H x (.tuple ds)) (e : atI ds i = some (.str z)) (h : Q (.str z) H) : rIx K x (.int i) H Q :=
  s_ixT hx e fun v hv => by rw [hv.str_eq]; exact h
theorem s_ixF0 {x : V} {r : Rat} (hx : Dt K H x (fr r)) (h : Q (.int r.num) H) : rIx K x (.int 0) H Q := s_ixTi (i := 0) hx rfl h
theorem s_ixF1 {x : V} {r : Rat} (hx : Dt K H x (fr r)) (h : Q (.int r.den) H) : rIx K x (.int 1) H Q := s_ixTi (i := 1) hx rfl h
theorem s_ixL {a : Addr} {xs : List V} {i : Int} {v : V} (hs : SqL K H a xs) (e : atI xs i = some v) (h : Q v H) : rIx K (.ref a) (.int i) H Q := .inl ⟨a, xs, i, v, rfl, rfl, hs, e, h⟩
theorem s_ixS {z : Str} {i : Int} {c : Nat} (l : z.length ≤ sizeLine) (e : atI z.cps.toList i = some c) (h : Q (.str ⟨#[c]⟩) H) : rIx K (.str z) (.int i) H Q := .inr (.inr ⟨z, i, c, rfl, rfl, l, e, h⟩)
theorem s_setL {a : Addr} {xs : List V} {i : Int} {j : Nat} {v : V} {N : Hp → Prop} (hs : H a = some (.lst xs)) (e : ixN xs.length i = some j) (h : N (upd H a (.lst (xs.set j v)))) : rSetL (.ref a) (.int i) v H N := ⟨a, xs, i, j, rfl, rfl, hs, e, h⟩
theorem s_ixT0 {x : V} {d0 : PyData} {ds : List PyData} (hx : Dt K H x (.tuple (d0 :: ds))) (h : ∀ v, Dt K H v d0 → Q v H) : rIx K x (.int 0) H Q := s_ixT hx (atI_nat (j := 0) rfl) h
theorem s_ixL0 {a : Addr} {v0 : V} {vs : List V} (hs : SqL K H a (v0 :: vs)) (h : Q v0 H) : rIx K (.ref a) (.int 0) H Q := s_ixL hs (atI_nat (j := 0) rfl) h
theorem s_setL0 {a : Addr} {v0 v : V} {vs : List V} {N : Hp → Prop} (hs : H a = some (.lst (v0 :: vs))) (h : N (upd H a (.lst (v :: vs)))) : rSetL (.ref a) (.int 0) v H N := s_setL (j := 0) hs (by show ixN _ ((0 : Nat) : Int) = some 0; unfold ixN; rw [if_pos (by omega), if_pos (by simp only [List.length_cons]; omega)]; rfl) h
theorem s_ixT1 {x : V} {d0 d1 : PyData} {ds : List PyData} (hx : Dt K H x (.tuple (d0 :: d1 :: ds))) (h : ∀ v, Dt K H v d1 → Q v H) : rIx K x (.int 1) H Q := s_ixT hx (atI_nat (j := 1) rfl) h
theorem s_ixL1 {a : Addr} {v0 v1 : V} {vs : List V} (hs : SqL K H a (v0 :: v1 :: vs)) (h : Q v1 H) : rIx K (.ref a) (.int 1) H Q := s_ixL hs (atI_nat (j := 1) rfl) h
theorem s_setL1 {a : Addr} {v0 v1 v : V} {vs : List V} {N : Hp → Prop} (hs : H a = some (.lst (v0 :: v1 :: vs))) (h : N (upd H a (.lst (v0 :: v :: vs)))) : rSetL (.ref a) (.int 1) v H N := s_setL (j := 1) hs (by show ixN _ ((1 : Nat) : Int) = some 1; unfold ixN; rw [if_pos (by omega), if_pos (by simp only [List.length_cons]; omega)]; rfl) h
theorem s_ixT2 {x : V} {d0 d1 d2 : PyData} {ds : List PyData} (hx : Dt K H x (.tuple (d0 :: d1 :: d2 :: ds))) (h : ∀ v, Dt K H v d2 → Q v H) : rIx K x (.int 2) H Q := s_ixT hx (atI_nat (j := 2) rfl) h
theorem s_ixL2 {a : Addr} {v0 v1 v2 : V} {vs : List V} (hs : SqL K H a (v0 :: v1 :: v2 :: vs)) (h : Q v2 H) : rIx K (.ref a) (.int 2) H Q := s_ixL hs (atI_nat (j := 2) rfl) h
theorem s_setL2 {a : Addr} {v0 v1 v2 v : V} {vs : List V} {N : Hp → Prop} (hs : H a = some (.lst (v0 :: v1 :: v2 :: vs))) (h : N (upd H a (.lst (v0 :: v1 :: v :: vs)))) : rSetL (.ref a) (.int 2) v H N := s_setL (j := 2) hs (by show ixN _ ((2 : Nat) : Int) = some 2; unfold ixN; rw [if_pos (by omega), if_pos (by simp only [List.length_cons]; omega)]; rfl) h
theorem s_ixT3 {x : V} {d0 d1 d2 d3 : PyData} {ds : List PyData} (hx : Dt K H x (.tuple (d0 :: d1 :: d2 :: d3 :: ds))) (h : ∀ v, Dt K H v d3 → Q v H) : rIx K x (.int 3) H Q := s_ixT hx (atI_nat (j := 3) rfl) h
theorem s_ixL3 {a : Addr} {v0 v1 v2 v3 : V} {vs : List V} (hs : SqL K H a (v0 :: v1 :: v2 :: v3 :: vs)) (h : Q v3 H) : rIx K (.ref a) (.int 3) H Q := s_ixL hs (atI_nat (j := 3) rfl) h
theorem s_setL3 {a : Addr} {v0 v1 v2 v3 v : V} {vs : List V} {N : Hp → Prop} (hs : H a = some (.lst (v0 :: v1 :: v2 :: v3 :: vs))) (h : N (upd H a (.lst (v0 :: v1 :: v2 :: v :: vs)))) : rSetL (.ref a) (.int 3) v H N := s_setL (j := 3) hs (by show ixN _ ((3 : Nat) : Int) = some 3; unfold ixN; rw [if_pos (by omega), if_pos (by simp only [List.length_cons]; omega)]; rfl) h
theorem s_ixT4 {x : V} {d0 d1 d2 d3 d4 : PyData} {ds : List PyData} (hx : Dt K H x (.tuple (d0 :: d1 :: d2 :: d3 :: d4 :: ds))) (h : ∀ v, Dt K H v d4 → Q v H) : rIx K x (.int 4) H Q := s_ixT hx (atI_nat (j := 4) rfl) h
theorem s_ixL4 {a : Addr} {v0 v1 v2 v3 v4 : V} {vs : List V} (hs : SqL K H a (v0 :: v1 :: v2 :: v3 :: v4 :: vs)) (h : Q v4 H) : rIx K (.ref a) (.int 4) H Q := s_ixL hs (atI_nat (j := 4) rfl) h
theorem s_setL4 {a : Addr} {v0 v1 v2 v3 v4 v : V} {vs : List V} {N : Hp → Prop} (hs : H a = some (.lst (v0 :: v1 :: v2 :: v3 :: v4 :: vs))) (h : N (upd H a (.lst (v0 :: v1 :: v2 :: v3 :: v :: vs)))) : rSetL (.ref a) (.int 4) v H N := s_setL (j := 4) hs (by show ixN _ ((4 : Nat) : Int) = some 4; unfold ixN; rw [if_pos (by omega), if_pos (by simp only [List.length_cons]; omega)]; rfl) h
theorem s_ixT5 {x : V} {d0 d1 d2 d3 d4 d5 : PyData} {ds : List PyData} (hx : Dt K H x (.tuple (d0 :: d1 :: d2 :: d3 :: d4 :: d5 :: ds))) (h : ∀ v, Dt K H v d5 → Q v H) : rIx K x (.int 5) H Q := s_ixT hx (atI_nat (j := 5) rfl) h
theorem s_ixL5 {a : Addr} {v0 v1 v2 v3 v4 v5 : V} {vs : List V} (hs : SqL K H a (v0 :: v1 :: v2 :: v3 :: v4 :: v5 :: vs)) (h : Q v5 H) : rIx K (.ref a) (.int 5) H Q := s_ixL hs (atI_nat (j := 5) rfl) h
theorem s_setL5 {a : Addr} {v0 v1 v2 v3 v4 v5 v : V} {vs : List V} {N : Hp → Prop} (hs : H a = some (.lst (v0 :: v1 :: v2 :: v3 :: v4 :: v5 :: vs))) (h : N (upd H a (.lst (v0 :: v1 :: v2 :: v3 :: v4 :: v :: vs)))) : rSetL (.ref a) (.int 5) v H N := s_setL (j := 5) hs (by show ixN _ ((5 : Nat) : Int) = some 5; unfold ixN; rw [if_pos (by omega), if_pos (by simp only [List.length_cons]; omega)]; rfl) h
-- calls of built-ins
theorem s_lenL {a : Addr} {xs : List V} (hs : SqL K H a xs) (h : Q (.int xs.length) H) : rLenU K [.ref a] H Q := ⟨.ref a, xs.length, rfl, .inl ⟨xs, hs, rfl⟩, h⟩
theorem s_lenT {x : V} {ds : List PyData} (hx : Dt K H x (.tuple ds)) (h : Q (.int ds.length) H) : rLenU K [x] H Q := by
  obtain ⟨a, xs, rfl, hs, ha⟩ := hx.tup_inv
  exact ⟨.ref a, xs.length, rfl, .inr ⟨xs, hs, rfl⟩, by rw [ha.len]; exact h⟩
theorem size1 {a : V} : [a].length ≤ sizeLine := by show 1 ≤ sizeLine; decide
theorem size2 {a b : V} : [a, b].length ≤ sizeLine := by show 2 ≤ sizeLine; decide
theorem size3 {a b c : V} : [a, b, c].length ≤ sizeLine := by show 3 ≤ sizeLine; decide
theorem size4 {a b c d : V} : [a, b, c, d].length ≤ sizeLine := by show 4 ≤ sizeLine; decide
theorem abs_if (i : Int) : (if i < 0 then -i else i) = (i.natAbs : Int) := by
  by_cases h : i < 0
  · rw [if_pos h]; omega
  · rw [if_neg h]; omega
theorem s_abs {i : Int} (h : Q (.int (i.natAbs : Int)) H) : rAbsU [.int i] H Q := ⟨i, rfl, by rw [abs_if]; exact h⟩
theorem lt_dec (r s : Rat) : decide (r.num * (s.den : Int) < s.num * (r.den : Int)) = decide (r < s) := by
  by_cases h : r < s
  · rw [decide_eq_true h, decide_eq_true ((Rat.lt_iff r s).mp h)]
  · rw [decide_eq_false h, decide_eq_false (fun z => h ((Rat.lt_iff r s).mpr z))]
theorem mz_of {i j : Int} {n m : Nat} (h : i.natAbs < 2 ^ n) (k : j.natAbs < 2 ^ m) (h0 : 0 < n) (k0 : 0 < m) (l : n + m ≤ 1000000) : CMulZ i j := .inr (wide_mul h k h0 k0 l)
theorem mz_nd {r s : Rat} (h : Sz 400000 r) (k : Sz 400000 s) : CMulZ r.num s.den := mz_of h.1 k.dA (by decide) (by decide) (by decide)
theorem mz_nn {r s : Rat} (h : Sz 400000 r) (k : Sz 400000 s) : CMulZ r.num s.num := mz_of h.1 k.1 (by decide) (by decide) (by decide)
theorem mz_dd {r s : Rat} (h : Sz 400000 r) (k : Sz 400000 s) : CMulZ r.den s.den := mz_of h.dA k.dA (by decide) (by decide) (by decide)
theorem mz_dn {r s : Rat} (h : Sz 400000 r) (k : Sz 400000 s) : CMulZ r.den s.num := mz_of h.dA k.1 (by decide) (by decide) (by decide)
theorem cz_l {i j : Int} (h : -18446744073709551616 < i) (k : i < 18446744073709551616) : CMulZ i j := .inl (.inl ⟨h, k⟩)
theorem cz_r {i j : Int} (h : -18446744073709551616 < j) (k : j < 18446744073709551616) : CMulZ i j := .inl (.inr ⟨h, k⟩)
theorem dz_of {i j : Int} {n : Nat} (h : j ≠ 0) (k : j.natAbs < 2 ^ n) (h0 : 0 < n) (l : n ≤ 9000) : CDivZ i j := ⟨h, Nat.lt_of_lt_of_le (PySem.Flt.log2_lt_of h0 k) l⟩
theorem dz_sm {i j : Int} (h : 0 < j) (k : j < 18446744073709551616) : CDivZ i j := dz_of (n := 64) (by omega) (by omega) (by decide) (by decide)
theorem s_max {i j : Int} (h : Q (.int (if j > i then j else i)) H) : rMaxU [.int i, .int j] H Q := ⟨i, j, rfl, h⟩
theorem s_min {i j : Int} (h : Q (.int (if j < i then j else i)) H) : rMinU [.int i, .int j] H Q := ⟨i, j, rfl, h⟩
theorem kit_ii : kitB "int" "int" = some true := by decide +kernel
theorem kit_ib : kitB "int" "bool" = some false := by decide +kernel
theorem kit_bi : kitB "bool" "int" = some true := by decide +kernel
theorem kit_bb : kitB "bool" "bool" = some true := by decide +kernel
theorem kit_tt : kitB "tuple" "tuple" = some true := by decide +kernel
theorem s_isII {i : Int} (h : Q (.bl true) H) : rIsi K [.int i, .ty "int"] H Q := ⟨_, _, _, _, true, rfl, .ty _, .base (.int i), kit_ty kit_ii, h⟩
theorem s_isIB {i : Int} (h : Q (.bl false) H) : rIsi K [.int i, .ty "bool"] H Q := ⟨_, _, _, _, false, rfl, .ty _, .base (.int i), kit_ty kit_ib, h⟩
theorem s_isBI {b : Bool} (h : Q (.bl true) H) : rIsi K [.bl b, .ty "int"] H Q := ⟨_, _, _, _, true, rfl, .ty _, .base (.bl b), kit_ty kit_bi, h⟩
theorem s_isBB {b : Bool} (h : Q (.bl true) H) : rIsi K [.bl b, .ty "bool"] H Q := ⟨_, _, _, _, true, rfl, .ty _, .base (.bl b), kit_ty kit_bb, h⟩
theorem Dt.tyT {x : V} {ds : List PyData} (hx : Dt K H x (.tuple ds)) : TyX K H x (.type "tuple") := by
  obtain ⟨a, xs, rfl, hs, _⟩ := hx.tup_inv
  rcases hs with (h | ⟨o, h⟩) | ⟨o, its, n, h, c, _⟩
  · exact .base (.tup h)
  · exact .fTuple h
  · exact .kTuple h c
theorem s_isTT {x : V} {ds : List PyData} (hx : Dt K H x (.tuple ds)) (h : Q (.bl true) H) : rIsi K [x, .ty "tuple"] H Q := ⟨_, _, _, _, true, rfl, .ty _, hx.tyT, kit_ty kit_tt, h⟩
end
/-! ### the law's bag: [the script's numbers, how many are taken, what is left of a great one, the salt] -/
def Bag (H : Hp) (b l : Addr) : Prop := ∃ (ns : List Int) (p r z : Int), H b = some (.lst [.ref l, .int p, .int r, .int z]) ∧ H l = some (.lst (ns.map V.int)) ∧ 0 ≤ p ∧ -(2 ^ 40) < z ∧ z < 2 ^ 40 ∧ l ≠ b
theorem Bag.same {H H' : Hp} {b l : Addr} (s : Same H H') (h : Bag H b l) : Bag H' b l := by
  obtain ⟨ns, p, r, z, h1, h2, h3⟩ := h
  exact ⟨ns, p, r, z, s _ _ h1, s _ _ h2, h3⟩
theorem Bag.upd {H : Hp} {b l q : Addr} {o : HO} (h : Bag H b l) (n1 : q ≠ b) (n2 : q ≠ l) : Bag (upd H q o) b l := by
  obtain ⟨ns, p, r, z, h1, h2, h3⟩ := h
  exact ⟨ns, p, r, z, (upd_ne n1.symm).trans h1, (upd_ne n2.symm).trans h2, h3⟩
theorem Bag.ne1 {H : Hp} {b l q : Addr} (h : Bag H b l) (n : H q = none) : q ≠ b := fun e => by
  obtain ⟨_, _, _, _, h1, _⟩ := h
  rw [e, h1] at n
  cases n
theorem Bag.ne2 {H : Hp} {b l q : Addr} (h : Bag H b l) (n : H q = none) : q ≠ l := fun e => by
  obtain ⟨_, _, _, _, _, h1, _⟩ := h
  rw [e, h1] at n
  cases n
theorem Bag.ne1' {H : Hp} {b l q : Addr} (n : H q = none) (h : Bag H b l) : q ≠ b := h.ne1 n
theorem Bag.ne2' {H : Hp} {b l q : Addr} (n : H q = none) (h : Bag H b l) : q ≠ l := h.ne2 n
theorem Bag.new {H : Hp} {b l q : Addr} {o : HO} (h : Bag H b l) (n : H q = none) : Bag (L2.upd H q o) b l := h.same (same_new n)
theorem but_of {H H' : Hp} {b l : Addr} (h : Bag H b l) (k : ∀ a o, a ≠ b → H a = some o → H' a = some o) : But b H H' := ⟨k, by obtain ⟨_, _, _, _, h1, _⟩ := h; exact ⟨_, h1⟩⟩
theorem But.same {H H1 H2 : Hp} {b : Addr} (s : But b H H1) (t : Same H1 H2) : But b H H2 := ⟨fun a o n h => t _ _ (s.oth a o n h), s.lst⟩
theorem But.trans {H H1 H2 : Hp} {b : Addr} (s : But b H H1) (t : But b H1 H2) : But b H H2 := ⟨fun a o n h => t.oth a o n (s.oth a o n h), s.lst⟩
theorem But.ofSame {H H1 : Hp} {b l : Addr} (h : Bag H b l) (t : Same H H1) : But b H H1 := but_of h fun a o _ e => t a o e
theorem but_mut {H H1 : Hp} {b q : Addr} {o : HO} (s : But b H H1) (n : H q = none) : But b H (upd H1 q o) := ⟨fun a u k h => by rw [upd_ne (ne_of_none h n)]; exact s.oth a u k h, s.lst⟩
theorem But.free {H H1 : Hp} {b q : Addr} (s : But b H H1) (nb : q ≠ b) (h : H1 q = none) : H q = none := by
  cases e : H q with
  | none => rfl
  | some o => rw [s.oth q o nb e] at h; cases h
/-- a def upon data that lays nothing -/
def spV {α : Type} (K : PySem.W.Frag) (arg : α → List PyData) (pre : α → Prop) (res : α → V) : Sp := fun vs H Q _ => ∃ x : α, DtAll K H vs (arg x) ∧ pre x ∧ Q (res x) H
theorem spV.len {α : Type} {K : PySem.W.Frag} {arg : α → List PyData} {pre : α → Prop} {res : α → V} {n : Nat} (hn : ∀ x, (arg x).length = n) {vs : List V} {H : Hp} {Q : VK} {E : XK} (h : spV K arg pre res vs H Q E) : vs.length = n := by
  obtain ⟨x, h, _⟩ := h
  exact h.len.trans (hn x)
theorem da1 {K : PySem.W.Frag} {H : Hp} {vs : List V} {a : PyData} (h : DtAll K H vs [a]) : ∃ x, vs = [x] ∧ Dt K H x a := by
  cases h with | cons h t => cases t; exact ⟨_, rfl, h⟩
theorem da2 {K : PySem.W.Frag} {H : Hp} {vs : List V} {a b : PyData} (h : DtAll K H vs [a, b]) : ∃ x y, vs = [x, y] ∧ Dt K H x a ∧ Dt K H y b := by
  cases h with | cons h t => obtain ⟨y, rfl, k⟩ := da1 t; exact ⟨_, _, rfl, h, k⟩
theorem da3 {K : PySem.W.Frag} {H : Hp} {vs : List V} {a b c : PyData} (h : DtAll K H vs [a, b, c]) : ∃ x y z, vs = [x, y, z] ∧ Dt K H x a ∧ Dt K H y b ∧ Dt K H z c := by
  cases h with | cons h t => obtain ⟨y, z, rfl, k⟩ := da2 t; exact ⟨_, _, _, rfl, h, k⟩
/-- a draw: args behind the bag, what is asked of them, what comes -/
def spB {α : Type} (K : PySem.W.Frag) (arg : α → List PyData) (pre : α → Prop) (post : α → PyData → Prop) : Sp := fun vs H Q _ => ∃ (b l : Addr) (ws : List V) (x : α), vs = .ref b :: ws ∧ Bag H b l ∧ DtAll K H ws (arg x) ∧ pre x ∧
  ∀ v d H', But b H H' → Bag H' b l → post x d → Dt K H' v d → Q v H'
/-- a def upon data -/
def spP {α : Type} (K : PySem.W.Frag) (arg : α → List PyData) (pre : α → Prop) (res : α → PyData) : Sp := fun vs H Q _ => ∃ x : α, DtAll K H vs (arg x) ∧ pre x ∧ ∀ v H', Same H H' → Dt K H' v (res x) → Q v H'
theorem spB.len {α : Type} {K : PySem.W.Frag} {arg : α → List PyData} {pre : α → Prop} {post : α → PyData → Prop} {n : Nat} (hn : ∀ x, (arg x).length = n) {vs : List V} {H : Hp} {Q : VK} {E : XK} (h : spB K arg pre post vs H Q E) : vs.length = n + 1 := by
  obtain ⟨b, l, ws, x, rfl, _, h, _⟩ := h
  exact congrArg Nat.succ (h.len.trans (hn x))
theorem spP.len {α : Type} {K : PySem.W.Frag} {arg : α → List PyData} {pre : α → Prop} {res : α → PyData} {n : Nat} (hn : ∀ x, (arg x).length = n) {vs : List V} {H : Hp} {Q : VK} {E : XK} (h : spP K arg pre res vs H Q E) : vs.length = n := by
  obtain ⟨x, h, _⟩ := h
  exact h.len.trans (hn x)
end Cr

namespace Cr
open PySem PySem.Spec PyProof.Rows L2
/-! ### own error classes without an __init__ of their own -/
structure ExcT (K : PySem.W.Frag) (mg : Str → Option Value) (x : Str) (C : Addr) (bm : List Value) (new : String) : Prop where
  g : mg x = some (.ref C)
  q : PySem.W.excIn K C bm new = true
  k : PySem.W.keepIn K (.ref C) = true
  s : PySem.W.subIn K (.ref C) (.type "BaseException") = some true
  t : PySem.W.typeIn K (.ref C) = some (.type "type")
  hd : PySem.W.hasDictIn K C = true
  self : PySem.W.subIn K (.ref C) (.ref C) = some true
theorem ExcT.te {K : PySem.W.Frag} {mg : Str → Option Value} {x : Str} {C : Addr} {bm : List Value} {new : String} (T : ExcT K mg x C bm new) : PySem.W.exmOne K (.ref C) (.ref C) = some true := PySem.W.exm_ref T.s T.hd T.t T.self
section
variable {X : Cx} {pos : Pos}
/-- C(), an own error without arguments -/
theorem pmk_own0 {C : Addr} {bmB : List Value} {B newId initId : String} {x : Str} {p : Pos} (F : ExcBaseFacts B newId initId bmB) (q : PySem.W.excIn X.K C bmB newId = true) (gC : X.mg x = some (.ref C))
    (kC : PySem.W.keepIn X.K (.ref C) = true) (r : Raises X (.ref C)) (hg : Gl X x) (hdb : (x == ("__debug__" : Str)) = false := by decide) :
    PMk X (.Call (.Name x p) [] [] pos) (fun _ H Q => Q (.ref C) none H) := by
  intro pins s σ H Q I h
  refine wpAny_Call_Name_kw (ld_glob I hg gC ?_ hdb)
  refine PySem.W.callWith_K0 I.kIn kC ?_
  show wpAny _ _ (call (.ref C) []) _ _ _
  obtain ⟨bm, N, nm, qn, bs, hdct, sn, sub, ab, col, dd, k0, k1, k2, k3, k5, mN, hC, hN, hni, T⟩ := exc_obj I.kIn q
  refine wpAny_call_exc_subT F T hC hN hni (fun h' e hm => ?_) (Nat.zero_le _)
  exact mk_of I hm r h (I.hok.gone hm.new)
end
/-! ### calls with keywords -/
theorem kb1 {K : PySem.W.Frag} {x qual : Str} {params : Arguments} {body : List Stmt} {scope : Scope} {dvs : List V} {kws : List (Str × V)} {f : Addr} {fd : FuncData} {ps : List Str} (F : FunD K x qual params body scope dvs kws f fd) (n : Nat) (ks : List Str)
    (g : {α : Type} → List α → List α → List α → List α) (hd : dvs ≠ [])
    (hrel : ∀ {vs ds zs : List V} {us its ws : List Value}, Vals vs us → Vals ds its → Vals zs ws → Vals (g vs ds zs) (g us its ws))
    (h : ∀ (T : Addr) (kV doc pm : Value) (an : Option Addr) (cdv ct : Value) (us its ws : List Value), us.length = n → its.length = dvs.length → ws.length = ks.length →
      ∃ k, bindArgs (PySem.W.fnOf x qual params body scope (.ref T) kV doc pm an cdv ct) ⟨us, ks.zip ws⟩ = seqItems? (.ref T) >>= k ∧ k (some its.toArray) = pure (ps.zip (g us its ws))) :
    ∃ its : List Value, KBn K fd ps n ks (fun us ws => g us its ws) (fun vs zs => g vs dvs zs) := by
  obtain ⟨oc, od, dV, kV, doc, pm, an, cdv, ct, osl, rfl, lk, hcd, hD, hK⟩ := F.ex
  rcases hD with ⟨e, _⟩ | ⟨_, T, o, its, m, rfl, lT, oT, rT⟩
  · exact absurd e hd
  · refine ⟨its, ⟨fun s us ws X l1 l2 => ?_, fun r1 r2 => hrel r1 rT r2⟩⟩
    obtain ⟨k, e1, e2⟩ := h T kV doc pm an cdv ct us its ws l1 rT.length.symm l2
    refine BindsTo.of_looks fun M => ?_
    rw [e1]
    exact looks_items X lT oT (.of_pure e2)
/-- f(k = v, ..) -/
theorem pe_callN0 {X : Cx} {CX : CXT} {k : Nat} {f : Addr} {fd : FuncData} {ps ks : List Str} {sp : Sp} {E : XK} {x : Str} {p pos : Pos} {kws : List Keyword} {tk : TA} {g : List Value → List Value → List Value} {gV : List V → List V → List V}
    (F : FnOk X.prog X.w X.K X.mg X.base CX k f fd ps sp) (hr : Room k X.A) (hg : Gl X x) (hm : X.mg x = some (.ref f)) (hk : PySem.W.keepIn X.K (.ref f) = true) (hb : KBn X.K fd ps 0 ks g gV) (hx : Passes CX X E)
    (hkw : PK X kws tk) (hall : (backToKw pos (keywordEach kws X.env)).all (·.1.isSome) = true := by rfl) (hks : (backToKw pos (keywordEach kws X.env)).filterMap (·.1) = ks := by rfl)
    (hdb : (x == ("__debug__" : Str)) = false := by decide)
    (hpl : ((backTo pos (starEach [] X.env)).any (·.1) || (backToKw pos (keywordEach kws X.env)).any (·.1.isNone)) = false := by rfl) :
    PE X (.Call (.Name x p) [] kws pos) (tCallN 0 ks.length sp gV E tNil tk) := by
  refine ⟨fun pins s σ H Q I h => ?_⟩
  refine wpAny_Call_Name_kw (ld_glob I hg hm ?_ hdb)
  refine PySem.W.callWith_KW0 (h₀ := X.base) I.ok.mod.kin hk hall ?_ hpl
  refine thn (hkw.run pos pins s σ H _ I h) fun ws s2 ⟨zs, H2, I2, rz, l1, l2, q2⟩ => ⟨I2.kIn, ?_⟩
  rw [hks]
  exact run_fnN (us := []) (vs := []) F hr hb hx I2 .nil rz rfl l2 q2
theorem kit_sub {K : PySem.W.Frag} {D : Addr} {n : String} {b : Bool} (m : PySem.W.kitMeta n = true) (e : PySem.W.subIn K (.ref D) (.type n) = some b) : PySem.W.kitOne K (.ref D) (.type n) = some b := by
  show (if (Value.ref D == Value.type n) = true then some true else (if PySem.W.kitMeta n = true then PySem.W.subIn K (.ref D) (.type n) else none)) = some b
  rw [if_neg (by intro h; cases (beq_iff_eq.mp h)), if_pos m]
  exact e
/-- isinstance of the error that the suite holds -/
def rIsX (K : PySem.W.Frag) (D a : Addr) (cls : Value) (d : Option Addr) : List V → Hp → VK → Prop := fun xs H Q => cls = .ref D ∧ d = none ∧ rIsE K D a xs H Q
theorem call_isX {X : Cx} {a D : Addr} {oe : Obj} {pn : List (Addr × Obj)} {cls : Value} {d : Option Addr} (C : ExcC X.K D) (hz : Zc cls d oe) (hf : ∃ vs, oe.data = .fields vs) : CallR (X.suite a ((a, oe) :: pn)) (.builtin "isinstance") (rIsX X.K D a cls d) := by
  intro pins s σ H xs us Q I r h
  obtain ⟨rfl, rfl, h⟩ := h
  exact call_isE C hz hf pins s σ H xs us Q I r h
section
variable {K : PySem.W.Frag} {σ : St} {H : Hp} {Q : VK} {D : Ends}
theorem s_callS {sp : Sp} {E : St → XK} {t : TA} (h : t σ H fun vs H1 => sp vs H1 Q (E σ)) : tCallS sp E t σ H Q := h
theorem s_caught {C : Addr} {ts : Addr → Value → Option Addr → TS} {Wout : WX} {d : Option Addr} (e : PySem.W.exmOne K (.ref C) (.ref C) = some true) (h : ∀ a, H a = none → ts a (.ref C) d D σ H) : wOnly K (.ref C) ts Wout D (.ref C) d σ H :=
  ⟨true, e, fun _ a ha => h a ha, fun z => Bool.noConfusion z⟩
theorem s_callN {n m : Nat} {sp : Sp} {gV : List V → List V → List V} {E : XK} {t tk : TA} (h : t σ H fun vs H1 => tk σ H1 fun zs H2 => vs.length = n ∧ zs.length = m ∧ sp (gV vs zs) H2 Q E) : tCallN n m sp gV E t tk σ H Q := h
theorem s_lens {vs zs : List V} {n m : Nat} {N : Prop} (h1 : vs.length = n) (h2 : zs.length = m) (h : N) : vs.length = n ∧ zs.length = m ∧ N := ⟨h1, h2, h⟩
theorem s_isX {D a : Addr} {n : String} {b : Bool} (e : PySem.W.kitOne K (.ref D) (.type n) = some b) (h : Q (.bl b) H) : rIsX K D a (.ref D) none [.ref a, .ty n] H Q := ⟨rfl, rfl, .ty n, .type n, b, rfl, fun _ r => r, e, h⟩
theorem s_caughtAs {C : Addr} {i : Nat} {ts : Addr → Value → Option Addr → TS} {Wout : WX} {d : Option Addr} (e : PySem.W.exmOne K (.ref C) (.ref C) = some true)
    (h : ∀ a, H a = none → ts a (.ref C) d { nx := fun σ' H' => D.nx (σ'.set i none) H', rt := D.rt, bk := fun σ' H' => D.bk (σ'.set i none) H', ct := fun σ' H' => D.ct (σ'.set i none) H' } (σ.set i (some (.ref a))) H) : wAs K (.ref C) i ts Wout D (.ref C) d σ H :=
  ⟨true, e, fun _ => h, fun z => Bool.noConfusion z⟩
end
/-! ### lots: instances that never change once they are made -/
def isZ : HO → Bool
  | .ins _ _ _ => true
  | o => isT o
def KI (H H' : Hp) : Prop := ∀ a o, H a = some o → isZ o = true → H' a = some o
theorem isZ_T {o : HO} (h : isT o = true) : isZ o = true := by cases o <;> first | exact h | rfl
theorem KI.kt {H H' : Hp} (k : KI H H') : KT H H' := fun a o h t => k a o h (isZ_T t)
theorem ki_same {H H' : Hp} (s : Same H H') : KI H H' := fun a o h _ => s a o h
theorem ki_new {H : Hp} {p : Addr} {o : HO} (h : H p = none) : KI H (upd H p o) := fun a u e _ => by rw [upd_ne (ne_of_none e h)]; exact e
theorem ki_mut {H : Hp} {p : Addr} {o o' : HO} (h : H p = some o) (t : isZ o = false) : KI H (upd H p o') := fun a u e k => by
  rw [upd_ne (fun z => by subst z; rw [h] at e; cases e; rw [t] at k; cases k)]; exact e
theorem ki_but {b : Addr} {H H' : Hp} (s : But b H H') : KI H H' := fun a o h t => s.oth a o (fun z => by subst z; obtain ⟨xs, e⟩ := s.lst; rw [e] at h; cases h; cases t) h
def IsLot (K : PySem.W.Frag) (C : Addr) (H : Hp) (v : V) (w m : Rat) : Prop := ∃ (a dx : Addr) (x y : V), v = .ref a ∧ H a = some (.ins C dx [(("worth" : Str), x), (("mark" : Str), y)]) ∧ Dt K H x (fr w) ∧ Dt K H y (fr m)
section
variable {K : PySem.W.Frag} {C : Addr} {H H' : Hp} {v : V} {w m : Rat} {Q : VK} {σ : St}
theorem IsLot.mono (k : KI H H') (h : IsLot K C H v w m) : IsLot K C H' v w m := by
  obtain ⟨a, dx, x, y, e, h1, h2, h3⟩ := h
  exact ⟨a, dx, x, y, e, k _ _ h1 rfl, h2.mono k.kt, h3.mono k.kt⟩
theorem wm : ¬ (("worth" : Str) = "mark") := by decide +kernel
def FldQ (K : PySem.W.Frag) (x : V) (f : Str) (H : Hp) (Q : VK) : Prop := ∃ a C dx fs v, x = V.ref a ∧ H a = some (.ins C dx fs) ∧ Cls K C ∧ NoAttr K C f ∧ fs.lookup f = some v ∧ Q v H
theorem s_fld {ta : TE} {f : Str} (h : ta σ H fun x H1 => FldQ K x f H1 Q) : tFld K ta f σ H Q := h
theorem s_worth (h : IsLot K C H v w m) (c : Cls K C) (n : NoAttr K C "worth") (q : ∀ x, Dt K H x (fr w) → Q x H) : FldQ K v "worth" H Q := by
  obtain ⟨a, dx, x, y, e, h1, h2, h3⟩ := h
  exact ⟨a, C, dx, _, x, e, h1, c, n, by
    show List.lookup ("worth" : Str) [(("worth" : Str), x), (("mark" : Str), y)] = some x
    rw [List.lookup_cons, show (("worth" : Str) == "worth") = true by decide +kernel], q x h2⟩
theorem s_mark (h : IsLot K C H v w m) (c : Cls K C) (n : NoAttr K C "mark") (q : ∀ x, Dt K H x (fr m) → Q x H) : FldQ K v "mark" H Q := by
  obtain ⟨a, dx, x, y, e, h1, h2, h3⟩ := h
  exact ⟨a, C, dx, _, y, e, h1, c, n, by
    show List.lookup ("mark" : Str) [(("worth" : Str), x), (("mark" : Str), y)] = some y
    rw [List.lookup_cons, show (("mark" : Str) == "worth") = false by decide +kernel]
    rfl, q y h3⟩
def MethQ (C : Addr) (m : Str) (x : V) (H : Hp) (N : Prop) : Prop := ∃ a dx fs, x = V.ref a ∧ H a = some (.ins C dx fs) ∧ fs.lookup m = none ∧ N
theorem s_meth {mn : Str} {sp : Sp} {dvs : List V} {E : XK} {ta : TE} {t : TA} (h : ta σ H fun x H1 => MethQ C mn x H1 (t σ H1 fun vs H2 => sp (x :: (vs ++ dvs)) H2 Q E)) : tMeth C mn sp dvs E ta t σ H Q := h
theorem s_mlot {mn : Str} {N : Prop} (h : IsLot K C H v w m) (e1 : (mn == ("worth" : Str)) = false) (e2 : (mn == ("mark" : Str)) = false) (n : N) : MethQ C mn v H N := by
  obtain ⟨a, dx, x, y, e, h1, _⟩ := h
  exact ⟨a, dx, _, e, h1, by
    rw [List.lookup_cons, e1, List.lookup_cons, e2]
    rfl, n⟩
def MakeQ (C : Addr) (sp : Sp) (dvs : List V) (E : XK) (vs : List V) (H : Hp) (Q : VK) : Prop := ∀ x dx, H x = none → H dx = none → dx ≠ x →
  sp (.ref x :: (vs ++ dvs)) (upd (upd H dx (.own x)) x (.ins C dx [])) (fun v H2 => v = .non ∧ Q (.ref x) H2) E
theorem s_make {sp : Sp} {dvs : List V} {E : XK} {t : TA} (h : t σ H fun vs H1 => MakeQ C sp dvs E vs H1 Q) : tMake C sp dvs E t σ H Q := h
end
end Cr
namespace Cr
open PySem PySem.Spec PyProof.Rows L2
theorem units65 {k : Nat} {A : Around} (r : Room k A) : A.units + 65 < cLine := by have := r.un; omega
/-! ### a cut behind a statement; list comprehensions; more of built-ins -/
inductive A2 {α β : Type} (R : α → β → Prop) : List α → List β → Prop
  | nil : A2 R [] []
  | cons {x : α} {y : β} {xs : List α} {ys : List β} : R x y → A2 R xs ys → A2 R (x :: xs) (y :: ys)
theorem A2.mono {α β : Type} {R S : α → β → Prop} (h : ∀ x y, R x y → S x y) : ∀ {xs : List α} {ys : List β}, A2 R xs ys → A2 S xs ys
  | _, _, .nil => .nil
  | _, _, .cons a b => .cons (h _ _ a) (A2.mono h b)
theorem A2.snoc {α β : Type} {R : α → β → Prop} {x : α} {y : β} (r : R x y) : ∀ {xs : List α} {ys : List β}, A2 R xs ys → A2 R (xs ++ [x]) (ys ++ [y])
  | _, _, .nil => .cons r .nil
  | _, _, .cons a b => .cons a (A2.snoc r b)
theorem A2.len {α β : Type} {R : α → β → Prop} : ∀ {xs : List α} {ys : List β}, A2 R xs ys → xs.length = ys.length
  | _, _, .nil => rfl
  | _, _, .cons _ b => congrArg Nat.succ (A2.len b)
section
variable {K : PySem.W.Frag} {σ : St} {H : Hp} {Q : VK} {D : Ends}
theorem s_cut {t : TS} (js : List Nat) (I : (Nat → Option V) → Hp → Prop) (h : ∀ N' : St → Hp → Prop, (∀ σ' H', σ' = sets σ js (fun j => (σ'[j]?).join) → I (fun j => (σ'[j]?).join) H' → N' σ' H') → t { D with nx := N' } σ H)
    (hN : ∀ f H', I f H' → D.nx (sets σ js f) H') : t D σ H := h D.nx fun σ' H' e i => by rw [e]; exact hN _ H' i
def LcR (J : It) (g : TG) (tt : TT) (te : TE) (vs : List Nat) (σ : St) (H1 : Hp) (Q : VK) : Prop := ∀ D, H1 D = none → ∃ W : Nat → Nat → Hp → Prop, (∃ m, W 0 m (upd H1 D (.lst []))) ∧ ∀ i m H, W i m H →
  (J.stop i H ∧ Q (.ref D) H) ∨ (J.go i H ∧ ∃ Nx : Hp → Prop, (∀ H', Nx H' → ∃ m', m' < m ∧ W (i + 1) m' H') ∧ ∀ x H', J.yld i H x H' → g x (wipe σ vs) H' fun σ2 H2 => wipe σ2 vs = wipe σ vs ∧ tt σ2 H2 fun b H3 =>
    if b = true then te σ2 H3 fun y H4 => ∃ acc, H4 D = some (.lst acc) ∧ acc.length < sizeLine ∧ Nx (upd H4 D (.lst (acc ++ [y]))) else Nx H3)
theorem s_lc {wi : TI} {g : TG} {tt : TT} {te : TE} {vs : List Nat} (h : wi σ H fun J H1 => LcR J g tt te vs σ H1 Q) : tLc wi g tt te vs σ H Q := h
/-- what may happen to the heap at a turn -/
structure Stp (H1 : Hp) (S : Hp → Hp → Prop) : Prop where
  s0 : S H1 H1
  tr : ∀ A B, S H1 A → S A B → S H1 B
  new : ∀ A p o, S H1 A → H1 p = none → S H1 (upd A p o)
  ki : ∀ A B, S A B → KI A B
  keep : ∀ A B p ys, H1 p = none → S H1 A → S A B → A p = some (.lst ys) → B p = some (.lst ys)
theorem stp_same (H1 : Hp) : Stp H1 Same := ⟨Same.refl _, fun _ _ a b => a.trans b, fun _ _ _ a n => same_mut a n, fun _ _ a => ki_same a, fun _ _ _ _ _ _ b e => b _ _ e⟩
def ButB (b l : Addr) : Hp → Hp → Prop := fun A B => But b A B ∧ Bag B b l
theorem stp_but {b l : Addr} {H1 : Hp} (h : Bag H1 b l) : Stp H1 (ButB b l) :=
  ⟨⟨But.ofSame h (Same.refl _), h⟩, fun _ _ a c => ⟨a.1.trans c.1, c.2⟩, fun _ _ _ a n => ⟨but_mut a.1 n, a.2.upd (h.ne1 n) (h.ne2 n)⟩, fun _ _ a => ki_but a.1, fun _ _ _ _ n _ c e => c.1.oth _ _ (h.ne1 n) e⟩
/-- the turns of a list comprehension without a test, over any things that come one by one -/
theorem A2.at {α β : Type} {R : α → β → Prop} : ∀ {xs : List α} {ys : List β}, A2 R xs ys → ∀ {i : Nat} {x : α}, xs[i]? = some x → ∃ y, ys[i]? = some y ∧ R x y
  | _, _, .cons a _, 0, _, e => ⟨_, rfl, by cases e; exact a⟩
  | _, _, .cons _ b, i + 1, _, e => A2.at b (i := i) e
theorem c_core {α : Type} {g : TG} {te : TE} {vs : List Nat} {H1 : Hp} {xs : List V} {zs : List α} {S : Hp → Hp → Prop} (St : Stp H1 S) (P : Hp → V → α → Prop) (R : Hp → α → V → Prop) (pm : ∀ A B x z, KI A B → P A x z → P B x z) (rm : ∀ A B z y, KI A B → R A z y → R B z y)
    (hx : A2 (P H1) xs zs) (hz : xs.length ≤ 1000) {J : It}
    (turn : ∀ x z A (N : V → Hp → Prop), z ∈ zs → P A x z → S H1 A → (∀ y B, S A B → R B z y → N y B) → g x (wipe σ vs) A fun σ2 B => wipe σ2 vs = wipe σ vs ∧ te σ2 B N)
    (fin : ∀ p ys A, S H1 A → H1 p = none → A p = some (.lst ys) → A2 (R A) zs ys → Q (.ref p) A)
    (run : ∀ (D : Addr) (Pv : Nat → Hp → Prop), Pv 0 (upd H1 D (.lst [])) → (∀ i H, Pv i H → S H1 H) →
      (∀ i x H, xs[i]? = some x → Pv i H → g x (wipe σ vs) H fun σ2 H2 => wipe σ2 vs = wipe σ vs ∧ tYes σ2 H2 fun b H3 => if b = true then te σ2 H3 fun y H4 => ∃ acc, H4 D = some (.lst acc) ∧ acc.length < sizeLine ∧ Pv (i + 1) (upd H4 D (.lst (acc ++ [y]))) else Pv (i + 1) H3) →
      (∀ H, Pv xs.length H → Q (.ref D) H) →
      ∃ W : Nat → Nat → Hp → Prop, (∃ m, W 0 m (upd H1 D (.lst []))) ∧ ∀ i m H, W i m H →
      (J.stop i H ∧ Q (.ref D) H) ∨ (J.go i H ∧ ∃ Nx : Hp → Prop, (∀ H', Nx H' → ∃ m', m' < m ∧ W (i + 1) m' H') ∧ ∀ x H', J.yld i H x H' → g x (wipe σ vs) H' fun σ2 H2 => wipe σ2 vs = wipe σ vs ∧ tYes σ2 H2 fun b H3 =>
        if b = true then te σ2 H3 fun y H4 => ∃ acc, H4 D = some (.lst acc) ∧ acc.length < sizeLine ∧ Nx (upd H4 D (.lst (acc ++ [y]))) else Nx H3)) :
    LcR J g tYes te vs σ H1 Q := by
  intro p hp
  have lx := hx.len
  refine run p (fun i A => i ≤ xs.length ∧ S H1 A ∧ ∃ ys, A p = some (.lst ys) ∧ A2 (R A) (zs.take i) ys) ⟨Nat.zero_le _, St.new _ _ _ St.s0 hp, [], upd_same, .nil⟩ (fun i A h => h.2.1) ?_ ?_
  · rintro i x A e ⟨hi, hs, ys, h1, h2⟩
    obtain ⟨z, ez, pz⟩ := hx.at e
    refine turn x z A _ (List.mem_of_getElem? ez) (pm _ _ _ _ (St.ki _ _ hs) pz) hs fun y B sb r => ?_
    have hlt : i < xs.length := (List.getElem?_eq_some_iff.mp e).1
    have e3 := St.keep _ _ _ _ hp hs sb h1
    have hl : ys.length = i := by rw [← h2.len, List.length_take]; omega
    have k : KI B (upd B p (.lst (ys ++ [y]))) := ki_mut e3 rfl
    refine ⟨ys, e3, L2.small1000 (by omega), by omega, St.new _ _ _ (St.tr _ _ hs sb) hp, ys ++ [y], upd_same, ?_⟩
    have et : zs.take (i + 1) = zs.take i ++ [z] := by rw [List.take_add_one, ez]; rfl
    rw [et]
    exact .snoc (rm _ _ _ _ k r) (h2.mono fun u v z => rm _ _ _ _ k (rm _ _ _ _ (St.ki _ _ sb) z))
  · rintro A ⟨_, hs, ys, h1, h2⟩
    rw [lx, List.take_length] at h2
    exact fin p ys A hs hp h1 h2
theorem c_list {α : Type} {a : Addr} {xs : List V} {zs : List α} {g : TG} {te : TE} {vs : List Nat} {S : Hp → Hp → Prop} (St : Stp H S) (P : Hp → V → α → Prop) (R : Hp → α → V → Prop) (pm : ∀ A B x z, KI A B → P A x z → P B x z) (rm : ∀ A B z y, KI A B → R A z y → R B z y)
    (hl : ∀ A, S H A → SqL K A a xs) (hx : A2 (P H) xs zs) (hz : xs.length ≤ 1000)
    (turn : ∀ x z A (N : V → Hp → Prop), z ∈ zs → P A x z → S H A → (∀ y B, S A B → R B z y → N y B) → g x (wipe σ vs) A fun σ2 B => wipe σ2 vs = wipe σ vs ∧ te σ2 B N)
    (fin : ∀ p ys A, S H A → H p = none → A p = some (.lst ys) → A2 (R A) zs ys → Q (.ref p) A) : LcR (Itl K a) g tYes te vs σ H Q :=
  c_core St P R pm rm hx hz turn fin fun _ Pv h0 hS hs hd => lc_list Pv h0 (fun i A _ p => hl A (hS i A p)) hs hd
/-- over a list of these, things of the heap laid alone -/
theorem c_listS {α : Type} {a : Addr} {xs : List V} {zs : List α} {g : TG} {te : TE} {vs : List Nat} (P : Hp → V → α → Prop) (R : Hp → α → V → Prop) (pm : ∀ A B x z, KI A B → P A x z → P B x z) (rm : ∀ A B z y, KI A B → R A z y → R B z y)
    (hs : SqL K H a xs) (hx : A2 (P H) xs zs) (hz : xs.length ≤ 1000)
    (turn : ∀ x z A (N : V → Hp → Prop), z ∈ zs → P A x z → Same H A → (∀ y B, Same A B → R B z y → N y B) → g x (wipe σ vs) A fun σ2 B => wipe σ2 vs = wipe σ vs ∧ te σ2 B N)
    (fin : ∀ p ys A, Same H A → H p = none → A p = some (.lst ys) → A2 (R A) zs ys → Q (.ref p) A) : LcR (Itl K a) g tYes te vs σ H Q :=
  c_list (stp_same H) P R pm rm (fun _ s => s.seq hs) hx hz turn fin
theorem a2_range {lo : Int} (n : Nat) : A2 (fun (x : V) (i : Nat) => x = .int (lo + i)) ((List.range n).map fun (i : Nat) => V.int (lo + i)) (List.range n) := by
  induction n with
  | zero => exact .nil
  | succ n ih => rw [List.range_succ, List.map_append]; exact A2.snoc (R := fun (x : V) (i : Nat) => x = .int (lo + i)) rfl ih
theorem c_range {lo : Int} {n : Nat} {g : TG} {te : TE} {vs : List Nat} {S : Hp → Hp → Prop} (St : Stp H S) (R : Hp → Nat → V → Prop) (rm : ∀ A B z y, KI A B → R A z y → R B z y) (hz : n ≤ 1000)
    (turn : ∀ (i : Nat) A (N : V → Hp → Prop), i < n → S H A → (∀ y B, S A B → R B i y → N y B) → g (.int (lo + i)) (wipe σ vs) A fun σ2 B => wipe σ2 vs = wipe σ vs ∧ te σ2 B N)
    (fin : ∀ p ys A, S H A → H p = none → A p = some (.lst ys) → A2 (R A) (List.range n) ys → Q (.ref p) A) : LcR (Itr lo n) g tYes te vs σ H Q := by
  have hl : ((List.range n).map fun (i : Nat) => V.int (lo + i)).length = n := by rw [List.length_map, List.length_range]
  refine c_core (xs := (List.range n).map fun (i : Nat) => V.int (lo + i)) (zs := List.range n) St (fun _ x i => x = .int (lo + i)) R (fun _ _ _ _ _ h => h) rm (a2_range n) (by omega) (fun x i A N hm e s k => ?_) fin fun _ Pv h0 hS hs hd => lc_range Pv h0 (fun i A hi p => hs i _ A (by rw [List.getElem?_map, List.getElem?_range hi]; rfl) p) (by rw [hl] at hd; exact hd)
  subst e
  exact turn i A N (List.mem_range.mp hm) s k
-- int(x), x is None
def rIntU : List V → Hp → VK → Prop := fun xs H Q => (∃ i, xs = [.int i] ∧ Q (.int i) H) ∨ ∃ k, xs = [.bl k] ∧ Q (.int (if k then 1 else 0)) H
theorem call_intU {X : Cx} : CallR X (.type "int") rIntU := call_int1
theorem s_intB {b : Bool} (h : Q (.int (if b = true then 1 else 0)) H) : rIntU [.bl b] H Q := .inr ⟨b, rfl, h⟩
theorem s_intT (h : Q (.int 1) H) : rIntU [.bl true] H Q := s_intB h
theorem s_intF (h : Q (.int 0) H) : rIntU [.bl false] H Q := s_intB h
theorem s_intBt {c : Prop} {inst : Decidable c} (h0 : c) (h : Q (.int 1) H) : rIntU [.bl (@decide c inst)] H Q := s_intB (by rw [decide_eq_true h0]; exact h)
theorem s_intBf {c : Prop} {inst : Decidable c} (h0 : ¬ c) (h : Q (.int 0) H) : rIntU [.bl (@decide c inst)] H Q := s_intB (by rw [decide_eq_false h0]; exact h)
theorem s_intI {i : Int} (h : Q (.int i) H) : rIntU [.int i] H Q := .inl ⟨i, rfl, h⟩
def rIsU : R2 := fun x y H Q => y = .non ∧ Q (.bl (decide (x = .non))) H
theorem op_isU {X : Cx} : OpR X (compareOp .Is) rIsU := op_isN
def rNotU : R2 := fun x y H Q => y = .non ∧ Q (.bl (!decide (x = .non))) H
theorem op_notU {X : Cx} : OpR X (compareOp .IsNot) rNotU := op_notN
theorem s_isNN (h : Q (.bl true) H) : rIsU .non .non H Q := ⟨rfl, by rw [decide_eq_true rfl]; exact h⟩
theorem s_isRN {a : Addr} (h : Q (.bl false) H) : rIsU (.ref a) .non H Q := ⟨rfl, by rw [decide_eq_false (fun z => by cases z)]; exact h⟩
theorem s_isTN {x : V} {ds : List PyData} (hx : Dt K H x (.tuple ds)) (h : Q (.bl false) H) : rIsU x .non H Q := by
  obtain ⟨a, xs, rfl, _⟩ := hx.tup_inv
  exact s_isRN h
theorem s_isFN {x : V} {r : Rat} (hx : Dt K H x (fr r)) (h : Q (.bl false) H) : rIsU x .non H Q := s_isTN (ds := [.int r.num, .int r.den]) hx h
theorem s_ntNN (h : Q (.bl false) H) : rNotU .non .non H Q := ⟨rfl, by rw [decide_eq_true rfl]; exact h⟩
theorem s_ntRN {a : Addr} (h : Q (.bl true) H) : rNotU (.ref a) .non H Q := ⟨rfl, by rw [decide_eq_false (fun z => by cases z)]; exact h⟩
theorem s_ntTN {x : V} {ds : List PyData} (hx : Dt K H x (.tuple ds)) (h : Q (.bl true) H) : rNotU x .non H Q := by
  obtain ⟨a, xs, rfl, _⟩ := hx.tup_inv
  exact s_ntRN h
theorem s_ntFN {x : V} {r : Rat} (hx : Dt K H x (fr r)) (h : Q (.bl true) H) : rNotU x .non H Q := s_ntTN (ds := [.int r.num, .int r.den]) hx h
theorem s_eqFt {x y : V} {d e : Rat} (hx : Dt K H x (fr d)) (hy : Dt K H y (fr e)) (h0 : d = e) (h : Q (.bl true) H) : rEqD K x y H Q := s_eqF hx hy (by rw [decide_eq_true h0]; exact h)
theorem s_eqFf {x y : V} {d e : Rat} (hx : Dt K H x (fr d)) (hy : Dt K H y (fr e)) (h0 : ¬ d = e) (h : Q (.bl false) H) : rEqD K x y H Q := s_eqF hx hy (by rw [decide_eq_false h0]; exact h)
theorem s_neFt {x y : V} {d e : Rat} (hx : Dt K H x (fr d)) (hy : Dt K H y (fr e)) (h0 : d = e) (h : Q (.bl false) H) : rNeD K x y H Q := s_neF hx hy (by rw [decide_eq_true h0]; exact h)
theorem s_neFf {x y : V} {d e : Rat} (hx : Dt K H x (fr d)) (hy : Dt K H y (fr e)) (h0 : ¬ d = e) (h : Q (.bl true) H) : rNeD K x y H Q := s_neF hx hy (by rw [decide_eq_false h0]; exact h)
theorem s_eqBB {i : Bool} (h : Q (.bl true) H) : rEqD K (.bl i) (.bl i) H Q := s_eqB (by rw [decide_eq_true rfl]; exact h)
theorem s_neBB {i : Bool} (h : Q (.bl false) H) : rNeD K (.bl i) (.bl i) H Q := s_neB (by rw [decide_eq_true rfl]; exact h)
theorem s_neFT (h : Q (.bl true) H) : rNeD K (.bl false) (.bl true) H Q := s_neB h
theorem s_neTF (h : Q (.bl true) H) : rNeD K (.bl true) (.bl false) H Q := s_neB h
theorem s_eqFT (h : Q (.bl false) H) : rEqD K (.bl false) (.bl true) H Q := s_eqB h
theorem s_eqTF (h : Q (.bl false) H) : rEqD K (.bl true) (.bl false) H Q := s_eqB h
theorem dt_zn {p : Addr} (n : H p = none) : Dt K (upd H p (.tup [.int 0, .int 1])) (.ref p) (fr 0) := dt_new (ds := [.int 0, .int 1]) (.cons (.int 0) (.cons (.int 1) .nil)) n
theorem dt_1n {p : Addr} (n : H p = none) : Dt K (upd H p (.tup [.int 1, .int 1])) (.ref p) (fr 1) := dt_new (ds := [.int 1, .int 1]) (.cons (.int 1) (.cons (.int 1) .nil)) n
theorem Dt.non_eq {v : V} (h : Dt K H v .none) : v = .non := by cases h; rfl
theorem s_cutI {c : Bool} {t u : TS} (js : List Nat) (I : (Nat → Option V) → Hp → Prop) (h : ∀ N' : St → Hp → Prop, (∀ σ' H', σ' = sets σ js (fun j => (σ'[j]?).join) → I (fun j => (σ'[j]?).join) H' → N' σ' H') → if c = true then t { D with nx := N' } σ H else u { D with nx := N' } σ H)
    (hN : ∀ f H', I f H' → D.nx (sets σ js f) H') : if c = true then t D σ H else u D σ H := h D.nx fun σ' H' e i => by rw [e]; exact hN _ H' i
theorem s_neNN (h : Q (.bl false) H) : rNeD K .non .non H Q := ⟨_, _, .non, .non, rfl, rfl, by simpa [PyData.eqv] using h⟩
theorem s_eqNN (h : Q (.bl true) H) : rEqD K .non .non H Q := ⟨_, _, .non, .non, rfl, rfl, by simpa [PyData.eqv] using h⟩
theorem eqv2 (a b c d : Rat) : PyData.eqv (.tuple [fr a, fr b]) (.tuple [fr c, fr d]) = decide (a = c ∧ b = d) := by
  have e : PyData.eqv (.tuple [fr a, fr b]) (.tuple [fr c, fr d]) = (PyData.eqv (fr a) (fr c) && (PyData.eqv (fr b) (fr d) && true)) := by simp only [PyData.eqv, PyData.eqvAll]
  rw [e, eqvfr, eqvfr]
  by_cases h1 : a = c <;> by_cases h2 : b = d <;> simp [h1, h2]
theorem s_eqP {x y : V} {a b c d : Rat} (hx : Dt K H x (.tuple [fr a, fr b])) (hy : Dt K H y (.tuple [fr c, fr d])) (h : Q (.bl (decide (a = c ∧ b = d))) H) : rEqD K x y H Q := s_eqD hx hy (sh2 a b) (sh2 c d) (by rw [eqv2]; exact h)
theorem s_neP {x y : V} {a b c d : Rat} (hx : Dt K H x (.tuple [fr a, fr b])) (hy : Dt K H y (.tuple [fr c, fr d])) (h : Q (.bl (!decide (a = c ∧ b = d))) H) : rNeD K x y H Q := s_neD hx hy (sh2 a b) (sh2 c d) (by rw [eqv2]; exact h)
theorem s_eqPf {x y : V} {a b c d : Rat} (hx : Dt K H x (.tuple [fr a, fr b])) (hy : Dt K H y (.tuple [fr c, fr d])) (n : ¬ (a = c ∧ b = d)) (h : Q (.bl false) H) : rEqD K x y H Q := s_eqP hx hy (by rw [decide_eq_false n]; exact h)
theorem s_nePf {x y : V} {a b c d : Rat} (hx : Dt K H x (.tuple [fr a, fr b])) (hy : Dt K H y (.tuple [fr c, fr d])) (n : ¬ (a = c ∧ b = d)) (h : Q (.bl true) H) : rNeD K x y H Q := s_neP hx hy (by rw [decide_eq_false n]; exact h)
/-- l.index(x) -/
theorem s_index {a : Addr} {vs : List V} {ds : List PyData} {y : V} {d : PyData} (j : Nat) {z : PyData} (hs : SqL K H a vs) (ha : DtAll K H vs ds) (hy : Dt K H y d) (sl : SeqAt.shaped (.list ds) = true) (sd : SeqAt.shaped d = true) (e : ds[j]? = some z) (ez : PyData.eqv z d = true)
    (no : ∀ (m : Nat) (z' : PyData), m < j → ds[m]? = some z' → PyData.eqv z' d = false) (h : Q (.int (j : Nat)) H) : rIndexD K (.ref a) [y] H Q :=
  ⟨a, y, d, ds, j, z, rfl, rfl, .lst hs ha.dp, hy.dp, sl, sd, e, ez, no, h⟩
theorem sh22 (a b c d : Rat) : SeqAt.shaped (.list [.tuple [fr a, fr b], .tuple [fr c, fr d]]) = true := rfl
theorem s_idx0 {p : Addr} {v0 v1 y : V} {a b c d : Rat} (hs : SqL K H p [v0, v1]) (h0 : Dt K H v0 (.tuple [fr a, fr b])) (h1 : Dt K H v1 (.tuple [fr c, fr d])) (hy : Dt K H y (.tuple [fr a, fr b])) (h : Q (.int 0) H) : rIndexD K (.ref p) [y] H Q :=
  s_index 0 hs (.cons h0 (.cons h1 .nil)) hy (sh22 a b c d) (sh2 a b) rfl (by rw [eqv2, decide_eq_true ⟨rfl, rfl⟩]) (fun m _ hm _ => absurd hm (Nat.not_lt_zero _)) h
theorem s_idx1 {p : Addr} {v0 v1 y : V} {a b c d : Rat} (hs : SqL K H p [v0, v1]) (h0 : Dt K H v0 (.tuple [fr a, fr b])) (h1 : Dt K H v1 (.tuple [fr c, fr d])) (hy : Dt K H y (.tuple [fr c, fr d])) (n : ¬ (a = c ∧ b = d)) (h : Q (.int 1) H) : rIndexD K (.ref p) [y] H Q :=
  s_index 1 hs (.cons h0 (.cons h1 .nil)) hy (sh22 a b c d) (sh2 c d) rfl (by rw [eqv2, decide_eq_true ⟨rfl, rfl⟩]) (fun m z' hm hz => by
    obtain rfl : m = 0 := by omega
    cases hz
    rw [eqv2, decide_eq_false n]) h
end
end Cr
namespace Cr
open PySem PySem.Spec PyProof.Rows L2
/-! ### tuples of any length taken apart and put together -/
section
variable {K : PySem.W.Frag} {σ : St} {H : Hp} {Q : VK} {D : Ends}
theorem DtAll.take {vs : List V} {ds : List PyData} (h : DtAll K H vs ds) : ∀ n : Nat, DtAll K H (vs.take n) (ds.take n) := by
  induction ds generalizing vs with
  | nil => cases h; intro n; rw [List.take_nil, List.take_nil]; exact .nil
  | cons d ds ih =>
    cases h with
    | cons h a =>
      intro n
      cases n with
      | zero => exact .nil
      | succ n => exact .cons h (ih a n)
theorem DtAll.drop {vs : List V} {ds : List PyData} (h : DtAll K H vs ds) : ∀ n : Nat, DtAll K H (vs.drop n) (ds.drop n) := by
  induction ds generalizing vs with
  | nil => cases h; intro n; rw [List.drop_nil, List.drop_nil]; exact .nil
  | cons d ds ih =>
    cases h with
    | cons h a =>
      intro n
      cases n with
      | zero => exact .cons h a
      | succ n => exact ih a n
theorem s_gtup {n : Nat} {t : TGs} {x : V} {ds : List PyData} {N : St → Hp → Prop} (hx : Dt K H x (.tuple ds)) (e : ds.length = n) (h : ∀ xs, DtAll K H xs ds → t xs σ H N) : gTup K n t x σ H N := by
  obtain ⟨a, xs, rfl, hs, ha⟩ := hx.tup_inv
  exact ⟨a, xs, rfl, hs, ha.len.trans e, h xs ha⟩
theorem s_gcons {t : TG} {u : TGs} {xs : List V} {d : PyData} {ds : List PyData} {N : St → Hp → Prop} (hx : DtAll K H xs (d :: ds)) (h : ∀ v r, Dt K H v d → DtAll K H r ds → t v σ H fun σ' H' => u r σ' H' N) : gCons t u xs σ H N := by
  cases hx with
  | cons a b => exact ⟨_, _, rfl, h _ _ a b⟩
theorem s_gnil {xs : List V} {N : St → Hp → Prop} (hx : DtAll K H xs []) (h : N σ H) : gNil xs σ H N := by
  cases hx
  exact ⟨rfl, h⟩
theorem cut_hi {α : Type} (xs : List α) {hi : Int} (h0 : 0 ≤ hi) : (xs.drop (HT.sIx xs.length 0 none)).take (HT.sIx xs.length xs.length (some hi) - HT.sIx xs.length 0 none) = xs.take hi.toNat := by
  obtain ⟨k, rfl⟩ : ∃ k : Nat, hi = (k : Int) := ⟨hi.toNat, by omega⟩
  rw [HT.sIx_nat, HT.sIx_none, List.drop_zero, Int.toNat_natCast, Nat.sub_zero]
  by_cases h : k ≤ xs.length
  · rw [Nat.min_eq_left h]
  · rw [Nat.min_eq_right (by omega), List.take_length, List.take_of_length_le (by omega)]
theorem cut_lo {α : Type} (xs : List α) {lo : Int} (h0 : 0 ≤ lo) : (xs.drop (HT.sIx xs.length 0 (some lo))).take (HT.sIx xs.length xs.length none - HT.sIx xs.length 0 (some lo)) = xs.drop lo.toNat := by
  obtain ⟨k, rfl⟩ : ∃ k : Nat, lo = (k : Int) := ⟨lo.toNat, by omega⟩
  rw [HT.sIx_nat, HT.sIx_none, Int.toNat_natCast]
  by_cases h : k ≤ xs.length
  · rw [Nat.min_eq_left h, List.take_of_length_le (by rw [List.length_drop]; omega)]
  · rw [Nat.min_eq_right (by omega), List.drop_eq_nil_of_le (Nat.le_refl _), List.drop_eq_nil_of_le (by omega), List.take_nil]
theorem cut_two {α : Type} (xs : List α) {lo hi : Int} (h0 : 0 ≤ lo) (h1 : 0 ≤ hi) : (xs.drop (HT.sIx xs.length 0 (some lo))).take (HT.sIx xs.length xs.length (some hi) - HT.sIx xs.length 0 (some lo)) = (xs.drop lo.toNat).take (hi.toNat - lo.toNat) := by
  obtain ⟨k, rfl⟩ : ∃ k : Nat, lo = (k : Int) := ⟨lo.toNat, by omega⟩
  obtain ⟨j, rfl⟩ : ∃ j : Nat, hi = (j : Int) := ⟨hi.toNat, by omega⟩
  rw [HT.sIx_nat, HT.sIx_nat, Int.toNat_natCast, Int.toNat_natCast]
  by_cases h : k ≤ xs.length
  · rw [Nat.min_eq_left h]
    by_cases g : j ≤ xs.length
    · rw [Nat.min_eq_left g]
    · rw [Nat.min_eq_right (by omega), List.take_of_length_le (by rw [List.length_drop]; omega), List.take_of_length_le (by rw [List.length_drop]; omega)]
  · rw [Nat.min_eq_right (show xs.length ≤ k by omega), List.drop_eq_nil_of_le (Nat.le_refl _), List.drop_eq_nil_of_le (by omega), List.take_nil, List.take_nil]
theorem cutV_hi (xs : List V) {hi : Int} (h0 : 0 ≤ hi) : cutV xs none (some hi) = xs.take hi.toNat := cut_hi xs h0
theorem cutV_lo (xs : List V) {lo : Int} (h0 : 0 ≤ lo) : cutV xs (some lo) none = xs.drop lo.toNat := cut_lo xs h0
theorem cutV_two (xs : List V) {lo hi : Int} (h0 : 0 ≤ lo) (h1 : 0 ≤ hi) : cutV xs (some lo) (some hi) = (xs.drop lo.toNat).take (hi.toNat - lo.toNat) := cut_two xs h0 h1
/-- t[:n], t[n:], t[n:m] of a tuple of data, never the whole -/
theorem s_slThi {x : V} {ds : List PyData} {hi : Int} (hx : Dt K H x (.tuple ds)) (h0 : 0 ≤ hi) (h1 : hi < ds.length) (h : ∀ v H', Same H H' → Dt K H' v (.tuple (ds.take hi.toNat)) → Q v H') : rSlU K x none (some hi) H Q := by
  obtain ⟨a, xs, rfl, hs, ha⟩ := hx.tup_inv
  have e := ha.len
  refine .inr ⟨a, xs, rfl, hs, fun z => ?_, fun p hp => h _ _ (same_new hp) ?_⟩
  · obtain ⟨k, rfl⟩ : ∃ k : Nat, hi = (k : Int) := ⟨hi.toNat, by omega⟩
    have z2 := z.2
    rw [HT.sIx_nat] at z2
    omega
  · rw [cutV_hi xs h0]
    exact dt_new (ha.take _) hp
theorem s_slTlo {x : V} {ds : List PyData} {lo : Int} (hx : Dt K H x (.tuple ds)) (h0 : 0 < lo) (h1 : 0 < ds.length) (h : ∀ v H', Same H H' → Dt K H' v (.tuple (ds.drop lo.toNat)) → Q v H') : rSlU K x (some lo) none H Q := by
  obtain ⟨a, xs, rfl, hs, ha⟩ := hx.tup_inv
  have e := ha.len
  refine .inr ⟨a, xs, rfl, hs, fun z => ?_, fun p hp => h _ _ (same_new hp) ?_⟩
  · obtain ⟨k, rfl⟩ : ∃ k : Nat, lo = (k : Int) := ⟨lo.toNat, by omega⟩
    have z1 := z.1
    rw [HT.sIx_nat] at z1
    omega
  · rw [cutV_lo xs (by omega)]
    exact dt_new (ha.drop _) hp
theorem s_slT2 {x : V} {ds : List PyData} {lo hi : Int} (hx : Dt K H x (.tuple ds)) (h0 : 0 < lo) (h1 : 0 ≤ hi) (h2 : 0 < ds.length) (h : ∀ v H', Same H H' → Dt K H' v (.tuple ((ds.drop lo.toNat).take (hi.toNat - lo.toNat))) → Q v H') : rSlU K x (some lo) (some hi) H Q := by
  obtain ⟨a, xs, rfl, hs, ha⟩ := hx.tup_inv
  have e := ha.len
  refine .inr ⟨a, xs, rfl, hs, fun z => ?_, fun p hp => h _ _ (same_new hp) ?_⟩
  · obtain ⟨k, rfl⟩ : ∃ k : Nat, lo = (k : Int) := ⟨lo.toNat, by omega⟩
    have z1 := z.1
    rw [HT.sIx_nat] at z1
    omega
  · rw [cutV_two xs (by omega) h1]
    exact dt_new ((ha.drop _).take _) hp
/-- tuple(xs), list(t) -/
theorem s_tupL {p : Addr} {ys : List V} {ds : List PyData} (hs : SqL K H p ys) (ha : DtAll K H ys ds) (h : ∀ v H', Same H H' → Dt K H' v (.tuple ds) → Q v H') : rTupU K [.ref p] H Q :=
  ⟨p, ys, rfl, .inl ⟨hs, fun l hl => h _ _ (same_new hl) (dt_new ha hl)⟩⟩
theorem s_tupT {x : V} {ds : List PyData} (hx : Dt K H x (.tuple ds)) (h : Q x H) : rTupU K [x] H Q := by
  obtain ⟨a, xs, rfl, hs, ha⟩ := hx.tup_inv
  exact ⟨a, xs, rfl, .inr ⟨hs, h⟩⟩
theorem s_listT {x : V} {ds : List PyData} (hx : Dt K H x (.tuple ds)) (h : ∀ l ys H', Same H H' → H l = none → H' l = some (.lst ys) → DtAll K H' ys ds → Q (.ref l) H') : rListU K [x] H Q := by
  obtain ⟨a, xs, rfl, hs, ha⟩ := hx.tup_inv
  exact ⟨a, xs, rfl, .inr hs, fun l hl => h l xs _ (same_new hl) hl upd_same (ha.mono (kt_new hl))⟩
theorem s_addTG {x y : V} {ds es : List PyData} (hx : Dt K H x (.tuple ds)) (hy : Dt K H y (.tuple es)) (n1 : ds ≠ []) (l : ds.length + es.length ≤ 1000) (h : ∀ v H', Same H H' → Dt K H' v (.tuple (ds ++ es)) → Q v H') : rAddU K x y H Q := by
  by_cases n2 : es = []
  · subst n2
    have hx2 := hx
    obtain ⟨a, xs, rfl, hs, ha⟩ := hx.tup_inv
    obtain ⟨b, ys, rfl, ht, hb⟩ := hy.tup_inv
    have e1 := ha.len
    have e2 := hb.len
    simp only [List.length_nil] at l e2
    obtain rfl : ys = [] := List.length_eq_zero_iff.mp e2
    refine .inr (.inr (.inr ⟨a, b, xs, [], rfl, rfl, hs, ht, fun z => n1 (by subst z; exact List.length_eq_zero_iff.mp e1.symm), Nat.le_of_lt (L2.small1000 (by simp only [List.length_nil]; omega)), fun _ => h _ _ (Same.refl _) (by rw [List.append_nil]; exact hx2), fun z => absurd rfl z⟩))
  · exact s_addT hx hy n1 n2 l h
theorem s_ixT6 {x : V} {d0 d1 d2 d3 d4 d5 d6 : PyData} {ds : List PyData} (hx : Dt K H x (.tuple (d0 :: d1 :: d2 :: d3 :: d4 :: d5 :: d6 :: ds))) (h : ∀ v, Dt K H v d6 → Q v H) : rIx K x (.int 6) H Q := s_ixT hx (atI_nat (j := 6) rfl) h
theorem s_ixT7 {x : V} {d0 d1 d2 d3 d4 d5 d6 d7 : PyData} {ds : List PyData} (hx : Dt K H x (.tuple (d0 :: d1 :: d2 :: d3 :: d4 :: d5 :: d6 :: d7 :: ds))) (h : ∀ v, Dt K H v d7 → Q v H) : rIx K x (.int 7) H Q := s_ixT hx (atI_nat (j := 7) rfl) h
theorem s_ixT8 {x : V} {d0 d1 d2 d3 d4 d5 d6 d7 d8 : PyData} {ds : List PyData} (hx : Dt K H x (.tuple (d0 :: d1 :: d2 :: d3 :: d4 :: d5 :: d6 :: d7 :: d8 :: ds))) (h : ∀ v, Dt K H v d8 → Q v H) : rIx K x (.int 8) H Q := s_ixT hx (atI_nat (j := 8) rfl) h
theorem s_ixT9 {x : V} {d0 d1 d2 d3 d4 d5 d6 d7 d8 d9 : PyData} {ds : List PyData} (hx : Dt K H x (.tuple (d0 :: d1 :: d2 :: d3 :: d4 :: d5 :: d6 :: d7 :: d8 :: d9 :: ds))) (h : ∀ v, Dt K H v d9 → Q v H) : rIx K x (.int 9) H Q := s_ixT hx (atI_nat (j := 9) rfl) h
theorem s_ixT10 {x : V} {d0 d1 d2 d3 d4 d5 d6 d7 d8 d9 d10 : PyData} {ds : List PyData} (hx : Dt K H x (.tuple (d0 :: d1 :: d2 :: d3 :: d4 :: d5 :: d6 :: d7 :: d8 :: d9 :: d10 :: ds))) (h : ∀ v, Dt K H v d10 → Q v H) : rIx K x (.int 10) H Q := s_ixT hx (atI_nat (j := 10) rfl) h
theorem last10 {α : Type} {a b c d e f g i j k : α} : [a, b, c, d, e, f, g, i, j, k].getLast? = some k := rfl
theorem s_ixTm1 {x : V} {ds : List PyData} {d : PyData} (hx : Dt K H x (.tuple ds)) (e : ds.getLast? = some d) (h : ∀ v, Dt K H v d → Q v H) : rIx K x (.int (-1)) H Q := by
  refine s_ixT hx (i := -1) ?_ h
  have hl : 0 < ds.length := by
    cases ds with
    | nil => cases e
    | cons _ _ => simp
  rw [List.getLast?_eq_getElem?] at e
  unfold atI ixN
  rw [if_neg (by omega)]
  rw [if_pos (by omega)]
  show ds[((-1 : Int) + ds.length).toNat]? = some d
  rw [← e]
  congr 1
  omega
theorem s_truL {p : Addr} {xs : List V} {N : Bool → Prop} (hs : SqL K H p xs) (h : N (!xs.isEmpty)) : ∃ k, TruV K (.ref p) H k ∧ N k := ⟨_, .inl ⟨xs, hs, rfl⟩, h⟩
theorem s_isBb {b : Bool} (h : Q (.bl true) H) : rIsB (.bl b) (.bl b) H Q := ⟨b, b, rfl, rfl, by rw [decide_eq_true rfl]; exact h⟩
theorem s_ntBb {b : Bool} (h : Q (.bl false) H) : rNotB (.bl b) (.bl b) H Q := ⟨b, b, rfl, rfl, by rw [decide_eq_true rfl]; exact h⟩
theorem s_ixLm1 {a : Addr} {xs : List V} {v : V} (hs : SqL K H a xs) (e : xs.getLast? = some v) (h : Q v H) : rIx K (.ref a) (.int (-1)) H Q := by
  refine s_ixL hs (i := -1) ?_ h
  have hl : 0 < xs.length := by
    cases xs with
    | nil => cases e
    | cons _ _ => simp
  rw [List.getLast?_eq_getElem?] at e
  unfold atI ixN
  rw [if_neg (by omega)]
  rw [if_pos (by omega)]
  show xs[((-1 : Int) + xs.length).toNat]? = some v
  rw [← e]
  congr 1
  omega
theorem ixN_nat {n j : Nat} (h : j < n) : ixN n (j : Int) = some j := by
  unfold ixN
  rw [if_pos (by omega), if_pos (by omega)]
  rfl
theorem DtAll.set {vs : List V} {ds : List PyData} {v : V} {d : PyData} (h : DtAll K H vs ds) (hv : Dt K H v d) : ∀ n : Nat, DtAll K H (vs.set n v) (ds.set n d) := by
  induction ds generalizing vs with
  | nil => cases h; intro n; exact .nil
  | cons d ds ih =>
    cases h with
    | cons h a =>
      intro n
      cases n with
      | zero => exact .cons hv a
      | succ n => exact .cons h (ih a n)
theorem s_isBl {a b : Bool} (h : Q (.bl (decide (a = b))) H) : rIsB (.bl a) (.bl b) H Q := ⟨a, b, rfl, rfl, h⟩
theorem s_ntBl {a b : Bool} (h : Q (.bl (!decide (a = b))) H) : rNotB (.bl a) (.bl b) H Q := ⟨a, b, rfl, rfl, h⟩
end
end Cr
namespace Cr
open PySem PySem.Spec PyProof.Rows L2
/-! ### texts: signs, names -/
def sign (c : Nat) : Str := ⟨#[c]⟩
/-- a name: one to twelve small letters -/
def Nm (x : Str) : Prop := 1 ≤ x.cps.size ∧ x.cps.size ≤ 12 ∧ ∀ c, c ∈ x.cps.toList → 97 ≤ c ∧ c ≤ 122
theorem str_app (a b : Str) : a ++ b = ⟨a.cps ++ b.cps⟩ := rfl
theorem join_signs : ∀ cs : List Nat, Txt.join ("" : Str) (cs.map sign) = ⟨cs.toArray⟩ := by
  intro cs
  show Builtin.Str.glued _ _ = _
  rw [StrLaws.glued_eq_join]
  have e : (("" : String) : Str) = ⟨#[]⟩ := by decide +kernel
  rw [e]
  induction cs with
  | nil => rfl
  | cons c cs ih =>
    cases cs with
    | nil => rfl
    | cons d r =>
      show sign c ++ ⟨#[]⟩ ++ Str.join ⟨#[]⟩ (sign d :: r.map sign) = _
      rw [show sign d :: r.map sign = (d :: r).map sign from rfl, ih]
      simp [str_app, sign]
def rJoinU (K : PySem.W.Frag) : V → List V → Hp → VK → Prop := fun x xs H Q => ∃ a p, ∃ ys : List Str, x = .str a ∧ xs = [.ref p] ∧ (SqL K H p (ys.map V.str) ∨ SqT K H p (ys.map V.str)) ∧ (ys.map (·.length)).sum + ys.length * a.length ≤ 16777216 ∧ Q (.str (Txt.join a ys)) H
theorem pe_joinU {X : Cx} {o e : Expr} {to te : TE} {apos pos : Pos} (ho : PE X o to) (he : PE X e te) (hs : starEach [e] X.env = [(false, eval e X.env)] := by rfl) (hbase : attributeBase o "join" X.env (eval o X.env) = eval o X.env := by rfl) (hline : (apos.endLine == pos.line) = true := by rfl) :
    PE X (.Call (.Attribute o "join" apos) [e] [] pos) (tM1 (rJoinU X.K) to te) := pe_join ho he hs hbase hline
theorem small_sum : ∀ ys : List Str, (∀ y, y ∈ ys → y.length ≤ 1000) → (ys.map (·.length)).sum ≤ 1000 * ys.length
  | [], _ => Nat.le_refl _
  | y :: ys, h => by
    have h1 := h y List.mem_cons_self
    have h2 := small_sum ys fun z hz => h z (List.mem_cons_of_mem _ hz)
    rw [List.map_cons, List.sum_cons, List.length_cons]
    omega
theorem abc_list : (("abcdefghijklmnopqrstuvwxyz" : String) : Str).cps.toList = (List.range 26).map (97 + ·) := by decide +kernel
theorem abch_cps : (("abcdefgh" : String) : Str).cps = #[97, 98, 99, 100, 101, 102, 103, 104] := by decide +kernel
def rInsertU : V → List V → Hp → VK → Prop := fun x vs H Q => ∃ (l : Addr) (xs : List V) (i : Int) (y : V), x = .ref l ∧ vs = [.int i, y] ∧ H l = some (.lst xs) ∧ xs.length < sizeLine ∧ 0 ≤ i ∧ i < 2 ^ 63 ∧ Q .non (upd H l (.lst (xs.take i.toNat ++ [y] ++ xs.drop i.toNat)))
theorem mt_insertU {X : Cx} : MtR X "list.insert" rInsertU := mt_insert
def TaQ (x : V) (N : Prop) : Prop := (∃ a, x = V.str a) ∧ N
section
variable {K : PySem.W.Frag} {σ : St} {H : Hp} {Q : VK} {D : Ends}
theorem s_m1 {r : V → List V → Hp → VK → Prop} {to te : TE} (h : to σ H fun x H1 => TaQ x (te σ H1 fun y H2 => r x [y] H2 Q)) : tM1 r to te σ H Q := h
theorem s_isStr {a : Str} {N : Prop} (h : N) : TaQ (.str a) N := ⟨⟨a, rfl⟩, h⟩
theorem s_join {p : Addr} {a : Str} {ys : List Str} (hs : SqL K H p (ys.map V.str)) (hl : (ys.map (·.length)).sum + ys.length * a.length ≤ 16777216) (h : Q (.str (Txt.join a ys)) H) : rJoinU K (.str a) [.ref p] H Q := ⟨a, p, ys, rfl, rfl, .inl hs, hl, h⟩
theorem s_abc {k : Int} (h0 : 0 ≤ k) (h1 : k < 26) (h : ∀ c, 97 ≤ c → c ≤ 122 → Q (.str (sign c)) H) : rIx K (.str ("abcdefghijklmnopqrstuvwxyz" : String)) (.int k) H Q := by
  obtain ⟨j, rfl⟩ : ∃ j : Nat, k = (j : Int) := ⟨k.toNat, by omega⟩
  refine s_ixS (c := 97 + j) (by decide +kernel) (atI_nat ?_) (h _ (by omega) (by omega))
  rw [abc_list, List.getElem?_map, List.getElem?_range (by omega)]
  rfl
theorem eqV_str (x y : Str) : eqV (.str x) (.str y) = decide (x = y) := by
  show (x == y) = _
  by_cases h : x = y
  · subst h; simp
  · rw [decide_eq_false h]; exact beq_eq_false_iff_ne.mpr h
theorem inV_strs (x : Str) : ∀ ys : List Str, inV (.str x) (ys.map V.str) = decide (x ∈ ys)
  | [] => rfl
  | y :: ys => by
    have ih := inV_strs x ys
    unfold inV at ih ⊢
    rw [List.map_cons, List.any_cons, ih, eqV_str]
    by_cases h : y = x
    · subst h; simp
    · rw [decide_eq_false h, Bool.false_or]
      by_cases g : x ∈ ys
      · rw [decide_eq_true g, decide_eq_true (List.mem_cons_of_mem _ g)]
      · rw [decide_eq_false g, decide_eq_false (fun z => (List.mem_cons.mp z).elim (fun e => h e.symm) g)]
theorem flat_strs (ys : List Str) : (ys.map V.str).all flatV = true := by
  rw [List.all_map, List.all_eq_true]
  intro _ _
  rfl
theorem s_inS {p : Addr} {x : Str} {ys : List Str} (hs : SqL K H p (ys.map V.str)) (h : Q (.bl (decide (x ∈ ys))) H) : rIn K false (.str x) (.ref p) H Q :=
  ⟨p, _, rfl, .inl hs, rfl, flat_strs ys, by rw [inV_strs]; exact h⟩
theorem s_ntInS {p : Addr} {x : Str} {ys : List Str} (hs : SqL K H p (ys.map V.str)) (h : Q (.bl (!decide (x ∈ ys))) H) : rIn K true (.str x) (.ref p) H Q :=
  ⟨p, _, rfl, .inl hs, rfl, flat_strs ys, by rw [inV_strs]; exact h⟩
def takeS (x : Str) (n : Nat) : Str := ⟨(x.cps.toList.take n).toArray⟩
def dropS (x : Str) (n : Nat) : Str := ⟨(x.cps.toList.drop n).toArray⟩
theorem s_slShi {x : Str} {hi : Int} (l : x.length ≤ sizeLine) (h0 : 0 ≤ hi) (h : Q (.str (takeS x hi.toNat)) H) : rSlS (.str x) none (some hi) H Q :=
  ⟨x, rfl, l, by
    unfold cutS
    rw [show x.length = x.cps.toList.length from rfl, cut_hi _ h0]
    exact h⟩
theorem s_slSlo {x : Str} {lo : Int} (l : x.length ≤ sizeLine) (h0 : 0 ≤ lo) (h : Q (.str (dropS x lo.toNat)) H) : rSlS (.str x) (some lo) none H Q :=
  ⟨x, rfl, l, by
    unfold cutS
    rw [show x.length = x.cps.toList.length from rfl, cut_lo _ h0]
    exact h⟩
theorem f_str {x : Str} {g : TG} {tb : TS} (Pv : Nat → St → Hp → Prop) (h0 : Pv 0 σ H)
    (hs : ∀ i c σ H, x.cps[i]? = some c → Pv i σ H → g (.str (sign c)) σ H fun σ2 H2 => tb { D with nx := Pv (i + 1), ct := Pv (i + 1), bk := D.nx } σ2 H2) (hd : ∀ σ H, Pv x.cps.size σ H → D.nx σ H) : ForR (Its x) g tb D σ H := by
  refine ⟨fun i m σ' H' => m = x.cps.size - i ∧ i ≤ x.cps.size ∧ Pv i σ' H', ⟨_, rfl, Nat.zero_le _, h0⟩, ?_⟩
  rintro i m σ' H' ⟨rfl, hi, p⟩
  by_cases hlt : i < x.cps.size
  · refine .inr ⟨hlt, Pv (i + 1), fun σ2 H2 p' => ⟨x.cps.size - (i + 1), by omega, rfl, hlt, p'⟩, fun v H2 y => ?_⟩
    obtain ⟨e, c, ec, ev⟩ := y
    subst e ev
    exact hs i c _ _ ec p
  · have e : i = x.cps.size := by omega
    subst e
    exact .inl ⟨Nat.le_refl _, hd _ _ p⟩
theorem s_iStr {te : TE} {R : It → Hp → Prop} (h : te σ H fun v H1 => ∃ x, v = .str x ∧ R (Its x) H1) : iStr te σ H R := h
theorem s_isIts {x : Str} {N : Str → Prop} (h : N x) : ∃ y, V.str x = .str y ∧ N y := ⟨x, rfl, h⟩
end
end Cr
namespace Cr
open PySem PySem.Spec PyProof.Rows L2
/-! ### dicts; fields and methods of small instances -/
def GetA (x : V) (H : Hp) (N : Addr → Prop) : Prop := ∃ a, x = .ref a ∧ IsD H a ∧ N a
def GetB (a : Addr) (y : V) (H : Hp) (N : Option V → Prop) : Prop := ∃ o, DGet H a y o ∧ N o
def PutQ (x y v : V) (H : Hp) (N : Hp → Prop) : Prop := ∃ a H4, x = .ref a ∧ DPut H a y v H4 ∧ N H4
section
variable {K : PySem.W.Frag} {σ : St} {H : Hp} {Q : VK} {D : Ends}
theorem s_dget2 {td ty tx : TE} (h : td σ H fun x H1 => GetA x H1 fun a => ty σ H1 fun y H2 => tx σ H2 fun z H3 => GetB a y H3 fun o => Q (o.getD z) H3) : tDGet2 td ty tx σ H Q := h
theorem s_dput {td ty tv : TE} (h : tv σ H fun v H1 => td σ H1 fun x H2 => ty σ H2 fun y H3 => PutQ x y v H3 fun H4 => D.nx σ H4) : sDPut td ty tv D σ H := h
theorem s_getA {d : Addr} {kvs : List (Key × V)} {N : Addr → Prop} (hd : H d = some (.dK kvs)) (h : N d) : GetA (.ref d) H N := ⟨d, rfl, .inl ⟨kvs, .inl hd⟩, h⟩
theorem s_getBS {d : Addr} {kvs : List (Key × V)} {s : Str} {N : Option V → Prop} (hd : H d = some (.dK kvs)) (h : N (valV kvs (.inr s))) : GetB d (.str s) H N := ⟨_, DGet.k (k := .inr s) hd, h⟩
theorem s_getBI {d : Addr} {kvs : List (Key × V)} {i : Int} {N : Option V → Prop} (hd : H d = some (.dK kvs)) (h : N (valV kvs (.inl i))) : GetB d (.int i) H N := ⟨_, DGet.k (k := .inl i) hd, h⟩
theorem s_putS {d : Addr} {kvs : List (Key × V)} {s : Str} {v : V} {N : Hp → Prop} (hd : H d = some (.dK kvs)) (hl : kvs.length < sizeLine) (h : N (upd H d (.dK (putK kvs (.inr s) v)))) : PutQ (.ref d) (.str s) v H N := ⟨d, _, rfl, DPut.k (k := .inr s) hd hl, h⟩
theorem s_dnewK (h : ∀ p, H p = none → Q (.ref p) (upd H p (.dK []))) : tDNewK σ H Q := h
theorem s_eqII {i : Int} (h : Q (.bl true) H) : rEqD K (.int i) (.int i) H Q := s_eqI (by rw [decide_eq_true rfl]; exact h)
theorem s_neII {i : Int} (h : Q (.bl false) H) : rNeD K (.int i) (.int i) H Q := s_neI (by rw [decide_eq_true rfl]; exact h)
theorem s_fld1 {a : Addr} {C dx : Addr} {f : Str} {v : V} (hx : H a = some (.ins C dx [(f, v)])) (c : Cls K C) (n : NoAttr K C f) (q : Q v H) : FldQ K (.ref a) f H Q :=
  ⟨a, C, dx, _, v, rfl, hx, c, n, by rw [List.lookup_cons, beq_self_eq_true], q⟩
theorem s_meth1 {C a dx : Addr} {f mn : Str} {v : V} {N : Prop} (hx : H a = some (.ins C dx [(f, v)])) (e : (mn == f) = false) (n : N) : MethQ C mn (.ref a) H N :=
  ⟨a, dx, _, rfl, hx, by rw [List.lookup_cons, e]; rfl, n⟩


end
/-- all but what stands at d stays, a dict or a list stands at d -/
structure Oth (d : Addr) (H H' : Hp) : Prop where
  oth : ∀ a o, a ≠ d → H a = some o → H' a = some o
  mu : ∃ o, H d = some o ∧ isZ o = false
theorem ki_oth {d : Addr} {H H' : Hp} (s : Oth d H H') : KI H H' := fun a o h t => s.oth a o (fun z => by
  subst z
  obtain ⟨u, e, k⟩ := s.mu
  rw [e] at h
  cases h
  rw [k] at t
  cases t) h
theorem ne_new {H : Hp} {p q : Addr} {o : HO} (h : upd H p o q = none) : q ≠ p := fun e => by rw [e, upd_same] at h; cases h
theorem free_upd {H : Hp} {p q : Addr} {o : HO} (h : upd H p o q = none) : H q = none := by
  have n := ne_new h
  rw [upd_ne n] at h
  exact h
theorem Oth.bag {d b l : Addr} {H H' : Hp} (s : Oth d H H') (n1 : d ≠ b) (n2 : d ≠ l) (h : Bag H b l) : Bag H' b l := by
  obtain ⟨ns, p, r, z, h1, h2, h3⟩ := h
  exact ⟨ns, p, r, z, s.oth _ _ n1.symm h1, s.oth _ _ n2.symm h2, h3⟩
end Cr
namespace Cr
open PySem PySem.Spec PyProof.Rows L2
/-! ### list(d.values()) -/
def DVals (H : Hp) (a : Addr) (vs : List V) : Prop := (∃ kvs : List (Key × V), H a = some (.dK kvs) ∧ vs = kvs.map (·.2)) ∨ ∃ kvs : List (List Key × V), H a = some (.dT kvs) ∧ vs = kvs.map (·.2)
def tListVals (td : TE) : TE := fun σ H Q => td σ H fun x H1 => ∃ a vs, x = V.ref a ∧ DVals H1 a vs ∧ ∀ l, H1 l = none → Q (.ref l) (upd H1 l (.lst vs))
theorem dvals_raw {X : Cx} {pins : List (Addr × Obj)} {σ : St} {H : Hp} {s : Shared} {a : Addr} {vs : List V} (I : Inv X pins σ H s) (h : DVals H a vs) :
    ∃ es ep, s.heap.DictRaw a es ep ∧ (a == sysModules) = false ∧ vs.length ≤ sizeLine ∧ es.size = vs.length ∧ ∀ i (hi : i < es.size), ∃ v, vs[i]? = some v ∧ RelV v es[i].val := by
  rcases h with ⟨kvs, e, rfl⟩ | ⟨kvs, e, rfl⟩
  · obtain ⟨hz, hs, ks, rel, dof⟩ := dk_of I.hok e
    obtain ⟨es, ep, hr, hsz, hv⟩ := Heap.DictOf.raw dof
    have hl := KV.length rel
    refine ⟨es, ep, hr, hs, by rw [List.length_map]; exact hz, by rw [List.length_map, hsz, hl], fun i hi => ?_⟩
    have hi2 : i < ks.length := by omega
    obtain ⟨x, h1, h2⟩ := KV.at' rel (i := i) (k := ks[i].1) (v := ks[i].2) (List.getElem?_eq_getElem hi2)
    refine ⟨x, by rw [List.getElem?_map, h1]; rfl, ?_⟩
    rw [(hv i hi ks[i].1 ks[i].2 (List.getElem?_eq_getElem hi2)).2]
    exact h2
  · obtain ⟨hz, hs, xs, rel, dof⟩ := dt_of I.hok e
    obtain ⟨es, ep, hr, hsz, hv⟩ := Heap.DictOfH.raw dof
    have hl : kvs.length = xs.length := Paired.length rel
    have at_ : ∀ {kvs : List (List Key × V)} {xs : List (List Key × Addr × Value)}, L2.KT H kvs xs → ∀ {i : Nat} {y : List Key × Addr × Value}, xs[i]? = some y → ∃ p, kvs[i]? = some p ∧ RelV p.2 y.2.2 := by
      intro kvs xs r
      induction r with
      | nil => intro i y e; simp at e
      | cons hp t ih =>
        intro i y e
        cases i with
        | zero => simp at e; subst e; exact ⟨_, rfl, hp.2.2⟩
        | succ i => simp at e; exact ih e
    refine ⟨es, ep, hr, hs, by rw [List.length_map]; exact hz, by rw [List.length_map, hsz, hl], fun i hi => ?_⟩
    obtain ⟨y, h1, _, h3, _⟩ := hv i hi
    obtain ⟨p, h4, h5⟩ := at_ rel h1
    refine ⟨p.2, by rw [List.getElem?_map, h4]; rfl, ?_⟩
    rw [h3]
    exact h5
section
variable {X : Cx} {o : Expr} {p pos apos mpos : Pos} {td : TE}
theorem pe_listVals (hc : X.calm = true) (hg : Gl X "list") (hm : X.mg "list" = none) (hd : PE X o td) (hbase : attributeBase o "values" X.env (eval o X.env) = eval o X.env := by rfl) (hline : (apos.endLine == mpos.line) = true := by rfl)
    (hse : starEach [Expr.Call (.Attribute o "values" apos) [] [] mpos] X.env = [(false, eval (Expr.Call (.Attribute o "values" apos) [] [] mpos) X.env)] := by rfl) :
    PE X (.Call (.Name "list" p) [.Call (.Attribute o "values" apos) [] [] mpos] [] pos) (tListVals td) := by
  refine ⟨fun pins s σ H Q I h => ?_⟩
  refine wpAny_Call_Name_kw (ld_blt I hg hm (u := .type "list") (by first | rfl | decide +kernel) ?_ (by first | decide +kernel | decide) (by first | decide +kernel | decide))
  rw [hse]
  refine PySem.callWith_type1 (wpAny_Call_method0_late hbase hline (thn (hd.run pins s σ H _ I h) fun v s1 ⟨x, H1, I1, r1, a, vs, ex, ha, q⟩ => ?_))
  subst ex
  obtain rfl : v = Value.ref a := r1
  obtain ⟨es, ep, hr, hsys, hz, hsz, hv⟩ := dvals_raw I1 ha
  obtain ⟨ob, ho, hx, hdat⟩ := id hr
  refine ⟨"dict", "dict.values", F.plainAttrs_dict, F.slot_dict_values, F.type_dict_values, ⟨ob, ho, hx.1⟩, fun b e => ?_, Calls.callWith_builtin rfl (PySem.evalArgs_none ?_)⟩
  · cases e
    exact ⟨ob, ho, hx.2.1⟩
  refine call_meetsIn F.slot_dict_values ⟨ob, ho, hx.1⟩ F.entry_dict_values (F.args_dict_values_1 _) (meets_dict_values_raw a hsys) ⟨⟨es, ep, hr⟩, ?_⟩
  have k1 : ∀ b u, s1.heap.get? b = some u → (s1.heap.push { cls := .type "dict_values", data := .fields #[.ref a] }).get? b = some u := fun b u e => Heap.get?_push_of_some _ e
  refine PySem.W.kdl_call (KdlSrc.rawValues (r := s1.heap.objs.size) (d := a) (es := es) (ep := ep)) (I1.ok.hd hc) ⟨⟨_, Heap.get?_push_size _ rfl, rfl, rfl⟩, ⟨ob, k1 _ _ ho, hx, hdat⟩⟩ (by omega) fun h' tk acc' c' hkeep hS hacc => ?_
  have hsz1 : s1.heap.objs.size ≤ (s1.heap.push { cls := .type "dict_values", data := .fields #[.ref a] }).objs.size := by rw [Heap.size_push]; exact Nat.le_succ _
  refine ⟨.ref _, upd H1 _ (.lst vs), I1.laid (t' := tk) (fun b u e => hkeep b u (k1 b u e)) hsz1 (show ObjOk X.prog X.w _ _ _ (.lst vs) from ⟨hz, acc'.toList, c', ?_, ?_⟩), rfl, q _ (I1.hok.fresh hsz1)⟩
  · refine vals_of_at (by have h1 := hacc.1; rw [show acc'.toList.length = acc'.size by simp]; omega) fun j x u h1 h2 => ?_
    obtain ⟨hi, e2⟩ := hacc.2 j u (by rw [← Array.getElem?_toList]; exact h2)
    obtain ⟨v, h3, h4⟩ := hv j hi
    rw [h1] at h3
    cases h3
    rw [e2]
    exact h4
  · rw [Array.toArray_toList]
    exact hS
end
end Cr
namespace Cr
open PySem PySem.Spec PyProof.Rows L2
/-- a fraction's own tuple, not frozen, no constant -/
def Fz (H : Hp) (v : V) (r : Rat) : Prop := ∃ a, v = .ref a ∧ H a = some (.tup [.int r.num, .int r.den])
theorem Fz.dt {K : PySem.W.Frag} {H : Hp} {v : V} {r : Rat} (h : Fz H v r) : Dt K H v (fr r) := by
  obtain ⟨a, rfl, h⟩ := h
  exact .tup (.inl (.inl h)) (.cons (.int _) (.cons (.int _) .nil))
theorem fz_new {H : Hp} {p : Addr} {r : Rat} : Fz (upd H p (.tup [.int r.num, .int r.den])) (.ref p) r := ⟨p, rfl, upd_same⟩
/-- a fraction as a key -/
def keyF (r : Rat) : List Key := [.inl r.num, .inl (r.den : Int)]
theorem keyF_inj {r s : Rat} (h : keyF r = keyF s) : r = s := by
  injection h with h1 h2
  injection h2 with h2 _
  exact Rat.ext (Sum.inl.inj h1) (by have := Sum.inl.inj h2; omega)
theorem Fz.get {H : Hp} {d : Addr} {v : V} {r : Rat} {kvs : List (List Key × V)} (h : Fz H v r) (e : H d = some (.dT kvs)) : DGet H d v (valV kvs (keyF r)) := by
  obtain ⟨a, rfl, h⟩ := h
  exact DGet.t e h
theorem Fz.put {H : Hp} {d : Addr} {v y : V} {r : Rat} {kvs : List (List Key × V)} (h : Fz H v r) (e : H d = some (.dT kvs)) (l : kvs.length < sizeLine) : DPut H d v y (upd H d (.dT (putK kvs (keyF r) y))) := by
  obtain ⟨a, rfl, h⟩ := h
  exact DPut.t e h l
theorem Fz.mono {H H' : Hp} {v : V} {r : Rat} (k : KT H H') (h : Fz H v r) : Fz H' v r := by
  obtain ⟨a, e, h⟩ := h
  exact ⟨a, e, k _ _ h rfl⟩
section
variable {K : PySem.W.Frag} {σ : St} {H : Hp} {Q : VK} {D : Ends}
def DInQ (y x : V) (H : Hp) (N : Bool → Prop) : Prop := ∃ a o, x = V.ref a ∧ DGet H a y o ∧ N o.isSome
def DGetQ (x y : V) (H : Hp) (N : V → Prop) : Prop := ∃ a v, x = V.ref a ∧ DGet H a y (some v) ∧ N v
theorem s_dinV {ty td : TE} (h : ty σ H fun y H1 => td σ H1 fun x H2 => DInQ y x H2 fun b => Q (.bl b) H2) : tDIn ty td σ H Q := by
  have e : (fun y H1 => td σ H1 fun x H2 => DInQ y x H2 fun b => Q (.bl b) H2) = fun y H1 => td σ H1 fun x H2 => ∃ a o, x = V.ref a ∧ DGet H2 a y o ∧ Q (.bl o.isSome) H2 := rfl
  exact h
theorem s_dgetV {ty td : TE} (h : td σ H fun x H1 => ty σ H1 fun y H2 => DGetQ x y H2 fun v => Q v H2) : tDGet td ty σ H Q := h
theorem s_dinF {d : Addr} {y : V} {r : Rat} {kvs : List (List Key × V)} {N : Bool → Prop} (h : Fz H y r) (e : H d = some (.dT kvs)) (n : N (valV kvs (keyF r)).isSome) : DInQ y (.ref d) H N := ⟨d, _, rfl, h.get e, n⟩
theorem s_dgetF {d : Addr} {y v : V} {r : Rat} {kvs : List (List Key × V)} {N : V → Prop} (h : Fz H y r) (e : H d = some (.dT kvs)) (ev : valV kvs (keyF r) = some v) (n : N v) : DGetQ (.ref d) y H N := ⟨d, v, rfl, by rw [← ev]; exact h.get e, n⟩
theorem s_putF {d : Addr} {y v : V} {r : Rat} {kvs : List (List Key × V)} {N : Hp → Prop} (h : Fz H y r) (e : H d = some (.dT kvs)) (l : kvs.length < sizeLine) (n : N (upd H d (.dT (putK kvs (keyF r) v)))) : PutQ (.ref d) y v H N := ⟨d, _, rfl, h.put e l, n⟩
theorem s_dnewT (h : ∀ p, H p = none → Q (.ref p) (upd H p (.dT []))) : tDNewT σ H Q := h
def LvQ (x : V) (H : Hp) (Q : VK) : Prop := ∃ a vs, x = V.ref a ∧ DVals H a vs ∧ ∀ l, H l = none → Q (.ref l) (upd H l (.lst vs))
theorem s_lv {td : TE} (h : td σ H fun x H1 => LvQ x H1 Q) : tListVals td σ H Q := h
theorem s_lvT {d : Addr} {kvs : List (List Key × V)} (e : H d = some (.dT kvs)) (h : ∀ l, H l = none → Q (.ref l) (upd H l (.lst (kvs.map (·.2))))) : LvQ (.ref d) H Q := ⟨d, _, rfl, .inr ⟨kvs, e, rfl⟩, h⟩
theorem s_lvK {d : Addr} {kvs : List (Key × V)} (e : H d = some (.dK kvs)) (h : ∀ l, H l = none → Q (.ref l) (upd H l (.lst (kvs.map (·.2))))) : LvQ (.ref d) H Q := ⟨d, _, rfl, .inl ⟨kvs, e, rfl⟩, h⟩
theorem s_aug {i : Nat} {te : TE} {ti : TIp} {x : V} (e : σ[i]? = some (some x)) (h : te σ H fun y H1 => ti x y H1 fun z H2 => gName i z σ H2 D.nx) : tAug i te ti D σ H := ⟨x, e, h⟩
theorem s_ipAdd {i j : Int} (h : Q (.int (i + j)) H) : ipI (fun i j => i + j) (.int i) (.int j) H Q := ⟨i, j, rfl, rfl, h⟩
theorem s_ipSub {i j : Int} (h : Q (.int (i - j)) H) : ipI (fun i j => i - j) (.int i) (.int j) H Q := ⟨i, j, rfl, rfl, h⟩
theorem s_insert {a : Addr} {xs : List V} {i : Int} {y : V} (hs : H a = some (.lst xs)) (z : xs.length < sizeLine) (h0 : 0 ≤ i) (h1 : i < 2 ^ 63) (h : Q .non (upd H a (.lst (xs.take i.toNat ++ [y] ++ xs.drop i.toNat)))) : rInsertU (.ref a) [.int i, y] H Q := ⟨a, xs, i, y, rfl, rfl, hs, z, h0, h1, h⟩
theorem s_popAt {a : Addr} {xs : List V} {j : Nat} {y : V} (hs : H a = some (.lst xs)) (hl : xs.length ≤ 1000) (e : xs[j]? = some y) (h : Q y (upd H a (.lst (xs.eraseIdx j)))) : rPopAt (.ref a) [.int (j : Int)] H Q := by
  have hj : j < xs.length := (List.getElem?_eq_some_iff.mp e).1
  refine ⟨a, xs, _, j, y, rfl, rfl, hs, by omega, by omega, ?_, e, h⟩
  unfold seqIndex?
  simp only []
  first
    | rfl
    | (rw [if_neg (by omega)]; rw [if_pos (by omega)]; rfl)
    | (simp; omega)
end
end Cr
namespace Cr
open PySem PySem.Spec PyProof.Rows L2
/-! ### list comprehensions over a range with a test; texts compared -/
section
variable {K : PySem.W.Frag} {σ : St} {H : Hp} {Q : VK} {D : Ends}
theorem c_rangeT {n : Nat} {g : TG} {tt : TT} {te : TE} {vs : List Nat} (pr : Nat → Bool) (f : Nat → V) (hz : n ≤ 1000)
    (turn : ∀ (i : Nat) A (Nt : V → Hp → Prop) (Nf : Hp → Prop), i < n → Same H A → (pr i = true → ∀ B, Same A B → Nt (f i) B) → (pr i = false → ∀ B, Same A B → Nf B) → g (.int (0 + (i : Int))) (wipe σ vs) A fun σ2 B => wipe σ2 vs = wipe σ vs ∧ tt σ2 B fun b B2 => if b = true then te σ2 B2 Nt else Nf B2)
    (fin : ∀ q A, Same H A → H q = none → A q = some (.lst (((List.range n).filter pr).map f)) → Q (.ref q) A) : LcR (Itr 0 n) g tt te vs σ H Q := by
  intro d hd
  have hlen : ∀ i, i ≤ n → (((List.range i).filter pr).map f).length ≤ 1000 := fun i hi => by
    rw [List.length_map]
    have := List.length_filter_le pr (List.range i)
    rw [List.length_range] at this
    omega
  refine lc_range (fun i A => Same H A ∧ A d = some (.lst (((List.range i).filter pr).map f))) ⟨same_new hd, upd_same⟩ ?_ ?_
  · rintro i A hi ⟨hs, hA⟩
    refine turn i A _ _ hi hs (fun hp B sb => ?_) (fun hp B sb => ?_)
    · refine ⟨_, sb _ _ hA, L2.small1000 (hlen i (by omega)), same_mut (hs.trans sb) hd, ?_⟩
      rw [upd_same, List.range_succ, List.filter_append, List.map_append, List.filter_cons_of_pos hp]
      rfl
    · refine ⟨hs.trans sb, ?_⟩
      rw [List.range_succ, List.filter_append, List.map_append, List.filter_cons_of_neg (by rw [hp]; exact Bool.false_ne_true), List.filter_nil, List.map_nil, List.append_nil]
      exact sb _ _ hA
  · rintro A ⟨hs, hA⟩
    exact fin d A hs hd hA
theorem eqvS (i j : Str) : PyData.eqv (.str i) (.str j) = decide (i = j) := by
  simp only [PyData.eqv]
  by_cases h : i = j <;> simp [h]
theorem s_eqS {i j : Str} (oi : SeqAt.shaped (.str i) = true) (oj : SeqAt.shaped (.str j) = true) (h : Q (.bl (decide (i = j))) H) : rEqD K (.str i) (.str j) H Q := ⟨_, _, .str i, .str j, oi, oj, by rw [eqvS]; exact h⟩
theorem s_neS {i j : Str} (oi : SeqAt.shaped (.str i) = true) (oj : SeqAt.shaped (.str j) = true) (h : Q (.bl (!decide (i = j))) H) : rNeD K (.str i) (.str j) H Q := ⟨_, _, .str i, .str j, oi, oj, by rw [eqvS]; exact h⟩
theorem s_eqSS {i : Str} (oi : SeqAt.shaped (.str i) = true) (h : Q (.bl true) H) : rEqD K (.str i) (.str i) H Q := s_eqS oi oi (by rw [decide_eq_true rfl]; exact h)
theorem s_neSS {i : Str} (oi : SeqAt.shaped (.str i) = true) (h : Q (.bl false) H) : rNeD K (.str i) (.str i) H Q := s_neS oi oi (by rw [decide_eq_true rfl]; exact h)
end
end Cr

namespace Cr
open PySem PySem.Spec PyProof.Rows L2
/-! ### data that can be laid out; isinstance; slices of tuples; written dicts -/
def LayN (n : Nat) (d : PyData) : Prop := d.canLay0 = true ∧ d.depth ≤ n
theorem LayN.mono {n m : Nat} {d : PyData} (h : LayN n d) (k : n ≤ m) : LayN m d := ⟨h.1, Nat.le_trans h.2 k⟩
theorem lay_all : ∀ {ds : List PyData}, (∀ d, d ∈ ds → d.canLay0 = true) → PyData.canLayAll0 ds = true
  | [], _ => by simp [PyData.canLayAll0]
  | d :: ds, h => by rw [PyData.canLayAll0, h d List.mem_cons_self, lay_all fun e he => h e (List.mem_cons_of_mem _ he)]; rfl
theorem depth_all {n : Nat} : ∀ {ds : List PyData}, (∀ d, d ∈ ds → d.depth ≤ n) → PyData.depthAll ds ≤ n
  | [], _ => by simp [PyData.depthAll]
  | d :: ds, h => by
    have h1 := h d List.mem_cons_self
    have h2 := depth_all fun e he => h e (List.mem_cons_of_mem _ he)
    simp only [PyData.depthAll]
    omega
theorem lay_tup {n : Nat} {ds : List PyData} (h : ∀ d, d ∈ ds → LayN n d) : LayN (n + 1) (.tuple ds) :=
  ⟨by rw [PyData.canLay0]; exact lay_all fun d hd => (h d hd).1, by have := depth_all fun d hd => (h d hd).2; simp only [PyData.depth]; omega⟩
theorem lay_lst {n : Nat} {ds : List PyData} (h : ∀ d, d ∈ ds → LayN n d) : LayN (n + 1) (.list ds) :=
  ⟨by rw [PyData.canLay0]; exact lay_all fun d hd => (h d hd).1, by have := depth_all fun d hd => (h d hd).2; simp only [PyData.depth]; omega⟩
theorem lay_int {n : Nat} (i : Int) : LayN n (.int i) := ⟨by simp only [PyData.canLay0], by simp only [PyData.depth]; omega⟩
theorem lay_non {n : Nat} : LayN n .none := ⟨by simp only [PyData.canLay0], by simp only [PyData.depth]; omega⟩
theorem lay_bl {n : Nat} (b : Bool) : LayN n (.bool b) := ⟨by simp only [PyData.canLay0], by simp only [PyData.depth]; omega⟩
def TxtOk (x : Str) : Prop := x.cps.all (· < 0x110000) = true
theorem lay_str {n : Nat} {x : Str} (h : TxtOk x) : LayN n (.str x) := ⟨by rw [PyData.canLay0]; exact h, by simp only [PyData.depth]; omega⟩
theorem LayN.sh {n : Nat} {d : PyData} (h : LayN n d) (k : n ≤ 64 := by decide) : SeqAt.shaped d = true := by
  unfold SeqAt.shaped
  rw [Bool.and_eq_true]
  exact ⟨h.1, decide_eq_true (Nat.le_trans h.2 k)⟩
theorem Nm.txt {x : Str} (h : Nm x) : TxtOk x := by
  unfold TxtOk
  rw [Array.all_eq_true']
  intro c hc
  have := h.2.2 c (by simpa using hc)
  exact decide_eq_true (by omega)
section
variable {K : PySem.W.Frag} {σ : St} {H : Hp} {Q : VK} {D : Ends}
/-- data against the same data -/
theorem s_eqDr {x y : V} {d : PyData} {n : Nat} (hx : Dt K H x d) (hy : Dt K H y d) (s : LayN n d) (k : n ≤ 64) (h : Q (.bl true) H) : rEqD K x y H Q :=
  ⟨d, d, hx.dp, hy.dp, s.sh k, s.sh k, by rw [SeqAt.eqv_refl _ s.1]; exact h⟩
theorem s_neDr {x y : V} {d : PyData} {n : Nat} (hx : Dt K H x d) (hy : Dt K H y d) (s : LayN n d) (k : n ≤ 64) (h : Q (.bl false) H) : rNeD K x y H Q :=
  ⟨d, d, hx.dp, hy.dp, s.sh k, s.sh k, by rw [SeqAt.eqv_refl _ s.1]; exact h⟩
theorem s_eqLr {a b : Addr} {xs ys : List V} {ds : List PyData} {n : Nat} (ha : SqL K H a xs) (hb : SqL K H b ys) (hx : DtAll K H xs ds) (hy : DtAll K H ys ds) (s : ∀ d, d ∈ ds → LayN n d) (k : n ≤ 63) (h : Q (.bl true) H) : rEqD K (.ref a) (.ref b) H Q :=
  ⟨.list ds, .list ds, .lst ha hx.dp, .lst hb hy.dp, (lay_lst s).sh (by omega), (lay_lst s).sh (by omega), by rw [SeqAt.eqv_refl _ (lay_lst s).1]; exact h⟩
theorem s_neLr {a b : Addr} {xs ys : List V} {ds : List PyData} {n : Nat} (ha : SqL K H a xs) (hb : SqL K H b ys) (hx : DtAll K H xs ds) (hy : DtAll K H ys ds) (s : ∀ d, d ∈ ds → LayN n d) (k : n ≤ 63) (h : Q (.bl false) H) : rNeD K (.ref a) (.ref b) H Q :=
  ⟨.list ds, .list ds, .lst ha hx.dp, .lst hb hy.dp, (lay_lst s).sh (by omega), (lay_lst s).sh (by omega), by rw [SeqAt.eqv_refl _ (lay_lst s).1]; exact h⟩
/-- isinstance by names of types -/
theorem s_isTy {x : V} {n m : String} {b : Bool} (hx : TyX K H x (.type n)) (e : kitB n m = some b) (h : Q (.bl b) H) : rIsi K [x, .ty m] H Q := ⟨_, _, _, _, b, rfl, .ty _, hx, kit_ty e, h⟩
theorem kit_ll : kitB "list" "list" = some true := by decide +kernel
theorem kit_ss : kitB "str" "str" = some true := by decide +kernel
theorem kit_si : kitB "str" "int" = some false := by decide +kernel
theorem kit_sb : kitB "str" "bool" = some false := by decide +kernel
theorem kit_st : kitB "str" "tuple" = some false := by decide +kernel
theorem kit_is : kitB "int" "str" = some false := by decide +kernel
theorem kit_it : kitB "int" "tuple" = some false := by decide +kernel
theorem kit_bs : kitB "bool" "str" = some false := by decide +kernel
theorem kit_bt : kitB "bool" "tuple" = some false := by decide +kernel
theorem kit_ns : kitB "NoneType" "str" = some false := by decide +kernel
theorem kit_ni : kitB "NoneType" "int" = some false := by decide +kernel
theorem kit_nb : kitB "NoneType" "bool" = some false := by decide +kernel
theorem kit_nt : kitB "NoneType" "tuple" = some false := by decide +kernel
theorem kit_ts : kitB "tuple" "str" = some false := by decide +kernel
theorem kit_ti : kitB "tuple" "int" = some false := by decide +kernel
theorem kit_tb : kitB "tuple" "bool" = some false := by decide +kernel
theorem s_isLL {a : Addr} {xs : List V} (hx : H a = some (.lst xs)) (h : Q (.bl true) H) : rIsi K [.ref a, .ty "list"] H Q := s_isTy (.base (.lst hx)) kit_ll h
theorem s_isSS {x : Str} (h : Q (.bl true) H) : rIsi K [.str x, .ty "str"] H Q := s_isTy (.base (.str x)) kit_ss h
theorem s_isSI {x : Str} (h : Q (.bl false) H) : rIsi K [.str x, .ty "int"] H Q := s_isTy (.base (.str x)) kit_si h
theorem s_isST {x : Str} (h : Q (.bl false) H) : rIsi K [.str x, .ty "tuple"] H Q := s_isTy (.base (.str x)) kit_st h
theorem s_isIS {i : Int} (h : Q (.bl false) H) : rIsi K [.int i, .ty "str"] H Q := s_isTy (.base (.int i)) kit_is h
theorem s_isIT {i : Int} (h : Q (.bl false) H) : rIsi K [.int i, .ty "tuple"] H Q := s_isTy (.base (.int i)) kit_it h
theorem s_isNT (h : Q (.bl false) H) : rIsi K [.non, .ty "tuple"] H Q := s_isTy (.base .non) kit_nt h
/-- t[:n] of a tuple, also the whole -/
theorem s_slA {x : V} {ds : List PyData} {hi : Int} (hx : Dt K H x (.tuple ds)) (h0 : 0 ≤ hi) (h : ∀ v H', Same H H' → Dt K H' v (.tuple (ds.take hi.toNat)) → Q v H') : rSlA K x none (some hi) H Q := by
  have hx0 := hx
  obtain ⟨a, xs, rfl, hs, ha⟩ := hx.tup_inv
  refine ⟨a, xs, rfl, hs, fun z => h _ _ (Same.refl _) ?_, fun _ p hp => h _ _ (same_new hp) (by rw [cutV_hi xs h0]; exact dt_new (ha.take _) hp)⟩
  obtain ⟨k, rfl⟩ : ∃ k : Nat, hi = (k : Int) := ⟨hi.toNat, by omega⟩
  have z2 := z.2
  rw [HT.sIx_nat] at z2
  have e := ha.len
  rw [Int.toNat_natCast, List.take_of_length_le (by omega)]
  exact hx0
/-- x in D, D[x] of a written dict -/
def rKin (K : PySem.W.Frag) (d : Addr) : R2 := fun x y H Q => ∃ (z : Str) (r : Option Value), x = .str z ∧ y = .ref d ∧ PySem.W.nsIn K d z = some r ∧ Q (.bl r.isSome) H
def rKntin (K : PySem.W.Frag) (d : Addr) : R2 := fun x y H Q => ∃ (z : Str) (r : Option Value), x = .str z ∧ y = .ref d ∧ PySem.W.nsIn K d z = some r ∧ Q (.bl (!r.isSome)) H
theorem op_kin {X : Cx} {d : Addr} {es : Array DictEntry} {n : Nat} (D : KDict X.K X.w d es n) : OpR X (compareOp .In) (rKin X.K d) := op_in_kd D
theorem op_kntin {X : Cx} {d : Addr} {es : Array DictEntry} {n : Nat} (D : KDict X.K X.w d es n) : OpR X (compareOp .NotIn) (rKntin X.K d) := op_notIn_kd D
theorem s_kinT {d : Addr} {z : Str} {u : Value} (e : PySem.W.nsIn K d z = some (some u)) (h : Q (.bl true) H) : rKin K d (.str z) (.ref d) H Q := ⟨z, _, rfl, rfl, e, h⟩
theorem s_kinF {d : Addr} {z : Str} (e : PySem.W.nsIn K d z = some none) (h : Q (.bl false) H) : rKin K d (.str z) (.ref d) H Q := ⟨z, _, rfl, rfl, e, h⟩
theorem s_kntinT {d : Addr} {z : Str} {u : Value} (e : PySem.W.nsIn K d z = some (some u)) (h : Q (.bl false) H) : rKntin K d (.str z) (.ref d) H Q := ⟨z, _, rfl, rfl, e, h⟩
theorem s_kntinF {d : Addr} {z : Str} (e : PySem.W.nsIn K d z = some none) (h : Q (.bl true) H) : rKntin K d (.str z) (.ref d) H Q := ⟨z, _, rfl, rfl, e, h⟩
theorem s_kin {d : Addr} {z : Str} {r : Option Value} (e : PySem.W.nsIn K d z = some r) (h : Q (.bl r.isSome) H) : rKin K d (.str z) (.ref d) H Q := ⟨z, r, rfl, rfl, e, h⟩
theorem s_kntin {d : Addr} {z : Str} {r : Option Value} (e : PySem.W.nsIn K d z = some r) (h : Q (.bl (!r.isSome)) H) : rKntin K d (.str z) (.ref d) H Q := ⟨z, r, rfl, rfl, e, h⟩
theorem s_kget {w : World} {d : Addr} {z : Str} {u : Value} {v : V} {es : Array DictEntry} {n : Nat} (D : KDict K w d es n) (e : PySem.W.nsIn K d z = some (some u)) (r : RelV v u) (h : Q v H) : rIxD K w (.ref d) (.str z) H Q := ⟨d, z, v, rfl, rfl, ⟨es, n, u, D.at_, D.lit, e, r⟩, h⟩
/-- x in [..] of texts, as a written list -/
theorem s_inSL {p : Addr} {x : Str} {vs : List V} (ys : List Str) (hs : SqL K H p vs) (e : vs = ys.map V.str) (h : Q (.bl (decide (x ∈ ys))) H) : rIn K false (.str x) (.ref p) H Q := by
  subst e
  exact s_inS hs h
theorem s_inW1 {p : Addr} {x y0 : Str} (h : Q (.bl (decide (x ∈ [y0]))) (upd H p (.lst [.str y0]))) : rIn K false (.str x) (.ref p) (upd H p (.lst [.str y0])) Q := s_inSL [y0] (.of upd_same) rfl h
theorem s_inW2 {p : Addr} {x y0 y1 : Str} (h : Q (.bl (decide (x ∈ [y0, y1]))) (upd H p (.lst [.str y0, .str y1]))) : rIn K false (.str x) (.ref p) (upd H p (.lst [.str y0, .str y1])) Q := s_inSL [y0, y1] (.of upd_same) rfl h
theorem s_inW3 {p : Addr} {x y0 y1 y2 : Str} (h : Q (.bl (decide (x ∈ [y0, y1, y2]))) (upd H p (.lst [.str y0, .str y1, .str y2]))) : rIn K false (.str x) (.ref p) (upd H p (.lst [.str y0, .str y1, .str y2])) Q := s_inSL [y0, y1, y2] (.of upd_same) rfl h
theorem s_inW4 {p : Addr} {x y0 y1 y2 y3 : Str} (h : Q (.bl (decide (x ∈ [y0, y1, y2, y3]))) (upd H p (.lst [.str y0, .str y1, .str y2, .str y3]))) : rIn K false (.str x) (.ref p) (upd H p (.lst [.str y0, .str y1, .str y2, .str y3])) Q := s_inSL [y0, y1, y2, y3] (.of upd_same) rfl h
theorem s_inW5 {p : Addr} {x y0 y1 y2 y3 y4 : Str} (h : Q (.bl (decide (x ∈ [y0, y1, y2, y3, y4]))) (upd H p (.lst [.str y0, .str y1, .str y2, .str y3, .str y4]))) : rIn K false (.str x) (.ref p) (upd H p (.lst [.str y0, .str y1, .str y2, .str y3, .str y4])) Q := s_inSL [y0, y1, y2, y3, y4] (.of upd_same) rfl h
theorem s_inW6 {p : Addr} {x y0 y1 y2 y3 y4 y5 : Str} (h : Q (.bl (decide (x ∈ [y0, y1, y2, y3, y4, y5]))) (upd H p (.lst [.str y0, .str y1, .str y2, .str y3, .str y4, .str y5]))) : rIn K false (.str x) (.ref p) (upd H p (.lst [.str y0, .str y1, .str y2, .str y3, .str y4, .str y5])) Q := s_inSL [y0, y1, y2, y3, y4, y5] (.of upd_same) rfl h
theorem s_inW7 {p : Addr} {x y0 y1 y2 y3 y4 y5 y6 : Str} (h : Q (.bl (decide (x ∈ [y0, y1, y2, y3, y4, y5, y6]))) (upd H p (.lst [.str y0, .str y1, .str y2, .str y3, .str y4, .str y5, .str y6]))) : rIn K false (.str x) (.ref p) (upd H p (.lst [.str y0, .str y1, .str y2, .str y3, .str y4, .str y5, .str y6])) Q := s_inSL [y0, y1, y2, y3, y4, y5, y6] (.of upd_same) rfl h
theorem s_inW8 {p : Addr} {x y0 y1 y2 y3 y4 y5 y6 y7 : Str} (h : Q (.bl (decide (x ∈ [y0, y1, y2, y3, y4, y5, y6, y7]))) (upd H p (.lst [.str y0, .str y1, .str y2, .str y3, .str y4, .str y5, .str y6, .str y7]))) : rIn K false (.str x) (.ref p) (upd H p (.lst [.str y0, .str y1, .str y2, .str y3, .str y4, .str y5, .str y6, .str y7])) Q := s_inSL [y0, y1, y2, y3, y4, y5, y6, y7] (.of upd_same) rfl h
theorem s_inW9 {p : Addr} {x y0 y1 y2 y3 y4 y5 y6 y7 y8 : Str} (h : Q (.bl (decide (x ∈ [y0, y1, y2, y3, y4, y5, y6, y7, y8]))) (upd H p (.lst [.str y0, .str y1, .str y2, .str y3, .str y4, .str y5, .str y6, .str y7, .str y8]))) : rIn K false (.str x) (.ref p) (upd H p (.lst [.str y0, .str y1, .str y2, .str y3, .str y4, .str y5, .str y6, .str y7, .str y8])) Q := s_inSL [y0, y1, y2, y3, y4, y5, y6, y7, y8] (.of upd_same) rfl h
theorem s_inW10 {p : Addr} {x y0 y1 y2 y3 y4 y5 y6 y7 y8 y9 : Str} (h : Q (.bl (decide (x ∈ [y0, y1, y2, y3, y4, y5, y6, y7, y8, y9]))) (upd H p (.lst [.str y0, .str y1, .str y2, .str y3, .str y4, .str y5, .str y6, .str y7, .str y8, .str y9]))) : rIn K false (.str x) (.ref p) (upd H p (.lst [.str y0, .str y1, .str y2, .str y3, .str y4, .str y5, .str y6, .str y7, .str y8, .str y9])) Q := s_inSL [y0, y1, y2, y3, y4, y5, y6, y7, y8, y9] (.of upd_same) rfl h
theorem s_inW11 {p : Addr} {x y0 y1 y2 y3 y4 y5 y6 y7 y8 y9 y10 : Str} (h : Q (.bl (decide (x ∈ [y0, y1, y2, y3, y4, y5, y6, y7, y8, y9, y10]))) (upd H p (.lst [.str y0, .str y1, .str y2, .str y3, .str y4, .str y5, .str y6, .str y7, .str y8, .str y9, .str y10]))) : rIn K false (.str x) (.ref p) (upd H p (.lst [.str y0, .str y1, .str y2, .str y3, .str y4, .str y5, .str y6, .str y7, .str y8, .str y9, .str y10])) Q := s_inSL [y0, y1, y2, y3, y4, y5, y6, y7, y8, y9, y10] (.of upd_same) rfl h
theorem s_inW12 {p : Addr} {x y0 y1 y2 y3 y4 y5 y6 y7 y8 y9 y10 y11 : Str} (h : Q (.bl (decide (x ∈ [y0, y1, y2, y3, y4, y5, y6, y7, y8, y9, y10, y11]))) (upd H p (.lst [.str y0, .str y1, .str y2, .str y3, .str y4, .str y5, .str y6, .str y7, .str y8, .str y9, .str y10, .str y11]))) : rIn K false (.str x) (.ref p) (upd H p (.lst [.str y0, .str y1, .str y2, .str y3, .str y4, .str y5, .str y6, .str y7, .str y8, .str y9, .str y10, .str y11])) Q := s_inSL [y0, y1, y2, y3, y4, y5, y6, y7, y8, y9, y10, y11] (.of upd_same) rfl h
/-- the turns of a list comprehension with a test whose outcome hangs on the heap -/
theorem c_listF {α : Type} {a : Addr} {xs : List V} {zs : List α} {g : TG} {tt : TT} {te : TE} {vs : List Nat} {S : Hp → Hp → Prop} (St : Stp H S) (P : Hp → V → α → Prop) (R : Hp → α → V → Prop) (pm : ∀ A B x z, KI A B → P A x z → P B x z) (rm : ∀ A B z y, KI A B → R A z y → R B z y)
    (hl : ∀ A, S H A → SqL K A a xs) (hx : A2 (P H) xs zs) (hz : xs.length ≤ 1000)
    (turn : ∀ x z A (Nt : V → Hp → Prop) (Nf : Hp → Prop), z ∈ zs → P A x z → S H A → (∀ y B, S A B → R B z y → Nt y B) → (∀ B, S A B → Nf B) → g x (wipe σ vs) A fun σ2 B => wipe σ2 vs = wipe σ vs ∧ tt σ2 B fun b B2 => if b = true then te σ2 B2 Nt else Nf B2)
    (fin : ∀ p ys zs' A, S H A → H p = none → A p = some (.lst ys) → zs'.Sublist zs → A2 (R A) zs' ys → Q (.ref p) A) : LcR (Itl K a) g tt te vs σ H Q := by
  intro p hp
  have lx := hx.len
  refine lc_list (xs := xs) (fun i A => i ≤ xs.length ∧ S H A ∧ ∃ ys zs', A p = some (.lst ys) ∧ zs'.Sublist (zs.take i) ∧ A2 (R A) zs' ys) ⟨Nat.zero_le _, St.new _ _ _ St.s0 hp, [], [], upd_same, List.nil_sublist _, .nil⟩ (fun i A _ h => hl A h.2.1) ?_ ?_
  · rintro i x A e ⟨hi, hs, ys, zs', h1, hsub, h2⟩
    obtain ⟨z, ez, pz⟩ := hx.at e
    have hlt : i < xs.length := (List.getElem?_eq_some_iff.mp e).1
    have et : zs.take (i + 1) = zs.take i ++ [z] := by rw [List.take_add_one, ez]; rfl
    refine turn x z A _ _ (List.mem_of_getElem? ez) (pm _ _ _ _ (St.ki _ _ hs) pz) hs (fun y B sb r => ?_) (fun B sb => ?_)
    · have e3 := St.keep _ _ _ _ hp hs sb h1
      have hl : ys.length ≤ i := by
        have := hsub.length_le
        rw [← h2.len]
        rw [List.length_take] at this
        omega
      have k : KI B (upd B p (.lst (ys ++ [y]))) := ki_mut e3 rfl
      refine ⟨ys, e3, L2.small1000 (by omega), by omega, St.new _ _ _ (St.tr _ _ hs sb) hp, ys ++ [y], zs' ++ [z], upd_same, by rw [et]; exact hsub.append (List.Sublist.refl _), ?_⟩
      exact .snoc (rm _ _ _ _ k r) (h2.mono fun u v z => rm _ _ _ _ k (rm _ _ _ _ (St.ki _ _ sb) z))
    · exact ⟨by omega, St.tr _ _ hs sb, ys, zs', St.keep _ _ _ _ hp hs sb h1, by rw [et]; exact hsub.trans (List.sublist_append_left _ _), h2.mono fun u v z => rm _ _ _ _ (St.ki _ _ sb) z⟩
  · rintro A ⟨_, hs, ys, zs', h1, hsub, h2⟩
    rw [lx, List.take_length] at hsub
    exact fin p ys zs' A hs hp h1 hsub h2
end
theorem A2.flip {α β : Type} {R : α → β → Prop} : ∀ {xs : List α} {ys : List β}, A2 R xs ys → A2 (fun y x => R x y) ys xs
  | _, _, .nil => .nil
  | _, _, .cons a b => .cons a (A2.flip b)
theorem A2.mem {α β : Type} {R : α → β → Prop} : ∀ {xs : List α} {ys : List β}, A2 R xs ys → ∀ {x : α}, x ∈ xs → ∃ y, y ∈ ys ∧ R x y
  | _, _, .cons a b, x, h => by
    rcases List.mem_cons.mp h with e | e
    · subst e; exact ⟨_, List.mem_cons_self, a⟩
    · obtain ⟨y, h1, h2⟩ := A2.mem b e
      exact ⟨y, List.mem_cons_of_mem _ h1, h2⟩
theorem A2.perm {α β : Type} {R : α → β → Prop} {xs xs' : List α} (p : xs'.Perm xs) : ∀ {ys : List β}, A2 R xs ys → ∃ ys', A2 R xs' ys' ∧ ys'.Perm ys := by
  induction p with
  | nil => intro ys h; exact ⟨ys, h, List.Perm.refl _⟩
  | cons x _ ih =>
    intro ys h
    cases h with
    | cons a b =>
      obtain ⟨ys', h1, h2⟩ := ih b
      exact ⟨_, .cons a h1, h2.cons _⟩
  | swap x y l =>
    intro ys h
    cases h with
    | cons a b =>
      cases b with
      | cons c d => exact ⟨_, .cons c (.cons a d), List.Perm.swap _ _ _⟩
  | trans _ _ ih1 ih2 =>
    intro ys h
    obtain ⟨y1, h1, h2⟩ := ih2 h
    obtain ⟨y2, h3, h4⟩ := ih1 h1
    exact ⟨y2, h3, h4.trans h2⟩
theorem a2_das {K : PySem.W.Frag} {H : Hp} {α : Type} {f : α → PyData} : ∀ {vs : List V} {ls : List α}, A2 (fun v l => Dt K H v (f l)) vs ls → DtAll K H vs (ls.map f)
  | _, _, .nil => .nil
  | _, _, .cons a b => .cons a (a2_das b)
theorem das_a2 {K : PySem.W.Frag} {H : Hp} : ∀ {vs : List V} {ds : List PyData}, DtAll K H vs ds → A2 (fun v d => Dt K H v d) vs ds
  | _, [], h => by cases h; exact .nil
  | _, d :: ds, h => by cases h with | cons a b => exact .cons a (das_a2 b)
theorem a2_strs (ys : List Str) : A2 (fun v y => v = V.str y) (ys.map V.str) ys := by
  induction ys with
  | nil => exact .nil
  | cons y ys ih => exact .cons rfl ih
/-! ### entries -/
abbrev pairsD (ps : List (Str × Int)) : PyData := .tuple (ps.map fun p => .tuple [.str p.1, .int p.2])
structure PsOf (Tn : Str → Prop) (ps : List (Str × Int)) : Prop where
  l0 : 1 ≤ ps.length
  l1 : ps.length ≤ 8
  nd : (ps.map Prod.fst).Nodup
  ok : ∀ p, p ∈ ps → Tn p.1 ∧ 1 ≤ p.2 ∧ p.2 ≤ 1000000
/-- an entry of holders, things, a last day -/
inductive EntOf (Hn Tn : Str → Prop) (L : Int) : Str → Int → List PyData → Prop
  | price {d p : Int} {t : Str} : 0 ≤ d → d ≤ L → Tn t → 1 ≤ p → p ≤ 1000000 → EntOf Hn Tn L "price" d [.str t, .int p]
  | mix {d : Int} {ps : List (Str × Int)} : 0 ≤ d → d ≤ L → PsOf Tn ps → EntOf Hn Tn L "mix" d [pairsD ps]
  | come {d p : Int} {t : Str} : 0 ≤ d → d ≤ L → Hn t → 1 ≤ p → p ≤ 1000000000 → EntOf Hn Tn L "come" d [.str t, .int p]
  | go {d p : Int} {t : Str} : 0 ≤ d → d ≤ L → Hn t → 1 ≤ p → p ≤ 10000 → EntOf Hn Tn L "go" d [.str t, .int p]
  | draw {d p : Int} {t : Str} : 0 ≤ d → d ≤ L → Hn t → 1 ≤ p → p ≤ 1000000000 → EntOf Hn Tn L "draw" d [.str t, .int p]
  | give {d p : Int} {t u : Str} : 0 ≤ d → d ≤ L → Hn t → Hn u → t ≠ u → 1 ≤ p → p ≤ 10000 → EntOf Hn Tn L "give" d [.str t, .str u, .int p]
  | rate {d p : Int} : 0 ≤ d → d ≤ L → 0 ≤ p → p ≤ 9999 → EntOf Hn Tn L "rate" d [.int p]
  | harvest {d : Int} : 0 ≤ d → d ≤ L → EntOf Hn Tn L "harvest" d []
  | aside {d : Int} {t : Str} : 0 ≤ d → d ≤ L → Tn t → EntOf Hn Tn L "aside" d [.str t]
  | home {d : Int} {t : Str} : 0 ≤ d → d ≤ L → Tn t → EntOf Hn Tn L "home" d [.str t]
  | levy {d p : Int} : 0 ≤ d → d ≤ L → 1 ≤ p → p ≤ 9999 → EntOf Hn Tn L "levy" d [.int p]
  | hurdle {d p : Int} : 0 ≤ d → d ≤ L → 1 ≤ p → p ≤ 10000 → EntOf Hn Tn L "hurdle" d [.int p]
abbrev entD (k : Str) (d : Int) (rest : List PyData) : PyData := .tuple (.str k :: .int d :: rest)
def kindsE : List Str := ["price", "mix", "come", "go", "draw", "give", "rate", "harvest", "aside", "home", "levy", "hurdle"]
theorem EntOf.mono {Hn Tn Hn' Tn' : Str → Prop} {L L' d : Int} {k : Str} {rest : List PyData} (h : EntOf Hn Tn L k d rest) (a : ∀ x, Hn x → Hn' x) (b : ∀ x, Tn x → Tn' x) (c : L ≤ L') : EntOf Hn' Tn' L' k d rest := by
  cases h with
  | price d0 d1 t p0 p1 => exact .price d0 (by omega) (b _ t) p0 p1
  | mix d0 d1 h => exact .mix d0 (by omega) ⟨h.l0, h.l1, h.nd, fun p hp => ⟨b _ (h.ok p hp).1, (h.ok p hp).2⟩⟩
  | come d0 d1 t p0 p1 => exact .come d0 (by omega) (a _ t) p0 p1
  | go d0 d1 t p0 p1 => exact .go d0 (by omega) (a _ t) p0 p1
  | draw d0 d1 t p0 p1 => exact .draw d0 (by omega) (a _ t) p0 p1
  | give d0 d1 t u n p0 p1 => exact .give d0 (by omega) (a _ t) (a _ u) n p0 p1
  | rate d0 d1 p0 p1 => exact .rate d0 (by omega) p0 p1
  | harvest d0 d1 => exact .harvest d0 (by omega)
  | aside d0 d1 t => exact .aside d0 (by omega) (b _ t)
  | home d0 d1 t => exact .home d0 (by omega) (b _ t)
  | levy d0 d1 p0 p1 => exact .levy d0 (by omega) p0 p1
  | hurdle d0 d1 p0 p1 => exact .hurdle d0 (by omega) p0 p1
theorem EntOf.kind {Hn Tn : Str → Prop} {L d : Int} {k : Str} {rest : List PyData} (h : EntOf Hn Tn L k d rest) : k ∈ kindsE := by
  cases h <;> decide +kernel
theorem EntOf.day {Hn Tn : Str → Prop} {L d : Int} {k : Str} {rest : List PyData} (h : EntOf Hn Tn L k d rest) : 0 ≤ d ∧ d ≤ L := by
  cases h <;> exact ⟨by assumption, by assumption⟩
theorem lay_ps {Tn : Str → Prop} (hT : ∀ x, Tn x → TxtOk x) {ps : List (Str × Int)} (h : PsOf Tn ps) : LayN 2 (pairsD ps) :=
  lay_tup fun d hd => by
    obtain ⟨p, hp, rfl⟩ := List.mem_map.mp hd
    exact lay_tup fun e he => by
      simp only [List.mem_cons, List.not_mem_nil, or_false] at he
      rcases he with rfl | rfl
      · exact lay_str (hT _ (h.ok p hp).1)
      · exact lay_int _
theorem kind_txt {k : Str} (h : k ∈ kindsE) : TxtOk k := by
  unfold kindsE at h
  simp only [List.mem_cons, List.not_mem_nil, or_false] at h
  rcases h with rfl | rfl | rfl | rfl | rfl | rfl | rfl | rfl | rfl | rfl | rfl | rfl <;> (unfold TxtOk; decide +kernel)
theorem two {a b e : PyData} {n : Nat} (ha : LayN n a) (hb : LayN n b) (h : e ∈ [a, b]) : LayN n e := by
  rcases List.mem_cons.mp h with rfl | h
  · exact ha
  · rw [List.mem_singleton] at h; rw [h]; exact hb
theorem EntOf.lay {Hn Tn : Str → Prop} {L d : Int} {k : Str} {rest : List PyData} (hH : ∀ x, Hn x → TxtOk x) (hT : ∀ x, Tn x → TxtOk x) (h : EntOf Hn Tn L k d rest) : ∀ e, e ∈ (.str k :: .int d :: rest : List PyData) → LayN 2 e := by
  intro e he0
  rcases List.mem_cons.mp he0 with rfl | he1
  · exact lay_str (kind_txt h.kind)
  rcases List.mem_cons.mp he1 with rfl | he
  · exact lay_int _
  clear he0 he1
  cases h with
  | price d0 d1 t p0 p1 => exact two (lay_str (hT _ t)) (lay_int _) he
  | mix d0 d1 h => rw [List.mem_singleton] at he; rw [he]; exact lay_ps hT h
  | come d0 d1 t p0 p1 => exact two (lay_str (hH _ t)) (lay_int _) he
  | go d0 d1 t p0 p1 => exact two (lay_str (hH _ t)) (lay_int _) he
  | draw d0 d1 t p0 p1 => exact two (lay_str (hH _ t)) (lay_int _) he
  | give d0 d1 t u n p0 p1 =>
    rcases List.mem_cons.mp he with rfl | he
    · exact lay_str (hH _ t)
    · exact two (lay_str (hH _ u)) (lay_int _) he
  | rate d0 d1 p0 p1 => rw [List.mem_singleton] at he; rw [he]; exact lay_int _
  | harvest d0 d1 => cases he
  | aside d0 d1 t => rw [List.mem_singleton] at he; rw [he]; exact lay_str (hT _ t)
  | home d0 d1 t => rw [List.mem_singleton] at he; rw [he]; exact lay_str (hT _ t)
  | levy d0 d1 p0 p1 => rw [List.mem_singleton] at he; rw [he]; exact lay_int _
  | hurdle d0 d1 p0 p1 => rw [List.mem_singleton] at he; rw [he]; exact lay_int _
/-- the slot of an entry -/
def slotN (k : Str) : Option Nat := if k ∈ (["price", "aside", "home"] : List Str) then some 3 else if k ∈ (["come", "go", "draw", "give"] : List Str) then none else some 2
def slotD (k : Str) (d : Int) (rest : List PyData) : PyData := match slotN k with
  | some n => .tuple ((.str k :: .int d :: rest : List PyData).take n)
  | none => .none
theorem lay_slot {Hn Tn : Str → Prop} {L d : Int} {k : Str} {rest : List PyData} (hH : ∀ x, Hn x → TxtOk x) (hT : ∀ x, Tn x → TxtOk x) (h : EntOf Hn Tn L k d rest) : LayN 3 (slotD k d rest) := by
  unfold slotD
  split
  · exact lay_tup fun e he => h.lay hH hT e (List.mem_of_mem_take he)
  · exact lay_non
theorem take_foldl {rs : List Rat} {n : Nat} {r s0 : Rat} (e : rs[n]? = some r) : (rs.take (n + 1)).foldl (· + ·) s0 = (rs.take n).foldl (· + ·) s0 + r := by
  rw [List.take_add_one, e, List.foldl_append]
  rfl
theorem take_sz {rs : List Rat} {n : Nat} {s0 : Rat} (z1 : ∀ r, r ∈ rs → Sz 64 r) (l1 : rs.length ≤ 40) (z2 : Sz 100 s0) : Sz 4000 ((rs.take n).foldl (· + ·) s0) := by
  refine (foldl_sz (n := 64) (rs.take n) (fun r hr => z1 r (List.mem_of_mem_take hr)) s0 z2).mono ?_
  have : (rs.take n).length ≤ 40 := by rw [List.length_take]; omega
  omega
theorem map_get {rs : List Rat} {n : Nat} {d : PyData} (e : (rs.map fr)[n]? = some d) : ∃ r, rs[n]? = some r ∧ d = fr r := by
  rw [List.getElem?_map] at e
  cases q : rs[n]? with
  | none => rw [q] at e; cases e
  | some r => rw [q] at e; exact ⟨r, rfl, (Option.some.inj e).symm⟩
theorem DtAll.item {K : PySem.W.Frag} {H : Hp} {ws : List V} {ds : List PyData} (h : DtAll K H ws ds) {n : Nat} {x : V} (e : ws[n]? = some x) : ∃ d, ds[n]? = some d ∧ Dt K H x d := by
  obtain ⟨hn, ex⟩ := List.getElem?_eq_some_iff.mp e
  have hn2 : n < ds.length := by rw [← h.len]; exact hn
  obtain ⟨v, e1, e2⟩ := h.get (List.getElem?_eq_getElem hn2)
  rw [e1] at e
  cases e
  exact ⟨_, List.getElem?_eq_getElem hn2, e2⟩
theorem a2_ps {K : PySem.W.Frag} {H : Hp} : ∀ {zs : List Str} {vs : List V}, A2 (fun y v => ∃ c, Dt K H v (.tuple [.str y, .int c]) ∧ 1 ≤ c ∧ c ≤ 1000000) zs vs → ∃ ps : List (Str × Int), ps.map Prod.fst = zs ∧ DtAll K H vs (ps.map fun p => .tuple [.str p.1, .int p.2]) ∧ ∀ p, p ∈ ps → 1 ≤ p.2 ∧ p.2 ≤ 1000000
  | _, _, .nil => ⟨[], rfl, .nil, fun _ h => nomatch h⟩
  | _, _, .cons h t => by
    obtain ⟨c, h1, h2⟩ := h
    obtain ⟨ps, e, d, k⟩ := a2_ps t
    exact ⟨(_, c) :: ps, by rw [List.map_cons, e], .cons h1 d, fun p hp => by
      rcases List.mem_cons.mp hp with e | e
      · rw [e]; exact h2
      · exact k p e⟩
end Cr

namespace Cr
/-! ### != of two lists whose items are equal by their own == -/
section
open PySem PySem.Spec PySem.Calls PySem.SeqAt AutoSeq1 MeetsSeq MeetsSeq2 MeetsSeq3 PyProof.Rows
variable {prog : Program} {w : World} {A : Around} {R : Result → Shared → Prop}
theorem ne_turns (p q : Addr) (N : Nat) (J : Nat → Shared → Prop) (all : GQ.ListI prog w A (fun e t => R (.error e) t) p q N J) (last : ∀ t, J N t → R (.ok (.ret (.bool false))) t) : ∀ (k m : Nat), N - m = k → m ≤ N → ∀ t, J m t →
    wpAny (model prog w) A.in1 (Builtin.«list.__eq__.loop» ⟨[.ref p, .ref q, rawInt m, rawInt 3], []⟩) (GQ.FinOf prog w A R) (fun e t => R (.error e) t) t := by
  intro k
  induction k with
  | zero =>
    intro m hk hm t jt
    obtain ⟨us, vs, n1, n2, g1, g2, z1, z2, _⟩ := all _ _ jt
    obtain rfl : m = N := by omega
    have done := last t jt
    obtain ⟨hp, g, d, tk, os⟩ := t
    wp_walk using wpAny_loadPart' g1, wpAny_loadPart' g2
    rw [show us[((m : Nat) : Int).toNat]? = none by simp; omega, show vs[((m : Nat) : Int).toNat]? = none by simp; omega]
    wp_walk using wpAny_loadPart' g1, wpAny_loadPart' g2
    show R (.ok (.ret (.bool (us.size != vs.size)))) _
    rw [z1, z2, bne_self_eq_false]
    exact done
  | succ k more =>
    intro m hk hm t jt
    obtain ⟨us, vs, n1, n2, g1, g2, z1, z2, turn⟩ := all _ _ jt
    have m1 : m < us.size := by omega
    have m2 : m < vs.size := by omega
    have once := turn m1 m2
    obtain ⟨hp, g, d, tk, os⟩ := t
    wp_walk using wpAny_loadPart' g1, wpAny_loadPart' g2
    rw [show us[((m : Nat) : Int).toNat]? = some us[m] by simp [m1], show vs[((m : Nat) : Int).toNat]? = some vs[m] by simp [m2]]
    refine wpAny_bind (wpAny_mono once (fun yes t2 both => ?_) fun _ _ x => x)
    obtain ⟨rfl, j2⟩ := both
    have onward := more (m + 1) (by omega) (by omega) t2 j2
    obtain ⟨hp2, g2, d2, tk2, os2⟩ := t2
    wp_walk
    rw [show ((m : Int) + 1) = ((m + 1 : Nat) : Int) by omega]
    refine ⟨plainId_quiet plain_eq_loop _, ?_⟩
    refine codeAny_builtin entry_eq_loop ?_
    rw [Around.under_plainId plain_eq_loop _]; exact onward
theorem ne_list {E : Value → Shared → Prop} {t : Shared} {p q : Addr} {N : Nat} {Q : Value → Shared → Prop} (room : A.units < cLine) (J : Nat → Shared → Prop) (all : GQ.ListI prog w A E p q N J) (last : ∀ t, J N t → Q (.bool false) t) (jt : J 0 t) : wpAny (model prog w) A (richCompare .NotEq (.ref p) (.ref q)) Q E t := by
  obtain ⟨us, vs, n1, n2, g1, g2, z1, z2, _⟩ := all _ _ jt
  refine wpAny_richCompare_same_room (op := .NotEq) ⟨_, g1, rfl⟩ ⟨_, g2, rfl⟩ F.slot_list_ne (GQ.call_here F.slot_list_ne ⟨_, g1, rfl⟩ F.entry_list_ne (F.args_list_ne_2 _ _) ?_) room
  have onward := ne_turns (A := A) (R := wants (fun v t => v ≠ .notImplemented ∧ Q v t) E) p q N J all (fun t' z => ⟨(fun x => nomatch x), last t' z⟩) _ 0 rfl (Nat.zero_le _) t jt
  have sub := AutoSeq1.sub_list_list
  obtain ⟨hp, g, d, tk, os⟩ := t
  have alike : ¬ (us.size != vs.size) = true := by simp [z1, z2]
  wp_walk using wpAny_loadPart' g1, wpAny_loadPart' g2
  refine ⟨plainId_quiet plain_eq_loop _, ?_⟩
  refine codeAny_builtin entry_eq_loop ?_
  rw [Around.under_plainId plain_eq_loop _]; exact onward
end
section
open PySem PySem.Spec PyProof.Rows L2
def rNeG (D : Eqv) : R2 := fun x y H Q => DList D x y H ∧ ∀ H', Ext H H' → Q (.bl false) H'
theorem op_neGL {X : Cx} {n : Nat} {D : Eqv} (mon : Mon D) (eq : EqG X n D) (room : Room (n + 1) X.A) : OpR X (compareOp .NotEq) (rNeG D) := by
  intro pins t σ H x y v u Q I rx ry hq
  obtain ⟨⟨p, q, xs, ys, rfl, rfl, h1, h2, items⟩, k⟩ := hq
  cases rx
  cases ry
  show wpAny (model X.prog X.w) X.A (richCompare .NotEq (.ref p) (.ref q)) (EP X pins σ Q) X.xe t
  refine ne_list (N := xs.length) room.units0 (fun _ t' => LoopI X pins σ H t') (fun m t' z => ?_) (fun t' z => ?_) ⟨H, I, Ext.rfl'⟩
  · obtain ⟨H1, I1, grown⟩ := id z
    obtain ⟨_, us, n1, r1, e1⟩ := I1.hok p _ (grown _ _ h1)
    obtain ⟨_, vs, n2, r2, e2⟩ := I1.hok q _ (grown _ _ h2)
    refine ⟨us.toArray, vs.toArray, n1, n2, e1, e2, ?_, ?_, fun m1 m2 => turnG mon eq ⟨room, rfl⟩ items r1 r2 m m1 m2 t' z⟩
    · rw [List.size_toArray, ← r1.length]
    · rw [List.size_toArray, ← r2.length, ← items.1]
  · obtain ⟨H1, I1, grown⟩ := z
    exact ⟨.bl false, H1, I1, rfl, k H1 grown⟩
end
end Cr
namespace Cr
/-! ### sorted(..) of a list or tuple of data -/
section
open PySem PySem.Spec PySem.W PySem.Calls PyProof.Rows L2
def sortD (ds : List PyData) : List PyData := ds.mergeSort (PySem.W.dataLe false id)
def rSortD (K : PySem.W.Frag) : List V → Hp → VK → Prop := fun vs H Q => ∃ (a : Addr) (xs : List V) (ds : List PyData), vs = [.ref a] ∧ (SqL K H a xs ∨ SqT K H a xs) ∧ DtAll K H xs ds ∧ PySem.W.AllAlike ds ∧ PySem.W.Sortable ds ∧ (∀ d, d ∈ ds → d.depth ≤ 32) ∧ xs.length ≤ 1000 ∧
  ∀ p ys, H p = none → ys.Perm xs → A2 (fun y d => Dt K H y d) ys (sortD ds) → Q (.ref p) (upd H p (.lst ys))
theorem pairs_each {K : PySem.W.Frag} {H : Hp} : ∀ {xs : List V} {its : List Value} {ds : List PyData}, Vals xs its → DtAll K H xs ds → EachIs (fun v (b : V × PyData) => RelV b.1 v ∧ Dt K H b.1 b.2) its (xs.zip ds)
  | [], _, [], r, d => by cases r; exact .nil
  | [], _, _ :: _, r, d => by cases d
  | _ :: _, _, [], r, d => by cases d
  | x :: xs, _, e :: es, r, d => by
    cases r with
    | cons r1 r2 => cases d with
      | cons d1 d2 => exact .cons ⟨r1, d1⟩ (pairs_each r2 d2)
theorem vals_each : ∀ {out : List Value} {zs : List (V × PyData)}, EachIs (fun v (b : V × PyData) => RelV b.1 v) out zs → Vals (zs.map Prod.fst) out
  | _, _, .nil => .nil
  | _, _, .cons a b => .cons a (vals_each b)
theorem a2_pairs {α β : Type} {R : α → β → Prop} : ∀ {zs : List (α × β)}, (∀ p, p ∈ zs → R p.1 p.2) → A2 R (zs.map Prod.fst) (zs.map Prod.snd)
  | [], _ => .nil
  | z :: zs, h => .cons (h z List.mem_cons_self) (a2_pairs fun p hp => h p (List.mem_cons_of_mem _ hp))
theorem zip_dt {K : PySem.W.Frag} {H : Hp} : ∀ {xs : List V} {ds : List PyData}, DtAll K H xs ds → (xs.zip ds).map Prod.fst = xs ∧ (xs.zip ds).map Prod.snd = ds ∧ ∀ p, p ∈ xs.zip ds → Dt K H p.1 p.2
  | [], [], _ => ⟨rfl, rfl, fun _ h => nomatch h⟩
  | [], _ :: _, d => by cases d
  | _ :: _, [], d => by cases d
  | x :: xs, e :: es, d => by
    cases d with
    | cons d1 d2 =>
      obtain ⟨h1, h2, h3⟩ := zip_dt d2
      refine ⟨by rw [List.zip_cons_cons, List.map_cons, h1], by rw [List.zip_cons_cons, List.map_cons, h2], fun p hp => ?_⟩
      rw [List.zip_cons_cons] at hp
      rcases List.mem_cons.mp hp with rfl | hp
      · exact d1
      · exact h3 p hp
theorem call_sortD {X : Cx} (hu : X.A.units + 64 < cLine) : CallR X (.builtin "sorted") (rSortD X.K) := by
  intro pins s σ H vs us Q I r h
  obtain ⟨a, xs, ds, rfl, hsq, hd, hal, hk, hdep, hz, q⟩ := h
  rw [Vals.ref1 r]
  obtain ⟨its, rv, T, o, n, hT, ho, hc, hdat⟩ : ∃ its, Vals xs its ∧ ∃ T o n, (T = "list" ∨ T = "tuple") ∧ s.heap.get? a = some o ∧ o.cls = .type T ∧ o.data = .seq its.toArray n := by
    rcases hsq with hs | hs
    · obtain ⟨its, rv, pl, _⟩ := I.list hs
      obtain ⟨o, ho, hc, n, hd⟩ := pl.isList
      exact ⟨its, rv, "list", o, n, .inl rfl, ho, hc, hd⟩
    · obtain ⟨its, rv, ht, _⟩ := I.tuple hs
      obtain ⟨o, ho, hc, n, hd⟩ := id ht
      exact ⟨its, rv, "tuple", o, n, .inr rfl, ho, hc, hd⟩
  have hil : its.length ≤ 1000 := by rw [← rv.length]; exact hz
  have hL : its.length ≤ sizeLine := Nat.le_of_lt (L2.small1000 hil)
  refine Calls.call_function_entry kind_sorted plain_sorted entry_sorted (args_sorted1 _) ?_
  unfold Builtin.«sorted»
  refine wpAny_bind (m := checkCount "sorted" 1 1 _) (wpAny_pure ?_)
  refine wpAny_bind (wpAny_collect_seq a hT ho hc hdat (fun h1 keep1 => ?_) (by rw [List.size_toArray]; exact hL))
  rw [show its.toArray.toList = its by simp]
  refine wpAny_bind (wpAny_newList ?_ hL)
  have I1 : Inv X pins σ H { s with heap := h1 } := I.kept (t' := s.toks) keep1
  generalize hh2 : h1.push { cls := .type "list", data := .seq its.toArray } = h2
  generalize hp : h1.objs.size = p
  have at2 : h2.get? p = some (seqObj "list" its.toArray 0) := by rw [← hh2, ← hp]; exact Heap.get?_push_size _ rfl
  have old2 : ∀ b o, h1.get? b = some o → h2.get? b = some o := fun b o e => by rw [← hh2]; exact Heap.get?_push_of_some _ e
  have nep : ∀ b o, h1.get? b = some o → b ≠ p := fun b o e => by rw [← hp]; exact Nat.ne_of_lt (Heap.lt_size e)
  have lens : its.length = (xs.zip ds).length := (pairs_each rv hd).length
  obtain ⟨zf, zs, zd⟩ := zip_dt hd
  have er : EachIs (fun v (b : V × PyData) => ∃ as, Reads (sortingHeap h2 p its) v b.2 as) its (xs.zip ds) := (pairs_each rv hd).mono fun v b ⟨r1, d1⟩ => by
    obtain ⟨as, rd⟩ := Dp.reads I1 _ _ _ d1.dp r1
    exact ⟨as, PyProof.Rows.Reads.keeps (fun b o e => sortingHeap_old (nep b o e) (old2 b o e)) rd⟩
  have hal' : AllAlike ((xs.zip ds).map Prod.snd) := by rw [zs]; exact hal
  have hk' : Sortable ((xs.zip ds).map Prod.snd) := by rw [zs]; exact hk
  refine wpAny_bind (wpAny_holding (wpAny_call_entry slot_list_sort ⟨_, at2, rfl⟩ entry_list_sort (list_sort_vals (κ := dataKind (sortingHeap h2 p its) ((xs.zip ds).map Prod.snd)) at2 (SortsAt.data (s := { s with heap := sortingHeap h2 p its }) (each_map (R := fun v d => ∃ as, Reads (sortingHeap h2 p its) v d as) Prod.snd er) hal' hk' (bound_map fun b hb => ?_)) hL ⟨.none, rfl, ?_⟩) (args_list_sort _)))
  · have dep := hdep _ (List.of_mem_zip hb).2
    show X.A.units + 1 + 1 + b.snd.depth < cLine
    omega
  · have out := sortVals_data (h' := sortingHeap h2 p its) (R := fun v (b : V × PyData) => RelV b.1 v) (enc := Prod.snd) false ((pairs_each rv hd).mono fun _ _ z => z.1) er hal'
    clear hL
    generalize sortVals (dataKind (sortingHeap h2 p its) ((xs.zip ds).map Prod.snd)) false its its = got at out ⊢
    obtain ⟨c, at3⟩ := sortedHeap_at (out := got.toArray) at2
    have sz2 : h2.objs.size = p + 1 := by rw [← hh2, ← hp, Heap.size_push]
    have keep3 : ∀ b o, h1.get? b = some o → (sortedHeap h2 p its got.toArray).get? b = some o := fun b o e => by
      have lt : b < h2.objs.size := Nat.lt_of_lt_of_le (Heap.lt_size e) (by rw [sz2, hp]; exact Nat.le_succ _)
      rw [sortedHeap_old (nep b o e) lt]
      exact old2 b o e
    have pm := (List.mergeSort_perm (xs.zip ds) (dataLe false Prod.snd))
    have ys_len : (((xs.zip ds).mergeSort (dataLe false Prod.snd)).map Prod.fst).length ≤ sizeLine := by
      rw [List.length_map, pm.length_eq, ← lens]
      exact Nat.le_of_lt (L2.small1000 hil)
    have I3 := I1.laid (t' := s.toks) (a := p) (o := .lst (((xs.zip ds).mergeSort (dataLe false Prod.snd)).map Prod.fst)) keep3 (Nat.le_of_eq hp) ⟨ys_len, got, c, vals_each out, at3⟩
    refine wpAny_pure ⟨_, rfl, .ref p, _, I3, rfl, q p _ (I1.hok.fresh (Nat.le_of_eq hp)) ?_ ?_⟩
    · have e := pm.map Prod.fst
      rw [zf] at e
      exact e
    · have e : ((xs.zip ds).mergeSort (dataLe false Prod.snd)).map Prod.snd = sortD ds := by
        have e1 := sort_maps (r := dataLe false Prod.snd) (s := dataLe false (id : PyData → PyData)) Prod.snd (l := xs.zip ds) (fun _ _ _ _ => rfl)
        rw [zs] at e1
        exact e1
      rw [← e]
      exact a2_pairs fun z hz => zd z (pm.mem_iff.mp hz)
end
end Cr
namespace Cr
/-! ### x, *rest = t -/
section
open PySem PySem.Spec PySem.W PySem.Calls PyProof.Rows L2
theorem star_items {prog : Program} {w : World} {A : Around} {E : Value → Shared → Prop} {s : Shared} {t : Addr} {its : Array Value} {Q : List Value → Shared → Prop} (hh : A.handled = none) (ht : IsTup s.heap t its) (h1 : 1 ≤ its.size) (hz : its.size ≤ 1000)
    (k : ∀ h' tk, (∀ b o, s.heap.get? b = some o → h'.get? b = some o) → wpAny (model prog w) A (newList (its.toList.drop 1)) (fun d u => Q (its.toList.take 1 ++ [d]) u) E { s with heap := h', toks := tk }) : wpAny (model prog w) A (unpackItems (.ref t) 2 (some 1)) Q E s := by
  have tne : t ≠ s.heap.objs.size := by obtain ⟨o, ho, _⟩ := ht; exact Nat.ne_of_lt (Heap.lt_size ho)
  have big : its.size ≤ sizeLine := Nat.le_of_lt (L2.small1000 hz)
  unfold unpackItems
  refine wpAny_bind ?_
  unfold notIterableAtAll
  refine wpAny_bind (wpAny_specialOf ht.typeIs slot_tuple_iter.lookup (wpAny_pure ?_))
  simp only [Bool.false_eq_true, if_false]
  refine wpAny_bind (wpAny_holding (iter_tuple ht (wpAny_bind (wpAny_holding (draw_tuple tne 1 0 _ _ ⟨_, Heap.get?_push_size _ rfl, rfl, rfl⟩ (ht.push _) (by omega) fun ha ia sa => ?_)))))
  have ta : IsTup ha t its := (ht.push _).extBut sa.extBut tne
  rw [Nat.zero_add] at ia
  obtain ⟨oi, gi, ri⟩ := id ia
  obtain ⟨ol, gl, rl⟩ := id ta
  have fl : (its.toList.take 1).length = 1 := by rw [List.length_take, Array.length_toList]; omega
  rw [List.drop_zero, if_neg (show ¬ ((its.toList.take 1).length < 1) by rw [fl]; omega)]
  refine wpAny_bind (wpAny_holding (kun_collect (s := { s with heap := ha }) (T := "tuple_iterator") (.inr (.inr (.inr rfl))) (Walks.tuple (A := A.in1) hh s.heap.objs.size t tne its) (fun _ _ st => st.1.typeIs) (k := 1) (by omega) ⟨ia, ta⟩ (Heap.lt_size gi) (Heap.lt_size gl) (fun hb tk kb => ?_) big))
  have len : (its.toList.drop 1).length = its.size - 1 := by rw [List.length_drop, Array.length_toList]
  show wpAny _ _ (if (its.toList.drop 1).length < 0 then _ else _) _ _ _
  rw [if_neg (Nat.not_lt_zero _)]
  show wpAny _ _ (newList ((its.toList.drop 1).take ((its.toList.drop 1).length - 0)) >>= fun d => pure (its.toList.take 1 ++ [d] ++ (its.toList.drop 1).drop ((its.toList.drop 1).length - 0))) _ _ _
  rw [Nat.sub_zero, List.take_length, List.drop_length]
  refine wpAny_bind (wpAny_mono (k hb tk fun b o e => ?_) (fun d u q => wpAny_pure ?_) fun _ _ x => x)
  · have nb : b ≠ s.heap.objs.size := Nat.ne_of_lt (Heap.lt_size e)
    exact kb b o nb (sa.extBut b o nb (Heap.get?_push_of_some _ e))
  · rw [List.append_nil]; exact q
theorem star_bind {prog : Program} {w : World} {A : Around} {E : Value → Shared → Prop} {s : Shared} {t : Addr} {its : Array Value} {env : Env} {elts : List Expr} {k : Nat} {pos : Pos} {Q : Unit → Shared → Prop} (hh : A.handled = none) (ht : IsTup s.heap t its) (h1 : 1 ≤ its.size) (hz : its.size ≤ 1000) (two : (assignEach elts env).length = 2) (at1 : (assignEach elts env).findIdx? (·.1) = some 1)
    (h : ∀ h' tk, (∀ b o, s.heap.get? b = some o → h'.get? b = some o) → wpAny (model prog w) A (newList (its.toList.drop 1)) (fun d u => wpAny (model prog w) A (assignInOrder ((assignEach elts env).map (·.2)) (its.toList.take 1 ++ [d])) Q E u) E { s with heap := h', toks := tk }) : wpAny (model prog w) A (assign (.Tuple elts k pos) env (.ref t)) Q E s := by
  rw [assign_Tuple]
  refine wpAny_bind (wpAny_standAt ?_)
  unfold unpack
  rw [two, at1]
  exact wpAny_bind (wpAny_holding (star_items hh ht h1 hz h))
/-- x, *rest = t: the rest is a new list -/
def gStar (K : PySem.W.Frag) (t : TGs) : TG := fun v σ H Q => ∃ a x xs, v = V.ref a ∧ SqT K H a (x :: xs) ∧ xs.length ≤ 900 ∧ ∀ p, H p = none → t [x, .ref p] σ (upd H p (.lst xs)) Q
theorem pg_star {X : Cx} {e0 e1 : Expr} {p1 : Pos} {k : Nat} {t : TGs} {pos : Pos} (hc : X.calm = true) (h : PGs X [e0, e1] t) (two : (assignEach [e0, .Starred e1 p1] X.env).length = 2 := by rfl) (at1 : (assignEach [e0, .Starred e1 p1] X.env).findIdx? (·.1) = some 1 := by rfl)
    (same : (assignEach [e0, .Starred e1 p1] X.env).map (·.2) = (assignEach [e0, e1] X.env).map (·.2) := by rfl) : PG X (.Tuple [e0, .Starred e1 p1] k pos) (gStar X.K t) := by
  refine ⟨fun pins s σ H v u Q I r hw => ?_⟩
  obtain ⟨a, x, xs, rfl, hq, hl, hw⟩ := hw
  cases r
  obtain ⟨its, rv, ht, hz⟩ := I.tuple hq
  have len := rv.length
  rw [List.length_cons] at len
  cases rv with
  | @cons _ u0 _ us r0 rs =>
    refine star_bind (I.ok.hd hc) ht (by simp) (by simp only [List.size_toArray]; omega) two at1 fun h' tk keep => ?_
    have I1 : Inv X pins σ H { s with heap := h', toks := tk } := I.kept (t' := tk) keep
    have e2 : (u0 :: us).toArray.toList.drop 1 = us := rfl
    have e3 : (u0 :: us).toArray.toList.take 1 = [u0] := rfl
    rw [e2, e3]
    refine wpAny_newList ?_ (Nat.le_of_lt (L2.small1000 (by rw [← rs.length]; omega)))
    have I2 : Inv X pins σ (upd H h'.objs.size (.lst xs)) { s with heap := h'.push { cls := .type "list", data := .seq us.toArray }, toks := tk } :=
      I1.laid (t' := tk) (fun b o e => Heap.get?_push_of_some _ e) (Nat.le_refl _) ⟨Nat.le_of_lt (L2.small1000 (by omega)), us, 0, rs, Heap.get?_push_size _ rfl⟩
    rw [same]
    exact h.run pins _ σ _ _ _ Q I2 (.cons r0 (.cons (show L2.RelV (V.ref h'.objs.size) (Value.ref h'.objs.size) from rfl) .nil)) (hw _ (I1.hok.fresh (Nat.le_refl _)))
end
end Cr
namespace Cr
/-! ### for i, x in enumerate(t), t a tuple -/
section
open PySem PySem.Spec PySem.Calls PySem.AutoSeq1 PyProof.Rows
set_option maxHeartbeats 1000000 in
theorem enum_new1 {v : Value} {o : Obj} {G : Heap → Prop} (B : Begins v o G) : Meets (Builtin.«enumerate.__new__» ⟨[.type "enumerate", v], []⟩) (fun _ R s => G s.heap ∧
    R (.ok (.ret (.ref (s.heap.push o).objs.size))) { s with heap := (s.heap.push o).push { cls := .type "enumerate", data := .fields #[.none, .bool false, .ref s.heap.objs.size, rawInt 0, .none, .none] } }) :=
  .of_wp fun prog w A R s h => by
    obtain ⟨hp, g, d, tk, os⟩ := s
    obtain ⟨begun, fin⟩ := h
    have hsub := sub_enumerate
    have start : ∀ {A' : Around} {E : Value → Shared → Prop} {Q : Value → Shared → Prop}, Q (.ref hp.objs.size) ⟨hp.push o, g, d, tk, os⟩ → wpAny (model prog w) A' (pyIter v) Q E ⟨hp, g, d, tk, os⟩ := fun q => B.iter prog w _ _ ⟨hp, g, d, tk, os⟩ _ begun q
    wp_walk using start
    refine wpAny_stack_any fun st => wpAny_pure ?_
    split
    · rename_i c _ _ _ _ _
      cases (c == Value.type "enumerate")
      · wp_walk using start; exact ⟨_, rfl, fin⟩
      · wp_walk using start; exact ⟨_, rfl, fin⟩
    · wp_walk using start; exact ⟨_, rfl, fin⟩
theorem call_enum1 {prog : Program} {w : World} {A : Around} {E : Value → Shared → Prop} {s : Shared} {v : Value} {o : Obj} {G : Heap → Prop} {Q : Value → Shared → Prop} (B : Begins v o G) (begun : G s.heap)
    (h : ∀ h', IsEnum h' (s.heap.objs.size + 1) s.heap.objs.size 0 .none → h'.get? s.heap.objs.size = some o → (∀ b u, s.heap.get? b = some u → h'.get? b = some u) → Q (.ref (s.heap.objs.size + 1)) { s with heap := h' }) : wpAny (model prog w) A (call (.type "enumerate") [v]) Q E s := by
  refine callType_new F.called_enumerate (by decide) (F.typeCall_enumerate_1 _) (F.newCall_enumerate_1 _) (fun obj => F.args_object_init_2 obj _) F.entry_enumerate_new (enum_new1 B) ⟨begun, ?_⟩
  have size : (s.heap.push o).objs.size = s.heap.objs.size + 1 := Heap.size_push ..
  show _ ∧ _
  rw [size]
  have en : IsEnum ((s.heap.push o).push { cls := .type "enumerate", data := .fields #[.none, .bool false, .ref s.heap.objs.size, rawInt 0, .none, .none] }) (s.heap.objs.size + 1) s.heap.objs.size 0 .none := by
    have z := Heap.get?_push_size (s.heap.push o) (o := { cls := .type "enumerate", data := .fields #[.none, .bool false, .ref s.heap.objs.size, rawInt 0, .none, .none] }) rfl
    rw [size] at z; exact z
  exact ⟨⟨_, en, rfl⟩, h _ en (Heap.get?_push_of_some _ (Heap.get?_push_size _ B.free)) fun b u x => Heap.get?_push_of_some _ (Heap.get?_push_of_some _ x)⟩
end
section
open PySem PySem.Spec PyProof.Rows L2
/-- the tuple at a, each item in a new pair -/
def Itet (K : PySem.W.Frag) (a : Addr) : It :=
  ⟨fun i H => ∃ (xs : List V) (x : V), SqT K H a xs ∧ xs[i]? = some x, fun i H v H' => ∃ T x, v = .ref T ∧ H T = none ∧ H' = upd H T (.tup [.int (i : Nat), x]) ∧ ∀ xs, SqT K H a xs → xs[i]? = some x, fun i H => ∃ xs : List V, SqT K H a xs ∧ xs.length = i⟩
theorem turn_enumT {P : Program} {w : World} {K : PySem.W.Frag} {elts : List Expr} {kk : Nat} {tpos : Pos} (a e it : Addr) (ne : e ≠ it) (na : a ≠ it) (nea : e ≠ a) :
    Turn P w K (.Tuple elts kk tpos) (Itet K a) [e, it] e (fun i h => (∃ old, IsEnum h e it ((i : Nat) : Int) old) ∧ h.IsTupleIter it a i) where
  mem := List.mem_cons_self
  obj := fun i h st b hb => by
    obtain ⟨⟨old, he⟩, ⟨o, ho, hc, hd⟩⟩ := st
    rcases List.mem_cons.mp hb with z | z
    · rw [z]; exact ⟨_, he, fun v q => nomatch q⟩
    · rw [List.mem_singleton.mp z]; exact ⟨o, ho, fun v q => by rw [hd] at q; cases q⟩
  keep := fun i h h' st k => by
    obtain ⟨⟨old, he⟩, hi⟩ := st
    exact ⟨⟨old, k e List.mem_cons_self _ he⟩, hi.at fun o q => k it (List.mem_cons_of_mem _ List.mem_cons_self) o q⟩
  item := by
    intro X hP hw hK hc i pins s σ H E I hf st hg
    subst hP hw hK
    obtain ⟨⟨old, he⟩, hit⟩ := st
    obtain ⟨xs, x, hq, hx⟩ := hg
    obtain ⟨its, rv, ht, hz⟩ := I.tuple hq
    obtain ⟨u, hu, ru⟩ := rv.get hx
    have lt : i < its.toArray.size := by
      have := (List.getElem?_eq_some_iff.mp hu).1
      simpa using this
    have el : e < s.heap.objs.size := Heap.lt_size he
    have il : it < s.heap.objs.size := by obtain ⟨_, q, _⟩ := hit; exact Heap.lt_size q
    refine wpAny_pyNext_enum_itemC (Draws.tuple (A := X.A.in1) (I.ok.hd hc) it a na its.toArray) he ⟨hit, ht⟩ lt ne (by simp [ne, nea]) fun x' h' tk px out st' hT size keep => ?_
    have ex : x' = u := by
      have px : its.toArray[i]? = some x' := px
      rw [List.getElem?_toArray, hu] at px
      exact (Option.some.inj px).symm
    subst ex
    refine ⟨_, rfl, wpAny_letOwnedTupleGo_enum (s := { s with heap := h', toks := tk + 1 }) out fun h'' en sb => ?_⟩
    have gT : h''.get? s.heap.objs.size = some { cls := .type "tuple", data := .seq #[.int i tk, x'] } := (sb.2 _ (Nat.ne_of_gt el)).trans hT
    have new : ObjOk X.prog X.w (upd H s.heap.objs.size (.tup [.int (i : Nat), x])) h'' s.heap.objs.size (.tup [.int (i : Nat), x]) :=
      ⟨by show 2 ≤ sizeLine; decide, [.int i tk, x'], .cons ⟨_, rfl⟩ (.cons ru .nil), ⟨_, gT, rfl, _, rfl⟩⟩
    have I1 : Inv X pins σ (upd H s.heap.objs.size (.tup [.int (i : Nat), x])) { s with heap := h'', toks := tk + 1 } :=
      I.turnedNew (ch := [e, it]) (fun b ob hb q => (sb.2 b (fun z => hb (by simp [z]))).trans (keep b ob (fun z => hb (by simp [z])) (fun z => hb (by simp [z])) q)) hf (Nat.le_refl _) new
    refine ⟨.ref s.heap.objs.size, _, I1, rfl, ⟨_, x, rfl, I.hok.fresh (Nat.le_refl _), rfl, fun ys hy => by rw [I.tuple_inj hy hq]; exact hx⟩, ⟨⟨x', ?_⟩, st'.1.at fun o q => (sb.2 it (Ne.symm ne)).trans q⟩, fun b hb => ?_⟩
    · rw [show ((i + 1 : Nat) : Int) = (i : Int) + 1 by omega]; exact en
    · have hb' : b < s.heap.objs.size := by
        rcases List.mem_cons.mp hb with z | z
        · rw [z]; exact el
        · rw [List.mem_singleton.mp z]; exact il
      rw [upd_ne (Nat.ne_of_lt hb')]; exact (hf b hb).1
  done := by
    intro X hP hw hK hc i pins s σ H E I hf st hg
    subst hP hw hK
    obtain ⟨⟨old, he⟩, hit⟩ := st
    obtain ⟨xs, hq, hx⟩ := hg
    obtain ⟨its, rv, ht, hz⟩ := I.tuple hq
    obtain ⟨f0, f1, f2, f3, f4, f5⟩ := hf it (List.mem_cons_of_mem _ List.mem_cons_self)
    have size : its.toArray.size = i := by rw [List.size_toArray, ← rv.length, hx]
    exact wpAny_pyNext_enum_endD (Draws.tuple (A := X.A.in1) (I.ok.hd hc) it a na its.toArray) he (by rw [size]; exact ⟨hit, ht⟩) fun h' eb => ⟨rfl, I.turned (t' := s.toks) (fun b o hb q => eb b o hb q) f0 f1 f3 f4 f5⟩
  self := fun A i s Q E st h => by
    obtain ⟨⟨_, he⟩, _⟩ := st
    exact wpAny_pyIter_enum he h
def iEnumT (K : PySem.W.Frag) (ta : TA) : TI := fun σ H R => ta σ H fun vs H1 => ∃ a xs, vs = [.ref a] ∧ SqT K H1 a xs ∧ R (Itet K a) H1
theorem pi_enumT {X : Cx} {e : Expr} {ta : TA} {p pos tpos : Pos} {elts : List Expr} {kk : Nat} (hg : Gl X "enumerate") (hm : X.mg "enumerate" = none) (ha : PA X [e] ta) (hs : starEach [e] X.env = [(false, eval e X.env)] := by rfl) :
    PI X (.Tuple elts kk tpos) (.Call (.Name "enumerate" p) [e] [] pos) (iEnumT X.K ta) := by
  refine ⟨fun pins s σ H R I h => ?_⟩
  refine Call_ (ld_blt I hg hm boot_enumerate (PyProof.Rows.callWith_type1 (thn (ha.run pos pins s σ H _ I h) fun us s1 ⟨vs, H1, I1, r1, q1⟩ => ?_) hs rfl))
  obtain ⟨a, xs, ex, hq, q⟩ := q1
  subst ex
  rw [Vals.ref1 r1]
  obtain ⟨its, rv, ht, hz⟩ := I1.tuple hq
  have al : a < s1.heap.objs.size := by obtain ⟨o, ho, _⟩ := id ht; exact Heap.lt_size ho
  refine call_enum1 (begins_tuple a its.toArray) ht fun h' en gi keep => wpAny_pyIter_enum en ?_
  have I2 : Inv X pins σ H1 { s1 with heap := h' } := I1.kept (t' := s1.toks) keep
  refine ⟨s1.heap.objs.size + 1, [s1.heap.objs.size + 1, s1.heap.objs.size], _, _, H1, rfl, I2, turn_enumT a (s1.heap.objs.size + 1) s1.heap.objs.size (Nat.succ_ne_self _) (Nat.ne_of_lt al) (Nat.ne_of_gt (Nat.lt_succ_of_lt al)), ⟨⟨.none, en⟩, ⟨_, gi, rfl, rfl⟩⟩, fun b hb => ?_, q⟩
  have hle : s1.heap.objs.size ≤ b := by
    rcases List.mem_cons.mp hb with z | z
    · rw [z]; exact Nat.le_succ _
    · rw [List.mem_singleton.mp z]; exact Nat.le_refl _
  exact I1.fpOk hle (I1.hok.fresh hle)
theorem f_enumT {K : PySem.W.Frag} {σ : St} {H : Hp} {D : Ends} {a : Addr} {xs : List V} {g : TG} {tb : TS} (Pv : Nat → St → Hp → Prop) (h0 : Pv 0 σ H) (hl : ∀ i σ H, i ≤ xs.length → Pv i σ H → SqT K H a xs)
    (hs : ∀ i x T σ H, xs[i]? = some x → Pv i σ H → H T = none → g (.ref T) σ (upd H T (.tup [.int (i : Nat), x])) fun σ2 H2 => tb { D with nx := Pv (i + 1), ct := Pv (i + 1), bk := D.nx } σ2 H2) (hd : ∀ σ H, Pv xs.length σ H → D.nx σ H) : ForR (Itet K a) g tb D σ H := by
  refine ⟨fun i m σ' H' => m = xs.length - i ∧ i ≤ xs.length ∧ Pv i σ' H', ⟨_, rfl, Nat.zero_le _, h0⟩, ?_⟩
  rintro i m σ' H' ⟨rfl, hi, p⟩
  have sq := hl i σ' H' hi p
  by_cases hlt : i < xs.length
  · refine .inr ⟨⟨xs, xs[i], sq, List.getElem?_eq_getElem hlt⟩, Pv (i + 1), fun σ2 H2 p' => ⟨xs.length - (i + 1), by omega, rfl, hlt, p'⟩, fun v H2 y => ?_⟩
    obtain ⟨T, x, rfl, nT, rfl, ex⟩ := y
    exact hs i x T σ' H' (ex xs sq) p nT
  · have e : i = xs.length := by omega
    subst e
    exact .inl ⟨⟨xs, sq, rfl⟩, hd _ _ p⟩
end
end Cr
namespace Cr
/-! ### set comprehensions, members of one kind told by keys -/
open PySem PySem.Spec PyProof.Rows L2
/-- a kind of set objects: how it begins, how one is put in -/
structure Fam {κ : Type} [DecidableEq κ] (P : Program) (w : World) (SO : Addr → (κ → Bool) → Nat → HO) (emb : κ → V) : Prop where
  new : ∀ (H : Hp) (h : Heap), ObjOk P w H (h.push { cls := .type "set", dict := none, data := .set #[] 0 (.fresh 0 0 (!w.params.followText "set-order")) }) h.objs.size (SO h.objs.size (fun _ => false) 0)
  add : ∀ {X : Cx}, X.prog = P → X.w = w → ∀ {A : Around} {E : Value → Shared → Prop} {pins : List (Addr × Obj)} {σ : St} {H : Hp} {s : Shared} {d : Addr} {k : κ} {u : Value} {S : κ → Bool} {n : Nat} {Q : Value → Shared → Prop}, Inv X pins σ H s → H d = some (SO d S n) → RelV (emb k) u → n + 1 < scanBound →
    (∀ t, Inv X pins σ (upd H d (SO d (fun j => S j || decide (j = k)) (if S k = true then n else n + 1))) t → Q .none t) → wpAny (model P w) A (call (.builtin "set.add") [.ref d, u]) Q E s
def ScR {κ : Type} [DecidableEq κ] (SO : Addr → (κ → Bool) → Nat → HO) (emb : κ → V) (J : It) (g : TG) (tt : TT) (te : TE) (vs : List Nat) (σ : St) (H1 : Hp) (Q : VK) : Prop := ∀ d, H1 d = none → ∃ W : Nat → Nat → Hp → Prop, (∃ m, W 0 m (upd H1 d (SO d (fun _ => false) 0))) ∧ ∀ i m H, W i m H →
  (J.stop i H ∧ Q (.ref d) H) ∨ (J.go i H ∧ ∃ Nx : Hp → Prop, (∀ H', Nx H' → ∃ m', m' < m ∧ W (i + 1) m' H') ∧ ∀ x H', J.yld i H x H' → g x (wipe σ vs) H' fun σ2 H2 => wipe σ2 vs = wipe σ vs ∧ tt σ2 H2 fun b H3 =>
    if b = true then te σ2 H3 fun y H4 => ∃ (k : κ) (S : κ → Bool) (n : Nat), y = emb k ∧ H4 d = some (SO d S n) ∧ n + 1 < scanBound ∧ Nx (upd H4 d (SO d (fun j => S j || decide (j = k)) (if S k = true then n else n + 1))) else Nx H3)
def tSk {κ : Type} [DecidableEq κ] (SO : Addr → (κ → Bool) → Nat → HO) (emb : κ → V) (wi : TI) (g : TG) (tt : TT) (te : TE) (vs : List Nat) : TE := fun σ H Q => wi σ H fun J H1 => ScR SO emb J g tt te vs σ H1 Q
section
open PpSet
variable {X : Cx} {κ : Type} [DecidableEq κ] {SO : Addr → (κ → Bool) → Nat → HO} {emb : κ → V}
theorem sk_core (F : Fam X.prog X.w SO emb) {pins : List (Addr × Obj)} {s : Shared} {σ : L2.St} {H : Hp} {Q : VK} {elt tg iter : Expr} {ifs : List Expr} {scope : Scope} {own : List (PySem.Str × Nat)} {pos pos' : Pos} {wi : TI} {g : TG} {tt : TT} {te : TE} {use : Option (Value → Sem Unit)} {Qf : Value → Shared → Prop}
    (hc : X.calm = true) (hN : X.N.Nodup) (I : Inv X pins σ H s) (hi : PI X tg iter wi) (ok : BlkOk X.N X.env.scope scope own)
    (pgs : ∀ (s : Shared) (H : Hp) (c : Addr) (cl : List (PySem.Str × Addr)) (fp : List Addr), PG (X.blk s H scope (compEnvC scope cl c X.env) fp) tg g) (pts : ∀ (s : Shared) (H : Hp) (c : Addr) (cl : List (PySem.Str × Addr)) (fp : List Addr), PTs (X.blk s H scope (compEnvC scope cl c X.env) fp) ifs tt)
    (pes : ∀ (s : Shared) (H : Hp) (c : Addr) (cl : List (PySem.Str × Addr)) (fp : List Addr), PE (X.blk s H scope (compEnvC scope cl c X.env) fp) elt te) (hs : ∀ x, foldedSetIterable iter X.env x = pure x)
    (h : tSk SO emb wi g tt te (own.map (·.2)) σ H Q)
    (leave : ∀ d c t m H', Inv X pins σ H' t → Q (.ref d) H' → t.heap.Ns c m → FpOk X pins H' c → compPost (model X.prog X.w) X.A X.xe use Qf (.ref d) c (.ok .next) t) :
    wpAny (model X.prog X.w) X.A (comprehension (.SetComp elt [⟨tg, iter, ifs, 0⟩] scope pos) scope X.env pos' (newSet (.type "set")) false (eval iter X.env) use) Qf X.xe s := by
  have frees : ∀ y ∈ scope.names, y.2 = .free → ∃ c, X.env.cells.lookup y.1 = some c := fun y hy e => (ok.free y hy e).elim (fun k => I.ok.has _ (.inl k)) fun k => I.ok.has _ (.inr k)
  refine wpAny_comprehension_free (use := use) rfl hs (closure_ok frees) ok.kind (fun y hy e => by rw [ok.uniq y hy, e]) (thn (hi.run pins s σ H _ I h) fun xv sa hx => thn hx fun itv sb hb => ?_)
  obtain ⟨it, fp, tn, J, Hb, e, Ib, T, tb, fb, q⟩ := hb
  subst e
  refine newSet_ok (newEnv_comp ?_)
  generalize hd : sb.heap.objs.size = d
  obtain ⟨W, ⟨m0, w0⟩, each⟩ := q d (Ib.hok.fresh (Nat.le_of_eq hd))
  have keepc : ∀ b o, sb.heap.get? b = some o → (sb.heap.push { cls := .type "set", dict := none, data := .set #[] 0 (.fresh 0 0 (!X.w.params.followText "set-order")) }).get? b = some o := fun b o e => Heap.get?_push_of_some _ e
  have sizec : (sb.heap.push { cls := .type "set", dict := none, data := .set #[] 0 (.fresh 0 0 (!X.w.params.followText "set-order")) }).objs.size = d + 1 := by rw [Heap.size_push, hd]
  have Ic : Inv X pins σ (upd Hb d (SO d (fun _ => false) 0)) { sb with heap := sb.heap.push { cls := .type "set", dict := none, data := .set #[] 0 (.fresh 0 0 (!X.w.params.followText "set-order")) } } := by
    refine Ib.laid (t' := sb.toks) keepc (Nat.le_of_eq hd) ?_
    have z := F.new (upd Hb sb.heap.objs.size (SO sb.heap.objs.size (fun _ => false) 0)) sb.heap
    rw [hd] at z; exact z
  generalize hsc : ({ sb with heap := sb.heap.push { cls := .type "set", dict := none, data := .set #[] 0 (.fresh 0 0 (!X.w.params.followText "set-order")) } } : Shared) = sc at Ic
  have hc3 : sc.heap = sb.heap.push { cls := .type "set", dict := none, data := .set #[] 0 (.fresh 0 0 (!X.w.params.followText "set-order")) } := by rw [← hsc]
  rw [← hc3] at keepc sizec
  have fc : ∀ b ∈ fp, FpOk X pins (upd Hb d (SO d (fun _ => false) 0)) b ∧ b < sc.heap.objs.size := fun b hb => by
    obtain ⟨o, e, _⟩ := T.obj _ _ tb b hb
    have lt : b < d := by rw [← hd]; exact Heap.lt_size e
    refine ⟨⟨?_, (fb b hb).2⟩, by rw [sizec]; exact Nat.lt_succ_of_lt lt⟩
    rw [upd_ne (Nat.ne_of_lt lt)]; exact (fb b hb).1
  have tc : tn 0 sc.heap := T.keep _ _ _ tb fun b _ o e => keepc b o e
  have Id := block_start Ic ok hN fc
  have pg := pgs sc (upd Hb d (SO d (fun _ => false) 0)) sc.heap.objs.size (cellsFrom (sc.heap.objs.size + 1) scope.names (cloFrom X.env.cells scope.names [])) fp
  have pt := pts sc (upd Hb d (SO d (fun _ => false) 0)) sc.heap.objs.size (cellsFrom (sc.heap.objs.size + 1) scope.names (cloFrom X.env.cells scope.names [])) fp
  have pe := pes sc (upd Hb d (SO d (fun _ => false) 0)) sc.heap.objs.size (cellsFrom (sc.heap.objs.size + 1) scope.names (cloFrom X.env.cells scope.names [])) fp
  show codeAny _ _ (.compStart (.SetComp elt [⟨tg, iter, ifs, 0⟩] scope pos) 0 (.ref it) (.ref d) (compEnvC scope (cellsFrom (sc.heap.objs.size + 1) scope.names (cloFrom X.env.cells scope.names [])) sc.heap.objs.size X.env)) (compPost (model X.prog X.w) X.A X.xe use Qf (.ref d) sc.heap.objs.size) { sc with heap := pushCells (sc.heap.push { cls := .type "dict", data := .dict #[] }) scope.names }
  have none0 : ∀ b ∈ fp, (upd Hb d (SO d (fun _ => false) 0)) b = none := fun b hb => (fc b hb).1.1
  generalize hen : compEnvC scope (cellsFrom (sc.heap.objs.size + 1) scope.names (cloFrom X.env.cells scope.names [])) sc.heap.objs.size X.env = en at Id pg pt pe ⊢
  have enL : en.locals = sc.heap.objs.size := by subst hen; rfl
  generalize hHc : upd Hb d (SO d (fun _ => false) 0) = Hc at Ic Id pg pt pe w0 none0 fc
  generalize hsd : ({ sc with heap := pushCells (sc.heap.push { cls := .type "dict", data := .dict #[] }) scope.names } : Shared) = sd at Id ⊢
  have td : tn 0 sd.heap := T.keep _ _ _ tc fun b _ o e => by rw [← hsd]; exact pushCells_keeps _ _ _ _ (Heap.get?_push_of_some _ e)
  have still : ∀ {σ' : L2.St} {H' : Hp} {t : Shared}, Inv (X.blk sc Hc scope en fp) [] σ' H' t → (∀ b ∈ fp, H' b = none) → ∀ b ∈ fp, FpOk (X.blk sc Hc scope en fp) [] H' b := fun {σ' H' t} I' hn b hb =>
    ⟨hn b hb, (I'.ok.exf b hb).1, I'.ok.exfs b hb, .inl hb, fun x c e => (I'.ok.exf b hb).2 x c e, fun p hp => absurd (show p ∈ ([] : List (Addr × Obj)) ++ [] from hp) (by simp)⟩
  have around : codeAny (model X.prog X.w) X.A (.compLoop (.SetComp elt [⟨tg, iter, ifs, 0⟩] scope pos) 0 (.ref it) (.ref d) en) (compPost (model X.prog X.w) X.A X.xe use Qf (.ref d) sc.heap.objs.size) sd := by
    refine compLoopS_any (fun n t => ∃ i H', Inv (X.blk sc Hc scope en fp) [] (wipe σ (own.map (·.2))) H' t ∧ tn i t.heap ∧ (∀ b ∈ fp, H' b = none) ∧ W i n H') ?_ m0 ⟨0, Hc, Id, td, none0, w0⟩
    rintro n se ⟨i, He, Ie, te', ne, we⟩
    rcases each i n He we with ⟨stop, qq⟩ | ⟨go, Nx, hNx, step⟩
    · have out := T.done (X.blk sc Hc scope en fp) rfl rfl rfl hc i [] se _ He (fun _ _ => False) Ie (still Ie ne) te' stop
      refine thnF out fun r sf ⟨hr, Jf⟩ => ?_
      subst hr
      have Ig : Inv X pins σ He sf := Ic.call' (ch := fp) Jf.os Jf.base Jf.hok Jf.bare fun b hb => ⟨(fc b hb).1.2.2.2.1, (fc b hb).1.2.1, (fc b hb).1.2.2.2.2.1, (fc b hb).1.2.2.2.2.2⟩
      have nC : He sc.heap.objs.size = none := by
        have z : He en.locals = none := Jf.free
        rw [enL] at z; exact z
      obtain ⟨m, hn, _⟩ := Jf.loc
      have hn : sf.heap.Ns en.locals m := hn
      rw [enL] at hn
      exact leave d sc.heap.objs.size sf m He Ig qq hn (Ic.fpOk (Nat.le_refl _) nC)
    · have next := T.item (X.blk sc Hc scope en fp) rfl rfl rfl hc i [] se _ He (fun _ _ => False) Ie (still Ie ne) te' go
      refine thnF next fun r sf ⟨u, hr, hf⟩ => ?_
      subst hr
      refine thnF hf fun _ sg ⟨x, Hg, Ig, rg, yg, tg', ng⟩ => ?_
      refine thnF (pg.run _ sg _ Hg x u _ (Ig.pinned (still Ig ng) (T.obj _ _ tg')) rg (step x Hg yg)) fun _ sh ⟨σh, Hh, Ih, hwh, qh⟩ => ?_
      refine thnF (pt.run _ sh σh Hh _ Ih qh) fun b si ⟨Hi, Ii, qi⟩ => ?_
      have close : ∀ {t : Shared} {H' : Hp}, Inv (X.blk sc Hc scope en fp) ([] ++ pinsAt fp sg.heap) σh H' t → Nx H' → ∃ m, m < n ∧ ∃ i H', Inv (X.blk sc Hc scope en fp) [] (wipe σ (own.map (·.2))) H' t ∧ tn i t.heap ∧ (∀ b ∈ fp, H' b = none) ∧ W i m H' := fun {t H'} I' nx => by
        obtain ⟨m', hm, w'⟩ := hNx H' nx
        have pinned : ∀ b ∈ fp, ∀ o, sg.heap.get? b = some o → t.heap.get? b = some o ∧ H' b = none := fun b hb o e =>
          let z := I'.pin (b, o) (List.mem_append_right _ (List.mem_append_right _ (mem_pinsAt hb e)))
          ⟨z.1, z.2.1⟩
        have len : (wipe σ (own.map (·.2))).length = σh.length := by rw [← hwh, wipe_length]
        refine ⟨m', hm, i + 1, H', (I'.unpinned (pins := [])).weak len (fun j v e => ?_), T.keep _ _ _ tg' fun b hb o e => (pinned b hb o e).1, fun b hb => ?_, w'⟩
        · rw [← hwh] at e; exact (wipe_some e).1
        · obtain ⟨o, e, _⟩ := T.obj _ _ tg' b hb
          exact (pinned b hb o e).2
      cases b with
      | false =>
        simp only [Bool.false_eq_true, if_false] at qi ⊢; exact close Ii qi
      | true =>
        simp only [if_true] at qi ⊢
        refine thnF (pe.run _ si σh Hi _ Ii qi) fun z sj ⟨yv, Hj, Ij, rj, k, S0, n0, ey, at_d, small, nx⟩ => ?_
        subst ey
        refine F.add (X := X.blk sc Hc scope en fp) rfl rfl Ij at_d rj small ?_
        exact fun t I' => close I' nx
  exact codeAny_compStart_set around (T.self X.A 0 _ _ _ td around)
theorem pe_sk (F : Fam X.prog X.w SO emb) {elt tg iter : Expr} {ifs : List Expr} {scope : Scope} {own : List (PySem.Str × Nat)} {pos : Pos} {wi : TI} {g : TG} {tt : TT} {te : TE} (hc : X.calm = true) (hN : X.N.Nodup) (hi : PI X tg iter wi) (ok : BlkOk X.N X.env.scope scope own)
    (pgs : ∀ (s : Shared) (H : Hp) (c : Addr) (cl : List (PySem.Str × Addr)) (fp : List Addr), PG (X.blk s H scope (compEnvC scope cl c X.env) fp) tg g) (pts : ∀ (s : Shared) (H : Hp) (c : Addr) (cl : List (PySem.Str × Addr)) (fp : List Addr), PTs (X.blk s H scope (compEnvC scope cl c X.env) fp) ifs tt)
    (pes : ∀ (s : Shared) (H : Hp) (c : Addr) (cl : List (PySem.Str × Addr)) (fp : List Addr), PE (X.blk s H scope (compEnvC scope cl c X.env) fp) elt te) (hs : ∀ x, foldedSetIterable iter X.env x = pure x := by intro _; rfl) :
    PE X (.SetComp elt [⟨tg, iter, ifs, 0⟩] scope pos) (tSk SO emb wi g tt te (own.map (·.2))) := by
  refine ⟨fun pins s σ H Q I h => ?_⟩
  rw [eval_SetComp]
  refine sk_core F hc hN I hi ok pgs pts pes hs h fun d c t m H' I' q hn f => ⟨m, hn, fun h'' sb => ?_⟩
  obtain ⟨f0, f1, f2, f3, f4, f5⟩ := f
  exact ⟨.ref d, H', I'.turned (t' := t.toks) (fun b o hb e => (sb.2 b hb).trans e) f0 f1 f3 f4 f5, rfl, q⟩
end
/-! the two kinds: texts and numbers as keys; numbers in order -/
theorem fam_key (P : Program) (w : World) : Fam (κ := Key) P w (SetK P w) kV := by
  refine ⟨fun H h => setK_new ⟨_, #[], 0, _, Heap.get?_push_size _ rfl, ⟨rfl, rfl, rfl⟩, rfl, (fun e he => by simp at he), (fun k => by simp), (by decide), (by rfl), rfl⟩, ?_⟩
  intro X hP hw A E pins σ H s d k u S n Q I at_d rk small q
  subst hP hw
  refine call_set_add (kV_is rk) (key_scan rk) (setK_get I at_d) small fun h' sb new => ?_
  have there : ∃ o, h'.get? d = some o := by
    have ⟨o, _, _, _, ho, _⟩ := new
    exact ⟨o, ho⟩
  exact q _ (I.write (e := d) (t' := s.toks + 1) (by rw [at_d]; trivial) (.inl rfl) (fun b o hb e => (sb.2 b hb).trans e) there (setK_new new))
theorem fam_int (P : Program) (w : World) : Fam (κ := Int) P w (SetO w) V.int := by
  refine ⟨fun H h => setO_new (setR_fresh w), ?_⟩
  intro X hP hw A E pins σ H s d k u S n Q I at_d rk small q
  subst hP hw
  obtain ⟨tk, rfl⟩ := rk
  refine setR_add (setO_get I at_d) small fun h' sb new => ?_
  have there : ∃ o, h'.get? d = some o := by
    have ⟨o, _, _, _, ho, _⟩ := new
    exact ⟨o, ho⟩
  exact q _ (I.write (e := d) (t' := s.toks + 1) (by rw [at_d]; trivial) (.inl rfl) (fun b o hb e => (sb.2 b hb).trans e) there (setO_new new))
/-- the keys in the order in which they first come -/
def accK {κ : Type} [DecidableEq κ] (ks : List κ) : List κ := ks.foldl (fun acc k => if k ∈ acc then acc else acc ++ [k]) []
section
variable {κ : Type} [DecidableEq κ]
theorem accK_snoc (ks : List κ) (k : κ) : accK (ks ++ [k]) = if k ∈ accK ks then accK ks else accK ks ++ [k] := by
  unfold accK
  rw [List.foldl_append]; rfl
theorem accK_len (ks : List κ) : (accK ks).length ≤ ks.length := by
  unfold accK
  suffices ∀ (ks acc : List κ), (ks.foldl (fun acc k => if k ∈ acc then acc else acc ++ [k]) acc).length ≤ acc.length + ks.length by
    have := this ks []
    simpa using this
  intro ks
  induction ks with
  | nil => intro acc; simp
  | cons k ks ih =>
    intro acc
    rw [List.foldl_cons, List.length_cons]
    refine Nat.le_trans (ih _) ?_
    split
    · omega
    · rw [List.length_append, List.length_singleton]; omega
theorem accK_nodup : ∀ {ks : List κ}, ks.Nodup → accK ks = ks := by
  intro ks h
  unfold accK
  suffices ∀ (ks acc : List κ), (acc ++ ks).Nodup → ks.foldl (fun acc k => if k ∈ acc then acc else acc ++ [k]) acc = acc ++ ks from this ks [] h
  intro ks
  induction ks with
  | nil => intro acc _; simp
  | cons k ks ih =>
    intro acc hn
    have no : k ∉ acc := fun hm => by
      have := (List.nodup_append.mp hn).2.2 k hm k List.mem_cons_self
      exact this rfl
    rw [List.foldl_cons, if_neg no, ih (acc ++ [k]) (by rw [List.append_assoc]; exact hn), List.append_assoc]
    rfl
theorem accK_mem {ks : List κ} {k : κ} : k ∈ accK ks ↔ k ∈ ks := by
  unfold accK
  suffices ∀ (ks acc : List κ), k ∈ ks.foldl (fun acc k => if k ∈ acc then acc else acc ++ [k]) acc ↔ k ∈ acc ∨ k ∈ ks by
    have := this ks []
    simpa using this
  intro ks
  induction ks with
  | nil => intro acc; simp
  | cons x ks ih =>
    intro acc
    rw [List.foldl_cons, ih]
    by_cases h : x ∈ acc
    · rw [if_pos h, List.mem_cons]
      constructor
      · rintro (a | a)
        · exact .inl a
        · exact .inr (.inr a)
      · rintro (a | a | a)
        · exact .inl a
        · subst a; exact .inl h
        · exact .inr a
    · rw [if_neg h, List.mem_append, List.mem_singleton, List.mem_cons, or_assoc]
theorem accK_is_nodup (ks : List κ) : (accK ks).Nodup := by
  unfold accK
  suffices ∀ (ks acc : List κ), acc.Nodup → (ks.foldl (fun acc k => if k ∈ acc then acc else acc ++ [k]) acc).Nodup from this ks [] List.nodup_nil
  intro ks
  induction ks with
  | nil => intro acc h; exact h
  | cons x ks ih =>
    intro acc h
    rw [List.foldl_cons]
    refine ih _ ?_
    split
    · exact h
    · rename_i no
      rw [List.nodup_append]
      exact ⟨h, List.nodup_cons.mpr ⟨List.not_mem_nil, List.nodup_nil⟩, fun a ha b hb e => by
        rw [List.mem_singleton] at hb
        exact no (by rw [← hb, ← e]; exact ha)⟩
theorem accK_lt {ks : List κ} (h : ¬ ks.Nodup) : (accK ks).length < ks.length := by
  suffices ∀ (ks acc : List κ), acc.Nodup → (ks.foldl (fun acc k => if k ∈ acc then acc else acc ++ [k]) acc).length ≤ acc.length + ks.length ∧ ((ks.foldl (fun acc k => if k ∈ acc then acc else acc ++ [k]) acc).length = acc.length + ks.length → (acc ++ ks).Nodup) by
    obtain ⟨h1, h2⟩ := this ks [] List.nodup_nil
    rw [List.length_nil, Nat.zero_add] at h1 h2
    rw [List.nil_append] at h2
    rcases Nat.lt_or_ge (accK ks).length ks.length with l | l
    · exact l
    · exact absurd (h2 (Nat.le_antisymm h1 l)) h
  intro ks
  induction ks with
  | nil => intro acc h; exact ⟨by simp, fun _ => by rw [List.append_nil]; exact h⟩
  | cons x ks ih =>
    intro acc h
    rw [List.foldl_cons, List.length_cons]
    by_cases hx : x ∈ acc
    · rw [if_pos hx]
      obtain ⟨h1, _⟩ := ih acc h
      exact ⟨by omega, fun e => by omega⟩
    · rw [if_neg hx]
      have hn : (acc ++ [x]).Nodup := by
        rw [List.nodup_append]
        exact ⟨h, List.nodup_cons.mpr ⟨List.not_mem_nil, List.nodup_nil⟩, fun a ha b hb e => by
          rw [List.mem_singleton] at hb
          exact hx (by rw [← hb, ← e]; exact ha)⟩
      obtain ⟨h1, h2⟩ := ih (acc ++ [x]) hn
      rw [List.length_append, List.length_singleton] at h1 h2
      exact ⟨by omega, fun e => by have := h2 (by omega); rwa [List.append_assoc] at this⟩
end
section
variable {K : PySem.W.Frag} {σ : St} {H : Hp} {Q : VK} {κ : Type} [DecidableEq κ] {SO : Addr → (κ → Bool) → Nat → HO} {emb : κ → V}
theorem s_sk {wi : TI} {g : TG} {tt : TT} {te : TE} {vs : List Nat} (h : wi σ H fun J H1 => ScR SO emb J g tt te vs σ H1 Q) : tSk SO emb wi g tt te vs σ H Q := h
/-- over things that come one by one and stay, new things laid alone, no test -/
theorem c_set {α : Type} {xs : List V} {zs : List α} {J : It} {g : TG} {te : TE} {vs : List Nat} (P : Hp → V → α → Prop) (key : α → κ) (pm : ∀ A B x z, KI A B → P A x z → P B x z) (hz : xs.length ≤ 1000) (hx : A2 (P H) xs zs)
    (go : ∀ A i x, Same H A → xs[i]? = some x → J.go i A) (yld : ∀ A i x A', Same H A → i < xs.length → J.yld i A x A' → A' = A ∧ xs[i]? = some x) (stop : ∀ A, Same H A → J.stop xs.length A)
    (turn : ∀ x z A (N : V → Hp → Prop), z ∈ zs → P A x z → Same H A → (∀ B, Same A B → N (emb (key z)) B) → g x (wipe σ vs) A fun σ2 B => wipe σ2 vs = wipe σ vs ∧ te σ2 B N)
    (fin : ∀ p A, Same H A → H p = none → A p = some (SO p (fun j => decide (j ∈ accK (zs.map key))) (accK (zs.map key)).length) → Q (.ref p) A) : ScR SO emb J g tYes te vs σ H Q := by
  intro p hp
  have lx := hx.len
  have start : SO p (fun j => decide (j ∈ accK (([] : List α).map key))) (accK (([] : List α).map key)).length = SO p (fun _ => false) 0 := by
    have e : (fun j : κ => decide (j ∈ accK (([] : List α).map key))) = fun _ => false := funext fun j => decide_eq_false (fun z => nomatch z)
    rw [e]; rfl
  refine ⟨fun i m A => m = xs.length - i ∧ i ≤ xs.length ∧ Same H A ∧ A p = some (SO p (fun j => decide (j ∈ accK ((zs.take i).map key))) (accK ((zs.take i).map key)).length), ⟨_, rfl, Nat.zero_le _, same_new hp, by rw [upd_same, List.take_zero, start]⟩, ?_⟩
  rintro i m A ⟨rfl, hi, sm, at_p⟩
  by_cases hlt : i < xs.length
  · refine .inr ⟨go A i _ sm (List.getElem?_eq_getElem hlt), fun A' => i + 1 ≤ xs.length ∧ Same H A' ∧ A' p = some (SO p (fun j => decide (j ∈ accK ((zs.take (i + 1)).map key))) (accK ((zs.take (i + 1)).map key)).length), fun A' h => ⟨xs.length - (i + 1), by omega, rfl, h⟩, fun x A' y => ?_⟩
    obtain ⟨rfl, ex⟩ := yld A i x A' sm hlt y
    obtain ⟨z, ez, pz⟩ := hx.at ex
    refine turn x z A' _ (List.mem_of_getElem? ez) (pm _ _ _ _ (ki_same sm) pz) sm fun B sb => ?_
    have et : (zs.take (i + 1)).map key = (zs.take i).map key ++ [key z] := by rw [List.take_add_one, ez, List.map_append]; rfl
    have len : (accK ((zs.take i).map key)).length ≤ 1000 := by
      have := accK_len ((zs.take i).map key)
      rw [List.length_map, List.length_take] at this
      omega
    refine ⟨key z, _, _, rfl, sb _ _ at_p, by show _ < 4096; omega, by omega, same_mut (sm.trans sb) hp, ?_⟩
    rw [upd_same, et, accK_snoc]
    congr 2
    · funext j
      by_cases h : key z ∈ accK ((zs.take i).map key)
      · rw [if_pos h]
        by_cases e : j = key z
        · subst e; rw [decide_eq_true h]; rfl
        · rw [decide_eq_false e, Bool.or_false]
      · rw [if_neg h]
        by_cases e : j = key z
        · subst e; rw [decide_eq_false h, decide_eq_true rfl, decide_eq_true (List.mem_append_right _ List.mem_cons_self)]; rfl
        · rw [decide_eq_false e, Bool.or_false]
          by_cases h2 : j ∈ accK ((zs.take i).map key)
          · rw [decide_eq_true h2, decide_eq_true (List.mem_append_left _ h2)]
          · rw [decide_eq_false h2, decide_eq_false (fun q => (List.mem_append.mp q).elim h2 fun r => e (List.mem_singleton.mp r))]
    · by_cases h : key z ∈ accK ((zs.take i).map key)
      · rw [if_pos h, if_pos (decide_eq_true h)]
      · rw [if_neg h, if_neg (by rw [decide_eq_false h]; exact Bool.false_ne_true), List.length_append, List.length_singleton]
  · have e : i = xs.length := by omega
    subst e
    rw [lx, List.take_length] at at_p
    exact .inl ⟨stop A sm, fin p A sm hp at_p⟩
theorem c_setT {α : Type} {a : Addr} {xs : List V} {zs : List α} {g : TG} {te : TE} {vs : List Nat} (P : Hp → V → α → Prop) (key : α → κ) (pm : ∀ A B x z, KI A B → P A x z → P B x z) (hs : SqT K H a xs) (hz : xs.length ≤ 1000) (hx : A2 (P H) xs zs)
    (turn : ∀ x z A (N : V → Hp → Prop), z ∈ zs → P A x z → Same H A → (∀ B, Same A B → N (emb (key z)) B) → g x (wipe σ vs) A fun σ2 B => wipe σ2 vs = wipe σ vs ∧ te σ2 B N)
    (fin : ∀ p A, Same H A → H p = none → A p = some (SO p (fun j => decide (j ∈ accK (zs.map key))) (accK (zs.map key)).length) → Q (.ref p) A) : ScR SO emb (Itt K a) g tYes te vs σ H Q :=
  c_set P key pm hz hx (fun A i x sm e => ⟨xs, x, sqT_kt (kt_same sm) hs, e⟩) (fun A i x A' sm _ y => ⟨y.1, y.2 xs (sqT_kt (kt_same sm) hs)⟩) (fun A sm => ⟨xs, sqT_kt (kt_same sm) hs, Nat.le_refl _⟩) turn fin
theorem c_setL {α : Type} {a : Addr} {xs : List V} {zs : List α} {g : TG} {te : TE} {vs : List Nat} (P : Hp → V → α → Prop) (key : α → κ) (pm : ∀ A B x z, KI A B → P A x z → P B x z) (hs : SqL K H a xs) (hz : xs.length ≤ 1000) (hx : A2 (P H) xs zs)
    (turn : ∀ x z A (N : V → Hp → Prop), z ∈ zs → P A x z → Same H A → (∀ B, Same A B → N (emb (key z)) B) → g x (wipe σ vs) A fun σ2 B => wipe σ2 vs = wipe σ vs ∧ te σ2 B N)
    (fin : ∀ p A, Same H A → H p = none → A p = some (SO p (fun j => decide (j ∈ accK (zs.map key))) (accK (zs.map key)).length) → Q (.ref p) A) : ScR SO emb (Itl K a) g tYes te vs σ H Q :=
  c_set P key pm hz hx (fun A i x sm e => ⟨xs, x, sm.seq hs, e⟩) (fun A i x A' sm _ y => ⟨y.1, y.2 xs (sm.seq hs)⟩) (fun A sm => ⟨xs, sm.seq hs, Nat.le_refl _⟩) turn fin
end
/-- len of a set of keys -/
def rLenK (P : Program) (w : World) : List V → Hp → VK → Prop := fun vs H Q => ∃ (a : Addr) (S : Key → Bool) (n : Nat), vs = [.ref a] ∧ H a = some (SetK P w a S n) ∧ Q (.int (n : Int)) H
theorem call_lenK {X : Cx} : CallR X (.builtin "len") (rLenK X.prog X.w) := by
  intro pins s σ H vs us Q I r h
  obtain ⟨a, S, n, rfl, at_a, q⟩ := h
  rw [Vals.ref1 r]
  obtain ⟨o, es, ep, t, ho, ex, hd, _, _, sb, hf, hn⟩ := setK_get I at_a
  have lt : es.size < 4096 := sb
  have big : (es.size : Int) < 2 ^ 63 := by omega
  exact call_len_set ho ex hd hf big ⟨.int (n : Int), H, I.tok _, ⟨_, by rw [hn]⟩, q⟩
theorem s_lenK {P : Program} {w : World} {H : Hp} {Q : VK} {a : Addr} {S : Key → Bool} {n : Nat} (h : H a = some (SetK P w a S n)) (q : Q (.int (n : Int)) H) : rLenK P w [.ref a] H Q := ⟨a, S, n, rfl, h, q⟩
end Cr

namespace Cr
open PySem PySem.Spec PyProof.Rows L2
/-! ### steps of the further rules -/
/-- a statement that is never come to -/
theorem ps_never {X : Cx} {st : Stmt} : PS X st (fun _ _ _ => False) := ⟨fun _ _ _ _ _ _ h => h.elim⟩
/-- a call of a def that a slot holds: which one, and its promise, the reading tells -/
def tCallR (i : Nat) (G : Addr → Sp → Prop) (t : TA) : TE := fun σ H Q => ∃ f sp, σ[i]? = some (some (.ref f)) ∧ G f sp ∧ t σ H fun vs H1 => sp vs H1 Q (fun _ _ _ => False)
theorem pe_callR {X : Cx} {G : Addr → Sp → Prop} {m i : Nat} {x : Str} {e : Expr} {es : List Expr} {t : TA} {p pos : Pos} (A : ∀ f sp, G f sp → ∃ k, k ≤ m ∧ Held X.prog X.w X.K X.mg X.base k f sp) (hr : Room m X.A) (hN : X.N[i]? = some x) (hv : Vis X.env.scope x) (ha : PA X (e :: es) t)
    (hdb : (x == ("__debug__" : Str)) = false := by decide) (hcd : (x == ("__classdict__" : Str)) = false := by decide)
    (he : starEach (e :: es) X.env = (false, eval e X.env) :: starEach es X.env := by rfl) (hpl : (backTo pos (starEach es X.env)).any (·.1) = false := by rfl) : PE X (.Call (.Name x p) (e :: es) [] pos) (tCallR i G t) := by
  refine ⟨fun pins s σ H Q I h => ?_⟩
  obtain ⟨f, sp, at_i, g, run⟩ := h
  obtain ⟨k, le, hh⟩ := A f sp g
  refine (pe_callA (S := fun a => if a = f then some sp else none) (k := k) (fun a q e => ?_) (hr.mono le) hN hv ha hdb hcd he hpl).run pins s σ H Q I ⟨f, sp, at_i, if_pos rfl, run⟩
  by_cases z : a = f
  · subst z
    rw [if_pos rfl] at e
    cases e
    exact hh
  · rw [if_neg z] at e; cases e
/-- a def that says True of what is so -/
def spOk (K : PySem.W.Frag) (ok : PyData → Prop) : Sp := fun vs H Q _ => ∃ x e, vs = [x] ∧ Dt K H x e ∧ ok e ∧ ∀ H', Same H H' → Q (.bl true) H'
def okNum (lo hi : Int) (e : PyData) : Prop := ∃ i, e = .int i ∧ lo ≤ i ∧ i ≤ hi
def okName (e : PyData) : Prop := ∃ t, e = .str t ∧ Nm t
def okPair (e : PyData) : Prop := ∃ t c, e = .tuple [.str t, .int c] ∧ Nm t ∧ 1 ≤ c ∧ c ≤ 1000000
def okPairs (e : PyData) : Prop := ∃ ps, e = pairsD ps ∧ PsOf Nm ps
def rInSign : R2 := fun x y H Q => ∃ (c : Nat) (z : Str), x = .str ⟨#[c]⟩ ∧ y = .str z ∧ Q (.bl (decide (c ∈ z.cps.toList))) H
theorem op_in_signU {X : Cx} : OpR X (compareOp .In) rInSign := op_in_sign
section
variable {K : PySem.W.Frag} {σ : St} {H : Hp} {Q : VK} {D : Ends}
theorem s_inSign {c : Nat} {z : Str} (h : Q (.bl (decide (c ∈ z.cps.toList))) H) : rInSign (.str (sign c)) (.str z) H Q := ⟨c, z, rfl, rfl, h⟩
theorem s_allT {a : Addr} {ys : List V} (hs : SqL K H a ys) (ht : ∀ y, y ∈ ys → y = .bl true) (h : Q (.bl true) H) : rAll K [.ref a] H Q := by
  have e : ys = (List.replicate ys.length true).map V.bl := by
    rw [List.map_replicate]
    exact List.eq_replicate_iff.mpr ⟨rfl, ht⟩
  refine ⟨a, List.replicate ys.length true, rfl, by rw [← e]; exact hs, ?_⟩
  rw [show (List.replicate ys.length true).all id = true by rw [List.all_eq_true]; intro x hx; exact (List.mem_replicate.mp hx).2]
  exact h
theorem s_truT {x : V} {ds : List PyData} {N : Bool → Prop} (hx : Dt K H x (.tuple ds)) (h : N (!ds.isEmpty)) : ∃ k, TruV K x H k ∧ N k := by
  obtain ⟨a, xs, rfl, hs, ha⟩ := hx.tup_inv
  refine ⟨_, .inr (.inl ⟨xs, hs, rfl⟩), ?_⟩
  have e : xs.isEmpty = ds.isEmpty := by
    cases ha with
    | nil => rfl
    | cons _ _ => rfl
  rw [e]; exact h
theorem s_truTc {x : V} {d : PyData} {ds : List PyData} {N : Bool → Prop} (hx : Dt K H x (.tuple (d :: ds))) (h : N true) : ∃ k, TruV K x H k ∧ N k := s_truT hx h
theorem s_lenS {x : Str} (l : x.length ≤ sizeLine) (h : Q (.int x.length) H) : rLenU K [.str x] H Q := ⟨.str x, x.length, rfl, ⟨l, rfl⟩, h⟩
theorem s_gstar {v : V} {d : PyData} {ds : List PyData} {t : TGs} {N : St → Hp → Prop} (hx : Dt K H v (.tuple (d :: ds))) (l : ds.length ≤ 900) (h : ∀ y ys p, Dt K H y d → DtAll K H ys ds → H p = none → t [y, .ref p] σ (upd H p (.lst ys)) N) : gStar K t v σ H N := by
  obtain ⟨a, xs, rfl, hs, ha⟩ := hx.tup_inv
  cases ha with
  | cons h1 h2 => exact ⟨a, _, _, rfl, hs, by rw [h2.len]; exact l, fun p hp => h _ _ p h1 h2 hp⟩
theorem s_lenQ {a : Addr} {xs : List V} (hs : SqT K H a xs) (h : Q (.int xs.length) H) : rLenU K [.ref a] H Q := ⟨.ref a, xs.length, rfl, .inr ⟨xs, hs, rfl⟩, h⟩
theorem s_gtupQ {n : Nat} {t : TGs} {a : Addr} {xs : List V} {N : St → Hp → Prop} (hs : SqT K H a xs) (e : xs.length = n) (h : t xs σ H N) : gTup K n t (.ref a) σ H N := ⟨a, xs, rfl, hs, e, h⟩
theorem s_callR {i : Nat} {G : Addr → Sp → Prop} {t : TA} {f : Addr} {sp : Sp} (hi : σ[i]? = some (some (.ref f))) (g : G f sp) (h : t σ H fun vs H1 => sp vs H1 Q (fun _ _ _ => False)) : tCallR i G t σ H Q := ⟨f, sp, hi, g, h⟩
theorem s_gc {t : TG} {u : TGs} {y : V} {r : List V} {N : St → Hp → Prop} (h : t y σ H fun σ' H' => u r σ' H' N) : gCons t u (y :: r) σ H N := ⟨_, _, rfl, h⟩
theorem s_gn {N : St → Hp → Prop} (h : N σ H) : gNil [] σ H N := ⟨rfl, h⟩
def EnQ (K : PySem.W.Frag) (vs : List V) (H : Hp) (R : It → Hp → Prop) : Prop := ∃ a xs, vs = [V.ref a] ∧ SqT K H a xs ∧ R (Itet K a) H
theorem s_iEnumT {ta : TA} {R : It → Hp → Prop} (h : ta σ H fun vs H1 => EnQ K vs H1 R) : iEnumT K ta σ H R := h
theorem s_isEn {a : Addr} {xs : List V} {R : It → Hp → Prop} (hs : SqT K H a xs) (h : R (Itet K a) H) : EnQ K [.ref a] H R := ⟨a, xs, rfl, hs, h⟩
theorem s_isLt {p : Addr} {xs : List V} {N : Addr → Prop} (hs : SqT K H p xs) (h : N p) : ∃ a, V.ref p = V.ref a ∧ (∃ xs, SqT K H a xs) ∧ N a := ⟨p, rfl, ⟨xs, hs⟩, h⟩
theorem s_isLtD {x : V} {ds : List PyData} {N : Addr → Prop} (hx : Dt K H x (.tuple ds)) (h : ∀ p xs, x = .ref p → SqT K H p xs → DtAll K H xs ds → N p) : ∃ a, x = V.ref a ∧ (∃ xs, SqT K H a xs) ∧ N a := by
  obtain ⟨a, xs, rfl, hs, ha⟩ := hx.tup_inv
  exact ⟨a, rfl, ⟨xs, hs⟩, h a xs rfl hs ha⟩
/-- sorted(..) of data -/
theorem s_sortL {a : Addr} {xs : List V} {ds : List PyData} (hs : SqL K H a xs) (hd : DtAll K H xs ds) (hal : PySem.W.AllAlike ds) (hk : PySem.W.Sortable ds) (hz : ∀ d, d ∈ ds → d.depth ≤ 32) (hl : xs.length ≤ 1000) (h : ∀ p ys, H p = none → ys.Perm xs → DtAll K (upd H p (.lst ys)) ys (sortD ds) → Q (.ref p) (upd H p (.lst ys))) : rSortD K [.ref a] H Q :=
  ⟨a, xs, ds, rfl, .inl hs, hd, hal, hk, hz, hl, fun p ys hp pm h2 => h p ys hp pm (DtAll.mono (kt_new hp) (by have := a2_das (f := fun d => d) h2; rwa [List.map_id'] at this))⟩
theorem s_sortT {x : V} {ds : List PyData} (hx : Dt K H x (.tuple ds)) (hal : PySem.W.AllAlike ds) (hk : PySem.W.Sortable ds) (hz : ∀ d, d ∈ ds → d.depth ≤ 32) (hl : ds.length ≤ 1000) (h : ∀ p ys, H p = none → DtAll K (upd H p (.lst ys)) ys (sortD ds) → Q (.ref p) (upd H p (.lst ys))) : rSortD K [x] H Q := by
  obtain ⟨a, xs, rfl, hs, hd⟩ := hx.tup_inv
  exact ⟨a, xs, ds, rfl, .inr hs, hd, hal, hk, hz, by rw [hd.len]; exact hl, fun p ys hp pm h2 => h p ys hp (DtAll.mono (kt_new hp) (by have := a2_das (f := fun d => d) h2; rwa [List.map_id'] at this))⟩
/-- comprehensions over a tuple, over a text -/
theorem c_tupS {α : Type} {a : Addr} {xs : List V} {zs : List α} {g : TG} {te : TE} {vs : List Nat} (P : Hp → V → α → Prop) (R : Hp → α → V → Prop) (pm : ∀ A B x z, KI A B → P A x z → P B x z) (rm : ∀ A B z y, KI A B → R A z y → R B z y)
    (hs : SqT K H a xs) (hx : A2 (P H) xs zs) (hz : xs.length ≤ 1000)
    (turn : ∀ x z A (N : V → Hp → Prop), z ∈ zs → P A x z → Same H A → (∀ y B, Same A B → R B z y → N y B) → g x (wipe σ vs) A fun σ2 B => wipe σ2 vs = wipe σ vs ∧ te σ2 B N)
    (fin : ∀ p ys A, Same H A → H p = none → A p = some (.lst ys) → A2 (R A) zs ys → Q (.ref p) A) : LcR (Itt K a) g tYes te vs σ H Q :=
  c_core (stp_same H) P R pm rm hx hz turn fin fun _ Pv h0 hS hs' hd => lc_tup Pv h0 (fun i A _ p => sqT_kt (kt_same (hS i A p)) hs) hs' hd
theorem c_str {x : Str} {g : TG} {te : TE} {vs : List Nat} (R : V → Prop) (hz : x.cps.size ≤ 1000)
    (turn : ∀ c A (N : V → Hp → Prop), c ∈ x.cps.toList → Same H A → (∀ y B, Same A B → R y → N y B) → g (.str (sign c)) (wipe σ vs) A fun σ2 B => wipe σ2 vs = wipe σ vs ∧ te σ2 B N)
    (fin : ∀ p ys A, Same H A → H p = none → A p = some (.lst ys) → ys.length = x.cps.size → (∀ y, y ∈ ys → R y) → Q (.ref p) A) : LcR (Its x) g tYes te vs σ H Q := by
  intro p hp
  refine ⟨fun i m A => m = x.cps.size - i ∧ i ≤ x.cps.size ∧ Same H A ∧ ∃ ys, A p = some (.lst ys) ∧ ys.length = i ∧ ∀ y, y ∈ ys → R y, ⟨_, rfl, Nat.zero_le _, same_new hp, [], upd_same, rfl, fun _ h => nomatch h⟩, ?_⟩
  rintro i m A ⟨rfl, hi, sm, ys, h1, h2, h3⟩
  by_cases hlt : i < x.cps.size
  · refine .inr ⟨hlt, fun A' => i + 1 ≤ x.cps.size ∧ Same H A' ∧ ∃ ys, A' p = some (.lst ys) ∧ ys.length = i + 1 ∧ ∀ y, y ∈ ys → R y, fun A' h => ⟨x.cps.size - (i + 1), by omega, rfl, h⟩, fun v A' y => ?_⟩
    obtain ⟨rfl, c, ec, rfl⟩ := y
    refine turn c A' _ (Array.mem_def.mp (Array.mem_of_getElem? ec)) sm fun z B sb r => ?_
    refine ⟨ys, sb _ _ h1, L2.small1000 (by omega), hlt, same_mut (sm.trans sb) hp, ys ++ [z], upd_same, by rw [List.length_append, h2]; rfl, fun y hy => ?_⟩
    rcases List.mem_append.mp hy with e | e
    · exact h3 y e
    · rw [List.mem_singleton] at e; rw [e]; exact r
  · have e : i = x.cps.size := by omega
    subst e
    exact .inl ⟨Nat.le_refl _, fin p ys A sm hp h1 h2 h3⟩
end
end Cr
namespace Cr
open PySem PySem.Spec PyProof.Rows L2
/-! ### lists of entries -/
abbrev E3 := Str × Int × List PyData
abbrev dE (e : E3) : PyData := entD e.1 e.2.1 e.2.2
def slotE (e : E3) : PyData := slotD e.1 e.2.1 e.2.2
def EntsAt (K : PySem.W.Frag) (H : Hp) : List V → List E3 → Prop := A2 fun v e => Dt K H v (dE e)
theorem EntsAt.mono {K : PySem.W.Frag} {H H' : Hp} {vs : List V} {es : List E3} (k : KT H H') (h : EntsAt K H vs es) : EntsAt K H' vs es := A2.mono (fun _ _ z => z.mono k) h
/-- of each slot at most one -/
def SlotsOk (es : List E3) : Prop := es.Pairwise fun a b => slotE a = .none ∨ slotE a ≠ slotE b
def EntIn (Hn Tn : Str → Prop) (L : Int) (e : E3) : Prop := EntOf Hn Tn L e.1 e.2.1 e.2.2
theorem EntOf.shift {Hn Tn : Str → Prop} {L d s : Int} {k : Str} {rest : List PyData} (h : EntOf Hn Tn L k d rest) (s0 : 0 ≤ s) : EntOf Hn Tn (L + s) k (d + s) rest := by
  cases h with
  | price d0 d1 t p0 p1 => exact .price (by omega) (by omega) t p0 p1
  | mix d0 d1 h => exact .mix (by omega) (by omega) h
  | come d0 d1 t p0 p1 => exact .come (by omega) (by omega) t p0 p1
  | go d0 d1 t p0 p1 => exact .go (by omega) (by omega) t p0 p1
  | draw d0 d1 t p0 p1 => exact .draw (by omega) (by omega) t p0 p1
  | give d0 d1 t u n p0 p1 => exact .give (by omega) (by omega) t u n p0 p1
  | rate d0 d1 p0 p1 => exact .rate (by omega) (by omega) p0 p1
  | harvest d0 d1 => exact .harvest (by omega) (by omega)
  | aside d0 d1 t => exact .aside (by omega) (by omega) t
  | home d0 d1 t => exact .home (by omega) (by omega) t
  | levy d0 d1 p0 p1 => exact .levy (by omega) (by omega) p0 p1
  | hurdle d0 d1 p0 p1 => exact .hurdle (by omega) (by omega) p0 p1
theorem slot_cases (e : E3) : slotE e = .none ∨ ∃ ds, slotE e = .tuple ds := by
  unfold slotE slotD
  split
  · exact .inr ⟨_, rfl⟩
  · exact .inl rfl
section
variable {K : PySem.W.Frag} {σ : St} {H : Hp} {Q : VK} {D : Ends}
/-- x not in a list of data -/
theorem s_ntInD {p : Addr} {x : V} {d : PyData} {ys : List V} {ds : List PyData} {n : Nat} (hx : Dt K H x d) (hs : SqL K H p ys) (hd : DtAll K H ys ds) (s : LayN n d) (ss : ∀ e, e ∈ ds → LayN n e) (k : n ≤ 63) (h : Q (.bl (!ds.any fun z => PyData.eqv z d)) H) : rNotInD K x (.ref p) H Q :=
  ⟨d, ds, hx.dp, .lst hs hd.dp, s.sh (by omega), (lay_lst ss).sh (by omega), h⟩
theorem any_eqv {ds : List PyData} {d : PyData} {n : Nat} (ss : ∀ e, e ∈ ds → LayN n e) (h : (ds.any fun z => PyData.eqv z d) = false) : ∀ e, e ∈ ds → e ≠ d := fun e he z => by
  have := List.any_eq_false.mp h e he
  rw [← z] at this
  exact this (SeqAt.eqv_refl _ (ss e he).1)
end
end Cr

/-! ### own exceptions as values: made by their own __init__, fields read, isinstance -/
namespace Cr
open PySem PySem.Spec PyProof.Rows L2
/-- what the written part says of an own class of error, over whatever built-in one -/
structure OexG (K : PySem.W.Frag) (C : Addr) : Prop where
  st : ∃ B bmB, StoreFacts B bmB "object.__setattr__" "object" ∧ PySem.W.excOver K C bmB = true
  sa : PySem.W.findIn K (.ref C) "__setattr__" = some (some (.builtin "object.__setattr__"))
  hd : PySem.W.hasDictIn K C = true
  ga : PySem.W.findIn K (.ref C) "__getattribute__" = some (some (.builtin "BaseException.__getattribute__"))
  gg : PySem.W.findIn K (.ref C) "__getattr__" = some none
  ex : PySem.W.subIn K (.ref C) (.type "BaseException") = some true
  cl : PySem.W.findIn K (.ref C) "__class__" = some (some (.builtin "object.__class__"))
  gs : PySem.W.specialIn K (.builtin "object.__class__") "__get__" = some (some (.builtin "getset_descriptor.__get__"))
  tk : PySem.W.takesIn K (.builtin "object.__class__") = some true
  om : PySem.W.mroIn K C (.type "object") = some true
  kp : PySem.W.keepIn K (.ref C) = true
def oexB (K : PySem.W.Frag) (C : Addr) (bmB : List Value) : Bool :=
  PySem.W.excOver K C bmB && (decide (PySem.W.findIn K (.ref C) "__setattr__" = some (some (.builtin "object.__setattr__"))) && (PySem.W.hasDictIn K C &&
  (decide (PySem.W.findIn K (.ref C) "__getattribute__" = some (some (.builtin "BaseException.__getattribute__"))) && (decide (PySem.W.findIn K (.ref C) "__getattr__" = some none) &&
  (decide (PySem.W.subIn K (.ref C) (.type "BaseException") = some true) && (decide (PySem.W.findIn K (.ref C) "__class__" = some (some (.builtin "object.__class__"))) &&
  (decide (PySem.W.specialIn K (.builtin "object.__class__") "__get__" = some (some (.builtin "getset_descriptor.__get__"))) && (decide (PySem.W.takesIn K (.builtin "object.__class__") = some true) &&
  (decide (PySem.W.mroIn K C (.type "object") = some true) && PySem.W.keepIn K (.ref C))))))))))
theorem oexB_ok {K : PySem.W.Frag} {C : Addr} {bmB : List Value} {B : String} (F : StoreFacts B bmB "object.__setattr__" "object") (h : oexB K C bmB = true) : OexG K C := by
  unfold oexB at h
  simp only [Bool.and_eq_true, decide_eq_true_eq] at h
  obtain ⟨h1, h2, h3, h4, h5, h6, h7, h8, h9, h10, h11⟩ := h
  exact ⟨⟨B, bmB, F, h1⟩, h2, h3, h4, h5, h6, h7, h8, h9, h10, h11⟩
/-- a call of the class lays the exception, then goes into __init__ -/
def Makes (K : PySem.W.Frag) (C fI : Addr) : Prop := ∀ {prog : Program} {w : World} {A : Around} {R : Result → Shared → Prop} {h : Heap} {g : Array GenState} {d : Drawn} {t : Nat} {os : OsState} {rest : List Value}, K.In h → rest.length ≤ sizeLine →
  codeAny (model prog w) (A.under (.builtin "type.__call__" ⟨.ref C :: rest, []⟩)) (.call (.ref fI) ⟨.ref (h.objs.size + 1) :: rest, []⟩) (PySem.W.InitBack (h.objs.size + 1) R)
    ⟨(h.push (PySem.W.kdv_tup rest)).push (PySem.HandSPX.excO C h.objs.size), g, d, t, os⟩ →
  codeAny (model prog w) A (.call (.ref C) ⟨rest, []⟩) R ⟨h, g, d, t, os⟩
theorem makes_of {K : PySem.W.Frag} {C fI : Addr} {bmB : List Value} {B newId initId : String} (F : ExcBaseFacts B newId initId bmB) (q : PySem.W.excInitIn K C bmB newId = true)
    (iC : PySem.W.findIn K (.ref C) "__init__" = some (some (.ref fI))) (tI : PySem.W.typeIn K (.ref fI) = some (.type "function")) : Makes K C fI := by
  intro prog w A R h g d t os rest X hl hq
  obtain ⟨nm, N, qn, bs, bm, hdct, sn, sub, ab, col, dd, k0, k1, k2, k3, k5, hC, hT⟩ := PySem.W.excInit_of X q
  exact PySem.HandSPX.call_own F hT hC (PySem.W.looks_findIn X iC) (fun self => PySem.W.bind_fn X self tI) hl hq
section
variable {X : Cx} {pins : List (Addr × Obj)} {σ : St} {H : Hp} {s : Shared} {a C dx : Addr} {f : Str} {y : V} {u : Value} {fs : List (Str × V)} {Q : Unit → Shared → Prop} {E : Value → Shared → Prop} {A : Around}
open Builtin Builtin.ObjectAttr in
/-- the first field: the dict is laid -/
theorem osa_first {prog : Program} {w : World} {K : PySem.W.Frag} {R : Result → Shared → Prop} {hp : Heap} {g : Array GenState} {d : Drawn} {t : Nat} {os : OsState} {t1 : Addr} {name : Str} {tk : Tok} {v : Value} (T : OexG K C) (Y : K.In hp)
    (hx : hp.get? a = some (PySem.W.excObj C t1 none .none)) (hno : PySem.W.findIn K (.ref C) name = some none)
    (hq : ∀ h' tk' dx, (∀ b o, b ≠ a → hp.get? b = some o → h'.get? b = some o) → hp.objs.size ≤ dx → dx ≠ a → h'.get? a = some (PySem.W.excObj C t1 (some dx) .none) →
      h'.Ns1 dx (fun y => if y = name then some v else none) → R (.ok (.ret .none)) ⟨h', g, d, tk', os⟩) :
    codeAny (model prog w) A (.call (.builtin "object.__setattr__") ⟨[.ref a, .str name tk, v], []⟩) R ⟨hp, g, d, t, os⟩ := by
  obtain ⟨B, bmB, SF, ov⟩ := T.st
  have hxs : a ≠ hp.objs.size := Nat.ne_of_lt (Heap.lt_size hx)
  refine PySem.W.osa_openX (s := ⟨hp, g, d, t, os⟩) (od := none) SF Y ⟨hx, rfl, rfl, trivial⟩ ov (r := none) (by unfold PySem.W.takerIn; rw [hno]; rfl) fun b => ?_
  obtain ⟨cd, hc, hd'⟩ := PySem.W.any_some T.hd
  refine wpAny_bind (wpAny_pure (wpAny_bind (PySem.W.instanceDict_exc hx (PySem.W.looks_clsIn Y hc) hd' ?_)))
  show wpAny _ _ (storeInDict hp.objs.size (.str name tk) name v) _ _ _
  refine PySem.HandSPX.store_in_new ?_ ?_
  · exact ⟨_, #[], _, (Heap.get?_update_other _ _ hxs).trans (Heap.get?_push_at rfl rfl), rfl, fun e he => absurd he (by simp), fun _ => rfl⟩
  · intro h' tk' hn' hs
    have hx1 : (hp.push (PySem.W.dictOf [] 0)).get? a = some (PySem.W.excObj C t1 none .none) := Heap.get?_push_of_some _ hx
    refine hq h' tk' hp.objs.size (fun b o hb ho => ?_) (Nat.le_refl _) hxs.symm ?_ hn'
    · exact (hs.2 b (Nat.ne_of_lt (Heap.lt_size ho))).trans ((Heap.get?_update_other _ _ (Ne.symm hb)).trans (Heap.get?_push_of_some _ ho))
    · exact (hs.2 a hxs).trans (Heap.get?_update_self _ hx1 rfl)
/-- self.f = y, the first one -/
theorem ost_first (T : OexG X.K C) (I : Inv X pins σ H s) (e : H a = some (exo a C none)) (hno : PySem.W.findIn X.K (.ref C) f = some none) (ry : RelV y u)
    (h : ∀ dx s', H dx = none → dx ≠ a → Inv X pins σ (upd (upd H dx (exd dx [(f, y)])) a (exo a C (some dx))) s' → Q () s') : wpAny (model X.prog X.w) A (setAttr (.ref a) f u) Q E s := by
  obtain ⟨t1, ho⟩ := exo_at I.hok e
  obtain ⟨hp, g, d, t, os⟩ := s
  refine PySem.W.set_plain I.kIn (ox := PySem.W.excObj C t1 none .none) (od := none) ⟨ho, rfl, rfl, trivial⟩ T.sa ?_
  refine osa_first T I.kIn ho hno fun h' tk' dx k dn dne hx hn => ?_
  have hnd : H dx = none := I.hok.fresh dn
  -- the dict alone, ahead of the store
  have gs := fun b (hb : a ≠ b) => Heap.get?_update_other h' (fun _ => PySem.W.excObj C t1 none .none) hb
  have ga : (h'.update a fun _ => PySem.W.excObj C t1 none .none).get? a = some (PySem.W.excObj C t1 none .none) := Heap.get?_update_self _ hx rfl
  have I1 : Inv X pins σ (upd H dx (exd dx [(f, y)])) ⟨h'.update a fun _ => PySem.W.excObj C t1 none .none, g, d, tk', os⟩ :=
    I.laid (t' := tk') (a := dx) (o := exd dx [(f, y)]) (h' := h'.update a fun _ => PySem.W.excObj C t1 none .none) (fun b o q => by
      by_cases hb : b = a
      · subst hb
        cases ho.symm.trans q
        exact ga
      · exact (gs b (Ne.symm hb)).trans (k b o hb q)) dn (exd_ok (hn.at fun o q => (gs dx (Ne.symm dne)).trans q) (relO_put (fs := []) ry fun g => True.intro))
  refine h dx _ hnd dne (I1.write (t' := tk') (x := a) (e := a) (o := exo a C (some dx)) (by rw [upd_ne (Ne.symm dne), e]; exact True.intro) (.inl rfl) (fun b o hb q => ?_) ⟨_, hx⟩ (exo_ok hx))
  exact (gs b (Ne.symm hb)).symm.trans q
end
/-- self.f = e, the first field -/
def tOst1 (K : PySem.W.Frag) (f : Str) (to te : TE) : TS := fun D σ H => te σ H fun y H1 => to σ H1 fun x H2 => ∃ a C : Addr, x = .ref a ∧ OexG K C ∧ PySem.W.findIn K (.ref C) f = some none ∧ H2 a = some (exo a C none) ∧
  ∀ dx, H2 dx = none → dx ≠ a → D.nx σ (upd (upd H2 dx (exd dx [(f, y)])) a (exo a C (some dx)))
/-- C(e, ..), by its own __init__ -/
def MkEQ (C : Addr) (sp : Sp) (vs : List V) (H : Hp) (Q : VK) : Prop := vs.length ≤ 1000 ∧ ∀ a, H a = none → sp (.ref a :: vs) (upd H a (exo a C none)) (fun v H2 => v = .non ∧ Q (.ref a) H2) (fun _ _ _ => False)
def tMkE (C : Addr) (sp : Sp) (ta : TA) : TE := fun σ H Q => ta σ H fun vs H1 => MkEQ C sp vs H1 Q
/-- e.f of such an exception -/
def FldEQ (K : PySem.W.Frag) (f : Str) (x : V) (H1 : Hp) (Q : VK) : Prop := ∃ (a C dx : Addr) (fs : List (Str × V)) (v : V), x = .ref a ∧ OexG K C ∧ PySem.W.findIn K (.ref C) f = some none ∧ H1 a = some (exo a C (some dx)) ∧ H1 dx = some (exd dx fs) ∧ fs.lookup f = some v ∧ Q v H1
def tFldE (K : PySem.W.Frag) (f : Str) (te : TE) : TE := fun σ H Q => te σ H fun x H1 => FldEQ K f x H1 Q
def MkE0Q (C : Addr) (H : Hp) (Q : VK) : Prop := ∀ a, H a = none → Q (.ref a) (upd H a (exo a C none))
def tMkE0 (C : Addr) : TE := fun _ H Q => MkE0Q C H Q
/-- x: an exception of the class C -/
def ErrAt (C : Addr) (H : Hp) (x : V) : Prop := ∃ a : Addr, x = .ref a ∧ (H a = some (exo a C none) ∨ ∃ dx fs, H a = some (exo a C (some dx)) ∧ H dx = some (exd dx fs))
def rIsEr (K : PySem.W.Frag) : List V → Hp → VK → Prop := fun xs H Q => ∃ (x c : V) (C : Addr) (u : Value) (b : Bool), xs = [x, c] ∧ ErrAt C H x ∧ OexG K C ∧ ClsV c u ∧ PySem.W.kitOne K (.ref C) u = some b ∧ Q (.bl b) H
section
variable {X : Cx} {o e : Expr} {es : List Expr} {to te : TE} {ta : TA} {f : Str} {p p' pos : Pos}
theorem ps_ost1 (ho : PE X o to) (he : PE X e te) (hs : swapsWith e (some (.Attribute o f p')) pos.line X.env = pure false := by rfl) : PS X (.Assign [.Attribute o f p'] e pos) (tOst1 X.K f to te) := by
  refine ⟨fun pins s σ H D I h => ?_⟩
  refine plainObj_wpAny_Assign_Attribute (thn (he.run pins s σ H _ I h) fun v s1 ⟨y, H1, I1, r1, q1⟩ => thn (ho.run pins s1 σ H1 _ I1 q1) fun u s2 ⟨x, H2, I2, r2, a, C, ex, T, hno, ea, q⟩ => ?_) hs
  subst ex
  obtain rfl : u = Value.ref a := r2
  exact ost_first T I2 ea hno r1 fun dx s' n ne J => ⟨σ, _, J, q dx n ne⟩
theorem pe_mkE {CX : CXT} {x : Str} {C fI : Addr} {k : Nat} {fd : FuncData} {ps : List Str} {sp : Sp} (M : Makes X.K C fI) (kC : PySem.W.keepIn X.K (.ref C) = true)
    (F1 : FnOk X.prog X.w X.K X.mg X.base CX k fI fd ps sp) (hr : Room (k + 1) X.A) (hg : Gl X x) (hm : X.mg x = some (.ref C)) (hb : Binds X.K fd ps []) (hx : Passes CX X (fun _ _ _ => False)) (ha : PA X (e :: es) ta)
    (hdb : (x == ("__debug__" : Str)) = false := by decide) (he : starEach (e :: es) X.env = (false, eval e X.env) :: starEach es X.env := by rfl) (hpl : (backTo pos (starEach es X.env)).any (·.1) = false := by rfl) :
    PE X (.Call (.Name x p) (e :: es) [] pos) (tMkE C sp ta) := by
  refine ⟨fun pins s σ H Q I h => ?_⟩
  refine wpAny_Call_Name_kw (ld_glob I hg hm ?_ hdb)
  refine PySem.W.callWith_K (h₀ := X.base) I.ok.mod.kin kC (thn (ha.run pos pins s σ H _ I h) fun us s1 ⟨vs, H1, I1, r1, hz, q1⟩ => ⟨I1.kIn, ?_⟩) he hpl
  show wpAny _ _ (call (.ref C) us) _ _ _
  obtain ⟨hp, g, dr, tk, os⟩ := s1
  have hsz : hp.objs.size ≤ hp.objs.size + 1 := Nat.le_succ _
  have hq := q1 (hp.objs.size + 1) (I1.hok.fresh hsz)
  have hget : ((hp.push (PySem.W.kdv_tup us)).push (PySem.HandSPX.excO C hp.objs.size)).get? (hp.objs.size + 1) = some (PySem.HandSPX.excO C hp.objs.size) := by heap_get
  have I2 : Inv X pins σ (upd H1 (hp.objs.size + 1) (exo (hp.objs.size + 1) C none)) ⟨(hp.push (PySem.W.kdv_tup us)).push (PySem.HandSPX.excO C hp.objs.size), g, dr, tk, os⟩ :=
    I1.laid (t' := tk) (a := hp.objs.size + 1) (o := exo (hp.objs.size + 1) C none) (fun b o q => Heap.get?_push_of_some _ (Heap.get?_push_of_some _ q)) hsz (exo_ok hget)
  have r2 : Vals (V.ref (hp.objs.size + 1) :: vs) (Value.ref (hp.objs.size + 1) :: us) := .cons rfl r1
  have hl : (Value.ref (hp.objs.size + 1) :: us).length = ps.length := by
    rw [← r2.length]
    exact F1.len _ _ _ _ hq
  have hus : us.length ≤ sizeLine := by
    rw [← Paired.length r1, sizeLine_eq]
    omega
  have hbb := hb _ (Value.ref (hp.objs.size + 1) :: us) I2.kIn (by rw [List.append_nil]; exact hl)
  rw [List.append_nil] at hbb
  refine wpAny_call (M I1.kIn hus (codeAny_mono (F1.run _ X.stack _ _ ⟨Value.ref (hp.objs.size + 1) :: us, []⟩ (Value.ref (hp.objs.size + 1) :: us) _ _ (fun _ _ _ => False) (hr.make C us []) (I2.env0.make C us []) hbb r2 hq) fun r s' hq' => ?_))
  cases r with
  | error er => exact hx pins σ _ _ er s' I2 hq'
  | ok fl =>
    cases fl with
    | ret u =>
      obtain ⟨v, H2, I3, rv, ev, q⟩ := I2.after hq'
      subst ev
      exact ⟨rv, .ref _, H2, I3, rfl, q⟩
    | next => exact False.elim hq'
    | brk => exact False.elim hq'
    | cont => exact False.elim hq'
/-- C(), no own __init__ -/
theorem pe_mkE0 {C : Addr} {bmB : List Value} {B newId initId : String} {x : Str} (F : ExcBaseFacts B newId initId bmB) (q : PySem.W.excIn X.K C bmB newId = true) (kC : PySem.W.keepIn X.K (.ref C) = true) (hg : Gl X x) (gC : X.mg x = some (.ref C))
    (hdb : (x == ("__debug__" : Str)) = false := by decide) : PE X (.Call (.Name x p) [] [] pos) (tMkE0 C) := by
  refine ⟨fun pins s σ H Q I h => ?_⟩
  refine wpAny_Call_Name_kw (ld_glob I hg gC ?_ hdb)
  refine PySem.W.callWith_K0 I.kIn kC ?_
  show wpAny _ _ (call (.ref C) []) _ _ _
  obtain ⟨bm, N, nm, qn, bs, hdct, sn, sub, ab, col, dd, k0, k1, k2, k3, k5, mN, hC, hN, hni, T⟩ := exc_obj I.kIn q
  refine wpAny_call_exc_subT F T hC hN hni (fun h' a hm => ?_) (Nat.zero_le _)
  have hn : H a = none := I.hok.gone hm.new
  obtain ⟨t, ht, _, _⟩ := hm.there
  exact ⟨.ref a, upd H a (exo a C none), I.laidN hm.keeps hm.new hn (exo_ok ht), rfl, h a hn⟩
theorem pe_fldE {n : Str} (he : PE X e te) (hb : attributeBase e n X.env (eval e X.env) = eval e X.env := by rfl) : PE X (.Attribute e n pos) (tFldE X.K n te) := by
  refine ⟨fun pins s σ H Q I h => ?_⟩
  refine attr_of hb (thn (he.run pins s σ H _ I h) fun u s1 ⟨x, H1, I1, rx, a, C, dx, fs, v, ex, T, hno, ea, ed, l, q⟩ => ?_)
  subst ex
  obtain rfl : u = Value.ref a := rx
  obtain ⟨t1, ho⟩ := exo_at I1.hok ea
  obtain ⟨mA, hns, hr⟩ := exd_at I1.hok ed
  obtain ⟨od, hod, hl⟩ := lookIn_ns hns
  obtain ⟨u, hu, ru⟩ := RelO.some_of (v := v) (o := mA n) (by rw [← l]; exact hr n)
  have J : PySem.W.InstAt s1.heap a (PySem.W.excObj C t1 (some dx) .none) C (some od) := ⟨ho, rfl, rfl, hod⟩
  exact HandSPX.exc_get I1.kIn J T.ga T.gg T.ex (PySem.W.findObj_own T.hd hno rfl (by rw [hl, hu])) (handed_of ru) ⟨v, H1, I1.tok _, ru, q⟩
theorem call_isEr : CallR X (.builtin "isinstance") (rIsEr X.K) := by
  intro pins s σ H xs us Q I r h
  obtain ⟨x, c, C, u, b, rfl, ⟨a, rfl, hx⟩, T, k, e, q⟩ := h
  obtain ⟨u1, u2, rfl, r1, r2⟩ := vals2 r
  have e2 := k.eq r2
  subst e2
  obtain rfl : u1 = Value.ref a := r1
  obtain ⟨cd, hc, _⟩ := PySem.W.any_some T.hd
  have hcl : (PySem.W.clsIn X.K C).isSome = true := by rw [hc]; rfl
  rcases hx with ea | ⟨dx, fs, ea, ed⟩
  · obtain ⟨t1, ho⟩ := exo_at I.hok ea
    have J : PySem.W.InstAt s.heap a (PySem.W.excObj C t1 none .none) C none := ⟨ho, rfl, rfl, trivial⟩
    exact PySem.W.kia_one (PySem.W.kitx_exc hcl T.ga T.gg T.ex T.cl T.gs T.tk T.om) I.kIn J e (fun z => nomatch z) fun tk => ⟨.bl b, H, I.tok tk, rfl, q⟩
  · obtain ⟨t1, ho⟩ := exo_at I.hok ea
    obtain ⟨mA, hns, hr⟩ := exd_at I.hok ed
    obtain ⟨od, hod, hl⟩ := lookIn_ns hns
    have J : PySem.W.InstAt s.heap a (PySem.W.excObj C t1 (some dx) .none) C (some od) := ⟨ho, rfl, rfl, hod⟩
    exact PySem.W.kia_one (PySem.W.kitx_exc hcl T.ga T.gg T.ex T.cl T.gs T.tk T.om) I.kIn J e (fun z => nomatch z) fun tk => ⟨.bl b, H, I.tok tk, rfl, q⟩
end
end Cr
namespace Cr
open PySem PySem.Spec PyProof.Rows L2
theorem store_KeyError : StoreFacts "KeyError" [.type "KeyError", .type "LookupError", .type "Exception", .type "BaseException", .type "object"] "object.__setattr__" "object" where
  mro := by kernel_rfl
  slot := .of (owner := "object") (n := "__setattr__") (by rw [typeLookup_type, builtinLookup_eq_fast]; kernel_rfl) (by decide +kernel) (by decide +kernel) (by decide +kernel)
    (by first | exact .inl (by decide +kernel) | exact .inr (by decide +kernel)) (by rw [isSubtype_type]; kernel_rfl)
  entry := PySem.F.store_LookupError.entry
  kind := by decide +kernel
  split := by decide +kernel
  hasOwner := by decide +kernel
  args := PySem.F.store_LookupError.args
  passes := fun self => by kernel_rfl
end Cr
namespace Cr
open PySem
section
variable {prog : Program} {w : World} {A : Around} {E : Value → Shared → Prop} {R : Result → Shared → Prop} {h : Heap} {g : Array GenState} {d : Drawn} {t : Nat} {os : OsState}
variable {nm q : Str} {C N : Addr} {bs bm bmB rest : List Value} {hdct : Bool} {sn : List Str} {sub : List Value} {ab : Bool} {col : Option Bool} {dd : Option Addr} {k0 k1 k2 k3 k5 : Option Value} {B newId initId : String}
/-- the class is below B, and neither an AttributeError nor a NameError -/
structure Below (bm : List Value) (B : String) : Prop where
  b : (Value.ref C :: bm).contains (.type B) = true
  a : (Value.ref C :: bm).contains (.type "AttributeError") = false
  n : (Value.ref C :: bm).contains (.type "NameError") = false
/-- an exception laid by the base's __new__; __init__ is left to R -/
theorem laid_below (F : ExcBaseFacts B newId initId bmB) (Y : Below (C := C) bm B) (hC : h.get? C = some (excClassObj nm q C N bs bm hdct sn sub ab col dd k0 k1 k2 k3 k5 newId)) (hrest : rest.length ≤ sizeLine)
    (hq : R (.ok (.ret (.ref (h.objs.size + 1)))) ⟨(h.push (PySem.W.kdv_tup rest)).push (PySem.HandSPX.excO C h.objs.size), g, d, t, os⟩) :
    codeAny (model prog w) A (.call (.builtin newId) ⟨.ref C :: rest, []⟩) R ⟨h, g, d, t, os⟩ := by
  have st := F.noStar
  have en := F.ends
  have checked : ∀ {M : Model} {A : Around} {E : Value → Shared → Prop} {Q : Unit → Shared → Prop}, Q () ⟨h, g, d, t, os⟩ → wpAny M A (checkBuiltinCall newId ⟨.ref C :: rest, []⟩) Q E ⟨h, g, d, t, os⟩ := fun {M A E Q} z => by
    simp only [checkBuiltinCall, F.newKind, F.newSplit, F.newRow]
    repeat (first | refine wpAny_loadPart_at hC ?_ | (refine wpAny_isSubtype_exc hC ?_; rw [Y.b]) | refine wpAny_staticBase_exc hC ?_ | refine wpAny_madeBy_exc hC ?_ | simp only [bne_self_eq_false, Bool.false_eq_true, if_false] | wp_step)
    exact z
  refine codeAny_call_builtin_code (Code.quiet_builtin _ F.quiet) (checked ?_)
  refine codeAny_builtinAt F.entry ?_
  unfold Builtin.«BaseException.__new__»
  refine wpAt_bind ?_
  show wpAt _ _ _ (stack >>= _) _ _ _
  refine wpAt_bind (wpAt_stack fun p below => wpAt_of_wpAny ?_)
  wp_walk
  refine wpAt_of_wpAny ?_
  rw [F.owner]
  repeat (first | with_reducible refine wpAny_madeHere_exc F.canon hC ?_ | with_reducible refine wpAny_loadPart_at hC ?_ | (with_reducible refine wpAny_isSubtype_exc hC ?_; first | rw [Y.b] | rw [Y.a] | rw [Y.n]) | wp_step)
  show R _ _
  rw [Heap.size_push]
  exact hq
open PySem.HandSPX in
theorem typeCall_below (F : ExcBaseFacts B newId initId bmB) {fI : Addr} {Q : Fin → Shared → Prop} (Y : Below (C := C) bm B) (hl : rest.length ≤ sizeLine)
    (hC : h.get? C = some (excClassObj nm q C N bs bm hdct sn sub ab col dd k0 k1 k2 k3 k5 newId))
    (hi : W.Looks (model prog w) h (typeLookup (.ref C) "__init__") (some (.ref fI))) (hb : ∀ self, W.Looks (model prog w) h (bindSpecial (.ref fI) self) (.ref fI, [self]))
    (hq : codeAny (model prog w) A (.call (.ref fI) ⟨.ref (h.objs.size + 1) :: rest, []⟩) (fun r s' => match r with | .ok (.ret v) => v = .none ∧ Q (.done (.ret (.ref (h.objs.size + 1)))) s' | .ok _ => False | .error e => E e s')
      ⟨(h.push (W.kdv_tup rest)).push (excO C h.objs.size), g, d, t, os⟩) :
    wpAny (model prog w) A (Builtin.«type.__call__» ⟨.ref C :: rest, []⟩) Q E ⟨h, g, d, t, os⟩ := by
  repeat (first | with_reducible refine wpAny_loadPart_at hC ?_ | with_reducible refine wpAny_madeBy_exc hC ?_ | wp_step)
  refine laid_below F Y hC hl ?_
  show wpAny _ _ _ _ _ _
  have more : ∀ b o, h.get? b = some o → ((h.push (W.kdv_tup rest)).push (excO C h.objs.size)).get? b = some o := fun b o z => Heap.get?_push_of_some _ (Heap.get?_push_of_some _ z)
  have hC2 := more _ _ hC
  have he : ((h.push (W.kdv_tup rest)).push (excO C h.objs.size)).get? (h.objs.size + 1) = some (excO C h.objs.size) := by heap_get
  have own : (Value.ref C :: bm).contains (.ref C) = true := by simp
  unfold isInstance
  repeat (first | with_reducible refine wpAny_loadPart_at he ?_ | (with_reducible refine wpAny_isSubtype_exc hC2 ?_; rw [own]) | wp_step)
  show wpAny _ _ (typeLookup (.ref C) _) _ _ _
  refine (hi.keeps more).at (wpAny_holding (wpAny_bind (((hb (.ref (h.objs.size + 1))).keeps more).at (wpAny_bind (wpAny_call (codeAny_mono hq fun r s' z => ?_))))))
  match r, z with
  | .error e, z => exact z
  | .ok .next, z => exact False.elim z
  | .ok .brk, z => exact False.elim z
  | .ok .cont, z => exact False.elim z
  | .ok (.ret v), z =>
    obtain ⟨z1, z⟩ := z
    cases z1
    first
      | exact wpAny_pure (wpAny_pure z)
      | (wp_walk; exact z)
open PySem.HandSPX in
/-- C(..), C below B, with its own __init__ -/
theorem makes_below (F : ExcBaseFacts B newId initId bmB) {fI : Addr} (Y : Below (C := C) bm B) (hl : rest.length ≤ sizeLine)
    (hC : h.get? C = some (excClassObj nm q C N bs bm hdct sn sub ab col dd k0 k1 k2 k3 k5 newId))
    (hi : W.Looks (model prog w) h (typeLookup (.ref C) "__init__") (some (.ref fI))) (hb : ∀ self, W.Looks (model prog w) h (bindSpecial (.ref fI) self) (.ref fI, [self]))
    (hq : codeAny (model prog w) (A.under (.builtin "type.__call__" ⟨.ref C :: rest, []⟩)) (.call (.ref fI) ⟨.ref (h.objs.size + 1) :: rest, []⟩) (W.InitBack (h.objs.size + 1) R)
      ⟨(h.push (W.kdv_tup rest)).push (excO C h.objs.size), g, d, t, os⟩) :
    codeAny (model prog w) A (.call (.ref C) ⟨rest, []⟩) R ⟨h, g, d, t, os⟩ := by
  have f1 := tc_lookup
  have f2 := tc_bind (.ref C)
  have isT : (⟨h, g, d, t, os⟩ : Shared).TypeIs (.ref C) "type" := ⟨_, hC, rfl⟩
  refine codeAny_of_tree ?_
  show wpAny _ _ (callAny (.ref C) _) _ _ _
  repeat (any_goals (first | assumption | with_reducible refine wpAny_loadPart_at hC ?_ | wp_step))
  refine ⟨rfl, ?_⟩
  refine codeAny_call_builtin_at (Code.quiet_builtin _ (by decide +kernel)) entry_typeCall (wpAny_check_type_call_sub hC (typeCall_below F Y hl hC hi hb (codeAny_mono hq fun r s' z => ?_)))
  rcases r with e | (v | _ | _ | _) <;> exact z
end
end Cr
namespace Cr
open PySem PySem.Spec PyProof.Rows L2
/-- as makes_of, for a class below KeyError -/
def keyB (K : PySem.W.Frag) (C : Addr) : Bool := match K.lookup C with
  | some ⟨.type "type", _, .cls cd, sl⟩ => (match cd.mro, sl.toList with
    | .ref C' :: bm, [_, _, _, _, some (.builtin n), _] => C' == C && n == "LookupError.__new__" && !cd.hasDel && (Value.ref C :: bm).contains (.type "LookupError") && !(Value.ref C :: bm).contains (.type "AttributeError") && !(Value.ref C :: bm).contains (.type "NameError")
    | _, _ => false)
  | _ => false
theorem makes_key {K : PySem.W.Frag} {C fI : Addr} (q : keyB K C = true) (iC : PySem.W.findIn K (.ref C) "__init__" = some (some (.ref fI))) (tI : PySem.W.typeIn K (.ref fI) = some (.type "function")) : Makes K C fI := by
  intro prog w A R h g d t os rest X hl hq
  unfold keyB at q
  split at q
  · rename_i dd cd sl ho
    split at q
    · rename_i C' bm k0 k1 k2 k3 n k5 hm hs
      simp only [Bool.and_eq_true, beq_iff_eq, Bool.not_eq_true'] at q
      obtain ⟨⟨⟨⟨⟨rfl, rfl⟩, hdel⟩, hb⟩, ha⟩, hn⟩ := q
      obtain ⟨nm, bs, mro, ns, qn, hd, sn, sub, ab, col, del⟩ := cd
      dsimp only at hm hdel
      subst hm hdel
      have hsl : sl = #[k0, k1, k2, k3, some (.builtin "LookupError.__new__"), k5] := by
        obtain ⟨l⟩ := sl
        simp only at hs
        rw [hs]
      subst hsl
      exact makes_below PySem.F.excBase_LookupError ⟨hb, ha, hn⟩ hl (X _ _ ho) (PySem.W.looks_findIn X iC) (fun self => PySem.W.bind_fn X self tI) hq
    · cases q
  · cases q
end Cr

namespace Cr
open PySem PySem.Spec PyProof.Rows L2
section
variable {K : PySem.W.Frag} {σ : St} {H H' : Hp} {Q : VK} {C : Addr} {f : Str} {x v : V} {vs : List V}
/-- def __init__(self, x): self.f = x -/
def spIni (K : PySem.W.Frag) (f : Str) : Sp := fun vs H Q _ => ∃ (a C : Addr) (v : V), vs = [.ref a, v] ∧ H a = some (exo a C none) ∧ OexG K C ∧ PySem.W.findIn K (.ref C) f = some none ∧
  ∀ dx, H dx = none → dx ≠ a → Q .non (upd (upd H dx (exd dx [(f, v)])) a (exo a C (some dx)))
/-- x: an exception of C whose field f holds v -/
def ErrF (C : Addr) (f : Str) (v : V) (H : Hp) (x : V) : Prop := ∃ a dx : Addr, x = .ref a ∧ H a = some (exo a C (some dx)) ∧ H dx = some (exd dx [(f, v)])
theorem ErrF.at (h : ErrF C f v H x) : ErrAt C H x := by
  obtain ⟨a, dx, e, h1, h2⟩ := h
  exact ⟨a, e, .inr ⟨dx, _, h1, h2⟩⟩
theorem ErrAt.same (h : ErrAt C H x) (s : Same H H') : ErrAt C H' x := by
  obtain ⟨a, e, h | ⟨dx, fs, h1, h2⟩⟩ := h
  · exact ⟨a, e, .inl (s _ _ h)⟩
  · exact ⟨a, e, .inr ⟨dx, fs, s _ _ h1, s _ _ h2⟩⟩
theorem s_mkE {sp : Sp} {ta : TA} (h : ta σ H fun vs H1 => MkEQ C sp vs H1 Q) : tMkE C sp ta σ H Q := h
theorem s_mkE0 (h : MkE0Q C H Q) : tMkE0 C σ H Q := h
theorem s_fldE {te : TE} (h : te σ H fun x H1 => FldEQ K f x H1 Q) : tFldE K f te σ H Q := h
theorem u_mkE (e : vs = [v]) (T : OexG K C) (hno : PySem.W.findIn K (.ref C) f = some none) (q : ∀ x H', Same H H' → ErrF C f v H' x → Q x H') : MkEQ C (spIni K f) vs H Q := by
  subst e
  refine ⟨(by show 1 ≤ 1000; decide), fun a na => ⟨a, C, v, rfl, upd_same, T, hno, fun dx nd ne => ⟨rfl, q _ _ (fun b o hb => ?_) ⟨a, dx, rfl, upd_same, by rw [upd_ne ne]; exact upd_same⟩⟩⟩⟩
  have hba : b ≠ a := ne_of_none hb na
  have hbd : b ≠ dx := fun z => by
    rw [upd_ne ne, ← z, hb] at nd
    cases nd
  rw [upd_ne hba, upd_ne hbd, upd_ne hba]
  exact hb
theorem u_mkE0 (q : ∀ x H', Same H H' → ErrAt C H' x → Q x H') : MkE0Q C H Q := fun a na => q _ _ (same_new na) ⟨a, rfl, .inl upd_same⟩
theorem u_fldE (hx : ErrF C f v H x) (T : OexG K C) (hno : PySem.W.findIn K (.ref C) f = some none) (h : Q v H) : FldEQ K f x H Q := by
  obtain ⟨a, dx, e, h1, h2⟩ := hx
  exact ⟨a, C, dx, _, v, e, T, hno, h1, h2, by simp [List.lookup], h⟩
theorem s_isEr {c : V} {u : Value} {b : Bool} (hx : ErrAt C H x) (T : OexG K C) (k : ClsV c u) (e : PySem.W.kitOne K (.ref C) u = some b) (h : Q (.bl b) H) : rIsEr K [x, c] H Q := ⟨x, c, C, u, b, rfl, hx, T, k, e, h⟩
/-- isinstance against several classes -/
def kinB (K : PySem.W.Frag) (t : Value) (cs : List Value) (bs : List Bool) : Bool := decide (cs.map (PySem.W.kitOne K t) = bs.map some)
theorem kin_cons {t c : Value} {cs : List Value} {b : Bool} {bs : List Bool} (h : kinB K t (c :: cs) (b :: bs) = true) : PySem.W.kitOne K t c = some b ∧ kinB K t cs bs = true := by
  have z := of_decide_eq_true h
  rw [List.map_cons, List.map_cons] at z
  exact ⟨(List.cons.inj z).1, decide_eq_true (List.cons.inj z).2⟩
abbrev kcs (pe : Addr) : List Value := [.ref pe, .type "ValueError", .type "LookupError", .type "IndexError", .type "KeyError", .type "RuntimeError", .type "ZeroDivisionError"]
theorem bs_lay : ∀ (bs : List Bool), DtAll K H (bs.map V.bl) (bs.map PyData.bool) ∧ ∀ d, d ∈ bs.map PyData.bool → LayN 1 d
  | [] => ⟨.nil, fun _ h => nomatch h⟩
  | b :: bs => ⟨.cons (.bl b) (bs_lay bs).1, fun d h => (List.mem_cons.mp h).elim (fun e => by rw [e]; exact ⟨by simp only [PyData.canLay0], by simp only [PyData.depth]; omega⟩) ((bs_lay bs).2 d)⟩
theorem s_neBs {a b : Addr} {xs ys : List V} (bs : List Bool) (ha : SqL K H a xs) (hb : SqL K H b ys) (ex : xs = bs.map V.bl) (ey : ys = bs.map V.bl) (h : Q (.bl false) H) : rNeD K (.ref a) (.ref b) H Q := by
  subst ex ey
  exact s_neLr ha hb (bs_lay bs).1 (bs_lay bs).1 (bs_lay (K := K) (H := H) bs).2 (by decide) h
theorem s_eqBs {a b : Addr} {xs ys : List V} (bs : List Bool) (ha : SqL K H a xs) (hb : SqL K H b ys) (ex : xs = bs.map V.bl) (ey : ys = bs.map V.bl) (h : Q (.bl true) H) : rEqD K (.ref a) (.ref b) H Q := by
  subst ex ey
  exact s_eqLr ha hb (bs_lay bs).1 (bs_lay bs).1 (bs_lay (K := K) (H := H) bs).2 (by decide) h
theorem a2_fun {g : Nat → V} : ∀ {zs : List Nat} {ys : List V}, A2 (fun k y => y = g k) zs ys → ys = zs.map g
  | _, _, .nil => rfl
  | _, _, .cons h t => by rw [h, a2_fun t]; rfl
end
end Cr

namespace Cr
open PySem PySem.Spec PyProof.Rows L2
/-! ### comprehensions with an exact test; sets of ties -/
section
variable {K : PySem.W.Frag} {σ : St} {H : Hp} {Q : VK} {D : Ends}
theorem c_listX {α : Type} {a : Addr} {xs : List V} {zs : List α} {g : TG} {tt : TT} {te : TE} {vs : List Nat} {S : Hp → Hp → Prop} (t : α → Bool) (St : Stp H S) (P : Hp → V → α → Prop) (R : Hp → α → V → Prop) (pm : ∀ A B x z, KI A B → P A x z → P B x z) (rm : ∀ A B z y, KI A B → R A z y → R B z y)
    (hl : ∀ A, S H A → SqL K A a xs) (hx : A2 (P H) xs zs) (hz : xs.length ≤ 1000)
    (turn : ∀ x z A (Nt : V → Hp → Prop) (Nf : Hp → Prop), z ∈ zs → P A x z → S H A → (t z = true → ∀ y B, S A B → R B z y → Nt y B) → (t z = false → ∀ B, S A B → Nf B) → g x (wipe σ vs) A fun σ2 B => wipe σ2 vs = wipe σ vs ∧ tt σ2 B fun b B2 => if b = true then te σ2 B2 Nt else Nf B2)
    (fin : ∀ p ys A, S H A → H p = none → A p = some (.lst ys) → A2 (R A) (zs.filter t) ys → Q (.ref p) A) : LcR (Itl K a) g tt te vs σ H Q := by
  intro p hp
  have lx := hx.len
  refine lc_list (xs := xs) (fun i A => i ≤ xs.length ∧ S H A ∧ ∃ ys, A p = some (.lst ys) ∧ A2 (R A) ((zs.take i).filter t) ys) ⟨Nat.zero_le _, St.new _ _ _ St.s0 hp, [], upd_same, .nil⟩ (fun i A _ h => hl A h.2.1) ?_ ?_
  · rintro i x A e ⟨hi, hs, ys, h1, h2⟩
    obtain ⟨z, ez, pz⟩ := hx.at e
    have hlt : i < xs.length := (List.getElem?_eq_some_iff.mp e).1
    have et : zs.take (i + 1) = zs.take i ++ [z] := by rw [List.take_add_one, ez]; rfl
    refine turn x z A _ _ (List.mem_of_getElem? ez) (pm _ _ _ _ (St.ki _ _ hs) pz) hs (fun tz y B sb r => ?_) (fun tz B sb => ?_)
    · have e3 := St.keep _ _ _ _ hp hs sb h1
      have hl : ys.length ≤ i := by
        rw [← h2.len]
        refine Nat.le_trans (List.length_filter_le _ _) ?_
        rw [List.length_take]
        omega
      have k : KI B (upd B p (.lst (ys ++ [y]))) := ki_mut e3 rfl
      refine ⟨ys, e3, L2.small1000 (by omega), by omega, St.new _ _ _ (St.tr _ _ hs sb) hp, ys ++ [y], upd_same, ?_⟩
      rw [et, List.filter_append, List.filter_cons_of_pos tz, List.filter_nil]
      exact .snoc (rm _ _ _ _ k r) (h2.mono fun u v z => rm _ _ _ _ k (rm _ _ _ _ (St.ki _ _ sb) z))
    · refine ⟨by omega, St.tr _ _ hs sb, ys, St.keep _ _ _ _ hp hs sb h1, ?_⟩
      rw [et, List.filter_append, List.filter_cons_of_neg (by rw [tz]; decide), List.filter_nil, List.append_nil]
      exact h2.mono fun u v z => rm _ _ _ _ (St.ki _ _ sb) z
  · rintro A ⟨_, hs, ys, h1, h2⟩
    rw [lx, List.take_length] at h2
    exact fin p ys A hs hp h1 h2
theorem c_listXS {α : Type} {a : Addr} {xs : List V} {zs : List α} {g : TG} {tt : TT} {te : TE} {vs : List Nat} (t : α → Bool) (P : Hp → V → α → Prop) (R : Hp → α → V → Prop) (pm : ∀ A B x z, KI A B → P A x z → P B x z) (rm : ∀ A B z y, KI A B → R A z y → R B z y)
    (hs : SqL K H a xs) (hx : A2 (P H) xs zs) (hz : xs.length ≤ 1000)
    (turn : ∀ x z A (Nt : V → Hp → Prop) (Nf : Hp → Prop), z ∈ zs → P A x z → Same H A → (t z = true → ∀ y B, Same A B → R B z y → Nt y B) → (t z = false → ∀ B, Same A B → Nf B) → g x (wipe σ vs) A fun σ2 B => wipe σ2 vs = wipe σ vs ∧ tt σ2 B fun b B2 => if b = true then te σ2 B2 Nt else Nf B2)
    (fin : ∀ p ys A, Same H A → H p = none → A p = some (.lst ys) → A2 (R A) (zs.filter t) ys → Q (.ref p) A) : LcR (Itl K a) g tt te vs σ H Q :=
  c_listX t (stp_same H) P R pm rm (fun _ s => s.seq hs) hx hz turn fin
end
/-! sorted lists of texts: one order only -/
theorem rising_pw : ∀ (p : Str) (l : List Str), risingS p l = true → (p :: l).Pairwise (fun a b => ltCps b.cps.toList a.cps.toList = false)
  | p, [], _ => List.pairwise_singleton _ _
  | p, x :: r, h => by
    have h0 : (!ltCps x.cps.toList p.cps.toList && risingS x r) = true := h
    rw [Bool.and_eq_true, Bool.not_eq_true'] at h0
    have ih := rising_pw x r h0.2
    refine List.pairwise_cons.mpr ⟨fun y hy => ?_, ih⟩
    rcases List.mem_cons.mp hy with rfl | hy
    · exact h0.1
    · have h2 := (List.pairwise_cons.mp ih).1 y hy
      have h1 := h0.1
      rw [ltCps_eq, decide_eq_false_iff_not, List.not_lt] at h1 h2 ⊢
      exact List.le_trans h1 h2
theorem sortedS_pw : ∀ (l : List Str), sortedS l = true → l.Pairwise (fun a b => ltCps b.cps.toList a.cps.toList = false)
  | [], _ => .nil
  | x :: r, h => rising_pw x r h
theorem cps_inj {x y : Str} (h : x.cps.toList = y.cps.toList) : x = y := by
  cases x; cases y
  simp only [PySem.Str.mk.injEq]
  exact Array.toList_inj.mp h
theorem sortedS_uniq : ∀ {l m : List Str}, l.Perm m → sortedS l = true → sortedS m = true → l = m := fun p h1 h2 =>
  List.Perm.eq_of_pairwise (le := fun a b => ltCps b.cps.toList a.cps.toList = false) (fun a b _ _ u v => by
    rw [ltCps_eq, decide_eq_false_iff_not, List.not_lt] at u v
    exact cps_inj (List.le_antisymm u v)) (sortedS_pw _ h1) (sortedS_pw _ h2) p
/-! ### who is tied to whom -/
abbrev Tie := Str × Str
def stepP (S : Str → Prop) (t : Tie) : Str → Prop := fun x => S x ∨ ((S t.1 ∨ S t.2) ∧ (x = t.1 ∨ x = t.2))
def passP (T : List Tie) (S : Str → Prop) : Str → Prop := T.foldl stepP S
theorem step_ext {S : Str → Prop} {t : Tie} {x : Str} (h : S x) : stepP S t x := .inl h
theorem pass_ext : ∀ (T : List Tie) (S : Str → Prop) {x : Str}, S x → passP T S x
  | [], _, _, h => h
  | t :: T, S, _, h => pass_ext T (stepP S t) (step_ext h)
theorem step_flat {S : Str → Prop} {t : Tie} (h : S t.1 ↔ S t.2) : stepP S t = S := by
  funext x
  refine propext ⟨fun z => ?_, .inl⟩
  rcases z with z | ⟨a, rfl | rfl⟩
  · exact z
  · rcases a with a | a
    · exact a
    · exact h.mpr a
  · rcases a with a | a
    · exact h.mp a
    · exact a
theorem pass_flat : ∀ {T : List Tie} {S : Str → Prop}, (∀ t, t ∈ T → (S t.1 ↔ S t.2)) → passP T S = S
  | [], _, _ => rfl
  | t :: T, S, h => by
    show passP T (stepP S t) = S
    rw [step_flat (h t List.mem_cons_self)]
    exact pass_flat fun u hu => h u (List.mem_cons_of_mem _ hu)
theorem pass_both : ∀ {T : List Tie} {S : Str → Prop} {t : Tie}, t ∈ T → (S t.1 ∨ S t.2) → passP T S t.1 ∧ passP T S t.2
  | u :: T, S, t, ht, h => by
    rcases List.mem_cons.mp ht with rfl | ht
    · exact ⟨pass_ext T _ (.inr ⟨h, .inl rfl⟩), pass_ext T _ (.inr ⟨h, .inr rfl⟩)⟩
    · exact pass_both (T := T) (S := stepP S u) ht (h.imp step_ext step_ext)
open Classical in
noncomputable def cntP (T : List Tie) (S : Str → Prop) : Nat := T.countP fun t => decide (S t.1 ∧ S t.2)
theorem countP_lt {α : Type} {p q : α → Bool} : ∀ {l : List α}, (∀ x, x ∈ l → p x = true → q x = true) → (∃ x, x ∈ l ∧ q x = true ∧ p x = false) → l.countP p < l.countP q
  | [], _, ⟨_, h, _⟩ => nomatch h
  | y :: l, h, ⟨x, hx, hq, hp⟩ => by
    have hm : l.countP p ≤ l.countP q := List.countP_mono_left fun z hz => h z (List.mem_cons_of_mem _ hz)
    rcases List.mem_cons.mp hx with rfl | hx
    · rw [List.countP_cons_of_pos hq, List.countP_cons_of_neg (by rw [hp]; decide)]
      omega
    · have ih := countP_lt (fun z hz => h z (List.mem_cons_of_mem _ hz)) ⟨x, hx, hq, hp⟩
      have h0 := h y List.mem_cons_self
      rw [List.countP_cons, List.countP_cons]
      cases e : p y with
      | true => rw [h0 e]; simp only [if_true]; omega
      | false => simp only [Bool.false_eq_true, if_false]; split <;> omega
theorem cnt_le (T : List Tie) (S : Str → Prop) : cntP T S ≤ T.length := List.countP_le_length
open Classical in
theorem cnt_lt {T : List Tie} {S : Str → Prop} (h : passP T S ≠ S) : cntP T S < cntP T (passP T S) := by
  have : ∃ t, t ∈ T ∧ ¬ (S t.1 ↔ S t.2) := Classical.byContradiction fun z => h (pass_flat fun t ht => Classical.byContradiction fun y => z ⟨t, ht, y⟩)
  obtain ⟨t, ht, hn⟩ := this
  have h1 : S t.1 ∨ S t.2 := Classical.byContradiction fun z => hn ⟨fun a => absurd (.inl a) z, fun a => absurd (.inr a) z⟩
  have h2 : ¬ (S t.1 ∧ S t.2) := fun z => hn ⟨fun _ => z.2, fun _ => z.1⟩
  refine countP_lt (fun u _ hu => ?_) ⟨t, ht, decide_eq_true (pass_both ht h1), decide_eq_false h2⟩
  have := of_decide_eq_true hu
  exact decide_eq_true ⟨pass_ext T S this.1, pass_ext T S this.2⟩
def iterP (T : List Tie) : Nat → (Str → Prop) → Str → Prop
  | 0, S => S
  | n + 1, S => passP T (iterP T n S)
theorem iter_cnt (T : List Tie) (S : Str → Prop) : ∀ n, passP T (iterP T n S) = iterP T n S ∨ n ≤ cntP T (iterP T n S)
  | 0 => .inr (Nat.zero_le _)
  | n + 1 => by
    by_cases h : passP T (iterP T n S) = iterP T n S
    · exact .inl (by show passP T (passP T (iterP T n S)) = passP T (iterP T n S); rw [h, h])
    · have := cnt_lt h
      rcases iter_cnt T S n with z | z
      · exact absurd z h
      · exact .inr (by show n + 1 ≤ cntP T (passP T (iterP T n S)); omega)
theorem cnt_all {T : List Tie} {S : Str → Prop} (h : T.length ≤ cntP T S) : passP T S = S := by
  refine Classical.byContradiction fun z => ?_
  have h1 := cnt_lt z
  have h2 := cnt_le T (passP T S)
  omega
theorem iter_done (T : List Tie) (S : Str → Prop) : passP T (iterP T T.length S) = iterP T T.length S := by
  rcases iter_cnt T S T.length with h | h
  · exact h
  · exact cnt_all h
theorem iter_more (T : List Tie) (S : Str → Prop) : ∀ n, T.length ≤ n → iterP T n S = iterP T T.length S := fun n h => by
  obtain ⟨k, rfl⟩ : ∃ k, n = T.length + k := ⟨n - T.length, by omega⟩
  clear h
  induction k with
  | zero => rfl
  | succ k ih => show passP T (iterP T (T.length + k) S) = _; rw [ih]; exact iter_done T S
theorem nodup_len {α : Type} [DecidableEq α] : ∀ {l m : List α}, l.Nodup → (∀ x, x ∈ l → x ∈ m) → l.length ≤ m.length
  | [], _, _, _ => Nat.zero_le _
  | x :: l, m, h, s => by
    have hx := s x List.mem_cons_self
    obtain ⟨h1, h2⟩ := List.nodup_cons.mp h
    have := nodup_len (l := l) (m := m.erase x) h2 fun y hy => (List.mem_erase_of_ne (fun e => h1 (by rw [← e]; exact hy))).mpr (s y (List.mem_cons_of_mem _ hy))
    rw [List.length_erase_of_mem hx] at this
    have : 1 ≤ m.length := List.length_pos_of_mem hx
    rw [List.length_cons]; omega
theorem nodup_perm {α : Type} [DecidableEq α] {l m : List α} (h1 : l.Nodup) (h2 : m.Nodup) (h : ∀ x, x ∈ l ↔ x ∈ m) : l.Perm m :=
  List.perm_iff_count.mpr fun x => by rw [h1.count, h2.count]; simp only [h x]
end Cr
namespace Cr
open PySem PySem.Spec PyProof.Rows L2
/-! ### dict displays; x in D of a dict with text keys -/
def DispR (p : Addr) (Q : VK) : List (V × V) → Hp → Prop := fun ps H2 => H2 p = some (.dK []) ∧ ∃ kvs : List (Key × V), ps = kvs.map (fun kv => (kV kv.1, kv.2)) ∧ kvs.length ≤ 15 ∧ Q (.ref p) (upd H2 p (.dK (mergeK [] kvs)))
/-- texts as keys, each with True -/
def keysV (ks : List Str) : List (Key × V) := ks.map fun x => ((.inr x : Key), V.bl true)
def insK (ks : List Str) (x : Str) : List Str := if x ∈ ks then ks else ks ++ [x]
theorem valV_keys (s : Str) : ∀ ks : List Str, (valV (keysV ks) (.inr s)).isSome = decide (s ∈ ks)
  | [] => by rw [decide_eq_false (fun h => nomatch h)]; rfl
  | k :: ks => by
    show (valV ((((.inr k : Key)), V.bl true) :: keysV ks) (.inr s)).isSome = _
    by_cases h : k = s
    · rw [valV_pos (by rw [h]), decide_eq_true (List.mem_cons.mpr (.inl h.symm))]; rfl
    · rw [valV_neg (fun z => h (Sum.inr.inj z)), valV_keys s ks]
      exact decide_eq_decide.mpr ⟨fun z => List.mem_cons_of_mem _ z, fun z => (List.mem_cons.mp z).elim (fun e => absurd e.symm h) id⟩
theorem putK_keys (ks : List Str) (s : Str) : putK (keysV ks) (.inr s) (V.bl true) = keysV (insK ks s) := by
  unfold putK insK
  rw [valV_any, valV_keys]
  by_cases h : s ∈ ks
  · rw [decide_eq_true h, if_pos rfl, if_pos h]
    unfold keysV
    rw [List.map_map]
    refine List.map_congr_left fun x _ => ?_
    show (if ((.inr x : Key)) = .inr s then _ else _) = _
    split <;> rfl
  · rw [decide_eq_false h, if_neg (by decide), if_neg h]
    unfold keysV
    rw [List.map_append]
    rfl
theorem mem_insK {ks : List Str} {x y : Str} : y ∈ insK ks x ↔ y ∈ ks ∨ y = x := by
  unfold insK
  split
  · rename_i h
    exact ⟨.inl, fun z => z.elim id fun e => by rw [e]; exact h⟩
  · rw [List.mem_append, List.mem_singleton]
theorem nodup_insK {ks : List Str} {x : Str} (h : ks.Nodup) : (insK ks x).Nodup := by
  unfold insK
  split
  · exact h
  · rename_i n
    exact List.nodup_append.mpr ⟨h, List.nodup_cons.mpr ⟨List.not_mem_nil, .nil⟩, fun a ha b hb e => n (by rw [List.mem_singleton] at hb; rw [← hb, ← e]; exact ha)⟩
def tieC (ks : List Str) (t : Tie) : List Str := if t.1 ∈ ks ∨ t.2 ∈ ks then insK (insK ks t.1) t.2 else ks
theorem tieC_mem (ks : List Str) (t : Tie) : (fun x => x ∈ tieC ks t) = stepP (fun x => x ∈ ks) t := by
  funext x
  refine propext ?_
  unfold tieC stepP
  split
  · rename_i h
    rw [mem_insK, mem_insK]
    exact ⟨fun z => z.elim (fun z => z.imp id fun e => ⟨h, .inl e⟩) fun e => .inr ⟨h, .inr e⟩, fun z => z.elim (fun z => .inl (.inl z)) fun z => z.2.elim (fun e => .inl (.inr e)) .inr⟩
  · rename_i h
    exact ⟨.inl, fun z => z.elim id fun z => absurd z.1 h⟩
theorem tieC_nodup {ks : List Str} {t : Tie} (h : ks.Nodup) : (tieC ks t).Nodup := by
  unfold tieC
  split
  · exact nodup_insK (nodup_insK h)
  · exact h
theorem fold_mem (T : List Tie) : ∀ ks : List Str, (fun x => x ∈ T.foldl tieC ks) = passP T (fun x => x ∈ ks) := by
  induction T with
  | nil => intro ks; rfl
  | cons t T ih => intro ks; show (fun x => x ∈ T.foldl tieC (tieC ks t)) = passP T (stepP (fun x => x ∈ ks) t); rw [ih, tieC_mem]
theorem fold_nodup (T : List Tie) : ∀ ks : List Str, ks.Nodup → (T.foldl tieC ks).Nodup := by
  induction T with
  | nil => intro ks h; exact h
  | cons t T ih => intro ks h; exact ih _ (tieC_nodup h)
def keysC (T : List Tie) (h : Str) : Nat → List Str
  | 0 => [h]
  | n + 1 => T.foldl tieC (keysC T h n)
/-- whom h is tied to -/
def CompP (T : List Tie) (h : Str) : Str → Prop := iterP T T.length (fun x => x = h)
theorem keysC_mem (T : List Tie) (h : Str) : ∀ n, (fun x => x ∈ keysC T h n) = iterP T n (fun x => x = h)
  | 0 => by funext x; exact propext List.mem_singleton
  | n + 1 => by show (fun x => x ∈ T.foldl tieC (keysC T h n)) = passP T (iterP T n _); rw [fold_mem, keysC_mem T h n]
theorem keysC_nodup (T : List Tie) (h : Str) : ∀ n, (keysC T h n).Nodup
  | 0 => List.nodup_cons.mpr ⟨List.not_mem_nil, .nil⟩
  | n + 1 => fold_nodup T _ (keysC_nodup T h n)
/-- the names of ties -/
def namesT (T : List Tie) : List Str := T.flatMap fun t => [t.1, t.2]
theorem namesT_len : ∀ T : List Tie, (namesT T).length = 2 * T.length
  | [] => rfl
  | t :: T => by show ([t.1, t.2] ++ namesT T).length = _; rw [List.length_append, namesT_len T]; show 2 + 2 * T.length = 2 * (T.length + 1); omega
theorem tieC_sub {ks : List Str} {t : Tie} {x : Str} (h : x ∈ tieC ks t) : x ∈ ks ∨ x = t.1 ∨ x = t.2 := by
  have h2 : (fun x => x ∈ tieC ks t) x := h
  rw [tieC_mem] at h2
  exact h2.imp id And.right
theorem fold_sub : ∀ (T : List Tie) (ks : List Str) {x : Str}, x ∈ T.foldl tieC ks → x ∈ ks ∨ x ∈ namesT T
  | [], _, _, h => .inl h
  | t :: T, ks, x, h => by
    rcases fold_sub T (tieC ks t) h with z | z
    · exact (tieC_sub z).imp id fun e => List.mem_append_left _ (by rcases e with rfl | rfl <;> simp)
    · exact .inr (List.mem_append_right _ z)
theorem keysC_sub (T : List Tie) (h : Str) : ∀ n, ∀ x, x ∈ keysC T h n → x ∈ h :: namesT T
  | 0, x, z => by rw [List.mem_singleton.mp z]; exact List.mem_cons_self
  | n + 1, x, z => by
    rcases fold_sub T _ z with y | y
    · exact keysC_sub T h n x y
    · exact List.mem_cons_of_mem _ y
theorem part_sub (T : List Tie) (h : Str) (n i : Nat) : ∀ x, x ∈ (T.take i).foldl tieC (keysC T h n) → x ∈ h :: namesT T := fun x z => by
  rcases fold_sub _ _ z with y | y
  · exact keysC_sub T h n x y
  · refine List.mem_cons_of_mem _ ?_
    obtain ⟨t, ht, hx⟩ := List.mem_flatMap.mp y
    exact List.mem_flatMap.mpr ⟨t, List.mem_of_mem_take ht, hx⟩
theorem part_len (T : List Tie) (h : Str) (n i : Nat) : ((T.take i).foldl tieC (keysC T h n)).length ≤ 1 + 2 * T.length := by
  have := nodup_len (fold_nodup (T.take i) _ (keysC_nodup T h n)) (part_sub T h n i)
  rw [List.length_cons, namesT_len] at this
  omega
theorem keysC_len (T : List Tie) (h : Str) (n : Nat) : (keysC T h n).length ≤ 1 + 2 * T.length := part_len T h n 0
section
variable {K : PySem.W.Frag} {σ : St} {H : Hp} {Q : VK} {D : Ends}
theorem s_disp {trs : List (TE × TE)} (h : ∀ p, H p = none → tPairs trs σ (upd H p (.dK [])) (DispR p Q)) : tDisp trs σ H Q := h
theorem s_pairs {tk tv : TE} {r : List (TE × TE)} {N : List (V × V) → Hp → Prop} (h : tk σ H fun x H1 => tv σ H1 fun y H2 => tPairs r σ H2 fun ps H3 => N ((x, y) :: ps) H3) : tPairs ((tk, tv) :: r) σ H N := h
theorem s_pairs0 {N : List (V × V) → Hp → Prop} (h : N [] H) : tPairs [] σ H N := h
theorem s_dispS {p : Addr} {s : Str} {y : V} (hp : H p = some (.dK [])) (h : Q (.ref p) (upd H p (.dK [(.inr s, y)]))) : DispR p Q [(.str s, y)] H := ⟨hp, [(.inr s, y)], rfl, by show 1 ≤ 15; decide, h⟩
theorem s_dinS {d : Addr} {s : Str} {kvs : List (Key × V)} {N : Bool → Prop} (e : H d = some (.dK kvs)) (n : N (valV kvs (.inr s)).isSome) : DInQ (.str s) (.ref d) H N := ⟨d, _, rfl, DGet.k (k := .inr s) e, n⟩
def rSortDK : List V → Hp → VK → Prop := fun xs H Q => ∃ (a : Addr) (kvs : List (Key × V)) (ks : List Str), xs = [.ref a] ∧ Rd H a (.dK kvs) ∧ kvs.map (·.1) = ks.map Sum.inr ∧ ks.length < 64 ∧
    ∀ ys p, ys.Perm ks → sortedS ys = true → H p = none → Q (.ref p) (upd H p (.lst (ys.map V.str)))
theorem call_sortDK {X : Cx} (hc : X.calm = true) : CallR X (.builtin "sorted") rSortDK := call_sortedD hc
theorem s_sortDK {a : Addr} {ks : List Str} (e : H a = some (.dK (keysV ks))) (l : ks.length < 64) (h : ∀ ys p, ys.Perm ks → sortedS ys = true → H p = none → Q (.ref p) (upd H p (.lst (ys.map V.str)))) : rSortDK [.ref a] H Q :=
  ⟨a, _, ks, rfl, .inl e, by unfold keysV; rw [List.map_map]; rfl, l, h⟩
end
end Cr
namespace Cr
open PySem PySem.Spec PyProof.Rows L2
/-! ### own errors with a field, raised and caught -/
theorem xfG {K : PySem.W.Frag} {C : Addr} (T : OexG K C) : XfC K C := ⟨T.ga, T.gg, T.ex, T.hd⟩
section
variable {X : Cx} {CX : CXT} {k n : Nat} {x f0 : Str} {C fI f : Addr} {fd : FuncData} {ps ks : List Str} {sp : Sp} {e : Expr} {es : List Expr} {ta t tk : TA} {p pos : Pos} {E : St → XK} {kws : List Keyword} {g : List Value → List Value → List Value} {gV : List V → List V → List V}
theorem pmk_mk (M : Makes X.K C fI) (kC : PySem.W.keepIn X.K (.ref C) = true) (R : Raises X (.ref C)) (F1 : FnOk X.prog X.w X.K X.mg X.base CX k fI fd ps sp) (hr : Room (k + 1) X.A) (hb : Binds X.K fd ps []) (hx : Passes CX X (fun _ _ _ => False)) (hg : Gl X x) (hm : X.mg x = some (.ref C)) (ha : PA X (e :: es) ta)
    (hdb : (x == ("__debug__" : Str)) = false := by decide) (he : starEach (e :: es) X.env = (false, eval e X.env) :: starEach es X.env := by rfl) (hpl : (backTo pos (starEach es X.env)).any (·.1) = false := by rfl) :
    PMk X (.Call (.Name x p) (e :: es) [] pos) (tMkO C sp [] ta) := by
  intro pins s σ H Q I h
  refine wpAny_Call_Name_kw (ld_glob I hg hm ?_ hdb)
  refine PySem.W.callWith_K (h₀ := X.base) I.ok.mod.kin kC (thn (ha.run pos pins s σ H _ I h) fun us s1 ⟨vs, H1, I1, r1, hz, q1⟩ => ⟨I1.kIn, ?_⟩) he hpl
  show wpAny _ _ (call (.ref C) us) _ _ _
  obtain ⟨hp, g, dr, tk, os⟩ := s1
  have hsz : hp.objs.size ≤ hp.objs.size + 1 := Nat.le_succ _
  have hq := q1 (hp.objs.size + 1) (I1.hok.fresh hsz)
  rw [List.append_nil] at hq
  have kk : ∀ b o, hp.get? b = some o → ((hp.push (PySem.W.kdv_tup us)).push (PySem.HandSPX.excO C hp.objs.size)).get? b = some o := fun b o e => Heap.get?_push_of_some _ (Heap.get?_push_of_some _ e)
  have hget : ((hp.push (PySem.W.kdv_tup us)).push (PySem.HandSPX.excO C hp.objs.size)).get? (hp.objs.size + 1) = some (PySem.HandSPX.excO C hp.objs.size) := by heap_get
  have I2 : Inv X pins σ (upd H1 (hp.objs.size + 1) (exo (hp.objs.size + 1) C none)) ⟨(hp.push (PySem.W.kdv_tup us)).push (PySem.HandSPX.excO C hp.objs.size), g, dr, tk, os⟩ :=
    I1.laid (t' := tk) (a := hp.objs.size + 1) (o := exo (hp.objs.size + 1) C none) (h' := (hp.push (PySem.W.kdv_tup us)).push (PySem.HandSPX.excO C hp.objs.size)) kk hsz (exo_ok hget)
  have r2 : Vals (V.ref (hp.objs.size + 1) :: vs) (Value.ref (hp.objs.size + 1) :: us) := .cons rfl r1
  have hl : (Value.ref (hp.objs.size + 1) :: us).length = ps.length := by
    rw [← r2.length]
    exact F1.len _ _ _ _ hq
  have hus : us.length ≤ sizeLine := by
    rw [← Paired.length r1, sizeLine_eq]
    omega
  have hbb := hb _ (Value.ref (hp.objs.size + 1) :: us) I2.kIn (by rw [List.append_nil]; exact hl)
  rw [List.append_nil] at hbb
  refine wpAny_call (M I1.kIn hus (codeAny_mono (F1.run _ X.stack _ _ ⟨Value.ref (hp.objs.size + 1) :: us, []⟩ (Value.ref (hp.objs.size + 1) :: us) _ _ (fun _ _ _ => False) (hr.make C us []) (I2.env0.make C us []) hbb r2 hq) fun r s' hq' => ?_))
  cases r with
  | error er => exact hx pins σ _ _ er s' I2 hq'
  | ok fl =>
    cases fl with
    | ret u =>
      obtain ⟨v, H2, os2, bare2, un2, hok2, rv, ev, d, fs, ea, ed, hd1, q2⟩ := hq'
      subst ev
      obtain ⟨h2, g2, d2, t2, os'⟩ := s'
      exact ⟨rv, mk_end R I1 hsz kk un2 hok2 os2 bare2 ea ed hd1 q2⟩
    | next => exact False.elim hq'
    | brk => exact False.elim hq'
    | cont => exact False.elim hq'
theorem run_fnNS {pins : List (Addr × Obj)} {σ : St} {H : Hp} {s : Shared} {Q : VK} {us ws : List Value} {vs zs : List V} (F : FnOk X.prog X.w X.K X.mg X.base CX k f fd ps sp) (hr : Room k X.A) (hb : KBn X.K fd ps n ks g gV) (hx : PassesAt CX X σ (E σ))
    (I : Inv X pins σ H s) (r : Vals vs us) (rz : Vals zs ws) (l1 : vs.length = n) (l2 : zs.length = ks.length) (h : sp (gV vs zs) H Q (E σ)) : wpAny (model X.prog X.w) X.A (call (.ref f) us (ks.zip ws)) (EP X pins σ Q) X.xe s := by
  have r2 := hb.rel r rz
  refine wpAny_call (codeAny_mono (F.run X.A X.stack s H ⟨us, ks.zip ws⟩ (g us ws) (gV vs zs) Q (E σ) hr I.env0 (hb.to s us ws I.kIn (r.length.symm.trans l1) (rz.length.symm.trans l2)) r2 h) fun r s' hq => ?_)
  cases r with
  | error e => exact hx pins H s e s' I hq
  | ok fl =>
    cases fl with
    | ret u => exact I.after hq
    | next => exact False.elim hq
    | brk => exact False.elim hq
    | cont => exact False.elim hq
def tCallNS (n m : Nat) (sp : Sp) (gV : List V → List V → List V) (E : St → XK) (t tk : TA) : TE := fun σ H Q => t σ H fun vs H1 => tk σ H1 fun zs H2 => vs.length = n ∧ zs.length = m ∧ sp (gV vs zs) H2 Q (E σ)
theorem pe_callNS (F : FnOk X.prog X.w X.K X.mg X.base CX k f fd ps sp) (hr : Room k X.A) (hg : Gl X x) (hm : X.mg x = some (.ref f)) (hk : PySem.W.keepIn X.K (.ref f) = true) (hb : KBn X.K fd ps n ks g gV) (hx : ∀ σ, PassesAt CX X σ (E σ))
    (ha : PA X (e :: es) t) (hkw : PK X kws tk) (hall : (backToKw pos (keywordEach kws X.env)).all (·.1.isSome) = true := by rfl) (hks : (backToKw pos (keywordEach kws X.env)).filterMap (·.1) = ks := by rfl)
    (hdb : (x == ("__debug__" : Str)) = false := by decide) (he : starEach (e :: es) X.env = (false, eval e X.env) :: starEach es X.env := by rfl)
    (hpl : ((backTo pos (starEach (e :: es) X.env)).any (·.1) || (backToKw pos (keywordEach kws X.env)).any (·.1.isNone)) = false := by rfl) :
    PE X (.Call (.Name x p) (e :: es) kws pos) (tCallNS n ks.length sp gV E t tk) := by
  refine ⟨fun pins s σ H Q I h => ?_⟩
  refine wpAny_Call_Name_kw (ld_glob I hg hm ?_ hdb)
  refine PySem.W.callWith_KW (h₀ := X.base) I.ok.mod.kin hk hall (thn (ha.run pos pins s σ H _ I h) fun us s1 ⟨vs, H1, I1, r, q⟩ => ?_) hpl he
  refine thn (hkw.run pos pins s1 σ H1 _ I1 q) fun ws s2 ⟨zs, H2, I2, rz, l1, l2, q2⟩ => ⟨I2.kIn, ?_⟩
  rw [hks]
  exact run_fnNS F hr hb (hx σ) I2 r rz l1 l2 q2
end
/-- isinstance(e, c) in the suite that holds e, an own error with a dict -/
def rIsD (K : PySem.W.Frag) (a : Addr) (cls : Value) (d : Option Addr) : List V → Hp → VK → Prop := fun xs H Q => ∃ (c : V) (C dd : Addr) (fs : List (Str × V)) (u : Value) (b : Bool), xs = [.ref a, c] ∧ cls = .ref C ∧ d = some dd ∧ H dd = some (.xd fs) ∧ OexG K C ∧ ClsV c u ∧ PySem.W.kitOne K (.ref C) u = some b ∧ Q (.bl b) H
theorem call_isEd {X : Cx} {a : Addr} {oe : Obj} {pn : List (Addr × Obj)} {cls : Value} {d : Option Addr} (hz : Zc cls d oe) (hf : ∃ vs, oe.data = .fields vs) : CallR (X.suite a ((a, oe) :: pn)) (.builtin "isinstance") (rIsD X.K a cls d) := by
  intro pins s σ H xs us Q I r h
  obtain ⟨c, C, dd, fs, u, b, rfl, rfl, rfl, ea, T, k, e, q⟩ := h
  obtain ⟨u1, u2, rfl, r1, r2⟩ := vals2 r
  have e2 := k.eq r2
  subst e2
  obtain rfl : u1 = Value.ref a := r1
  obtain ⟨ha, _⟩ := I.pin (a, oe) (List.mem_append_left _ List.mem_cons_self)
  obtain ⟨vs, hd⟩ := hf
  have hx : ObjOk X.prog X.w H s.heap dd (.xd fs) := I.hok dd _ ea
  obtain ⟨mA, hns, hr⟩ := hx
  obtain ⟨od, ho, hl⟩ := lookIn_ns hns
  have J : PySem.W.InstAt s.heap a oe C (some od) := ⟨ha, hz.1, by unfold PySem.W.notCls; rw [hd] <;> rfl, by rw [hz.2]; exact ho⟩
  obtain ⟨cd, hc, _⟩ := PySem.W.any_some T.hd
  have hcl : (PySem.W.clsIn X.K C).isSome = true := by rw [hc]; rfl
  exact PySem.W.kia_one (PySem.W.kitx_exc hcl T.ga T.gg T.ex T.cl T.gs T.tk T.om) I.kIn J e (fun z => nomatch z) fun tk => ⟨.bl b, H, I.tok tk, rfl, q⟩
def XfQ (a : Addr) (cls : Value) (d : Option Addr) (C : Addr) (f : Str) (x : V) (H1 : Hp) (Q : VK) : Prop := x = .ref a ∧ cls = .ref C ∧ ∃ (dd : Addr) (fs : List (Str × V)) (v : V), d = some dd ∧ H1 dd = some (.xd fs) ∧ fs.lookup f = some v ∧ Q v H1
def MkOQ (C : Addr) (sp : Sp) (vs : List V) (H1 : Hp) (Q : XK) : Prop := vs.length ≤ 1000 ∧ ∀ a, H1 a = none → sp (.ref a :: (vs ++ [])) (upd H1 a (exo a C none))
  (fun v H2 => v = .non ∧ ∃ (d : Addr) (fs : List (Str × V)), H2 a = some (exo a C (some d)) ∧ H2 d = some (exd d fs) ∧ H1 d = none ∧ Q (.ref C) (some d) (upd (del H2 a) d (.xd fs))) (fun _ _ _ => False)
section
variable {K : PySem.W.Frag} {σ : St} {H : Hp} {Q : VK} {D : Ends}
theorem s_xf {a : Addr} {cls : Value} {d : Option Addr} {C : Addr} {f : Str} {te : TE} (h : te σ H fun x H1 => XfQ a cls d C f x H1 Q) : tXf a cls d C f te σ H Q := h
theorem s_xf1 {a C dd : Addr} {f : Str} {v : V} (e : H dd = some (.xd [(f, v)])) (h : Q v H) : XfQ a (.ref C) (some dd) C f (.ref a) H Q := ⟨rfl, rfl, dd, _, v, rfl, e, by simp [List.lookup], h⟩
theorem s_isEd {a C dd : Addr} {fs : List (Str × V)} {c : V} {u : Value} {b : Bool} (e : H dd = some (.xd fs)) (T : OexG K C) (k : ClsV c u) (kq : PySem.W.kitOne K (.ref C) u = some b) (h : Q (.bl b) H) : rIsD K a (.ref C) (some dd) [.ref a, c] H Q := ⟨c, C, dd, fs, u, b, rfl, rfl, rfl, e, T, k, kq, h⟩
theorem s_mkO {C : Addr} {sp : Sp} {ta : TA} {N : XK} (h : ta σ H fun vs H1 => MkOQ C sp vs H1 N) : tMkO C sp [] ta σ H N := h
theorem s_mkO1 {C : Addr} {f : Str} {v : V} {N : XK} (T : OexG K C) (hno : PySem.W.findIn K (.ref C) f = some none) (h : ∀ dx, H dx = none → N (.ref C) (some dx) (upd H dx (.xd [(f, v)]))) : MkOQ C (spIni K f) [v] H N := by
  refine ⟨by show 1 ≤ 1000; decide, fun a ha => ⟨a, C, v, rfl, upd_same, T, hno, fun dx hdx ne => ⟨rfl, dx, [(f, v)], upd_same, by rw [upd_ne ne]; exact upd_same, by rw [upd_ne ne] at hdx; exact hdx, ?_⟩⟩⟩
  rw [upd_ne ne] at hdx
  have e : upd (del (upd (upd (upd H a (exo a C none)) dx (exd dx [(f, v)])) a (exo a C (some dx))) a) dx (.xd [(f, v)]) = upd H dx (.xd [(f, v)]) := by
    funext b
    by_cases h1 : b = dx
    · subst h1; rw [upd_same, upd_same]
    · rw [upd_ne h1, upd_ne h1]
      by_cases h2 : b = a
      · subst h2; rw [del_same, ha]
      · rw [del_ne h2, upd_ne h2, upd_ne h1, upd_ne h2]
  rw [e]
  exact h dx hdx
theorem s_callNS {n m : Nat} {sp : Sp} {gV : List V → List V → List V} {E : St → XK} {t tk : TA} (h : t σ H fun vs H1 => tk σ H1 fun zs H2 => vs.length = n ∧ zs.length = m ∧ sp (gV vs zs) H2 Q (E σ)) : tCallNS n m sp gV E t tk σ H Q := h
end
/-- whole numbers told from other data -/
def plainD (e : PyData) : Prop := (∃ i, e = .int i) ∨ (∃ b, e = .bool b) ∨ e = .none ∨ (∃ s, e = .str s) ∨ ∃ ds, e = .tuple ds
def wholeB (lo hi : Int) : PyData → Bool
  | .int i => decide (lo ≤ i ∧ i ≤ hi)
  | _ => false
def spWh (K : PySem.W.Frag) (lo hi : Int) : Sp := fun vs H Q _ => ∃ x e, vs = [x] ∧ Dt K H x e ∧ plainD e ∧ ∀ H', Same H H' → Q (.bl (wholeB lo hi e)) H'
theorem spWh_ok {K : PySem.W.Frag} {lo hi : Int} : ∀ vs H Q E, spOk K (okNum lo hi) vs H Q E → spWh K lo hi vs H Q E := fun vs H Q E h => by
  obtain ⟨x, e, rfl, hx, ⟨i, rfl, h0, h1⟩, q⟩ := h
  exact ⟨x, _, rfl, hx, .inl ⟨i, rfl⟩, fun H' s => by
    rw [show wholeB lo hi (.int i) = true from decide_eq_true ⟨h0, h1⟩]
    exact q H' s⟩
section
variable {K : PySem.W.Frag} {H : Hp} {Q : VK}
theorem s_isNI (h : Q (.bl false) H) : rIsi K [.non, .ty "int"] H Q := s_isTy (.base .non) kit_ni h
theorem s_isTI {x : V} {ds : List PyData} (hx : Dt K H x (.tuple ds)) (h : Q (.bl false) H) : rIsi K [x, .ty "int"] H Q := s_isTy hx.tyT kit_ti h
end
end Cr

/-! ### any data that may be told in an entry's place -/
namespace Cr
open PySem PySem.Spec PyProof.Rows L2
/-- whole numbers, truths, None, texts, lists of whatever, tuples of these n deep; a list is told as the empty one -/
def Dl (K : PySem.W.Frag) (H : Hp) : Nat → V → PyData → Prop
  | 0, x, e => (∃ i, x = .int i ∧ e = .int i) ∨ (∃ b, x = .bl b ∧ e = .bool b) ∨ (x = .non ∧ e = .none) ∨ (∃ s : Str, x = .str s ∧ e = .str s ∧ s.cps.size ≤ 1000) ∨ ∃ a xs, x = .ref a ∧ H a = some (.lst xs) ∧ e = .list []
  | n + 1, x, e => Dl K H n x e ∨ ∃ a xs es, x = .ref a ∧ e = .tuple es ∧ SqT K H a xs ∧ A2 (Dl K H n) xs es ∧ xs.length ≤ 900
section
variable {K : PySem.W.Frag} {H H' : Hp}
theorem Dl.same (s : Same H H') : ∀ {n : Nat} {x : V} {e : PyData}, Dl K H n x e → Dl K H' n x e
  | 0, _, _, h => by
    rcases h with h | h | h | h | ⟨a, xs, e1, e2, e3⟩
    · exact .inl h
    · exact .inr (.inl h)
    · exact .inr (.inr (.inl h))
    · exact .inr (.inr (.inr (.inl h)))
    · exact .inr (.inr (.inr (.inr ⟨a, xs, e1, s _ _ e2, e3⟩)))
  | n + 1, _, _, h => by
    rcases h with h | ⟨a, xs, es, e1, e2, e3, e4, e5⟩
    · exact .inl (Dl.same s h)
    · exact .inr ⟨a, xs, es, e1, e2, sqT_kt (kt_same s) e3, e4.mono fun _ _ z => Dl.same s z, e5⟩
theorem Dl.up {n : Nat} {x : V} {e : PyData} (h : Dl K H n x e) : Dl K H (n + 1) x e := .inl h
theorem Dl.ups {n : Nat} {x : V} {e : PyData} (h : Dl K H n x e) : ∀ k, Dl K H (n + k) x e
  | 0 => h
  | k + 1 => (Dl.ups h k).up
theorem Dl.int {n : Nat} {i : Int} : Dl K H n (.int i) (.int i) := by
  have : Dl K H 0 (.int i) (.int i) := .inl ⟨i, rfl, rfl⟩
  have := this.ups n
  rwa [Nat.zero_add] at this
theorem Dl.str {n : Nat} {s : Str} (h : s.cps.size ≤ 1000) : Dl K H n (.str s) (.str s) := by
  have : Dl K H 0 (.str s) (.str s) := .inr (.inr (.inr (.inl ⟨s, rfl, rfl, h⟩)))
  have := this.ups n
  rwa [Nat.zero_add] at this
inductive DlC (K : PySem.W.Frag) (H : Hp) (n : Nat) : V → PyData → Prop
  | int (i : Int) : DlC K H n (.int i) (.int i)
  | bl (b : Bool) : DlC K H n (.bl b) (.bool b)
  | non : DlC K H n .non .none
  | str (s : Str) (h : s.cps.size ≤ 1000) : DlC K H n (.str s) (.str s)
  | tup {a : Addr} {xs : List V} {es : List PyData} (h : SqT K H a xs) (d : A2 (Dl K H n) xs es) (l : xs.length ≤ 900) : DlC K H n (.ref a) (.tuple es)
  | lst {a : Addr} {xs : List V} (h : H a = some (.lst xs)) : DlC K H n (.ref a) (.list [])
theorem Dl.cases : ∀ {n : Nat} {x : V} {e : PyData}, Dl K H n x e → DlC K H n x e
  | 0, _, _, h => by
    rcases h with ⟨i, rfl, rfl⟩ | ⟨b, rfl, rfl⟩ | ⟨rfl, rfl⟩ | ⟨s, rfl, rfl, h⟩ | ⟨a, xs, rfl, h, rfl⟩
    · exact .int i
    · exact .bl b
    · exact .non
    · exact .str s h
    · exact .lst h
  | n + 1, _, _, h => by
    rcases h with h | ⟨a, xs, es, rfl, rfl, h1, h2, h3⟩
    · cases Dl.cases h with
      | int i => exact .int i
      | bl b => exact .bl b
      | non => exact .non
      | str s hv => exact .str s hv
      | tup h1 h2 h3 => exact .tup h1 (h2.mono fun _ _ z => z.up) h3
      | lst hv => exact .lst hv
    · exact .tup h1 (h2.mono fun _ _ z => z.up) h3
theorem SqT.tyT {a : Addr} {xs : List V} (hs : SqT K H a xs) : TyX K H (.ref a) (.type "tuple") := by
  rcases hs with (h | ⟨o, h⟩) | ⟨o, its, n, h, c, _⟩
  · exact .base (.tup h)
  · exact .fTuple h
  · exact .kTuple h c
theorem Dl.dt_int {n : Nat} {x : V} {i : Int} (h : Dl K H n x (.int i)) : x = .int i := by cases h.cases; rfl
theorem Dl.dt_str {n : Nat} {x : V} {s : Str} (h : Dl K H n x (.str s)) : x = .str s := by cases h.cases; rfl
end
/-- what is a name, a pair, what a mix holds -/
def nmB (t : Str) : Bool := decide (1 ≤ t.cps.size ∧ t.cps.size ≤ 12) && t.cps.toList.all fun c => decide (97 ≤ c ∧ c ≤ 122)
theorem nmB_iff {t : Str} : nmB t = true ↔ Nm t := by
  unfold nmB Nm
  rw [Bool.and_eq_true, decide_eq_true_eq, List.all_eq_true]
  simp only [decide_eq_true_eq, and_assoc]
def nameB : PyData → Bool
  | .str t => nmB t
  | _ => false
def pairB : PyData → Bool
  | .tuple [a, b] => nameB a && wholeB 1 1000000 b
  | _ => false
def fstD : PyData → PyData
  | .tuple (a :: _) => a
  | e => e
/-- a def that tells whether it is so, of any such data -/
def spLk (K : PySem.W.Frag) (f : PyData → Bool) : Sp := fun vs H Q _ => ∃ (n : Nat) (x : V) (e : PyData), vs = [x] ∧ Dl K H n x e ∧ ∀ H', Same H H' → Q (.bl (f e)) H'
section
variable {K : PySem.W.Frag} {σ : St} {H : Hp} {Q : VK} {D : Ends}
theorem kit_li : kitB "list" "int" = some false := by decide +kernel
theorem kit_lt : kitB "list" "tuple" = some false := by decide +kernel
theorem kit_ls : kitB "list" "str" = some false := by decide +kernel
theorem s_lkI {n : Nat} {x : V} {e : PyData} {N : Bool → Prop} (h : Dl K H n x e) (q : N (match e with | .int _ => true | .bool _ => true | _ => false)) : ∀ Q : VK, (∀ b, N b → Q (.bl b) H) → rIsi K [x, .ty "int"] H Q := fun Q hq => by
  cases h.cases with
  | int i => exact s_isII (hq _ q)
  | bl b => exact s_isBI (hq _ q)
  | non => exact s_isNI (hq _ q)
  | str s h => exact s_isSI (hq _ q)
  | tup hv d l => exact s_isTy (SqT.tyT hv) kit_ti (hq _ q)
  | lst hv => exact s_isTy (.base (.lst hv)) kit_li (hq _ q)
theorem s_lkT {n : Nat} {x : V} {e : PyData} (h : Dl K H n x e) (q : Q (.bl (match e with | .tuple _ => true | _ => false)) H) : rIsi K [x, .ty "tuple"] H Q := by
  cases h.cases with
  | int i => exact s_isTy (.base (.int i)) kit_it q
  | bl b => exact s_isTy (.base (.bl b)) kit_bt q
  | non => exact s_isTy (.base .non) kit_nt q
  | str s h => exact s_isTy (.base (.str s)) kit_st q
  | tup hv d l => exact s_isTy (SqT.tyT hv) (by exact kit_tt) q
  | lst hv => exact s_isTy (.base (.lst hv)) kit_lt q
theorem s_lkS {n : Nat} {x : V} {e : PyData} (h : Dl K H n x e) (q : Q (.bl (match e with | .str _ => true | _ => false)) H) : rIsi K [x, .ty "str"] H Q := by
  cases h.cases with
  | int i => exact s_isTy (.base (.int i)) kit_is q
  | bl b => exact s_isTy (.base (.bl b)) kit_bs q
  | non => exact s_isTy (.base .non) kit_ns q
  | str s h => exact s_isTy (.base (.str s)) kit_ss q
  | tup hv d l => exact s_isTy (SqT.tyT hv) kit_ts q
  | lst hv => exact s_isTy (.base (.lst hv)) kit_ls q
theorem s_isTQ {a : Addr} {xs : List V} (hs : SqT K H a xs) (h : Q (.bl true) H) : rIsi K [.ref a, .ty "tuple"] H Q := s_isTy (SqT.tyT hs) kit_tt h
theorem s_ixQ {a : Addr} {xs : List V} {i : Nat} {v : V} (hs : SqT K H a xs) (e : xs[i]? = some v) (h : Q v H) : rIx K (.ref a) (.int i) H Q := .inr (.inl ⟨a, xs, i, v, rfl, rfl, hs, atI_nat e, h⟩)
theorem s_ixQ0 {a : Addr} {v : V} {xs : List V} (hs : SqT K H a (v :: xs)) (h : Q v H) : rIx K (.ref a) (.int 0) H Q := s_ixQ (i := 0) hs rfl h
theorem s_ixQ1 {a : Addr} {v u : V} {xs : List V} (hs : SqT K H a (v :: u :: xs)) (h : Q u H) : rIx K (.ref a) (.int 1) H Q := s_ixQ (i := 1) hs rfl h
theorem s_truQ {a : Addr} {xs : List V} {N : Bool → Prop} (hs : SqT K H a xs) (h : N (!xs.isEmpty)) : ∃ k, TruV K (.ref a) H k ∧ N k := ⟨_, .inr (.inl ⟨xs, hs, rfl⟩), h⟩
theorem s_gstarQ {a : Addr} {x : V} {xs : List V} {t : TGs} {N : St → Hp → Prop} (hs : SqT K H a (x :: xs)) (l : xs.length ≤ 900) (h : ∀ p, H p = none → t [x, .ref p] σ (upd H p (.lst xs)) N) : gStar K t (.ref a) σ H N := ⟨a, x, xs, rfl, hs, l, h⟩
theorem s_allB {a : Addr} {bs : List Bool} (hs : SqL K H a (bs.map V.bl)) (h : Q (.bl (bs.all id)) H) : rAll K [.ref a] H Q := ⟨a, bs, rfl, hs, h⟩
theorem c_strX {x : Str} {g : TG} {te : TE} {vs : List Nat} (f : Nat → V) (hz : x.cps.size ≤ 1000)
    (turn : ∀ c A (N : V → Hp → Prop), c ∈ x.cps.toList → Same H A → (∀ B, Same A B → N (f c) B) → g (.str (sign c)) (wipe σ vs) A fun σ2 B => wipe σ2 vs = wipe σ vs ∧ te σ2 B N)
    (fin : ∀ p A, Same H A → H p = none → A p = some (.lst (x.cps.toList.map f)) → Q (.ref p) A) : LcR (Its x) g tYes te vs σ H Q := by
  intro p hp
  refine ⟨fun i m A => m = x.cps.size - i ∧ i ≤ x.cps.size ∧ Same H A ∧ A p = some (.lst ((x.cps.toList.take i).map f)), ⟨_, rfl, Nat.zero_le _, same_new hp, upd_same⟩, ?_⟩
  rintro i m A ⟨rfl, hi, sm, h1⟩
  by_cases hlt : i < x.cps.size
  · refine .inr ⟨hlt, fun A' => i + 1 ≤ x.cps.size ∧ Same H A' ∧ A' p = some (.lst ((x.cps.toList.take (i + 1)).map f)), fun A' h => ⟨x.cps.size - (i + 1), by omega, rfl, h⟩, fun v A' y => ?_⟩
    obtain ⟨rfl, c, ec, rfl⟩ := y
    have ec2 : x.cps.toList[i]? = some c := by rw [Array.getElem?_toList]; exact ec
    refine turn c A' _ (Array.mem_def.mp (Array.mem_of_getElem? ec)) sm fun B sb => ?_
    refine ⟨_, sb _ _ h1, L2.small1000 (by rw [List.length_map, List.length_take]; omega), hlt, same_mut (sm.trans sb) hp, ?_⟩
    rw [upd_same, List.take_add_one, ec2, List.map_append]
    rfl
  · have e : i = x.cps.size := by omega
    subst e
    refine .inl ⟨Nat.le_refl _, fin p A sm hp ?_⟩
    rw [h1, show x.cps.size = x.cps.toList.length from rfl, List.take_length]
/-- slices and + of tuples of whatever -/
theorem s_slQhi {a : Addr} {xs : List V} {hi : Int} (hs : SqT K H a xs) (h0 : 0 ≤ hi) (h1 : hi < xs.length) (h : ∀ p, H p = none → Q (.ref p) (upd H p (.tup (xs.take hi.toNat)))) : rSlU K (.ref a) none (some hi) H Q := by
  refine .inr ⟨a, xs, rfl, hs, fun z => ?_, fun p hp => ?_⟩
  · obtain ⟨k, rfl⟩ : ∃ k : Nat, hi = (k : Int) := ⟨hi.toNat, by omega⟩
    have z2 := z.2
    rw [HT.sIx_nat] at z2
    omega
  · rw [cutV_hi xs h0]
    exact h p hp
theorem s_slQlo {a : Addr} {xs : List V} {lo : Int} (hs : SqT K H a xs) (h0 : 0 < lo) (h1 : 0 < xs.length) (h : ∀ p, H p = none → Q (.ref p) (upd H p (.tup (xs.drop lo.toNat)))) : rSlU K (.ref a) (some lo) none H Q := by
  refine .inr ⟨a, xs, rfl, hs, fun z => ?_, fun p hp => ?_⟩
  · obtain ⟨k, rfl⟩ : ∃ k : Nat, lo = (k : Int) := ⟨lo.toNat, by omega⟩
    have z1 := z.1
    rw [HT.sIx_nat] at z1
    omega
  · rw [cutV_lo xs (by omega)]
    exact h p hp
theorem s_addQQ {a b : Addr} {xs ys : List V} (hs : SqT K H a xs) (ht : SqT K H b ys) (n1 : xs ≠ []) (l : xs.length + ys.length ≤ 1000) (h1 : ys = [] → Q (.ref a) H) (h2 : ys ≠ [] → ∀ p, H p = none → Q (.ref p) (upd H p (.tup (xs ++ ys)))) : rAddU K (.ref a) (.ref b) H Q :=
  .inr (.inr (.inr ⟨a, b, xs, ys, rfl, rfl, hs, ht, n1, Nat.le_of_lt (L2.small1000 l), h1, h2⟩))
end
end Cr

namespace Cr
open PySem PySem.Spec PyProof.Rows L2
/-! ### sorted(.., key = a lambda that puts an entry's places about) -/
/-- lambda x: (x[1], x[0], x[2:]) -/
def TurnE (x : Str) (e : Expr) : Prop := ∃ (c k1 k2 k3 : Nat) (a1 a2 a3 a4 a5 a6 a7 a8 a9 b1 b2 : Pos),
  e = .Tuple [.Subscript (.Name x a1) (.Constant (.int 1) k1 a2) a3, .Subscript (.Name x a4) (.Constant (.int 0) k2 a5) a6, .Subscript (.Name x a7) (.Slice (some (.Constant (.int 2) k3 a8)) none none a9) b1] c b2
section
variable {prog : Program} {w : World} {A : Around} {E : Value → Shared → Prop} {s : Shared} {env : Env} {m : Str → Option Value}
theorem ix_raw {t : Addr} {its : List Value} {x : Str} {i : Nat} {v : Value} {k : Nat} {p1 p2 p3 : Pos} {Q : Value → Shared → Prop} (hk : env.scope.kind = .function) (hl : env.kindOf x = some .local) (hn : s.heap.Ns env.locals m) (hm : m x = some (.ref t))
    (ht : IsTup s.heap t its.toArray) (hi : its[i]? = some v) (hz : its.length ≤ 1000) (hd : (x == ("__debug__" : Str)) = false) (q : ∀ tk, Q v { s with toks := tk }) :
    wpAny (model prog w) A (eval (.Subscript (.Name x p1) (.Constant (.int (i : Int)) k p2) p3) env) Q E s := by
  have hj : i < its.length := (List.getElem?_eq_some_iff.mp hi).1
  refine Subscript_ (wpAny_Name (wpAny_loadName_local hk hl hn hm ?_) hd)
  refine wpAny_Constant_int ?_
  have ht2 : IsTup ({ s with toks := s.toks + 1 } : Shared).heap t its.toArray := ht
  exact subscriptTail_builtinR (x := v) (ht2.typeIs) slot_tuple_getitem.lookup
    (PyProof.Rows.getItem_tuple (j := i) (Q := fun r s' => r = v ∧ Q r s') ht2 (by omega) (by omega) (by rw [List.size_toArray]; unfold seqIndex?; first | rfl | (rw [if_neg (by omega), if_pos (by omega)]; rfl) | (simp; omega)) (by simpa using hi) ⟨rfl, q _⟩)
theorem sl_raw {t : Addr} {its : List Value} {x : Str} {k : Nat} {p1 p2 p3 p4 : Pos} {Q : Value → Shared → Prop} (hk : env.scope.kind = .function) (hl : env.kindOf x = some .local) (hn : s.heap.Ns env.locals m) (hm : m x = some (.ref t))
    (ht : IsTup s.heap t its.toArray) (h2 : 2 ≤ its.length) (hz : its.length ≤ 1000) (hd : (x == ("__debug__" : Str)) = false)
    (q : ∀ h' tk r, (∀ b o, s.heap.get? b = some o → h'.get? b = some o) → IsTup h' r (its.drop 2).toArray → Q (.ref r) { s with heap := h', toks := tk }) :
    wpAny (model prog w) A (eval (.Subscript (.Name x p1) (.Slice (some (.Constant (.int 2) k p2)) none none p3) p4) env) Q E s := by
  refine Subscript_ (wpAny_Name (wpAny_loadName_local hk hl hn hm ?_) hd)
  refine wpAny_Slice ?_
  rw [evalPart_some]
  refine wpAny_Constant_int ?_
  rw [evalPart_none]
  refine wpAny_pure ?_
  refine wpAny_pure ?_
  generalize hh : s.heap.push { cls := .type "slice", data := .fields #[.int 2 s.toks, .none, .none] } = h1
  have ht1 : IsTup h1 t its.toArray := by rw [← hh]; exact ht.keeps fun b o e => Heap.get?_push_of_some _ e
  have hs1 : h1.IsSliceOf s.heap.objs.size (.int 2 s.toks) .none .none := by rw [← hh]; exact Heap.IsSliceOf.new ..
  have e2 : HT.sIx its.length 0 (some 2) = 2 := by unfold HT.sIx; simp; omega
  have e3 : HT.sIx its.length its.length none = its.length := rfl
  have ht1' : ({ s with heap := h1, toks := s.toks + 1 } : Shared).TypeIs (.ref t) "tuple" := ht1.typeIs (s := { s with heap := h1, toks := s.toks + 1 })
  refine tail_any (ops := [.ref s.heap.objs.size, .ref t]) ht1' slot_tuple_getitem.lookup ?_ (by with_unfolding_all rfl)
  refine HT.getItem_tuple_cut (s := { s with heap := h1, toks := s.toks + 1 }) (lo := some 2) (hi := none) ht1 hs1 ?_ ?_ ?_ ?_ ?_
  · exact .int _ _
  · exact .none
  · rw [List.size_toArray, e2]; omega
  · refine q _ _ _ (fun b o e => ?_) ?_
    · refine Heap.get?_push_of_some _ ?_
      show h1.get? b = some o
      rw [← hh]; exact Heap.get?_push_of_some _ e
    · rw [List.size_toArray, e2, e3]
      have el : (its.toArray.toList.drop 2).take (its.length - 2) = its.drop 2 := by
        rw [List.take_of_length_le]
        simp
      rw [el]
      exact IsTup.new _ _
  · rw [List.size_toArray]; exact Nat.le_of_lt (L2.small1000 hz)
theorem turn_raw {t : Addr} {its : List Value} {x : Str} {e : Expr} {v0 v1 : Value} {Q : Value → Shared → Prop} (he : TurnE x e) (hk : env.scope.kind = .function) (hl : env.kindOf x = some .local) (hn : s.heap.Ns env.locals m) (hm : m x = some (.ref t))
    (ht : IsTup s.heap t its.toArray) (h0 : its[0]? = some v0) (h1 : its[1]? = some v1) (hz : its.length ≤ 1000) (hd : (x == ("__debug__" : Str)) = false) (lx : ∀ h' : Heap, (∀ b o, s.heap.get? b = some o → h'.get? b = some o) → h'.Ns env.locals m)
    (q : ∀ h' tk r p, (∀ b o, s.heap.get? b = some o → h'.get? b = some o) → IsTup h' r (its.drop 2).toArray → IsTup h' p #[v1, v0, .ref r] → Q (.ref p) { s with heap := h', toks := tk }) :
    wpAny (model prog w) A (eval e env) Q E s := by
  obtain ⟨c, k1, k2, k3, a1, a2, a3, a4, a5, a6, a7, a8, a9, b1, b2, rfl⟩ := he
  have h2 : 2 ≤ its.length := (List.getElem?_eq_some_iff.mp h1).1
  refine wpAny_Tuple_spliced ?_
  refine Calls.spliced_cons (ix_raw (i := 1) hk hl hn hm ht h1 hz hd fun tk1 => ?_)
  refine Calls.spliced_cons (ix_raw (s := { s with toks := tk1 }) (i := 0) hk hl hn hm ht h0 hz hd fun tk2 => ?_)
  refine Calls.spliced_cons (sl_raw (s := { s with toks := tk2 }) hk hl hn hm ht h2 hz hd fun h' tk3 r kp hr => ?_)
  refine Calls.spliced_nil ⟨by show 3 ≤ sizeLine; decide, ?_⟩
  exact q _ _ r _ (fun b o e => Heap.get?_push_of_some _ (kp b o e)) (hr.keeps fun b o e => Heap.get?_push_of_some _ e) (IsTup.new _ _)
end
/-! keys of unlike rest: (whole number, text, tuple); the tuples are alike where the first two are so -/
def KeysOk (kz : List PyData) : Prop := (∀ d, d ∈ kz → ∃ i k r, d = .tuple [.int i, .str k, .tuple r] ∧ d.depth ≤ 32) ∧
  ∀ i k r r', PyData.tuple [.int i, .str k, .tuple r] ∈ kz → PyData.tuple [.int i, .str k, .tuple r'] ∈ kz → PySem.W.alikeAll r r' = true
open PySem.W in
theorem KeysOk.self {kz : List PyData} (K : KeysOk kz) {d : PyData} (h : d ∈ kz) : alike d d = true := by
  obtain ⟨i, k, r, rfl, _⟩ := K.1 d h
  have := K.2 i k r r h h
  simp [alike, alikeAll, this]
open PySem.W in
theorem KeysOk.one {kz : List PyData} (K : KeysOk kz) {h : Heap} {d d' : PyData} {v : Value} {as as' : List Addr} (m : d ∈ kz) (m' : d' ∈ kz) (r : Reads h v d as) (r' : Reads h v d' as') : d = d' := by
  obtain ⟨i, k, z, rfl, _⟩ := K.1 d m
  obtain ⟨i', k', z', rfl, _⟩ := K.1 d' m'
  have hi : i = i' ∧ k = k' := by
    cases r with
    | tuple a1 a2 a3 a4 =>
      cases r' with
      | tuple b1 b2 b3 b4 =>
        rw [a1] at b1; cases b1
        rw [a3] at b3; cases b3
        generalize Array.toList _ = l at a4 b4
        cases a4 with
        | cons c1 c2 =>
          cases b4 with
          | cons d1 d2 =>
            cases c2 with
            | cons c3 c4 =>
              cases d2 with
              | cons d3 d4 =>
                cases c1; cases d1; cases c3; cases d3
                exact ⟨rfl, rfl⟩
  obtain ⟨rfl, rfl⟩ := hi
  exact alike_unique _ _ _ _ _ (by have := K.2 i k z z' m m'; simp [alike, alikeAll, this]) r r'
open PySem.W in
theorem KeysOk.key {kz : List PyData} (K : KeysOk kz) {h : Heap} {v : Value} {d : PyData} {as : List Addr} (m : d ∈ kz) (r : Reads h v d as) : (dataKind h kz).keyOf v = some (keyToks d) := by
  have ex : ∃ z, z ∈ kz ∧ ∃ bs, Reads h v z bs := ⟨d, m, as, r⟩
  have e : (dataKind h kz).keyOf v = some (keyToks ex.choose) := by unfold dataKind; exact dif_pos ex
  obtain ⟨m1, bs, r1⟩ := ex.choose_spec
  rw [e, K.one m1 m r1 r]
open PySem.W in
theorem katLex_key {prog : Program} {w : World} {A : Around} {s : Shared} {b fin : Bool} {Q : Bool → Shared → Prop} {i i' : Int} {k k' : Str} {r r' : List PyData} {vs ws : List Value} {as bs : List Addr}
    (ra : ReadsAll s.heap vs [.int i, .str k, .tuple r] as) (rb : ReadsAll s.heap ws [.int i', .str k', .tuple r'] bs) (hk : i = i' → k = k' → alikeAll r r' = true) (hu : A.units + (PyData.tuple r).depth < cLine) (hf : fin = false)
    (hq : Q (PyProof.Rows.lexLt itemOrd (keyToksAll [.int i, .str k, .tuple r]) (keyToksAll [.int i', .str k', .tuple r'])) s) : KatLex prog w A b fin Q (vs.zip ws) 0 s := by
  cases ra with
  | cons a1 ra =>
  cases ra with
  | cons a2 ra =>
  cases rb with
  | cons b1 rb =>
  cases rb with
  | cons b2 rb =>
  have li : alike (.int i) (.int i') = true := rfl
  have lk : alike (.str k) (.str k') = true := rfl
  have u0 : ∀ x y : PyData, x.depth = 0 → A.units + min x.depth y.depth < cLine := fun x y e => by rw [e]; omega
  have di : (PyData.int i).depth = 0 := by simp [PyData.depth]
  have dk : (PyData.str k).depth = 0 := by simp [PyData.depth]
  rw [List.zip_cons_cons, List.zip_cons_cons]
  refine kat_cons (eqAt_alike (.int i) (.int i') A s _ _ _ _ a1 b1 li (u0 _ _ di) prog w _ _ ?_)
  cases hx : PyData.eqv (.int i) (.int i') with
  | false =>
    rw [dataLt_all_no li hx] at hq
    exact kat_no (oneLt_alike (fun _ t z => by cases z) a1 b1 li (fun z => by cases z) (u0 _ _ di) hq)
  | true =>
    rw [dataLt_all_yes li hx] at hq
    have ei : i = i' := by rw [eqvI] at hx; exact of_decide_eq_true hx
    refine kat_yes (kat_cons (eqAt_alike (.str k) (.str k') A s _ _ _ _ a2 b2 lk (u0 _ _ dk) prog w _ _ ?_))
    cases hy : PyData.eqv (.str k) (.str k') with
    | false =>
      rw [dataLt_all_no lk hy] at hq
      exact kat_no (oneLt_alike (fun _ t z => by cases z) a2 b2 lk (fun z => by cases z) (u0 _ _ dk) hq)
    | true =>
      rw [dataLt_all_yes lk hy] at hq
      have ek : k = k' := by rw [eqvS] at hy; exact of_decide_eq_true hy
      refine kat_yes (katLex_alike [.tuple r] [.tuple r'] 2 _ _ _ _ ra rb (by simp [alike, alikeAll, hk ei ek]) ?_ (fun _ z => absurd z (by decide)) hf hq)
      have : PyData.depthAll [.tuple r] = (PyData.tuple r).depth := by simp [PyData.depthAll]
      omega
open PySem.W in
theorem KeysOk.sorts {prog : Program} {w : World} {A : Around} {s : Shared} {kz : List PyData} (K : KeysOk kz) {vs : List Value} (e : EachIs (fun v d => ∃ as, Reads s.heap v d as) vs kz) (hu : A.units + 32 < cLine) : SortsAt prog w A s (dataKind s.heap kz) vs := by
  refine ⟨fun v hv => ?_, tuples' true, ?_, fun h2 E Q hq => ?_⟩
  · obtain ⟨d, hd, as, r⟩ := e.left v hv
    exact ⟨_, K.key hd r⟩
  · intro E x y a b Q ha hb hq
    obtain ⟨d, as, hd, ra, rfl⟩ := dataKind_inv ha
    obtain ⟨d', as', hd', rb, rfl⟩ := dataKind_inv hb
    obtain ⟨i, k, r, rfl, dep⟩ := K.1 d hd
    obtain ⟨i', k', r', rfl, _⟩ := K.1 d' hd'
    have hq' : Q (dataLt (.tuple [.int i, .str k, .tuple r]) (.tuple [.int i', .str k', .tuple r'])) s := hq
    rw [dataLt_tuple] at hq'
    cases ra with
    | @tuple l o xs n _ _ a1 a2 a3 a4 =>
      cases rb with
      | @tuple l' o' xs' n' _ _ b1 b2 b3 b4 =>
        have n1 : xs.size = 3 := by simpa using SeqAt.ReadsAll.length _ _ _ a4
        have n2 : xs'.size = 3 := by simpa using SeqAt.ReadsAll.length _ _ _ b4
        refine kat_lt a1 a3 b1 b3 (katLex_key a4 b4 (fun ei ek => by subst ei; subst ek; exact K.2 _ _ _ _ hd hd') ?_ (by rw [n1, n2]; rfl) hq')
        have : (PyData.tuple [.int i, .str k, .tuple r]).depth = PyData.depth (.tuple r) + 1 := by
          simp [PyData.depth, PyData.depthAll]
        omega
  · obtain ⟨fs, t1, t2, t3⟩ := each_katTups e fun d hd => by
      obtain ⟨i, k, r, rfl, _⟩ := K.1 d hd
      exact ⟨_, _, rfl⟩
    refine kat_kind (T := .type "int") t1 (by omega) (fun f hf => ?_) (beq_self_eq_true _) hq
    obtain ⟨x, z, as, m1, m2⟩ := t3 f hf
    obtain ⟨i, k, r, ez, _⟩ := K.1 _ m1
    injection ez with ez
    injection ez with ex _
    subst ex
    exact looks_reads m2
/-! the sort itself: each key made by a call that keeps the heap -/
section
open PySem.W PyProof.Rows
variable {prog : Program} {w : World} {A : Around} {E : Value → Shared → Prop} {s : Shared}
/-- what comes out -/
def OutK (kz : List PyData) (vs out : List Value) : Prop := ∃ g ks, out = sortVals (dataKind g kz) false ks vs ∧ EachIs (fun v z => (dataKind g kz).keyOf v = some (keyToks z)) ks kz
theorem kr_rest {a kS : Addr} {f : Value} {vs : List Value} {kz : List PyData} {e1 : Nat} {P : PySem.Fin → Shared → Prop} {g0 : Heap} (kp : KeepsBut a g0 s.heap) (fr : g0.get? kS = none)
    (at1 : s.heap.get? kS = some (seqObj "list" #[] 0)) (at2 : s.heap.get? a = some (seqObj "list" #[] e1)) (ne : kS ≠ a) (len : kz.length = vs.length) (room : vs.length ≤ sizeLine) (K : KeysOk kz) (hu : A.units + 32 < cLine)
    (turn : ∀ (i : Nat) (v : Value) (z : PyData), vs[i]? = some v → kz[i]? = some z → ∀ (g : Heap) (tk : Nat), KeepsBut a g0 g → wpAny (model prog w) A (call f [v])
      (KeyPure z { s with heap := g, toks := tk }) (fun _ _ => False) { s with heap := g, toks := tk })
    (fin : ∀ g tk out c, KeepsBut a g0 g → g.get? a = some (seqObj "list" (List.toArray out) c) → OutK kz vs out → P (.done (.ret .none)) { s with heap := g, toks := tk }) :
    wpAny (model prog w) A (ksk_rest a f false vs.toArray e1 (.ref kS)) P E s := by
  unfold ksk_rest
  refine wpAny_bind (wpAny_rule ?_)
  rw [List.forIn_toArray]
  refine wpAny_bind (ksk_fold (fun i s1 => ∃ g tk made e, s1 = { s with heap := g, toks := tk } ∧ KeepsBut a g0 g ∧ g.get? kS = some (seqObj "list" made e) ∧ g.get? a = some (seqObj "list" #[] e1) ∧
    EachIs (fun v z => Reads g v z [] ∧ z ∈ kz) made.toList (kz.take i)) vs 0 s ⟨s.heap, s.toks, #[], 0, rfl, kp, at1, at2, by rw [List.take_zero]; exact .nil⟩ ?_ ?_)
  · rintro j x s1 ej ⟨g, tk, made, e, rfl, kp1, c1, c2, ea⟩
    rw [Nat.zero_add] at ea ⊢
    have lt : j < vs.length := (List.getElem?_eq_some_iff.mp ej).1
    have lt' : j < kz.length := by omega
    have ez : kz[j]? = some kz[j] := List.getElem?_eq_getElem lt'
    have mz : kz[j] ∈ kz := List.getElem_mem lt'
    have sz : made.size ≤ vs.length := by
      have q := ea.length
      rw [Array.length_toList, List.length_take] at q
      omega
    refine wpAny_bind (wpAny_attempt (wpAny_mono (turn j x _ ej ez g tk kp1) (fun v s2 z => ?_) fun _ _ z => z.elim))
    obtain ⟨g2, tk2, rfl, keep, rd⟩ := z
    dsimp only
    have d1 := keep _ _ c1
    have d2 := keep _ _ c2
    have sb := Heap.SameBut.update g2 kS (Obj.mapSeq (·.push v))
    obtain ⟨n2, d3⟩ : ∃ n2, (g2.update kS (Obj.mapSeq (·.push v))).get? kS = some (seqObj "list" (made.push v) n2) := ⟨_, get?_update_seq d1 (·.push v)⟩
    refine wpAny_bind (listUpdate_at d1 rfl ?_ (Nat.le_trans sz room) (by rw [Array.size_push]; omega))
    have stays : ∀ (u : Value) (z : PyData), Reads g2 u z [] ∧ z ∈ kz → Reads (g2.update kS (Obj.mapSeq (·.push v))) u z [] ∧ z ∈ kz := fun u z q =>
      ⟨Reads.keepBut (a := kS) (fun b o hb eb => (sb.2 b hb).trans eb) (fun o eb => by rw [d1] at eb; cases eb; rfl) z u [] (K.self q.2) q.1 (fun h => nomatch h), q.2⟩
    refine wpAny_pure ⟨rfl, _, _, made.push v, n2, rfl, (kp1.trans_all keep).same sb (.inr fr), d3, (sb.2 a ne.symm).trans d2, ?_⟩
    rw [Array.toList_push, List.take_add_one, ez]
    exact each_snoc (R := fun (u : Value) (z : PyData) => Reads (g2.update kS (Obj.mapSeq (·.push v))) u z [] ∧ z ∈ kz) (stays v _ ⟨rd, mz⟩) (ea.mono fun u z q => stays u z ⟨PyProof.Rows.Reads.keeps keep q.1, q.2⟩)
  · rintro s1 ⟨g, tk, made, e, rfl, kp1, c1, c2, ea⟩
    rw [Nat.zero_add, List.take_of_length_le (by omega)] at ea
    have er : EachIs (fun v z => ∃ as, Reads g v z as) made.toList kz := ea.mono fun _ _ q => ⟨[], q.1⟩
    have sz : made.size = vs.length := by
      have q := ea.length
      rw [Array.length_toList] at q
      omega
    refine wpAny_bind (listItems_at c1 rfl ?_)
    exact keyH_end (κ := dataKind g kz) (b := false) (h₁ := g0) kp1 fr c1 c2 ne (K.sorts (s := { s with heap := g, toks := tk }) er hu) sz room fun g3 tk3 c3 k3 n3 =>
      fin g3 tk3 _ c3 k3 n3 ⟨g, made.toList, rfl, ea.mono fun _ _ q => K.key q.2 q.1⟩
theorem kr_tree {a : Addr} {f : Value} {vs : List Value} {kz : List PyData} {n : Nat} {P : PySem.Fin → Shared → Prop} (ho : s.heap.get? a = some (seqObj "list" vs.toArray n)) (len : kz.length = vs.length) (room : vs.length ≤ sizeLine) (K : KeysOk kz) (hu : A.units + 32 < cLine)
    (turn : ∀ (i : Nat) (v : Value) (z : PyData), vs[i]? = some v → kz[i]? = some z → ∀ (g : Heap) (tk : Nat), KeepsBut a s.heap g → wpAny (model prog w) A (call f [v])
      (KeyPure z { s with heap := g, toks := tk }) (fun _ _ => False) { s with heap := g, toks := tk })
    (fin : ∀ g tk out c, KeepsBut a s.heap g → g.get? a = some (seqObj "list" (List.toArray out) c) → OutK kz vs out → P (.done (.ret .none)) { s with heap := g, toks := tk }) :
    wpAny (model prog w) A (ksk_tree a f false) P E s := by
  have lt := Heap.lt_size ho
  obtain ⟨e1, o1⟩ : ∃ e1, (s.heap.update a (Obj.mapSeq fun _ => (#[] : Array Value))).get? a = some (seqObj "list" #[] e1) := ⟨_, get?_update_seq ho fun _ => #[]⟩
  have sz : ((s.heap.update a (Obj.mapSeq fun _ => (#[] : Array Value))).push (seqObj "tuple" vs.toArray 0)).objs.size = s.heap.objs.size + 1 := by rw [size_push', Heap.size_update]
  unfold ksk_tree
  refine wpAny_bind (listItems_at ho rfl ?_)
  refine wpAny_bind (listUpdate_at ho rfl ?_ (by rw [List.size_toArray]; exact room) (Nat.zero_le _))
  refine wpAny_bind (seqEpoch_at o1 rfl ?_)
  refine wpAny_bind (wpAny_newTuple ?_ (show vs.length ≤ sizeLine from room))
  refine wpAny_bind (wpAny_newList ?_ (Nat.zero_le _))
  refine wpAny_holding ?_
  refine kr_rest (g0 := s.heap) (s := { s with heap := ((s.heap.update a (Obj.mapSeq fun _ => (#[] : Array Value))).push (seqObj "tuple" vs.toArray 0)).push (seqObj "list" #[] 0) })
    (fun b o hb q => sortingHeap_old hb q) (Heap.get?_none_of_le (by rw [sz]; exact Nat.le_succ _)) (Heap.get?_push_size _ rfl) (Heap.get?_push_of_some _ (Heap.get?_push_of_some _ o1)) (by rw [sz]; exact Nat.ne_of_gt (Nat.lt_succ_of_lt lt)) len room K hu turn fin
/-- sorted(l, key = f) -/
theorem sorted_turn {l q : Addr} {vs : List Value} {kz : List PyData} {β : Type} {bs : List β} {R : Value → β → Prop} {k : β → PyData} {Q : Value → Shared → Prop} (hl : s.heap.IsList l vs.toArray) (e : EachIs R vs bs) (ek : kz = bs.map k) (room : vs.length ≤ sizeLine) (K : KeysOk kz) (hu : A.units + 40 < cLine)
    (turn : ∀ (v : Value) (x : β), R v x → x ∈ bs → ∀ (g : Heap) (tk : Nat), (∀ b o, s.heap.get? b = some o → g.get? b = some o) → wpAny (model prog w) A.in1.in1 (call (.ref q) [v])
      (KeyPure (k x) { s with heap := g, toks := tk }) (fun _ _ => False) { s with heap := g, toks := tk })
    (fin : ∀ out c g tk, (∀ b o, s.heap.get? b = some o → g.get? b = some o) → g.get? (s.heap.objs.size + 1) = some (seqObj "list" (List.toArray out) c) → EachIs R out (bs.mergeSort (dataLe false k)) → Q (.ref (s.heap.objs.size + 1)) { s with heap := g, toks := tk }) :
    wpAny (model prog w) A (call (.builtin "sorted") [.ref l] [(Str.ofString "key", .ref q)]) Q E s := by
  subst ek
  have len : (bs.map k).length = vs.length := by rw [List.length_map]; exact e.length.symm
  have up : ∀ {g : Heap}, KeepsBut (s.heap.objs.size + 1) (copyHeap s.heap vs) g → ∀ b o, s.heap.get? b = some o → g.get? b = some o := fun {g} kp b o z => kp b o (Nat.ne_of_lt (Nat.lt_succ_of_lt (Heap.lt_size z))) (copyHeap_old z)
  refine sorted_of_sort hl room (ksk_s1 _ _) (fun _ => ksk_l1 _ _) fun E' => ?_
  rw [ksk_t1]
  refine kr_tree (kz := bs.map k) (s := { s with heap := copyHeap s.heap vs }) (copyHeap_at s.heap vs) len room K (by show A.units + 1 + 1 + 32 < cLine; omega) (fun i v z hv hz g tk kp => ?_) fun g tk out c kp ho ko => ⟨rfl, fin out c g tk (up kp) ho ?_⟩
  · rw [List.getElem?_map] at hz
    cases hb : bs[i]? with
    | none => rw [hb] at hz; cases hz
    | some x =>
      rw [hb] at hz
      cases hz
      have hm : (v, x) ∈ vs.zip bs := List.mem_of_getElem? (i := i) (by rw [List.getElem?_zip_eq_some]; exact ⟨hv, hb⟩)
      exact turn v x (e.zip _ hm) (List.mem_of_getElem? hb) g tk (up kp)
  · obtain ⟨g1, ks, rfl, eks⟩ := ko
    exact sortVals_each (κ := dataKind g1 (bs.map k)) (fun b => keyToks (k b)) e (each_of_map k eks)
end
end Cr
namespace Cr
open PySem PySem.Spec PyProof.Rows L2 LamX
/-! ### the lambda as a value -/
structure LamD where
  q : Str
  params : Arguments
  body : Expr
  scope : Scope
  cl : List (Str × Addr)
  c : Addr
def LamO (f : Addr) (L : LamD) : HO := .ext fun h => ∃ pm ctv, h.get? f = some (PySem.W.kla_obj "<lambda>" L.q L.params L.body L.scope L.cl pm L.c ctv)
/-- it has the one parameter x and turns it about -/
structure LamOk (x : Str) (params : Arguments) (body : Expr) (scope : Scope) : Prop where
  bind : ∀ (q : Str) (cl : List (Str × Addr)) (pm cdv ctv v : Value), bindArgs (PySem.W.kla_fn "<lambda>" q params body scope cl pm cdv ctv) ⟨[v], []⟩ = pure [(x, v)]
  turn : TurnE x body
  kind : scope.kind = .function
  co : scope.isCoroutine = false
  gen : scope.isGenerator = false
  loc : scope.names.lookup x = some .local
  nocell : ∀ y ∈ scope.names, y.2 ≠ .cell
  dbg : (x == ("__debug__" : Str)) = false
theorem lam_turn {prog : Program} {w : World} {A : Around} {s : Shared} {f : Addr} {L : LamD} {x : Str} {v pm ctv : Value} {k : Str} {d : Int} {rest : List PyData} (ho : s.heap.get? f = some (PySem.W.kla_obj "<lambda>" L.q L.params L.body L.scope L.cl pm L.c ctv))
    (hcd : s.heap.CodeRec (.ref L.c) L.q) (lim : s.heap.NoLimit) (ok : LamOk x L.params L.body L.scope) (hroom : A.depth < recursionLimit) (hr : Reads s.heap v (.tuple (.str k :: .int d :: rest)) []) (hz : rest.length ≤ 900) :
    wpAny (model prog w) A (call (.ref f) [v]) (PySem.W.KeyPure (.tuple [.int d, .str k, .tuple rest]) s) (fun _ _ => False) s := by
  have rc : codeAny (model prog w) A (.call (.ref f) ⟨[v], []⟩) (fun r s' => match r with | .ok (.ret u) => PySem.W.KeyPure (.tuple [.int d, .str k, .tuple rest]) s u s' | _ => False) s := by
    refine PySem.W.kla_callFunE hroom ho rfl ok.co ok.gen rfl hcd ?_
    rw [ok.bind]
    refine wpAny_pure (wpAny_newFunctionEnv ok.nocell (fun y hy => by rw [List.mem_singleton.mp hy]; exact ok.loc) (fun h1 hns hsb => ⟨lim.fresh _ hsb, ?_⟩) ok.kind)
    show codeAny _ _ (.expr L.body (PySem.W.envX L.q L.scope s.heap.objs.size f (.ref L.c) L.cl)) _ _
    have kp : ∀ b o, s.heap.get? b = some o → h1.get? b = some o := fun b o e => hsb.extBut b o (Nat.ne_of_lt (Heap.lt_size e)) (Heap.get?_push_of_some _ e)
    cases hr with
    | @tuple t o its n _ _ a1 a2 a3 a4 =>
      have len : its.toList.length = rest.length + 2 := by have := SeqAt.ReadsAll.length _ _ _ a4; simpa using this
      have ht : IsTup h1 t its.toList.toArray := ⟨o, kp _ _ a1, a2, n, by rw [a3, Array.toArray_toList]⟩
      obtain ⟨v0, v1, vr, el, r0, r1, rr⟩ : ∃ v0 v1 vr, its.toList = v0 :: v1 :: vr ∧ Reads s.heap v0 (.str k) [] ∧ Reads s.heap v1 (.int d) [] ∧ ReadsAll s.heap vr rest [] := by
        generalize its.toList = l at a4
        generalize hb : ([] : List Addr) = bs at a4
        cases a4 with
        | @cons v0 vs _ _ as1 bs1 c1 c2 =>
          have z := List.nil_eq_append_iff.mp hb
          obtain ⟨rfl, rfl⟩ := z
          generalize hb2 : ([] : List Addr) = bs at c2
          cases c2 with
          | @cons v1 vs _ _ as2 bs2 c3 c4 =>
            obtain ⟨rfl, rfl⟩ := List.nil_eq_append_iff.mp hb2
            exact ⟨v0, v1, vs, rfl, c1, c3, c4⟩
      refine PySem.W.kla_codeExpr (turn_raw (m := fun y => ([(x, Value.ref t)] : List (Str × Value)).reverse.lookup y) (t := t) (v0 := v0) (v1 := v1) ok.turn ok.kind ok.loc hns (by simp) ht (by rw [el]; rfl) (by rw [el]; rfl) (by omega) ok.dbg ?_ ?_)
      · intro h' hk
        obtain ⟨o', es', ep', ho', r'⟩ := hns
        exact ⟨o', es', ep', hk _ _ ho', r'⟩
      · intro h' tk r p hk hr2 hp
        refine ⟨h', tk, rfl, fun b o e => hk _ _ (kp _ _ e), ?_⟩
        have up : ∀ b o, s.heap.get? b = some o → h'.get? b = some o := fun b o e => hk _ _ (kp _ _ e)
        obtain ⟨op, ep1, ep2, np, ep3⟩ := hp
        obtain ⟨oq, eq1, eq2, nq, eq3⟩ := hr2
        rw [el] at eq3
        refine Reads.tuple ep1 ep2 ep3 (as := []) ?_
        show ReadsAll h' [v1, v0, .ref r] [.int d, .str k, .tuple rest] ([] ++ ([] ++ ([] ++ [])))
        exact .cons (PyProof.Rows.Reads.keeps up r1) (.cons (PyProof.Rows.Reads.keeps up r0) (.cons (.tuple eq1 eq2 eq3 (by simpa using PyProof.Rows.ReadsAll.keeps up rr)) .nil))
  refine wpAny_call (codeAny_mono rc fun r s' hq => ?_)
  cases r with
  | error e => exact hq.elim
  | ok fl =>
    cases fl with
    | ret u => exact hq
    | next => exact False.elim hq
    | brk => exact False.elim hq
    | cont => exact False.elim hq
end Cr
namespace Cr
open PySem PySem.Spec PyProof.Rows L2 LamX
/-- places put about: the second, the first, the rest -/
def turnD : PyData → PyData
  | .tuple (a :: b :: r) => .tuple [b, a, .tuple r]
  | e => e
section
variable {X : Cx} {pins : List (Addr × Obj)} {σ : St} {H : Hp} {s : Shared}
mutual
theorem Dt.rd (I : Inv X pins σ H s) : ∀ {d : PyData} {v : V} {u : Value}, Dt X.K H v d → RelV v u → Reads s.heap u d []
  | .none, _, _, h, r => by cases h; cases r; exact .none
  | .bool b, _, _, h, r => by cases h; cases r; exact .bool b
  | .int i, _, _, h, r => by cases h; obtain ⟨t, rfl⟩ := r; exact .int i t
  | .str x, _, _, h, r => by cases h; obtain ⟨t, rfl⟩ := r; exact .str x t
  | .list _, _, _, h, _ => by cases h
  | .tuple ds, _, _, h, r => by
    cases h with
    | tup hs ha =>
      cases r
      obtain ⟨its, rv, ⟨o, ho, hc, n, hd⟩, _⟩ := I.tuple hs
      exact .tuple ho hc hd (DtAll.rd I ha rv)
  | .dict _, _, _, h, _ => by cases h
theorem DtAll.rd (I : Inv X pins σ H s) : ∀ {ds : List PyData} {vs : List V} {us : List Value}, DtAll X.K H vs ds → Vals vs us → ReadsAll s.heap us ds []
  | [], _, _, h, r => by cases h; cases r; exact .nil
  | d :: ds, _, _, h, r => by
    cases h with
    | cons h1 h2 =>
      cases r with
      | cons r1 r2 => exact ReadsAll.cons (as := []) (bs := []) (Dt.rd I h1 r1) (DtAll.rd I h2 r2)
end
end
/-- sorted(.., key = the lambda): what it asks of the list, what comes -/
def SortT (K : PySem.W.Frag) (P : Addr) (q : Str) (x : V) (H : Hp) (Q : VK) : Prop := TabS H P q ∧ ∃ (a : Addr) (xs : List V) (ds : List PyData), x = .ref a ∧ SqL K H a xs ∧ A2 (fun v d => Dt K H v d) xs ds ∧ xs.length ≤ 1000 ∧ KeysOk (ds.map turnD) ∧
  (∀ d, d ∈ ds → ∃ k i r, d = .tuple (.str k :: .int i :: r) ∧ r.length ≤ 900) ∧
  ∀ p ys H1, ExtN H H1 → TabS H1 P q → H1 p = some (.lst ys) → (∀ o, H p = some o → ∃ ps, o = .tbl ps) → A2 (fun v d => Dt K H1 v d) ys (ds.mergeSort (PySem.W.dataLe false turnD)) → Q (.ref p) H1
def tSortT (K : PySem.W.Frag) (P : Addr) (q : Str) (te : TE) : TE := fun σ H Q => te σ H fun x H1 => SortT K P q x H1 Q
theorem extN_kt {H H' : Hp} (e : ExtN H H') : KT H H' := fun a o h t => e a o h fun ps z => by rw [z] at t; cases t
theorem extN_sqL {K : PySem.W.Frag} {H H' : Hp} {a : Addr} {xs : List V} (e : ExtN H H') (h : SqL K H a xs) : SqL K H' a xs := by
  rcases h with (h | ⟨o, h⟩) | h
  · exact .inl (.inl (e _ _ h fun ps z => by cases z))
  · exact .inl (.inr ⟨o, e _ _ h fun ps z => by cases z⟩)
  · exact .inr h
theorem a2_each {α : Type} {R : V → α → Prop} : ∀ {xs : List V} {its : List Value} {zs : List α}, Vals xs its → A2 R xs zs → PySem.W.EachIs (fun (u : Value) (p : V × α) => RelV p.1 u ∧ R p.1 p.2) its (xs.zip zs)
  | _, _, _, .nil, .nil => .nil
  | _, _, _, .cons r rs, .cons a b => .cons ⟨r, a⟩ (a2_each rs b)
theorem each_a2 {α : Type} {R : V → α → Prop} : ∀ {its : List Value} {ps : List (V × α)}, PySem.W.EachIs (fun (u : Value) (p : V × α) => RelV p.1 u ∧ R p.1 p.2) its ps → Vals (ps.map (·.1)) its ∧ A2 R (ps.map (·.1)) (ps.map (·.2))
  | _, _, .nil => ⟨.nil, .nil⟩
  | _, _, .cons h t => ⟨.cons h.1 (each_a2 t).1, .cons h.2 (each_a2 t).2⟩
section
variable {X : Cx} {k : Nat} {x y : Str} {p pos lpos kpos : Pos} {e : Expr} {te : TE} {c P : Addr} {params : Arguments} {body : Expr} {scope : Scope}
theorem pe_sortT (hr : Room k X.A) (TB : TabB X.base X.mg c P) (hcode : X.env.code = .ref c) (L : LamOk y params body scope) (hg : Gl X "sorted") (hm : X.mg "sorted" = none) (ha : PE X e te) (hdef : defaultsOf params X.env = ([], []) := by rfl) (hfree : ∀ y ∈ scope.names, y.2 ≠ .free := by decide)
    (he : starEach [e] X.env = [(false, eval e X.env)] := by rfl) :
    PE X (.Call (.Name "sorted" p) [e] [⟨some "key", .Lambda params body scope lpos, kpos⟩] pos) (tSortT X.K P (X.env.qual ++ "<lambda>") te) := by
  have he2 : backTo pos (starEach [e] X.env) = (false, eval e X.env) :: backTo pos (starEach [] X.env) := by rw [he]; rfl
  refine ⟨fun pins s σ H Q I h => ?_⟩
  refine wpAny_Call_Name_kw (ld_blt (u := .builtin "sorted") I hg hm (by decide +kernel) ?_ (by decide) (by decide))
  refine PyProof.Rows.callWith_kw ?_ he2 (by rw [he]; rfl) (by rfl) (by rfl)
  rw [he2]
  refine Calls.spliced_cons (thn (ha.run pins s σ H _ I h) fun u s1 ⟨v, H1, I1, r1, hT, a, xs, ds, ev, hs, hd, hz, K1, K2, q⟩ => ?_)
  subst ev
  cases r1
  refine Calls.spliced_nil ?_
  show wpAny _ _ (evalAll [do let v ← eval (.Lambda params body scope lpos) X.env; standAt pos; pure v]) _ _ s1
  refine wpAny_evalAll_cons (wpAny_bind (lam_make2 (T := [(P, X.env.qual ++ "<lambda>")]) I1 TB hcode List.mem_cons_self (fun p hp _ => by rw [List.mem_singleton.mp hp]) (fun p hp => by rw [List.mem_singleton.mp hp]; exact hT) hdef
    (fun y hy e => absurd e (hfree y hy)) fun f c' pm ctv H2 s2 I2 ex T2 hf nf _ hc => ?_))
  have T2' : TabS H2 P (X.env.qual ++ "<lambda>") := T2 _ List.mem_cons_self
  refine wpAny_bind (wpAny_standAt (wpAny_pure ?_))
  refine wpAny_evalAll_nil ?_
  show wpAny _ _ (call (.builtin "sorted") [.ref a] [(Str.ofString "key", .ref f)]) _ _ s2
  have hs2 := extN_sqL ex hs
  obtain ⟨its, rv, ⟨o, n, ho, hoc, hod, hdat⟩, _⟩ := I2.list hs2
  have hl : s2.heap.IsList a its.toArray := ⟨o, ho, hoc, n, hdat⟩
  have il : its.length ≤ 1000 := by rw [← rv.length]; exact hz
  have room : its.length ≤ sizeLine := Nat.le_of_lt (L2.small1000 il)
  have hd2 : A2 (fun v d => Dt X.K H2 v d) xs ds := hd.mono fun _ _ z => z.mono (extN_kt ex)
  obtain ⟨⟨oc, vs, t, o1, o2, o3⟩, _, _⟩ := I2.hok c' _ hc
  have lenz : xs.length = ds.length := hd.len
  have zf : (xs.zip ds).map Prod.fst = xs := by rw [List.map_fst_zip]; omega
  have zs : (xs.zip ds).map Prod.snd = ds := by rw [List.map_snd_zip]; omega
  refine sorted_turn (kz := ds.map turnD) (bs := xs.zip ds) (k := fun p => turnD p.2) (R := fun (u : Value) (p : V × PyData) => RelV p.1 u ∧ Dt X.K H2 p.1 p.2) hl (a2_each rv hd2) (by show _ = (xs.zip ds).map (turnD ∘ Prod.snd); rw [← List.map_map, zs]) room K1 ?_ (fun v p hR hp g tk keep => ?_) fun out cc g tk keep hg ho => ?_
  · have := hr.un; omega
  · obtain ⟨kd, i, r, ed, lr⟩ := K2 _ (List.of_mem_zip hp).2
    have rd := Dt.rd I2 hR.2 hR.1
    rw [ed] at rd
    show wpAny _ _ _ (PySem.W.KeyPure (turnD p.2) _) _ _
    rw [ed]
    exact lam_turn (L := ⟨X.env.qual ++ "<lambda>", params, body, scope, cloFrom X.env.cells scope.names [], c'⟩) (keep _ _ hf) ⟨c', oc, vs, t, rfl, keep _ _ o1, o2, o3⟩ (I2.nolimit.keeps keep) L (by have := hr.dp; show X.A.depth < _; omega) (PyProof.Rows.Reads.keeps keep rd) lr
  · have pm := List.mergeSort_perm (xs.zip ds) (PySem.W.dataLe false fun p : V × PyData => turnD p.2)
    generalize hzs : (xs.zip ds).mergeSort (PySem.W.dataLe false fun p : V × PyData => turnD p.2) = zz at ho pm
    obtain ⟨e1, e2⟩ := each_a2 ho
    have e3 : zz.map (·.2) = ds.mergeSort (PySem.W.dataLe false turnD) := by
      have := PySem.W.sort_maps (r := PySem.W.dataLe false fun p : V × PyData => turnD p.2) (s := PySem.W.dataLe false turnD) Prod.snd (l := xs.zip ds) (fun _ _ _ _ => rfl)
      rw [zs, hzs] at this
      exact this
    rw [e3] at e2
    have lz : (zz.map (·.1)).length ≤ sizeLine := by rw [List.length_map, pm.length_eq, List.length_zip, ← lenz, Nat.min_self]; exact Nat.le_of_lt (L2.small1000 hz)
    have le1 : s2.heap.objs.size ≤ s2.heap.objs.size + 1 := Nat.le_succ _
    have np : H2 (s2.heap.objs.size + 1) = none := I2.hok.fresh le1
    have I3 := I2.laid (t' := tk) (a := s2.heap.objs.size + 1) (o := .lst (zz.map (·.1))) keep le1 ⟨lz, _, cc, e1, hg⟩
    refine ⟨.ref _, _, I3, rfl, q _ (zz.map (·.1)) _ (fun b o e n => by rw [upd_ne (ne_of_none (ex b o e n) np)]; exact ex b o e n) (T2'.ext fun b o e => by rw [upd_ne (ne_of_none e np)]; exact e) upd_same (fun o e => ?_) (e2.mono fun _ _ z => z.mono (kt_new np))⟩
    by_cases z : ∃ ps, o = .tbl ps
    · exact z
    · have := ex _ _ e fun ps ez => z ⟨ps, ez⟩
      rw [np] at this
      cases this
end
end Cr

namespace Cr
open PySem PySem.Spec PySem.W PySem.Calls PyProof.Rows L2 L2.DX
/-! ### list.sort of what was just laid; sorted(d.items()) -/
section
variable {X : Cx} {pins : List (Addr × Obj)} {σ : St} {H : Hp} {s : Shared}
theorem sort_raw {h1 : Heap} {tk : Nat} {its : List Value} {xs : List V} {ds : List PyData} {A : Around} {E : Value → Shared → Prop} {R : Shared → Prop} (I1 : Inv X pins σ H { s with heap := h1, toks := tk }) (rv : Vals xs its) (hd : DtAll X.K H xs ds) (hal : AllAlike ds) (hk : Sortable ds) (hdep : ∀ d, d ∈ ds → d.depth ≤ 32) (hz : xs.length ≤ 1000) (hu : A.units + 40 < cLine)
    (q : ∀ ys s', H h1.objs.size = none → ys.Perm xs → A2 (fun v d => Dt X.K H v d) ys (sortD ds) → Inv X pins σ (upd H h1.objs.size (.lst ys)) s' → R s') :
    wpAny (model X.prog X.w) A (call (.builtin "list.sort") [.ref h1.objs.size]) (fun _ s' => R s') E { s with heap := h1.push { cls := .type "list", data := .seq its.toArray }, toks := tk } := by
  have il : its.length ≤ 1000 := by rw [← rv.length]; exact hz
  have room : its.length ≤ sizeLine := Nat.le_of_lt (L2.small1000 il)
  generalize hh2 : h1.push { cls := .type "list", data := .seq its.toArray } = h2
  generalize hp : h1.objs.size = p at q
  have at2 : h2.get? p = some (seqObj "list" its.toArray 0) := by rw [← hh2, ← hp]; exact Heap.get?_push_size _ rfl
  have old2 : ∀ b o, h1.get? b = some o → h2.get? b = some o := fun b o e => by rw [← hh2]; exact Heap.get?_push_of_some _ e
  have nep : ∀ b o, h1.get? b = some o → b ≠ p := fun b o e => by rw [← hp]; exact Nat.ne_of_lt (Heap.lt_size e)
  have lens : its.length = (xs.zip ds).length := (pairs_each rv hd).length
  obtain ⟨zf, zs, zd⟩ := zip_dt hd
  have er : EachIs (fun v (b : V × PyData) => ∃ as, Reads (sortingHeap h2 p its) v b.2 as) its (xs.zip ds) := (pairs_each rv hd).mono fun v b ⟨r1, d1⟩ => by
    obtain ⟨as, rd⟩ := Dp.reads I1 _ _ _ d1.dp r1
    exact ⟨as, PyProof.Rows.Reads.keeps (fun b o e => sortingHeap_old (nep b o e) (old2 b o e)) rd⟩
  have al2 : AllAlike ((xs.zip ds).map Prod.snd) := by rw [zs]; exact hal
  have so2 : Sortable ((xs.zip ds).map Prod.snd) := by rw [zs]; exact hk
  refine wpAny_call_entry slot_list_sort ⟨_, at2, rfl⟩ entry_list_sort (list_sort_vals (κ := dataKind (sortingHeap h2 p its) ((xs.zip ds).map Prod.snd)) at2
    (SortsAt.data (s := { s with heap := sortingHeap h2 p its, toks := tk }) (each_map (R := fun v d => ∃ as, Reads (sortingHeap h2 p its) v d as) Prod.snd er) al2 so2 (bound_map fun b hb => ?_)) room ⟨.none, rfl, ?_⟩) (args_list_sort _)
  · have dep := hdep _ (List.of_mem_zip hb).2
    show A.units + 1 + b.snd.depth < cLine
    omega
  · have out := sortVals_data (h' := sortingHeap h2 p its) (R := fun v (b : V × PyData) => RelV b.1 v) (enc := Prod.snd) false ((pairs_each rv hd).mono fun _ _ z => z.1) er al2
    clear room
    generalize sortVals (dataKind (sortingHeap h2 p its) ((xs.zip ds).map Prod.snd)) false its its = got at out ⊢
    obtain ⟨c, at3⟩ := sortedHeap_at (out := got.toArray) at2
    have sz2 : h2.objs.size = p + 1 := by rw [← hh2, ← hp, Heap.size_push]
    have keep3 : ∀ b o, h1.get? b = some o → (sortedHeap h2 p its got.toArray).get? b = some o := fun b o e => by
      have lt : b < h2.objs.size := Nat.lt_of_lt_of_le (Heap.lt_size e) (by rw [sz2, hp]; exact Nat.le_succ _)
      rw [sortedHeap_old (nep b o e) lt]
      exact old2 b o e
    have pm := (List.mergeSort_perm (xs.zip ds) (dataLe false Prod.snd))
    have lys : (((xs.zip ds).mergeSort (dataLe false Prod.snd)).map Prod.fst).length ≤ sizeLine := by
      rw [List.length_map, pm.length_eq, ← lens]
      exact Nat.le_of_lt (L2.small1000 il)
    have I3 := I1.laid (t' := tk) (a := p) (o := .lst (((xs.zip ds).mergeSort (dataLe false Prod.snd)).map Prod.fst)) keep3 (Nat.le_of_eq hp) ⟨lys, got, c, vals_each out, at3⟩
    refine q _ _ (I1.hok.fresh (Nat.le_of_eq hp)) ?_ ?_ I3
    · have e := pm.map Prod.fst
      rw [zf] at e
      exact e
    · have e : ((xs.zip ds).mergeSort (dataLe false Prod.snd)).map Prod.snd = sortD ds := by
        have e1 := sort_maps (r := dataLe false Prod.snd) (s := dataLe false (id : PyData → PyData)) Prod.snd (l := xs.zip ds) (fun _ _ _ _ => rfl)
        rw [zs] at e1
        exact e1
      rw [← e]
      exact a2_pairs fun z hz => zd z (pm.mem_iff.mp hz)
end
/-- texts and whole numbers, as a dict, as pairs -/
abbrev prD (p : Str × Int) : PyData := .tuple [.str p.1, .int p.2]
def dOf (ps : List (Str × Int)) : List (Key × V) := ps.map fun p => (.inr p.1, .int p.2)
theorem prs_alike (ps : List (Str × Int)) : AllAlike (ps.map prD) := AllAlike.of fun a b => by simp [alike, alikeAll]
theorem prs_sortable (ps : List (Str × Int)) : Sortable (ps.map prD) := Sortable.tuples fun b => ⟨_, _, rfl⟩
theorem prs_depth (ps : List (Str × Int)) : ∀ d, d ∈ ps.map prD → d.depth ≤ 32 := fun d hd => by
  obtain ⟨p, _, rfl⟩ := List.mem_map.mp hd
  simp [PyData.depth, PyData.depthAll]
section
variable {X : Cx}
theorem key_str {P : Program} {w : World} {x : Str} {u : Value} (h : (mixKind P w).is (.inr x) u = true) : ∃ t, u = .str x t := by
  rw [mixKind_is] at h
  rcases keyIs_shape h with ⟨i, t, e, _⟩ | ⟨y, t, e, rfl⟩
  · cases e
  · cases e; exact ⟨t, rfl⟩
theorem das_at {K : PySem.W.Frag} {H : Hp} : ∀ {vs : List V} {ds : List PyData}, vs.length = ds.length → (∀ (j : Nat) (x : V) (d : PyData), vs[j]? = some x → ds[j]? = some d → Dt K H x d) → DtAll K H vs ds
  | [], [], _, _ => .nil
  | [], _ :: _, h, _ => nomatch h
  | _ :: _, [], h, _ => nomatch h
  | x :: xs, d :: ds, h, r => .cons (r 0 x d rfl rfl) (das_at (Nat.succ.inj h) fun j a b h1 h2 => r (j + 1) a b h1 h2)
def rItemsK : V → List V → Hp → VK → Prop := fun x xs H Q => ∃ (a : Addr) (kvs : List (Key × V)), x = .ref a ∧ xs = [] ∧ H a = some (.dK kvs) ∧ ∀ p, H p = none → Q (.ref p) (upd H p (itemsO p a))
theorem mt_itemsK : MtR X "dict.items" rItemsK := by
  intro pins s σ H x xs v us Q I rx rxs h
  obtain ⟨a, kvs, rfl, rfl, ha, q⟩ := h
  cases rx
  cases rxs
  obtain ⟨z, low, ks, rel, dd⟩ := dk_of I.hok ha
  obtain ⟨es, ep, ⟨o, ho, hx, hdat⟩, _⟩ := Heap.DictOf.raw dd
  refine DT.callItems (es := es) (ep := ep) low ⟨o, ho, hx, hdat⟩ ?_
  exact ⟨.ref s.heap.objs.size, upd H s.heap.objs.size (itemsO s.heap.objs.size a), I.laid (t' := s.toks) (fun b u e => Heap.get?_push_of_some _ e) (Nat.le_refl _) (itemsO_ok (Heap.get?_push_size _ rfl)), rfl, q _ (I.hok.fresh (Nat.le_refl _))⟩
def rSortItK (K : PySem.W.Frag) : List V → Hp → VK → Prop := fun vs H Q => ∃ (p a : Addr) (ps : List (Str × Int)), vs = [.ref p] ∧ H p = some (itemsO p a) ∧ H a = some (.dK (dOf ps)) ∧ ps.length ≤ 1000 ∧
  ∀ (H' : Hp) (l : Addr) (ys : List V), Same H H' → H l = none → H' l = some (.lst ys) → DtAll K H' ys (sortD (ps.map prD)) → Q (.ref l) H'
theorem cr_sortItK (hc : X.calm = true) (hu : X.A.units + 64 < cLine) : CallR X (.builtin "sorted") (rSortItK X.K) := by
  intro pins s σ H xs us Q I r h
  obtain ⟨p, a, ps, rfl, hp, ha, hz, q⟩ := h
  rw [Vals.ref1 r]
  have view : s.heap.IsItemsView p a := (show ObjOk X.prog X.w H s.heap p (itemsO p a) from I.hok p _ hp).1
  obtain ⟨z, low, ks, rel, dd⟩ := dk_of I.hok ha
  obtain ⟨es, ep, ⟨o, ho, hx, hdat⟩, hsz, hes⟩ := Heap.DictOf.raw dd
  have lk : ks.length = ps.length := by rw [← KV.length rel]; unfold dOf; rw [List.length_map]
  have l1000 : es.size ≤ 1000 := by omega
  refine DT.sortedI (es := es) (ep := ep) (I.ok.hd hc) view ⟨o, ho, hx, hdat⟩ (Nat.le_of_lt (L2.small1000 l1000)) fun h' tk as hk hlt hl hG => ?_
  have I0 : Inv X pins σ H { s with heap := h', toks := tk } := I.kept hk
  have nd : as.Nodup := List.Pairwise.imp (fun h => Nat.ne_of_lt h) hG.rise
  have pr : ∀ (j : Nat) (b : Addr), as[j]? = some b → ∃ e : Str × Int, ps[j]? = some e ∧ ∃ t u, h'.get? b = some { cls := .type "tuple", data := .seq #[Value.str e.1 t, Value.int e.2 u] } := by
    intro j b hj
    obtain ⟨en, he, hg⟩ := hG.pairs j b hj
    obtain ⟨jl, ej⟩ := Array.getElem?_eq_some_iff.mp he
    have jk : j < ks.length := by omega
    obtain ⟨x, h1, h2⟩ := KV.at' rel (i := j) (k := ks[j].1) (v := ks[j].2) (List.getElem?_eq_getElem jk)
    obtain ⟨k1, k2⟩ := hes j jl ks[j].1 ks[j].2 (List.getElem?_eq_getElem jk)
    have jp : j < ps.length := by omega
    unfold dOf at h1
    rw [List.getElem?_map, List.getElem?_eq_getElem jp] at h1
    have h1' := Option.some.inj h1
    refine ⟨ps[j], List.getElem?_eq_getElem jp, ?_⟩
    have ek : ks[j].1 = .inr ps[j].1 := (congrArg Prod.fst h1').symm
    have ev : x = .int ps[j].2 := (congrArg Prod.snd h1').symm
    rw [ek] at k1
    rw [ev] at h2
    obtain ⟨u, eu⟩ := h2
    have kt : ∃ t, es[j].key = .str ps[j].1 t := key_str k1
    obtain ⟨t, et⟩ := kt
    refine ⟨t, u, ?_⟩
    rw [hg, ← ej, et, k2, eu]
  obtain ⟨H2, I2, ext, tk2⟩ := takeT (P := fun b vs => ∃ e : Str × Int, vs = [.str e.1, .int e.2] ∧ ∃ j, as[j]? = some b ∧ ps[j]? = some e) I as H I0 nd fun b hb => by
    obtain ⟨j, hj⟩ := List.mem_iff_getElem?.mp hb
    obtain ⟨e, he, t, u, hg⟩ := pr j b hj
    refine ⟨Nat.le_of_lt (hG.above b hb), I.hok.fresh (Nat.le_of_lt (hG.above b hb)), [.str e.1, .int e.2], ⟨e, rfl, j, hj, he⟩, fun H2 => ⟨by show 2 ≤ sizeLine; decide, [Value.str e.1 t, Value.int e.2 u], .cons ⟨t, rfl⟩ (.cons ⟨u, rfl⟩ .nil), ⟨_, hg, rfl, 0, rfl⟩⟩⟩
  have das : DtAll X.K H2 (as.map V.ref) (ps.map prD) := by
    have la : as.length = ps.length := by omega
    refine das_at (by rw [List.length_map, List.length_map]; exact la) fun j x d e1 e2 => ?_
    rw [List.getElem?_map] at e1 e2
    cases q1 : as[j]? with
    | none => rw [q1] at e1; cases e1
    | some b =>
      cases q2 : ps[j]? with
      | none => rw [q2] at e2; cases e2
      | some e =>
        rw [q1] at e1; rw [q2] at e2
        cases e1; cases e2
        obtain ⟨vs, ⟨e', rfl, j', w1, w2⟩, ht⟩ := tk2 b (List.mem_of_getElem? q1)
        have ej : j' = j := by
          obtain ⟨l1, f1⟩ := List.getElem?_eq_some_iff.mp w1
          obtain ⟨l2, f2⟩ := List.getElem?_eq_some_iff.mp q1
          exact (List.getElem_inj nd).mp (f1.trans f2.symm)
        subst ej
        rw [q2] at w2; cases w2
        exact .tup (.of ht) (.cons (.str _) (.cons (.int _) .nil))
  have rvs : Vals (as.map V.ref) (as.map Value.ref) := by
    clear hl hG nd pr tk2 das
    induction as with
    | nil => exact .nil
    | cons b bs ih => exact .cons rfl ih
  refine sort_raw I2 rvs das (prs_alike ps) (prs_sortable ps) (prs_depth ps) (by rw [List.length_map, hl]; exact l1000) (by show X.A.units + 1 + 40 < cLine; omega) fun ys s' nl pm h2 I3 => ?_
  refine ⟨.ref h'.objs.size, _, I3, rfl, q _ _ ys (fun b o e => by rw [upd_ne (ne_of_none (ext b o e) nl)]; exact ext b o e) (I0.hok.fresh (Nat.le_refl _)) upd_same ?_⟩
  exact DtAll.mono (kt_new nl) (by have := a2_das (f := fun d => d) h2; rwa [List.map_id'] at this)
end
end Cr
namespace Cr
open PySem PySem.Spec PyProof.Rows L2 L2.DX LamX
/-! ### steps over such dicts -/
def lookP (ps : List (Str × Int)) (t : Str) : Option Int := (ps.find? fun p => decide (p.1 = t)).map (·.2)
def setP (ps : List (Str × Int)) (t : Str) (c : Int) : List (Str × Int) := if (ps.any fun p => decide (p.1 = t)) = true then ps.map (fun p => if p.1 = t then (p.1, c) else p) else ps ++ [(t, c)]
def dropP (ps : List (Str × Int)) (t : Str) : List (Str × Int) := ps.filter fun p => decide (p.1 ≠ t)
theorem inr_iff {a b : Str} : ((.inr a : Key) = .inr b) ↔ a = b := ⟨Sum.inr.inj, fun h => by rw [h]⟩
theorem valV_dOf (ps : List (Str × Int)) (t : Str) : valV (dOf ps) (.inr t) = (lookP ps t).map V.int := by
  induction ps with
  | nil => rfl
  | cons p ps ih =>
    by_cases h : p.1 = t
    · rw [show valV (dOf (p :: ps)) (.inr t) = some (V.int p.2) from valV_pos (p := ((.inr p.1 : Key), V.int p.2)) (by rw [h])]
      unfold lookP; rw [List.find?_cons_of_pos (by simp [h])]; rfl
    · rw [show valV (dOf (p :: ps)) (.inr t) = valV (dOf ps) (.inr t) from valV_neg (p := ((.inr p.1 : Key), V.int p.2)) (fun z => h (inr_iff.mp z)), ih]
      unfold lookP; rw [List.find?_cons_of_neg (by simp [h])]
theorem putK_dOf (ps : List (Str × Int)) (t : Str) (c : Int) : putK (dOf ps) (.inr t) (.int c) = dOf (setP ps t c) := by
  unfold putK setP
  have e : ((dOf ps).any fun kv => decide (kv.1 = (.inr t : Key))) = ps.any fun p => decide (p.1 = t) := by
    unfold dOf; rw [List.any_map]; congr 1; funext p; exact decide_eq_decide.mpr inr_iff
  rw [e]
  split
  · unfold dOf; rw [List.map_map, List.map_map]
    refine List.map_congr_left fun p _ => ?_
    show (if (.inr p.1 : Key) = .inr t then _ else _) = _
    by_cases h : p.1 = t
    · rw [if_pos (inr_iff.mpr h)]; show _ = ((.inr (if p.1 = t then (p.1, c) else p).1 : Key), V.int (if p.1 = t then (p.1, c) else p).2); rw [if_pos h]
    · rw [if_neg (fun z => h (inr_iff.mp z))]; show _ = ((.inr (if p.1 = t then (p.1, c) else p).1 : Key), V.int (if p.1 = t then (p.1, c) else p).2); rw [if_neg h]
  · unfold dOf; rw [List.map_append]; rfl
theorem dropK_dOf (ps : List (Str × Int)) (t : Str) : dropK (dOf ps) (.inr t) = dOf (dropP ps t) := by
  unfold dropK dropP dOf
  rw [List.filter_map]
  congr 1
  refine List.filter_congr fun p _ => ?_
  exact decide_eq_decide.mpr (not_congr inr_iff)
theorem setP_len (ps : List (Str × Int)) (t : Str) (c : Int) : (setP ps t c).length ≤ ps.length + 1 := by
  unfold setP; split
  · rw [List.length_map]; omega
  · rw [List.length_append]; exact Nat.le_refl _
theorem dOf_len (ps : List (Str × Int)) : (dOf ps).length = ps.length := List.length_map _
theorem setP_new {ps : List (Str × Int)} {t : Str} {c : Int} (h : t ∉ ps.map Prod.fst) : setP ps t c = ps ++ [(t, c)] := by
  unfold setP
  rw [if_neg]
  intro z
  obtain ⟨p, hp, e⟩ := List.any_eq_true.mp z
  exact h (List.mem_map.mpr ⟨p, hp, of_decide_eq_true e⟩)
theorem room5 {n : Nat} (h : n ≤ 100000) : n < sizeLine := by rw [sizeLine_eq]; omega
section
variable {K : PySem.W.Frag} {σ : St} {H : Hp} {Q : VK} {D : Ends}
def DcR (J : It) (g : TG) (tt : TT) (tk tv : TE) (vs : List Nat) (σ : St) (H1 : Hp) (Q : VK) : Prop := ∀ D, H1 D = none → ∃ W : Nat → Nat → Hp → Prop, (∃ m, W 0 m (upd H1 D (.dK []))) ∧ ∀ i m H, W i m H →
  (J.stop i H ∧ Q (.ref D) H) ∨ (J.go i H ∧ ∃ Nx : Hp → Prop, (∀ H', Nx H' → ∃ m', m' < m ∧ W (i + 1) m' H') ∧ ∀ x H', J.yld i H x H' → g x (wipe σ vs) H' fun σ2 H2 => wipe σ2 vs = wipe σ vs ∧ tt σ2 H2 fun b H3 =>
    if b = true then tk σ2 H3 fun y H4 => tv σ2 H4 fun z H5 => ∃ kvs k, y = kV k ∧ H5 D = some (.dK kvs) ∧ kvs.length < sizeLine ∧ Nx (upd H5 D (.dK (putK kvs k z))) else Nx H3)
theorem s_dc {wi : TI} {g : TG} {tt : TT} {tk tv : TE} {vs : List Nat} (h : wi σ H fun J H1 => DcR J g tt tk tv vs σ H1 Q) : tDc wi g tt tk tv vs σ H Q := h
/-- {k: v for k, v in pairs} -/
theorem c_dcT {a : Addr} {xs : List V} {ps : List (Str × Int)} {g : TG} {tk tv : TE} {vs : List Nat} (hs : SqT K H a xs) (hx : DtAll K H xs (ps.map prD)) (nd : (ps.map Prod.fst).Nodup) (hz : ps.length ≤ 1000)
    (turn : ∀ x p A (N : V → V → Hp → Prop), p ∈ ps → Dt K A x (prD p) → Same H A → N (.str p.1) (.int p.2) A → g x (wipe σ vs) A fun σ2 B => wipe σ2 vs = wipe σ vs ∧ tk σ2 B fun y C => tv σ2 C fun z D => N y z D)
    (fin : ∀ p A, Same H A → H p = none → A p = some (.dK (dOf ps)) → Q (.ref p) A) : DcR (Itt K a) g tYes tk tv vs σ H Q := by
  intro D hD
  have lx : xs.length = ps.length := by rw [hx.len, List.length_map]
  refine dc_tup (xs := xs) (fun i A => Same H A ∧ A D = some (.dK (dOf (ps.take i)))) ⟨same_new hD, upd_same⟩ (fun i A _ p => sqT_kt (kt_same p.1) hs) (fun i x A ex ⟨sm, hA⟩ => ?_) (fun A ⟨sm, hA⟩ => fin D A sm hD (by rw [lx, List.take_length] at hA; exact hA))
  obtain ⟨d, ed, hxd⟩ := (hx.mono (kt_same sm)).item ex
  rw [List.getElem?_map] at ed
  cases ep : ps[i]? with
  | none => rw [ep] at ed; cases ed
  | some p =>
    rw [ep] at ed
    cases ed
    refine turn x p A _ (List.mem_of_getElem? ep) hxd sm ?_
    have hn : p.1 ∉ (ps.take i).map Prod.fst := by
      intro z
      rw [List.map_take] at z
      obtain ⟨j, hj, e⟩ := List.mem_take_iff_getElem.mp z
      have hi := (List.getElem?_eq_some_iff.mp ep)
      obtain ⟨hi, e2⟩ := hi
      have : (ps.map Prod.fst)[i]'(by rw [List.length_map]; exact hi) = p.1 := by rw [List.getElem_map, e2]
      have hji := (List.getElem_inj nd).mp (e.trans this.symm)
      omega
    refine ⟨dOf (ps.take i), .inr p.1, rfl, hA, room5 (by rw [dOf_len, List.length_take]; omega), same_mut sm hD, ?_⟩
    rw [upd_same, putK_dOf, setP_new hn, List.take_add_one, ep]
    rfl
/-- [e for k, v in d.items()], d locked -/
theorem c_items {d : Addr} {o : Obj} {ps : List (Str × Int)} {g : TG} {te : TE} {vs : List Nat} (f : Str × Int → V) (hd : H d = some (.frz o (.dK (dOf ps)))) (hz : ps.length ≤ 1000)
    (turn : ∀ x p A (N : V → Hp → Prop), p ∈ ps → Dt K A x (prD p) → Same H A → (∀ B, Same A B → N (f p) B) → g x (wipe σ vs) A fun σ2 B => wipe σ2 vs = wipe σ vs ∧ te σ2 B N)
    (fin : ∀ p A, Same H A → H p = none → A p = some (.lst (ps.map f)) → Q (.ref p) A) : LcR (Iti d o (dOf ps)) g tYes te vs σ H Q := by
  intro D hD
  refine ⟨fun i m A => m = ps.length - i ∧ i ≤ ps.length ∧ Same H A ∧ A D = some (.lst ((ps.take i).map f)), ⟨_, rfl, Nat.zero_le _, same_new hD, upd_same⟩, ?_⟩
  rintro i m A ⟨rfl, hi, sm, hA⟩
  have hdA := sm _ _ hd
  by_cases hlt : i < ps.length
  · refine .inr ⟨⟨hdA, by rw [dOf_len]; exact hlt⟩, fun A' => Same H A' ∧ A' D = some (.lst ((ps.take (i + 1)).map f)), fun A' ⟨s1, h1⟩ => ⟨ps.length - (i + 1), by omega, rfl, hlt, s1, h1⟩, fun x A' y => ?_⟩
    obtain ⟨T, k, v, ekv, rfl, nT, rfl⟩ := y
    have ep : ps[i]? = some ps[i] := List.getElem?_eq_getElem hlt
    unfold dOf at ekv
    rw [List.getElem?_map, ep] at ekv
    cases ekv
    have nDT : D ≠ T := fun z => by rw [← z, hA] at nT; cases nT
    have hx : Dt K (upd A T (.tup [.str ps[i].1, .int ps[i].2])) (.ref T) (prD ps[i]) := dt_new (.cons (.str _) (.cons (.int _) .nil)) nT
    refine turn (.ref T) ps[i] _ _ (List.getElem_mem hlt) hx (sm.trans (same_new nT)) fun B sB => ?_
    refine ⟨(ps.take i).map f, sB _ _ (by rw [upd_ne nDT]; exact hA), room5 (by rw [List.length_map, List.length_take]; omega), same_mut ((sm.trans (same_new nT)).trans sB) hD, ?_⟩
    rw [upd_same, List.take_add_one, ep, List.map_append]
    rfl
  · have e : i = ps.length := by omega
    subst e
    refine .inl ⟨⟨hdA, by rw [dOf_len]; exact Nat.le_refl _⟩, ?_⟩
    rw [List.take_length] at hA
    exact fin D A sm hD hA
def LockQ (x : V) (t : TE) (σ : St) (H : Hp) (Q : VK) : Prop := ∃ d u, x = V.ref d ∧ H d = some u ∧ Mut (some u) ∧ ∀ od, t σ (upd H d (.frz od u)) fun v H' => H' d = some (.frz od u) ∧ Q v (upd H' d u)
theorem s_lockE {t : TE} (d : Addr) (kvs : List (Key × V)) (hd : H d = some (.dK kvs)) (h : ∀ od, t σ (upd H d (.frz od (.dK kvs))) fun v H' => H' d = some (.frz od (.dK kvs)) ∧ Q v (upd H' d (.dK kvs))) : tLockE t σ H Q := ⟨d, _, hd, True.intro, h⟩
theorem same_lock {H A : Hp} {d : Addr} {od : Obj} {kvs : List (Key × V)} (hd : H d = some (.dK kvs)) (s : Same (upd H d (.frz od (.dK kvs))) A) : Same H (upd A d (.dK kvs)) := fun b o e => by
  by_cases z : b = d
  · rw [z, hd] at e; rw [z, upd_same]; exact e
  · rw [upd_ne z]; exact s _ _ (by rw [upd_ne z]; exact e)
def rDictD : List V → Hp → VK → Prop := fun xs H Q => ∃ (a : Addr) (kvs : List (Key × V)), xs = [.ref a] ∧ Rd H a (.dK kvs) ∧ ∀ p, H p = none → Q (.ref p) (upd H p (.dK kvs))
theorem call_dictU {X : Cx} : CallR X (.type "dict") rDictD := call_dictD
theorem s_dictD {d : Addr} {kvs : List (Key × V)} (e : H d = some (.dK kvs)) (h : ∀ p, H p = none → Q (.ref p) (upd H p (.dK kvs))) : rDictD [.ref d] H Q := ⟨d, kvs, rfl, .inl e, h⟩
def rLenD : List V → Hp → VK → Prop := fun xs H Q => ∃ (a : Addr) (kvs : List (Key × V)), xs = [V.ref a] ∧ H a = some (.dK kvs) ∧ Q (.int kvs.length) H
theorem call_lenDU {X : Cx} : CallR X (.builtin "len") rLenD := call_lenD
theorem s_lenD {d : Addr} {kvs : List (Key × V)} (e : H d = some (.dK kvs)) (h : Q (.int kvs.length) H) : rLenD [.ref d] H Q := ⟨d, kvs, rfl, e, h⟩
theorem s_sum {a : Addr} {ns : List Int} (hs : SqL K H a (ns.map V.int)) (h : Q (.int ns.sum) H) : rSum K [.ref a] H Q := ⟨a, ns, rfl, hs, h⟩
theorem s_anyB {a : Addr} {bs : List Bool} (hs : SqL K H a (bs.map V.bl)) (h : Q (.bl (bs.any id)) H) : rAny K [.ref a] H Q := ⟨a, bs, rfl, hs, h⟩
def PopQ (a : Addr) (y : V) (H2 : Hp) (Q : VK) : Prop := ∃ kvs k v, H2 a = some (.dK kvs) ∧ y = kV k ∧ valV kvs k = some v ∧ Q v (upd H2 a (.dK (dropK kvs k)))
theorem s_dpop1 {td ty : TE} (h : td σ H fun x H1 => GetA x H1 fun a => ty σ H1 fun y H2 => PopQ a y H2 Q) : tDPop1 td ty σ H Q := h
theorem s_popS {d : Addr} {ps : List (Str × Int)} {t : Str} {c : Int} (e : H d = some (.dK (dOf ps))) (l : lookP ps t = some c) (h : Q (.int c) (upd H d (.dK (dOf (dropP ps t))))) : PopQ d (.str t) H Q :=
  ⟨dOf ps, .inr t, .int c, e, rfl, by rw [valV_dOf, l]; rfl, by rw [dropK_dOf]; exact h⟩
def AugQ (K : PySem.W.Frag) (x : V) (f : Str) (tv : TE) (rd : V → V → Hp → VK → Prop) (σ : St) (H1 : Hp) (N : Hp → Prop) : Prop := ∃ a C dx fs v, x = .ref a ∧ H1 a = some (.ins C dx fs) ∧ Cls K C ∧ NoAttr K C f ∧ fs.lookup f = some v ∧
  tv σ H1 fun y H2 => rd v y H2 fun z H3 => ∃ dx' fs', H3 a = some (.ins C dx' fs') ∧ fs'.length < 1000 ∧ N (upd H3 a (.ins C dx' (putF f z fs')))
theorem s_fldaug {ta tv : TE} {rd : V → V → Hp → VK → Prop} {f : Str} (h : ta σ H fun x H1 => AugQ K x f tv rd σ H1 (D.nx σ)) : sFldAug K ta tv rd f D σ H := h
theorem s_ext2 {l b : Addr} {xs zs : List V} (h1 : H l = some (.lst xs)) (h2 : H b = some (.lst zs)) (hz : xs.length + zs.length ≤ sizeLine) (h : Q (.ref l) (upd H l (.lst (xs ++ zs)))) : rExt2 (.ref l) (.ref b) H Q := ⟨l, b, xs, zs, rfl, rfl, h1, h2, hz, h⟩
def FldW (K : PySem.W.Frag) (f : Str) (y x : V) (H2 : Hp) (N : Hp → Prop) : Prop := ∃ p C dx fs, x = V.ref p ∧ H2 p = some (.ins C dx fs) ∧ Cls K C ∧ NoAttr K C f ∧ fs.length < 1000 ∧ N (upd H2 p (.ins C dx (putF f y fs)))
theorem s_fldW {ta tv : TE} {f : Str} (h : tv σ H fun y H1 => ta σ H1 fun x H2 => FldW K f y x H2 (D.nx σ)) : sFld K ta tv f D σ H := h
end
end Cr

namespace Cr
open PySem PySem.Spec PyProof.Rows L2 L2.DX LamX
/-! ### the mirror of a course and its days -/
structure DayR where
  at_ : Int
  rows : List E3
  growth : Rat
  shares : List (Str × Rat)
  homes : List Str
  idle : List E3
  told : List (Str × Int)
  rate : Int
  holding : List (Str × Int)
  lie : List (Str × Int)
structure CourseR where
  told : List (Str × Int)
  holding : List (Str × Int)
  lie : List (Str × Int)
  rate : Int
abbrev shD (p : Str × Rat) : PyData := .tuple [.str p.1, fr p.2]
/-- where they stand -/
structure CDA where
  a : Addr
  dx : Addr
  to : Addr
  ho : Addr
  li : Addr
  e : Addr
  ex : Addr
  r : Addr
  sh : Addr
  hm : Addr
  id : Addr
  td : Addr
  hl : Addr
  le : Addr
def CDA.all (p : CDA) : List Addr := [p.a, p.to, p.ho, p.li, p.e, p.r, p.sh, p.hm, p.id, p.td, p.hl, p.le]
def LstOf (K : PySem.W.Frag) (H : Hp) (b : Addr) (ds : List PyData) : Prop := ∃ vs, H b = some (.lst vs) ∧ DtAll K H vs ds
theorem LstOf.up {K : PySem.W.Frag} {H H' : Hp} {b : Addr} {ds : List PyData} (h : LstOf K H b ds) (k : KT H H') (e : ∀ o, H b = some o → H' b = some o) : LstOf K H' b ds := let ⟨vs, h1, h2⟩ := h; ⟨vs, e _ h1, h2.mono k⟩
abbrev crsF (to ho li : Addr) (rate : Int) : List (Str × V) := [("told", .ref to), ("holding", .ref ho), ("lie", .ref li), ("rate", .int rate)]
abbrev dayF (at_ : Int) (r : Addr) (g : V) (sh hm id td : Addr) (rate : Int) (hl le : Addr) : List (Str × V) := [("at", .int at_), ("rows", .ref r), ("growth", g), ("shares", .ref sh), ("homes", .ref hm), ("idle_rows", .ref id), ("told", .ref td), ("rate", .int rate), ("holding", .ref hl), ("lie", .ref le)]
structure CD (K : PySem.W.Frag) (Cc Cd : Addr) (H : Hp) (p : CDA) (c : CourseR) (d : DayR) : Prop where
  hc : H p.a = some (.ins Cc p.dx (crsF p.to p.ho p.li c.rate))
  hto : H p.to = some (.dK (dOf c.told))
  hho : H p.ho = some (.dK (dOf c.holding))
  hli : LstOf K H p.li (c.lie.map prD)
  he : ∃ g, H p.e = some (.ins Cd p.ex (dayF d.at_ p.r g p.sh p.hm p.id p.td d.rate p.hl p.le)) ∧ Dt K H g (fr d.growth)
  hr : LstOf K H p.r (d.rows.map dE)
  hsh : LstOf K H p.sh (d.shares.map shD)
  hhm : H p.hm = some (.lst (d.homes.map V.str))
  hid : LstOf K H p.id (d.idle.map dE)
  htd : H p.td = some (.dK (dOf d.told))
  hhl : LstOf K H p.hl (d.holding.map prD)
  hle : LstOf K H p.le (d.lie.map prD)
  nd : p.all.Nodup
/-- all but the addresses L stays -/
def Keep (L : List Addr) (H H' : Hp) : Prop := ∀ b o, b ∉ L → H b = some o → H' b = some o
theorem Keep.refl (L : List Addr) (H : Hp) : Keep L H H := fun _ _ _ e => e
theorem Keep.trans {L : List Addr} {H H1 H2 : Hp} (a : Keep L H H1) (b : Keep L H1 H2) : Keep L H H2 := fun c o n e => b c o n (a c o n e)
theorem Keep.same {L : List Addr} {H H' : Hp} (e : Same H H') : Keep L H H' := fun b o _ h => e b o h
theorem Keep.mono {L M : List Addr} {H H' : Hp} (k : Keep L H H') (s : ∀ b, b ∈ L → b ∈ M) : Keep M H H' := fun b o n e => k b o (fun z => n (s b z)) e
theorem Keep.upd {L : List Addr} {H : Hp} {b : Addr} {o : HO} (h : b ∈ L) : Keep L H (upd H b o) := fun x u n e => by rw [upd_ne (fun z => n (by rw [z]; exact h))]; exact e
/-- .. tables aside -/
def KeepN (L : List Addr) (H H' : Hp) : Prop := ∀ b o, b ∉ L → H b = some o → (∀ ps, o ≠ .tbl ps) → H' b = some o
theorem Keep.n {L : List Addr} {H H' : Hp} (k : Keep L H H') : KeepN L H H' := fun b o n e _ => k b o n e
theorem KeepN.refl (L : List Addr) (H : Hp) : KeepN L H H := fun _ _ _ e _ => e
theorem KeepN.trans {L : List Addr} {H H1 H2 : Hp} (a : KeepN L H H1) (b : KeepN L H1 H2) : KeepN L H H2 := fun c o n e t => b c o n (a c o n e t) t
theorem KeepN.ext {L : List Addr} {H H' : Hp} (e : ExtN H H') : KeepN L H H' := fun b o _ h t => e b o h t
theorem KeepN.mono {L M : List Addr} {H H' : Hp} (k : KeepN L H H') (s : ∀ b, b ∈ L → b ∈ M) : KeepN M H H' := fun b o n e t => k b o (fun z => n (s b z)) e t
/-- nothing stands there, but a table perhaps -/
def Fresh (H : Hp) (b : Addr) : Prop := ∀ o, H b = some o → ∃ ps, o = .tbl ps
theorem Fresh.of_none {H : Hp} {b : Addr} (h : H b = none) : Fresh H b := fun o e => by rw [h] at e; cases e
theorem Fresh.ne {H : Hp} {b x : Addr} {o : HO} (h : Fresh H b) (e : H x = some o) (n : ∀ ps, o ≠ .tbl ps) : x ≠ b := fun z => by subst z; obtain ⟨ps, q⟩ := h o e; exact n ps q
theorem Fresh.back {H H1 : Hp} {b : Addr} (h : Fresh H1 b) (e : ExtN H H1) : Fresh H b := fun o q => by
  by_cases z : ∃ ps, o = .tbl ps
  · exact z
  · exact h o (e b o q fun ps w => z ⟨ps, w⟩)
theorem CD.up {K : PySem.W.Frag} {Cc Cd : Addr} {H H' : Hp} {p : CDA} {c : CourseR} {d : DayR} (h : CD K Cc Cd H p c d) (k : KT H H') (e : ∀ b, b ∈ p.all → ∀ o, H b = some o → (∀ ps, o ≠ .tbl ps) → H' b = some o) : CD K Cc Cd H' p c d := by
  have m : ∀ b, b ∈ p.all → ∀ xs, H b = some (.lst xs) → H' b = some (.lst xs) := fun b hb xs q => e b hb _ q fun ps z => nomatch z
  have l : ∀ b, b ∈ p.all → ∀ ds, LstOf K H b ds → LstOf K H' b ds := fun b hb ds ⟨vs, q1, q2⟩ => ⟨vs, m b hb _ q1, q2.mono k⟩
  obtain ⟨g, he, hg⟩ := h.he
  exact ⟨e _ (by simp [CDA.all]) _ h.hc (fun ps z => nomatch z), e _ (by simp [CDA.all]) _ h.hto (fun ps z => nomatch z), e _ (by simp [CDA.all]) _ h.hho (fun ps z => nomatch z), l _ (by simp [CDA.all]) _ h.hli, ⟨g, e _ (by simp [CDA.all]) _ he (fun ps z => nomatch z), hg.mono k⟩, l _ (by simp [CDA.all]) _ h.hr, l _ (by simp [CDA.all]) _ h.hsh, m _ (by simp [CDA.all]) _ h.hhm, l _ (by simp [CDA.all]) _ h.hid, e _ (by simp [CDA.all]) _ h.htd (fun ps z => nomatch z), l _ (by simp [CDA.all]) _ h.hhl, l _ (by simp [CDA.all]) _ h.hle, h.nd⟩
theorem CD.same {K : PySem.W.Frag} {Cc Cd : Addr} {H H' : Hp} {p : CDA} {c : CourseR} {d : DayR} (s : Same H H') (h : CD K Cc Cd H p c d) : CD K Cc Cd H' p c d := h.up (kt_same s) fun b _ o e _ => s b o e
theorem CD.extN {K : PySem.W.Frag} {Cc Cd : Addr} {H H' : Hp} {p : CDA} {c : CourseR} {d : DayR} (s : ExtN H H') (h : CD K Cc Cd H p c d) : CD K Cc Cd H' p c d := h.up (extN_kt s) fun b _ o e t => s b o e t
theorem CD.new {K : PySem.W.Frag} {Cc Cd : Addr} {H : Hp} {p : CDA} {c : CourseR} {d : DayR} {q : Addr} {o : HO} (n : H q = none) (h : CD K Cc Cd H p c d) : CD K Cc Cd (upd H q o) p c d := h.same (same_new n)
theorem CDA.ne {p : CDA} (h : p.all.Nodup) : p.a ≠ p.to ∧ p.a ≠ p.ho ∧ p.a ≠ p.li ∧ p.a ≠ p.e ∧ p.a ≠ p.r ∧ p.a ≠ p.sh ∧ p.a ≠ p.hm ∧ p.a ≠ p.id ∧ p.a ≠ p.td ∧ p.a ≠ p.hl ∧ p.a ≠ p.le ∧ p.to ≠ p.ho ∧ p.to ≠ p.li ∧ p.to ≠ p.e ∧ p.to ≠ p.r ∧ p.to ≠ p.sh ∧ p.to ≠ p.hm ∧ p.to ≠ p.id ∧ p.to ≠ p.td ∧ p.to ≠ p.hl ∧ p.to ≠ p.le ∧ p.ho ≠ p.li ∧ p.ho ≠ p.e ∧ p.ho ≠ p.r ∧ p.ho ≠ p.sh ∧ p.ho ≠ p.hm ∧ p.ho ≠ p.id ∧ p.ho ≠ p.td ∧ p.ho ≠ p.hl ∧ p.ho ≠ p.le ∧ p.li ≠ p.e ∧ p.li ≠ p.r ∧ p.li ≠ p.sh ∧ p.li ≠ p.hm ∧ p.li ≠ p.id ∧ p.li ≠ p.td ∧ p.li ≠ p.hl ∧ p.li ≠ p.le ∧ p.e ≠ p.r ∧ p.e ≠ p.sh ∧ p.e ≠ p.hm ∧ p.e ≠ p.id ∧ p.e ≠ p.td ∧ p.e ≠ p.hl ∧ p.e ≠ p.le ∧ p.r ≠ p.sh ∧ p.r ≠ p.hm ∧ p.r ≠ p.id ∧ p.r ≠ p.td ∧ p.r ≠ p.hl ∧ p.r ≠ p.le ∧ p.sh ≠ p.hm ∧ p.sh ≠ p.id ∧ p.sh ≠ p.td ∧ p.sh ≠ p.hl ∧ p.sh ≠ p.le ∧ p.hm ≠ p.id ∧ p.hm ≠ p.td ∧ p.hm ≠ p.hl ∧ p.hm ≠ p.le ∧ p.id ≠ p.td ∧ p.id ≠ p.hl ∧ p.id ≠ p.le ∧ p.td ≠ p.hl ∧ p.td ≠ p.le ∧ p.hl ≠ p.le := by
  simp only [CDA.all, List.nodup_cons, List.mem_cons, List.not_mem_nil, or_false, not_or] at h
  simp only [h, ne_eq, not_false_eq_true, and_self, and_true, true_and]
/-- the lambda's name within in_order -/
def qIO : Str := (("in_order" : Str) ++ ".<locals>.") ++ "<lambda>"
/-- a day alone -/
structure DayA where
  e : Addr
  ex : Addr
  r : Addr
  sh : Addr
  hm : Addr
  id : Addr
  td : Addr
  hl : Addr
  le : Addr
def DayA.all (p : DayA) : List Addr := [p.e, p.r, p.sh, p.hm, p.id, p.td, p.hl, p.le]
structure DayAt (K : PySem.W.Frag) (Cd : Addr) (H : Hp) (p : DayA) (d : DayR) : Prop where
  he : ∃ g, H p.e = some (.ins Cd p.ex (dayF d.at_ p.r g p.sh p.hm p.id p.td d.rate p.hl p.le)) ∧ Dt K H g (fr d.growth)
  hr : LstOf K H p.r (d.rows.map dE)
  hsh : LstOf K H p.sh (d.shares.map shD)
  hhm : H p.hm = some (.lst (d.homes.map V.str))
  hid : LstOf K H p.id (d.idle.map dE)
  htd : H p.td = some (.dK (dOf d.told))
  hhl : LstOf K H p.hl (d.holding.map prD)
  hle : LstOf K H p.le (d.lie.map prD)
def CDA.day (p : CDA) : DayA := ⟨p.e, p.ex, p.r, p.sh, p.hm, p.id, p.td, p.hl, p.le⟩
theorem CD.day {K : PySem.W.Frag} {Cc Cd : Addr} {H : Hp} {p : CDA} {c : CourseR} {d : DayR} (h : CD K Cc Cd H p c d) : DayAt K Cd H p.day d := ⟨h.he, h.hr, h.hsh, h.hhm, h.hid, h.htd, h.hhl, h.hle⟩
theorem DayAt.up {K : PySem.W.Frag} {Cd : Addr} {H H' : Hp} {p : DayA} {d : DayR} (h : DayAt K Cd H p d) (k : KT H H') (e : ∀ b, b ∈ p.all → ∀ o, H b = some o → (∀ ps, o ≠ .tbl ps) → H' b = some o) : DayAt K Cd H' p d := by
  have m : ∀ b, b ∈ p.all → ∀ xs, H b = some (.lst xs) → H' b = some (.lst xs) := fun b hb xs q => e b hb _ q fun ps z => nomatch z
  have l : ∀ b, b ∈ p.all → ∀ ds, LstOf K H b ds → LstOf K H' b ds := fun b hb ds ⟨vs, q1, q2⟩ => ⟨vs, m b hb _ q1, q2.mono k⟩
  obtain ⟨g, he, hg⟩ := h.he
  exact ⟨⟨g, e _ (by simp [DayA.all]) _ he (fun ps z => nomatch z), hg.mono k⟩, l _ (by simp [DayA.all]) _ h.hr, l _ (by simp [DayA.all]) _ h.hsh, m _ (by simp [DayA.all]) _ h.hhm, l _ (by simp [DayA.all]) _ h.hid, e _ (by simp [DayA.all]) _ h.htd (fun ps z => nomatch z), l _ (by simp [DayA.all]) _ h.hhl, l _ (by simp [DayA.all]) _ h.hle⟩
theorem DayAt.at {K : PySem.W.Frag} {Cd : Addr} {H : Hp} {p : DayA} {d : DayR} (h : DayAt K Cd H p d) : ∀ b, b ∈ p.all → ∃ o, H b = some o ∧ (∀ ps, o ≠ .tbl ps) := fun b hb => by
  obtain ⟨g, he, hg⟩ := h.he
  obtain ⟨_, q1, _⟩ := h.hr; obtain ⟨_, q2, _⟩ := h.hsh; obtain ⟨_, q3, _⟩ := h.hid; obtain ⟨_, q4, _⟩ := h.hhl; obtain ⟨_, q5, _⟩ := h.hle
  simp only [DayA.all, List.mem_cons, List.not_mem_nil, or_false] at hb
  rcases hb with rfl | rfl | rfl | rfl | rfl | rfl | rfl | rfl
  · exact ⟨_, he, fun ps z => nomatch z⟩
  · exact ⟨_, q1, fun ps z => nomatch z⟩
  · exact ⟨_, q2, fun ps z => nomatch z⟩
  · exact ⟨_, h.hhm, fun ps z => nomatch z⟩
  · exact ⟨_, q3, fun ps z => nomatch z⟩
  · exact ⟨_, h.htd, fun ps z => nomatch z⟩
  · exact ⟨_, q4, fun ps z => nomatch z⟩
  · exact ⟨_, q5, fun ps z => nomatch z⟩
theorem tab_keep {L : List Addr} {H H' : Hp} {P : Addr} {q : Str} (t : TabS H P q) (k : Keep L H H') (m : ∀ b, b ∈ L → ∀ o, H b = some o → (∀ ps, o ≠ .tbl ps) ∧ (∀ φ, o ≠ .ext φ)) : TabS H' P q := by
  obtain ⟨ps, h1, h2, h3⟩ := t
  refine ⟨ps, k _ _ (fun z => (m _ z _ h1).1 _ rfl) h1, h2, fun pos cv hc => ?_⟩
  obtain ⟨c, e1, e2⟩ := h3 pos cv hc
  exact ⟨c, e1, k _ _ (fun z => (m _ z _ e2).2 _ rfl) e2⟩
theorem kind_ok {o : HO} (h : (∃ C dx fs, o = .ins C dx fs) ∨ (∃ xs, o = .lst xs) ∨ ∃ kvs, o = .dK kvs) : (∀ ps, o ≠ .tbl ps) ∧ (∀ φ, o ≠ .ext φ) := by
  rcases h with ⟨_, _, _, rfl⟩ | ⟨_, rfl⟩ | ⟨_, rfl⟩ <;> exact ⟨fun ps z => (nomatch z), fun φ z => (nomatch z)⟩
theorem CD.tab {K : PySem.W.Frag} {Cc Cd : Addr} {H H' : Hp} {p : CDA} {c : CourseR} {d : DayR} {P : Addr} {q : Str} (h : CD K Cc Cd H p c d) (k : Keep p.all H H') (t : TabS H P q) : TabS H' P q := by
  refine tab_keep t k fun b hb o e => ?_
  obtain ⟨g, he, hg⟩ := h.he
  obtain ⟨_, q0, _⟩ := h.hli; obtain ⟨_, q1, _⟩ := h.hr; obtain ⟨_, q2, _⟩ := h.hsh; obtain ⟨_, q3, _⟩ := h.hid; obtain ⟨_, q4, _⟩ := h.hhl; obtain ⟨_, q5, _⟩ := h.hle
  refine kind_ok ?_
  simp only [CDA.all, List.mem_cons, List.not_mem_nil, or_false] at hb
  rcases hb with rfl | rfl | rfl | rfl | rfl | rfl | rfl | rfl | rfl | rfl | rfl | rfl
  · rw [h.hc] at e; cases e; exact .inl ⟨_, _, _, rfl⟩
  · rw [h.hto] at e; cases e; exact .inr (.inr ⟨_, rfl⟩)
  · rw [h.hho] at e; cases e; exact .inr (.inr ⟨_, rfl⟩)
  · rw [q0] at e; cases e; exact .inr (.inl ⟨_, rfl⟩)
  · rw [he] at e; cases e; exact .inl ⟨_, _, _, rfl⟩
  · rw [q1] at e; cases e; exact .inr (.inl ⟨_, rfl⟩)
  · rw [q2] at e; cases e; exact .inr (.inl ⟨_, rfl⟩)
  · rw [h.hhm] at e; cases e; exact .inr (.inl ⟨_, rfl⟩)
  · rw [q3] at e; cases e; exact .inr (.inl ⟨_, rfl⟩)
  · rw [h.htd] at e; cases e; exact .inr (.inr ⟨_, rfl⟩)
  · rw [q4] at e; cases e; exact .inr (.inl ⟨_, rfl⟩)
  · rw [q5] at e; cases e; exact .inr (.inl ⟨_, rfl⟩)
/-- an instance that gets its fields one by one -/
structure PI (H0 Hd H : Hp) (P : Addr) (p C dx : Addr) (fs : List (Str × V)) (objs : List (Addr × HO)) : Prop where
  ins : H p = some (.ins C dx fs)
  kp : KeepN [p] H0 H
  kt : KT Hd H
  tab : TabS H P qIO
  obj : ∀ x, x ∈ objs → H x.1 = some x.2 ∧ Fresh H0 x.1
  nd : (p :: objs.map Prod.fst).Nodup
theorem PI.put {H0 Hd H : Hp} {P p C dx : Addr} {fs fs' : List (Str × V)} {objs : List (Addr × HO)} (I : PI H0 Hd H P p C dx fs objs) : PI H0 Hd (upd H p (.ins C dx fs')) P p C dx fs' objs :=
  ⟨upd_same, I.kp.trans (Keep.upd List.mem_cons_self).n, I.kt.trans (kt_mut I.ins rfl), tab_keep I.tab (L := [p]) (Keep.upd List.mem_cons_self) (fun b hb o e => by rw [List.mem_singleton.mp hb, I.ins] at e; cases e; exact kind_ok (.inl ⟨_, _, _, rfl⟩)),
   fun x hx => ⟨by rw [upd_ne (fun z => (List.nodup_cons.mp I.nd).1 (List.mem_map.mpr ⟨x, hx, z⟩))]; exact (I.obj x hx).1, (I.obj x hx).2⟩, I.nd⟩
theorem PI.new {H0 Hd H : Hp} {P p C dx q : Addr} {fs : List (Str × V)} {objs : List (Addr × HO)} {o : HO} (I : PI H0 Hd H P p C dx fs objs) (n : H q = none) (f0 : Fresh H0 q) : PI H0 Hd (upd H q o) P p C dx fs (objs ++ [(q, o)]) := by
  have s : Same H (upd H q o) := same_new n
  have nq : q ∉ p :: objs.map Prod.fst := by
    intro z
    rcases List.mem_cons.mp z with rfl | z
    · rw [I.ins] at n; cases n
    · obtain ⟨x, hx, rfl⟩ := List.mem_map.mp z
      rw [(I.obj x hx).1] at n; cases n
  refine ⟨s _ _ I.ins, I.kp.trans (KeepN.ext fun b o e _ => s b o e), I.kt.trans (kt_new n), I.tab.ext s, fun x hx => ?_, ?_⟩
  · rcases List.mem_append.mp hx with hx | hx
    · exact ⟨s _ _ (I.obj x hx).1, (I.obj x hx).2⟩
    · rw [List.mem_singleton.mp hx]; exact ⟨upd_same, f0⟩
  · rw [List.map_append, ← List.cons_append]
    exact List.nodup_append.mpr ⟨I.nd, List.nodup_cons.mpr ⟨List.not_mem_nil, .nil⟩, fun a ha b hb e => nq (by rw [List.mem_singleton.mp hb] at e; have e2 : a = q := e; rw [← e2]; exact ha)⟩
theorem Fresh.keep {L : List Addr} {H0 H : Hp} {q : Addr} (k : KeepN L H0 H) (n : H q = none) (hL : ∀ b, b ∈ L → H b ≠ none) : Fresh H0 q := fun o e => by
  by_cases z : ∃ ps, o = .tbl ps
  · exact z
  · have := k q o (fun w => hL q w n) e fun ps w => z ⟨ps, w⟩
    rw [n] at this; cases this
theorem PI.new' {H0 Hd H : Hp} {P p C dx q : Addr} {fs : List (Str × V)} {objs : List (Addr × HO)} {o : HO} (I : PI H0 Hd H P p C dx fs objs) (n : H q = none) : PI H0 Hd (upd H q o) P p C dx fs (objs ++ [(q, o)]) :=
  I.new n (Fresh.keep I.kp n fun b hb => by rw [List.mem_singleton.mp hb, I.ins]; exact fun z => nomatch z)
theorem PI.fld {K : PySem.W.Frag} {H0 Hd H : Hp} {P p C dx : Addr} {fs : List (Str × V)} {objs : List (Addr × HO)} {f : Str} {y : V} {N : Hp → Prop} (I : PI H0 Hd H P p C dx fs objs) (k : Cls K C) (n : NoAttr K C f) (l : fs.length < 1000) (q : ∀ H', PI H0 Hd H' P p C dx (putF f y fs) objs → N H') : FldW K f y (.ref p) H N :=
  ⟨p, C, dx, fs, rfl, I.ins, k, n, l, q _ I.put⟩
/-- a course alone -/
structure CrsAt (K : PySem.W.Frag) (Cc : Addr) (H : Hp) (a dx to ho li : Addr) (c : CourseR) : Prop where
  hc : H a = some (.ins Cc dx (crsF to ho li c.rate))
  hto : H to = some (.dK (dOf c.told))
  hho : H ho = some (.dK (dOf c.holding))
  hli : LstOf K H li (c.lie.map prD)
  nth : to ≠ ho
theorem CD.crs {K : PySem.W.Frag} {Cc Cd : Addr} {H : Hp} {p : CDA} {c : CourseR} {d : DayR} (h : CD K Cc Cd H p c d) : CrsAt K Cc H p.a p.dx p.to p.ho p.li c := ⟨h.hc, h.hto, h.hho, h.hli, by have := h.nd; simp only [CDA.all, List.nodup_cons, List.mem_cons, not_or] at this; exact this.2.1.1⟩
theorem CrsAt.ext {K : PySem.W.Frag} {Cc : Addr} {H H' : Hp} {a dx to ho li : Addr} {c : CourseR} (h : CrsAt K Cc H a dx to ho li c) (e : ExtN H H') : CrsAt K Cc H' a dx to ho li c := ⟨e _ _ h.hc (fun _ z => nomatch z), e _ _ h.hto (fun _ z => nomatch z), e _ _ h.hho (fun _ z => nomatch z), h.hli.up (extN_kt e) fun o q => by obtain ⟨_, q1, _⟩ := h.hli; rw [q1] at q; cases q; exact e _ _ q1 (fun _ z => nomatch z), h.nth⟩
theorem CD.setTold {K : PySem.W.Frag} {Cc Cd : Addr} {H : Hp} {p : CDA} {c : CourseR} {d : DayR} {t : List (Str × Int)} (h : CD K Cc Cd H p c d) : CD K Cc Cd (upd H p.to (.dK (dOf t))) p { c with told := t } d := by
  obtain ⟨g0, he0, hg0⟩ := h.he
  have hnd := CDA.ne h.nd
  have k : ∀ o, KT H (upd H p.to o) := fun o => kt_mut h.hto rfl
  have n_a : p.a ≠ p.to := by exact (by simp [hnd] : p.a ≠ p.to)
  have n_ho : p.ho ≠ p.to := by exact Ne.symm (by simp [hnd] : p.to ≠ p.ho)
  have n_li : p.li ≠ p.to := by exact Ne.symm (by simp [hnd] : p.to ≠ p.li)
  have n_e : p.e ≠ p.to := by exact Ne.symm (by simp [hnd] : p.to ≠ p.e)
  have n_r : p.r ≠ p.to := by exact Ne.symm (by simp [hnd] : p.to ≠ p.r)
  have n_sh : p.sh ≠ p.to := by exact Ne.symm (by simp [hnd] : p.to ≠ p.sh)
  have n_hm : p.hm ≠ p.to := by exact Ne.symm (by simp [hnd] : p.to ≠ p.hm)
  have n_id : p.id ≠ p.to := by exact Ne.symm (by simp [hnd] : p.to ≠ p.id)
  have n_td : p.td ≠ p.to := by exact Ne.symm (by simp [hnd] : p.to ≠ p.td)
  have n_hl : p.hl ≠ p.to := by exact Ne.symm (by simp [hnd] : p.to ≠ p.hl)
  have n_le : p.le ≠ p.to := by exact Ne.symm (by simp [hnd] : p.to ≠ p.le)
  exact ⟨(upd_ne n_a).trans h.hc, upd_same, (upd_ne n_ho).trans h.hho, h.hli.up (k _) fun o q => (upd_ne n_li).trans q, ⟨g0, (upd_ne n_e).trans he0, hg0.mono (k _)⟩, h.hr.up (k _) fun o q => (upd_ne n_r).trans q, h.hsh.up (k _) fun o q => (upd_ne n_sh).trans q, (upd_ne n_hm).trans h.hhm, h.hid.up (k _) fun o q => (upd_ne n_id).trans q, (upd_ne n_td).trans h.htd, h.hhl.up (k _) fun o q => (upd_ne n_hl).trans q, h.hle.up (k _) fun o q => (upd_ne n_le).trans q, h.nd⟩
theorem CD.setHold {K : PySem.W.Frag} {Cc Cd : Addr} {H : Hp} {p : CDA} {c : CourseR} {d : DayR} {t : List (Str × Int)} (h : CD K Cc Cd H p c d) : CD K Cc Cd (upd H p.ho (.dK (dOf t))) p { c with holding := t } d := by
  obtain ⟨g0, he0, hg0⟩ := h.he
  have hnd := CDA.ne h.nd
  have k : ∀ o, KT H (upd H p.ho o) := fun o => kt_mut h.hho rfl
  have n_a : p.a ≠ p.ho := by exact (by simp [hnd] : p.a ≠ p.ho)
  have n_to : p.to ≠ p.ho := by exact (by simp [hnd] : p.to ≠ p.ho)
  have n_li : p.li ≠ p.ho := by exact Ne.symm (by simp [hnd] : p.ho ≠ p.li)
  have n_e : p.e ≠ p.ho := by exact Ne.symm (by simp [hnd] : p.ho ≠ p.e)
  have n_r : p.r ≠ p.ho := by exact Ne.symm (by simp [hnd] : p.ho ≠ p.r)
  have n_sh : p.sh ≠ p.ho := by exact Ne.symm (by simp [hnd] : p.ho ≠ p.sh)
  have n_hm : p.hm ≠ p.ho := by exact Ne.symm (by simp [hnd] : p.ho ≠ p.hm)
  have n_id : p.id ≠ p.ho := by exact Ne.symm (by simp [hnd] : p.ho ≠ p.id)
  have n_td : p.td ≠ p.ho := by exact Ne.symm (by simp [hnd] : p.ho ≠ p.td)
  have n_hl : p.hl ≠ p.ho := by exact Ne.symm (by simp [hnd] : p.ho ≠ p.hl)
  have n_le : p.le ≠ p.ho := by exact Ne.symm (by simp [hnd] : p.ho ≠ p.le)
  exact ⟨(upd_ne n_a).trans h.hc, (upd_ne n_to).trans h.hto, upd_same, h.hli.up (k _) fun o q => (upd_ne n_li).trans q, ⟨g0, (upd_ne n_e).trans he0, hg0.mono (k _)⟩, h.hr.up (k _) fun o q => (upd_ne n_r).trans q, h.hsh.up (k _) fun o q => (upd_ne n_sh).trans q, (upd_ne n_hm).trans h.hhm, h.hid.up (k _) fun o q => (upd_ne n_id).trans q, (upd_ne n_td).trans h.htd, h.hhl.up (k _) fun o q => (upd_ne n_hl).trans q, h.hle.up (k _) fun o q => (upd_ne n_le).trans q, h.nd⟩
theorem CD.setLie {K : PySem.W.Frag} {Cc Cd : Addr} {H : Hp} {p : CDA} {c : CourseR} {d : DayR} {vs : List V} {l : List (Str × Int)} (hv : DtAll K H vs (l.map prD)) (h : CD K Cc Cd H p c d) : CD K Cc Cd (upd H p.li (.lst vs)) p { c with lie := l } d := by
  obtain ⟨g0, he0, hg0⟩ := h.he
  have hnd := CDA.ne h.nd
  obtain ⟨w0, hw0, _⟩ := h.hli
  have k : ∀ o, KT H (upd H p.li o) := fun o => kt_mut hw0 rfl
  have n_a : p.a ≠ p.li := by exact (by simp [hnd] : p.a ≠ p.li)
  have n_to : p.to ≠ p.li := by exact (by simp [hnd] : p.to ≠ p.li)
  have n_ho : p.ho ≠ p.li := by exact (by simp [hnd] : p.ho ≠ p.li)
  have n_e : p.e ≠ p.li := by exact Ne.symm (by simp [hnd] : p.li ≠ p.e)
  have n_r : p.r ≠ p.li := by exact Ne.symm (by simp [hnd] : p.li ≠ p.r)
  have n_sh : p.sh ≠ p.li := by exact Ne.symm (by simp [hnd] : p.li ≠ p.sh)
  have n_hm : p.hm ≠ p.li := by exact Ne.symm (by simp [hnd] : p.li ≠ p.hm)
  have n_id : p.id ≠ p.li := by exact Ne.symm (by simp [hnd] : p.li ≠ p.id)
  have n_td : p.td ≠ p.li := by exact Ne.symm (by simp [hnd] : p.li ≠ p.td)
  have n_hl : p.hl ≠ p.li := by exact Ne.symm (by simp [hnd] : p.li ≠ p.hl)
  have n_le : p.le ≠ p.li := by exact Ne.symm (by simp [hnd] : p.li ≠ p.le)
  exact ⟨(upd_ne n_a).trans h.hc, (upd_ne n_to).trans h.hto, (upd_ne n_ho).trans h.hho, ⟨_, upd_same, hv.mono (k _)⟩, ⟨g0, (upd_ne n_e).trans he0, hg0.mono (k _)⟩, h.hr.up (k _) fun o q => (upd_ne n_r).trans q, h.hsh.up (k _) fun o q => (upd_ne n_sh).trans q, (upd_ne n_hm).trans h.hhm, h.hid.up (k _) fun o q => (upd_ne n_id).trans q, (upd_ne n_td).trans h.htd, h.hhl.up (k _) fun o q => (upd_ne n_hl).trans q, h.hle.up (k _) fun o q => (upd_ne n_le).trans q, h.nd⟩
theorem CD.setShares {K : PySem.W.Frag} {Cc Cd : Addr} {H : Hp} {p : CDA} {c : CourseR} {d : DayR} {vs : List V} {l : List (Str × Rat)} (hv : DtAll K H vs (l.map shD)) (h : CD K Cc Cd H p c d) : CD K Cc Cd (upd H p.sh (.lst vs)) p c { d with shares := l } := by
  obtain ⟨g0, he0, hg0⟩ := h.he
  have hnd := CDA.ne h.nd
  obtain ⟨w0, hw0, _⟩ := h.hsh
  have k : ∀ o, KT H (upd H p.sh o) := fun o => kt_mut hw0 rfl
  have n_a : p.a ≠ p.sh := by exact (by simp [hnd] : p.a ≠ p.sh)
  have n_to : p.to ≠ p.sh := by exact (by simp [hnd] : p.to ≠ p.sh)
  have n_ho : p.ho ≠ p.sh := by exact (by simp [hnd] : p.ho ≠ p.sh)
  have n_li : p.li ≠ p.sh := by exact (by simp [hnd] : p.li ≠ p.sh)
  have n_e : p.e ≠ p.sh := by exact (by simp [hnd] : p.e ≠ p.sh)
  have n_r : p.r ≠ p.sh := by exact (by simp [hnd] : p.r ≠ p.sh)
  have n_hm : p.hm ≠ p.sh := by exact Ne.symm (by simp [hnd] : p.sh ≠ p.hm)
  have n_id : p.id ≠ p.sh := by exact Ne.symm (by simp [hnd] : p.sh ≠ p.id)
  have n_td : p.td ≠ p.sh := by exact Ne.symm (by simp [hnd] : p.sh ≠ p.td)
  have n_hl : p.hl ≠ p.sh := by exact Ne.symm (by simp [hnd] : p.sh ≠ p.hl)
  have n_le : p.le ≠ p.sh := by exact Ne.symm (by simp [hnd] : p.sh ≠ p.le)
  exact ⟨(upd_ne n_a).trans h.hc, (upd_ne n_to).trans h.hto, (upd_ne n_ho).trans h.hho, h.hli.up (k _) fun o q => (upd_ne n_li).trans q, ⟨g0, (upd_ne n_e).trans he0, hg0.mono (k _)⟩, h.hr.up (k _) fun o q => (upd_ne n_r).trans q, ⟨_, upd_same, hv.mono (k _)⟩, (upd_ne n_hm).trans h.hhm, h.hid.up (k _) fun o q => (upd_ne n_id).trans q, (upd_ne n_td).trans h.htd, h.hhl.up (k _) fun o q => (upd_ne n_hl).trans q, h.hle.up (k _) fun o q => (upd_ne n_le).trans q, h.nd⟩
theorem CD.setHomes {K : PySem.W.Frag} {Cc Cd : Addr} {H : Hp} {p : CDA} {c : CourseR} {d : DayR} {l : List Str} (h : CD K Cc Cd H p c d) : CD K Cc Cd (upd H p.hm (.lst (l.map V.str))) p c { d with homes := l } := by
  obtain ⟨g0, he0, hg0⟩ := h.he
  have hnd := CDA.ne h.nd
  have k : ∀ o, KT H (upd H p.hm o) := fun o => kt_mut h.hhm rfl
  have n_a : p.a ≠ p.hm := by exact (by simp [hnd] : p.a ≠ p.hm)
  have n_to : p.to ≠ p.hm := by exact (by simp [hnd] : p.to ≠ p.hm)
  have n_ho : p.ho ≠ p.hm := by exact (by simp [hnd] : p.ho ≠ p.hm)
  have n_li : p.li ≠ p.hm := by exact (by simp [hnd] : p.li ≠ p.hm)
  have n_e : p.e ≠ p.hm := by exact (by simp [hnd] : p.e ≠ p.hm)
  have n_r : p.r ≠ p.hm := by exact (by simp [hnd] : p.r ≠ p.hm)
  have n_sh : p.sh ≠ p.hm := by exact (by simp [hnd] : p.sh ≠ p.hm)
  have n_id : p.id ≠ p.hm := by exact Ne.symm (by simp [hnd] : p.hm ≠ p.id)
  have n_td : p.td ≠ p.hm := by exact Ne.symm (by simp [hnd] : p.hm ≠ p.td)
  have n_hl : p.hl ≠ p.hm := by exact Ne.symm (by simp [hnd] : p.hm ≠ p.hl)
  have n_le : p.le ≠ p.hm := by exact Ne.symm (by simp [hnd] : p.hm ≠ p.le)
  exact ⟨(upd_ne n_a).trans h.hc, (upd_ne n_to).trans h.hto, (upd_ne n_ho).trans h.hho, h.hli.up (k _) fun o q => (upd_ne n_li).trans q, ⟨g0, (upd_ne n_e).trans he0, hg0.mono (k _)⟩, h.hr.up (k _) fun o q => (upd_ne n_r).trans q, h.hsh.up (k _) fun o q => (upd_ne n_sh).trans q, upd_same, h.hid.up (k _) fun o q => (upd_ne n_id).trans q, (upd_ne n_td).trans h.htd, h.hhl.up (k _) fun o q => (upd_ne n_hl).trans q, h.hle.up (k _) fun o q => (upd_ne n_le).trans q, h.nd⟩
theorem CD.setIdle {K : PySem.W.Frag} {Cc Cd : Addr} {H : Hp} {p : CDA} {c : CourseR} {d : DayR} {vs : List V} {l : List E3} (hv : DtAll K H vs (l.map dE)) (h : CD K Cc Cd H p c d) : CD K Cc Cd (upd H p.id (.lst vs)) p c { d with idle := l } := by
  obtain ⟨g0, he0, hg0⟩ := h.he
  have hnd := CDA.ne h.nd
  obtain ⟨w0, hw0, _⟩ := h.hid
  have k : ∀ o, KT H (upd H p.id o) := fun o => kt_mut hw0 rfl
  have n_a : p.a ≠ p.id := by exact (by simp [hnd] : p.a ≠ p.id)
  have n_to : p.to ≠ p.id := by exact (by simp [hnd] : p.to ≠ p.id)
  have n_ho : p.ho ≠ p.id := by exact (by simp [hnd] : p.ho ≠ p.id)
  have n_li : p.li ≠ p.id := by exact (by simp [hnd] : p.li ≠ p.id)
  have n_e : p.e ≠ p.id := by exact (by simp [hnd] : p.e ≠ p.id)
  have n_r : p.r ≠ p.id := by exact (by simp [hnd] : p.r ≠ p.id)
  have n_sh : p.sh ≠ p.id := by exact (by simp [hnd] : p.sh ≠ p.id)
  have n_hm : p.hm ≠ p.id := by exact (by simp [hnd] : p.hm ≠ p.id)
  have n_td : p.td ≠ p.id := by exact Ne.symm (by simp [hnd] : p.id ≠ p.td)
  have n_hl : p.hl ≠ p.id := by exact Ne.symm (by simp [hnd] : p.id ≠ p.hl)
  have n_le : p.le ≠ p.id := by exact Ne.symm (by simp [hnd] : p.id ≠ p.le)
  exact ⟨(upd_ne n_a).trans h.hc, (upd_ne n_to).trans h.hto, (upd_ne n_ho).trans h.hho, h.hli.up (k _) fun o q => (upd_ne n_li).trans q, ⟨g0, (upd_ne n_e).trans he0, hg0.mono (k _)⟩, h.hr.up (k _) fun o q => (upd_ne n_r).trans q, h.hsh.up (k _) fun o q => (upd_ne n_sh).trans q, (upd_ne n_hm).trans h.hhm, ⟨_, upd_same, hv.mono (k _)⟩, (upd_ne n_td).trans h.htd, h.hhl.up (k _) fun o q => (upd_ne n_hl).trans q, h.hle.up (k _) fun o q => (upd_ne n_le).trans q, h.nd⟩
theorem CD.setCRate {K : PySem.W.Frag} {Cc Cd : Addr} {H : Hp} {p : CDA} {c : CourseR} {d : DayR} {i : Int} (h : CD K Cc Cd H p c d) : CD K Cc Cd (upd H p.a (.ins Cc p.dx (crsF p.to p.ho p.li i))) p { c with rate := i } d := by
  obtain ⟨g0, he0, hg0⟩ := h.he
  have hnd := CDA.ne h.nd
  have k : ∀ o, KT H (upd H p.a o) := fun o => kt_mut h.hc rfl
  have n_to : p.to ≠ p.a := by exact Ne.symm (by simp [hnd] : p.a ≠ p.to)
  have n_ho : p.ho ≠ p.a := by exact Ne.symm (by simp [hnd] : p.a ≠ p.ho)
  have n_li : p.li ≠ p.a := by exact Ne.symm (by simp [hnd] : p.a ≠ p.li)
  have n_e : p.e ≠ p.a := by exact Ne.symm (by simp [hnd] : p.a ≠ p.e)
  have n_r : p.r ≠ p.a := by exact Ne.symm (by simp [hnd] : p.a ≠ p.r)
  have n_sh : p.sh ≠ p.a := by exact Ne.symm (by simp [hnd] : p.a ≠ p.sh)
  have n_hm : p.hm ≠ p.a := by exact Ne.symm (by simp [hnd] : p.a ≠ p.hm)
  have n_id : p.id ≠ p.a := by exact Ne.symm (by simp [hnd] : p.a ≠ p.id)
  have n_td : p.td ≠ p.a := by exact Ne.symm (by simp [hnd] : p.a ≠ p.td)
  have n_hl : p.hl ≠ p.a := by exact Ne.symm (by simp [hnd] : p.a ≠ p.hl)
  have n_le : p.le ≠ p.a := by exact Ne.symm (by simp [hnd] : p.a ≠ p.le)
  exact ⟨upd_same, (upd_ne n_to).trans h.hto, (upd_ne n_ho).trans h.hho, h.hli.up (k _) fun o q => (upd_ne n_li).trans q, ⟨g0, (upd_ne n_e).trans he0, hg0.mono (k _)⟩, h.hr.up (k _) fun o q => (upd_ne n_r).trans q, h.hsh.up (k _) fun o q => (upd_ne n_sh).trans q, (upd_ne n_hm).trans h.hhm, h.hid.up (k _) fun o q => (upd_ne n_id).trans q, (upd_ne n_td).trans h.htd, h.hhl.up (k _) fun o q => (upd_ne n_hl).trans q, h.hle.up (k _) fun o q => (upd_ne n_le).trans q, h.nd⟩
theorem CD.setDRate {K : PySem.W.Frag} {Cc Cd : Addr} {H : Hp} {p : CDA} {c : CourseR} {d : DayR} {i : Int} {g : V} (hg : Dt K H g (fr d.growth)) (h : CD K Cc Cd H p c d) : CD K Cc Cd (upd H p.e (.ins Cd p.ex (dayF d.at_ p.r g p.sh p.hm p.id p.td i p.hl p.le))) p c { d with rate := i } := by
  obtain ⟨g0, he0, hg0⟩ := h.he
  have hnd := CDA.ne h.nd
  have k : ∀ o, KT H (upd H p.e o) := fun o => kt_mut he0 rfl
  have n_a : p.a ≠ p.e := by exact (by simp [hnd] : p.a ≠ p.e)
  have n_to : p.to ≠ p.e := by exact (by simp [hnd] : p.to ≠ p.e)
  have n_ho : p.ho ≠ p.e := by exact (by simp [hnd] : p.ho ≠ p.e)
  have n_li : p.li ≠ p.e := by exact (by simp [hnd] : p.li ≠ p.e)
  have n_r : p.r ≠ p.e := by exact Ne.symm (by simp [hnd] : p.e ≠ p.r)
  have n_sh : p.sh ≠ p.e := by exact Ne.symm (by simp [hnd] : p.e ≠ p.sh)
  have n_hm : p.hm ≠ p.e := by exact Ne.symm (by simp [hnd] : p.e ≠ p.hm)
  have n_id : p.id ≠ p.e := by exact Ne.symm (by simp [hnd] : p.e ≠ p.id)
  have n_td : p.td ≠ p.e := by exact Ne.symm (by simp [hnd] : p.e ≠ p.td)
  have n_hl : p.hl ≠ p.e := by exact Ne.symm (by simp [hnd] : p.e ≠ p.hl)
  have n_le : p.le ≠ p.e := by exact Ne.symm (by simp [hnd] : p.e ≠ p.le)
  exact ⟨(upd_ne n_a).trans h.hc, (upd_ne n_to).trans h.hto, (upd_ne n_ho).trans h.hho, h.hli.up (k _) fun o q => (upd_ne n_li).trans q, ⟨g, upd_same, hg.mono (k _)⟩, h.hr.up (k _) fun o q => (upd_ne n_r).trans q, h.hsh.up (k _) fun o q => (upd_ne n_sh).trans q, (upd_ne n_hm).trans h.hhm, h.hid.up (k _) fun o q => (upd_ne n_id).trans q, (upd_ne n_td).trans h.htd, h.hhl.up (k _) fun o q => (upd_ne n_hl).trans q, h.hle.up (k _) fun o q => (upd_ne n_le).trans q, h.nd⟩
theorem CD.setGrowth {K : PySem.W.Frag} {Cc Cd : Addr} {H : Hp} {p : CDA} {c : CourseR} {d : DayR} {g : V} {q : Rat} (hg : Dt K H g (fr q)) (h : CD K Cc Cd H p c d) : CD K Cc Cd (upd H p.e (.ins Cd p.ex (dayF d.at_ p.r g p.sh p.hm p.id p.td d.rate p.hl p.le))) p c { d with growth := q } := by
  obtain ⟨g0, he0, hg0⟩ := h.he
  have hnd := CDA.ne h.nd
  have k : ∀ o, KT H (upd H p.e o) := fun o => kt_mut he0 rfl
  have n_a : p.a ≠ p.e := by exact (by simp [hnd] : p.a ≠ p.e)
  have n_to : p.to ≠ p.e := by exact (by simp [hnd] : p.to ≠ p.e)
  have n_ho : p.ho ≠ p.e := by exact (by simp [hnd] : p.ho ≠ p.e)
  have n_li : p.li ≠ p.e := by exact (by simp [hnd] : p.li ≠ p.e)
  have n_r : p.r ≠ p.e := by exact Ne.symm (by simp [hnd] : p.e ≠ p.r)
  have n_sh : p.sh ≠ p.e := by exact Ne.symm (by simp [hnd] : p.e ≠ p.sh)
  have n_hm : p.hm ≠ p.e := by exact Ne.symm (by simp [hnd] : p.e ≠ p.hm)
  have n_id : p.id ≠ p.e := by exact Ne.symm (by simp [hnd] : p.e ≠ p.id)
  have n_td : p.td ≠ p.e := by exact Ne.symm (by simp [hnd] : p.e ≠ p.td)
  have n_hl : p.hl ≠ p.e := by exact Ne.symm (by simp [hnd] : p.e ≠ p.hl)
  have n_le : p.le ≠ p.e := by exact Ne.symm (by simp [hnd] : p.e ≠ p.le)
  exact ⟨(upd_ne n_a).trans h.hc, (upd_ne n_to).trans h.hto, (upd_ne n_ho).trans h.hho, h.hli.up (k _) fun o q => (upd_ne n_li).trans q, ⟨g, upd_same, hg.mono (k _)⟩, h.hr.up (k _) fun o q => (upd_ne n_r).trans q, h.hsh.up (k _) fun o q => (upd_ne n_sh).trans q, (upd_ne n_hm).trans h.hhm, h.hid.up (k _) fun o q => (upd_ne n_id).trans q, (upd_ne n_td).trans h.htd, h.hhl.up (k _) fun o q => (upd_ne n_hl).trans q, h.hle.up (k _) fun o q => (upd_ne n_le).trans q, h.nd⟩
theorem nodup_set {α : Type} {y : α} : ∀ {l : List α} {i : Nat}, l.Nodup → y ∉ l → (l.set i y).Nodup
  | [], _, h, _ => h
  | x :: l, 0, h, n => by
    rw [List.set_cons_zero]
    exact List.nodup_cons.mpr ⟨fun z => n (List.mem_cons_of_mem _ z), (List.nodup_cons.mp h).2⟩
  | x :: l, i + 1, h, n => by
    rw [List.set_cons_succ]
    obtain ⟨h1, h2⟩ := List.nodup_cons.mp h
    refine List.nodup_cons.mpr ⟨fun z => ?_, nodup_set h2 fun z => n (List.mem_cons_of_mem _ z)⟩
    rcases List.mem_or_eq_of_mem_set z with z | z
    · exact h1 z
    · exact n (by rw [← z]; exact List.mem_cons_self)
theorem CD.ptHo {K : PySem.W.Frag} {Cc Cd : Addr} {H : Hp} {p : CDA} {c : CourseR} {d : DayR} {y : Addr} {t : List (Str × Int)} (hy : H y = some (.dK (dOf t))) (ny : y ∉ p.all) (h : CD K Cc Cd H p c d) : CD K Cc Cd (upd H p.a (.ins Cc p.dx (crsF p.to y p.li c.rate))) { p with ho := y } { c with holding := t } d := by
  obtain ⟨g0, he0, hg0⟩ := h.he
  have hnd := CDA.ne h.nd
  have k : ∀ o, KT H (upd H p.a o) := fun o => kt_mut h.hc rfl
  have nya : y ≠ p.a ∧ y ≠ p.to ∧ y ≠ p.ho ∧ y ≠ p.li ∧ y ≠ p.e ∧ y ≠ p.r ∧ y ≠ p.sh ∧ y ≠ p.hm ∧ y ≠ p.id ∧ y ≠ p.td ∧ y ≠ p.hl ∧ y ≠ p.le := by
    simp only [CDA.all, List.mem_cons, List.not_mem_nil, or_false, not_or] at ny
    exact ny
  have n_to : p.to ≠ p.a := by exact Ne.symm (by simp [hnd] : p.a ≠ p.to)
  have n_li : p.li ≠ p.a := by exact Ne.symm (by simp [hnd] : p.a ≠ p.li)
  have n_e : p.e ≠ p.a := by exact Ne.symm (by simp [hnd] : p.a ≠ p.e)
  have n_r : p.r ≠ p.a := by exact Ne.symm (by simp [hnd] : p.a ≠ p.r)
  have n_sh : p.sh ≠ p.a := by exact Ne.symm (by simp [hnd] : p.a ≠ p.sh)
  have n_hm : p.hm ≠ p.a := by exact Ne.symm (by simp [hnd] : p.a ≠ p.hm)
  have n_id : p.id ≠ p.a := by exact Ne.symm (by simp [hnd] : p.a ≠ p.id)
  have n_td : p.td ≠ p.a := by exact Ne.symm (by simp [hnd] : p.a ≠ p.td)
  have n_hl : p.hl ≠ p.a := by exact Ne.symm (by simp [hnd] : p.a ≠ p.hl)
  have n_le : p.le ≠ p.a := by exact Ne.symm (by simp [hnd] : p.a ≠ p.le)
  refine ⟨upd_same, (upd_ne n_to).trans h.hto, (upd_ne nya.1).trans hy, h.hli.up (k _) fun o q => (upd_ne n_li).trans q, ⟨g0, (upd_ne n_e).trans he0, hg0.mono (k _)⟩, h.hr.up (k _) fun o q => (upd_ne n_r).trans q, h.hsh.up (k _) fun o q => (upd_ne n_sh).trans q, (upd_ne n_hm).trans h.hhm, h.hid.up (k _) fun o q => (upd_ne n_id).trans q, (upd_ne n_td).trans h.htd, h.hhl.up (k _) fun o q => (upd_ne n_hl).trans q, h.hle.up (k _) fun o q => (upd_ne n_le).trans q, ?_⟩
  exact nodup_set (i := 2) h.nd ny
theorem CD.ptLi {K : PySem.W.Frag} {Cc Cd : Addr} {H : Hp} {p : CDA} {c : CourseR} {d : DayR} {y : Addr} {t : List (Str × Int)} (hy : LstOf K H y (t.map prD)) (ny : y ∉ p.all) (h : CD K Cc Cd H p c d) : CD K Cc Cd (upd H p.a (.ins Cc p.dx (crsF p.to p.ho y c.rate))) { p with li := y } { c with lie := t } d := by
  obtain ⟨g0, he0, hg0⟩ := h.he
  have hnd := CDA.ne h.nd
  have k : ∀ o, KT H (upd H p.a o) := fun o => kt_mut h.hc rfl
  have nya : y ≠ p.a ∧ y ≠ p.to ∧ y ≠ p.ho ∧ y ≠ p.li ∧ y ≠ p.e ∧ y ≠ p.r ∧ y ≠ p.sh ∧ y ≠ p.hm ∧ y ≠ p.id ∧ y ≠ p.td ∧ y ≠ p.hl ∧ y ≠ p.le := by
    simp only [CDA.all, List.mem_cons, List.not_mem_nil, or_false, not_or] at ny
    exact ny
  have n_to : p.to ≠ p.a := by exact Ne.symm (by simp [hnd] : p.a ≠ p.to)
  have n_ho : p.ho ≠ p.a := by exact Ne.symm (by simp [hnd] : p.a ≠ p.ho)
  have n_e : p.e ≠ p.a := by exact Ne.symm (by simp [hnd] : p.a ≠ p.e)
  have n_r : p.r ≠ p.a := by exact Ne.symm (by simp [hnd] : p.a ≠ p.r)
  have n_sh : p.sh ≠ p.a := by exact Ne.symm (by simp [hnd] : p.a ≠ p.sh)
  have n_hm : p.hm ≠ p.a := by exact Ne.symm (by simp [hnd] : p.a ≠ p.hm)
  have n_id : p.id ≠ p.a := by exact Ne.symm (by simp [hnd] : p.a ≠ p.id)
  have n_td : p.td ≠ p.a := by exact Ne.symm (by simp [hnd] : p.a ≠ p.td)
  have n_hl : p.hl ≠ p.a := by exact Ne.symm (by simp [hnd] : p.a ≠ p.hl)
  have n_le : p.le ≠ p.a := by exact Ne.symm (by simp [hnd] : p.a ≠ p.le)
  refine ⟨upd_same, (upd_ne n_to).trans h.hto, (upd_ne n_ho).trans h.hho, hy.up (k _) fun o q => (upd_ne nya.1).trans q, ⟨g0, (upd_ne n_e).trans he0, hg0.mono (k _)⟩, h.hr.up (k _) fun o q => (upd_ne n_r).trans q, h.hsh.up (k _) fun o q => (upd_ne n_sh).trans q, (upd_ne n_hm).trans h.hhm, h.hid.up (k _) fun o q => (upd_ne n_id).trans q, (upd_ne n_td).trans h.htd, h.hhl.up (k _) fun o q => (upd_ne n_hl).trans q, h.hle.up (k _) fun o q => (upd_ne n_le).trans q, ?_⟩
  exact nodup_set (i := 3) h.nd ny
theorem CD.ptTd {K : PySem.W.Frag} {Cc Cd : Addr} {H : Hp} {p : CDA} {c : CourseR} {d : DayR} {y : Addr} {g : V} {t : List (Str × Int)} (hg : Dt K H g (fr d.growth)) (hy : H y = some (.dK (dOf t))) (ny : y ∉ p.all) (h : CD K Cc Cd H p c d) : CD K Cc Cd (upd H p.e (.ins Cd p.ex (dayF d.at_ p.r g p.sh p.hm p.id y d.rate p.hl p.le))) { p with td := y } c { d with told := t } := by
  obtain ⟨g0, he0, hg0⟩ := h.he
  have hnd := CDA.ne h.nd
  have k : ∀ o, KT H (upd H p.e o) := fun o => kt_mut he0 rfl
  have nya : y ≠ p.a ∧ y ≠ p.to ∧ y ≠ p.ho ∧ y ≠ p.li ∧ y ≠ p.e ∧ y ≠ p.r ∧ y ≠ p.sh ∧ y ≠ p.hm ∧ y ≠ p.id ∧ y ≠ p.td ∧ y ≠ p.hl ∧ y ≠ p.le := by
    simp only [CDA.all, List.mem_cons, List.not_mem_nil, or_false, not_or] at ny
    exact ny
  have n_a : p.a ≠ p.e := by exact (by simp [hnd] : p.a ≠ p.e)
  have n_to : p.to ≠ p.e := by exact (by simp [hnd] : p.to ≠ p.e)
  have n_ho : p.ho ≠ p.e := by exact (by simp [hnd] : p.ho ≠ p.e)
  have n_li : p.li ≠ p.e := by exact (by simp [hnd] : p.li ≠ p.e)
  have n_r : p.r ≠ p.e := by exact Ne.symm (by simp [hnd] : p.e ≠ p.r)
  have n_sh : p.sh ≠ p.e := by exact Ne.symm (by simp [hnd] : p.e ≠ p.sh)
  have n_hm : p.hm ≠ p.e := by exact Ne.symm (by simp [hnd] : p.e ≠ p.hm)
  have n_id : p.id ≠ p.e := by exact Ne.symm (by simp [hnd] : p.e ≠ p.id)
  have n_hl : p.hl ≠ p.e := by exact Ne.symm (by simp [hnd] : p.e ≠ p.hl)
  have n_le : p.le ≠ p.e := by exact Ne.symm (by simp [hnd] : p.e ≠ p.le)
  refine ⟨(upd_ne n_a).trans h.hc, (upd_ne n_to).trans h.hto, (upd_ne n_ho).trans h.hho, h.hli.up (k _) fun o q => (upd_ne n_li).trans q, ⟨g, upd_same, hg.mono (k _)⟩, h.hr.up (k _) fun o q => (upd_ne n_r).trans q, h.hsh.up (k _) fun o q => (upd_ne n_sh).trans q, (upd_ne n_hm).trans h.hhm, h.hid.up (k _) fun o q => (upd_ne n_id).trans q, (upd_ne nya.2.2.2.2.1).trans hy, h.hhl.up (k _) fun o q => (upd_ne n_hl).trans q, h.hle.up (k _) fun o q => (upd_ne n_le).trans q, ?_⟩
  exact nodup_set (i := 9) h.nd ny
theorem CD.ptHl {K : PySem.W.Frag} {Cc Cd : Addr} {H : Hp} {p : CDA} {c : CourseR} {d : DayR} {y : Addr} {g : V} {t : List (Str × Int)} (hg : Dt K H g (fr d.growth)) (hy : LstOf K H y (t.map prD)) (ny : y ∉ p.all) (h : CD K Cc Cd H p c d) : CD K Cc Cd (upd H p.e (.ins Cd p.ex (dayF d.at_ p.r g p.sh p.hm p.id p.td d.rate y p.le))) { p with hl := y } c { d with holding := t } := by
  obtain ⟨g0, he0, hg0⟩ := h.he
  have hnd := CDA.ne h.nd
  have k : ∀ o, KT H (upd H p.e o) := fun o => kt_mut he0 rfl
  have nya : y ≠ p.a ∧ y ≠ p.to ∧ y ≠ p.ho ∧ y ≠ p.li ∧ y ≠ p.e ∧ y ≠ p.r ∧ y ≠ p.sh ∧ y ≠ p.hm ∧ y ≠ p.id ∧ y ≠ p.td ∧ y ≠ p.hl ∧ y ≠ p.le := by
    simp only [CDA.all, List.mem_cons, List.not_mem_nil, or_false, not_or] at ny
    exact ny
  have n_a : p.a ≠ p.e := by exact (by simp [hnd] : p.a ≠ p.e)
  have n_to : p.to ≠ p.e := by exact (by simp [hnd] : p.to ≠ p.e)
  have n_ho : p.ho ≠ p.e := by exact (by simp [hnd] : p.ho ≠ p.e)
  have n_li : p.li ≠ p.e := by exact (by simp [hnd] : p.li ≠ p.e)
  have n_r : p.r ≠ p.e := by exact Ne.symm (by simp [hnd] : p.e ≠ p.r)
  have n_sh : p.sh ≠ p.e := by exact Ne.symm (by simp [hnd] : p.e ≠ p.sh)
  have n_hm : p.hm ≠ p.e := by exact Ne.symm (by simp [hnd] : p.e ≠ p.hm)
  have n_id : p.id ≠ p.e := by exact Ne.symm (by simp [hnd] : p.e ≠ p.id)
  have n_td : p.td ≠ p.e := by exact Ne.symm (by simp [hnd] : p.e ≠ p.td)
  have n_le : p.le ≠ p.e := by exact Ne.symm (by simp [hnd] : p.e ≠ p.le)
  refine ⟨(upd_ne n_a).trans h.hc, (upd_ne n_to).trans h.hto, (upd_ne n_ho).trans h.hho, h.hli.up (k _) fun o q => (upd_ne n_li).trans q, ⟨g, upd_same, hg.mono (k _)⟩, h.hr.up (k _) fun o q => (upd_ne n_r).trans q, h.hsh.up (k _) fun o q => (upd_ne n_sh).trans q, (upd_ne n_hm).trans h.hhm, h.hid.up (k _) fun o q => (upd_ne n_id).trans q, (upd_ne n_td).trans h.htd, hy.up (k _) fun o q => (upd_ne nya.2.2.2.2.1).trans q, h.hle.up (k _) fun o q => (upd_ne n_le).trans q, ?_⟩
  exact nodup_set (i := 10) h.nd ny
theorem CD.ptLe {K : PySem.W.Frag} {Cc Cd : Addr} {H : Hp} {p : CDA} {c : CourseR} {d : DayR} {y : Addr} {g : V} {t : List (Str × Int)} (hg : Dt K H g (fr d.growth)) (hy : LstOf K H y (t.map prD)) (ny : y ∉ p.all) (h : CD K Cc Cd H p c d) : CD K Cc Cd (upd H p.e (.ins Cd p.ex (dayF d.at_ p.r g p.sh p.hm p.id p.td d.rate p.hl y))) { p with le := y } c { d with lie := t } := by
  obtain ⟨g0, he0, hg0⟩ := h.he
  have hnd := CDA.ne h.nd
  have k : ∀ o, KT H (upd H p.e o) := fun o => kt_mut he0 rfl
  have nya : y ≠ p.a ∧ y ≠ p.to ∧ y ≠ p.ho ∧ y ≠ p.li ∧ y ≠ p.e ∧ y ≠ p.r ∧ y ≠ p.sh ∧ y ≠ p.hm ∧ y ≠ p.id ∧ y ≠ p.td ∧ y ≠ p.hl ∧ y ≠ p.le := by
    simp only [CDA.all, List.mem_cons, List.not_mem_nil, or_false, not_or] at ny
    exact ny
  have n_a : p.a ≠ p.e := by exact (by simp [hnd] : p.a ≠ p.e)
  have n_to : p.to ≠ p.e := by exact (by simp [hnd] : p.to ≠ p.e)
  have n_ho : p.ho ≠ p.e := by exact (by simp [hnd] : p.ho ≠ p.e)
  have n_li : p.li ≠ p.e := by exact (by simp [hnd] : p.li ≠ p.e)
  have n_r : p.r ≠ p.e := by exact Ne.symm (by simp [hnd] : p.e ≠ p.r)
  have n_sh : p.sh ≠ p.e := by exact Ne.symm (by simp [hnd] : p.e ≠ p.sh)
  have n_hm : p.hm ≠ p.e := by exact Ne.symm (by simp [hnd] : p.e ≠ p.hm)
  have n_id : p.id ≠ p.e := by exact Ne.symm (by simp [hnd] : p.e ≠ p.id)
  have n_td : p.td ≠ p.e := by exact Ne.symm (by simp [hnd] : p.e ≠ p.td)
  have n_hl : p.hl ≠ p.e := by exact Ne.symm (by simp [hnd] : p.e ≠ p.hl)
  refine ⟨(upd_ne n_a).trans h.hc, (upd_ne n_to).trans h.hto, (upd_ne n_ho).trans h.hho, h.hli.up (k _) fun o q => (upd_ne n_li).trans q, ⟨g, upd_same, hg.mono (k _)⟩, h.hr.up (k _) fun o q => (upd_ne n_r).trans q, h.hsh.up (k _) fun o q => (upd_ne n_sh).trans q, (upd_ne n_hm).trans h.hhm, h.hid.up (k _) fun o q => (upd_ne n_id).trans q, (upd_ne n_td).trans h.htd, h.hhl.up (k _) fun o q => (upd_ne n_hl).trans q, hy.up (k _) fun o q => (upd_ne nya.2.2.2.2.1).trans q, ?_⟩
  exact nodup_set (i := 11) h.nd ny
theorem lkC_told {to ho li : Addr} {i : Int} : (crsF to ho li i).lookup ("told" : Str) = some (.ref to) := by with_unfolding_all rfl
theorem lkC_holding {to ho li : Addr} {i : Int} : (crsF to ho li i).lookup ("holding" : Str) = some (.ref ho) := by with_unfolding_all rfl
theorem lkC_lie {to ho li : Addr} {i : Int} : (crsF to ho li i).lookup ("lie" : Str) = some (.ref li) := by with_unfolding_all rfl
theorem lkC_rate {to ho li : Addr} {i : Int} : (crsF to ho li i).lookup ("rate" : Str) = some (.int i) := by with_unfolding_all rfl
theorem lkD_at {t i : Int} {r sh hm id td hl le : Addr} {g : V} : (dayF t r g sh hm id td i hl le).lookup ("at" : Str) = some (.int t) := by with_unfolding_all rfl
theorem lkD_rows {t i : Int} {r sh hm id td hl le : Addr} {g : V} : (dayF t r g sh hm id td i hl le).lookup ("rows" : Str) = some (.ref r) := by with_unfolding_all rfl
theorem lkD_growth {t i : Int} {r sh hm id td hl le : Addr} {g : V} : (dayF t r g sh hm id td i hl le).lookup ("growth" : Str) = some (g) := by with_unfolding_all rfl
theorem lkD_shares {t i : Int} {r sh hm id td hl le : Addr} {g : V} : (dayF t r g sh hm id td i hl le).lookup ("shares" : Str) = some (.ref sh) := by with_unfolding_all rfl
theorem lkD_homes {t i : Int} {r sh hm id td hl le : Addr} {g : V} : (dayF t r g sh hm id td i hl le).lookup ("homes" : Str) = some (.ref hm) := by with_unfolding_all rfl
theorem lkD_idle_rows {t i : Int} {r sh hm id td hl le : Addr} {g : V} : (dayF t r g sh hm id td i hl le).lookup ("idle_rows" : Str) = some (.ref id) := by with_unfolding_all rfl
theorem lkD_told {t i : Int} {r sh hm id td hl le : Addr} {g : V} : (dayF t r g sh hm id td i hl le).lookup ("told" : Str) = some (.ref td) := by with_unfolding_all rfl
theorem lkD_rate {t i : Int} {r sh hm id td hl le : Addr} {g : V} : (dayF t r g sh hm id td i hl le).lookup ("rate" : Str) = some (.int i) := by with_unfolding_all rfl
theorem lkD_holding {t i : Int} {r sh hm id td hl le : Addr} {g : V} : (dayF t r g sh hm id td i hl le).lookup ("holding" : Str) = some (.ref hl) := by with_unfolding_all rfl
theorem lkD_lie {t i : Int} {r sh hm id td hl le : Addr} {g : V} : (dayF t r g sh hm id td i hl le).lookup ("lie" : Str) = some (.ref le) := by with_unfolding_all rfl
theorem ptC_holding {to ho li y : Addr} {i : Int} : putF "holding" (.ref y) (crsF to ho li i) = crsF to y li i := by with_unfolding_all rfl
theorem ptC_lie {to ho li y : Addr} {i : Int} : putF "lie" (.ref y) (crsF to ho li i) = crsF to ho y i := by with_unfolding_all rfl
theorem ptC_rate {to ho li : Addr} {i j : Int} : putF "rate" (.int j) (crsF to ho li i) = crsF to ho li j := by with_unfolding_all rfl
theorem ptD_growth {t i : Int} {r sh hm id td hl le : Addr} {g : V} {z : V} : putF "growth" z (dayF t r g sh hm id td i hl le) = dayF t r z sh hm id td i hl le := by with_unfolding_all rfl
theorem ptD_told {t i : Int} {r sh hm id td hl le : Addr} {g : V} {y : Addr} : putF "told" (.ref y) (dayF t r g sh hm id td i hl le) = dayF t r g sh hm id y i hl le := by with_unfolding_all rfl
theorem ptD_rate {t i : Int} {r sh hm id td hl le : Addr} {g : V} {j : Int} : putF "rate" (.int j) (dayF t r g sh hm id td i hl le) = dayF t r g sh hm id td j hl le := by with_unfolding_all rfl
theorem ptD_holding {t i : Int} {r sh hm id td hl le : Addr} {g : V} {y : Addr} : putF "holding" (.ref y) (dayF t r g sh hm id td i hl le) = dayF t r g sh hm id td i y le := by with_unfolding_all rfl
theorem ptD_lie {t i : Int} {r sh hm id td hl le : Addr} {g : V} {y : Addr} : putF "lie" (.ref y) (dayF t r g sh hm id td i hl le) = dayF t r g sh hm id td i hl y := by with_unfolding_all rfl
theorem ptD_idle_rows {t i : Int} {r sh hm id td hl le : Addr} {g : V} {y : Addr} : putF "idle_rows" (.ref y) (dayF t r g sh hm id td i hl le) = dayF t r g sh hm y td i hl le := by with_unfolding_all rfl
section
variable {K : PySem.W.Frag} {Cc Cd : Addr} {H : Hp} {p : CDA} {c : CourseR} {d : DayR} {Q : VK}
theorem s_c_told (h : CD K Cc Cd H p c d) (k : Cls K Cc) (n : NoAttr K Cc "told") (q : Q (.ref p.to) H) : FldQ K (.ref p.a) "told" H Q := ⟨p.a, Cc, p.dx, _, _, rfl, h.hc, k, n, lkC_told, q⟩
theorem s_c_holding (h : CD K Cc Cd H p c d) (k : Cls K Cc) (n : NoAttr K Cc "holding") (q : Q (.ref p.ho) H) : FldQ K (.ref p.a) "holding" H Q := ⟨p.a, Cc, p.dx, _, _, rfl, h.hc, k, n, lkC_holding, q⟩
theorem s_c_lie (h : CD K Cc Cd H p c d) (k : Cls K Cc) (n : NoAttr K Cc "lie") (q : Q (.ref p.li) H) : FldQ K (.ref p.a) "lie" H Q := ⟨p.a, Cc, p.dx, _, _, rfl, h.hc, k, n, lkC_lie, q⟩
theorem s_c_rate (h : CD K Cc Cd H p c d) (k : Cls K Cc) (n : NoAttr K Cc "rate") (q : Q (.int c.rate) H) : FldQ K (.ref p.a) "rate" H Q := ⟨p.a, Cc, p.dx, _, _, rfl, h.hc, k, n, lkC_rate, q⟩
theorem s_d_at (h : CD K Cc Cd H p c d) (k : Cls K Cd) (n : NoAttr K Cd "at") (q : Q (.int d.at_) H) : FldQ K (.ref p.e) "at" H Q := by
  obtain ⟨g, he, hg⟩ := h.he
  exact ⟨p.e, Cd, p.ex, _, _, rfl, he, k, n, lkD_at, q⟩
theorem s_d_rows (h : CD K Cc Cd H p c d) (k : Cls K Cd) (n : NoAttr K Cd "rows") (q : Q (.ref p.r) H) : FldQ K (.ref p.e) "rows" H Q := by
  obtain ⟨g, he, hg⟩ := h.he
  exact ⟨p.e, Cd, p.ex, _, _, rfl, he, k, n, lkD_rows, q⟩
theorem s_d_shares (h : CD K Cc Cd H p c d) (k : Cls K Cd) (n : NoAttr K Cd "shares") (q : Q (.ref p.sh) H) : FldQ K (.ref p.e) "shares" H Q := by
  obtain ⟨g, he, hg⟩ := h.he
  exact ⟨p.e, Cd, p.ex, _, _, rfl, he, k, n, lkD_shares, q⟩
theorem s_d_homes (h : CD K Cc Cd H p c d) (k : Cls K Cd) (n : NoAttr K Cd "homes") (q : Q (.ref p.hm) H) : FldQ K (.ref p.e) "homes" H Q := by
  obtain ⟨g, he, hg⟩ := h.he
  exact ⟨p.e, Cd, p.ex, _, _, rfl, he, k, n, lkD_homes, q⟩
theorem s_d_idle_rows (h : CD K Cc Cd H p c d) (k : Cls K Cd) (n : NoAttr K Cd "idle_rows") (q : Q (.ref p.id) H) : FldQ K (.ref p.e) "idle_rows" H Q := by
  obtain ⟨g, he, hg⟩ := h.he
  exact ⟨p.e, Cd, p.ex, _, _, rfl, he, k, n, lkD_idle_rows, q⟩
theorem s_d_told (h : CD K Cc Cd H p c d) (k : Cls K Cd) (n : NoAttr K Cd "told") (q : Q (.ref p.td) H) : FldQ K (.ref p.e) "told" H Q := by
  obtain ⟨g, he, hg⟩ := h.he
  exact ⟨p.e, Cd, p.ex, _, _, rfl, he, k, n, lkD_told, q⟩
theorem s_d_rate (h : CD K Cc Cd H p c d) (k : Cls K Cd) (n : NoAttr K Cd "rate") (q : Q (.int d.rate) H) : FldQ K (.ref p.e) "rate" H Q := by
  obtain ⟨g, he, hg⟩ := h.he
  exact ⟨p.e, Cd, p.ex, _, _, rfl, he, k, n, lkD_rate, q⟩
theorem s_d_holding (h : CD K Cc Cd H p c d) (k : Cls K Cd) (n : NoAttr K Cd "holding") (q : Q (.ref p.hl) H) : FldQ K (.ref p.e) "holding" H Q := by
  obtain ⟨g, he, hg⟩ := h.he
  exact ⟨p.e, Cd, p.ex, _, _, rfl, he, k, n, lkD_holding, q⟩
theorem s_d_lie (h : CD K Cc Cd H p c d) (k : Cls K Cd) (n : NoAttr K Cd "lie") (q : Q (.ref p.le) H) : FldQ K (.ref p.e) "lie" H Q := by
  obtain ⟨g, he, hg⟩ := h.he
  exact ⟨p.e, Cd, p.ex, _, _, rfl, he, k, n, lkD_lie, q⟩
theorem s_d_growth (h : CD K Cc Cd H p c d) (k : Cls K Cd) (n : NoAttr K Cd "growth") (q : ∀ g, Dt K H g (fr d.growth) → Q g H) : FldQ K (.ref p.e) "growth" H Q := by
  obtain ⟨g, he, hg⟩ := h.he
  exact ⟨p.e, Cd, p.ex, _, _, rfl, he, k, n, lkD_growth, q g hg⟩
theorem w_c_rate {N : Hp → Prop} {i : Int} (h : CD K Cc Cd H p c d) (k : Cls K Cc) (n : NoAttr K Cc "rate") (q : ∀ H', Keep p.all H H' → CD K Cc Cd H' p { c with rate := i } d → N H') : FldW K "rate" (.int i) (.ref p.a) H N :=
  ⟨p.a, Cc, p.dx, _, rfl, h.hc, k, n, by show 4 < 1000; decide, by rw [ptC_rate]; exact q _ (.upd (by simp [CDA.all])) h.setCRate⟩
theorem w_c_holding {N : Hp → Prop} {y : Addr} {t : List (Str × Int)} (h : CD K Cc Cd H p c d) (k : Cls K Cc) (n : NoAttr K Cc "holding") (hy : H y = some (.dK (dOf t))) (ny : y ∉ p.all) (q : ∀ H', Keep p.all H H' → CD K Cc Cd H' { p with ho := y } { c with holding := t } d → N H') : FldW K "holding" (.ref y) (.ref p.a) H N :=
  ⟨p.a, Cc, p.dx, _, rfl, h.hc, k, n, by show 4 < 1000; decide, by rw [ptC_holding]; exact q _ (.upd (by simp [CDA.all])) (h.ptHo hy ny)⟩
theorem w_c_lie {N : Hp → Prop} {y : Addr} {t : List (Str × Int)} (h : CD K Cc Cd H p c d) (k : Cls K Cc) (n : NoAttr K Cc "lie") (hy : LstOf K H y (t.map prD)) (ny : y ∉ p.all) (q : ∀ H', Keep p.all H H' → CD K Cc Cd H' { p with li := y } { c with lie := t } d → N H') : FldW K "lie" (.ref y) (.ref p.a) H N :=
  ⟨p.a, Cc, p.dx, _, rfl, h.hc, k, n, by show 4 < 1000; decide, by rw [ptC_lie]; exact q _ (.upd (by simp [CDA.all])) (h.ptLi hy ny)⟩
theorem w_d_rate {N : Hp → Prop} {i : Int} (h : CD K Cc Cd H p c d) (k : Cls K Cd) (n : NoAttr K Cd "rate") (q : ∀ H', Keep p.all H H' → CD K Cc Cd H' p c { d with rate := i } → N H') : FldW K "rate" (.int i) (.ref p.e) H N := by
  obtain ⟨g, he, hg⟩ := h.he
  exact ⟨p.e, Cd, p.ex, _, rfl, he, k, n, by show 10 < 1000; decide, by rw [ptD_rate]; exact q _ (.upd (by simp [CDA.all])) (h.setDRate hg)⟩
theorem w_d_growth {N : Hp → Prop} {y : V} {t : Rat} (h : CD K Cc Cd H p c d) (k : Cls K Cd) (n : NoAttr K Cd "growth") (hy : Dt K H y (fr t)) (q : ∀ H', Keep p.all H H' → CD K Cc Cd H' p c { d with growth := t } → N H') : FldW K "growth" y (.ref p.e) H N := by
  obtain ⟨g, he, hg⟩ := h.he
  exact ⟨p.e, Cd, p.ex, _, rfl, he, k, n, by show 10 < 1000; decide, by rw [ptD_growth]; exact q _ (.upd (by simp [CDA.all])) (h.setGrowth hy)⟩
theorem w_d_told {N : Hp → Prop} {y : Addr} {t : List (Str × Int)} (h : CD K Cc Cd H p c d) (k : Cls K Cd) (n : NoAttr K Cd "told") (hy : H y = some (.dK (dOf t))) (ny : y ∉ p.all) (q : ∀ H', Keep p.all H H' → CD K Cc Cd H' { p with td := y } c { d with told := t } → N H') : FldW K "told" (.ref y) (.ref p.e) H N := by
  obtain ⟨g, he, hg⟩ := h.he
  exact ⟨p.e, Cd, p.ex, _, rfl, he, k, n, by show 10 < 1000; decide, by rw [ptD_told]; exact q _ (.upd (by simp [CDA.all])) (h.ptTd hg hy ny)⟩
theorem w_d_holding {N : Hp → Prop} {y : Addr} {t : List (Str × Int)} (h : CD K Cc Cd H p c d) (k : Cls K Cd) (n : NoAttr K Cd "holding") (hy : LstOf K H y (t.map prD)) (ny : y ∉ p.all) (q : ∀ H', Keep p.all H H' → CD K Cc Cd H' { p with hl := y } c { d with holding := t } → N H') : FldW K "holding" (.ref y) (.ref p.e) H N := by
  obtain ⟨g, he, hg⟩ := h.he
  exact ⟨p.e, Cd, p.ex, _, rfl, he, k, n, by show 10 < 1000; decide, by rw [ptD_holding]; exact q _ (.upd (by simp [CDA.all])) (h.ptHl hg hy ny)⟩
theorem w_d_lie {N : Hp → Prop} {y : Addr} {t : List (Str × Int)} (h : CD K Cc Cd H p c d) (k : Cls K Cd) (n : NoAttr K Cd "lie") (hy : LstOf K H y (t.map prD)) (ny : y ∉ p.all) (q : ∀ H', Keep p.all H H' → CD K Cc Cd H' { p with le := y } c { d with lie := t } → N H') : FldW K "lie" (.ref y) (.ref p.e) H N := by
  obtain ⟨g, he, hg⟩ := h.he
  exact ⟨p.e, Cd, p.ex, _, rfl, he, k, n, by show 10 < 1000; decide, by rw [ptD_lie]; exact q _ (.upd (by simp [CDA.all])) (h.ptLe hg hy ny)⟩
theorem m_course {mn : Str} {N : Prop} (h : CD K Cc Cd H p c d) (e : ([("told" : Str), "holding", "lie", "rate"].contains mn) = false) (q : N) : MethQ Cc mn (.ref p.a) H N := by
  refine ⟨p.a, p.dx, _, rfl, h.hc, ?_, q⟩
  simp only [List.contains_cons, List.contains_nil, Bool.or_false, Bool.or_eq_false_iff] at e
  simp only [crsF, List.lookup, e]
theorem m_day {mn : Str} {N : Prop} (h : CD K Cc Cd H p c d) (e : ([("at" : Str), "rows", "growth", "shares", "homes", "idle_rows", "told", "rate", "holding", "lie"].contains mn) = false) (q : N) : MethQ Cd mn (.ref p.e) H N := by
  obtain ⟨g, he, hg⟩ := h.he
  refine ⟨p.e, p.ex, _, rfl, he, ?_, q⟩
  simp only [List.contains_cons, List.contains_nil, Bool.or_false, Bool.or_eq_false_iff] at e
  simp only [dayF, List.lookup, e]
end
end Cr

namespace Cr
open PySem PySem.Spec PyProof.Rows L2 L2.DX LamX
/-- day.idle_rows += rows -/
theorem s_augIdle {K : PySem.W.Frag} {Cc Cd : Addr} {H : Hp} {p : CDA} {c : CourseR} {d : DayR} {tv : TE} {σ : St} {N : Hp → Prop} (h : CD K Cc Cd H p c d) (k : Cls K Cd) (n : NoAttr K Cd "idle_rows")
    (q : tv σ H fun y H2 => rExt2 (.ref p.id) y H2 fun z H3 => ∃ dx' fs', H3 p.e = some (.ins Cd dx' fs') ∧ fs'.length < 1000 ∧ N (upd H3 p.e (.ins Cd dx' (putF "idle_rows" z fs')))) : AugQ K (.ref p.e) "idle_rows" tv rExt2 σ H N := by
  obtain ⟨g, he, hg⟩ := h.he
  exact ⟨p.e, Cd, p.ex, _, _, rfl, he, k, n, lkD_idle_rows, q⟩
theorem e_augIdle {K : PySem.W.Frag} {Cc Cd : Addr} {H : Hp} {p : CDA} {c : CourseR} {d : DayR} {N : Hp → Prop} {b : Addr} {l : List E3} (h : CD K Cc Cd H p c d) (hb : LstOf K H b (l.map dE)) (hz : d.idle.length + l.length ≤ 100000)
    (q : ∀ H', Keep p.all H H' → CD K Cc Cd H' p c { d with idle := d.idle ++ l } → N H') :
    rExt2 (.ref p.id) (.ref b) H fun z H3 => ∃ dx' fs', H3 p.e = some (.ins Cd dx' fs') ∧ fs'.length < 1000 ∧ N (upd H3 p.e (.ins Cd dx' (putF "idle_rows" z fs'))) := by
  obtain ⟨vs, h1, h2⟩ := hb
  obtain ⟨ws, h3, h4⟩ := h.hid
  have l1 : vs.length = l.length := by rw [h2.len, List.length_map]
  have l2 : ws.length = d.idle.length := by rw [h4.len, List.length_map]
  have hn := h.setIdle (l := d.idle ++ l) (vs := ws ++ vs) (by rw [List.map_append]; exact h4.append h2)
  obtain ⟨g, he, hg⟩ := hn.he
  refine s_ext2 h3 h1 (Nat.le_of_lt (room5 (by omega))) ⟨p.ex, _, he, by show 10 < 1000; decide, ?_⟩
  rw [ptD_idle_rows]
  have e : upd (upd H p.id (.lst (ws ++ vs))) p.e (.ins Cd p.ex (dayF d.at_ p.r g p.sh p.hm p.id p.td d.rate p.hl p.le)) = upd H p.id (.lst (ws ++ vs)) := by
    funext x
    by_cases z : x = p.e
    · rw [z, upd_same]; exact he.symm
    · rw [upd_ne z]
  rw [e]
  exact q _ (.upd (by simp [CDA.all])) hn
theorem sqL_keepN {K : PySem.W.Frag} {L : List Addr} {H H' : Hp} {a : Addr} {xs : List V} (k : KeepN L H H') (n : ∀ b, b ∈ L → ∃ o, H b = some o ∧ (∀ ys, o ≠ .lst ys) ∧ ∀ f u, o ≠ .frz f u) (h : SqL K H a xs) : SqL K H' a xs := by
  rcases h with (h | ⟨o, h⟩) | h
  · exact .inl (.inl (k _ _ (fun z => by obtain ⟨o, e, e2, _⟩ := n _ z; rw [h] at e; cases e; exact e2 _ rfl) h (fun ps z => by cases z)))
  · exact .inl (.inr ⟨o, k _ _ (fun z => by obtain ⟨o, e, _, e2⟩ := n _ z; rw [h] at e; cases e; exact e2 _ _ rfl) h (fun ps z => by cases z)⟩)
  · exact .inr h
theorem Fresh.keep2 {L : List Addr} {H0 H : Hp} {q : Addr} (k : KeepN L H0 H) (n : Fresh H q) (hL : ∀ b, b ∈ L → ∃ o, H b = some o ∧ ∀ ps, o ≠ .tbl ps) : Fresh H0 q := fun o e => by
  by_cases z : ∃ ps, o = .tbl ps
  · exact z
  · refine n o (k q o (fun w => ?_) e fun ps w => z ⟨ps, w⟩)
    obtain ⟨u, e1, e2⟩ := hL q w
    obtain ⟨ps, e3⟩ := n u e1
    exact e2 ps e3
theorem kt_keepN {L : List Addr} {H H' : Hp} (k : KeepN L H H') (n : ∀ b, b ∈ L → ∀ o, H b = some o → isT o = false) : KT H H' := fun a o e t => k a o (fun z => by rw [n a z o e] at t; cases t) e (fun ps z => by rw [z] at t; cases t)
/-! ### what a day makes of a course -/
def thingE (e : E3) : Str := match e.2.2 with
  | .str t :: _ => t
  | _ => ""
def numE (e : E3) : Int := match e.2.2 with
  | [.str _, .int p] => p
  | [.int p] => p
  | _ => 0
def prsD : PyData → List (Str × Int)
  | .tuple ds => ds.filterMap fun d => match d with
    | .tuple [.str t, .int c] => some (t, c)
    | _ => none
  | _ => []
def prsE (e : E3) : List (Str × Int) := match e.2.2 with
  | [x] => prsD x
  | _ => []
theorem prsD_ps (ps : List (Str × Int)) : prsD (pairsD ps) = ps := by
  show (ps.map fun p => PyData.tuple [.str p.1, .int p.2]).filterMap _ = ps
  rw [List.filterMap_map]
  induction ps with
  | nil => rfl
  | cons p ps ih => rw [List.filterMap_cons]; show _ :: _ = _; rw [ih]
def ofKind (rows : List E3) (k : Str) : List E3 := rows.filter fun e => decide (e.1 = k)
def priceOf (told : List (Str × Int)) (t : Str) : Int := (lookP told t).getD 1
def worthM (told holding : List (Str × Int)) : Int := (holding.map fun p => p.2 * priceOf told p.1).sum
def sortE (es : List E3) : List E3 := es.mergeSort (PySem.W.dataLe false fun e => turnD (dE e))
def sortPs (ps : List (Str × Int)) : List (Str × Int) := ps.mergeSort (PySem.W.dataLe false prD)
theorem sortPs_D (ps : List (Str × Int)) : sortD (ps.map prD) = (sortPs ps).map prD :=
  (PySem.W.sort_maps (r := PySem.W.dataLe false prD) (s := PySem.W.dataLe false (id : PyData → PyData)) prD (l := ps) (fun _ _ _ _ => rfl)).symm
theorem sortE_D (es : List E3) : (es.map dE).mergeSort (PySem.W.dataLe false turnD) = (sortE es).map dE :=
  (PySem.W.sort_maps (r := PySem.W.dataLe false fun e : E3 => turnD (dE e)) (s := PySem.W.dataLe false turnD) dE (l := es) (fun _ _ _ _ => rfl)).symm
theorem sortE_perm (es : List E3) : (sortE es).Perm es := List.mergeSort_perm _ _
theorem sortPs_perm (ps : List (Str × Int)) : (sortPs ps).Perm ps := List.mergeSort_perm _ _
def hasP (ps : List (Str × Int)) (t : Str) : Bool := ps.any fun p => decide (p.1 = t)
def toldM (rows : List E3) (told : List (Str × Int)) : List (Str × Int) := (ofKind rows "price").foldl (fun t e => setP t (thingE e) (numE e)) told
def mineM (rows : List E3) (holding : List (Str × Int)) : List Str :=
  let m := ((ofKind rows "aside").map thingE).filter (hasP holding)
  if m.length = holding.length then [] else m
def newDay (at_ : Int) (rows : List E3) : DayR := ⟨at_, rows, 1, [], [], [], [], 0, [], []⟩
def asideC (c : CourseR) (d : DayR) : CourseR × DayR :=
  ({ c with holding := (mineM d.rows c.holding).foldl dropP c.holding, lie := c.lie ++ (mineM d.rows c.holding).map fun t => (t, d.at_) },
   { d with shares := d.shares ++ (mineM d.rows c.holding).map (fun t => (t, Rat.divInt ((lookP c.holding t).getD 0 * priceOf d.told t) (worthM c.told c.holding)))
            idle := d.idle ++ (ofKind d.rows "aside").filter fun e => decide (thingE e ∉ mineM d.rows c.holding) })
def homesM (rows : List E3) (lie : List (Str × Int)) : List Str := ((ofKind rows "home").filter fun e => hasP lie (thingE e)).map thingE
def homeC (c : CourseR) (d : DayR) : CourseR × DayR :=
  ({ c with lie := c.lie.filter fun p => decide (p.1 ∉ d.homes ++ homesM d.rows c.lie) },
   { d with homes := d.homes ++ homesM d.rows c.lie, idle := d.idle ++ (ofKind d.rows "home").filter fun e => !hasP c.lie (thingE e) })
def rateM (rows : List E3) (r : Int) : Int := (ofKind rows "rate").foldl (fun _ e => numE e) r
def holdM (rows : List E3) (h : List (Str × Int)) : List (Str × Int) := (ofKind rows "mix").foldl (fun _ e => prsE e) h
def growM (told told' holding : List (Str × Int)) : Rat := if worthM told holding = 0 then 1 else Rat.divInt (worthM told' holding) (worthM told holding)
def stepC (c : CourseR) (at_ : Int) (rows0 : List E3) : CourseR × DayR :=
  let d0 := newDay at_ (sortE rows0)
  let c1 : CourseR := { c with told := toldM d0.rows c.told }
  let d1 : DayR := { d0 with told := c1.told, growth := growM c.told c1.told c.holding }
  let x := asideC c1 d1
  let y := homeC x.1 x.2
  let c2 : CourseR := { y.1 with rate := rateM d0.rows y.1.rate, holding := holdM d0.rows y.1.holding }
  (c2, { y.2 with rate := c2.rate, holding := sortPs c2.holding, lie := sortPs c2.lie })
/-- all days told, in order -/
def daysOf (rows : List E3) : List Int := ((List.range 401).map fun n : Nat => (n : Int)).filter fun d => decide (d ∈ rows.map fun e => e.2.1)
def planF (rows : List E3) : CourseR → List Int → List DayR
  | _, [] => []
  | c, t :: r => (stepC c t (rows.filter fun e => decide (e.2.1 = t))).2 :: planF rows (stepC c t (rows.filter fun e => decide (e.2.1 = t))).1 r
def courseF (rows : List E3) : CourseR → List Int → CourseR
  | c, [] => c
  | c, t :: r => courseF rows (stepC c t (rows.filter fun e => decide (e.2.1 = t))).1 r
def course0 : CourseR := ⟨[], [], [], 0⟩
/-- all is within bounds -/
structure COk (c : CourseR) (n : Nat) : Prop where
  told : ∀ p, p ∈ c.told → Nm p.1 ∧ 1 ≤ p.2 ∧ p.2 ≤ 1000000
  hold : ∀ p, p ∈ c.holding → Nm p.1 ∧ 1 ≤ p.2 ∧ p.2 ≤ 1000000
  hnd : (c.holding.map Prod.fst).Nodup
  hlen : c.holding.length ≤ 8
  lie : ∀ p, p ∈ c.lie → Nm p.1 ∧ 0 ≤ p.2 ∧ p.2 ≤ 400
  tl : c.told.length ≤ n
  ll : c.lie.length ≤ n
  r0 : 0 ≤ c.rate
  r1 : c.rate ≤ 9999
theorem lookP_mem {ps : List (Str × Int)} {t : Str} {c : Int} (h : lookP ps t = some c) : (t, c) ∈ ps := by
  unfold lookP at h
  cases e : ps.find? fun p => decide (p.1 = t) with
  | none => rw [e] at h; cases h
  | some p =>
    rw [e] at h
    have h1 := List.mem_of_find?_eq_some e
    have h3 : decide (p.1 = t) = true := List.find?_some (p := fun p : Str × Int => decide (p.1 = t)) e
    have h2 := of_decide_eq_true h3
    cases h
    rw [← h2]; exact h1
theorem lookP_has {ps : List (Str × Int)} {t : Str} (h : hasP ps t = true) : ∃ c, lookP ps t = some c := by
  obtain ⟨p, hp, e⟩ := List.any_eq_true.mp h
  cases q : ps.find? fun p => decide (p.1 = t) with
  | none => exact absurd e (by simpa using List.find?_eq_none.mp q p hp)
  | some x => exact ⟨x.2, by unfold lookP; rw [q]; rfl⟩
theorem price_bound {told : List (Str × Int)} {t : Str} (h : ∀ p, p ∈ told → Nm p.1 ∧ 1 ≤ p.2 ∧ p.2 ≤ 1000000) : 1 ≤ priceOf told t ∧ priceOf told t ≤ 1000000 := by
  unfold priceOf
  cases e : lookP told t with
  | none => exact ⟨by decide, by decide⟩
  | some c => exact (h _ (lookP_mem e)).2
theorem sum_bound {f : Str × Int → Int} {B : Int} (B0 : 0 ≤ B) : ∀ {l : List (Str × Int)}, (∀ p, p ∈ l → 1 ≤ f p ∧ f p ≤ B) → (l.length : Int) ≤ (l.map f).sum ∧ (l.map f).sum ≤ l.length * B
  | [], _ => by simp
  | p :: l, h => by
    have ih := sum_bound B0 fun q hq => h q (List.mem_cons_of_mem _ hq)
    have hp := h p List.mem_cons_self
    rw [List.map_cons, List.sum_cons, List.length_cons]
    push_cast
    rw [Int.add_mul, Int.one_mul]
    omega
theorem worth_bound {told holding : List (Str × Int)} (ht : ∀ p, p ∈ told → Nm p.1 ∧ 1 ≤ p.2 ∧ p.2 ≤ 1000000) (hh : ∀ p, p ∈ holding → Nm p.1 ∧ 1 ≤ p.2 ∧ p.2 ≤ 1000000) : (holding.length : Int) ≤ worthM told holding ∧ worthM told holding ≤ holding.length * 1000000000000 := by
  refine sum_bound (by decide) fun p hp => ?_
  obtain ⟨_, a, b⟩ := hh p hp
  obtain ⟨c, d⟩ := price_bound (t := p.1) ht
  constructor
  · have := Int.mul_le_mul a c (by decide) (by omega); omega
  · have := Int.mul_le_mul b d (by omega) (by decide); omega
/-- what stands behind the day, by kind -/
def shapeK (k : Str) : Nat := if k ∈ (["price", "come", "go", "draw"] : List Str) then 0 else if k = "mix" then 1 else if k = "give" then 2 else if k ∈ (["rate", "levy", "hurdle"] : List Str) then 3 else if k = "harvest" then 4 else 5
def ShapeN : Nat → List PyData → Prop
  | 0, r => ∃ t p, r = [.str t, .int p]
  | 1, r => ∃ ps, r = [pairsD ps]
  | 2, r => ∃ t u p, r = [.str t, .str u, .int p]
  | 3, r => ∃ p, r = [.int p]
  | 4, r => r = []
  | _, r => ∃ t, r = [.str t]
theorem EntOf.shape {Hn Tn : Str → Prop} {L d : Int} {k : Str} {rest : List PyData} (h : EntOf Hn Tn L k d rest) : ShapeN (shapeK k) rest := by
  cases h with
  | price d0 d1 t p0 p1 => rw [show shapeK "price" = 0 by decide +kernel]; exact ⟨_, _, rfl⟩
  | mix d0 d1 h => rw [show shapeK "mix" = 1 by decide +kernel]; exact ⟨_, rfl⟩
  | come d0 d1 t p0 p1 => rw [show shapeK "come" = 0 by decide +kernel]; exact ⟨_, _, rfl⟩
  | go d0 d1 t p0 p1 => rw [show shapeK "go" = 0 by decide +kernel]; exact ⟨_, _, rfl⟩
  | draw d0 d1 t p0 p1 => rw [show shapeK "draw" = 0 by decide +kernel]; exact ⟨_, _, rfl⟩
  | give d0 d1 t u n p0 p1 => rw [show shapeK "give" = 2 by decide +kernel]; exact ⟨_, _, _, rfl⟩
  | rate d0 d1 p0 p1 => rw [show shapeK "rate" = 3 by decide +kernel]; exact ⟨_, rfl⟩
  | harvest d0 d1 => rw [show shapeK "harvest" = 4 by decide +kernel]; exact rfl
  | aside d0 d1 t => rw [show shapeK "aside" = 5 by decide +kernel]; exact ⟨_, rfl⟩
  | home d0 d1 t => rw [show shapeK "home" = 5 by decide +kernel]; exact ⟨_, rfl⟩
  | levy d0 d1 p0 p1 => rw [show shapeK "levy" = 3 by decide +kernel]; exact ⟨_, rfl⟩
  | hurdle d0 d1 p0 p1 => rw [show shapeK "hurdle" = 3 by decide +kernel]; exact ⟨_, rfl⟩
theorem alike_prs : ∀ (ps qs : List (Str × Int)), PySem.W.alikeAll (ps.map fun p => PyData.tuple [.str p.1, .int p.2]) (qs.map fun p => PyData.tuple [.str p.1, .int p.2]) = true
  | [], _ => by simp [PySem.W.alikeAll]
  | _ :: _, [] => by simp [PySem.W.alikeAll]
  | p :: ps, q :: qs => by
    rw [List.map_cons, List.map_cons, PySem.W.alikeAll, alike_prs ps qs]
    simp [PySem.W.alike, PySem.W.alikeAll]
theorem shape_alike {n : Nat} {r r' : List PyData} (h : ShapeN n r) (h' : ShapeN n r') : PySem.W.alikeAll r r' = true := by
  match n, h, h' with
  | 0, ⟨_, _, e⟩, ⟨_, _, e'⟩ => subst e e'; simp [PySem.W.alike, PySem.W.alikeAll]
  | 1, ⟨ps, e⟩, ⟨qs, e'⟩ => subst e e'; simp [PySem.W.alike, PySem.W.alikeAll, alike_prs]
  | 2, ⟨_, _, _, e⟩, ⟨_, _, _, e'⟩ => subst e e'; simp [PySem.W.alike, PySem.W.alikeAll]
  | 3, ⟨_, e⟩, ⟨_, e'⟩ => subst e e'; simp [PySem.W.alike, PySem.W.alikeAll]
  | 4, e, e' => rw [show r = [] from e]; simp [PySem.W.alikeAll]
  | n + 5, ⟨_, e⟩, ⟨_, e'⟩ => subst e e'; simp [PySem.W.alike, PySem.W.alikeAll]
theorem shape_len {n : Nat} {r : List PyData} (h : ShapeN n r) : r.length ≤ 900 := by
  match n, h with
  | 0, ⟨_, _, e⟩ => subst e; show 2 ≤ 900; decide
  | 1, ⟨ps, e⟩ => subst e; show 1 ≤ 900; decide
  | 2, ⟨_, _, _, e⟩ => subst e; show 3 ≤ 900; decide
  | 3, ⟨_, e⟩ => subst e; show 1 ≤ 900; decide
  | 4, e => rw [show r = [] from e]; show 0 ≤ 900; decide
  | n + 5, ⟨_, e⟩ => subst e; show 1 ≤ 900; decide
theorem keysOk_ents {Hn Tn : Str → Prop} {L : Int} {es : List E3} (hH : ∀ x, Hn x → TxtOk x) (hT : ∀ x, Tn x → TxtOk x) (h : ∀ e, e ∈ es → EntIn Hn Tn L e) : KeysOk ((es.map dE).map turnD) := by
  rw [List.map_map]
  refine ⟨fun d hd => ?_, fun i k r r' h1 h2 => ?_⟩
  · obtain ⟨⟨k, i, rest⟩, he, rfl⟩ := List.mem_map.mp hd
    refine ⟨i, k, rest, rfl, ?_⟩
    have hl := (h _ he).lay hH hT
    have l1 : LayN 3 (.tuple rest) := lay_tup fun d hd => hl d (List.mem_cons_of_mem _ (List.mem_cons_of_mem _ hd))
    have l2 : LayN 4 (.tuple [.int i, .str k, .tuple rest]) := lay_tup fun d hd => by
      simp only [List.mem_cons, List.not_mem_nil, or_false] at hd
      rcases hd with rfl | rfl | rfl
      · exact lay_int _
      · exact lay_str (kind_txt (EntOf.kind (h _ he)))
      · exact l1
    have := l2.2
    show (PyData.tuple [.int i, .str k, .tuple rest]).depth ≤ 32
    omega
  · obtain ⟨⟨k1, i1, r1⟩, he1, e1⟩ := List.mem_map.mp h1
    obtain ⟨⟨k2, i2, r2⟩, he2, e2⟩ := List.mem_map.mp h2
    cases e1
    cases e2
    exact shape_alike (h _ he1).shape (h _ he2).shape
theorem Nm.ok : ∀ x, Nm x → TxtOk x := fun _ h => h.txt
/-- the sorted list of an entry list's places -/
theorem ents_sorted {K : PySem.W.Frag} {H : Hp} {ys : List V} {es : List E3} (h : A2 (fun v d => Dt K H v d) ys ((es.map dE).mergeSort (PySem.W.dataLe false turnD))) : DtAll K H ys ((sortE es).map dE) := by
  rw [sortE_D] at h
  have := a2_das (f := fun d => d) h
  rwa [List.map_id'] at this
theorem s_sortKT {K : PySem.W.Frag} {P : Addr} {q : Str} {te : TE} {σ : St} {H : Hp} {Q : VK} (h : te σ H fun x H1 => SortT K P q x H1 Q) : tSortT K P q te σ H Q := h
/-- a def by its body, its code object known -/
theorem fun_okC {P : Program} {w : World} {K : PySem.W.Frag} {mg : Str → Option Value} {base : Heap} {x qual : Str} {st : Stmt} {f : Addr} {fd : FuncData} {N ps : List Str} {k : Nat} {sp : Sp} (F : Fun K x qual st f fd) (S : FnScope N ps (defScope st)) (len : ∀ vs H Q E, sp vs H Q E → vs.length = ps.length)
    (hbody : ∀ (A : Around) (outer : List Env) (s : Shared) (H : Hp) (vs : List V) (Q : VK) (E : XK), Room k (A.deeper (envOfC qual (defScope st) s.heap.objs.size f fd.code)) → sp vs H Q E →
      ∃ t, PSs (cxOf CX0 P w K mg base N qual (defScope st) f fd.code A outer s H E).nox (defBody st) t ∧ t { nx := fun _ H' => Q .non H', rt := Q } (start N vs) H) : FnOk P w K mg base CX0 (k + 1) f fd ps sp := by
  obtain ⟨oc, od, kV, doc, pm, an, cdv, ct, osl, rfl, lk, hcd⟩ := F.ex
  refine fn_of lk hcd S len fun A outer s H vs Q E hr h => ?_
  obtain ⟨t, ht, q⟩ := hbody A outer s H vs Q E hr h
  exact ⟨t, ht.nox, q⟩
/-- f(e, .., k = v, ..), no defaults, all keyword-only parameters given -/
theorem kbR {K : PySem.W.Frag} {x qual : Str} {params : Arguments} {body : List Stmt} {scope : Scope} {kws : List (Str × V)} {f : Addr} {fd : FuncData} {ps : List Str} (F : FunD K x qual params body scope [] kws f fd) (n : Nat) (ks : List Str) (g : {α : Type} → List α → List α → List α)
    (hrel : ∀ {vs zs : List V} {us ws : List Value}, Vals vs us → Vals zs ws → Vals (g vs zs) (g us ws))
    (h : ∀ (kV doc pm : Value) (an : Option Addr) (cdv ct : Value) (us ws : List Value), us.length = n → ws.length = ks.length → bindArgs (PySem.W.fnOf x qual params body scope .none kV doc pm an cdv ct) ⟨us, ks.zip ws⟩ = pure (ps.zip (g us ws))) :
    ∃ _mv : List Value, KBn K fd ps n ks (fun us ws => g us ws) (fun vs zs => g vs zs) := by
  obtain ⟨oc, od, dV, kV, doc, pm, an, cdv, ct, osl, rfl, lk, hcd, hD, hK⟩ := F.ex
  rcases hD with ⟨_, rfl⟩ | ⟨e, _⟩
  · exact ⟨[], ⟨fun s us ws X l1 l2 => .of_eq (h kV doc pm an cdv ct us ws l1 l2), fun r1 r2 => hrel r1 r2⟩⟩
  · exact absurd rfl e
end Cr

namespace Cr
/-! texts: str(x), int(x, 10), x, *rest = list, a walk over range(a, b, c) -/
section
open PySem PySem.Spec PySem.W PySem.Calls PyProof.Rows L2
def rStrU : List V → Hp → VK → Prop := fun xs H Q => (∃ i, xs = [.int i] ∧ i.natAbs.log2 < 1920 ∧ Q (.str (toString i)) H) ∨ ∃ a, xs = [.str a] ∧ Q (.str a) H
theorem call_strU {X : Cx} : CallR X (.type "str") rStrU := by
  intro pins s σ H xs us Q I r h
  rcases h with h | h
  · exact call_str_int pins s σ H xs us Q I r h
  · exact SkE.call_str_str pins s σ H xs us Q I r h
end
section
open PySem PySem.NumText PySem.Calls PyProof.Rows PySem.W.KIN L2.Hx
set_option maxHeartbeats 4000000 in
theorem gives_ten {x : PySem.Str} {u t : Tok} {n : Int} (small : x.length ≤ 640) (val : PySem.intText? x = some n) : Gives (Builtin.«int.__new__» ⟨[.type "int", .str x u, .int 10 t], []⟩) (.int n) := by
  have sz : (numSeenOf x).length ≤ 640 := Nat.le_trans (seen_length x) small
  have rd : (int_private% "readNumeral") 0 10 (numSeenOf x) = (int_private% "Numeral.value") n ∧ ((numSeenOf x).length == (numTextOf x).length) = true := by
    rcases read0 x sz with ⟨m, a1, a2, a3⟩ | ⟨a1, _⟩
    · obtain rfl : n = m := Option.some.inj (val.symm.trans a1)
      exact ⟨a3, a2⟩
    · exact absurd (val.symm.trans a1) (by simp)
  refine .of_wp fun M A E s Q done => ?_
  obtain ⟨hp, g, d, tk, os⟩ := s
  have c1 := F.conv_sub_int
  have c2 := F.madeHere_int
  have c3 : typeOf (.str x u) = pure (.type "str") := rfl
  have pk := L2.Hx.Hid.mk (And.intro sz rd)
  clear sz rd small val
  repeat (any_goals (first
    | assumption
    | ((with_reducible show wpAny _ _ ((int_private% "intFromText") _ _ _) _ _ _); refine L2.Hx.wp_textB pk.out.1 pk.out.2.1 pk.out.2.2 ?_)
    | wp_step))
  all_goals first | exact ⟨_, rfl, done⟩ | skip
theorem call_ten {prog : Program} {w : World} {A : Around} {E : Value → Shared → Prop} {s : Shared} {Q : Value → Shared → Prop} {x : PySem.Str} {u t : Tok} {n : Int} (small : x.length ≤ 640) (val : PySem.intText? x = some n)
    (done : Q (.int n s.toks) { s with toks := s.toks + 1 }) : wpAny (model prog w) A (call (.type "int") [.str x u, .int 10 t]) Q E s :=
  callType_new F.called_int F.newNe_int (L2.Hx.typeCall_int_2 _ _) (L2.Hx.newCall_int_2 _ _) (fun obj => F.initArgs_range_2 obj _ _) F.entry_int_new (gives_ten small val).meets (show (Made.int n).post _ s from ⟨rfl, done⟩)
end
section
open PySem PySem.Spec PyProof.Rows L2
/-- int(t, 10) -/
def rIntTen : List V → Hp → VK → Prop := fun xs H Q => ∃ (x : Str) (n : Int), xs = [.str x, .int 10] ∧ x.length ≤ 640 ∧ PySem.intText? x = some n ∧ Q (.int n) H
theorem call_intTen {X : Cx} : CallR X (.type "int") rIntTen := by
  intro pins s σ H xs us Q I r h
  obtain ⟨x, n, rfl, hl, hx, q⟩ := h
  obtain ⟨u, w', rfl, r1, r2⟩ := vals2 r
  obtain ⟨t1, rfl⟩ := r1
  obtain ⟨t2, rfl⟩ := r2
  exact call_ten hl hx ⟨.int n, H, I.tok _, ⟨_, rfl⟩, q⟩
end
section
open PySem PySem.Spec PySem.W PySem.Calls PyProof.Rows L2
theorem draw_one {prog : Program} {w : World} {A : Around} {E : Value → Shared → Prop} {s : Shared} {it l : Addr} {its : Array Value} {Q : List Value → Shared → Prop} (hit : s.heap.IsListIter it l 0) (hl : s.heap.IsList l its) (h1 : 1 ≤ its.size)
    (k : ∀ h', h'.IsListIter it l 1 → Heap.SameBut it s.heap h' → Q (its.toList.take 1) { s with heap := h' }) : wpAny (model prog w) A (draw (.ref it) 1) Q E s := by
  show wpAny _ _ (pyNext (.ref it) >>= _) Q E s
  refine wpAny_bind (wpAny_pyNext_list_item hit hl (x := its[0]) (by simp) fun ha ia sa => ?_)
  refine wpAny_bind (wpAny_holding ?_)
  show wpAny _ _ (pure []) _ _ _
  refine wpAny_pure (wpAny_pure ?_)
  have e : its.toList.take 1 = [its[0]] := by
    obtain ⟨l⟩ := its
    cases l with
    | nil => simp at h1
    | cons a r => rfl
  have := k ha ia sa
  rw [e] at this
  exact this
theorem star_itemsL {prog : Program} {w : World} {A : Around} {E : Value → Shared → Prop} {s : Shared} {t : Addr} {its : Array Value} {Q : List Value → Shared → Prop} (hh : A.handled = none) (ht : s.heap.IsList t its) (h1 : 1 ≤ its.size) (hz : its.size ≤ 1000)
    (k : ∀ h' tk, (∀ b o, s.heap.get? b = some o → h'.get? b = some o) → wpAny (model prog w) A (newList (its.toList.drop 1)) (fun d u => Q (its.toList.take 1 ++ [d]) u) E { s with heap := h', toks := tk }) : wpAny (model prog w) A (unpackItems (.ref t) 2 (some 1)) Q E s := by
  have tne : t ≠ s.heap.objs.size := by obtain ⟨o, ho, _⟩ := ht; exact Nat.ne_of_lt (Heap.lt_size ho)
  have big : its.size ≤ sizeLine := Nat.le_of_lt (L2.small1000 hz)
  unfold unpackItems
  refine wpAny_bind ?_
  unfold notIterableAtAll
  refine wpAny_bind (wpAny_specialOf ht.typeIs PySem.F.slot_list_iter.lookup (wpAny_pure ?_))
  simp only [Bool.false_eq_true, if_false]
  refine wpAny_bind (wpAny_holding (wpAny_pyIter_list ht (wpAny_bind (wpAny_holding (draw_one ⟨_, Heap.get?_push_size _ rfl, rfl, rfl⟩ (ht.push _) h1 fun ha ia sa => ?_)))))
  have ta : ha.IsList t its := (ht.push _).extBut sa.extBut tne
  obtain ⟨oi, gi, ri⟩ := id ia
  obtain ⟨ol, gl, rl⟩ := id ta
  have fl : (its.toList.take 1).length = 1 := by rw [List.length_take, Array.length_toList]; omega
  rw [if_neg (show ¬ ((its.toList.take 1).length < 1) by rw [fl]; omega)]
  refine wpAny_bind (wpAny_holding (kun_collect (s := { s with heap := ha }) (T := "list_iterator") (.inr (.inr (.inl rfl))) (Walks.list (A := A.in1) hh s.heap.objs.size t tne its) (fun _ _ st => st.1.typeIs) (k := 1) (by omega) ⟨ia, ta⟩ (Heap.lt_size gi) (Heap.lt_size gl) (fun hb tk kb => ?_) big))
  have len : (its.toList.drop 1).length = its.size - 1 := by rw [List.length_drop, Array.length_toList]
  show wpAny _ _ (if (its.toList.drop 1).length < 0 then _ else _) _ _ _
  rw [if_neg (Nat.not_lt_zero _)]
  show wpAny _ _ (newList ((its.toList.drop 1).take ((its.toList.drop 1).length - 0)) >>= fun d => pure (its.toList.take 1 ++ [d] ++ (its.toList.drop 1).drop ((its.toList.drop 1).length - 0))) _ _ _
  rw [Nat.sub_zero, List.take_length, List.drop_length]
  refine wpAny_bind (wpAny_mono (k hb tk fun b o e => ?_) (fun d u q => wpAny_pure ?_) fun _ _ x => x)
  · have nb : b ≠ s.heap.objs.size := Nat.ne_of_lt (Heap.lt_size e)
    exact kb b o nb (sa.extBut b o nb (Heap.get?_push_of_some _ e))
  · rw [List.append_nil]; exact q
theorem star_bindL {prog : Program} {w : World} {A : Around} {E : Value → Shared → Prop} {s : Shared} {t : Addr} {its : Array Value} {env : Env} {elts : List Expr} {k : Nat} {pos : Pos} {Q : Unit → Shared → Prop} (hh : A.handled = none) (ht : s.heap.IsList t its) (h1 : 1 ≤ its.size) (hz : its.size ≤ 1000) (two : (assignEach elts env).length = 2) (at1 : (assignEach elts env).findIdx? (·.1) = some 1)
    (h : ∀ h' tk, (∀ b o, s.heap.get? b = some o → h'.get? b = some o) → wpAny (model prog w) A (newList (its.toList.drop 1)) (fun d u => wpAny (model prog w) A (assignInOrder ((assignEach elts env).map (·.2)) (its.toList.take 1 ++ [d])) Q E u) E { s with heap := h', toks := tk }) : wpAny (model prog w) A (assign (.Tuple elts k pos) env (.ref t)) Q E s := by
  rw [assign_Tuple]
  refine wpAny_bind (wpAny_standAt ?_)
  unfold unpack
  rw [two, at1]
  exact wpAny_bind (wpAny_holding (star_itemsL hh ht h1 hz h))
/-- x, *rest = l of a list: the rest is a new list -/
def gStarL (K : PySem.W.Frag) (t : TGs) : TG := fun v σ H Q => ∃ a x xs, v = V.ref a ∧ SqL K H a (x :: xs) ∧ xs.length ≤ 900 ∧ ∀ p, H p = none → t [x, .ref p] σ (upd H p (.lst xs)) Q
theorem pg_starL {X : Cx} {e0 e1 : Expr} {p1 : Pos} {k : Nat} {t : TGs} {pos : Pos} (hc : X.calm = true) (h : PGs X [e0, e1] t) (two : (assignEach [e0, .Starred e1 p1] X.env).length = 2 := by rfl) (at1 : (assignEach [e0, .Starred e1 p1] X.env).findIdx? (·.1) = some 1 := by rfl)
    (same : (assignEach [e0, .Starred e1 p1] X.env).map (·.2) = (assignEach [e0, e1] X.env).map (·.2) := by rfl) : PG X (.Tuple [e0, .Starred e1 p1] k pos) (gStarL X.K t) := by
  refine ⟨fun pins s σ H v u Q I r hw => ?_⟩
  obtain ⟨a, x, xs, rfl, hq, hl, hw⟩ := hw
  cases r
  obtain ⟨its, rv, ht, hz⟩ := I.list hq
  have len := rv.length
  rw [List.length_cons] at len
  cases rv with
  | @cons _ u0 _ us r0 rs =>
    refine star_bindL (I.ok.hd hc) ht.isList (by simp) (by simp only [List.size_toArray]; omega) two at1 fun h' tk keep => ?_
    have I1 : Inv X pins σ H { s with heap := h', toks := tk } := I.kept (t' := tk) keep
    have e2 : (u0 :: us).toArray.toList.drop 1 = us := rfl
    have e3 : (u0 :: us).toArray.toList.take 1 = [u0] := rfl
    rw [e2, e3]
    refine wpAny_newList ?_ (Nat.le_of_lt (L2.small1000 (by rw [← rs.length]; omega)))
    have I2 : Inv X pins σ (upd H h'.objs.size (.lst xs)) { s with heap := h'.push { cls := .type "list", data := .seq us.toArray }, toks := tk } :=
      I1.laid (t' := tk) (fun b o e => Heap.get?_push_of_some _ e) (Nat.le_refl _) ⟨Nat.le_of_lt (L2.small1000 (by omega)), us, 0, rs, Heap.get?_push_size _ rfl⟩
    rw [same]
    exact h.run pins _ σ _ _ _ Q I2 (.cons r0 (.cons (show L2.RelV (V.ref h'.objs.size) (Value.ref h'.objs.size) from rfl) .nil)) (hw _ (I1.hok.fresh (Nat.le_refl _)))
end
end Cr
namespace Cr
section
open PySem PySem.Spec PyProof.Rows L2 L2.DX LamX
variable {K : PySem.W.Frag} {σ : St} {H : Hp} {Q : VK} {D : Ends}
theorem s_strI {i : Int} (h : i.natAbs.log2 < 1920) (q : Q (.str (toString i)) H) : rStrU [.int i] H Q := .inl ⟨i, rfl, h, q⟩
theorem s_strS {a : Str} (q : Q (.str a) H) : rStrU [.str a] H Q := .inr ⟨a, rfl, q⟩
theorem s_intTen {x : Str} {n : Int} (h : x.length ≤ 640) (e : PySem.intText? x = some n) (q : Q (.int n) H) : rIntTen [.str x, .int 10] H Q := ⟨x, n, rfl, h, e, q⟩
theorem s_gstarL {a : Addr} {x : V} {xs : List V} {t : TGs} {N : St → Hp → Prop} (hs : SqL K H a (x :: xs)) (l : xs.length ≤ 900) (h : ∀ p, H p = none → t [x, .ref p] σ (upd H p (.lst xs)) N) : gStarL K t (.ref a) σ H N := ⟨a, x, xs, rfl, hs, l, h⟩
/-- a comprehension over range(lo, .., c) -/
theorem c_rangeC {lo c : Int} {n : Nat} {g : TG} {te : TE} {vs : List Nat} (R : Hp → Nat → V → Prop) (rm : ∀ A B z y, KT A B → R A z y → R B z y) (hz : n ≤ 1000)
    (turn : ∀ (i : Nat) A (N : V → Hp → Prop), i < n → Same H A → (∀ y B, Same A B → R B i y → N y B) → g (.int (lo + (i : Nat) * c)) (wipe σ vs) A fun σ2 B => wipe σ2 vs = wipe σ vs ∧ te σ2 B N)
    (fin : ∀ p ys A, Same H A → H p = none → A p = some (.lst ys) → A2 (R A) (List.range n) ys → Q (.ref p) A) : LcR (Itc lo c n) g tYes te vs σ H Q := by
  intro p hp
  refine ⟨fun i m A => m = n - i ∧ i ≤ n ∧ Same H A ∧ ∃ ys, A p = some (.lst ys) ∧ A2 (R A) (List.range i) ys, ⟨_, rfl, Nat.zero_le _, same_new hp, [], upd_same, .nil⟩, ?_⟩
  rintro i m A ⟨rfl, hi, sm, ys, h1, h2⟩
  by_cases hlt : i < n
  · refine .inr ⟨hlt, fun A' => i + 1 ≤ n ∧ Same H A' ∧ ∃ ys, A' p = some (.lst ys) ∧ A2 (R A') (List.range (i + 1)) ys, fun A' h => ⟨n - (i + 1), by omega, rfl, h⟩, fun v A' y => ?_⟩
    obtain ⟨rfl, rfl⟩ := y
    refine turn i A' _ hlt sm fun y B sb r => ?_
    have hB := sb _ _ h1
    have kt : KT B (upd B p (.lst (ys ++ [y]))) := kt_mut hB rfl
    have len : ys.length = i := by rw [← h2.len, List.length_range]
    refine ⟨_, hB, L2.small1000 (by omega), hlt, same_mut (sm.trans sb) hp, ys ++ [y], upd_same, ?_⟩
    rw [List.range_succ]
    exact A2.snoc (rm _ _ _ _ kt r) (h2.mono fun _ _ z => rm _ _ _ _ ((kt_same sb).trans kt) z)
  · obtain rfl : i = n := by omega
    exact .inl ⟨Nat.le_refl _, fin p ys A sm hp h1 h2⟩
/-! words and lines -/
def numT (i : Int) : Str := toString i
theorem numT_tl (n : Nat) : TL.tl (numT (n : Int)) = TL.numL n := TL.tl_num n
theorem numT_int {n : Nat} (h : n < 10 ^ 12) : PySem.intText? (numT (n : Int)) = some (n : Int) := TL.int_num (Nat.le_trans (TL.numL_len (k := 12) (by decide) h) (by decide))
theorem numT_len {n : Nat} (h : n < 10 ^ 12) : (numT (n : Int)).cps.size ≤ 12 := by
  have e : (numT (n : Int)).cps.size = (TL.numL n).length := by rw [← numT_tl]; exact (Array.length_toList).symm
  rw [e]
  exact TL.numL_len (by decide) h
theorem numT_pos (n : Nat) : 1 ≤ (numT (n : Int)).cps.size := by
  have e : (numT (n : Int)).cps.size = (TL.numL n).length := by rw [← numT_tl]; exact (Array.length_toList).symm
  rw [e]
  exact List.length_pos_iff.mpr (TL.numL_ne n)
theorem numT_dig {n c : Nat} (h : c ∈ (numT (n : Int)).cps.toList) : 48 ≤ c ∧ c ≤ 57 := by
  have : c ∈ TL.numL n := by rw [← numT_tl]; exact h
  by_cases z : c < 48 ∨ 57 < c
  · exact absurd this (TL.numL_free z)
  · omega
theorem numL_head : ∀ {n : Nat}, 0 < n → ∃ c r, TL.numL n = c :: r ∧ 49 ≤ c := by
  intro n
  induction n using Nat.strongRecOn with
  | _ n ih =>
    intro h
    by_cases h10 : n < 10
    · exact ⟨48 + n, [], TL.numL_lt h10, by omega⟩
    · obtain ⟨c, r, e, hc⟩ := ih (n / 10) (by omega) (by omega)
      exact ⟨c, r ++ [48 + n % 10], by rw [TL.numL_step (by omega), e]; rfl, hc⟩
theorem numT_free (n : Nat) : 32 ∉ TL.tl (numT (n : Int)) := by
  rw [numT_tl]
  exact TL.numL_free (.inl (by decide))
theorem nm_free {t : Str} (h : Nm t) : 32 ∉ TL.tl t := fun z => by have := (h.2.2 32 z).1; omega
theorem join_cons (y a : Str) {l : List Str} (h : l ≠ []) : Str.join y (a :: l) = a ++ y ++ Str.join y l := by
  cases l with
  | nil => exact absurd rfl h
  | cons b l => rfl
def pairT (p : Str × Int) : Str := p.1 ++ " " ++ numT p.2
def flatP : List (Str × Int) → List Str
  | [] => []
  | p :: ps => p.1 :: numT p.2 :: flatP ps
theorem flatP_len : ∀ ps : List (Str × Int), (flatP ps).length = 2 * ps.length
  | [] => rfl
  | p :: ps => by rw [flatP, List.length_cons, List.length_cons, flatP_len ps, List.length_cons]; omega
theorem flatP_ne {ps : List (Str × Int)} (h : ps ≠ []) : flatP ps ≠ [] := fun z => by
  have := congrArg List.length z
  rw [flatP_len] at this
  cases ps with
  | nil => exact h rfl
  | cons p ps => rw [List.length_cons, List.length_nil] at this; omega
theorem str_assoc (a b c : Str) : a ++ b ++ c = a ++ (b ++ c) := TL.ext_tl (by simp only [TL.tl_append, List.append_assoc])
theorem join_pairs : ∀ {ps : List (Str × Int)}, ps ≠ [] → Str.join " " (ps.map pairT) = Str.join " " (flatP ps)
  | [], h => absurd rfl h
  | [p], _ => rfl
  | p :: q :: r, _ => by
    rw [List.map_cons, join_cons _ _ (by simp), flatP, join_cons _ _ (by simp), join_cons _ _ (flatP_ne (by simp)), join_pairs (ps := q :: r) (by simp)]
    unfold pairT
    simp only [str_assoc]
theorem flatP_at : ∀ {ps : List (Str × Int)} {i : Nat} {p : Str × Int}, ps[i]? = some p → (flatP ps)[2 * i]? = some p.1 ∧ (flatP ps)[2 * i + 1]? = some (numT p.2)
  | p :: ps, 0, _, h => by cases h; exact ⟨rfl, rfl⟩
  | p :: ps, i + 1, q, h => by
    have h' : ps[i]? = some q := h
    obtain ⟨h1, h2⟩ := flatP_at h'
    exact ⟨h1, h2⟩
def wordD : PyData → Str
  | .str s => s
  | .int i => numT i
  | _ => ""
/-- the words of an entry -/
def flatD : List PyData → List Str
  | .tuple [.str t, .int c] :: r => t :: numT c :: flatD r
  | _ => []
theorem flatD_P : ∀ ps : List (Str × Int), flatD (ps.map fun p => PyData.tuple [.str p.1, .int p.2]) = flatP ps
  | [] => rfl
  | p :: ps => by rw [List.map_cons, flatD, flatD_P ps, flatP]
def wordsOf (k : Str) (d : Int) : List PyData → List Str
  | [.tuple es] => k :: numT d :: flatD es
  | rest => k :: numT d :: rest.map wordD
def lineE (k : Str) (d : Int) (rest : List PyData) : Str := Txt.join " " (wordsOf k d rest)
theorem lineE_mix (k : Str) (d : Int) {ps : List (Str × Int)} (h : ps ≠ []) : lineE k d [pairsD ps] = Txt.join " " (k :: numT d :: ps.map pairT) := by
  unfold lineE
  rw [TL.join_eq, TL.join_eq]
  show Str.join " " (k :: numT d :: flatD (ps.map fun p => PyData.tuple [.str p.1, .int p.2])) = _
  rw [flatD_P, join_cons _ _ (by simp), join_cons _ (numT d) (flatP_ne h), join_cons _ k (by simp), join_cons _ (numT d) (by simpa using h), join_pairs h]
theorem sp_text : TL.tl " " = [32] := by decide +kernel
theorem split_words {ws : List Str} (h : ws ≠ []) (hf : ∀ p, p ∈ ws → 32 ∉ TL.tl p) : Txt.split (Txt.join " " ws) " " = ws := TL.split_join (s := 32) (S := []) sp_text (by decide +kernel) h hf
end
end Cr

namespace Cr
/-! the law's def at the top, where no repr is under way; repr of lists and tuples there -/
section
open PySem PySem.Spec PyProof.Rows L2
def TopOk (P : Program) (w : World) (K : PySem.W.Frag) (mg : Str → Option Value) (base : Heap) (f : Addr) (fd : FuncData) (ps : List Str) (sp : Sp) : Prop :=
  ∀ (s : Shared) (H : Hp) (args : Args) (us : List Value) (vs : List V) (Q : VK) (E : XK), Env0 P w K mg base callerA [] s H → BindsTo s fd args (ps.zip us) → Vals vs us → sp vs H Q E →
    codeAny (model P w) callerA (.call (.ref f) args) (CR CX0 [] P w H s Q E) s
theorem topOk_of {P : Program} {w : World} {K : PySem.W.Frag} {mg : Str → Option Value} {base : Heap} {x qual : Str} {st : Stmt} {f : Addr} {fd : FuncData} {N ps : List Str} {k : Nat} {sp : Sp} (F : Fun K x qual st f fd) (S : FnScope N ps (defScope st)) (len : ∀ vs H Q E, sp vs H Q E → vs.length = ps.length) (room : Room (k + 1) callerA)
    (body : ∀ (cdv : Value) (A : Around) (outer : List Env) (s : Shared) (H : Hp) (vs : List V) (Q : VK) (E : XK), A.guards = some [] → Room k (A.deeper (envOfC qual (defScope st) s.heap.objs.size f cdv)) → sp vs H Q E →
      ∃ t, PSs (cxOf CX0 P w K mg base N qual (defScope st) f cdv A outer s H E).nox (defBody st) t ∧ t { nx := fun _ H' => Q .non H', rt := Q } (start N vs) H) : TopOk P w K mg base f fd ps sp := by
  obtain ⟨oc, od, kV, doc, pm, an, cdv, ct, osl, rfl, at1, code⟩ := F.ex
  intro s H args us vs Q E env bound rel says
  have many := len _ _ _ _ says
  have here : K.In s.heap := env.mod.kin.keeps fun b o e => (env.bs b o e).1
  have free : s.heap.NoLimit := env.mod.nolimit.keeps fun b o e => (env.bs b o e).1
  refine codeAny_call_function room.depth (here _ _ at1) rfl S.co S.gen rfl (PySem.W.codeRec_of here code) (bound _ _ _ _ ?_)
  have places : ∀ y ∈ ps.zip us, (defScope st).names.lookup y.1 = some .local ∨ ((defScope st).names.lookup y.1 = some .cell ∧ ((cellsFrom (s.heap.objs.size + 1) (defScope st).names []).lookup y.1).isSome = true) := by
    rintro ⟨y, v⟩ hy
    rcases S.par y (List.of_mem_zip hy).1 with z | z
    · exact .inl z
    · exact .inr ⟨z, PySem.W.cellsFrom_some _ _ _ (.inl z)⟩
  refine wpAny_newFunctionEnv_cells S.kind places fun ev eev s1 laid => ?_
  subst eev
  refine ⟨free.keeps laid.toInCall.keep, codeAny_func ?_⟩
  obtain ⟨t, reads, post⟩ := body cdv callerA [] s H vs Q E rfl (room.deeper _) says
  have inv : Inv (cxOf CX0 P w K mg base N qual (defScope st) f cdv callerA [] s H E) [] (start N vs) H s1 := inv_start S room.hd env many rel laid
  refine wpAny_mono (reads.nox.run [] s1 (start N vs) H _ inv post) (fun fl s' got => ?_) fun e s' bad => bad
  cases fl with
  | ret u =>
    obtain ⟨v, σ', H', J, rv, q⟩ := got
    exact ⟨v, H', J.os, J.bare, J.base, J.hok, rv, q⟩
  | next =>
    obtain ⟨σ', H', J, q⟩ := got
    exact ⟨V.non, H', J.os, J.bare, J.base, J.hok, (rfl : RelV V.non Value.none), q⟩
  | brk =>
    obtain ⟨_, _, _, q⟩ := got
    exact q.elim
  | cont =>
    obtain ⟨_, _, _, q⟩ := got
    exact q.elim
/-- what a law's heap tracks: the script, or nothing -/
structure Script (P : Program) (w : World) (K : PySem.W.Frag) (h : Heap) (a : Addr) (o : Obj) (xs : List V) (H : Hp) : Prop where
  seq : SqL K H a xs
  ok : HOk P w H h
  one : ∀ b u, H b = some u → b = a ∧ u = .frz o (.lst xs)
  out : ∀ u, H a = some u → K.lookup a = none
theorem script_in {P : Program} {w : World} {K : PySem.W.Frag} {h : Heap} {a : Addr} {vs : List Value} {ns : List Int} (KX : K.In h) (ha : h.get? a = some { cls := .type "list", data := .seq vs.toArray }) (hi : IntsAre vs ns) (hl : ns.length ≤ sizeLine) :
    ∃ H, Script P w K h a { cls := .type "list", data := .seq vs.toArray } (ns.map V.int) H := by
  have rel := vals_ints hi
  cases hk : K.lookup a with
  | some o =>
    have same := KX a o hk
    rw [ha] at same
    cases same
    exact ⟨fun _ => none, .inr ⟨_, vs.toArray, _, hk, rfl, rfl, rfl, by rw [List.size_toArray, hi.length]; exact hl, by simpa using rel⟩, (fun b u z => nomatch z), (fun b u z => nomatch z), fun u z => nomatch z⟩
  | none =>
    refine ⟨fun b => if b = a then some (.frz { cls := .type "list", data := .seq vs.toArray } (.lst (ns.map V.int))) else none, .inl (.inr ⟨_, if_pos rfl⟩), fun b u z => ?_, fun b u z => ?_, fun _ _ => hk⟩
    · by_cases e : b = a
      · subst e
        rw [if_pos rfl] at z
        cases z
        exact ⟨ha, by rw [List.length_map]; exact hl, vs, _, rel, ha⟩
      · rw [if_neg e] at z
        exact nomatch z
    · by_cases e : b = a
      · rw [if_pos e] at z
        cases z
        exact ⟨e, rfl⟩
      · rw [if_neg e] at z
        exact nomatch z
theorem top_call {P : Program} {w : World} {K : PySem.W.Frag} {mg mb : Str → Option Value} {fa a : Addr} {fd : FuncData} {x : Str} {sp : Sp} {s : Shared} {vs : List Value} {ns : List Int}
    (KX : K.In s.heap) (glob : s.heap.Ns mainGlobals mg) (blt : s.heap.Ns builtinsNs mb) (boot : ∀ x : Str, x ≠ "__name__" → mb x = bootBuiltins x) (lim : s.heap.NoLimit) (gens : s.gens = #[])
    (ha : s.heap.get? a = some { cls := .type "list", data := .seq vs.toArray }) (hi : IntsAre vs ns) (hl : ns.length ≤ sizeLine)
    (F : ∀ base : Heap, K.In base → base.Ns mainGlobals mg → TopOk P w K mg base fa fd [x] sp) (binds : ∀ (s : Shared) (u : Value), BindsTo s fd ⟨[u], []⟩ [(x, u)])
    (says : ∀ H : Hp, SqL K H a (ns.map V.int) → sp [.ref a] H (fun v _ => v = .bl true) fun _ _ _ => False) :
    codeAny (model P w) callerA (.call (.ref fa) ⟨[.ref a], []⟩) (fun r s' => r = .ok (.ret (.bool true)) ∧ OldK s.heap s'.heap ∧ s'.os = s.os ∧ AllBare s'.gens) s := by
  obtain ⟨H, sc⟩ := script_in (P := P) (w := w) KX ha hi hl
  have dictsFree : ∀ {b : Addr} {o : Obj} {es : Array DictEntry} {ep : Nat}, s.heap.get? b = some o → o.data = .dict es ep → H b = none := by
    intro b o es ep e d
    cases q : H b with
    | none => rfl
    | some u =>
      obtain ⟨rfl, _⟩ := sc.one b u q
      rw [ha] at e
      cases e
      exact nomatch (d : Data.seq vs.toArray _ = Data.dict es ep)
  have names : ∀ {b : Addr} {m : Str → Option Value}, s.heap.Ns b m → (hidT s.heap H).Ns b m := by
    rintro b m ⟨o, es, ep, e, d, r⟩
    exact ⟨o, es, ep, hidT_get e (dictsFree e d), d, r⟩
  have base : K.In (hidT s.heap H) := by
    intro b o e
    refine hidT_get (KX b o e) ?_
    cases q : H b with
    | none => rfl
    | some u =>
      obtain ⟨rfl, _⟩ := sc.one b u q
      rw [sc.out u q] at e
      exact nomatch e
  have md : Mod K mg (hidT s.heap H) := ⟨base, names glob, ⟨mb, names blt, boot⟩, by
    obtain ⟨mc, l1, l2⟩ := lim
    exact ⟨mc, names l1, l2⟩⟩
  have env : Env0 P w K mg (hidT s.heap H) callerA [] s H := ⟨rfl, md, (fun b o e => of_hidT e), Nat.le_of_eq (hidT_size _ _), trivial, (fun b hb => nomatch hb), sc.ok, .of_eq gens⟩
  refine codeAny_mono (F _ base (names glob) s H ⟨[.ref a], []⟩ [.ref a] [.ref a] _ _ env (binds s (.ref a)) (.cons rfl .nil) (says H sc.seq)) fun r s' got => ?_
  cases r with
  | error e => exact got.elim
  | ok fl =>
    cases fl with
    | next => exact got.elim
    | brk => exact got.elim
    | cont => exact got.elim
    | ret u =>
      obtain ⟨v, H', os, bare, un, ok', rv, q⟩ := got
      obtain rfl : v = .bl true := q
      obtain rfl : u = Value.bool true := rv
      refine ⟨rfl, OldK.of_keep fun b o e => ?_, os, bare⟩
      cases q : H b with
      | none => exact un.keep b o e q (fun z => nomatch z) (fun z => nomatch z)
      | some v =>
        obtain ⟨rfl, rfl⟩ := sc.one b v q
        obtain ⟨g1, _⟩ := sc.ok _ _ q
        obtain ⟨g2, _⟩ := ok' _ _ (un.frzs _ _ _ q)
        rw [e] at g1
        cases g1
        exact g2
theorem walk_top {l : PySem.W.OpenLaw} {n : Nat} {q : Program} {loose : List Str} {XP : (Str → Option Value) → Heap → Prop} {YP : World → Heap → Prop} {d : DefRec} {K : Params → PySem.W.Frag} {sp : World → Sp} {x : Str}
    (hn : l.most = some n) (hn2 : n ≤ sizeLine) (hdf : d.params.defaults = []) (hY : ∀ (w : World) (h : Heap), YP w h → (K w.params).In h)
    (F : ∀ (w : World) (mg : Str → Option Value) (fa : Addr) (h : Heap), (K w.params).In h → h.Ns mainGlobals mg → mg d.name = some (.ref fa) →
      ∃ fd : FuncData, (∀ (s : Shared) (u : Value), BindsTo s fd ⟨[u], []⟩ [(x, u)]) ∧ ∀ base : Heap, (K w.params).In base → base.Ns mainGlobals mg → TopOk l.prog w (K w.params) mg base fa fd [x] (sp w))
    (says : ∀ (w : World) (H : Hp) (a : Addr) (ns : List Int), ns.length ≤ n → SqL (K w.params) H a (ns.map V.int) → sp w [.ref a] H (fun v _ => v = .bl true) fun _ _ _ => False) :
    PySem.W.WalkO q loose XP YP l.row.toRowW d [] (fun f vs => PySem.call f vs) := by
  refine Att.attach_call hn hdf fun w s0 s mg mb fa o pm cd doc a vs ns G Y ho hd hcd hmg hobj hints hlen hg => ?_
  have inK := hY w _ Y
  obtain ⟨fd, binds, ok⟩ := F w mg fa _ inK G.T.g hmg
  exact top_call inK G.T.g G.T.b G.T.builtins G.T.nolimit hg hobj hints (Nat.le_trans hlen hn2) ok binds fun H seq => says w H a ns hlen seq
end
end Cr
namespace Cr
section
open PySem PySem.Spec PyProof.Rows L2
/-- repr(x) of a list or tuple of data, or of a whole number -/
def rReprU (K : PySem.W.Frag) : List V → Hp → VK → Prop := fun xs H Q => (∃ a d, xs = [.ref a] ∧ Dp K H (.ref a) d ∧ d.showable = true ∧ d.hasDict = false ∧ d.depth ≤ 64 ∧ d.shown.length ≤ sizeLine ∧ Q (.str d.shown) H) ∨ ∃ i, xs = [.int i] ∧ i.natAbs.log2 < 1920 ∧ Q (.str (toString i)) H
theorem call_reprU {X : Cx} {k : Nat} (hr : Room k X.A) (hg : X.A.guards = some []) : CallR X (.builtin "repr") (rReprU X.K) := by
  intro pins s σ H xs us Q I r h
  rcases h with ⟨a, d, rfl, hd, hs, hn, hz, hl, q⟩ | h
  · obtain ⟨u, rfl, ru⟩ := vals1 r
    obtain ⟨as, rd⟩ := Dp.reads I _ _ _ hd ru
    cases ru
    refine repr_of_reads' rd hs (fun z => by rw [hn] at z; cases z) hg (by have := hr.un; omega) (fun b o e => e) (fun h' u tk keep => ⟨.str d.shown, H, I.kept (t' := tk) keep, ⟨_, rfl⟩, q⟩) hl
  · exact SkE.call_repr_int pins s σ H xs us Q I r h
end
end Cr

namespace Cr
/-! sorted(..) without key of (whole number, text, tuple) triples whose tuples differ in shape where the first two do -/
section
open PySem PySem.Spec PySem.W PySem.Calls PyProof.Rows L2
def rSortK (K : PySem.W.Frag) : List V → Hp → VK → Prop := fun vs H Q => ∃ (a : Addr) (xs : List V) (ds : List PyData), vs = [.ref a] ∧ SqL K H a xs ∧ DtAll K H xs ds ∧ KeysOk ds ∧ xs.length ≤ 1000 ∧
  ∀ p ys, H p = none → ys.Perm xs → A2 (fun y d => Dt K H y d) ys (sortD ds) → Q (.ref p) (upd H p (.lst ys))
theorem call_sortK {X : Cx} (hu : X.A.units + 64 < cLine) : CallR X (.builtin "sorted") (rSortK X.K) := by
  intro pins s σ H vs us Q I r h
  obtain ⟨a, xs, ds, rfl, hs, hd, hk, hz, q⟩ := h
  rw [Vals.ref1 r]
  obtain ⟨its, rv, pl, _⟩ := I.list hs
  obtain ⟨o, ho, hc, n, hdat⟩ := pl.isList
  have hil : its.length ≤ 1000 := by rw [← rv.length]; exact hz
  have hL : its.length ≤ sizeLine := Nat.le_of_lt (L2.small1000 hil)
  refine Calls.call_function_entry kind_sorted plain_sorted entry_sorted (args_sorted1 _) ?_
  unfold Builtin.«sorted»
  refine wpAny_bind (m := checkCount "sorted" 1 1 _) (wpAny_pure ?_)
  refine wpAny_bind (wpAny_collect_seq a (.inl rfl) ho hc hdat (fun h1 keep1 => ?_) (by rw [List.size_toArray]; exact hL))
  rw [show its.toArray.toList = its by simp]
  refine wpAny_bind (wpAny_newList ?_ hL)
  have I1 : Inv X pins σ H { s with heap := h1 } := I.kept (t' := s.toks) keep1
  generalize hh2 : h1.push { cls := .type "list", data := .seq its.toArray } = h2
  generalize hp : h1.objs.size = p
  have at2 : h2.get? p = some (seqObj "list" its.toArray 0) := by rw [← hh2, ← hp]; exact Heap.get?_push_size _ rfl
  have old2 : ∀ b o, h1.get? b = some o → h2.get? b = some o := fun b o e => by rw [← hh2]; exact Heap.get?_push_of_some _ e
  have nep : ∀ b o, h1.get? b = some o → b ≠ p := fun b o e => by rw [← hp]; exact Nat.ne_of_lt (Heap.lt_size e)
  have lens : its.length = (xs.zip ds).length := (pairs_each rv hd).length
  obtain ⟨zf, zs, zd⟩ := zip_dt hd
  have er : EachIs (fun v (b : V × PyData) => ∃ as, Reads (sortingHeap h2 p its) v b.2 as) its (xs.zip ds) := (pairs_each rv hd).mono fun v b ⟨r1, d1⟩ => by
    obtain ⟨as, rd⟩ := Dp.reads I1 _ _ _ d1.dp r1
    exact ⟨as, PyProof.Rows.Reads.keeps (fun b o e => sortingHeap_old (nep b o e) (old2 b o e)) rd⟩
  have hk' : KeysOk ((xs.zip ds).map Prod.snd) := by rw [zs]; exact hk
  have em : EachIs (fun v d => ∃ as, Reads (sortingHeap h2 p its) v d as) its ((xs.zip ds).map Prod.snd) := each_map (R := fun v d => ∃ as, Reads (sortingHeap h2 p its) v d as) Prod.snd er
  refine wpAny_bind (wpAny_holding (wpAny_call_entry slot_list_sort ⟨_, at2, rfl⟩ entry_list_sort (list_sort_vals (κ := dataKind (sortingHeap h2 p its) ((xs.zip ds).map Prod.snd)) at2 (KeysOk.sorts (s := { s with heap := sortingHeap h2 p its }) hk' em (by show X.A.units + 1 + 1 + 32 < cLine; omega)) hL ⟨.none, rfl, ?_⟩) (args_list_sort _)))
  have keyed : EachIs (fun v (b : V × PyData) => (dataKind (sortingHeap h2 p its) ((xs.zip ds).map Prod.snd)).keyOf v = some (keyToks b.2)) its (xs.zip ds) :=
    (each_mem er).mono fun v b ⟨⟨as, rd⟩, hb⟩ => KeysOk.key hk' (List.mem_map.mpr ⟨b, hb, rfl⟩) rd
  have out : EachIs (fun v (b : V × PyData) => RelV b.1 v) (sortVals (dataKind (sortingHeap h2 p its) ((xs.zip ds).map Prod.snd)) false its its) ((xs.zip ds).mergeSort (dataLe false Prod.snd)) :=
    sortVals_each (κ := dataKind (sortingHeap h2 p its) ((xs.zip ds).map Prod.snd)) (fun b : V × PyData => keyToks b.2) ((pairs_each rv hd).mono fun _ _ z => z.1) keyed
  clear hL
  generalize sortVals (dataKind (sortingHeap h2 p its) ((xs.zip ds).map Prod.snd)) false its its = got at out ⊢
  obtain ⟨c, at3⟩ := sortedHeap_at (out := got.toArray) at2
  have sz2 : h2.objs.size = p + 1 := by rw [← hh2, ← hp, Heap.size_push]
  have keep3 : ∀ b o, h1.get? b = some o → (sortedHeap h2 p its got.toArray).get? b = some o := fun b o e => by
    have lt : b < h2.objs.size := Nat.lt_of_lt_of_le (Heap.lt_size e) (by rw [sz2, hp]; exact Nat.le_succ _)
    rw [sortedHeap_old (nep b o e) lt]
    exact old2 b o e
  have pm := (List.mergeSort_perm (xs.zip ds) (dataLe false Prod.snd))
  have ys_len : (((xs.zip ds).mergeSort (dataLe false Prod.snd)).map Prod.fst).length ≤ sizeLine := by
    rw [List.length_map, pm.length_eq, ← lens]
    exact Nat.le_of_lt (L2.small1000 hil)
  have I3 := I1.laid (t' := s.toks) (a := p) (o := .lst (((xs.zip ds).mergeSort (dataLe false Prod.snd)).map Prod.fst)) keep3 (Nat.le_of_eq hp) ⟨ys_len, got, c, vals_each out, at3⟩
  refine wpAny_pure ⟨_, rfl, .ref p, _, I3, rfl, q p _ (I1.hok.fresh (Nat.le_of_eq hp)) ?_ ?_⟩
  · have e := pm.map Prod.fst
    rw [zf] at e
    exact e
  · have e : ((xs.zip ds).mergeSort (dataLe false Prod.snd)).map Prod.snd = sortD ds := by
      have e1 := sort_maps (r := dataLe false Prod.snd) (s := dataLe false (id : PyData → PyData)) Prod.snd (l := xs.zip ds) (fun _ _ _ _ => rfl)
      rw [zs] at e1
      exact e1
    rw [← e]
    exact a2_pairs fun z hz => zd z (pm.mem_iff.mp hz)
end
end Cr
namespace Cr
/-! l.remove(x), l a list of data that holds x -/
section
open PySem PySem.Spec PyProof.Rows L2
variable {X : Cx}
def rRemD (K : PySem.W.Frag) : V → List V → Hp → VK → Prop := fun x xs H Q => ∃ (l : Addr) (ys : List V) (ds : List PyData) (y : V) (d : PyData) (j : Nat), x = .ref l ∧ xs = [y] ∧ H l = some (.lst ys) ∧ DtAll K H ys ds ∧ Dt K H y d ∧ PyData.plainAll ds = true ∧ d.plain = true ∧ d.depth ≤ 32 ∧ SeqAt.dataPlace ds d = some j ∧ Q .non (upd H l (.lst (ys.eraseIdx j)))
theorem mt_remD (hu : X.A.units + 65 < cLine) : MtM X "list.remove" (rRemD X.K) := by
  intro pins s σ H x xs v us Q I rx rxs h
  obtain ⟨l, ys, ds, y, d, j, rfl, rfl, hH, hys, hy, pa, pd, dep, pl, q⟩ := h
  cases rx
  obtain ⟨u, rfl, ru⟩ := rxs.one
  obtain ⟨z, its, n, r, hl, e⟩ := I.lstM hH
  obtain ⟨as, rs⟩ := Dp.readsAll I ds _ _ hys.dp r
  obtain ⟨bs, ry⟩ := Dp.reads I d _ _ hy.dp ru
  refine SeqAt.remove_list_data (l := l) (vs := its.toArray) ⟨_, e, rfl, n, rfl⟩ (by simpa using rs) ry pa pd (by have := Nat.min_le_right (PyData.depthAll ds) d.depth; omega) pl (by rw [List.size_toArray]; omega) ?_
  have rr := r.eraseIdx j
  refine ⟨.non, _, I.lset (its' := its.eraseIdx j) (t' := s.toks) hH e ?_ rr ?_, rfl, q⟩
  · show its.toArray.eraseIdxIfInBounds j = (its.eraseIdx j).toArray
    rw [List.eraseIdxIfInBounds_toArray]
  · have := List.length_eraseIdx_le ys j
    omega
end
end Cr

namespace Cr
/-! entries as pure data: == is =; sorting a permuted list; what parts two lists -/
section
open PySem PySem.Spec PySem.W PyProof.Rows L2
mutual
def pureD : PyData → Bool
  | .int _ => true
  | .str _ => true
  | .tuple xs => pureAll xs
  | _ => false
def pureAll : List PyData → Bool
  | [] => true
  | x :: xs => pureD x && pureAll xs
end
mutual
theorem pure_eqv : ∀ (x y : PyData), pureD x = true → pureD y = true → PyData.eqv x y = true → x = y
  | .int i, y, _, hy, e => by
    cases y with
    | int j => rw [PyData.eqv, beq_iff_eq] at e; rw [e]
    | bool b => simp only [pureD] at hy; cases hy
    | _ => simp only [PyData.eqv] at e; cases e
  | .str i, y, _, hy, e => by
    cases y with
    | str j => rw [PyData.eqv, beq_iff_eq] at e; rw [e]
    | _ => simp only [PyData.eqv] at e; cases e
  | .tuple xs, y, hx, hy, e => by
    cases y with
    | tuple ys =>
      rw [PyData.eqv] at e
      rw [pureD] at hx hy
      rw [pure_eqvAll xs ys hx hy e]
    | _ => simp only [PyData.eqv] at e; cases e
  | .none, _, h, _, _ => by simp only [pureD] at h; cases h
  | .bool _, _, h, _, _ => by simp only [pureD] at h; cases h
  | .list _, _, h, _, _ => by simp only [pureD] at h; cases h
  | .dict _, _, h, _, _ => by simp only [pureD] at h; cases h
theorem pure_eqvAll : ∀ (xs ys : List PyData), pureAll xs = true → pureAll ys = true → PyData.eqvAll xs ys = true → xs = ys
  | [], [], _, _, _ => rfl
  | [], _ :: _, _, _, e => by simp only [PyData.eqvAll] at e; cases e
  | _ :: _, [], _, _, e => by simp only [PyData.eqvAll] at e; cases e
  | x :: xs, y :: ys, hx, hy, e => by
    rw [PyData.eqvAll, Bool.and_eq_true] at e
    rw [pureAll, Bool.and_eq_true] at hx hy
    rw [pure_eqv x y hx.1 hy.1 e.1, pure_eqvAll xs ys hx.2 hy.2 e.2]
end
theorem pure_all {ds : List PyData} (h : ∀ d, d ∈ ds → pureD d = true) : pureAll ds = true := by
  induction ds with
  | nil => rfl
  | cons d ds ih => rw [pureAll, h d List.mem_cons_self, ih fun e he => h e (List.mem_cons_of_mem _ he)]; rfl
theorem pure_ps (ps : List (Str × Int)) : pureD (pairsD ps) = true := by
  show pureAll (ps.map fun p => .tuple [.str p.1, .int p.2]) = true
  refine pure_all fun d hd => ?_
  obtain ⟨p, _, rfl⟩ := List.mem_map.mp hd
  rfl
theorem ent_pure {Hn Tn : Str → Prop} {L : Int} {e : E3} (h : EntIn Hn Tn L e) : pureD (dE e) = true := by
  obtain ⟨k, d, rest⟩ := e
  have h' : EntOf Hn Tn L k d rest := h
  cases h' with
  | mix d0 d1 h => show (true && (true && (pureD (pairsD _) && true))) = true; rw [pure_ps]; rfl
  | _ => rfl
theorem dE_inj {e f : E3} (h : dE e = dE f) : e = f := by
  obtain ⟨k, d, r⟩ := e
  obtain ⟨k', d', r'⟩ := f
  have h1 := PyData.tuple.inj h
  injection h1 with h2 h3
  injection h3 with h4 h5
  injection h2 with h2
  injection h4 with h4
  subst h2 h4
  have h5 : r = r' := h5
  rw [h5]
theorem ent_refl {e : E3} (h : EntIn Nm Nm 400 e) : PyData.eqv (dE e) (dE e) = true :=
  SeqAt.eqv_refl _ (lay_tup fun y hy => (EntOf.lay (fun _ z => z.txt) (fun _ z => z.txt) h) y hy : LayN 3 _).1
theorem ent_eqv {e f : E3} (he : EntIn Nm Nm 400 e) (hf : EntIn Nm Nm 400 f) : PyData.eqv (dE e) (dE f) = true ↔ e = f :=
  ⟨fun h => dE_inj (pure_eqv _ _ (ent_pure he) (ent_pure hf) h), fun h => by subst h; exact ent_refl he⟩
theorem ents_any {es : List E3} {e : E3} (he : EntIn Nm Nm 400 e) (hs : ∀ x, x ∈ es → EntIn Nm Nm 400 x) : ((es.map dE).any fun z => PyData.eqv z (dE e)) = true ↔ e ∈ es := by
  rw [List.any_eq_true]
  constructor
  · rintro ⟨z, hz, h⟩
    obtain ⟨x, hx, rfl⟩ := List.mem_map.mp hz
    rw [← (ent_eqv (hs x hx) he).mp h]; exact hx
  · intro h
    exact ⟨dE e, List.mem_map.mpr ⟨e, h, rfl⟩, (ent_eqv he he).mpr rfl⟩
/-- where the first one stands -/
theorem ents_place {es : List E3} {e : E3} (he : EntIn Nm Nm 400 e) (hs : ∀ x, x ∈ es → EntIn Nm Nm 400 x) (h : e ∈ es) : ∃ j, ∃ hj : j < es.length, es[j] = e ∧ SeqAt.dataPlace (es.map dE) (dE e) = some j := by
  cases q : SeqAt.dataPlace (es.map dE) (dE e) with
  | none =>
    have h1 := List.findIdx?_eq_none_iff.mp q (dE e) (List.mem_map.mpr ⟨e, h, rfl⟩)
    rw [ent_refl he] at h1
    cases h1
  | some j =>
    obtain ⟨h1, h2, _⟩ := List.findIdx?_eq_some_iff_getElem.mp q
    have hj : j < es.length := by rwa [List.length_map] at h1
    rw [List.getElem_map] at h2
    exact ⟨j, hj, (ent_eqv (hs _ (List.getElem_mem hj)) he).mp h2, rfl⟩
/-! ### sorted -/
theorem toks_alike {x y : PyData} (a : PySem.W.alike x y = true) (h : keyToks x = keyToks y) : PyData.eqv x y = true := by
  cases q : PyData.eqv x y with
  | true => rfl
  | false =>
    have h1 := (toks_eqv x y a).2 q [] [.inl 0]
    rw [h, lex_pre, ← List.append_nil (keyToks y), lex_pre] at h1
    cases h1
theorem turn_inj {e f : E3} (he : EntIn Nm Nm 400 e) (hf : EntIn Nm Nm 400 f) (h : keyToks (turnD (dE e)) = keyToks (turnD (dE f))) : e = f := by
  obtain ⟨k, d, r⟩ := e
  obtain ⟨k', d', r'⟩ := f
  have h : keyToksAll [.int d, .str k, .tuple r] = keyToksAll [.int d', .str k', .tuple r'] := h
  simp only [keyToksAll, keyToks, List.cons_append, List.nil_append, List.cons.injEq, true_and, Sum.inl.injEq, Sum.inr.injEq] at h
  obtain ⟨h1, h2, h3⟩ := h
  obtain rfl := h1
  obtain rfl := str_of_cps h2
  have h4 : keyToksAll r = keyToksAll r' := List.append_cancel_right h3
  have al : PySem.W.alike (.tuple r) (.tuple r') = true := by
    rw [PySem.W.alike]
    exact shape_alike (EntOf.shape he) (EntOf.shape hf)
  have e5 := toks_alike al (by rw [keyToks, keyToks]; exact h4)
  have p1 : pureD (.tuple (.str k :: .int d :: r)) = true := ent_pure he
  have p2 : pureD (.tuple (.str k :: .int d :: r')) = true := ent_pure hf
  have p1' : pureD (.tuple r) = true := by rw [pureD] at p1 ⊢; simpa [pureAll, pureD] using p1
  have p2' : pureD (.tuple r') = true := by rw [pureD] at p2 ⊢; simpa [pureAll, pureD] using p2
  have := PyData.tuple.inj (pure_eqv _ _ p1' p2' e5)
  rw [this]
theorem sortE_of_perm {es fs : List E3} (h : es.Perm fs) (hi : ∀ x, x ∈ es → EntIn Nm Nm 400 x) : sortE es = sortE fs := by
  have T := sortLe_total (listOrd itemOrd) false fun e : E3 => keyToks (turnD (dE e))
  have tr : ∀ a b c : E3, dataLe false (fun e => turnD (dE e)) a b = true → dataLe false (fun e => turnD (dE e)) b c = true → dataLe false (fun e => turnD (dE e)) a c = true := T.trans
  have tt : ∀ a b : E3, (dataLe false (fun e => turnD (dE e)) a b || dataLe false (fun e => turnD (dE e)) b a) = true := fun a b => by
    rw [Bool.or_eq_true]; exact T.total a b
  unfold sortE
  refine List.Perm.eq_of_pairwise (le := fun a b => dataLe false (fun e : E3 => turnD (dE e)) a b = true) (fun a b ha hb h1 h2 => ?_) (List.pairwise_mergeSort tr tt _) (List.pairwise_mergeSort tr tt _) ?_
  · have h1 : (!(listOrd itemOrd).blt (keyToks (turnD (dE b))) (keyToks (turnD (dE a)))) = true := h1
    have h2 : (!(listOrd itemOrd).blt (keyToks (turnD (dE a))) (keyToks (turnD (dE b)))) = true := h2
    rw [Bool.not_eq_true'] at h1 h2
    exact turn_inj (hi _ (List.mem_mergeSort.mp ha)) (hi _ (h.mem_iff.mpr (List.mem_mergeSort.mp hb))) ((listOrd itemOrd).total _ _ h2 h1)
  · exact ((List.mergeSort_perm _ _).trans h).trans (List.mergeSort_perm _ _).symm
/-! ### what parts two lists -/
def PartOf (A B F R : List E3) : Prop := ∃ M, A.Perm (F ++ M) ∧ B.Perm (R ++ M) ∧ ∀ x, x ∈ F → x ∉ R
theorem PartOf.symm {A B F R : List E3} (h : PartOf A B F R) : PartOf B A R F := by
  obtain ⟨M, h1, h2, h3⟩ := h
  exact ⟨M, h2, h1, fun x hr hf => h3 x hf hr⟩
theorem PartOf.left {A B F R F' R' : List E3} (h : PartOf A B F R) (h' : PartOf A B F' R') : F.Perm F' := by
  classical
  obtain ⟨M, h1, h2, h3⟩ := h
  obtain ⟨M', h1', h2', h3'⟩ := h'
  rw [List.perm_iff_count]
  intro x
  have a1 := (h1.count_eq x)
  have a2 := (h2.count_eq x)
  have a1' := (h1'.count_eq x)
  have a2' := (h2'.count_eq x)
  rw [List.count_append] at a1 a2 a1' a2'
  have z : List.count x F = 0 ∨ List.count x R = 0 := by
    by_cases hx : x ∈ F
    · exact .inr (List.count_eq_zero.mpr (h3 x hx))
    · exact .inl (List.count_eq_zero.mpr hx)
  have z' : List.count x F' = 0 ∨ List.count x R' = 0 := by
    by_cases hx : x ∈ F'
    · exact .inr (List.count_eq_zero.mpr (h3' x hx))
    · exact .inl (List.count_eq_zero.mpr hx)
  omega
theorem PartOf.right {A B F R F' R' : List E3} (h : PartOf A B F R) (h' : PartOf A B F' R') : R.Perm R' := h.symm.left h'.symm
theorem PartOf.perm {A B A' B' F R : List E3} (h : PartOf A B F R) (ha : A'.Perm A) (hb : B'.Perm B) : PartOf A' B' F R := by
  obtain ⟨M, h1, h2, h3⟩ := h
  exact ⟨M, ha.trans h1, hb.trans h2, h3⟩
theorem PartOf.same (A : List E3) : PartOf A A [] [] := ⟨A, .refl _, .refl _, fun _ h => nomatch h⟩
theorem PartOf.mem {A B F R : List E3} (h : PartOf A B F R) : (∀ x, x ∈ F → x ∈ A) ∧ (∀ x, x ∈ R → x ∈ B) := by
  obtain ⟨M, h1, h2, h3⟩ := h
  exact ⟨fun x hx => h1.mem_iff.mpr (List.mem_append_left _ hx), fun x hx => h2.mem_iff.mpr (List.mem_append_left _ hx)⟩
theorem erase_at {α : Type} : ∀ {l : List α} {i : Nat} (h : i < l.length), (l[i] :: l.eraseIdx i).Perm l
  | x :: xs, 0, _ => List.Perm.refl _
  | x :: xs, i + 1, h => by
    have hi : i < xs.length := by simpa using h
    rw [List.getElem_cons_succ, List.eraseIdx_cons_succ]
    exact (List.Perm.swap x xs[i] _).trans (List.Perm.cons x (erase_at hi))
/-- a walk through the one list, its own items taken out of both -/
structure PartI (A B O R M U : List E3) (n : Nat) : Prop where
  a : A.Perm (O ++ M)
  b : B.Perm (R ++ M)
  o : O.Perm (U ++ A.drop n)
  u : ∀ x, x ∈ U → x ∉ R
theorem PartI.start (A B : List E3) : PartI A B A B [] [] 0 := ⟨by rw [List.append_nil], by rw [List.append_nil], by rw [List.drop_zero]; exact .refl _, fun _ h => nomatch h⟩
theorem PartI.mem {A B O R M U : List E3} {n : Nat} {e : E3} (h : PartI A B O R M U n) (he : A[n]? = some e) : e ∈ O := by
  obtain ⟨hn, rfl⟩ := List.getElem?_eq_some_iff.mp he
  refine h.o.mem_iff.mpr (List.mem_append_right _ ?_)
  rw [List.drop_eq_getElem_cons hn]
  exact List.mem_cons_self
theorem PartI.hit {A B O R M U : List E3} {n j k : Nat} {e : E3} (h : PartI A B O R M U n) (he : A[n]? = some e) (hj : j < O.length) (ej : O[j] = e) (hk : k < R.length) (ek : R[k] = e) : PartI A B (O.eraseIdx j) (R.eraseIdx k) (e :: M) U (n + 1) := by
  obtain ⟨hn, ee⟩ := List.getElem?_eq_some_iff.mp he
  have p1 := erase_at hj
  rw [ej] at p1
  have p2 := erase_at hk
  rw [ek] at p2
  refine ⟨?_, ?_, ?_, fun x hx hr => h.u x hx (List.mem_of_mem_eraseIdx hr)⟩
  · exact (h.a.trans (p1.symm.append_right M)).trans List.perm_middle.symm
  · exact (h.b.trans (p2.symm.append_right M)).trans List.perm_middle.symm
  · have h1 := p1.trans h.o
    rw [List.drop_eq_getElem_cons hn, ee] at h1
    exact (h1.trans List.perm_middle).cons_inv
theorem PartI.miss {A B O R M U : List E3} {n : Nat} {e : E3} (h : PartI A B O R M U n) (he : A[n]? = some e) (hr : e ∉ R) : PartI A B O R M (U ++ [e]) (n + 1) := by
  obtain ⟨hn, ee⟩ := List.getElem?_eq_some_iff.mp he
  refine ⟨h.a, h.b, ?_, fun x hx => ?_⟩
  · have h1 := h.o
    rw [List.drop_eq_getElem_cons hn, ee] at h1
    rw [List.append_assoc]
    exact h1
  · rcases List.mem_append.mp hx with hx | hx
    · exact h.u x hx
    · rw [List.mem_singleton.mp hx]; exact hr
theorem PartI.done {A B O R M U : List E3} (h : PartI A B O R M U A.length) : PartOf A B O R := by
  have h1 := h.o
  rw [List.drop_length, List.append_nil] at h1
  exact ⟨M, h.a, h.b, fun x hx => h.u x (h1.mem_iff.mp hx)⟩
/-- a walk through the one list that gathers what the other lacks -/
structure ExtI (A B F R M : List E3) (n : Nat) : Prop where
  a : (A.take n).Perm (F ++ M)
  b : B.Perm (R ++ M)
  u : ∀ x, x ∈ F → x ∉ R
theorem ExtI.start (A B : List E3) : ExtI A B [] B [] 0 := ⟨.refl _, by rw [List.append_nil], fun _ h => nomatch h⟩
theorem ExtI.hit {A B F R M : List E3} {n k : Nat} {e : E3} (h : ExtI A B F R M n) (he : A[n]? = some e) (hk : k < R.length) (ek : R[k] = e) : ExtI A B F (R.eraseIdx k) (e :: M) (n + 1) := by
  have p2 := erase_at hk
  rw [ek] at p2
  refine ⟨?_, (h.b.trans (p2.symm.append_right M)).trans List.perm_middle.symm, fun x hx hr => h.u x hx (List.mem_of_mem_eraseIdx hr)⟩
  rw [List.take_add_one, he]
  refine (h.a.append_right _).trans ?_
  rw [List.append_assoc]
  exact List.Perm.append_left F (List.perm_append_comm)
theorem ExtI.miss {A B F R M : List E3} {n : Nat} {e : E3} (h : ExtI A B F R M n) (he : A[n]? = some e) (hr : e ∉ R) : ExtI A B (F ++ [e]) R M (n + 1) := by
  refine ⟨?_, h.b, fun x hx => ?_⟩
  · rw [List.take_add_one, he]
    refine (h.a.append_right _).trans ?_
    rw [List.append_assoc, List.append_assoc]
    exact List.Perm.append_left F (List.perm_append_comm)
  · rcases List.mem_append.mp hx with hx | hx
    · exact h.u x hx
    · rw [List.mem_singleton.mp hx]; exact hr
theorem ExtI.done {A B F R M : List E3} (h : ExtI A B F R M A.length) : PartOf A B F R := by
  have h1 := h.a
  rw [List.take_length] at h1
  exact ⟨M, h1, h.b, h.u⟩
/-! ### in the heap -/
theorem A2.era {α β : Type} {R : α → β → Prop} : ∀ {xs : List α} {ys : List β}, A2 R xs ys → ∀ n : Nat, A2 R (xs.eraseIdx n) (ys.eraseIdx n)
  | _, _, .nil, n => .nil
  | _, _, .cons a b, 0 => b
  | _, _, .cons a b, n + 1 => .cons a (A2.era b n)
theorem EntsAt.daQ {K : PySem.W.Frag} {H : Hp} : ∀ {vs : List V} {es : List E3}, EntsAt K H vs es → DtAll K H vs (es.map dE)
  | _, _, .nil => .nil
  | _, _, .cons a b => .cons a (EntsAt.daQ b)
theorem lay_entQ {e : E3} (h : EntIn Nm Nm 400 e) : LayN 3 (dE e) := lay_tup fun y hy => (EntOf.lay (fun _ z => z.txt) (fun _ z => z.txt) h) y hy
theorem lay_entsQ {es : List E3} (h : ∀ x, x ∈ es → EntIn Nm Nm 400 x) : ∀ d, d ∈ es.map dE → LayN 3 d := fun d hd => by
  obtain ⟨x, hx, rfl⟩ := List.mem_map.mp hd
  exact lay_entQ (h _ hx)
theorem s_inE {K : PySem.W.Frag} {H : Hp} {Q : VK} {p : Addr} {x : V} {e : E3} {ys : List V} {es : List E3} (hx : Dt K H x (dE e)) (hs : SqL K H p ys) (hd : EntsAt K H ys es) (he : EntIn Nm Nm 400 e) (hi : ∀ x, x ∈ es → EntIn Nm Nm 400 x) (h1 : e ∈ es → Q (.bl true) H) (h2 : e ∉ es → Q (.bl false) H) : rInD K x (.ref p) H Q := by
  refine ⟨dE e, es.map dE, hx.dp, .lst hs (EntsAt.daQ hd).dp, (lay_entQ he).sh (by decide), (lay_lst (lay_entsQ hi)).sh (by decide), ?_⟩
  have w := ents_any he hi
  by_cases m : e ∈ es
  · rw [w.mpr m]; exact h1 m
  · cases q : (es.map dE).any fun z => PyData.eqv z (dE e) with
    | true => exact absurd (w.mp q) m
    | false => exact h2 m
theorem s_remE {K : PySem.W.Frag} {H : Hp} {Q : VK} {l : Addr} {y : V} {e : E3} {ys : List V} {es : List E3} (hl : H l = some (.lst ys)) (hd : EntsAt K H ys es) (hy : Dt K H y (dE e)) (he : EntIn Nm Nm 400 e) (hi : ∀ x, x ∈ es → EntIn Nm Nm 400 x) (m : e ∈ es)
    (q : ∀ j (hj : j < es.length), es[j] = e → EntsAt K (upd H l (.lst (ys.eraseIdx j))) (ys.eraseIdx j) (es.eraseIdx j) → Q .non (upd H l (.lst (ys.eraseIdx j)))) : rRemD K (.ref l) [y] H Q := by
  obtain ⟨j, hj, ej, pl⟩ := ents_place he hi m
  refine ⟨l, ys, es.map dE, y, dE e, j, rfl, rfl, hl, EntsAt.daQ hd, hy, ?_, ?_, ?_, pl, q j hj ej (A2.era (hd.mono (kt_mut hl rfl)) j)⟩
  · exact PyData.plainAll_of_canLay0 _ (lay_all fun d hd => (lay_entsQ hi d hd).1)
  · exact PyData.plain_of_canLay0 _ (lay_entQ he).1
  · have := (lay_entQ he).2; omega
end
end Cr

namespace Cr
/-! t[::-1], t a tuple -/
section
open PySem PySem.Spec PyProof.Rows L2
section
variable {prog : Program} {w : World} {A : Around} {E : Value → Shared → Prop} {s : Shared}
theorem sliceApplied_rev {sl : Addr} {vs : Value} {n : Nat} {Q : Int × Int × Nat → Shared → Prop} (hs : s.heap.IsSliceOf sl .none .none vs) (ps : IsPart vs (some (-1)))
    (h : Q ((n : Int) - 1, -1, n) s) : wpAny (model prog w) A (Builtin.Slice.sliceApplied (.ref sl) (pure (n : Int))) Q E s := by
  obtain ⟨os, hos, hcs, hds⟩ := id hs
  unfold Builtin.Slice.sliceApplied Builtin.Slice.sliceFields
  refine wpAny_bind (wpAny_bind (wpAny_field hos hds (x := .none) rfl (wpAny_bind (wpAny_field hos hds (x := .none) rfl (wpAny_bind (wpAny_field hos hds (x := vs) rfl (wpAny_pure ?_)))))))
  refine wpAny_bind (HT.slicePart_ ps ?_)
  show wpAny _ _ (if ((-1 : Int) == 0) = true then _ else _) _ _ s
  rw [if_neg (by decide)]
  refine wpAny_bind (slicePart_none (wpAny_bind (slicePart_none (wpAny_bind (wpAny_pure ?_)))))
  show wpAny _ _ (pure ((n : Int) - 1, (-1 : Int), Builtin.Slice.slicePlaces ((n : Int) - 1) (-1) (-1))) _ _ s
  have e : Builtin.Slice.slicePlaces ((n : Int) - 1) (-1) (-1) = n := by
    unfold Builtin.Slice.slicePlaces
    have h1 : ¬ ((-1 : Int) > 0) := by omega
    rw [if_neg h1, show (-(-1) : Int) = 1 by decide, Int.ediv_one]
    split <;> omega
  rw [e]
  exact wpAny_pure h
theorem pick_rev (xs : Array Value) : ((List.range xs.size).filterMap fun (k : Nat) => xs[((xs.size : Int) - 1 + (k : Int) * (-1)).toNat]?).toArray = xs.toList.reverse.toArray := by
  have e : (fun (k : Nat) => xs[((xs.size : Int) - 1 + (k : Int) * (-1)).toNat]?) = ((xs[·]?) ∘ fun k => xs.size - 1 - k) := by
    funext k
    show xs[((xs.size : Int) - 1 + (k : Int) * (-1)).toNat]? = xs[xs.size - 1 - k]?
    have : ((xs.size : Int) - 1 + (k : Int) * (-1)).toNat = xs.size - 1 - k := by omega
    rw [this]
  rw [e, ← List.filterMap_map, PySem.W.krv_range, List.filterMap_reverse, PySem.W.krv_all]
theorem getItem_tuple_rev {t sl : Addr} {items : Array Value} {vs : Value} {Q : Value → Shared → Prop} (ht : IsTup s.heap t items) (hs : s.heap.IsSliceOf sl .none .none vs) (ps : IsPart vs (some (-1)))
    (h : Q (.ref s.heap.objs.size) { s with heap := s.heap.push { cls := .type "tuple", data := .seq items.toList.reverse.toArray } })
    (hsz : items.size ≤ sizeLine) : wpAny (model prog w) A (getItem (.ref t) (.ref sl)) Q E s := by
  have htake : sizeOk (.seq items.toList.reverse.toArray) := by
    show items.toList.reverse.toArray.size ≤ sizeLine
    rw [List.size_toArray, List.length_reverse, Array.length_toList]
    exact hsz
  obtain ⟨os, hos, hcs, hds⟩ := id hs
  have hTs : s.TypeIs (.ref sl) "slice" := ⟨os, hos, hcs⟩
  unfold getItem
  try with_reducible refine wpAny_holding ?_
  first | refine wpAny_bind (wpAny_pure ?_) | skip
  refine wpAny_bind (wpAny_sequenceKey ht.typeIs (by decide) ?_)
  refine wpAny_bind (wpAny_callSpecial?_slot (name := Str.ofString "__getitem__") ht.typeIs PyProof.Rows.slot_tuple_getitem
    (wpAny_call_entry PyProof.Rows.slot_tuple_getitem ht.typeIs entry_tuple_getitem ?_ (args_tuple_getitem _ _)))
  show wpAny _ _ (Builtin.Tuple.tupleItemsOf (.ref t) >>= _) _ _ s
  refine wpAny_bind (tupleItemsOf_ ht ?_)
  refine wpAny_bind (wpAny_typeOf hTs ?_)
  rw [if_pos (by decide)]
  refine wpAny_bind (sliceApplied_rev hs ps ?_)
  show wpAny _ _ (if (((items.size : Int) - 1 == 0 && (-1 : Int) == 1 && items.size == items.size)) = true then _ else _) _ _ s
  rw [if_neg (by simp), pick_rev]
  first
    | exact wpAny_bind (m := Builtin.Tuple.tupleExact _) (wpAny_newObj_type (wpAny_pure ⟨_, rfl, wpAny_pure h⟩) htake)
    | exact wpAny_bind (m := Builtin.Tuple.tupleExact _) (wpAny_newObj_type (wpAny_bind (wpAny_pure (wpAny_pure ⟨_, rfl, wpAny_pure h⟩))) htake)
    | exact wpAny_bind (wpAny_bind (m := Builtin.Tuple.tupleExact _) (wpAny_newObj_type (wpAny_pure (wpAny_pure ⟨_, rfl, wpAny_pure h⟩)) htake))
    | exact wpAny_bind (wpAny_bind (m := Builtin.Tuple.tupleExact _) (wpAny_newObj_type (wpAny_pure ⟨_, rfl, wpAny_pure h⟩) htake))
end
def tRevTu (K : PySem.W.Frag) (te : TE) : TE := fun σ H Q => te σ H fun x H1 => ∃ a xs, x = .ref a ∧ SqT K H1 a xs ∧ ∀ p, H1 p = none → Q (.ref p) (upd H1 p (.tup xs.reverse))
variable {X : Cx}
theorem pe_revTu {e : Expr} {te : TE} {k : Nat} {p1 p2 p3 pos : Pos} (he : PE X e te) : PE X (.Subscript e (.Slice none none (some (.UnaryOp .USub (.Constant (.int 1) k p1) p2)) p3) pos) (tRevTu X.K te) := by
  refine ⟨fun pins s σ H Q I h => ?_⟩
  refine Subscript_ (thn (he.run pins s σ H _ I h) fun v s1 ⟨x, H1, I1, r1, q1⟩ => ?_)
  obtain ⟨a, xs, ex, hx, q⟩ := q1
  subst ex
  cases r1
  have hst : PO X (some (.UnaryOp .USub (.Constant (.int 1) k p1) p2)) (tPart (tUn (rU fun i => .int (-i)) (tC (.int 1)))) := po_some (pe_un un_neg pe_int)
  refine wpAny_Slice (thn (po_none.run pins s1 σ H1 (fun o H2 => o = none ∧ H2 = H1) I1 ⟨rfl, rfl⟩) fun vl s2 ⟨l, H2, I2, pl, el, e2⟩ => ?_)
  subst el e2
  refine thn (po_none.run pins s2 σ H2 (fun o H3 => o = none ∧ H3 = H2) I2 ⟨rfl, rfl⟩) fun vu s3 ⟨u, H3, I3, pu, eu, e3⟩ => ?_
  subst eu e3
  refine thn (hst.run pins s3 σ H3 (fun o H4 => o = some (-1) ∧ H4 = H3) I3 ⟨1, rfl, -1, rfl, rfl, rfl⟩) fun vs s4 ⟨o, H4, I4, ps, eo, e4⟩ => ?_
  subst eo e4
  have I5 : Inv X pins σ H4 { s4 with heap := s4.heap.push { cls := .type "slice", data := .fields #[vl, vu, vs] } } := I4.kept (t' := s4.toks) fun b ob q => Heap.get?_push_of_some _ q
  obtain ⟨its, r, ht, hz⟩ := I5.tuple hx
  have hlen := r.length
  show wpAny (model X.prog X.w) X.A (subscriptTail e (.Slice none none (some (.UnaryOp .USub (.Constant (.int 1) k p1) p2)) p3) (.ref a) (.ref s4.heap.objs.size)) (EP X pins σ Q) X.xe { s4 with heap := s4.heap.push { cls := .type "slice", data := .fields #[vl, vu, vs] } }
  refine tail_any (ops := [.ref a, .ref s4.heap.objs.size]) ht.typeIs (PyProof.Rows.slot_tuple_getitem.lookup) ?_ (by with_unfolding_all rfl)
  cases pl
  cases pu
  refine getItem_tuple_rev ht (Heap.IsSliceOf.new _ .none .none vs) ps ?_ (by rw [List.size_toArray]; omega)
  refine ⟨.ref _, _, I5.laid (t' := s4.toks) (o := .tup xs.reverse) (fun b ob q => Heap.get?_push_of_some _ q) (Nat.le_refl _) ?_, rfl, q _ (I5.hok.fresh (Nat.le_refl _))⟩
  exact ⟨by rw [List.length_reverse]; exact hz, _, r.reverse, IsTup.new _ _⟩
variable {K : PySem.W.Frag} {σ : St} {H : Hp} {Q : VK}
def RevTu (K : PySem.W.Frag) (x : V) (H : Hp) (Q : VK) : Prop := ∃ a xs, x = .ref a ∧ SqT K H a xs ∧ ∀ p, H p = none → Q (.ref p) (upd H p (.tup xs.reverse))
theorem s_revTu {te : TE} (h : te σ H fun x H1 => RevTu K x H1 Q) : tRevTu K te σ H Q := h
theorem s_isRevTu {x : V} {ds : List PyData} (hx : Dt K H x (.tuple ds)) (h : ∀ v H', Same H H' → Dt K H' v (.tuple ds.reverse) → Q v H') : RevTu K x H Q := by
  obtain ⟨a, xs, rfl, hs, hd⟩ := hx.tup_inv
  exact ⟨a, xs, rfl, hs, fun p hp => h _ _ (same_new hp) (dt_new hd.rev hp)⟩
end
end Cr

namespace Cr
/-! sorted(d.items(), key = lambda x: x[0]), d a dict of rising whole numbers -/
section
open PySem PySem.Spec PySem.W PySem.Calls PyProof.Rows L2 L2.DX LamX
section
variable {prog : Program} {w : World} {A : Around} {E : Value → Shared → Prop} {s : Shared}
theorem sortedIK {r d : Addr} {kw : List (Str × Value)} {es : Array DictEntry} {ep : Nat} {Q : Value → Shared → Prop} (ha1 : argsOk "sorted" ⟨[.ref r], kw⟩) (hh : A.handled = none) (hv : s.heap.IsItemsView r d) (hm : DT.Raw s.heap d es ep) (hn : es.size ≤ sizeLine)
    (h : ∀ (h' : Heap) (tk : Nat) (as : List Addr), (∀ b o, s.heap.get? b = some o → h'.get? b = some o) → s.heap.objs.size < h'.objs.size → as.length = es.size → DT.Made es s.heap.objs.size h' as →
      wpAny (model prog w) A.in1 (call (.builtin "list.sort") [.ref h'.objs.size] kw) (fun _ s' => Q (.ref h'.objs.size) s') E { s with heap := h'.push { cls := .type "list", data := .seq (as.map Value.ref).toArray }, toks := tk }) :
    wpAny (model prog w) A (call (.builtin "sorted") [.ref r] kw) Q E s := by
  refine call_function_entry_kw kind_sorted plain_sorted entry_sorted ha1 ?_
  unfold Builtin.«sorted»
  refine wpAny_bind (m := checkCount "sorted" 1 1 _) (wpAny_pure ?_)
  refine wpAny_bind (DT.collectI (A := A.in1) (es := es) (ep := ep) hh hv hm hn fun h' tk as hk hlt hl hG => ?_)
  refine wpAny_bind (wpAny_newList ?_ (by rw [List.length_map, hl]; exact hn))
  have hg := h h' tk as hk hlt hl hG
  refine wpAny_bind (wpAny_holding (wpAny_mono hg (fun _ s' x => ?_) fun _ _ e => e))
  exact wpAny_pure ⟨_, rfl, x⟩
end
/-- lambda x: x[0] -/
def IxE (x : Str) (e : Expr) : Prop := ∃ (k : Nat) (a1 a2 a3 : Pos), e = .Subscript (.Name x a1) (.Constant (.int 0) k a2) a3
structure LamI (x : Str) (params : Arguments) (body : Expr) (scope : Scope) : Prop where
  bind : ∀ (q : Str) (cl : List (Str × Addr)) (pm cdv ctv v : Value), bindArgs (PySem.W.kla_fn "<lambda>" q params body scope cl pm cdv ctv) ⟨[v], []⟩ = pure [(x, v)]
  ix : IxE x body
  kind : scope.kind = .function
  co : scope.isCoroutine = false
  gen : scope.isGenerator = false
  loc : scope.names.lookup x = some .local
  nocell : ∀ y ∈ scope.names, y.2 ≠ .cell
  dbg : (x == ("__debug__" : Str)) = false
theorem lam_ix {prog : Program} {w : World} {A : Around} {s : Shared} {f : Addr} {L : LamD} {x : Str} {v pm ctv : Value} {d : Int} {rest : List PyData} (ho : s.heap.get? f = some (PySem.W.kla_obj "<lambda>" L.q L.params L.body L.scope L.cl pm L.c ctv))
    (hcd : s.heap.CodeRec (.ref L.c) L.q) (lim : s.heap.NoLimit) (ok : LamI x L.params L.body L.scope) (hroom : A.depth < recursionLimit) (hr : Reads s.heap v (.tuple (.int d :: rest)) []) (hz : rest.length ≤ 900) :
    wpAny (model prog w) A (call (.ref f) [v]) (PySem.W.KeyPure (.int d) s) (fun _ _ => False) s := by
  have rc : codeAny (model prog w) A (.call (.ref f) ⟨[v], []⟩) (fun r s' => match r with | .ok (.ret u) => PySem.W.KeyPure (.int d) s u s' | _ => False) s := by
    refine PySem.W.kla_callFunE hroom ho rfl ok.co ok.gen rfl hcd ?_
    rw [ok.bind]
    refine wpAny_pure (wpAny_newFunctionEnv ok.nocell (fun y hy => by rw [List.mem_singleton.mp hy]; exact ok.loc) (fun h1 hns hsb => ⟨lim.fresh _ hsb, ?_⟩) ok.kind)
    show codeAny _ _ (.expr L.body (PySem.W.envX L.q L.scope s.heap.objs.size f (.ref L.c) L.cl)) _ _
    have kp : ∀ b o, s.heap.get? b = some o → h1.get? b = some o := fun b o e => hsb.extBut b o (Nat.ne_of_lt (Heap.lt_size e)) (Heap.get?_push_of_some _ e)
    cases hr with
    | @tuple t o its n _ _ a1 a2 a3 a4 =>
      have len : its.toList.length = rest.length + 1 := by have := SeqAt.ReadsAll.length _ _ _ a4; simpa using this
      have ht : IsTup h1 t its.toList.toArray := ⟨o, kp _ _ a1, a2, n, by rw [a3, Array.toArray_toList]⟩
      obtain ⟨v0, vr, el, r0⟩ : ∃ v0 vr, its.toList = v0 :: vr ∧ Reads s.heap v0 (.int d) [] := by
        generalize its.toList = l at a4
        generalize hb : ([] : List Addr) = bs at a4
        cases a4 with
        | @cons v0 vs _ _ as1 bs1 c1 c2 =>
          have z := List.nil_eq_append_iff.mp hb
          obtain ⟨rfl, rfl⟩ := z
          exact ⟨v0, vs, rfl, c1⟩
      obtain ⟨k, p1, p2, p3, eb⟩ := ok.ix
      refine PySem.W.kla_codeExpr ?_
      rw [eb]
      refine ix_raw (i := 0) (m := fun y => ([(x, Value.ref t)] : List (Str × Value)).reverse.lookup y) (t := t) (its := its.toList) (v := v0) ok.kind ok.loc hns (by simp) ht (by rw [el]; rfl) (by omega) ok.dbg fun tk => ?_
      exact ⟨h1, tk, rfl, kp, PyProof.Rows.Reads.keeps kp r0⟩
  refine wpAny_call (codeAny_mono rc fun r s' hq => ?_)
  cases r with
  | error e => exact hq.elim
  | ok fl =>
    cases fl with
    | ret u => exact hq
    | next => exact False.elim hq
    | brk => exact False.elim hq
    | cont => exact False.elim hq
/-- whole numbers with anything, as a dict -/
def iOf (ps : List (Int × V)) : List (Key × V) := ps.map fun p => (.inl p.1, p.2)
theorem iOf_len (ps : List (Int × V)) : (iOf ps).length = ps.length := List.length_map _
theorem key_int {P : Program} {w : World} {x : Int} {u : Value} (h : (mixKind P w).is (.inl x) u = true) : ∃ t, u = .int x t := by
  rw [mixKind_is] at h
  rcases keyIs_shape h with ⟨i, t, e, rfl⟩ | ⟨y, t, e, _⟩
  · cases e; exact ⟨t, rfl⟩
  · cases e
def SortI (K : PySem.W.Frag) (P : Addr) (q : Str) (x : V) (H : Hp) (Q : VK) : Prop := TabS H P q ∧ ∃ (p a : Addr) (ps : List (Int × V)) (ds : List PyData), x = .ref p ∧ H p = some (itemsO p a) ∧ H a = some (.dK (iOf ps)) ∧ (ps.map Prod.fst).Pairwise (· < ·) ∧ DtAll K H (ps.map Prod.snd) ds ∧ ps.length ≤ 1000 ∧
  ∀ l ys H1, ExtN H H1 → TabS H1 P q → (∀ o, H l = some o → ∃ ps, o = .tbl ps) → H1 l = some (.lst ys) → DtAll K H1 ys ((ps.zip ds).map fun z => .tuple [.int z.1.1, z.2]) → Q (.ref l) H1
def tSortI (K : PySem.W.Frag) (P : Addr) (q : Str) (te : TE) : TE := fun σ H Q => te σ H fun x H1 => SortI K P q x H1 Q
theorem a2_mapI {α β γ : Type} {R : α → β → Prop} {f : γ → β} : ∀ {xs : List α} {ys : List γ}, A2 R xs (ys.map f) → A2 (fun x y => R x (f y)) xs ys
  | [], [], _ => .nil
  | [], _ :: _, h => by cases h
  | _ :: _, [], h => by cases h
  | _ :: _, _ :: _, .cons a b => .cons a (a2_mapI b)
theorem ints_alike (ns : List Int) : AllAlike (ns.map PyData.int) := AllAlike.of fun a b => by simp [alike]
section
variable {X : Cx} {k : Nat} {x y : Str} {p pos lpos kpos : Pos} {e : Expr} {te : TE} {c P : Addr} {params : Arguments} {body : Expr} {scope : Scope}
theorem pe_sortI (hcalm : X.calm = true) (hr : Room k X.A) (TB : TabB X.base X.mg c P) (hcode : X.env.code = .ref c) (L : LamI y params body scope) (hg : Gl X "sorted") (hm : X.mg "sorted" = none) (ha : PE X e te) (hdef : defaultsOf params X.env = ([], []) := by rfl) (hfree : ∀ y ∈ scope.names, y.2 ≠ .free := by decide)
    (he : starEach [e] X.env = [(false, eval e X.env)] := by rfl) :
    PE X (.Call (.Name "sorted" p) [e] [⟨some "key", .Lambda params body scope lpos, kpos⟩] pos) (tSortI X.K P (X.env.qual ++ "<lambda>") te) := by
  have he2 : backTo pos (starEach [e] X.env) = (false, eval e X.env) :: backTo pos (starEach [] X.env) := by rw [he]; rfl
  refine ⟨fun pins s σ H Q I h => ?_⟩
  refine wpAny_Call_Name_kw (ld_blt (u := .builtin "sorted") I hg hm (by decide +kernel) ?_ (by decide) (by decide))
  refine PyProof.Rows.callWith_kw ?_ he2 (by rw [he]; rfl) (by rfl) (by rfl)
  rw [he2]
  refine Calls.spliced_cons (thn (ha.run pins s σ H _ I h) fun u s1 ⟨v, H1, I1, r1, hT, vw, a, ps, ds, ev, hv, hd, hsrt, hds, hz, q⟩ => ?_)
  subst ev
  cases r1
  refine Calls.spliced_nil ?_
  show wpAny _ _ (evalAll [do let v ← eval (.Lambda params body scope lpos) X.env; standAt pos; pure v]) _ _ s1
  refine wpAny_evalAll_cons (wpAny_bind (lam_make2 (T := [(P, X.env.qual ++ "<lambda>")]) I1 TB hcode List.mem_cons_self (fun p hp _ => by rw [List.mem_singleton.mp hp]) (fun p hp => by rw [List.mem_singleton.mp hp]; exact hT) hdef
    (fun y hy e => absurd e (hfree y hy)) fun f c' pm ctv H2 s2 I2 ex T2 hf nf _ hc => ?_))
  have T2' : TabS H2 P (X.env.qual ++ "<lambda>") := T2 _ List.mem_cons_self
  refine wpAny_bind (wpAny_standAt (wpAny_pure ?_))
  refine wpAny_evalAll_nil ?_
  show wpAny _ _ (call (.builtin "sorted") [.ref vw] [(Str.ofString "key", .ref f)]) _ _ s2
  have hv2 := ex _ _ hv (fun ps z => nomatch z)
  have hd2 := ex _ _ hd (fun ps z => nomatch z)
  have hds2 : DtAll X.K H2 (ps.map Prod.snd) ds := hds.mono (extN_kt ex)
  have view : s2.heap.IsItemsView vw a := (show ObjOk X.prog X.w H2 s2.heap vw (itemsO vw a) from I2.hok vw _ hv2).1
  obtain ⟨z, low, ks, rel, dd⟩ := dk_of I2.hok hd2
  obtain ⟨es, ep, ⟨o, ho, hx, hdat⟩, hsz, hes⟩ := Heap.DictOf.raw dd
  have lk : ks.length = ps.length := by rw [← KV.length rel]; unfold iOf; rw [List.length_map]
  have l1000 : es.size ≤ 1000 := by omega
  have lds : ds.length = ps.length := by rw [← hds2.len, List.length_map]
  obtain ⟨⟨oc, vs, t, o1, o2, o3⟩, _, _⟩ := I2.hok c' _ hc
  refine sortedIK (es := es) (ep := ep) (ksk_s1 _ _) (I2.ok.hd hcalm) view ⟨o, ho, hx, hdat⟩ (Nat.le_of_lt (L2.small1000 l1000)) fun h' tk as hk hlt hl hG => ?_
  have I0 : Inv X pins σ H2 { s2 with heap := h', toks := tk } := I2.kept hk
  have nd : as.Nodup := List.Pairwise.imp (fun h => Nat.ne_of_lt h) hG.rise
  have la : as.length = ps.length := by omega
  have pr : ∀ (j : Nat) (b : Addr), as[j]? = some b → ∃ q : Int × V, ps[j]? = some q ∧ ∃ t u, RelV q.2 u ∧ h'.get? b = some { cls := .type "tuple", data := .seq #[Value.int q.1 t, u] } := by
    intro j b hj
    obtain ⟨en, he, hg⟩ := hG.pairs j b hj
    obtain ⟨jl, ej⟩ := Array.getElem?_eq_some_iff.mp he
    have jk : j < ks.length := by omega
    obtain ⟨x, h1, h2⟩ := KV.at' rel (i := j) (k := ks[j].1) (v := ks[j].2) (List.getElem?_eq_getElem jk)
    obtain ⟨k1, k2⟩ := hes j jl ks[j].1 ks[j].2 (List.getElem?_eq_getElem jk)
    have jp : j < ps.length := by omega
    unfold iOf at h1
    rw [List.getElem?_map, List.getElem?_eq_getElem jp] at h1
    have h1' := Option.some.inj h1
    refine ⟨ps[j], List.getElem?_eq_getElem jp, ?_⟩
    have ek : ks[j].1 = .inl ps[j].1 := (congrArg Prod.fst h1').symm
    have ev : x = ps[j].2 := (congrArg Prod.snd h1').symm
    rw [ek] at k1
    rw [ev] at h2
    obtain ⟨t, et⟩ := key_int k1
    refine ⟨t, ks[j].2, h2, ?_⟩
    rw [hg, ← ej, et, k2]
  obtain ⟨H3, I3, ext, tk2⟩ := takeT (P := fun b vs => ∃ q : Int × V, vs = [.int q.1, q.2] ∧ ∃ j, as[j]? = some b ∧ ps[j]? = some q) I2 as H2 I0 nd fun b hb => by
    obtain ⟨j, hj⟩ := List.mem_iff_getElem?.mp hb
    obtain ⟨q, he, t, u, ru, hg⟩ := pr j b hj
    refine ⟨Nat.le_of_lt (hG.above b hb), I2.hok.fresh (Nat.le_of_lt (hG.above b hb)), [.int q.1, q.2], ⟨q, rfl, j, hj, he⟩, fun H2 => ⟨by show 2 ≤ sizeLine; decide, [Value.int q.1 t, u], .cons ⟨t, rfl⟩ (.cons ru .nil), ⟨_, hg, rfl, 0, rfl⟩⟩⟩
  have hds3 : DtAll X.K H3 (ps.map Prod.snd) ds := hds2.mono (kt_same ext)
  have das : DtAll X.K H3 (as.map V.ref) ((ps.zip ds).map fun z => .tuple [.int z.1.1, z.2]) := by
    refine das_at (by rw [List.length_map, List.length_map, List.length_zip]; omega) fun j x d e1 e2 => ?_
    rw [List.getElem?_map] at e1 e2
    cases q1 : as[j]? with
    | none => rw [q1] at e1; cases e1
    | some b =>
      cases q2 : (ps.zip ds)[j]? with
      | none => rw [q2] at e2; cases e2
      | some zz =>
        obtain ⟨e, d0⟩ := zz
        rw [q1] at e1; rw [q2] at e2
        cases e1; cases e2
        obtain ⟨z1, z2⟩ := List.getElem?_zip_eq_some.mp q2
        obtain ⟨vs, ⟨e', rfl, j', w1, w2⟩, ht⟩ := tk2 b (List.mem_of_getElem? q1)
        have ej : j' = j := by
          obtain ⟨l1, f1⟩ := List.getElem?_eq_some_iff.mp w1
          obtain ⟨l2, f2⟩ := List.getElem?_eq_some_iff.mp q1
          exact (List.getElem_inj nd).mp (f1.trans f2.symm)
        subst ej
        rw [z1] at w2; cases w2
        obtain ⟨v', ev', hv'⟩ := hds3.get z2
        rw [List.getElem?_map, z1] at ev'
        cases ev'
        exact .tup (.of ht) (.cons (.int _) (.cons hv' .nil))
  have rvs : Vals (as.map V.ref) (as.map Value.ref) := by
    clear hl hG nd pr tk2 das la
    induction as with
    | nil => exact .nil
    | cons b bs ih => exact .cons rfl ih
  have lenz : (as.map V.ref).length = ((ps.zip ds).map fun z => PyData.tuple [.int z.1.1, z.2]).length := das.len
  have hob : (h'.push { cls := .type "list", data := .seq (as.map Value.ref).toArray }).get? h'.objs.size = some (seqObj "list" (as.map Value.ref).toArray 0) := Heap.get?_push_size _ rfl
  have kb : ∀ b o, h'.get? b = some o → (h'.push { cls := .type "list", data := .seq (as.map Value.ref).toArray }).get? b = some o := fun b o e => Heap.get?_push_of_some _ e
  have neb : ∀ b o, h'.get? b = some o → b ≠ h'.objs.size := fun b o e => Nat.ne_of_lt (Heap.lt_size e)
  -- bs: numbers with what the items read as
  refine list_sort_key_data (s := { s2 with heap := h'.push { cls := .type "list", data := .seq (as.map Value.ref).toArray }, toks := tk }) (bs := (as.map V.ref).zip (ps.zip ds)) (k := fun z => PyData.int z.2.1.1) (R := fun (u : Value) (z : V × (Int × V) × PyData) => RelV z.1 u ∧ Dt X.K H3 z.1 (.tuple [.int z.2.1.1, z.2.2])) hob ?_ ?_ ?_ ?_ ?_ (ksk_l1 _ _) (ksk_t1 _ _) (fun v z hR hzm g tk4 keep => ?_) fun out cc g tk4 keep hg hlo ho4 => ?_
  · exact a2_each rvs (a2_mapI (das_a2 das))
  · have := ints_alike (((as.map V.ref).zip (ps.zip ds)).map fun z => z.2.1.1)
    rwa [List.map_map] at this
  · exact Sortable.others fun b => ⟨fun z => (nomatch z), fun xs z => (nomatch z)⟩
  · rw [List.length_zip, List.length_map]
    exact Nat.le_trans (Nat.min_le_left _ _) (Nat.le_of_lt (L2.small1000 (by omega)))
  · intro z _
    have := hr.un
    show X.A.units + 1 + 1 + 0 < cLine
    omega
  · have kg : ∀ b o, h'.get? b = some o → g.get? b = some o := fun b o e => keep b o (neb b o e) (kb b o e)
    have rd := PyProof.Rows.Reads.keeps kg (Dt.rd I3 hR.2 hR.1)
    have k2 : ∀ b o, s2.heap.get? b = some o → g.get? b = some o := fun b o e => kg b o (hk b o e)
    exact lam_ix (L := ⟨X.env.qual ++ "<lambda>", params, body, scope, cloFrom X.env.cells scope.names [], c'⟩) (k2 _ _ hf) ⟨c', oc, vs, t, rfl, k2 _ _ o1, o2, o3⟩ (I2.nolimit.keeps k2) L (by have := hr.dp; show X.A.depth < _; omega) rd (by show 1 ≤ 900; decide)
  · have kg : ∀ b o, h'.get? b = some o → g.get? b = some o := fun b o e => keep b o (neb b o e) (kb b o e)
    have lbs : (as.map V.ref).length = (ps.zip ds).length := by rw [List.length_map, List.length_zip]; omega
    have m1 : ((as.map V.ref).zip (ps.zip ds)).map Prod.fst = as.map V.ref := List.map_fst_zip (by omega)
    have m2 : ((as.map V.ref).zip (ps.zip ds)).map Prod.snd = ps.zip ds := List.map_snd_zip (by omega)
    have m3 : (ps.zip ds).map Prod.fst = ps := List.map_fst_zip (by omega)
    have so : ((as.map V.ref).zip (ps.zip ds)).Pairwise fun a b => dataLe false (fun z : V × (Int × V) × PyData => PyData.int z.2.1.1) a b = true := by
      have h1 : (((as.map V.ref).zip (ps.zip ds)).map fun z => z.2.1.1).Pairwise (· < ·) := by
        have e1 : (((as.map V.ref).zip (ps.zip ds)).map fun z => z.2.1.1) = ps.map Prod.fst := by
          have : (((as.map V.ref).zip (ps.zip ds)).map fun z => z.2.1.1) = ((((as.map V.ref).zip (ps.zip ds)).map Prod.snd).map Prod.fst).map Prod.fst := by rw [List.map_map, List.map_map]; rfl
          rw [this, m2, m3]
        rw [e1]; exact hsrt
      rw [List.pairwise_map] at h1
      refine h1.imp fun {a b} hab => ?_
      rw [dataLe_int]
      exact decide_eq_true (Int.le_of_lt hab)
    rw [List.mergeSort_of_pairwise so] at ho4
    obtain ⟨e1, _⟩ := each_a2 (R := fun (v : V) (z : (Int × V) × PyData) => Dt X.K H3 v (.tuple [.int z.1.1, z.2])) ho4
    rw [m1] at e1
    have le1 : s2.heap.objs.size ≤ h'.objs.size := Nat.le_of_lt hlt
    have np : H3 h'.objs.size = none := I3.hok.fresh (Nat.le_refl _)
    have lz : (as.map V.ref).length ≤ sizeLine := Nat.le_of_lt (L2.small1000 (by rw [List.length_map]; omega))
    have I4 := I3.laid (t' := tk4) (a := h'.objs.size) (o := .lst (as.map V.ref)) kg (Nat.le_refl _) ⟨lz, out, cc, e1, hg⟩
    have x4 : Same H2 (upd H3 h'.objs.size (.lst (as.map V.ref))) := fun b o e => by rw [upd_ne (ne_of_none (ext b o e) np)]; exact ext b o e
    refine ⟨.ref _, _, I4, rfl, q _ (as.map V.ref) _ (fun b o e n => x4 _ _ (ex b o e n)) (T2'.ext x4) (fun o e => ?_) upd_same (das.mono (kt_new np))⟩
    by_cases z : ∃ ps, o = .tbl ps
    · exact z
    · have := ext _ _ (ex _ _ e fun ps ez => z ⟨ps, ez⟩)
      rw [np] at this
      cases this
end
end
end Cr

namespace Cr
/-! rules for a book: len of an instance with its own __len__, o.f as a target among others, several clauses 'except x as n', o.m(..) within a try -/
section
open PySem PySem.Spec PyProof.Rows L2
def rLenI (C : Addr) (sp : Sp) (E : XK) : List V → Hp → VK → Prop := fun xs H Q => ∃ a dx fs, xs = [V.ref a] ∧ H a = some (.ins C dx fs) ∧ sp [.ref a] H (fun v H2 => ∃ n : Int, v = .int n ∧ 0 ≤ n ∧ n < 2 ^ 63 ∧ Q (.int n) H2) E
section
variable {X : Cx} {CX : CXT} {k : Nat} {f C : Addr} {fd : FuncData} {ps : List Str} {sp : Sp} {E : XK} {x m self : Str} {p pos apos : Pos} {e o : Expr} {es : List Expr} {ta : TE} {t : TA}
theorem call_lenI (hl : Meth X.K C "__len__" f) (F : FnOk X.prog X.w X.K X.mg X.base CX k f fd [self] sp) (hr : Room (k + 1) X.A) (hb : Binds X.K fd [self] []) (hx : Passes CX X E) : CallR X (.builtin "len") (rLenI C sp E) := by
  intro pins s σ H xs us Q I r h
  obtain ⟨a, dx, fs, rfl, ea, q⟩ := h
  obtain ⟨u, rfl, ru⟩ := vals1 r
  obtain rfl : u = Value.ref a := ru
  obtain ⟨mA, O, _⟩ := ins_get I.hok ea
  obtain ⟨od, J, _⟩ := O.look
  refine Calls.call_function_entry kind_len plain_len entry_len (args_len1 _) ?_
  unfold Builtin.«len»
  refine wpAny_bind (m := oneArg "len" _) (wpAny_pure ?_)
  refine wpAny_bind (m := callSpecial? (.ref a) (Str.ofString "__len__")) (PySem.W.special_fn I.kIn J hl.at_ (beq_iff_eq.mp hl.fn) ?_)
  refine wpAny_call (codeAny_mono (F.run X.A.in1 X.stack s H ⟨[.ref a], []⟩ [.ref a] [.ref a] _ E hr.in1 I.env0.in1 (hb s [.ref a] I.kIn rfl) r q) fun r' s' hq => ?_)
  cases r' with
  | error e => exact hx pins σ H s e s' I hq
  | ok fl =>
    cases fl with
    | ret u =>
      obtain ⟨v, H', I', rv, n, rfl, n0, n1, qq⟩ := I.after hq
      obtain ⟨tk, rfl⟩ := rv
      refine wpAny_bind (wpAny_holding (wpAny_pure ?_))
      refine wpAny_bind (wpAny_letGo ?_)
      show wpAny _ _ (if n < 0 then _ else _) _ _ _
      rw [if_neg (by omega)]
      show wpAny _ _ (if n ≥ 2 ^ 63 then _ else _) _ _ _
      rw [if_neg (by omega)]
      refine wpAny_bind (wpAny_mkInt (wpAny_pure ⟨_, rfl, ?_⟩))
      exact ⟨.int n, H', I'.tok _, ⟨_, rfl⟩, qq⟩
    | next => exact False.elim hq
    | brk => exact False.elim hq
    | cont => exact False.elim hq
/-- o.f as a target -/
def gFld (K : PySem.W.Frag) (ta : TE) (f : Str) : TG := fun v σ H N => ta σ H fun x H2 => ∃ a C dx fs, x = .ref a ∧ H2 a = some (.ins C dx fs) ∧ Cls K C ∧ NoAttr K C f ∧ fs.length < 1000 ∧ N σ (upd H2 a (.ins C dx (putF f v fs)))
theorem pg_fld {f : Str} {pos' : Pos} (ha : PE X o ta) : PG X (.Attribute o f pos') (gFld X.K ta f) := by
  refine ⟨fun pins s σ H v u N I ru h => ?_⟩
  rw [arm_assign_Attribute]
  refine wpAny_bind (wpAny_holding (thn (ha.run pins s σ H _ I h) fun ov s2 ⟨x, H2, I2, rx, a, C, dx, fs, ex, ea, c, n, l, q2⟩ => ?_))
  subst ex
  obtain rfl : ov = Value.ref a := rx
  refine wpAny_bind (wpAny_standAt ?_)
  refine wpAny_bind (wpAny_holding (setattr_ok I2 ea c n l ru fun s3 I3 => ?_))
  exact wpAny_release ⟨σ, _, I3, q2⟩
/-- o.m(e, ..) within a try: what it raises is wished for at the slots as they stand -/
def tMethS (C : Addr) (m : Str) (sp : Sp) (E : L2.St → XK) (ta : TE) (t : TA) : TE := fun σ H Q => ta σ H fun x H1 => ∃ a dx fs, x = .ref a ∧ H1 a = some (.ins C dx fs) ∧ fs.lookup m = none ∧ t σ H1 fun vs H2 => sp (x :: vs) H2 Q (E σ)
theorem pe_methS {E : L2.St → XK} {pl : Sem Bool} (he : PE X o ta) (c : Cls X.K C) (hm : Meth X.K C m f)
    (F : FnOk X.prog X.w X.K X.mg X.base CX k f fd ps sp) (hr : Room k X.A) (hb : Binds X.K fd ps []) (hx : ∀ σ, PassesAt CX X σ (E σ)) (ha : PA X (e :: es) t)
    (hst : starEach (e :: es) X.env = (false, eval e X.env) :: starEach es X.env := by rfl) (hpl : (backTo pos (starEach es X.env)).any (·.1) = false := by rfl)
    (ht : eval (.Call (.Attribute o m apos) (e :: es) [] pos) X.env = (do
      let ov ← eval o X.env
      standAt apos.atName
      let (f, first) ← holding [ov] (getMethod ov m pl)
      callWith pos f first (backTo pos (starEach (e :: es) X.env)) (backToKw pos (keywordEach [] X.env))) := by rfl) :
    PE X (.Call (.Attribute o m apos) (e :: es) [] pos) (tMethS C m sp E ta t) := by
  refine ⟨fun pins s σ H Q I h => ?_⟩
  refine PySem.W.methodCall_KW (pl := pl) (thn (he.run pins s σ H _ I h) fun u s1 ⟨x, H1, I1, rx, a, dx, fs, ex, ea, l, q⟩ => ?_) ht
  subst ex
  obtain rfl : u = Value.ref a := rx
  refine getmeth_ok I1 ea c hm l ?_
  refine PySem.W.callWith_K (first := [.ref a]) (h₀ := X.base) I.ok.mod.kin hm.kp (thn (ha.run pos pins s1 σ H1 _ I1 q) fun us s2 ⟨vs, H2, I2, r, q2⟩ => ⟨I2.kIn, ?_⟩) hst hpl
  exact run_fnS (us := .ref a :: us) (vs := .ref a :: vs) F hr hb (hx σ) I2 (.cons rfl r) q2
end
/-- what the clauses 'except x as n' wish of an exception of the body, one after the other -/
def wManyAs (K : PySem.W.Frag) (Wout : WX) (D : Ends) : List (Value × Nat × (Addr → Value → Option Addr → TS)) → WX
  | [] => Wout
  | (c, i, ts) :: r => fun cls d σ H => ∃ b, PySem.W.exmOne K cls c = some b ∧
    (b = true → ∀ a, H a = none → ts a cls d { nx := fun σ' H' => D.nx (σ'.set i none) H', rt := D.rt, bk := fun σ' H' => D.bk (σ'.set i none) H', ct := fun σ' H' => D.ct (σ'.set i none) H' } (σ.set i (some (.ref a))) H) ∧ (b = false → wManyAs K Wout D r cls d σ H)
inductive HdsAs (X : Cx) : List ExceptHandler → List (Value × Nat × (Addr → Value → Option Addr → TS)) → Prop
  | nil : HdsAs X [] []
  | cons {x n : Str} {i : Nat} {c : Value} {ts : Addr → Value → Option Addr → TS} {b₀ : Stmt} {suite : List Stmt} {np pos' : Pos} {hds : List ExceptHandler} {l : List (Value × Nat × (Addr → Value → Option Addr → TS))} (hi : X.N[i]? = some n) (hln : X.env.kindOf n = some .local) (hc : Names X x c)
      (hsu : ∀ (a : Addr) (oe : Obj) (cls : Value) (d : Option Addr) (pn : List (Addr × Obj)), Zc cls d oe → (∃ vs, oe.data = .fields vs) → PSs (X.suite a ((a, oe) :: pn)) (b₀ :: suite) (ts a cls d)) (r : HdsAs X hds l) :
      HdsAs X (.ExceptHandler (some (.Name x np)) (some n) (b₀ :: suite) pos' :: hds) ((c, i, ts) :: l)
section
variable {X : Cx} {body : List Stmt} {h₀ : ExceptHandler} {hds : List ExceptHandler} {l : List (Value × Nat × (Addr → Value → Option Addr → TS))} {pos : Pos} {tb : WX → TS} {Wout : WX}
theorem ps_try_manyAs (hs : X.stack = X.env :: X.outer) (hf : X.env.frame = some X.env.locals) (hN : X.N.Nodup) (tk : Takes X Wout)
    (hb : ∀ (W : WX) (pn : List (Addr × Obj)) (xe : Value → Shared → Prop), Takes (X.tr pn xe) W → PassesOwn (model X.prog X.w) X.A X.env xe → PSs (X.tr pn xe) body (tb W))
    (hh : HdsAs X (h₀ :: hds) l) : PS X (.Try body (h₀ :: hds) [] [] pos) (fun D σ H => tb (wManyAs X.K Wout D l) D σ H) := by
  refine ⟨fun pins s σ H D I h => ?_⟩
  have ok := I.ok
  have hfr : X.A.frames = some (X.env :: X.outer) := by rw [ok.frames, hs]
  refine wpAny_Try_except ?_
  refine wpAny_mono ((hb (wManyAs X.K Wout D l) (X.pn ++ pins) (fun e s₁ => wpAny (model X.prog X.w) X.A (noteFrame e X.env) (fun _ s₂ => wpAny (model X.prog X.w) X.A (setFlight e none) (fun _ s₃ =>
    wpAny (model X.prog X.w) X.A (handleBy e X.env (h₀ :: hds)) (SP X pins D) X.xe s₃) X.xe s₂) X.xe s₁) (fun u s' xx => ?_) PassesOwn.looking).run [] s σ H D (I.toTry _) h) (fun f s1 hsp => ?_) (fun e s1 he => he)
  · obtain ⟨a, B, sI, pins', σ', H', cls, d, rfl, J', nb, up, sky, na, os, ag, w⟩ := xx
    have J : Inv X pins σ' H' sI := J'.ofTry ok
    have sky' : Sky B (X.env :: X.outer) a (Zc cls d) X.env.locals s'.heap := by rw [← hs]; exact sky
    show wpAny (model X.prog X.w) X.A (noteFrame (.ref a) X.env) _ _ _
    refine Sky.land Zc.steady hfr hf sky' fun h3 fl3 up3 => ?_
    have J3 : Inv X pins σ' H' { s' with heap := h3 } := J.landed nb fl3.1 (up.trans up3) os ag
    obtain ⟨oe3, vs3, he3, hz3, hd3⟩ := fl3.there
    have notFr : ∀ {h : Heap} {o : Obj} {vs : Array Value}, h.FunFrames B (X.env :: X.outer) → h.get? a = some o → o.data = .fields vs → a ∉ frs (X.env :: X.outer) := fun {h o vs} ff e dd hm => by
      obtain ⟨_, o', e', hnf⟩ := ff.mem hm
      rw [e] at e'; cases e'
      exact hnf _ dd
    have nfr := notFr fl3.2.2.1 he3 hd3
    have nL : a ≠ X.env.locals := fun z => nfr (List.mem_filterMap.mpr ⟨X.env, List.mem_cons_self, by rw [hf, z]⟩)
    have nF : a ∉ X.fs := fun hm => by
      obtain ⟨e, he, q⟩ := List.mem_filterMap.mp hm
      exact nfr (List.mem_filterMap.mpr ⟨e, List.mem_cons_of_mem _ he, q⟩)
    have S3 := J3.suite he3 hd3 na nL nF
    have go : ∀ {hds' : List ExceptHandler} {l' : List (Value × Nat × (Addr → Value → Option Addr → TS))}, HdsAs X hds' l' → wManyAs X.K Wout D l' cls d σ' H' →
        wpAny (model X.prog X.w) X.A (handleBy (.ref a) X.env hds') (SP X pins D) X.xe { s' with heap := h3 } := by
      intro hds' l' hk
      induction hk with
      | nil =>
        intro w
        refine wpAny_handleBy_nil ?_
        obtain ⟨k1, k2, k3, oe, vs, T, oT, ts', he, hz, hd, h1, hr⟩ := id fl3
        unfold PySem.passOn
        refine wpAny_bind (wpAny_field he hd h1 ?_)
        rw [if_neg (show ¬ ((Value.ref T == Value.none) = true) from by simp)]
        have fin : wpAny (model X.prog X.w) X.A (setFlight (.ref a) X.env.frame) (fun _ s4 => wpAny (model X.prog X.w) X.A (throw (.ref a) : Sem Flow) (SP X pins D) X.xe s4) X.xe { s' with heap := h3 } := by
          rw [hf]
          refine HandSPX.setFlight_upZ fl3 fun h4 hh4 up4 => wpAny_throw (tk _ _ ?_)
          exact ⟨a, B, sI, pins, σ', H', cls, d, rfl, J, nb, (up.trans up3).trans up4, .inr (.inr (by rw [hs]; exact hh4)), na, os, ag, w⟩
        first
          | exact wpAny_bind (wpAny_pure (wpAny_bind fin))
          | exact wpAny_bind fin
      | @cons x n i c ts b₀ suite np pos' hds2 l2 hi hln hc hsu r ih =>
        intro w
        obtain ⟨b, hb1, hyes, hno⟩ := w
        have hloc : Loc X.env.scope n := .inl hln
        refine wpAny_handleBy_cons (codeAny_handlers_test ?_) (by intro q; cases q)
        have LT : PySem.W.Looks (model X.prog X.w) h3 (typeOf (.ref a)) cls := fun A Q E s k q => wpAny_typeOf_ref (k _ _ he3) (by rw [hz3.1]; exact q)
        have LM := PySem.W.exm_one (M := model X.prog X.w) (J3.kIn) LT hb1
        have test : ∀ {Q : Value → Shared → Prop} {E : Value → Shared → Prop}, Q c { s' with heap := h3 } → wpAny (model X.prog X.w) (X.A.mark (some (.ref a))) (eval (.Name x np) X.env) Q E { s' with heap := h3 } := fun {Q E} q => by
          obtain ⟨hg, hdbg, hm | ⟨hm, hv, hnn⟩⟩ := hc
          · exact ld_glob (X := X.suite a ((a, oe3) :: (X.pn ++ pins))) S3 hg hm q hdbg
          · exact ld_blt (X := X.suite a ((a, oe3) :: (X.pn ++ pins))) S3 hg hm hv q hnn hdbg
        refine test (LM.here ?_)
        cases b with
        | true =>
          refine codeAny_handlers_suite_as ?_
          refine HandSPX.lands_againZ fl3 fun h4 fl4 up4 => ?_
          have J4 : Inv X pins σ' H' { s' with heap := h4 } := J.landed nb fl4.1 ((up.trans up3).trans up4) os ag
          obtain ⟨oe4, vs4, he4, hz4, hd4⟩ := fl4.there
          have S4 := J4.suite he4 hd4 na nL nF
          refine store_ok (X := X.suite a ((a, oe4) :: (X.pn ++ pins))) (v := .ref a) S4 hN hi hloc rfl (fun s5 S5 => ?_) (.inr hln)
          refine wpAny_mono ((hsu a oe4 cls d (X.pn ++ pins) hz4 ⟨_, hd4⟩).run [] s5 _ H' _ S5 (hyes rfl a na)) (fun f s6 hsp => ?_) (fun _ _ z => False.elim z)
          have end_ : ∀ {σ6 : St} {H6 : Hp} {Q : Shared → Prop}, Inv (X.suite a ((a, oe4) :: (X.pn ++ pins))) [] σ6 H6 s6 → (∀ s7, Inv X pins (σ6.set i none) H6 s7 → Q s7) →
              wpAny (model X.prog X.w) X.A (do bindName X.env n .none; unbindBehindTheSuite X.env n pos') (fun _ s7 => Q s7) X.xe s6 := fun {σ6 H6 Q} S6 hq => gone_ok (S6.unsuite ok) hN hi hln hq
          cases f with
          | next =>
            obtain ⟨σ6, H6, S6, q6⟩ := hsp
            exact end_ S6 fun s7 J7 => ⟨_, _, J7, q6⟩
          | brk =>
            obtain ⟨σ6, H6, S6, q6⟩ := hsp
            exact end_ S6 fun s7 J7 => ⟨_, _, J7, q6⟩
          | cont =>
            obtain ⟨σ6, H6, S6, q6⟩ := hsp
            exact end_ S6 fun s7 J7 => ⟨_, _, J7, q6⟩
          | ret u =>
            obtain ⟨v6, σ6, H6, S6, r6, q6⟩ := hsp
            exact end_ S6 fun s7 J7 => ⟨_, _, _, J7, r6, q6⟩
        | false =>
          show wpAny _ X.A (handleBy (.ref a) X.env hds2) _ _ _
          exact ih (hno rfl)
    exact go hh w
  · cases f with
    | next =>
      obtain ⟨σ', H', J', q⟩ := hsp
      exact wpAny_execs_nil ⟨σ', H', J'.ofTry ok, q⟩
    | brk =>
      obtain ⟨σ', H', J', q⟩ := hsp
      exact ⟨σ', H', J'.ofTry ok, q⟩
    | cont =>
      obtain ⟨σ', H', J', q⟩ := hsp
      exact ⟨σ', H', J'.ofTry ok, q⟩
    | ret u =>
      obtain ⟨v, σ', H', J', r, q⟩ := hsp
      exact ⟨v, σ', H', J'.ofTry ok, r, q⟩
end
end
end Cr

namespace Cr
open PySem PySem.Spec PyProof.Rows L2 L2.DX LamX
/-! ### the mirror of a book -/
abbrev Row := Int × E3
structure BookS where
  most : Int
  rows : List Row
  nx : Int
  past : List (List Row)
  done : List (List Row)
  undone : List (List Row)
/-- where it stands -/
structure BkA where
  p : Addr
  dx : Addr
  r : Addr
  pa : Addr
  dn : Addr
  un : Addr
  t : Addr
  tx : Addr
  td : Addr
  pas : List Addr
  dos : List Addr
  uns : List Addr
def BkA.all (A : BkA) : List Addr := A.p :: A.r :: A.pa :: A.dn :: A.un :: A.t :: A.td :: (A.pas ++ (A.dos ++ A.uns))
abbrev bkF (most : Int) (r : Addr) (nx : Int) (pa dn un t : Addr) : List (Str × V) := [("most", .int most), ("rows", .ref r), ("next_number", .int nx), ("past", .ref pa), ("done", .ref dn), ("undone", .ref un), ("till", .ref t), ("closed", .non)]
/-- numbers and values against numbers and entries -/
def PsAt (K : PySem.W.Frag) (H : Hp) : List (Int × V) → List Row → Prop := A2 fun p e => p.1 = e.1 ∧ Dt K H p.2 (dE e.2)
def RowsAt (K : PySem.W.Frag) (H : Hp) (r : Addr) (rows : List Row) : Prop := ∃ ps : List (Int × V), H r = some (.dK (iOf ps)) ∧ PsAt K H ps rows
structure BkAt (K : PySem.W.Frag) (Cb Ct : Addr) (H : Hp) (A : BkA) (B : BookS) : Prop where
  hp : H A.p = some (.ins Cb A.dx (bkF B.most A.r B.nx A.pa A.dn A.un A.t))
  hr : RowsAt K H A.r B.rows
  hpa : H A.pa = some (.lst (A.pas.map V.ref))
  hpas : A2 (RowsAt K H) A.pas B.past
  hdn : H A.dn = some (.lst (A.dos.map V.ref))
  hdos : A2 (RowsAt K H) A.dos B.done
  hun : H A.un = some (.lst (A.uns.map V.ref))
  huns : A2 (RowsAt K H) A.uns B.undone
  ht : H A.t = some (.ins Ct A.tx [(("sums" : Str), .ref A.td)])
  htd : H A.td = some (.dK [])
  nd : A.all.Nodup
theorem PsAt.mono {K : PySem.W.Frag} {H H' : Hp} {ps : List (Int × V)} {rows : List Row} (k : KT H H') (h : PsAt K H ps rows) : PsAt K H' ps rows := A2.mono (fun _ _ z => ⟨z.1, z.2.mono k⟩) h
theorem RowsAt.up {K : PySem.W.Frag} {H H' : Hp} {r : Addr} {rows : List Row} (k : KT H H') (e : ∀ kvs, H r = some (.dK kvs) → H' r = some (.dK kvs)) (h : RowsAt K H r rows) : RowsAt K H' r rows := let ⟨ps, h1, h2⟩ := h; ⟨ps, e _ h1, h2.mono k⟩
theorem A2.inn {α β : Type} {R S : α → β → Prop} : ∀ {xs : List α} {ys : List β}, (∀ x, x ∈ xs → ∀ y, R x y → S x y) → A2 R xs ys → A2 S xs ys
  | _, _, _, .nil => .nil
  | _, _, h, .cons a b => .cons (h _ List.mem_cons_self _ a) (A2.inn (fun x hx => h x (List.mem_cons_of_mem _ hx)) b)
theorem A2.left {α β : Type} {R : α → β → Prop} : ∀ {xs : List α} {ys : List β}, A2 R xs ys → ∀ x, x ∈ xs → ∃ y, R x y
  | _, _, .cons a b, x, h => by
    rcases List.mem_cons.mp h with rfl | h
    · exact ⟨_, a⟩
    · exact A2.left b x h
/-- what stands there may change: an instance, a list, a dict -/
def Own (o : HO) : Prop := (∃ C dx fs, o = .ins C dx fs) ∨ (∃ xs, o = .lst xs) ∨ ∃ kvs, o = .dK kvs
theorem Own.isT {o : HO} (h : Own o) : isT o = false := by rcases h with ⟨_, _, _, rfl⟩ | ⟨_, rfl⟩ | ⟨_, rfl⟩ <;> rfl
theorem Own.tbl {o : HO} (h : Own o) : ∀ ps, o ≠ .tbl ps := (kind_ok h).1
section
variable {K : PySem.W.Frag} {Cb Ct : Addr} {H H' : Hp} {A : BkA} {B : BookS}
theorem RowsAt.own {r : Addr} {rows : List Row} (h : RowsAt K H r rows) : ∃ o, H r = some o ∧ Own o := by
  obtain ⟨ps, e, _⟩ := h
  exact ⟨_, e, .inr (.inr ⟨_, rfl⟩)⟩
theorem BkAt.own (h : BkAt K Cb Ct H A B) : ∀ b, b ∈ A.all → ∃ o, H b = some o ∧ Own o := fun b hb => by
  simp only [BkA.all, List.mem_cons, List.mem_append] at hb
  rcases hb with rfl | rfl | rfl | rfl | rfl | rfl | rfl | hb | hb | hb
  · exact ⟨_, h.hp, .inl ⟨_, _, _, rfl⟩⟩
  · exact h.hr.own
  · exact ⟨_, h.hpa, .inr (.inl ⟨_, rfl⟩)⟩
  · exact ⟨_, h.hdn, .inr (.inl ⟨_, rfl⟩)⟩
  · exact ⟨_, h.hun, .inr (.inl ⟨_, rfl⟩)⟩
  · exact ⟨_, h.ht, .inl ⟨_, _, _, rfl⟩⟩
  · exact ⟨_, h.htd, .inr (.inr ⟨_, rfl⟩)⟩
  · obtain ⟨_, q⟩ := A2.left h.hpas b hb; exact q.own
  · obtain ⟨_, q⟩ := A2.left h.hdos b hb; exact q.own
  · obtain ⟨_, q⟩ := A2.left h.huns b hb; exact q.own
theorem BkAt.up (h : BkAt K Cb Ct H A B) (k : KT H H') (e : ∀ b, b ∈ A.all → ∀ o, H b = some o → (∀ ps, o ≠ .tbl ps) → H' b = some o) : BkAt K Cb Ct H' A B := by
  have m : ∀ b, b ∈ A.all → ∀ rows, RowsAt K H b rows → RowsAt K H' b rows := fun b hb rows q => q.up k fun kvs z => e b hb _ z fun ps w => nomatch w
  have l : ∀ b, b ∈ A.all → ∀ xs, H b = some (.lst xs) → H' b = some (.lst xs) := fun b hb xs q => e b hb _ q fun ps z => nomatch z
  have i : ∀ b, b ∈ A.all → ∀ C dx fs, H b = some (.ins C dx fs) → H' b = some (.ins C dx fs) := fun b hb C dx fs q => e b hb _ q fun ps z => nomatch z
  exact ⟨i _ (by simp [BkA.all]) _ _ _ h.hp, m _ (by simp [BkA.all]) _ h.hr, l _ (by simp [BkA.all]) _ h.hpa, A2.inn (fun x hx y q => m x (by simp [BkA.all, hx]) y q) h.hpas, l _ (by simp [BkA.all]) _ h.hdn, A2.inn (fun x hx y q => m x (by simp [BkA.all, hx]) y q) h.hdos, l _ (by simp [BkA.all]) _ h.hun,
    A2.inn (fun x hx y q => m x (by simp [BkA.all, hx]) y q) h.huns, i _ (by simp [BkA.all]) _ _ _ h.ht, e _ (by simp [BkA.all]) _ h.htd (fun ps z => nomatch z), h.nd⟩
theorem BkAt.same (s : Same H H') (h : BkAt K Cb Ct H A B) : BkAt K Cb Ct H' A B := h.up (kt_same s) fun b _ o e _ => s b o e
theorem BkAt.extN (s : ExtN H H') (h : BkAt K Cb Ct H A B) : BkAt K Cb Ct H' A B := h.up (extN_kt s) fun b _ o e t => s b o e t
theorem BkAt.new {q : Addr} {o : HO} (n : H q = none) (h : BkAt K Cb Ct H A B) : BkAt K Cb Ct (upd H q o) A B := h.same (same_new n)
theorem BkAt.but {b l : Addr} (n : b ∉ A.all) (s : But b H H') (h : BkAt K Cb Ct H A B) : BkAt K Cb Ct H' A B := h.up (kt_but s) fun x hx o e _ => s.oth x o (fun z => n (z ▸ hx)) e
theorem BkAt.tab {P : Addr} {q : Str} (h : BkAt K Cb Ct H A B) (k : Keep A.all H H') (t : TabS H P q) : TabS H' P q := tab_keep t k fun b hb o e => by
  obtain ⟨o', e', w⟩ := h.own b hb
  rw [e'] at e; cases e
  exact kind_ok w
theorem BkAt.notin {x : Addr} (h : BkAt K Cb Ct H A B) (n : H x = none) : x ∉ A.all := fun z => by
  obtain ⟨o, e, _⟩ := h.own x z
  rw [n] at e; cases e
theorem BkAt.kt (h : BkAt K Cb Ct H A B) (k : KeepN A.all H H') : KT H H' := fun b o e t => by
  refine k b o (fun z => ?_) e (fun ps w => by subst w; cases t)
  obtain ⟨o', e', w⟩ := h.own b z
  rw [e'] at e; cases e
  rw [w.isT] at t; cases t
end
/-! reads and writes of an instance's fields -/
section
variable {K : PySem.W.Frag} {H : Hp} {Q : VK} {N : Hp → Prop}
theorem s_fldG {a C dx : Addr} {fs : List (Str × V)} {f : Str} {v : V} (e : H a = some (.ins C dx fs)) (k : Cls K C) (n : NoAttr K C f) (l : fs.lookup f = some v) (q : Q v H) : FldQ K (.ref a) f H Q := ⟨a, C, dx, _, _, rfl, e, k, n, l, q⟩
theorem w_fldG {a C dx : Addr} {fs fs' : List (Str × V)} {f : Str} {y : V} (e : H a = some (.ins C dx fs)) (k : Cls K C) (n : NoAttr K C f) (l : fs.length < 1000) (p : putF f y fs = fs') (q : N (upd H a (.ins C dx fs'))) : FldW K f y (.ref a) H N := ⟨a, C, dx, fs, rfl, e, k, n, l, by rw [p]; exact q⟩
theorem s_methG {a C dx : Addr} {fs : List (Str × V)} {m : Str} {M : Prop} (e : H a = some (.ins C dx fs)) (l : fs.lookup m = none) (q : M) : MethQ C m (.ref a) H M := ⟨a, dx, fs, rfl, e, l, q⟩
end
theorem bk_most {most nx : Int} {r pa dn un t : Addr} : (bkF most r nx pa dn un t).lookup ("most" : Str) = some (.int most) := by with_unfolding_all rfl
theorem bk_rows {most nx : Int} {r pa dn un t : Addr} : (bkF most r nx pa dn un t).lookup ("rows" : Str) = some (.ref r) := by with_unfolding_all rfl
theorem bk_nx {most nx : Int} {r pa dn un t : Addr} : (bkF most r nx pa dn un t).lookup ("next_number" : Str) = some (.int nx) := by with_unfolding_all rfl
theorem bk_past {most nx : Int} {r pa dn un t : Addr} : (bkF most r nx pa dn un t).lookup ("past" : Str) = some (.ref pa) := by with_unfolding_all rfl
theorem bk_done {most nx : Int} {r pa dn un t : Addr} : (bkF most r nx pa dn un t).lookup ("done" : Str) = some (.ref dn) := by with_unfolding_all rfl
theorem bk_undone {most nx : Int} {r pa dn un t : Addr} : (bkF most r nx pa dn un t).lookup ("undone" : Str) = some (.ref un) := by with_unfolding_all rfl
theorem bk_till {most nx : Int} {r pa dn un t : Addr} : (bkF most r nx pa dn un t).lookup ("till" : Str) = some (.ref t) := by with_unfolding_all rfl
theorem bk_closed {most nx : Int} {r pa dn un t : Addr} : (bkF most r nx pa dn un t).lookup ("closed" : Str) = some .non := by with_unfolding_all rfl
theorem bk_pRows {most nx : Int} {r pa dn un t y : Addr} : putF "rows" (.ref y) (bkF most r nx pa dn un t) = bkF most y nx pa dn un t := by with_unfolding_all rfl
theorem bk_pNx {most nx m : Int} {r pa dn un t : Addr} : putF "next_number" (.int m) (bkF most r nx pa dn un t) = bkF most r m pa dn un t := by with_unfolding_all rfl
theorem bk_pPast {most nx : Int} {r pa dn un t y : Addr} : putF "past" (.ref y) (bkF most r nx pa dn un t) = bkF most r nx y dn un t := by with_unfolding_all rfl
theorem bk_pDone {most nx : Int} {r pa dn un t y : Addr} : putF "done" (.ref y) (bkF most r nx pa dn un t) = bkF most r nx pa y un t := by with_unfolding_all rfl
theorem bk_pUndone {most nx : Int} {r pa dn un t y : Addr} : putF "undone" (.ref y) (bkF most r nx pa dn un t) = bkF most r nx pa dn y t := by with_unfolding_all rfl
theorem bk_pTill {most nx : Int} {r pa dn un t y : Addr} : putF "till" (.ref y) (bkF most r nx pa dn un t) = bkF most r nx pa dn un y := by with_unfolding_all rfl
theorem bk_pClosed {most nx : Int} {r pa dn un t : Addr} : putF "closed" .non (bkF most r nx pa dn un t) = bkF most r nx pa dn un t := by with_unfolding_all rfl
theorem bk_len {most nx : Int} {r pa dn un t : Addr} : (bkF most r nx pa dn un t).length < 1000 := by show 8 < 1000; decide
theorem bk_meth {most nx : Int} {r pa dn un t : Addr} {m : Str} (e : ([("most" : Str), "rows", "next_number", "past", "done", "undone", "till", "closed"].contains m) = false) : (bkF most r nx pa dn un t).lookup m = none := by
  simp only [List.contains_cons, List.contains_nil, Bool.or_false, Bool.or_eq_false_iff] at e
  simp only [bkF, List.lookup, e]
/-! the steps of a deed -/
section
variable {K : PySem.W.Frag} {Cb Ct : Addr} {H H' : Hp} {A : BkA} {B : BookS}
theorem BkAt.pushPast {d : Addr} {rows : List Row} (h : BkAt K Cb Ct H A B) (hd : RowsAt K H d rows) (n : d ∉ A.all) : BkAt K Cb Ct (upd H A.pa (.lst (A.pas.map V.ref ++ [.ref d]))) { A with pas := A.pas ++ [d] } { B with past := B.past ++ [rows] } := by
  have nd := h.nd
  have n' := n
  simp only [BkA.all, List.nodup_cons, List.mem_cons, List.mem_append, not_or] at nd n'
  have kt : KT H (upd H A.pa (.lst (A.pas.map V.ref ++ [.ref d]))) := kt_mut h.hpa rfl
  have k : ∀ b o, b ≠ A.pa → H b = some o → upd H A.pa (.lst (A.pas.map V.ref ++ [.ref d])) b = some o := fun b o z e => (upd_ne z).trans e
  have m : ∀ {xs : List Addr} {ys}, A.pa ∉ xs → A2 (RowsAt K H) xs ys → A2 (RowsAt K (upd H A.pa (.lst (A.pas.map V.ref ++ [.ref d])))) xs ys := fun z q => A2.inn (fun x hx y w => w.up kt fun kvs e => k _ _ (fun z' => z (z' ▸ hx)) e) q
  refine ⟨k _ _ (by grind) h.hp, h.hr.up kt fun kvs e => k _ _ (by grind) e, ?_, A2.snoc (hd.up kt fun kvs e => k _ _ (by grind) e) (m (by grind) h.hpas), k _ _ (by grind) h.hdn, m (by grind) h.hdos, k _ _ (by grind) h.hun, m (by grind) h.huns, k _ _ (by grind) h.ht, k _ _ (by grind) h.htd, ?_⟩
  · show upd _ _ _ _ = some (.lst ((A.pas ++ [d]).map V.ref))
    rw [upd_same, List.map_append]; rfl
  · refine (List.Perm.nodup_iff ?_).mp (List.nodup_cons.mpr ⟨n, h.nd⟩)
    simp only [BkA.all]
    refine List.perm_iff_count.mpr fun x => ?_
    simp only [List.count_cons, List.count_append, List.count_nil]
    omega
theorem BkAt.pushDone {d : Addr} {rows : List Row} (h : BkAt K Cb Ct H A B) (hd : RowsAt K H d rows) (n : d ∉ A.all) : BkAt K Cb Ct (upd H A.dn (.lst (A.dos.map V.ref ++ [.ref d]))) { A with dos := A.dos ++ [d] } { B with done := B.done ++ [rows] } := by
  have nd := h.nd
  have n' := n
  simp only [BkA.all, List.nodup_cons, List.mem_cons, List.mem_append, not_or] at nd n'
  have kt : KT H (upd H A.dn (.lst (A.dos.map V.ref ++ [.ref d]))) := kt_mut h.hdn rfl
  have k : ∀ b o, b ≠ A.dn → H b = some o → upd H A.dn (.lst (A.dos.map V.ref ++ [.ref d])) b = some o := fun b o z e => (upd_ne z).trans e
  have m : ∀ {xs : List Addr} {ys}, A.dn ∉ xs → A2 (RowsAt K H) xs ys → A2 (RowsAt K (upd H A.dn (.lst (A.dos.map V.ref ++ [.ref d])))) xs ys := fun z q => A2.inn (fun x hx y w => w.up kt fun kvs e => k _ _ (fun z' => z (z' ▸ hx)) e) q
  refine ⟨k _ _ (by grind) h.hp, h.hr.up kt fun kvs e => k _ _ (by grind) e, k _ _ (by grind) h.hpa, m (by grind) h.hpas, ?_, A2.snoc (hd.up kt fun kvs e => k _ _ (by grind) e) (m (by grind) h.hdos), k _ _ (by grind) h.hun, m (by grind) h.huns, k _ _ (by grind) h.ht, k _ _ (by grind) h.htd, ?_⟩
  · show upd _ _ _ _ = some (.lst ((A.dos ++ [d]).map V.ref))
    rw [upd_same, List.map_append]; rfl
  · refine (List.Perm.nodup_iff ?_).mp (List.nodup_cons.mpr ⟨n, h.nd⟩)
    simp only [BkA.all]
    refine List.perm_iff_count.mpr fun x => ?_
    simp only [List.count_cons, List.count_append, List.count_nil]
    omega
/-- the instance's fields put anew: other numbers, a new empty list in the place of what was taken back -/
theorem BkAt.setIns {u : Addr} {m n : Int} {us : List Addr} {uu : List (List Row)} (h : BkAt K Cb Ct H A B) (hu : H u = some (.lst (us.map V.ref))) (huu : A2 (RowsAt K H) us uu) (nu : u = A.un ∨ u ∉ A.all) (nuu : us = A.uns ∨ us = []) :
    BkAt K Cb Ct (upd H A.p (.ins Cb A.dx (bkF m A.r n A.pa A.dn u A.t))) { A with un := u, uns := us } { B with most := m, nx := n, undone := uu } := by
  have nd := h.nd
  have n' : u ≠ A.p := by
    rcases nu with z | z
    · intro w; rw [w] at z; have := h.hun; rw [← z, h.hp] at this; cases this
    · intro w; exact z (by simp [BkA.all, w])
  simp only [BkA.all, List.nodup_cons, List.mem_cons, List.mem_append, not_or] at nd
  have kt : KT H (upd H A.p (.ins Cb A.dx (bkF m A.r n A.pa A.dn u A.t))) := kt_mut h.hp rfl
  have k : ∀ b o, b ≠ A.p → H b = some o → upd H A.p (.ins Cb A.dx (bkF m A.r n A.pa A.dn u A.t)) b = some o := fun b o z e => (upd_ne z).trans e
  have mm : ∀ {xs : List Addr} {ys}, A.p ∉ xs → A2 (RowsAt K H) xs ys → A2 (RowsAt K (upd H A.p (.ins Cb A.dx (bkF m A.r n A.pa A.dn u A.t)))) xs ys := fun z q => A2.inn (fun x hx y w => w.up kt fun kvs e => k _ _ (fun z' => z (z' ▸ hx)) e) q
  refine ⟨upd_same, h.hr.up kt fun kvs e => k _ _ (by grind) e, k _ _ (by grind) h.hpa, mm (by grind) h.hpas, k _ _ (by grind) h.hdn, mm (by grind) h.hdos, k _ _ n' hu, mm (by grind) huu, k _ _ (by grind) h.ht, k _ _ (by grind) h.htd, ?_⟩
  have sub : us.Sublist A.uns := by
    rcases nuu with rfl | rfl
    · exact List.Sublist.refl _
    · exact List.nil_sublist _
  show (A.p :: A.r :: A.pa :: A.dn :: u :: A.t :: A.td :: (A.pas ++ (A.dos ++ us))).Nodup
  rcases nu with z | z
  · rw [z]
    exact h.nd.sublist (((((((List.Sublist.append (List.Sublist.refl _) (List.Sublist.append (List.Sublist.refl _) sub)).cons_cons _).cons_cons _).cons_cons _).cons_cons _).cons_cons _).cons_cons _ |>.cons_cons _)
  · have n2 : (u :: A.all).Nodup := List.nodup_cons.mpr ⟨z, h.nd⟩
    have e : (A.p :: A.r :: A.pa :: A.dn :: u :: A.t :: A.td :: (A.pas ++ (A.dos ++ us))).Perm (u :: A.p :: A.r :: A.pa :: A.dn :: A.t :: A.td :: (A.pas ++ (A.dos ++ us))) := by
      refine List.perm_iff_count.mpr fun x => ?_
      simp only [List.count_cons, List.count_append, List.count_nil]
      omega
    refine (List.Perm.nodup_iff e).mpr (n2.sublist ?_)
    exact (((((((((List.Sublist.append (List.Sublist.refl A.pas) (List.Sublist.append (List.Sublist.refl A.dos) sub)).cons_cons A.td).cons_cons A.t).cons A.un).cons_cons A.dn).cons_cons A.pa).cons_cons A.r).cons_cons A.p).cons_cons u)
/-- the rows' dict put anew -/
theorem BkAt.setRows {ps : List (Int × V)} {rows : List Row} (h : BkAt K Cb Ct H A B) (hd : PsAt K H ps rows) : BkAt K Cb Ct (upd H A.r (.dK (iOf ps))) A { B with rows := rows } := by
  have nd := h.nd
  simp only [BkA.all, List.nodup_cons, List.mem_cons, List.mem_append, not_or] at nd
  obtain ⟨ps0, e0, _⟩ := h.hr
  have kt : KT H (upd H A.r (.dK (iOf ps))) := kt_mut e0 rfl
  have k : ∀ b o, b ≠ A.r → H b = some o → upd H A.r (.dK (iOf ps)) b = some o := fun b o z e => (upd_ne z).trans e
  have mm : ∀ {xs : List Addr} {ys}, A.r ∉ xs → A2 (RowsAt K H) xs ys → A2 (RowsAt K (upd H A.r (.dK (iOf ps)))) xs ys := fun z q => A2.inn (fun x hx y w => w.up kt fun kvs e => k _ _ (fun z' => z (z' ▸ hx)) e) q
  exact ⟨k _ _ (by grind) h.hp, ⟨ps, upd_same, hd.mono kt⟩, k _ _ (by grind) h.hpa, mm (by grind) h.hpas, k _ _ (by grind) h.hdn, mm (by grind) h.hdos, k _ _ (by grind) h.hun, mm (by grind) h.huns, k _ _ (by grind) h.ht, k _ _ (by grind) h.htd, h.nd⟩
end
/-! dicts of whole numbers -/
theorem inl_iff {a b : Int} : ((.inl a : Key) = .inl b) ↔ a = b := ⟨Sum.inl.inj, fun h => by rw [h]⟩
def lookI (ps : List (Int × V)) (n : Int) : Option V := (ps.find? fun p => decide (p.1 = n)).map (·.2)
def setI (ps : List (Int × V)) (n : Int) (v : V) : List (Int × V) := if (ps.any fun p => decide (p.1 = n)) = true then ps.map (fun p => if p.1 = n then (p.1, v) else p) else ps ++ [(n, v)]
theorem valV_iOf (ps : List (Int × V)) (n : Int) : valV (iOf ps) (.inl n) = lookI ps n := by
  induction ps with
  | nil => rfl
  | cons p ps ih =>
    by_cases h : p.1 = n
    · rw [show valV (iOf (p :: ps)) (.inl n) = some p.2 from valV_pos (p := ((.inl p.1 : Key), p.2)) (by rw [h])]
      unfold lookI; rw [List.find?_cons_of_pos (by simp [h])]; rfl
    · rw [show valV (iOf (p :: ps)) (.inl n) = valV (iOf ps) (.inl n) from valV_neg (p := ((.inl p.1 : Key), p.2)) (fun z => h (inl_iff.mp z)), ih]
      unfold lookI; rw [List.find?_cons_of_neg (by simp [h])]
theorem putK_iOf (ps : List (Int × V)) (n : Int) (v : V) : putK (iOf ps) (.inl n) v = iOf (setI ps n v) := by
  unfold putK setI
  have e : ((iOf ps).any fun kv => decide (kv.1 = (.inl n : Key))) = ps.any fun p => decide (p.1 = n) := by
    unfold iOf; rw [List.any_map]; congr 1; funext p; exact decide_eq_decide.mpr inl_iff
  rw [e]
  split
  · unfold iOf; rw [List.map_map, List.map_map]
    refine List.map_congr_left fun p _ => ?_
    show (if (.inl p.1 : Key) = .inl n then _ else _) = _
    by_cases h : p.1 = n
    · rw [if_pos (inl_iff.mpr h)]; show _ = ((.inl (if p.1 = n then (p.1, v) else p).1 : Key), (if p.1 = n then (p.1, v) else p).2); rw [if_pos h]
    · rw [if_neg (fun z => h (inl_iff.mp z))]; show _ = ((.inl (if p.1 = n then (p.1, v) else p).1 : Key), (if p.1 = n then (p.1, v) else p).2); rw [if_neg h]
  · unfold iOf; rw [List.map_append]; rfl
theorem setI_new {ps : List (Int × V)} {n : Int} {v : V} (h : n ∉ ps.map Prod.fst) : setI ps n v = ps ++ [(n, v)] := by
  unfold setI
  rw [if_neg]
  intro z
  obtain ⟨p, hp, e⟩ := List.any_eq_true.mp z
  exact h (List.mem_map.mpr ⟨p, hp, of_decide_eq_true e⟩)
theorem PsAt.keys {K : PySem.W.Frag} {H : Hp} : ∀ {ps : List (Int × V)} {rows : List Row}, PsAt K H ps rows → ps.map Prod.fst = rows.map Prod.fst
  | _, _, .nil => rfl
  | _, _, .cons a b => by rw [List.map_cons, List.map_cons, a.1, PsAt.keys b]
theorem PsAt.vals {K : PySem.W.Frag} {H : Hp} : ∀ {ps : List (Int × V)} {rows : List Row}, PsAt K H ps rows → DtAll K H (ps.map Prod.snd) (rows.map fun e => dE e.2)
  | _, _, .nil => .nil
  | _, _, .cons a b => .cons a.2 (PsAt.vals b)
theorem PsAt.look {K : PySem.W.Frag} {H : Hp} {n : Int} {e : E3} : ∀ {ps : List (Int × V)} {rows : List Row}, PsAt K H ps rows → (rows.map Prod.fst).Nodup → (n, e) ∈ rows → ∃ v, lookI ps n = some v ∧ Dt K H v (dE e)
  | _, _, .cons (x := p) (y := q) a b, nd, h => by
    rcases List.mem_cons.mp h with z | z
    · subst z
      refine ⟨p.2, ?_, a.2⟩
      unfold lookI; rw [List.find?_cons_of_pos (by simp [a.1])]; rfl
    · have nd' := List.nodup_cons.mp nd
      obtain ⟨v, h1, h2⟩ := PsAt.look b nd'.2 z
      refine ⟨v, ?_, h2⟩
      have ne : ¬ p.1 = n := fun w => nd'.1 (List.mem_map.mpr ⟨(n, e), z, by rw [← w]; exact a.1⟩)
      unfold lookI at h1 ⊢
      rw [List.find?_cons_of_neg (by simp [ne])]; exact h1
/-! an instance that gets its fields one by one, all else stays -/
structure PJ (H0 H : Hp) (p C dx : Addr) (fs : List (Str × V)) (objs : List (Addr × HO)) : Prop where
  ins : H p = some (.ins C dx fs)
  kp : Keep [p] H0 H
  obj : ∀ x, x ∈ objs → H x.1 = some x.2 ∧ H0 x.1 = none
  nd : (p :: objs.map Prod.fst).Nodup
section
variable {H0 H H' : Hp} {p C dx q : Addr} {fs fs' : List (Str × V)} {objs : List (Addr × HO)} {o : HO}
theorem PJ.put (I : PJ H0 H p C dx fs objs) : PJ H0 (upd H p (.ins C dx fs')) p C dx fs' objs :=
  ⟨upd_same, I.kp.trans (Keep.upd List.mem_cons_self), fun x hx => ⟨by rw [upd_ne (fun z => (List.nodup_cons.mp I.nd).1 (List.mem_map.mpr ⟨x, hx, z⟩))]; exact (I.obj x hx).1, (I.obj x hx).2⟩, I.nd⟩
theorem PJ.out (I : PJ H0 H p C dx fs objs) (n : H q = none) : H0 q = none := by
  cases e : H0 q with
  | none => rfl
  | some o =>
    by_cases z : q = p
    · rw [z, I.ins] at n; cases n
    · rw [I.kp q o (fun w => z (List.mem_singleton.mp w)) e] at n; cases n
theorem PJ.same (I : PJ H0 H p C dx fs objs) (s : Same H H') : PJ H0 H' p C dx fs objs := ⟨s _ _ I.ins, I.kp.trans (Keep.same s), fun x hx => ⟨s _ _ (I.obj x hx).1, (I.obj x hx).2⟩, I.nd⟩
theorem PJ.add (I : PJ H0 H p C dx fs objs) (s : Same H H') (n : H q = none) (e : H' q = some o) : PJ H0 H' p C dx fs (objs ++ [(q, o)]) := by
  have nq : q ∉ p :: objs.map Prod.fst := by
    intro z
    rcases List.mem_cons.mp z with rfl | z
    · rw [I.ins] at n; cases n
    · obtain ⟨x, hx, rfl⟩ := List.mem_map.mp z
      rw [(I.obj x hx).1] at n; cases n
  refine ⟨s _ _ I.ins, I.kp.trans (Keep.same s), fun x hx => ?_, ?_⟩
  · rcases List.mem_append.mp hx with hx | hx
    · exact ⟨s _ _ (I.obj x hx).1, (I.obj x hx).2⟩
    · rw [List.mem_singleton.mp hx]; exact ⟨e, I.out n⟩
  · rw [List.map_append, ← List.cons_append]
    exact List.nodup_append.mpr ⟨I.nd, List.nodup_cons.mpr ⟨List.not_mem_nil, .nil⟩, fun a ha b hb e => nq (by rw [List.mem_singleton.mp hb] at e; have e2 : a = q := e; rw [← e2]; exact ha)⟩
theorem PJ.new (I : PJ H0 H p C dx fs objs) (n : H q = none) : PJ H0 (upd H q o) p C dx fs (objs ++ [(q, o)]) := I.add (same_new n) n upd_same
theorem PJ.fld {K : PySem.W.Frag} {f : Str} {y : V} {N : Hp → Prop} (I : PJ H0 H p C dx fs objs) (k : Cls K C) (n : NoAttr K C f) (l : fs.length < 1000) (q : ∀ H', PJ H0 H' p C dx (putF f y fs) objs → N H') : FldW K f y (.ref p) H N :=
  ⟨p, C, dx, fs, rfl, I.ins, k, n, l, q _ I.put⟩
end
end Cr

/-! ### the head by one run: the written part gathered by names, its facts by tests -/
namespace Cr
open PySem PySem.Spec PyProof.Rows L2 He
def frA {β : Type} : List Addr → (List Addr → β) → β
  | [], k => k []
  | a :: r, k => HandSHeadRun.frNat a fun a => frA r fun r => k (a :: r)
theorem frA_eq {β : Type} : ∀ (l : List Addr) (k : List Addr → β), frA l k = k l
  | [], _ => rfl
  | a :: r, k => by
    show (HandSHeadRun.frNat a fun a => frA r fun r => k (a :: r)) = _
    rw [HandSHeadRun.frNat_eq, frA_eq r]
def frK {β : Type} (g : Addr → Option Obj) : List Addr → (PySem.W.Frag → β) → β
  | [], k => k []
  | a :: r, k => match g a with
    | some o => frK g r fun K => k ((a, o) :: K)
    | none => frK g r k
theorem frK_eq {β : Type} (g : Addr → Option Obj) : ∀ (l : List Addr) (k : PySem.W.Frag → β), frK g l k = k (frG g l)
  | [], _ => rfl
  | a :: r, k => by
    unfold frK frG
    rw [List.filterMap_cons]
    cases q : g a with
    | some o => exact frK_eq g r _
    | none => exact frK_eq g r _
/-- what an object leads to -/
def nextO (o : Obj) : List Addr := match o.data with
  | .func fd => refV fd.code ++ (refV fd.defaults ++ refV fd.kwdefaults)
  | .cls cd => cd.ns :: cd.mro.tail.flatMap refV
  | .dict es _ => es.toList.flatMap fun e => refV e.val
  | .seq its _ => its.toList.flatMap refV
  | _ => []
def nextG (g : Addr → Option Obj) (a : Addr) : List Addr := match g a with
  | some o => nextO o
  | none => []
def lvF {β : Type} (g : Addr → Option Obj) : Nat → List Addr → (List Addr → β) → β
  | 0, _, k => k []
  | n + 1, l, k => frA (l.flatMap (nextG g)) fun l' => lvF g n l' fun r => k (l' ++ r)
def lvP (g : Addr → Option Obj) : Nat → List Addr → List Addr
  | 0, _ => []
  | n + 1, l => l.flatMap (nextG g) ++ lvP g n (l.flatMap (nextG g))
theorem lvF_eq {β : Type} (g : Addr → Option Obj) : ∀ (n : Nat) (l : List Addr) (k : List Addr → β), lvF g n l k = k (lvP g n l)
  | 0, _, _ => rfl
  | n + 1, l, k => by
    show (frA (l.flatMap (nextG g)) fun l' => lvF g n l' fun r => k (l' ++ r)) = _
    rw [frA_eq, lvF_eq g n] <;> rfl
def byNames (g : Addr → Option Obj) (ns : List Str) : List Addr := ns.map (ga (frG g [mainGlobals]))
def asP (g : Addr → Option Obj) (ns : List Str) : List Addr := mainGlobals :: (byNames g ns ++ lvP g 3 (byNames g ns))
def partF {β : Type} (g : Addr → Option Obj) (ns : List Str) (k : PySem.W.Frag → β) : β := frA (byNames g ns) fun l => lvF g 3 l fun r => frK g (mainGlobals :: (l ++ r)) k
theorem partF_eq {β : Type} (g : Addr → Option Obj) (ns : List Str) (k : PySem.W.Frag → β) : partF g ns k = k (frG g (asP g ns)) := by
  unfold partF
  rw [frA_eq, lvF_eq, frK_eq] <;> rfl
/-! the tests -/
def nad (K : PySem.W.Frag) (a : Addr) (x : Str) : Addr := match PySem.W.nsIn K a x with
  | some (some (.ref b)) => b
  | _ => 0
def intB (K : PySem.W.Frag) (a : Addr) (x : Str) (i : Int) : Bool := match PySem.W.nsIn K a x with
  | some (some (.int j _)) => decide (j = i)
  | _ => false
theorem intB_ok {K : PySem.W.Frag} {a : Addr} {x : Str} {i : Int} (h : intB K a x i = true) : ∃ t, PySem.W.nsIn K a x = some (some (.int i t)) := by
  unfold intB at h
  split at h
  · rename_i j t e
    exact ⟨t, by rw [e, of_decide_eq_true h]⟩
  · cases h
def strB (K : PySem.W.Frag) (a : Addr) (x z : Str) : Bool := match PySem.W.nsIn K a x with
  | some (some (.str y _)) => decide (y = z)
  | _ => false
theorem strB_ok {K : PySem.W.Frag} {a : Addr} {x z : Str} (h : strB K a x z = true) : ∃ t, PySem.W.nsIn K a x = some (some (.str z t)) := by
  unfold strB at h
  split at h
  · rename_i j t e
    exact ⟨t, by rw [e, of_decide_eq_true h]⟩
  · cases h
def tupA (K : PySem.W.Frag) (a : Addr) (vs : List V) : Bool := match K.lookup a with
  | some ⟨.type c, _, .seq its _, _⟩ => decide (c = "tuple") && (decide (its.size ≤ sizeLine) && relAll vs its.toList)
  | _ => false
theorem tupA_ok {K : PySem.W.Frag} {a : Addr} {vs : List V} (h : tupA K a vs = true) (H : Hp) : SqT K H a vs := by
  unfold tupA at h
  split at h
  · rename_i c d its n z q
    obtain ⟨h1, h2⟩ := ba h
    obtain ⟨h3, h4⟩ := ba h2
    exact .inr ⟨_, its, n, q, congrArg Value.type (of_decide_eq_true h1), rfl, of_decide_eq_true h3, relAll_ok h4⟩
  · cases h
/-! what is told of the written part -/
def tabB (g : Addr → Option Obj) (K : PySem.W.Frag) (p : Defn) : Bool := PySem.W.codeHdIn K (cT K p).1 (cT K p).2 && ((K.lookup (cT K p).2).isNone && (match g (cT K p).2 with
  | some o => emptyTab o
  | none => false))
abbrev AlP : Type := List FnW × List (Option (List (Option (Str × Int)))) × Bool
def tellP (g : Addr → Option Obj) (fn : List DefD) (ts : List Tab) (tf : List Defn) (ex : List (PySem.W.Frag → Bool)) (K : PySem.W.Frag) : AlP :=
  (fn.map fun d => fnW K d.at_, ts.map fun t => dicW K (t.1 K), (fn.all fun d => d.ok K) && ((ex.all fun f => f K) && tf.all fun p => tabB g K p))
def goodP (fn : List DefD) (ts : List Tab) (w : World) : AlP := (fn.map DefD.val, ts.map fun t => some (keysIn w.params t.2), true)
structure SaysP (fn : List DefD) (ts : List Tab) (tf : List Defn) (ex : List (PySem.W.Frag → Bool)) (w : World) (h : Heap) (K : PySem.W.Frag) : Prop where
  d : (fn.map fun d => fnW K d.at_) = fn.map DefD.val
  k : ∀ d ∈ fn, d.ok K = true
  t : (ts.map fun t => dicW K (t.1 K)) = ts.map fun t => some (keysIn w.params t.2)
  x : ∀ f ∈ ex, f K = true
  hd : ∀ p ∈ tf, PySem.W.codeHdIn K (cT K p).1 (cT K p).2 = true
  out : ∀ p ∈ tf, K.lookup (cT K p).2 = none
  empty : ∀ p ∈ tf, h.get? (cT K p).2 = some { cls := .none, data := .fields #[] }
theorem saysP_of {fn : List DefD} {ts : List Tab} {tf : List Defn} {ex : List (PySem.W.Frag → Bool)} {w : World} {h : Heap} {K : PySem.W.Frag} (e : tellP h.get? fn ts tf ex K = goodP fn ts w) : SaysP fn ts tf ex w h K := by
  obtain ⟨e1, e2⟩ := Prod.mk.inj e
  obtain ⟨e2, e3⟩ := Prod.mk.inj e2
  obtain ⟨h1, h2⟩ := ba e3
  obtain ⟨h2, h3⟩ := ba h2
  have key : ∀ p ∈ tf, PySem.W.codeHdIn K (cT K p).1 (cT K p).2 = true ∧ K.lookup (cT K p).2 = none ∧ h.get? (cT K p).2 = some { cls := .none, data := .fields #[] } := fun p hp => by
    obtain ⟨g1, g2⟩ := ba (List.all_eq_true.mp h3 p hp)
    obtain ⟨g2, g3⟩ := ba g2
    refine ⟨g1, by simpa using g2, ?_⟩
    split at g3
    · rename_i o q
      rw [q, emptyTab_eq g3]
    · cases g3
  exact ⟨e1, List.all_eq_true.mp h1, e2, List.all_eq_true.mp h2, fun p hp => (key p hp).1, fun p hp => (key p hp).2.1, fun p hp => (key p hp).2.2⟩
def hookP (ns : List Str) (fn : List DefD) (ts : List Tab) (tf : List Defn) (ex : List (PySem.W.Frag → Bool)) : PySem.W.Hook where
  α := AlP
  obs := fun s => tellP s.heap.get? fn ts tf ex (frG s.heap.get? (asP s.heap.get? ns))
  val := fun w => goodP fn ts w
  says := fun w h => ∃ K : PySem.W.Frag, K.In h ∧ SaysP fn ts tf ex w h K
  of := fun _ _ e => ⟨_, frG_in, saysP_of e⟩
  keeps := fun _ _ _ ⟨K, hK, c⟩ k => ⟨K, PySem.W.Frag.In.keeps hK k, ⟨c.d, c.k, c.t, c.x, c.hd, c.out, fun p hp => k _ _ (c.empty p hp)⟩⟩
def obP (ns : List Str) (fn : List DefD) (ts : List Tab) (tf : List Defn) (ex : List (PySem.W.Frag → Bool)) (s : PySem.W.SharedT) : AlP :=
  partF (HandSHeadRun.getT s) ns fun K => tellP (HandSHeadRun.getT s) fn ts tf ex K
theorem obP_eq {ns : List Str} {fn : List DefD} {ts : List Tab} {tf : List Defn} {ex : List (PySem.W.Frag → Bool)} (s : PySem.W.SharedT) : obP ns fn ts tf ex s = (hookP ns fn ts tf ex).obs s.abs := by
  unfold obP
  rw [partF_eq]
  have e : HandSHeadRun.getT s = s.abs.heap.get? := funext (HandSHeadRun.getT_eq s)
  rw [e] <;> rfl
section
variable {fn : List DefD} {ts : List Tab} {tf : List Defn} {ex : List (PySem.W.Frag → Bool)} {w : World} {h : Heap} {K : PySem.W.Frag}
theorem SaysP.fact (c : SaysP fn ts tf ex w h K) (i : Nat) {f : PySem.W.Frag → Bool} (e : ex[i]? = some f := by rfl) : f K = true := c.x f (List.mem_of_getElem? e)
theorem SaysP.def_ (c : SaysP fn ts tf ex w h K) (i : Nat) {d : DefD} (e : fn[i]? = some d := by rfl) : ∃ fd, FunD K d.name d.qual d.params d.body d.scope (d.dvs K) (d.kws K) (fAd K d.at_) fd := by
  have e2 : (fn.map fun d => fnW K d.at_)[i]? = (fn.map DefD.val)[i]? := by rw [c.d]
  rw [List.getElem?_map, List.getElem?_map, e] at e2
  exact DefD.funD (Option.some.inj e2) (c.k d (List.mem_of_getElem? e))
theorem SaysP.tab (c : SaysP fn ts tf ex w h K) (i : Nat) {t : Tab} (e : ts[i]? = some t := by rfl) : ∃ es n, KDict K w (t.1 K) es n := by
  have e2 : (ts.map fun t => dicW K (t.1 K))[i]? = (ts.map fun t => some (keysIn w.params t.2))[i]? := by rw [c.t]
  rw [List.getElem?_map, List.getElem?_map, e] at e2
  exact dicW_ok (Option.some.inj e2)
end
theorem fun_ofD {K : PySem.W.Frag} {x q : Str} {st : Stmt} {f : Addr} {fd : FuncData} (F : FunD K x q (defArgs st) (defBody st) (defScope st) [] [] f fd) : Fun K x q st f fd := by
  obtain ⟨⟨oc, od, dV, kV, doc, pm, an, cdv, ct, osl, rfl, lk, hcd, hD, _⟩, kp⟩ := F
  rcases hD with ⟨_, h⟩ | ⟨h, _⟩
  · subst h
    exact fun_mk lk hcd kp
  · exact (h rfl).elim
theorem code_ofD {K : PySem.W.Frag} {x q : Str} {ps : Arguments} {b : List Stmt} {sc : Scope} {dv : List V} {kw : List (Str × V)} {p : Defn} {fd : FuncData} (F : FunD K x q ps b sc dv kw (fAd K p) fd) : fd.code = .ref (cT K p).1 := by
  obtain ⟨⟨oc, od, dV, kV, doc, pm, an, cdv, ct, osl, rfl, lk, hcd, _, _⟩, kp⟩ := F
  obtain ⟨c, e⟩ := codeIn_ref hcd
  have e2 := codeOf_eq lk (show (PySem.W.fnOf x q ps b sc dV kV doc pm an cdv ct).code = .ref c from e)
  show cdv = _
  rw [e]
  show Value.ref c = Value.ref (codeOf K p)
  rw [e2]
end Cr

/-! ## short words of the walk: local rows, by keys of our own -/
local macro_rules | `(tactic| walk_at "cr.kt") => `(tactic| with_reducible first
  | with_reducible assumption
  | exact Cr.kt_new (by with_reducible assumption)
  | exact Cr.kt_mut (by with_reducible assumption) rfl
  | exact Cr.kt_same (by with_reducible assumption)
  | exact Cr.kt_but (by with_reducible assumption))
local macro_rules | `(tactic| walk_at "cr.dt") => `(tactic| with_reducible first
  | with_reducible assumption
  | exact Cr.Dt.int _
  | exact Cr.Dt.bl _
  | exact Cr.Dt.str _
  | exact Cr.Dt.non
  | ((with_reducible refine' Cr.dt_new ?z (by with_reducible assumption)); (case z => walk_at "cr.da"))
  | exact Cr.dt_zn (by with_reducible assumption)
  | exact Cr.dt_1n (by with_reducible assumption)
  | (refine' Cr.Dt.mono (Cr.kt_new (by with_reducible assumption)) ?z; (case z => walk_at "cr.dt"))
  | (refine' Cr.Dt.mono (Cr.kt_mut (by with_reducible assumption) rfl) ?z; (case z => walk_at "cr.dt"))
  | (refine' Cr.Dt.mono (Cr.kt_same (by with_reducible assumption)) ?z; (case z => walk_at "cr.dt"))
  | (refine' Cr.Dt.mono (Cr.kt_but (by with_reducible assumption)) ?z; (case z => walk_at "cr.dt"))
  | (refine' Cr.Dt.mono (by with_reducible assumption) ?z; (case z => walk_at "cr.dt"))
  | exact (by with_reducible assumption : ∀ H : L2.Hp, Cr.Dt _ H _ _) _)
local macro_rules | `(tactic| walk_at "cr.da") => `(tactic| with_reducible first
  | exact Cr.DtAll.nil
  | (refine' Cr.DtAll.cons ?z ?w; (case z => walk_at "cr.dt"); (case w => walk_at "cr.da"))
  | with_reducible assumption)
local macro_rules | `(tactic| walk_at "cr.lot") => `(tactic| with_reducible first
  | with_reducible assumption
  | (refine' Cr.IsLot.mono (Cr.ki_new (by with_reducible assumption)) ?z; (case z => walk_at "cr.lot"))
  | (refine' Cr.IsLot.mono (Cr.ki_mut (by with_reducible assumption) rfl) ?z; (case z => walk_at "cr.lot"))
  | (refine' Cr.IsLot.mono (Cr.ki_same (by with_reducible assumption)) ?z; (case z => walk_at "cr.lot"))
  | (refine' Cr.IsLot.mono (Cr.ki_but (by with_reducible assumption)) ?z; (case z => walk_at "cr.lot"))
  | (refine' Cr.IsLot.mono (by with_reducible assumption) ?z; (case z => walk_at "cr.lot")))
/-- all of a list's -/
local macro_rules | `(tactic| walk_at "cr.das") => `(tactic| with_reducible first
  | with_reducible assumption
  | (refine' Cr.DtAll.mono (Cr.kt_new (by with_reducible assumption)) ?z; (case z => walk_at "cr.das"))
  | (refine' Cr.DtAll.mono (Cr.kt_mut (by with_reducible assumption) rfl) ?z; (case z => walk_at "cr.das"))
  | (refine' Cr.DtAll.mono (Cr.kt_same (by with_reducible assumption)) ?z; (case z => walk_at "cr.das"))
  | (refine' Cr.DtAll.mono (Cr.kt_but (by with_reducible assumption)) ?z; (case z => walk_at "cr.das"))
  | (refine' Cr.DtAll.mono (by with_reducible assumption) ?z; (case z => walk_at "cr.das")))
/-- H0 to H -/
local macro_rules | `(tactic| walk_at "cr.sm") => `(tactic| with_reducible first
  | exact L2.Same.refl _
  | with_reducible assumption
  | (refine' L2.Same.trans ?z (Cr.same_new (by with_reducible assumption)); (case z => walk_at "cr.sm"))
  | (refine' L2.Same.trans ?z (by with_reducible assumption); (case z => walk_at "cr.sm"))
  | (refine' Cr.same_mut ?z (by walk_at "cr.fr"); (case z => walk_at "cr.sm")))
/-- H p = none, from a later heap -/
local macro_rules | `(tactic| walk_at "cr.fr") => `(tactic| with_reducible first
  | with_reducible assumption
  | (refine' Cr.free_on (by with_reducible assumption) ?z; (case z => walk_at "cr.sm")))
/-- what stands at an address -/
local macro_rules | `(tactic| walk_at "cr.at") => `(tactic| with_reducible first
  | with_reducible assumption
  | exact L2.upd_same
  | (refine' Eq.trans (L2.upd_ne (by walk_at "cr.ne")) ?z; (case z => walk_at "cr.at"))
  | (refine' Cr.at_same (by with_reducible assumption) ?z; (case z => walk_at "cr.at"))
  | (refine' Cr.But.oth (by with_reducible assumption) _ _ (by walk_at "cr.ne") ?z; (case z => walk_at "cr.at"))
  | (refine' Cr.Oth.oth (by with_reducible assumption) _ _ (by walk_at "cr.ne") ?z; (case z => walk_at "cr.at")))
local macro_rules | `(tactic| walk_at "cr.ne") => `(tactic| with_reducible first
  | with_reducible assumption
  | exact Ne.symm (by with_reducible assumption)
  | (refine' Cr.Bag.ne1' (by with_reducible assumption) ?z; (case z => with_reducible assumption))
  | (refine' Cr.Bag.ne2' (by with_reducible assumption) ?z; (case z => with_reducible assumption))
  | (refine' Ne.symm (Cr.Bag.ne1' (by with_reducible assumption) ?z); (case z => with_reducible assumption))
  | (refine' Ne.symm (Cr.Bag.ne2' (by with_reducible assumption) ?z); (case z => with_reducible assumption))
  | (refine' Cr.Bag.ne1' (by with_reducible assumption) ?z; (case z => walk_at "cr.bag"))
  | (refine' Cr.Bag.ne2' (by with_reducible assumption) ?z; (case z => walk_at "cr.bag"))
  | (refine' Cr.ne_on (by with_reducible assumption) ?z; (case z => walk_at "cr.at"))
  | (refine' Ne.symm (Cr.ne_on (by with_reducible assumption) ?z); (case z => walk_at "cr.at")))
local macro_rules | `(tactic| walk_at "cr.bag") => `(tactic| with_reducible first
  | with_reducible assumption
  | (refine' Cr.Bag.new ?z (by with_reducible assumption); (case z => walk_at "cr.bag"))
  | (refine' Cr.Bag.same (by with_reducible assumption) ?z; (case z => walk_at "cr.bag"))
  | (refine' Cr.Oth.bag (by with_reducible assumption) (by with_reducible assumption) (by with_reducible assumption) ?z; (case z => walk_at "cr.bag"))
  | (refine' Cr.Bag.upd ?z (by walk_at "cr.ne") (by walk_at "cr.ne"); (case z => walk_at "cr.bag")))
/-- all but the bag -/
local macro_rules | `(tactic| walk_at "cr.but") => `(tactic| with_reducible first
  | with_reducible assumption
  | (refine' Cr.But.same ?z (Cr.same_new (by with_reducible assumption)); (case z => walk_at "cr.but"))
  | (refine' Cr.But.trans ?z (by with_reducible assumption); (case z => walk_at "cr.but"))
  | (refine' Cr.But.same ?z (by with_reducible assumption); (case z => walk_at "cr.but"))
  | exact Cr.But.ofSame (by with_reducible assumption) (L2.Same.refl _)
  | (refine' Cr.but_mut ?z (by walk_at "cr.fr"); (case z => walk_at "cr.but")))
local macro_rules | `(tactic| walk_at "cr.size") => `(tactic| first
  | exact Cr.size2
  | exact Cr.size1
  | exact Cr.size3
  | exact Cr.size4
  | exact Cr.size_le (by with_unfolding_all decide)
  | exact Cr.size_le (by simp only [List.length_cons, List.length_nil]; omega))
local macro_rules | `(tactic| walk_at "cr.room") => `(tactic| first
  | with_reducible assumption
  | (refine L2.small1000 ?_; (try simp only [List.length_append, List.length_cons, List.length_nil, List.length_reverse, List.length_map, List.length_take, List.length_drop, List.length_set]); omega)
  | (refine Cr.size_le2 ?_; (try simp only [List.length_append, List.length_cons, List.length_nil, List.length_reverse, List.length_map, List.length_take, List.length_drop, List.length_set]); omega))
local macro_rules | `(tactic| walk_at "cr.lst") => `(tactic| with_reducible first
  | with_reducible assumption
  | (refine' L2.SqL.of ?z; (case z => walk_at "cr.at"))
  | (refine' L2.Same.seq (Cr.same_new (by with_reducible assumption)) ?z; (case z => walk_at "cr.lst"))
  | (refine' L2.Same.seq (by with_reducible assumption) ?z; (case z => walk_at "cr.lst")))
local macro_rules | `(tactic| walk_at "cr.sz") => `(tactic| first
  | with_reducible assumption
  | exact Cr.cz_l (by omega) (by omega)
  | exact Cr.cz_r (by omega) (by omega)
  | exact Cr.mz_nd (by walk_at "cr.z") (by walk_at "cr.z")
  | exact Cr.mz_dn (by walk_at "cr.z") (by walk_at "cr.z")
  | exact Cr.mz_nn (by walk_at "cr.z") (by walk_at "cr.z")
  | exact Cr.mz_dd (by walk_at "cr.z") (by walk_at "cr.z"))
local macro_rules | `(tactic| walk_at "cr.z") => `(tactic| first
  | with_reducible assumption
  | exact Cr.Sz.mono (by walk_at "cr.zz") (by decide))
local macro_rules | `(tactic| walk_at "cr.len") => `(tactic| first | (simp only [List.length_cons, List.length_nil]; omega) | (simp only [List.length_append, List.length_cons, List.length_nil, List.length_reverse, List.length_map, List.length_take, List.length_drop, List.length_set]; omega))
local macro_rules | `(tactic| walk_at "cr.items") => `(tactic| (intro v hv; simp only [List.mem_cons, List.not_mem_nil, or_false] at hv; first
  | (rcases hv with rfl | rfl | rfl | rfl | rfl | rfl <;> exact ⟨_, rfl, by omega, by omega⟩)
  | (rcases hv with rfl | rfl | rfl | rfl | rfl <;> exact ⟨_, rfl, by omega, by omega⟩)
  | (rcases hv with rfl | rfl | rfl | rfl <;> exact ⟨_, rfl, by omega, by omega⟩)
  | (rcases hv with rfl | rfl | rfl <;> exact ⟨_, rfl, by omega, by omega⟩)
  | (rcases hv with rfl | rfl <;> exact ⟨_, rfl, by omega, by omega⟩)))
local macro_rules | `(tactic| walk_at "cr.pw") => `(tactic| first
  | with_reducible assumption
  | exact Cr.pw_le (n := 64) (by omega) (by decide))
local macro_rules | `(tactic| walk_at "cr.zz") => `(tactic| with_reducible first
  | with_reducible assumption
  | exact Cr.Sz2.toSz (by with_reducible assumption)
  | exact Cr.divInt_sz (n := 64) (by omega) (by omega) (by omega)
  | (refine' Cr.Sz.add ?zl ?zr; (case zl => walk_at "cr.zz"); (case zr => walk_at "cr.zz"))
  | (refine' Cr.Sz.sub ?zl ?zr; (case zl => walk_at "cr.zz"); (case zr => walk_at "cr.zz"))
  | (refine' Cr.Sz.mul ?zl ?zr; (case zl => walk_at "cr.zz"); (case zr => walk_at "cr.zz"))
  | (refine' Cr.Sz.div ?zl ?zr ?zn; (case zl => walk_at "cr.zz"); (case zr => walk_at "cr.zz"); (case zn => assumption)))
local macro_rules | `(tactic| walk_at "cr.div") => `(tactic| first
  | with_reducible assumption
  | exact Cr.dz_sm (by omega) (by omega))
local macro_rules | `(tactic| walk_at "cr.fz") => `(tactic| with_reducible first
  | with_reducible assumption
  | (refine' Cr.Fz.mono (Cr.kt_new (by with_reducible assumption)) ?z; (case z => walk_at "cr.fz"))
  | (refine' Cr.Fz.mono (Cr.kt_mut (by with_reducible assumption) rfl) ?z; (case z => walk_at "cr.fz"))
  | (refine' Cr.Fz.mono (Cr.kt_same (by with_reducible assumption)) ?z; (case z => walk_at "cr.fz"))
  | (refine' Cr.Fz.mono (Cr.kt_but (by with_reducible assumption)) ?z; (case z => walk_at "cr.fz"))
  | (refine' Cr.Fz.mono (by with_reducible assumption) ?z; (case z => walk_at "cr.fz")))
local macro_rules | `(tactic| walk_at "cr.till") => `(tactic| with_reducible first
  | with_reducible assumption)
/-- one step of a reading -/
local macro_rules | `(tactic| walk_at "cr.s") => `(tactic| with_reducible first
  | refine Cr.s_seq ?_
  | refine Cr.s_asg ?_
  | refine Cr.s_op ?_
  | refine Cr.s_v0 ?_
  | refine Cr.s_g0 ?_
  | refine Cr.s_v1 ?_
  | refine Cr.s_g1 ?_
  | refine Cr.s_v2 ?_
  | refine Cr.s_g2 ?_
  | refine Cr.s_v3 ?_
  | refine Cr.s_g3 ?_
  | refine Cr.s_v4 ?_
  | refine Cr.s_g4 ?_
  | refine Cr.s_v5 ?_
  | refine Cr.s_g5 ?_
  | refine Cr.s_v6 ?_
  | refine Cr.s_g6 ?_
  | refine Cr.s_v7 ?_
  | refine Cr.s_g7 ?_
  | refine Cr.s_v8 ?_
  | refine Cr.s_g8 ?_
  | refine Cr.s_v9 ?_
  | refine Cr.s_g9 ?_
  | refine Cr.s_v10 ?_
  | refine Cr.s_g10 ?_
  | refine Cr.s_v11 ?_
  | refine Cr.s_g11 ?_
  | refine Cr.s_v12 ?_
  | refine Cr.s_g12 ?_
  | refine Cr.s_v13 ?_
  | refine Cr.s_g13 ?_
  | refine Cr.s_v14 ?_
  | refine Cr.s_g14 ?_
  | refine Cr.s_v15 ?_
  | refine Cr.s_g15 ?_
  | refine Cr.s_v16 ?_
  | refine Cr.s_g16 ?_
  | refine Cr.s_v17 ?_
  | refine Cr.s_g17 ?_
  | refine Cr.s_c ?_
  | refine Cr.s_ret ?_
  | refine Cr.s_if ?_
  | refine Cr.s_test ?_
  | refine Cr.s_tru ?_
  | refine Cr.s_B ?_
  | refine Cr.s_isB ?_
  | refine Cr.s_truI ?_
  | refine Cr.s_truB ?_
  | refine Cr.s_call ?_
  | refine Cr.s_callS ?_
  | refine Cr.s_callN ?_
  | (refine' Cr.s_lens ?k1 ?k2 ?_; (case k1 => with_unfolding_all rfl); (case k2 => with_unfolding_all rfl))
  | refine Cr.s_cons ?_
  | refine Cr.s_nil ?_
  | refine Cr.s_cb ?_
  | refine Cr.s_tup ?_
  | refine Cr.s_lst ?_
  | (refine Cr.s_par ?_; (try simp only [List.set_cons_zero, List.set_cons_succ]))
  | refine Cr.s_un ?_
  | refine Cr.s_drop ?_
  | refine Cr.s_next ?_
  | refine Cr.s_brk ?_
  | refine Cr.s_cont ?_
  | refine Cr.s_retN ?_
  | refine Cr.s_ifE ?_
  | refine Cr.s_and ?_
  | refine Cr.s_or ?_
  | refine Cr.s_not ?_
  | refine Cr.s_andV ?_
  | refine Cr.s_orV ?_
  | refine Cr.s_notV ?_
  | refine Cr.s_chain ?_
  | refine Cr.s_itT ?_
  | refine Cr.s_itF ?_
  | refine Cr.s_itNT ?_
  | refine Cr.s_itNF ?_
  | refine Cr.s_gsub ?_
  | refine Cr.s_addI ?_
  | refine Cr.s_subI ?_
  | refine Cr.s_negI ?_
  | refine Cr.s_ltI ?_
  | refine Cr.s_leI ?_
  | refine Cr.s_gtI ?_
  | refine Cr.s_geI ?_
  | (refine' Cr.s_eqSS ?k1 ?_; (case k1 => first | with_reducible assumption | with_unfolding_all decide +kernel))
  | (refine' Cr.s_neSS ?k1 ?_; (case k1 => first | with_reducible assumption | with_unfolding_all decide +kernel))
  | (refine' Cr.s_eqS ?k1 ?k2 ?_; (case k1 => first | with_reducible assumption | with_unfolding_all decide +kernel); (case k2 => first | with_reducible assumption | with_unfolding_all decide +kernel))
  | (refine' Cr.s_neS ?k1 ?k2 ?_; (case k1 => first | with_reducible assumption | with_unfolding_all decide +kernel); (case k2 => first | with_reducible assumption | with_unfolding_all decide +kernel))
  | refine Cr.s_neII ?_
  | refine Cr.s_eqII ?_
  | refine Cr.s_eqI ?_
  | refine Cr.s_neI ?_
  | refine Cr.s_eqBB ?_
  | refine Cr.s_neBB ?_
  | refine Cr.s_neFT ?_
  | refine Cr.s_neTF ?_
  | refine Cr.s_eqFT ?_
  | refine Cr.s_eqTF ?_
  | refine Cr.s_eqB ?_
  | refine Cr.s_neB ?_
  | refine Cr.s_abs ?_
  | refine Cr.s_max ?_
  | refine Cr.s_min ?_
  | refine Cr.s_isII ?_
  | refine Cr.s_isIB ?_
  | refine Cr.s_isBI ?_
  | refine Cr.s_isBB ?_
  | (refine' Cr.s_isTT ?k1 ?_; (case k1 => with_reducible walk_at "cr.dt"))
  | (refine' Cr.s_ixF0 ?k1 ?_; (case k1 => with_reducible walk_at "cr.dt"))
  | (refine' Cr.s_ixF1 ?k1 ?_; (case k1 => with_reducible walk_at "cr.dt"))
  | (refine' Cr.s_ixT0 ?k1 ?_; (case k1 => with_reducible walk_at "cr.dt"); intro v hv; first | (have ev := Cr.Dt.int_eq hv; subst ev) | (have ev := Cr.Dt.str_eq hv; subst ev) | (have ev := Cr.Dt.bl_eq hv; subst ev) | skip)
  | (refine' Cr.s_ixL0 ?k1 ?_; (case k1 => with_reducible walk_at "cr.lst"))
  | (refine' Cr.s_setL0 ?k1 ?_; (case k1 => with_reducible walk_at "cr.at"))
  | (refine' Cr.s_ixT1 ?k1 ?_; (case k1 => with_reducible walk_at "cr.dt"); intro v hv; first | (have ev := Cr.Dt.int_eq hv; subst ev) | (have ev := Cr.Dt.str_eq hv; subst ev) | (have ev := Cr.Dt.bl_eq hv; subst ev) | skip)
  | (refine' Cr.s_ixL1 ?k1 ?_; (case k1 => with_reducible walk_at "cr.lst"))
  | (refine' Cr.s_setL1 ?k1 ?_; (case k1 => with_reducible walk_at "cr.at"))
  | (refine' Cr.s_ixT2 ?k1 ?_; (case k1 => with_reducible walk_at "cr.dt"); intro v hv; first | (have ev := Cr.Dt.int_eq hv; subst ev) | (have ev := Cr.Dt.str_eq hv; subst ev) | (have ev := Cr.Dt.bl_eq hv; subst ev) | skip)
  | (refine' Cr.s_ixL2 ?k1 ?_; (case k1 => with_reducible walk_at "cr.lst"))
  | (refine' Cr.s_setL2 ?k1 ?_; (case k1 => with_reducible walk_at "cr.at"))
  | (refine' Cr.s_ixT3 ?k1 ?_; (case k1 => with_reducible walk_at "cr.dt"); intro v hv; first | (have ev := Cr.Dt.int_eq hv; subst ev) | (have ev := Cr.Dt.str_eq hv; subst ev) | (have ev := Cr.Dt.bl_eq hv; subst ev) | skip)
  | (refine' Cr.s_ixL3 ?k1 ?_; (case k1 => with_reducible walk_at "cr.lst"))
  | (refine' Cr.s_setL3 ?k1 ?_; (case k1 => with_reducible walk_at "cr.at"))
  | (refine' Cr.s_ixT4 ?k1 ?_; (case k1 => with_reducible walk_at "cr.dt"); intro v hv; first | (have ev := Cr.Dt.int_eq hv; subst ev) | (have ev := Cr.Dt.str_eq hv; subst ev) | (have ev := Cr.Dt.bl_eq hv; subst ev) | skip)
  | (refine' Cr.s_ixL4 ?k1 ?_; (case k1 => with_reducible walk_at "cr.lst"))
  | (refine' Cr.s_setL4 ?k1 ?_; (case k1 => with_reducible walk_at "cr.at"))
  | (refine' Cr.s_ixT5 ?k1 ?_; (case k1 => with_reducible walk_at "cr.dt"); intro v hv; first | (have ev := Cr.Dt.int_eq hv; subst ev) | (have ev := Cr.Dt.str_eq hv; subst ev) | (have ev := Cr.Dt.bl_eq hv; subst ev) | skip)
  | (refine' Cr.s_ixL5 ?k1 ?_; (case k1 => with_reducible walk_at "cr.lst"))
  | (refine' Cr.s_setL5 ?k1 ?_; (case k1 => with_reducible walk_at "cr.at"))
  | (refine' Cr.s_ixR0 ?k1 ?_; (case k1 => with_reducible walk_at "cr.at"))
  | (refine' Cr.s_ixR1 ?k1 ?_; (case k1 => with_reducible walk_at "cr.at"))
  | (refine' Cr.s_ixR2 ?k1 ?_; (case k1 => with_reducible walk_at "cr.at"))
  | (refine' Cr.s_ixR3 ?k1 ?_; (case k1 => with_reducible walk_at "cr.at"))
  | (refine' Cr.s_addT1 ?k1 ?k2 ?k4 ?k5 ?_; (case k1 => with_reducible walk_at "cr.dt"); (case k2 => with_reducible walk_at "cr.dt"); (case k4 => exact List.cons_ne_nil _ _); (case k5 => walk_at "cr.len"); intro v H' hs hd)
  | (refine' Cr.s_addTG ?k1 ?k2 ?k3 ?k5 ?_; (case k1 => with_reducible walk_at "cr.dt"); (case k2 => with_reducible walk_at "cr.dt"); (case k3 => first | with_reducible assumption | exact List.cons_ne_nil _ _); (case k5 => first | with_reducible assumption | walk_at "cr.len"); intro v H' hs hd; (try simp only [List.cons_append, List.nil_append] at hd))
  | (refine' Cr.s_ixL ?k1 ?k2 ?_; (case k1 => with_reducible walk_at "cr.lst"); (case k2 => with_reducible assumption))
  | (refine' Cr.s_setL ?k1 ?k2 ?_; (case k1 => with_reducible walk_at "cr.at"); (case k2 => assumption))
  | (refine' Cr.s_lenT ?k1 ?_; (case k1 => with_reducible walk_at "cr.dt"))
  | (refine' Cr.s_lenL ?k1 ?_; (case k1 => with_reducible walk_at "cr.lst"))
  | (refine' Cr.s_mulI ?k1 ?_; (case k1 => with_reducible walk_at "cr.sz"))
  | (refine' Cr.s_divI ?k1 ?_; (case k1 => with_reducible walk_at "cr.div"))
  | (refine' Cr.s_modI ?k1 ?_; (case k1 => first | with_reducible assumption | omega))
  | refine Cr.s_pow2 ?_
  | refine Cr.s_pow3 ?_
  | refine Cr.s_pow4 ?_
  | refine Cr.s_pow5 ?_
  | refine Cr.s_pow6 ?_
  | refine Cr.s_pow7 ?_
  | refine Cr.s_pow8 ?_
  | refine Cr.s_pow9 ?_
  | refine Cr.s_pow10 ?_
  | refine Cr.s_pow12 ?_
  | (refine' Cr.s_powI ?k1 ?_; (case k1 => with_unfolding_all exact ⟨by decide, by decide, by decide⟩))
  | (refine' Cr.s_eqFF ?k1 ?k2 ?_; (case k1 => with_reducible walk_at "cr.dt"); (case k2 => with_reducible walk_at "cr.dt"))
  | (refine' Cr.s_neFF ?k1 ?k2 ?_; (case k1 => with_reducible walk_at "cr.dt"); (case k2 => with_reducible walk_at "cr.dt"))
  | (refine' Cr.s_eqD2 ?k1 ?k2 ?_; (case k1 => with_reducible walk_at "cr.dt"); (case k2 => with_reducible walk_at "cr.dt"))
  | (refine' Cr.s_neD2 ?k1 ?k2 ?_; (case k1 => with_reducible walk_at "cr.dt"); (case k2 => with_reducible walk_at "cr.dt"))
  | (refine' Cr.s_eqPf ?k1 ?k2 ?k3 ?_; (case k1 => with_reducible walk_at "cr.dt"); (case k2 => with_reducible walk_at "cr.dt"); (case k3 => with_reducible assumption))
  | (refine' Cr.s_nePf ?k1 ?k2 ?k3 ?_; (case k1 => with_reducible walk_at "cr.dt"); (case k2 => with_reducible walk_at "cr.dt"); (case k3 => with_reducible assumption))
  | (refine' Cr.s_gtup ?k1 ?k2 ?_; (case k1 => with_reducible walk_at "cr.dt"); (case k2 => with_unfolding_all rfl); intro xs hxs)
  | (refine' Cr.s_gcons ?k1 ?_; (case k1 => with_reducible walk_at "cr.das"); intro v r hv hr; first | (have ev := Cr.Dt.int_eq hv; subst ev) | (have ev := Cr.Dt.str_eq hv; subst ev) | (have ev := Cr.Dt.bl_eq hv; subst ev) | skip)
  | (refine' Cr.s_gnil ?k1 ?_; (case k1 => with_reducible walk_at "cr.das"))
  | (refine' Cr.s_truL ?k1 ?_; (case k1 => with_reducible walk_at "cr.lst"))
  | refine Cr.s_isBb ?_
  | refine Cr.s_ntBb ?_
  | (refine' Cr.s_ixLm1 ?k1 ?k2 ?_; (case k1 => with_reducible walk_at "cr.lst"); (case k2 => with_reducible assumption))
  | refine Cr.s_isBl ?_
  | refine Cr.s_ntBl ?_
  | (refine' Cr.s_tupL ?k1 ?k2 ?_; (case k1 => with_reducible walk_at "cr.lst"); (case k2 => with_reducible walk_at "cr.das"); intro v H' hs hd)
  | (refine' Cr.s_tupT ?k1 ?_; (case k1 => with_reducible walk_at "cr.dt"))
  | (refine' Cr.s_listT ?k1 ?_; (case k1 => with_reducible walk_at "cr.dt"); intro l ys H' hs nl hl hd)
  | (refine' Cr.s_ixT6 ?k1 ?_; (case k1 => with_reducible walk_at "cr.dt"); intro v hv; first | (have ev := Cr.Dt.int_eq hv; subst ev) | (have ev := Cr.Dt.str_eq hv; subst ev) | (have ev := Cr.Dt.bl_eq hv; subst ev) | skip)
  | (refine' Cr.s_ixT7 ?k1 ?_; (case k1 => with_reducible walk_at "cr.dt"); intro v hv; first | (have ev := Cr.Dt.int_eq hv; subst ev) | (have ev := Cr.Dt.str_eq hv; subst ev) | (have ev := Cr.Dt.bl_eq hv; subst ev) | skip)
  | (refine' Cr.s_ixT8 ?k1 ?_; (case k1 => with_reducible walk_at "cr.dt"); intro v hv; first | (have ev := Cr.Dt.int_eq hv; subst ev) | (have ev := Cr.Dt.str_eq hv; subst ev) | (have ev := Cr.Dt.bl_eq hv; subst ev) | skip)
  | (refine' Cr.s_ixT9 ?k1 ?_; (case k1 => with_reducible walk_at "cr.dt"); intro v hv; first | (have ev := Cr.Dt.int_eq hv; subst ev) | (have ev := Cr.Dt.str_eq hv; subst ev) | (have ev := Cr.Dt.bl_eq hv; subst ev) | skip)
  | (refine' Cr.s_ixT10 ?k1 ?_; (case k1 => with_reducible walk_at "cr.dt"); intro v hv; first | (have ev := Cr.Dt.int_eq hv; subst ev) | (have ev := Cr.Dt.str_eq hv; subst ev) | (have ev := Cr.Dt.bl_eq hv; subst ev) | skip)
  | (refine' Cr.s_ixTm1 ?k1 ?k2 ?_; (case k1 => with_reducible walk_at "cr.dt"); (case k2 => exact Cr.last10); intro v hv; first | (have ev := Cr.Dt.int_eq hv; subst ev) | (have ev := Cr.Dt.str_eq hv; subst ev) | (have ev := Cr.Dt.bl_eq hv; subst ev) | skip)
  | refine Cr.s_m1 ?_
  | refine Cr.s_isStr ?_
  | refine Cr.s_iStr ?_
  | refine Cr.s_isIts ?_
  | (refine' Cr.s_join ?k1 ?k2 ?_; (case k1 => with_reducible walk_at "cr.lst"); (case k2 => with_reducible assumption))
  | (refine' Cr.s_abc ?k1 ?k2 ?_; (case k1 => omega); (case k2 => omega); intro c hc0 hc1)
  | refine Cr.s_inW1 ?_
  | refine Cr.s_inW2 ?_
  | refine Cr.s_inW3 ?_
  | refine Cr.s_inW4 ?_
  | refine Cr.s_inW5 ?_
  | refine Cr.s_inW6 ?_
  | refine Cr.s_inW7 ?_
  | refine Cr.s_inW8 ?_
  | refine Cr.s_inW9 ?_
  | refine Cr.s_inW10 ?_
  | refine Cr.s_inW11 ?_
  | refine Cr.s_inW12 ?_
  | (refine' Cr.s_inS ?k1 ?_; (case k1 => with_reducible walk_at "cr.lst"))
  | (refine' Cr.s_ntInS ?k1 ?_; (case k1 => with_reducible walk_at "cr.lst"))
  | (refine' Cr.s_slShi ?k1 ?k2 ?_; (case k1 => with_reducible assumption); (case k2 => omega))
  | (refine' Cr.s_slSlo ?k1 ?k2 ?_; (case k1 => with_reducible assumption); (case k2 => omega))
  | (refine' Cr.s_addS ?k1 ?_; (case k1 => with_reducible assumption))
  | refine Cr.s_dget2 ?_
  | refine Cr.s_dput ?_
  | (refine' Cr.s_getA ?k1 ?_; (case k1 => with_reducible walk_at "cr.at"))
  | (refine' Cr.s_getBS ?k1 ?_; (case k1 => with_reducible walk_at "cr.at"))
  | (refine' Cr.s_getBI ?k1 ?_; (case k1 => with_reducible walk_at "cr.at"))
  | (refine' Cr.s_putS ?k1 ?k2 ?_; (case k1 => with_reducible walk_at "cr.at"); (case k2 => with_reducible assumption))
  | (refine' Cr.s_fld1 ?k1 ?k2 ?k3 ?_; (case k1 => with_reducible walk_at "cr.at"); (case k2 => with_reducible assumption); (case k3 => with_reducible assumption))
  | (refine' Cr.s_meth1 ?k1 ?k2 ?_; (case k1 => with_reducible walk_at "cr.at"); (case k2 => with_unfolding_all decide +kernel))
  | refine Cr.s_dinV ?_
  | (refine Cr.s_disp ?_; intro p hp)
  | refine Cr.s_pairs ?_
  | refine Cr.s_pairs0 ?_
  | (refine' Cr.s_dispS ?k1 ?_; (case k1 => with_reducible walk_at "cr.at"))
  | (refine' Cr.s_dinS ?k1 ?_; (case k1 => with_reducible walk_at "cr.at"))
  | refine Cr.s_dgetV ?_
  | refine Cr.s_lv ?_
  | (refine Cr.s_dnewT ?_; intro p hp)
  | (refine Cr.s_dnewK ?_; intro p hp)
  | (refine' Cr.s_dinF ?k1 ?k2 ?_; (case k1 => with_reducible walk_at "cr.fz"); (case k2 => with_reducible walk_at "cr.at"))
  | (refine' Cr.s_dgetF ?k1 ?k2 ?k3 ?_; (case k1 => with_reducible walk_at "cr.fz"); (case k2 => with_reducible walk_at "cr.at"); (case k3 => with_reducible assumption))
  | (refine' Cr.s_putF ?k1 ?k2 ?k3 ?_; (case k1 => with_reducible walk_at "cr.fz"); (case k2 => with_reducible walk_at "cr.at"); (case k3 => with_reducible assumption))
  | (refine' Cr.s_lvT ?k1 ?_; (case k1 => with_reducible walk_at "cr.at"); intro l hl)
  | (refine' Cr.s_lvK ?k1 ?_; (case k1 => with_reducible walk_at "cr.at"); intro l hl)
  | (refine' Cr.s_insert ?k1 ?k2 ?k3 ?k4 ?_; (case k1 => with_reducible walk_at "cr.at"); (case k2 => walk_at "cr.room"); (case k3 => omega); (case k4 => omega))
  | (refine' Cr.s_aug ?k1 ?_; (case k1 => with_unfolding_all rfl))
  | refine Cr.s_ipAdd ?_
  | refine Cr.s_ipSub ?_
  | refine Cr.s_isNN ?_
  | refine Cr.s_ntNN ?_
  | refine Cr.s_neNN ?_
  | refine Cr.s_eqNN ?_
  | refine Cr.s_isRN ?_
  | refine Cr.s_ntRN ?_
  | (refine' Cr.s_isFN ?k1 ?_; (case k1 => with_reducible walk_at "cr.dt"))
  | (refine' Cr.s_ntFN ?k1 ?_; (case k1 => with_reducible walk_at "cr.dt"))
  | (refine' Cr.s_isTN ?k1 ?_; (case k1 => with_reducible walk_at "cr.dt"))
  | (refine' Cr.s_ntTN ?k1 ?_; (case k1 => with_reducible walk_at "cr.dt"))
  | refine Cr.s_lc ?_
  | refine Cr.s_intT ?_
  | refine Cr.s_intF ?_
  | (refine' Cr.s_intBt ?k1 ?_; (case k1 => with_reducible assumption))
  | (refine' Cr.s_intBf ?k1 ?_; (case k1 => with_reducible assumption))
  | refine Cr.s_intB ?_
  | refine Cr.s_intI ?_
  | (refine' Cr.s_eqFt ?k1 ?k2 ?k3 ?_; (case k1 => with_reducible walk_at "cr.dt"); (case k2 => with_reducible walk_at "cr.dt"); (case k3 => with_reducible assumption))
  | (refine' Cr.s_eqFf ?k1 ?k2 ?k3 ?_; (case k1 => with_reducible walk_at "cr.dt"); (case k2 => with_reducible walk_at "cr.dt"); (case k3 => with_reducible assumption))
  | (refine' Cr.s_neFt ?k1 ?k2 ?k3 ?_; (case k1 => with_reducible walk_at "cr.dt"); (case k2 => with_reducible walk_at "cr.dt"); (case k3 => with_reducible assumption))
  | (refine' Cr.s_neFf ?k1 ?k2 ?k3 ?_; (case k1 => with_reducible walk_at "cr.dt"); (case k2 => with_reducible walk_at "cr.dt"); (case k3 => with_reducible assumption))
  | (refine' Cr.s_eqF ?k1 ?k2 ?_; (case k1 => with_reducible walk_at "cr.dt"); (case k2 => with_reducible walk_at "cr.dt"))
  | (refine' Cr.s_neF ?k1 ?k2 ?_; (case k1 => with_reducible walk_at "cr.dt"); (case k2 => with_reducible walk_at "cr.dt"))
  | (refine' Cr.s_newT ?k1 ?_; (case k1 => with_reducible walk_at "cr.size"); intro p hp)
  | (refine' Cr.s_newL ?k1 ?_; (case k1 => with_reducible walk_at "cr.size"); intro p hp)
  | refine Cr.s_for ?_
  | refine Cr.s_iList ?_
  | refine Cr.s_rng1 ?_
  | refine Cr.s_fld ?_
  | refine Cr.s_meth ?_
  | refine Cr.s_make ?_
  | (refine' Cr.s_worth ?k1 ?k2 ?k3 ?_; (case k1 => with_reducible walk_at "cr.lot"); (case k2 => with_reducible assumption); (case k3 => with_reducible assumption); intro x hx)
  | (refine' Cr.s_mark ?k1 ?k2 ?k3 ?_; (case k1 => with_reducible walk_at "cr.lot"); (case k2 => with_reducible assumption); (case k3 => with_reducible assumption); intro x hx)
  | (refine' Cr.s_mlot ?k1 ?k2 ?k3 ?_; (case k1 => with_reducible walk_at "cr.lot"); (case k2 => with_unfolding_all decide +kernel); (case k3 => with_unfolding_all decide +kernel))
  | (refine' Cr.s_append ?k1 ?k2 ?_; (case k1 => with_reducible walk_at "cr.at"); (case k2 => walk_at "cr.room"))
  | (refine' Cr.s_addL ?k1 ?k2 ?k3 ?_; (case k1 => with_reducible walk_at "cr.at"); (case k2 => with_reducible walk_at "cr.at"); (case k3 => walk_at "cr.room"); intro p hp)
  | refine Cr.s_sl ?_
  | refine Cr.s_revL ?_
  | (refine' Cr.s_isRev ?k1 ?_; (case k1 => with_reducible walk_at "cr.lst"); intro p hp)
  | refine Cr.s_noPart ?_
  | refine Cr.s_part ?_
  | refine Cr.s_isI ?_
  | refine Cr.s_app ?_
  | (refine' Cr.s_isL ?k1 ?_; (case k1 => with_reducible walk_at "cr.lst"))
  | (refine' Cr.s_tyL ?k1 ?_; (case k1 => with_reducible walk_at "cr.lst"))
  | (refine' Cr.s_isR1 ?k1 ?k2 ?_; (case k1 => omega); (case k2 => omega))
  | (refine' Cr.s_slL ?k1 ?_; (case k1 => with_reducible walk_at "cr.lst"); intro p hp)
  | (refine' Cr.s_listL ?k1 ?_; (case k1 => with_reducible walk_at "cr.lst"); intro p hp)
  | (refine' Cr.s_kinT ?k1 ?_; (case k1 => with_reducible assumption))
  | (refine' Cr.s_kinF ?k1 ?_; (case k1 => with_reducible assumption))
  | (refine' Cr.s_kntinT ?k1 ?_; (case k1 => with_reducible assumption))
  | (refine' Cr.s_kntinF ?k1 ?_; (case k1 => with_reducible assumption))
  | (refine' Cr.s_slA ?k1 ?k2 ?_; (case k1 => with_reducible walk_at "cr.dt"); (case k2 => omega); intro v H' hs hd)
  | (refine' Cr.s_isLL ?k1 ?_; (case k1 => with_reducible walk_at "cr.at"))
  | refine Cr.s_isSS ?_
  | refine Cr.s_isSI ?_
  | refine Cr.s_isST ?_
  | refine Cr.s_isIS ?_
  | refine Cr.s_isIT ?_
  | refine Cr.s_isNT ?_
  | refine Cr.s_isNI ?_
  | (refine' Cr.s_isTI ?k1 ?_; (case k1 => with_reducible walk_at "cr.dt"))
  | refine Cr.s_callNS ?_
  | refine Cr.s_fldW ?_
  | refine Cr.s_dc ?_
  | (refine' Cr.s_dictD ?k1 ?_; (case k1 => with_reducible walk_at "cr.at"); intro p hp)
  | (refine' Cr.s_lenD ?k1 ?_; (case k1 => with_reducible walk_at "cr.at"))
  | refine Cr.s_dpop1 ?_
  | refine Cr.s_fldaug ?_
  | refine Cr.s_sortKT ?_
  | refine Cr.s_xf ?_
  | refine Cr.s_mkO ?_
  | refine Cr.s_inSign ?_
  | (refine' Cr.s_truTc ?k1 ?_; (case k1 => with_reducible walk_at "cr.dt"))
  | (refine' Cr.s_lenS ?k1 ?_; (case k1 => with_reducible assumption))
  | refine Cr.s_gc ?_
  | refine Cr.s_gn ?_
  | refine Cr.s_iEnumT ?_
  | refine Cr.s_sk ?_
  | refine Cr.s_iTup ?_
  | (refine' Cr.s_lenK ?k1 ?_; (case k1 => with_reducible walk_at "cr.at"))
  | refine Cr.s_var (by with_unfolding_all rfl) ?_
  | refine Cr.s_gname ?_
  | walk_at "cr.call")
local macro_rules | `(tactic| walk_at "cr.go") => `(tactic| repeat (walk_at "cr.s"))
/-- the slots as a written list -/
local macro_rules | `(tactic| walk_at "cr.n") => `(tactic| (try simp only [Cr.sets, L2.wipe, List.foldl_cons, List.foldl_nil, List.set_cons_zero, List.set_cons_succ]))
local macro_rules | `(tactic| walk_at "cr.k") => `(tactic| ((try simp only [Cr.cxK0, Cr.cxK1]); (try simp only [L2.start, List.map_cons, List.map_nil, List.length_cons, List.length_nil, List.cons_append, List.nil_append, Nat.reduceAdd, Nat.reduceSub, List.reduceReplicate, List.replicate, Nat.zero_add]); walk_at "cr.go"))

namespace Cr
open PySem PySem.Spec PyProof.Rows L2 L2.DX LamX
section

def topS (i : Nat) : Stmt := PySem.Challenge.pw_crestpool_k47_entering.main.body.getD i (.Pass ⟨0, 0, 0, 0⟩)
abbrev s_TillU_initU : Stmt := inClass (topS 49) 0
theorem sc_TillU_initU : FnScope ["self"] ["self"] (defScope s_TillU_initU) := ⟨rfl, rfl, rfl, by decide +kernel, rfl, by decide +kernel, by decide +kernel⟩
abbrev s_BookU_initU : Stmt := inClass (topS 72) 0
theorem sc_BookU_initU : FnScope ["self", "most"] ["self", "most"] (defScope s_BookU_initU) := ⟨rfl, rfl, rfl, by decide +kernel, rfl, by decide +kernel, by decide +kernel⟩
abbrev s_BookU_lenU : Stmt := inClass (topS 72) 1
theorem sc_BookU_lenU : FnScope ["self"] ["self"] (defScope s_BookU_lenU) := ⟨rfl, rfl, rfl, by decide +kernel, rfl, by decide +kernel, by decide +kernel⟩
abbrev s_FullU_initU : Stmt := inClass (topS 7) 0
theorem sc_FullU_initU : FnScope ["self", "most"] ["self", "most"] (defScope s_FullU_initU) := ⟨rfl, rfl, rfl, by decide +kernel, rfl, by decide +kernel, by decide +kernel⟩
abbrev s_BadEntryU_initU : Stmt := inClass (topS 3) 0
theorem sc_BadEntryU_initU : FnScope ["self", "at"] ["self", "at"] (defScope s_BadEntryU_initU) := ⟨rfl, rfl, rfl, by decide +kernel, rfl, by decide +kernel, by decide +kernel⟩
abbrev s_is_name : Stmt := topS 18
theorem sc_is_name : FnScope ["one", "sign"] ["one"] (defScope s_is_name) := ⟨rfl, rfl, rfl, by decide +kernel, rfl, by decide +kernel, by decide +kernel⟩
abbrev s_is_whole : Stmt := topS 19
theorem sc_is_whole : FnScope ["one", "least", "most"] ["one", "least", "most"] (defScope s_is_whole) := ⟨rfl, rfl, rfl, by decide +kernel, rfl, by decide +kernel, by decide +kernel⟩
abbrev s_is_day : Stmt := topS 20
theorem sc_is_day : FnScope ["one"] ["one"] (defScope s_is_day) := ⟨rfl, rfl, rfl, by decide +kernel, rfl, by decide +kernel, by decide +kernel⟩
abbrev s_is_price : Stmt := topS 21
theorem sc_is_price : FnScope ["one"] ["one"] (defScope s_is_price) := ⟨rfl, rfl, rfl, by decide +kernel, rfl, by decide +kernel, by decide +kernel⟩
abbrev s_is_sum : Stmt := topS 22
theorem sc_is_sum : FnScope ["one"] ["one"] (defScope s_is_sum) := ⟨rfl, rfl, rfl, by decide +kernel, rfl, by decide +kernel, by decide +kernel⟩
abbrev s_is_parts : Stmt := topS 23
theorem sc_is_parts : FnScope ["one"] ["one"] (defScope s_is_parts) := ⟨rfl, rfl, rfl, by decide +kernel, rfl, by decide +kernel, by decide +kernel⟩
abbrev s_is_rate : Stmt := topS 24
theorem sc_is_rate : FnScope ["one"] ["one"] (defScope s_is_rate) := ⟨rfl, rfl, rfl, by decide +kernel, rfl, by decide +kernel, by decide +kernel⟩
abbrev s_is_levy : Stmt := topS 25
theorem sc_is_levy : FnScope ["one"] ["one"] (defScope s_is_levy) := ⟨rfl, rfl, rfl, by decide +kernel, rfl, by decide +kernel, by decide +kernel⟩
abbrev s_is_pair : Stmt := topS 26
theorem sc_is_pair : FnScope ["one"] ["one"] (defScope s_is_pair) := ⟨rfl, rfl, rfl, by decide +kernel, rfl, by decide +kernel, by decide +kernel⟩
abbrev s_is_pairs : Stmt := topS 27
theorem sc_is_pairs : FnScope ["some", "one", "thing", "count"] ["some"] (defScope s_is_pairs) := ⟨rfl, rfl, rfl, by decide +kernel, rfl, by decide +kernel, by decide +kernel⟩
abbrev s_checked : Stmt := topS 30
theorem sc_checked : FnScope ["entry", "kind", "rest", "at", "look"] ["entry"] (defScope s_checked) := ⟨rfl, rfl, rfl, by decide +kernel, rfl, by decide +kernel, by decide +kernel⟩
abbrev s_TwiceU_initU : Stmt := inClass (topS 6) 0
theorem sc_TwiceU_initU : FnScope ["self", "number"] ["self", "number"] (defScope s_TwiceU_initU) := ⟨rfl, rfl, rfl, by decide +kernel, rfl, by decide +kernel, by decide +kernel⟩
abbrev s_slot : Stmt := topS 31
theorem sc_slot : FnScope ["entry"] ["entry"] (defScope s_slot) := ⟨rfl, rfl, rfl, by decide +kernel, rfl, by decide +kernel, by decide +kernel⟩
abbrev s_Book_free : Stmt := inClass (topS 72) 5
theorem sc_Book_free : FnScope ["self", "entry", "number", "mine", "other"] ["self", "entry", "number"] (defScope s_Book_free) := ⟨rfl, rfl, rfl, by decide +kernel, rfl, by decide +kernel, by decide +kernel⟩
abbrev s_Book_put : Stmt := inClass (topS 72) 6
theorem sc_Book_put : FnScope ["self", "entry", "number"] ["self", "entry"] (defScope s_Book_put) := ⟨rfl, rfl, rfl, by decide +kernel, rfl, by decide +kernel, by decide +kernel⟩
abbrev s_Book_granted : Stmt := inClass (topS 72) 7
theorem sc_Book_granted : FnScope ["self", "before"] ["self", "before"] (defScope s_Book_granted) := ⟨rfl, rfl, rfl, by decide +kernel, rfl, by decide +kernel, by decide +kernel⟩
abbrev s_Book_enter : Stmt := inClass (topS 72) 8
theorem sc_Book_enter : FnScope ["self", "entry", "before", "number"] ["self", "entry"] (defScope s_Book_enter) := ⟨rfl, rfl, rfl, by decide +kernel, rfl, by decide +kernel, by decide +kernel⟩
abbrev s_Book_turns : Stmt := inClass (topS 72) 16
theorem sc_Book_turns : FnScope ["self"] ["self"] (defScope s_Book_turns) := ⟨rfl, rfl, rfl, by decide +kernel, rfl, by decide +kernel, by decide +kernel⟩
abbrev s_NoTurnU_initU : Stmt := inClass (topS 10) 0
theorem sc_NoTurnU_initU : FnScope ["self", "turn"] ["self", "turn"] (defScope s_NoTurnU_initU) := ⟨rfl, rfl, rfl, by decide +kernel, rfl, by decide +kernel, by decide +kernel⟩
abbrev s_Book_known : Stmt := inClass (topS 72) 17
theorem sc_Book_known : FnScope ["self", "turn"] ["self", "turn"] (defScope s_Book_known) := ⟨rfl, rfl, rfl, by decide +kernel, rfl, by decide +kernel, by decide +kernel⟩
abbrev s_Book_entries : Stmt := inClass (topS 72) 18
theorem sc_Book_entries : FnScope ["self", "turn", "number", "entry"] ["self", "turn"] (defScope s_Book_entries) := ⟨rfl, rfl, rfl, by decide +kernel, rfl, by decide +kernel, by decide +kernel⟩
abbrev s_Till_twin : Stmt := inClass (topS 49) 4
theorem sc_Till_twin : FnScope ["self", "other"] ["self"] (defScope s_Till_twin) := ⟨rfl, rfl, rfl, by decide +kernel, rfl, by decide +kernel, by decide +kernel⟩
abbrev s_Book_twin : Stmt := inClass (topS 72) 28
theorem sc_Book_twin : FnScope ["self", "other", "rows"] ["self"] (defScope s_Book_twin) := ⟨rfl, rfl, rfl, by decide +kernel, rfl, by decide +kernel, by decide +kernel⟩
abbrev s__law_bag : Stmt := topS 75
theorem sc__law_bag : FnScope ["_law_script", "_law_salt", "_law_cell"] ["_law_script"] (defScope s__law_bag) := ⟨rfl, rfl, rfl, by decide +kernel, rfl, by decide +kernel, by decide +kernel⟩
abbrev s__law_pull : Stmt := topS 76
theorem sc__law_pull : FnScope ["_law_bag_here", "_law_many", "_law_found", "_law_cell"] ["_law_bag_here", "_law_many"] (defScope s__law_pull) := ⟨rfl, rfl, rfl, by decide +kernel, rfl, by decide +kernel, by decide +kernel⟩
abbrev s__law_name : Stmt := topS 77
theorem sc__law_name : FnScope ["_law_bag_here", "_law_size", "_law_k"] ["_law_bag_here"] (defScope s__law_name) := ⟨rfl, rfl, rfl, by decide +kernel, rfl, by decide +kernel, by decide +kernel⟩
abbrev s__law_names : Stmt := topS 78
theorem sc__law_names : FnScope ["_law_bag_here", "_law_many", "_law_found", "_law_k", "_law_name_here", "_law_sign"] ["_law_bag_here", "_law_many"] (defScope s__law_names) := ⟨rfl, rfl, rfl, by decide +kernel, rfl, by decide +kernel, by decide +kernel⟩
abbrev s__law_wide : Stmt := topS 79
theorem sc__law_wide : FnScope ["_law_bag_here", "_law_many", "_law_low"] ["_law_bag_here", "_law_many"] (defScope s__law_wide) := ⟨rfl, rfl, rfl, by decide +kernel, rfl, by decide +kernel, by decide +kernel⟩
abbrev s__law_pennies : Stmt := topS 80
theorem sc__law_pennies : FnScope ["_law_bag_here"] ["_law_bag_here"] (defScope s__law_pennies) := ⟨rfl, rfl, rfl, by decide +kernel, rfl, by decide +kernel, by decide +kernel⟩
abbrev s__law_price : Stmt := topS 81
theorem sc__law_price : FnScope ["_law_bag_here"] ["_law_bag_here"] (defScope s__law_price) := ⟨rfl, rfl, rfl, by decide +kernel, rfl, by decide +kernel, by decide +kernel⟩
abbrev s__law_pairs : Stmt := topS 82
theorem sc__law_pairs : FnScope ["_law_bag_here", "_law_things", "_law_found", "_law_thing"] ["_law_bag_here", "_law_things"] (defScope s__law_pairs) := ⟨rfl, rfl, rfl, by decide +kernel, rfl, by decide +kernel, by decide +kernel⟩
abbrev s__law_entry : Stmt := topS 83
theorem sc__law_entry : FnScope ["_law_bag_here", "_law_holders", "_law_things", "_law_last", "_law_menu", "_law_kind", "_law_date", "_law_at", "_law_thing", "_law_cents", "_law_other"] ["_law_bag_here", "_law_holders", "_law_things", "_law_last"] (defScope s__law_entry) := ⟨rfl, rfl, rfl, by decide +kernel, rfl, by decide +kernel, by decide +kernel⟩
abbrev s__law_try : Stmt := topS 84
theorem sc__law_try : FnScope ["_law_book", "_law_entry_here", "_law_told", "e"] ["_law_book", "_law_entry_here"] (defScope s__law_try) := ⟨rfl, rfl, rfl, by decide +kernel, rfl, by decide +kernel, by decide +kernel⟩
abbrev s__law_slot : Stmt := topS 74
theorem sc__law_slot : FnScope ["_law_row"] ["_law_row"] (defScope s__law_slot) := ⟨rfl, rfl, rfl, by decide +kernel, rfl, by decide +kernel, by decide +kernel⟩
abbrev s__law_due : Stmt := topS 85
theorem sc__law_due : FnScope ["_law_rows", "_law_many", "_law_entry_here", "_law_bad", "_law_number", "_law_one"] ["_law_rows", "_law_many", "_law_entry_here", "_law_bad", "_law_number"] (defScope s__law_due) := ⟨rfl, rfl, rfl, by decide +kernel, rfl, by decide +kernel, by decide +kernel⟩
abbrev s_law : Stmt := topS 86
theorem sc_law : FnScope ["_law_script", "_law_bag_here", "_law_holders", "_law_things", "_law_many", "_law_book", "_law_rows", "_law_k", "_law_entry_here", "_law_bad", "_law_due_here", "_law_found", "_law_one"] ["_law_script"] (defScope s_law) := ⟨rfl, rfl, rfl, by decide +kernel, rfl, by decide +kernel, by decide +kernel⟩
/-- what the top has left -/
structure Top (w : World) (K : PySem.W.Frag) (mg : Str → Option Value) where
  n_len : mg "len" = none
  n_all : mg "all" = none
  n_isinstance : mg "isinstance" = none
  n_str : mg "str" = none
  n_bool : mg "bool" = none
  n_int : mg "int" = none
  n_tuple : mg "tuple" = none
  n_enumerate : mg "enumerate" = none
  n_sorted : mg "sorted" = none
  n_dict : mg "dict" = none
  n_list : mg "list" = none
  n_range : mg "range" = none
  t_MOST : Tok
  c_MOST : mg "MOST" = some (.int 60 t_MOST)
  t_LETTERS : Tok
  c_LETTERS : mg "LETTERS" = some (.str "abcdefghijklmnopqrstuvwxyz" t_LETTERS)
  t_LAST : Tok
  c_LAST : mg "LAST" = some (.int 400 t_LAST)
  t_MOST_PRICE : Tok
  c_MOST_PRICE : mg "MOST_PRICE" = some (.int 1000000 t_MOST_PRICE)
  t_MOST_SUM : Tok
  c_MOST_SUM : mg "MOST_SUM" = some (.int 1000000000 t_MOST_SUM)
  t_WHOLE : Tok
  c_WHOLE : mg "WHOLE" = some (.int 10000 t_WHOLE)
  a_FORMS : Addr
  c_FORMS : mg "FORMS" = some (.ref a_FORMS)
  kd_FORMS : ∃ es n, KDict K w a_FORMS es n
  a_SLOTS : Addr
  c_SLOTS : mg "SLOTS" = some (.ref a_SLOTS)
  kd_SLOTS : ∃ es n, KDict K w a_SLOTS es n
  f_TillU_initU : Addr
  fd_TillU_initU : FuncData
  F_TillU_initU : Fun K "__init__" "Till.__init__" s_TillU_initU f_TillU_initU fd_TillU_initU
  b_TillU_initU : Binds K fd_TillU_initU ["self"] []
  k_TillU_initU : PySem.W.keepIn K (.ref f_TillU_initU) = true
  f_BookU_initU : Addr
  fd_BookU_initU : FuncData
  F_BookU_initU : FunD K "__init__" "Book.__init__" (defArgs s_BookU_initU) (defBody s_BookU_initU) (defScope s_BookU_initU) [] [("most", V.int 60)] f_BookU_initU fd_BookU_initU
  k_BookU_initU : PySem.W.keepIn K (.ref f_BookU_initU) = true
  f_BookU_lenU : Addr
  fd_BookU_lenU : FuncData
  F_BookU_lenU : Fun K "__len__" "Book.__len__" s_BookU_lenU f_BookU_lenU fd_BookU_lenU
  b_BookU_lenU : Binds K fd_BookU_lenU ["self"] []
  k_BookU_lenU : PySem.W.keepIn K (.ref f_BookU_lenU) = true
  f_FullU_initU : Addr
  fd_FullU_initU : FuncData
  F_FullU_initU : Fun K "__init__" "Full.__init__" s_FullU_initU f_FullU_initU fd_FullU_initU
  b_FullU_initU : Binds K fd_FullU_initU ["self", "most"] []
  k_FullU_initU : PySem.W.keepIn K (.ref f_FullU_initU) = true
  f_BadEntryU_initU : Addr
  fd_BadEntryU_initU : FuncData
  F_BadEntryU_initU : Fun K "__init__" "BadEntry.__init__" s_BadEntryU_initU f_BadEntryU_initU fd_BadEntryU_initU
  b_BadEntryU_initU : Binds K fd_BadEntryU_initU ["self", "at"] []
  k_BadEntryU_initU : PySem.W.keepIn K (.ref f_BadEntryU_initU) = true
  f_is_name : Addr
  fd_is_name : FuncData
  F_is_name : Fun K "is_name" "is_name" s_is_name f_is_name fd_is_name
  b_is_name : Binds K fd_is_name ["one"] []
  k_is_name : PySem.W.keepIn K (.ref f_is_name) = true
  g_is_name : mg "is_name" = some (.ref f_is_name)
  f_is_whole : Addr
  fd_is_whole : FuncData
  F_is_whole : Fun K "is_whole" "is_whole" s_is_whole f_is_whole fd_is_whole
  b_is_whole : Binds K fd_is_whole ["one", "least", "most"] []
  k_is_whole : PySem.W.keepIn K (.ref f_is_whole) = true
  g_is_whole : mg "is_whole" = some (.ref f_is_whole)
  f_is_day : Addr
  fd_is_day : FuncData
  F_is_day : Fun K "is_day" "is_day" s_is_day f_is_day fd_is_day
  b_is_day : Binds K fd_is_day ["one"] []
  k_is_day : PySem.W.keepIn K (.ref f_is_day) = true
  g_is_day : mg "is_day" = some (.ref f_is_day)
  f_is_price : Addr
  fd_is_price : FuncData
  F_is_price : Fun K "is_price" "is_price" s_is_price f_is_price fd_is_price
  b_is_price : Binds K fd_is_price ["one"] []
  k_is_price : PySem.W.keepIn K (.ref f_is_price) = true
  g_is_price : mg "is_price" = some (.ref f_is_price)
  f_is_sum : Addr
  fd_is_sum : FuncData
  F_is_sum : Fun K "is_sum" "is_sum" s_is_sum f_is_sum fd_is_sum
  b_is_sum : Binds K fd_is_sum ["one"] []
  k_is_sum : PySem.W.keepIn K (.ref f_is_sum) = true
  g_is_sum : mg "is_sum" = some (.ref f_is_sum)
  f_is_parts : Addr
  fd_is_parts : FuncData
  F_is_parts : Fun K "is_parts" "is_parts" s_is_parts f_is_parts fd_is_parts
  b_is_parts : Binds K fd_is_parts ["one"] []
  k_is_parts : PySem.W.keepIn K (.ref f_is_parts) = true
  g_is_parts : mg "is_parts" = some (.ref f_is_parts)
  f_is_rate : Addr
  fd_is_rate : FuncData
  F_is_rate : Fun K "is_rate" "is_rate" s_is_rate f_is_rate fd_is_rate
  b_is_rate : Binds K fd_is_rate ["one"] []
  k_is_rate : PySem.W.keepIn K (.ref f_is_rate) = true
  g_is_rate : mg "is_rate" = some (.ref f_is_rate)
  f_is_levy : Addr
  fd_is_levy : FuncData
  F_is_levy : Fun K "is_levy" "is_levy" s_is_levy f_is_levy fd_is_levy
  b_is_levy : Binds K fd_is_levy ["one"] []
  k_is_levy : PySem.W.keepIn K (.ref f_is_levy) = true
  g_is_levy : mg "is_levy" = some (.ref f_is_levy)
  f_is_pair : Addr
  fd_is_pair : FuncData
  F_is_pair : Fun K "is_pair" "is_pair" s_is_pair f_is_pair fd_is_pair
  b_is_pair : Binds K fd_is_pair ["one"] []
  k_is_pair : PySem.W.keepIn K (.ref f_is_pair) = true
  g_is_pair : mg "is_pair" = some (.ref f_is_pair)
  f_is_pairs : Addr
  fd_is_pairs : FuncData
  F_is_pairs : Fun K "is_pairs" "is_pairs" s_is_pairs f_is_pairs fd_is_pairs
  b_is_pairs : Binds K fd_is_pairs ["some"] []
  k_is_pairs : PySem.W.keepIn K (.ref f_is_pairs) = true
  g_is_pairs : mg "is_pairs" = some (.ref f_is_pairs)
  f_checked : Addr
  fd_checked : FuncData
  F_checked : Fun K "checked" "checked" s_checked f_checked fd_checked
  b_checked : Binds K fd_checked ["entry"] []
  k_checked : PySem.W.keepIn K (.ref f_checked) = true
  g_checked : mg "checked" = some (.ref f_checked)
  f_TwiceU_initU : Addr
  fd_TwiceU_initU : FuncData
  F_TwiceU_initU : Fun K "__init__" "Twice.__init__" s_TwiceU_initU f_TwiceU_initU fd_TwiceU_initU
  b_TwiceU_initU : Binds K fd_TwiceU_initU ["self", "number"] []
  k_TwiceU_initU : PySem.W.keepIn K (.ref f_TwiceU_initU) = true
  f_slot : Addr
  fd_slot : FuncData
  F_slot : Fun K "slot" "slot" s_slot f_slot fd_slot
  b_slot : Binds K fd_slot ["entry"] []
  k_slot : PySem.W.keepIn K (.ref f_slot) = true
  g_slot : mg "slot" = some (.ref f_slot)
  f_Book_free : Addr
  fd_Book_free : FuncData
  F_Book_free : Fun K "free" "Book.free" s_Book_free f_Book_free fd_Book_free
  b_Book_free : Binds K fd_Book_free ["self", "entry", "number"] []
  k_Book_free : PySem.W.keepIn K (.ref f_Book_free) = true
  f_Book_put : Addr
  fd_Book_put : FuncData
  F_Book_put : Fun K "put" "Book.put" s_Book_put f_Book_put fd_Book_put
  b_Book_put : Binds K fd_Book_put ["self", "entry"] []
  k_Book_put : PySem.W.keepIn K (.ref f_Book_put) = true
  f_Book_granted : Addr
  fd_Book_granted : FuncData
  F_Book_granted : Fun K "granted" "Book.granted" s_Book_granted f_Book_granted fd_Book_granted
  b_Book_granted : Binds K fd_Book_granted ["self", "before"] []
  k_Book_granted : PySem.W.keepIn K (.ref f_Book_granted) = true
  f_Book_enter : Addr
  fd_Book_enter : FuncData
  F_Book_enter : Fun K "enter" "Book.enter" s_Book_enter f_Book_enter fd_Book_enter
  b_Book_enter : Binds K fd_Book_enter ["self", "entry"] []
  k_Book_enter : PySem.W.keepIn K (.ref f_Book_enter) = true
  f_Book_turns : Addr
  fd_Book_turns : FuncData
  F_Book_turns : Fun K "turns" "Book.turns" s_Book_turns f_Book_turns fd_Book_turns
  b_Book_turns : Binds K fd_Book_turns ["self"] []
  k_Book_turns : PySem.W.keepIn K (.ref f_Book_turns) = true
  f_NoTurnU_initU : Addr
  fd_NoTurnU_initU : FuncData
  F_NoTurnU_initU : Fun K "__init__" "NoTurn.__init__" s_NoTurnU_initU f_NoTurnU_initU fd_NoTurnU_initU
  b_NoTurnU_initU : Binds K fd_NoTurnU_initU ["self", "turn"] []
  k_NoTurnU_initU : PySem.W.keepIn K (.ref f_NoTurnU_initU) = true
  f_Book_known : Addr
  fd_Book_known : FuncData
  F_Book_known : FunD K "known" "Book.known" (defArgs s_Book_known) (defBody s_Book_known) (defScope s_Book_known) [V.non] [] f_Book_known fd_Book_known
  k_Book_known : PySem.W.keepIn K (.ref f_Book_known) = true
  f_Book_entries : Addr
  fd_Book_entries : FuncData
  F_Book_entries : FunD K "entries" "Book.entries" (defArgs s_Book_entries) (defBody s_Book_entries) (defScope s_Book_entries) [V.non] [] f_Book_entries fd_Book_entries
  k_Book_entries : PySem.W.keepIn K (.ref f_Book_entries) = true
  f_Till_twin : Addr
  fd_Till_twin : FuncData
  F_Till_twin : Fun K "twin" "Till.twin" s_Till_twin f_Till_twin fd_Till_twin
  b_Till_twin : Binds K fd_Till_twin ["self"] []
  k_Till_twin : PySem.W.keepIn K (.ref f_Till_twin) = true
  f_Book_twin : Addr
  fd_Book_twin : FuncData
  F_Book_twin : Fun K "twin" "Book.twin" s_Book_twin f_Book_twin fd_Book_twin
  b_Book_twin : Binds K fd_Book_twin ["self"] []
  k_Book_twin : PySem.W.keepIn K (.ref f_Book_twin) = true
  f__law_bag : Addr
  fd__law_bag : FuncData
  F__law_bag : Fun K "_law_bag" "_law_bag" s__law_bag f__law_bag fd__law_bag
  b__law_bag : Binds K fd__law_bag ["_law_script"] []
  k__law_bag : PySem.W.keepIn K (.ref f__law_bag) = true
  g__law_bag : mg "_law_bag" = some (.ref f__law_bag)
  f__law_pull : Addr
  fd__law_pull : FuncData
  F__law_pull : Fun K "_law_pull" "_law_pull" s__law_pull f__law_pull fd__law_pull
  b__law_pull : Binds K fd__law_pull ["_law_bag_here", "_law_many"] []
  k__law_pull : PySem.W.keepIn K (.ref f__law_pull) = true
  g__law_pull : mg "_law_pull" = some (.ref f__law_pull)
  f__law_name : Addr
  fd__law_name : FuncData
  F__law_name : Fun K "_law_name" "_law_name" s__law_name f__law_name fd__law_name
  b__law_name : Binds K fd__law_name ["_law_bag_here"] []
  k__law_name : PySem.W.keepIn K (.ref f__law_name) = true
  g__law_name : mg "_law_name" = some (.ref f__law_name)
  f__law_names : Addr
  fd__law_names : FuncData
  F__law_names : Fun K "_law_names" "_law_names" s__law_names f__law_names fd__law_names
  b__law_names : Binds K fd__law_names ["_law_bag_here", "_law_many"] []
  k__law_names : PySem.W.keepIn K (.ref f__law_names) = true
  g__law_names : mg "_law_names" = some (.ref f__law_names)
  f__law_wide : Addr
  fd__law_wide : FuncData
  F__law_wide : Fun K "_law_wide" "_law_wide" s__law_wide f__law_wide fd__law_wide
  b__law_wide : Binds K fd__law_wide ["_law_bag_here", "_law_many"] []
  k__law_wide : PySem.W.keepIn K (.ref f__law_wide) = true
  g__law_wide : mg "_law_wide" = some (.ref f__law_wide)
  f__law_pennies : Addr
  fd__law_pennies : FuncData
  F__law_pennies : Fun K "_law_pennies" "_law_pennies" s__law_pennies f__law_pennies fd__law_pennies
  b__law_pennies : Binds K fd__law_pennies ["_law_bag_here"] []
  k__law_pennies : PySem.W.keepIn K (.ref f__law_pennies) = true
  g__law_pennies : mg "_law_pennies" = some (.ref f__law_pennies)
  f__law_price : Addr
  fd__law_price : FuncData
  F__law_price : Fun K "_law_price" "_law_price" s__law_price f__law_price fd__law_price
  b__law_price : Binds K fd__law_price ["_law_bag_here"] []
  k__law_price : PySem.W.keepIn K (.ref f__law_price) = true
  g__law_price : mg "_law_price" = some (.ref f__law_price)
  f__law_pairs : Addr
  fd__law_pairs : FuncData
  F__law_pairs : Fun K "_law_pairs" "_law_pairs" s__law_pairs f__law_pairs fd__law_pairs
  b__law_pairs : Binds K fd__law_pairs ["_law_bag_here", "_law_things"] []
  k__law_pairs : PySem.W.keepIn K (.ref f__law_pairs) = true
  g__law_pairs : mg "_law_pairs" = some (.ref f__law_pairs)
  f__law_entry : Addr
  fd__law_entry : FuncData
  F__law_entry : Fun K "_law_entry" "_law_entry" s__law_entry f__law_entry fd__law_entry
  b__law_entry : Binds K fd__law_entry ["_law_bag_here", "_law_holders", "_law_things", "_law_last"] []
  k__law_entry : PySem.W.keepIn K (.ref f__law_entry) = true
  g__law_entry : mg "_law_entry" = some (.ref f__law_entry)
  f__law_try : Addr
  fd__law_try : FuncData
  F__law_try : Fun K "_law_try" "_law_try" s__law_try f__law_try fd__law_try
  b__law_try : Binds K fd__law_try ["_law_book", "_law_entry_here"] []
  k__law_try : PySem.W.keepIn K (.ref f__law_try) = true
  g__law_try : mg "_law_try" = some (.ref f__law_try)
  f__law_slot : Addr
  fd__law_slot : FuncData
  F__law_slot : Fun K "_law_slot" "_law_slot" s__law_slot f__law_slot fd__law_slot
  b__law_slot : Binds K fd__law_slot ["_law_row"] []
  k__law_slot : PySem.W.keepIn K (.ref f__law_slot) = true
  g__law_slot : mg "_law_slot" = some (.ref f__law_slot)
  f__law_due : Addr
  fd__law_due : FuncData
  F__law_due : Fun K "_law_due" "_law_due" s__law_due f__law_due fd__law_due
  b__law_due : Binds K fd__law_due ["_law_rows", "_law_many", "_law_entry_here", "_law_bad", "_law_number"] []
  k__law_due : PySem.W.keepIn K (.ref f__law_due) = true
  g__law_due : mg "_law_due" = some (.ref f__law_due)
  a_FORMS_price : Addr
  i_FORMS_price : PySem.W.nsIn K a_FORMS "price" = some (some (.ref a_FORMS_price))
  q_FORMS_price : ∀ H, SqT K H a_FORMS_price [.ref f_is_day, .ref f_is_name, .ref f_is_price]
  a_FORMS_mix : Addr
  i_FORMS_mix : PySem.W.nsIn K a_FORMS "mix" = some (some (.ref a_FORMS_mix))
  q_FORMS_mix : ∀ H, SqT K H a_FORMS_mix [.ref f_is_day, .ref f_is_pairs]
  a_FORMS_come : Addr
  i_FORMS_come : PySem.W.nsIn K a_FORMS "come" = some (some (.ref a_FORMS_come))
  q_FORMS_come : ∀ H, SqT K H a_FORMS_come [.ref f_is_day, .ref f_is_name, .ref f_is_sum]
  a_FORMS_go : Addr
  i_FORMS_go : PySem.W.nsIn K a_FORMS "go" = some (some (.ref a_FORMS_go))
  q_FORMS_go : ∀ H, SqT K H a_FORMS_go [.ref f_is_day, .ref f_is_name, .ref f_is_parts]
  a_FORMS_draw : Addr
  i_FORMS_draw : PySem.W.nsIn K a_FORMS "draw" = some (some (.ref a_FORMS_draw))
  q_FORMS_draw : ∀ H, SqT K H a_FORMS_draw [.ref f_is_day, .ref f_is_name, .ref f_is_sum]
  a_FORMS_give : Addr
  i_FORMS_give : PySem.W.nsIn K a_FORMS "give" = some (some (.ref a_FORMS_give))
  q_FORMS_give : ∀ H, SqT K H a_FORMS_give [.ref f_is_day, .ref f_is_name, .ref f_is_name, .ref f_is_parts]
  a_FORMS_rate : Addr
  i_FORMS_rate : PySem.W.nsIn K a_FORMS "rate" = some (some (.ref a_FORMS_rate))
  q_FORMS_rate : ∀ H, SqT K H a_FORMS_rate [.ref f_is_day, .ref f_is_rate]
  a_FORMS_harvest : Addr
  i_FORMS_harvest : PySem.W.nsIn K a_FORMS "harvest" = some (some (.ref a_FORMS_harvest))
  q_FORMS_harvest : ∀ H, SqT K H a_FORMS_harvest [.ref f_is_day]
  a_FORMS_aside : Addr
  i_FORMS_aside : PySem.W.nsIn K a_FORMS "aside" = some (some (.ref a_FORMS_aside))
  q_FORMS_aside : ∀ H, SqT K H a_FORMS_aside [.ref f_is_day, .ref f_is_name]
  a_FORMS_home : Addr
  i_FORMS_home : PySem.W.nsIn K a_FORMS "home" = some (some (.ref a_FORMS_home))
  q_FORMS_home : ∀ H, SqT K H a_FORMS_home [.ref f_is_day, .ref f_is_name]
  a_FORMS_levy : Addr
  i_FORMS_levy : PySem.W.nsIn K a_FORMS "levy" = some (some (.ref a_FORMS_levy))
  q_FORMS_levy : ∀ H, SqT K H a_FORMS_levy [.ref f_is_day, .ref f_is_levy]
  a_FORMS_hurdle : Addr
  i_FORMS_hurdle : PySem.W.nsIn K a_FORMS "hurdle" = some (some (.ref a_FORMS_hurdle))
  q_FORMS_hurdle : ∀ H, SqT K H a_FORMS_hurdle [.ref f_is_day, .ref f_is_parts]
  i_SLOTS_price : ∃ t, PySem.W.nsIn K a_SLOTS "price" = some (some (.int 3 t))
  i_SLOTS_aside : ∃ t, PySem.W.nsIn K a_SLOTS "aside" = some (some (.int 3 t))
  i_SLOTS_home : ∃ t, PySem.W.nsIn K a_SLOTS "home" = some (some (.int 3 t))
  i_SLOTS_mix : ∃ t, PySem.W.nsIn K a_SLOTS "mix" = some (some (.int 2 t))
  i_SLOTS_rate : ∃ t, PySem.W.nsIn K a_SLOTS "rate" = some (some (.int 2 t))
  i_SLOTS_harvest : ∃ t, PySem.W.nsIn K a_SLOTS "harvest" = some (some (.int 2 t))
  i_SLOTS_levy : ∃ t, PySem.W.nsIn K a_SLOTS "levy" = some (some (.int 2 t))
  i_SLOTS_hurdle : ∃ t, PySem.W.nsIn K a_SLOTS "hurdle" = some (some (.int 2 t))
  i_SLOTS_come : PySem.W.nsIn K a_SLOTS "come" = some none
  i_SLOTS_go : PySem.W.nsIn K a_SLOTS "go" = some none
  i_SLOTS_draw : PySem.W.nsIn K a_SLOTS "draw" = some none
  i_SLOTS_give : PySem.W.nsIn K a_SLOTS "give" = some none
  C_Till : Addr
  c_Till : mg "Till" = some (.ref C_Till)
  cl_Till : Cls K C_Till
  na_Till_sums : NoAttr K C_Till "sums"
  M_Till : Mk K C_Till f_TillU_initU
  m_Till_twin : Meth K C_Till "twin" f_Till_twin
  C_Book : Addr
  c_Book : mg "Book" = some (.ref C_Book)
  cl_Book : Cls K C_Book
  na_Book_most : NoAttr K C_Book "most"
  na_Book_rows : NoAttr K C_Book "rows"
  na_Book_next_number : NoAttr K C_Book "next_number"
  na_Book_past : NoAttr K C_Book "past"
  na_Book_done : NoAttr K C_Book "done"
  na_Book_undone : NoAttr K C_Book "undone"
  na_Book_till : NoAttr K C_Book "till"
  na_Book_closed : NoAttr K C_Book "closed"
  M_Book : Mk K C_Book f_BookU_initU
  m_BookU_lenU : Meth K C_Book "__len__" f_BookU_lenU
  m_Book_free : Meth K C_Book "free" f_Book_free
  m_Book_put : Meth K C_Book "put" f_Book_put
  m_Book_granted : Meth K C_Book "granted" f_Book_granted
  m_Book_enter : Meth K C_Book "enter" f_Book_enter
  m_Book_turns : Meth K C_Book "turns" f_Book_turns
  m_Book_known : Meth K C_Book "known" f_Book_known
  m_Book_entries : Meth K C_Book "entries" f_Book_entries
  m_Book_twin : Meth K C_Book "twin" f_Book_twin
  C_Full : Addr
  c_Full : mg "Full" = some (.ref C_Full)
  oe_Full : OexG K C_Full
  mk_Full : Makes K C_Full f_FullU_initU
  na_Full : PySem.W.findIn K (.ref C_Full) "most" = some none
  C_BadEntry : Addr
  c_BadEntry : mg "BadEntry" = some (.ref C_BadEntry)
  oe_BadEntry : OexG K C_BadEntry
  mk_BadEntry : Makes K C_BadEntry f_BadEntryU_initU
  na_BadEntry : PySem.W.findIn K (.ref C_BadEntry) "at" = some none
  C_Twice : Addr
  c_Twice : mg "Twice" = some (.ref C_Twice)
  oe_Twice : OexG K C_Twice
  mk_Twice : Makes K C_Twice f_TwiceU_initU
  na_Twice : PySem.W.findIn K (.ref C_Twice) "number" = some none
  C_NoTurn : Addr
  c_NoTurn : mg "NoTurn" = some (.ref C_NoTurn)
  oe_NoTurn : OexG K C_NoTurn
  mk_NoTurn : Makes K C_NoTurn f_NoTurnU_initU
  na_NoTurn : PySem.W.findIn K (.ref C_NoTurn) "turn" = some none
  tc : Addr
  tP : Addr
  tcode : fd_Book_known.code = .ref tc
  kq_tyBadEntry : PySem.W.typeIn K (.ref C_BadEntry) = some (.type "type")
  kq_exmBadEntry : PySem.W.exmOne K (.ref C_BadEntry) (.ref C_BadEntry) = some true
  kq_tyTwice : PySem.W.typeIn K (.ref C_Twice) = some (.type "type")
  kq_exmTwice : PySem.W.exmOne K (.ref C_Twice) (.ref C_Twice) = some true
  kq_tyFull : PySem.W.typeIn K (.ref C_Full) = some (.type "type")
  kq_exmFull : PySem.W.exmOne K (.ref C_Full) (.ref C_Full) = some true
  kq_tyNoTurn : PySem.W.typeIn K (.ref C_NoTurn) = some (.type "type")
  kq_exmNoTurn : PySem.W.exmOne K (.ref C_NoTurn) (.ref C_NoTurn) = some true
  kq_exFB : PySem.W.exmOne K (.ref C_Full) (.ref C_BadEntry) = some false
  kq_exTB : PySem.W.exmOne K (.ref C_Twice) (.ref C_BadEntry) = some false
  kq_exTF : PySem.W.exmOne K (.ref C_Twice) (.ref C_Full) = some false
section
variable {w : World} {K : PySem.W.Frag} {mg : Str → Option Value}
theorem bi_Book_known_2 (T : Top w K mg) : ∃ ds, Vals [] ds ∧ Binds K T.fd_Book_known ["self", "turn"] ds :=
  T.F_Book_known.binds1 2 1 (by simp) rfl fun _ _ _ _ _ _ _ us its h1 h2 => match us, its, h1, h2 with | [_, _], [_], _, _ => ⟨_, rfl, rfl⟩
theorem bi_BookU_initU_1 (T : Top w K mg) : ∃ ds, Vals [V.int 60] ds ∧ Binds K T.fd_BookU_initU ["self", "most"] ds :=
  T.F_BookU_initU.binds0 1 (by simp) rfl fun _ _ _ _ _ _ us ks h1 h2 => match us, ks, h1, h2 with | [_], [_], _, _ => ⟨_, _, _, _, _, _, rfl, rfl, rfl⟩
theorem bi_Book_entries_1 (T : Top w K mg) : ∃ ds, Vals [V.non] ds ∧ Binds K T.fd_Book_entries ["self", "turn"] ds :=
  T.F_Book_entries.binds1 1 0 (by simp) rfl fun _ _ _ _ _ _ _ us its h1 h2 => match us, its, h1, h2 with | [_], [_], _, _ => ⟨_, rfl, rfl⟩
theorem bi_Book_known_1 (T : Top w K mg) : ∃ ds, Vals [V.non] ds ∧ Binds K T.fd_Book_known ["self", "turn"] ds :=
  T.F_Book_known.binds1 1 0 (by simp) rfl fun _ _ _ _ _ _ _ us its h1 h2 => match us, its, h1, h2 with | [_], [_], _, _ => ⟨_, rfl, rfl⟩
theorem kt_BookU_initU_1_most (T : Top w K mg) : ∃ mv : List Value, KBn K T.fd_BookU_initU ["self", "most"] 1 ["most"] (fun us ws => (List.drop 0 us).take 1 ++ ((List.drop 0 ws).take 1)) (fun us ws => (List.drop 0 us).take 1 ++ ((List.drop 0 ws).take 1)) :=
  FunD.kbinds0 T.F_BookU_initU 1 ["most"] [] (fun us mv ws => (List.drop 0 us).take 1 ++ ((List.drop 0 ws).take 1)) (by simp) (by simp) (fun r1 r4 r3 => (((r1.drop 0).take 1).append ((r3.drop 0).take 1))) fun _ _ _ _ _ _ us mv ws h1 h2 h3 => match us, mv, ws, h1, h2, h3 with | [_], [], [_], _, _, _ => rfl
end
section
open He
def dd_TillU_initU : DefD := ⟨("Till", some "__init__"), "__init__", "Till.__init__", defArgs s_TillU_initU, defBody s_TillU_initU, defScope s_TillU_initU, [], []⟩
def dd_BookU_initU : DefD := ⟨("Book", some "__init__"), "__init__", "Book.__init__", defArgs s_BookU_initU, defBody s_BookU_initU, defScope s_BookU_initU, [], [("most", .int 60)]⟩
def dd_BookU_lenU : DefD := ⟨("Book", some "__len__"), "__len__", "Book.__len__", defArgs s_BookU_lenU, defBody s_BookU_lenU, defScope s_BookU_lenU, [], []⟩
def dd_FullU_initU : DefD := ⟨("Full", some "__init__"), "__init__", "Full.__init__", defArgs s_FullU_initU, defBody s_FullU_initU, defScope s_FullU_initU, [], []⟩
def dd_BadEntryU_initU : DefD := ⟨("BadEntry", some "__init__"), "__init__", "BadEntry.__init__", defArgs s_BadEntryU_initU, defBody s_BadEntryU_initU, defScope s_BadEntryU_initU, [], []⟩
def dd_is_name : DefD := ⟨("is_name", none), "is_name", "is_name", defArgs s_is_name, defBody s_is_name, defScope s_is_name, [], []⟩
def dd_is_whole : DefD := ⟨("is_whole", none), "is_whole", "is_whole", defArgs s_is_whole, defBody s_is_whole, defScope s_is_whole, [], []⟩
def dd_is_day : DefD := ⟨("is_day", none), "is_day", "is_day", defArgs s_is_day, defBody s_is_day, defScope s_is_day, [], []⟩
def dd_is_price : DefD := ⟨("is_price", none), "is_price", "is_price", defArgs s_is_price, defBody s_is_price, defScope s_is_price, [], []⟩
def dd_is_sum : DefD := ⟨("is_sum", none), "is_sum", "is_sum", defArgs s_is_sum, defBody s_is_sum, defScope s_is_sum, [], []⟩
def dd_is_parts : DefD := ⟨("is_parts", none), "is_parts", "is_parts", defArgs s_is_parts, defBody s_is_parts, defScope s_is_parts, [], []⟩
def dd_is_rate : DefD := ⟨("is_rate", none), "is_rate", "is_rate", defArgs s_is_rate, defBody s_is_rate, defScope s_is_rate, [], []⟩
def dd_is_levy : DefD := ⟨("is_levy", none), "is_levy", "is_levy", defArgs s_is_levy, defBody s_is_levy, defScope s_is_levy, [], []⟩
def dd_is_pair : DefD := ⟨("is_pair", none), "is_pair", "is_pair", defArgs s_is_pair, defBody s_is_pair, defScope s_is_pair, [], []⟩
def dd_is_pairs : DefD := ⟨("is_pairs", none), "is_pairs", "is_pairs", defArgs s_is_pairs, defBody s_is_pairs, defScope s_is_pairs, [], []⟩
def dd_checked : DefD := ⟨("checked", none), "checked", "checked", defArgs s_checked, defBody s_checked, defScope s_checked, [], []⟩
def dd_TwiceU_initU : DefD := ⟨("Twice", some "__init__"), "__init__", "Twice.__init__", defArgs s_TwiceU_initU, defBody s_TwiceU_initU, defScope s_TwiceU_initU, [], []⟩
def dd_slot : DefD := ⟨("slot", none), "slot", "slot", defArgs s_slot, defBody s_slot, defScope s_slot, [], []⟩
def dd_Book_free : DefD := ⟨("Book", some "free"), "free", "Book.free", defArgs s_Book_free, defBody s_Book_free, defScope s_Book_free, [], []⟩
def dd_Book_put : DefD := ⟨("Book", some "put"), "put", "Book.put", defArgs s_Book_put, defBody s_Book_put, defScope s_Book_put, [], []⟩
def dd_Book_granted : DefD := ⟨("Book", some "granted"), "granted", "Book.granted", defArgs s_Book_granted, defBody s_Book_granted, defScope s_Book_granted, [], []⟩
def dd_Book_enter : DefD := ⟨("Book", some "enter"), "enter", "Book.enter", defArgs s_Book_enter, defBody s_Book_enter, defScope s_Book_enter, [], []⟩
def dd_Book_turns : DefD := ⟨("Book", some "turns"), "turns", "Book.turns", defArgs s_Book_turns, defBody s_Book_turns, defScope s_Book_turns, [], []⟩
def dd_NoTurnU_initU : DefD := ⟨("NoTurn", some "__init__"), "__init__", "NoTurn.__init__", defArgs s_NoTurnU_initU, defBody s_NoTurnU_initU, defScope s_NoTurnU_initU, [], []⟩
def dd_Book_known : DefD := ⟨("Book", some "known"), "known", "Book.known", defArgs s_Book_known, defBody s_Book_known, defScope s_Book_known, [.non], []⟩
def dd_Book_entries : DefD := ⟨("Book", some "entries"), "entries", "Book.entries", defArgs s_Book_entries, defBody s_Book_entries, defScope s_Book_entries, [.non], []⟩
def dd_Till_twin : DefD := ⟨("Till", some "twin"), "twin", "Till.twin", defArgs s_Till_twin, defBody s_Till_twin, defScope s_Till_twin, [], []⟩
def dd_Book_twin : DefD := ⟨("Book", some "twin"), "twin", "Book.twin", defArgs s_Book_twin, defBody s_Book_twin, defScope s_Book_twin, [], []⟩
def dd__law_bag : DefD := ⟨("_law_bag", none), "_law_bag", "_law_bag", defArgs s__law_bag, defBody s__law_bag, defScope s__law_bag, [], []⟩
def dd__law_pull : DefD := ⟨("_law_pull", none), "_law_pull", "_law_pull", defArgs s__law_pull, defBody s__law_pull, defScope s__law_pull, [], []⟩
def dd__law_name : DefD := ⟨("_law_name", none), "_law_name", "_law_name", defArgs s__law_name, defBody s__law_name, defScope s__law_name, [], []⟩
def dd__law_names : DefD := ⟨("_law_names", none), "_law_names", "_law_names", defArgs s__law_names, defBody s__law_names, defScope s__law_names, [], []⟩
def dd__law_wide : DefD := ⟨("_law_wide", none), "_law_wide", "_law_wide", defArgs s__law_wide, defBody s__law_wide, defScope s__law_wide, [], []⟩
def dd__law_pennies : DefD := ⟨("_law_pennies", none), "_law_pennies", "_law_pennies", defArgs s__law_pennies, defBody s__law_pennies, defScope s__law_pennies, [], []⟩
def dd__law_price : DefD := ⟨("_law_price", none), "_law_price", "_law_price", defArgs s__law_price, defBody s__law_price, defScope s__law_price, [], []⟩
def dd__law_pairs : DefD := ⟨("_law_pairs", none), "_law_pairs", "_law_pairs", defArgs s__law_pairs, defBody s__law_pairs, defScope s__law_pairs, [], []⟩
def dd__law_entry : DefD := ⟨("_law_entry", none), "_law_entry", "_law_entry", defArgs s__law_entry, defBody s__law_entry, defScope s__law_entry, [], []⟩
def dd__law_try : DefD := ⟨("_law_try", none), "_law_try", "_law_try", defArgs s__law_try, defBody s__law_try, defScope s__law_try, [], []⟩
def dd__law_slot : DefD := ⟨("_law_slot", none), "_law_slot", "_law_slot", defArgs s__law_slot, defBody s__law_slot, defScope s__law_slot, [], []⟩
def dd__law_due : DefD := ⟨("_law_due", none), "_law_due", "_law_due", defArgs s__law_due, defBody s__law_due, defScope s__law_due, [], []⟩
def dd_law : DefD := ⟨("law", none), "law", "law", defArgs s_law, defBody s_law, defScope s_law, [], []⟩
def e_0 (K : PySem.W.Frag) : Bool := decide (PySem.W.nsIn K mainGlobals "len" = some none)
def e_1 (K : PySem.W.Frag) : Bool := decide (PySem.W.nsIn K mainGlobals "all" = some none)
def e_2 (K : PySem.W.Frag) : Bool := decide (PySem.W.nsIn K mainGlobals "isinstance" = some none)
def e_3 (K : PySem.W.Frag) : Bool := decide (PySem.W.nsIn K mainGlobals "str" = some none)
def e_4 (K : PySem.W.Frag) : Bool := decide (PySem.W.nsIn K mainGlobals "bool" = some none)
def e_5 (K : PySem.W.Frag) : Bool := decide (PySem.W.nsIn K mainGlobals "int" = some none)
def e_6 (K : PySem.W.Frag) : Bool := decide (PySem.W.nsIn K mainGlobals "tuple" = some none)
def e_7 (K : PySem.W.Frag) : Bool := decide (PySem.W.nsIn K mainGlobals "enumerate" = some none)
def e_8 (K : PySem.W.Frag) : Bool := decide (PySem.W.nsIn K mainGlobals "sorted" = some none)
def e_9 (K : PySem.W.Frag) : Bool := decide (PySem.W.nsIn K mainGlobals "dict" = some none)
def e_10 (K : PySem.W.Frag) : Bool := decide (PySem.W.nsIn K mainGlobals "list" = some none)
def e_11 (K : PySem.W.Frag) : Bool := decide (PySem.W.nsIn K mainGlobals "range" = some none)
def e_12 (K : PySem.W.Frag) : Bool := intB K mainGlobals "MOST" 60
def e_13 (K : PySem.W.Frag) : Bool := strB K mainGlobals "LETTERS" "abcdefghijklmnopqrstuvwxyz"
def e_14 (K : PySem.W.Frag) : Bool := intB K mainGlobals "LAST" 400
def e_15 (K : PySem.W.Frag) : Bool := intB K mainGlobals "MOST_PRICE" 1000000
def e_16 (K : PySem.W.Frag) : Bool := intB K mainGlobals "MOST_SUM" 1000000000
def e_17 (K : PySem.W.Frag) : Bool := intB K mainGlobals "WHOLE" 10000
def e_18 (K : PySem.W.Frag) : Bool := decide (PySem.W.nsIn K mainGlobals "FORMS" = some (some (.ref (He.ga K "FORMS"))))
def e_19 (K : PySem.W.Frag) : Bool := decide (PySem.W.nsIn K mainGlobals "SLOTS" = some (some (.ref (He.ga K "SLOTS"))))
def e_20 (K : PySem.W.Frag) : Bool := decide (PySem.W.typeIn K (.ref (He.ga K "BadEntry")) = some (.type "type"))
def e_21 (K : PySem.W.Frag) : Bool := decide (PySem.W.exmOne K (.ref (He.ga K "BadEntry")) (.ref (He.ga K "BadEntry")) = some true)
def e_22 (K : PySem.W.Frag) : Bool := decide (PySem.W.typeIn K (.ref (He.ga K "Twice")) = some (.type "type"))
def e_23 (K : PySem.W.Frag) : Bool := decide (PySem.W.exmOne K (.ref (He.ga K "Twice")) (.ref (He.ga K "Twice")) = some true)
def e_24 (K : PySem.W.Frag) : Bool := decide (PySem.W.typeIn K (.ref (He.ga K "Full")) = some (.type "type"))
def e_25 (K : PySem.W.Frag) : Bool := decide (PySem.W.exmOne K (.ref (He.ga K "Full")) (.ref (He.ga K "Full")) = some true)
def e_26 (K : PySem.W.Frag) : Bool := decide (PySem.W.typeIn K (.ref (He.ga K "NoTurn")) = some (.type "type"))
def e_27 (K : PySem.W.Frag) : Bool := decide (PySem.W.exmOne K (.ref (He.ga K "NoTurn")) (.ref (He.ga K "NoTurn")) = some true)
def e_28 (K : PySem.W.Frag) : Bool := decide (PySem.W.exmOne K (.ref (He.ga K "Full")) (.ref (He.ga K "BadEntry")) = some false)
def e_29 (K : PySem.W.Frag) : Bool := decide (PySem.W.exmOne K (.ref (He.ga K "Twice")) (.ref (He.ga K "BadEntry")) = some false)
def e_30 (K : PySem.W.Frag) : Bool := decide (PySem.W.exmOne K (.ref (He.ga K "Twice")) (.ref (He.ga K "Full")) = some false)
def e_31 (K : PySem.W.Frag) : Bool := decide (PySem.W.nsIn K mainGlobals "is_name" = some (some (.ref (He.ga K "is_name"))))
def e_32 (K : PySem.W.Frag) : Bool := decide (PySem.W.nsIn K mainGlobals "is_whole" = some (some (.ref (He.ga K "is_whole"))))
def e_33 (K : PySem.W.Frag) : Bool := decide (PySem.W.nsIn K mainGlobals "is_day" = some (some (.ref (He.ga K "is_day"))))
def e_34 (K : PySem.W.Frag) : Bool := decide (PySem.W.nsIn K mainGlobals "is_price" = some (some (.ref (He.ga K "is_price"))))
def e_35 (K : PySem.W.Frag) : Bool := decide (PySem.W.nsIn K mainGlobals "is_sum" = some (some (.ref (He.ga K "is_sum"))))
def e_36 (K : PySem.W.Frag) : Bool := decide (PySem.W.nsIn K mainGlobals "is_parts" = some (some (.ref (He.ga K "is_parts"))))
def e_37 (K : PySem.W.Frag) : Bool := decide (PySem.W.nsIn K mainGlobals "is_rate" = some (some (.ref (He.ga K "is_rate"))))
def e_38 (K : PySem.W.Frag) : Bool := decide (PySem.W.nsIn K mainGlobals "is_levy" = some (some (.ref (He.ga K "is_levy"))))
def e_39 (K : PySem.W.Frag) : Bool := decide (PySem.W.nsIn K mainGlobals "is_pair" = some (some (.ref (He.ga K "is_pair"))))
def e_40 (K : PySem.W.Frag) : Bool := decide (PySem.W.nsIn K mainGlobals "is_pairs" = some (some (.ref (He.ga K "is_pairs"))))
def e_41 (K : PySem.W.Frag) : Bool := decide (PySem.W.nsIn K mainGlobals "checked" = some (some (.ref (He.ga K "checked"))))
def e_42 (K : PySem.W.Frag) : Bool := decide (PySem.W.nsIn K mainGlobals "slot" = some (some (.ref (He.ga K "slot"))))
def e_43 (K : PySem.W.Frag) : Bool := decide (PySem.W.nsIn K mainGlobals "_law_bag" = some (some (.ref (He.ga K "_law_bag"))))
def e_44 (K : PySem.W.Frag) : Bool := decide (PySem.W.nsIn K mainGlobals "_law_pull" = some (some (.ref (He.ga K "_law_pull"))))
def e_45 (K : PySem.W.Frag) : Bool := decide (PySem.W.nsIn K mainGlobals "_law_name" = some (some (.ref (He.ga K "_law_name"))))
def e_46 (K : PySem.W.Frag) : Bool := decide (PySem.W.nsIn K mainGlobals "_law_names" = some (some (.ref (He.ga K "_law_names"))))
def e_47 (K : PySem.W.Frag) : Bool := decide (PySem.W.nsIn K mainGlobals "_law_wide" = some (some (.ref (He.ga K "_law_wide"))))
def e_48 (K : PySem.W.Frag) : Bool := decide (PySem.W.nsIn K mainGlobals "_law_pennies" = some (some (.ref (He.ga K "_law_pennies"))))
def e_49 (K : PySem.W.Frag) : Bool := decide (PySem.W.nsIn K mainGlobals "_law_price" = some (some (.ref (He.ga K "_law_price"))))
def e_50 (K : PySem.W.Frag) : Bool := decide (PySem.W.nsIn K mainGlobals "_law_pairs" = some (some (.ref (He.ga K "_law_pairs"))))
def e_51 (K : PySem.W.Frag) : Bool := decide (PySem.W.nsIn K mainGlobals "_law_entry" = some (some (.ref (He.ga K "_law_entry"))))
def e_52 (K : PySem.W.Frag) : Bool := decide (PySem.W.nsIn K mainGlobals "_law_try" = some (some (.ref (He.ga K "_law_try"))))
def e_53 (K : PySem.W.Frag) : Bool := decide (PySem.W.nsIn K mainGlobals "_law_slot" = some (some (.ref (He.ga K "_law_slot"))))
def e_54 (K : PySem.W.Frag) : Bool := decide (PySem.W.nsIn K mainGlobals "_law_due" = some (some (.ref (He.ga K "_law_due"))))
def e_55 (K : PySem.W.Frag) : Bool := decide (PySem.W.nsIn K (He.ga K "FORMS") "price" = some (some (.ref (nad K (He.ga K "FORMS") "price"))))
def e_56 (K : PySem.W.Frag) : Bool := tupA K (nad K (He.ga K "FORMS") "price") [.ref (He.ga K "is_day"), .ref (He.ga K "is_name"), .ref (He.ga K "is_price")]
def e_57 (K : PySem.W.Frag) : Bool := decide (PySem.W.nsIn K (He.ga K "FORMS") "mix" = some (some (.ref (nad K (He.ga K "FORMS") "mix"))))
def e_58 (K : PySem.W.Frag) : Bool := tupA K (nad K (He.ga K "FORMS") "mix") [.ref (He.ga K "is_day"), .ref (He.ga K "is_pairs")]
def e_59 (K : PySem.W.Frag) : Bool := decide (PySem.W.nsIn K (He.ga K "FORMS") "come" = some (some (.ref (nad K (He.ga K "FORMS") "come"))))
def e_60 (K : PySem.W.Frag) : Bool := tupA K (nad K (He.ga K "FORMS") "come") [.ref (He.ga K "is_day"), .ref (He.ga K "is_name"), .ref (He.ga K "is_sum")]
def e_61 (K : PySem.W.Frag) : Bool := decide (PySem.W.nsIn K (He.ga K "FORMS") "go" = some (some (.ref (nad K (He.ga K "FORMS") "go"))))
def e_62 (K : PySem.W.Frag) : Bool := tupA K (nad K (He.ga K "FORMS") "go") [.ref (He.ga K "is_day"), .ref (He.ga K "is_name"), .ref (He.ga K "is_parts")]
def e_63 (K : PySem.W.Frag) : Bool := decide (PySem.W.nsIn K (He.ga K "FORMS") "draw" = some (some (.ref (nad K (He.ga K "FORMS") "draw"))))
def e_64 (K : PySem.W.Frag) : Bool := tupA K (nad K (He.ga K "FORMS") "draw") [.ref (He.ga K "is_day"), .ref (He.ga K "is_name"), .ref (He.ga K "is_sum")]
def e_65 (K : PySem.W.Frag) : Bool := decide (PySem.W.nsIn K (He.ga K "FORMS") "give" = some (some (.ref (nad K (He.ga K "FORMS") "give"))))
def e_66 (K : PySem.W.Frag) : Bool := tupA K (nad K (He.ga K "FORMS") "give") [.ref (He.ga K "is_day"), .ref (He.ga K "is_name"), .ref (He.ga K "is_name"), .ref (He.ga K "is_parts")]
def e_67 (K : PySem.W.Frag) : Bool := decide (PySem.W.nsIn K (He.ga K "FORMS") "rate" = some (some (.ref (nad K (He.ga K "FORMS") "rate"))))
def e_68 (K : PySem.W.Frag) : Bool := tupA K (nad K (He.ga K "FORMS") "rate") [.ref (He.ga K "is_day"), .ref (He.ga K "is_rate")]
def e_69 (K : PySem.W.Frag) : Bool := decide (PySem.W.nsIn K (He.ga K "FORMS") "harvest" = some (some (.ref (nad K (He.ga K "FORMS") "harvest"))))
def e_70 (K : PySem.W.Frag) : Bool := tupA K (nad K (He.ga K "FORMS") "harvest") [.ref (He.ga K "is_day")]
def e_71 (K : PySem.W.Frag) : Bool := decide (PySem.W.nsIn K (He.ga K "FORMS") "aside" = some (some (.ref (nad K (He.ga K "FORMS") "aside"))))
def e_72 (K : PySem.W.Frag) : Bool := tupA K (nad K (He.ga K "FORMS") "aside") [.ref (He.ga K "is_day"), .ref (He.ga K "is_name")]
def e_73 (K : PySem.W.Frag) : Bool := decide (PySem.W.nsIn K (He.ga K "FORMS") "home" = some (some (.ref (nad K (He.ga K "FORMS") "home"))))
def e_74 (K : PySem.W.Frag) : Bool := tupA K (nad K (He.ga K "FORMS") "home") [.ref (He.ga K "is_day"), .ref (He.ga K "is_name")]
def e_75 (K : PySem.W.Frag) : Bool := decide (PySem.W.nsIn K (He.ga K "FORMS") "levy" = some (some (.ref (nad K (He.ga K "FORMS") "levy"))))
def e_76 (K : PySem.W.Frag) : Bool := tupA K (nad K (He.ga K "FORMS") "levy") [.ref (He.ga K "is_day"), .ref (He.ga K "is_levy")]
def e_77 (K : PySem.W.Frag) : Bool := decide (PySem.W.nsIn K (He.ga K "FORMS") "hurdle" = some (some (.ref (nad K (He.ga K "FORMS") "hurdle"))))
def e_78 (K : PySem.W.Frag) : Bool := tupA K (nad K (He.ga K "FORMS") "hurdle") [.ref (He.ga K "is_day"), .ref (He.ga K "is_parts")]
def e_79 (K : PySem.W.Frag) : Bool := intB K (He.ga K "SLOTS") "price" 3
def e_80 (K : PySem.W.Frag) : Bool := intB K (He.ga K "SLOTS") "aside" 3
def e_81 (K : PySem.W.Frag) : Bool := intB K (He.ga K "SLOTS") "home" 3
def e_82 (K : PySem.W.Frag) : Bool := intB K (He.ga K "SLOTS") "mix" 2
def e_83 (K : PySem.W.Frag) : Bool := intB K (He.ga K "SLOTS") "rate" 2
def e_84 (K : PySem.W.Frag) : Bool := intB K (He.ga K "SLOTS") "harvest" 2
def e_85 (K : PySem.W.Frag) : Bool := intB K (He.ga K "SLOTS") "levy" 2
def e_86 (K : PySem.W.Frag) : Bool := intB K (He.ga K "SLOTS") "hurdle" 2
def e_87 (K : PySem.W.Frag) : Bool := decide (PySem.W.nsIn K (He.ga K "SLOTS") "come" = some none)
def e_88 (K : PySem.W.Frag) : Bool := decide (PySem.W.nsIn K (He.ga K "SLOTS") "go" = some none)
def e_89 (K : PySem.W.Frag) : Bool := decide (PySem.W.nsIn K (He.ga K "SLOTS") "draw" = some none)
def e_90 (K : PySem.W.Frag) : Bool := decide (PySem.W.nsIn K (He.ga K "SLOTS") "give" = some none)
def e_91 (K : PySem.W.Frag) : Bool := decide (PySem.W.nsIn K mainGlobals "Full" = some (some (.ref (He.ga K "Full"))))
def e_92 (K : PySem.W.Frag) : Bool := decide (oexB K (He.ga K "Full") [.type "ValueError", .type "Exception", .type "BaseException", .type "object"] = true)
def e_93 (K : PySem.W.Frag) : Bool := decide (PySem.W.findIn K (.ref (He.ga K "Full")) "__init__" = some (some (.ref (He.ma K (He.ga K "Full") "__init__"))))
def e_94 (K : PySem.W.Frag) : Bool := decide (PySem.W.typeIn K (.ref (He.ma K (He.ga K "Full") "__init__")) = some (.type "function"))
def e_95 (K : PySem.W.Frag) : Bool := decide (PySem.W.excInitIn K (He.ga K "Full") [.type "ValueError", .type "Exception", .type "BaseException", .type "object"] "ValueError.__new__" = true)
def e_96 (K : PySem.W.Frag) : Bool := decide (PySem.W.findIn K (.ref (He.ga K "Full")) "most" = some none)
def e_97 (K : PySem.W.Frag) : Bool := decide (PySem.W.nsIn K mainGlobals "BadEntry" = some (some (.ref (He.ga K "BadEntry"))))
def e_98 (K : PySem.W.Frag) : Bool := decide (oexB K (He.ga K "BadEntry") [.type "ValueError", .type "Exception", .type "BaseException", .type "object"] = true)
def e_99 (K : PySem.W.Frag) : Bool := decide (PySem.W.findIn K (.ref (He.ga K "BadEntry")) "__init__" = some (some (.ref (He.ma K (He.ga K "BadEntry") "__init__"))))
def e_100 (K : PySem.W.Frag) : Bool := decide (PySem.W.typeIn K (.ref (He.ma K (He.ga K "BadEntry") "__init__")) = some (.type "function"))
def e_101 (K : PySem.W.Frag) : Bool := decide (PySem.W.excInitIn K (He.ga K "BadEntry") [.type "ValueError", .type "Exception", .type "BaseException", .type "object"] "ValueError.__new__" = true)
def e_102 (K : PySem.W.Frag) : Bool := decide (PySem.W.findIn K (.ref (He.ga K "BadEntry")) "at" = some none)
def e_103 (K : PySem.W.Frag) : Bool := decide (PySem.W.nsIn K mainGlobals "Twice" = some (some (.ref (He.ga K "Twice"))))
def e_104 (K : PySem.W.Frag) : Bool := decide (oexB K (He.ga K "Twice") [.type "ValueError", .type "Exception", .type "BaseException", .type "object"] = true)
def e_105 (K : PySem.W.Frag) : Bool := decide (PySem.W.findIn K (.ref (He.ga K "Twice")) "__init__" = some (some (.ref (He.ma K (He.ga K "Twice") "__init__"))))
def e_106 (K : PySem.W.Frag) : Bool := decide (PySem.W.typeIn K (.ref (He.ma K (He.ga K "Twice") "__init__")) = some (.type "function"))
def e_107 (K : PySem.W.Frag) : Bool := decide (PySem.W.excInitIn K (He.ga K "Twice") [.type "ValueError", .type "Exception", .type "BaseException", .type "object"] "ValueError.__new__" = true)
def e_108 (K : PySem.W.Frag) : Bool := decide (PySem.W.findIn K (.ref (He.ga K "Twice")) "number" = some none)
def e_109 (K : PySem.W.Frag) : Bool := decide (PySem.W.nsIn K mainGlobals "NoTurn" = some (some (.ref (He.ga K "NoTurn"))))
def e_110 (K : PySem.W.Frag) : Bool := decide (oexB K (He.ga K "NoTurn") [.type "IndexError", .type "LookupError", .type "Exception", .type "BaseException", .type "object"] = true)
def e_111 (K : PySem.W.Frag) : Bool := decide (PySem.W.findIn K (.ref (He.ga K "NoTurn")) "__init__" = some (some (.ref (He.ma K (He.ga K "NoTurn") "__init__"))))
def e_112 (K : PySem.W.Frag) : Bool := decide (PySem.W.typeIn K (.ref (He.ma K (He.ga K "NoTurn") "__init__")) = some (.type "function"))
def e_113 (K : PySem.W.Frag) : Bool := decide (PySem.W.excInitIn K (He.ga K "NoTurn") [.type "IndexError", .type "LookupError", .type "Exception", .type "BaseException", .type "object"] "IndexError.__new__" = true)
def e_114 (K : PySem.W.Frag) : Bool := decide (PySem.W.findIn K (.ref (He.ga K "NoTurn")) "turn" = some none)
def e_115 (K : PySem.W.Frag) : Bool := decide (PySem.W.plainGet K (He.ga K "Till") Str.empty = true)
def e_116 (K : PySem.W.Frag) : Bool := decide (PySem.W.hasDictIn K (He.ga K "Till") = true)
def e_117 (K : PySem.W.Frag) : Bool := decide (PySem.W.plainOver K (He.ga K "Till") = true)
def e_118 (K : PySem.W.Frag) : Bool := decide (PySem.W.findIn K (.ref (He.ga K "Till")) "__setattr__" = some (some (.builtin "object.__setattr__")))
def e_119 (K : PySem.W.Frag) : Bool := decide (PySem.W.nsIn K mainGlobals "Till" = some (some (.ref (He.ga K "Till"))))
def e_120 (K : PySem.W.Frag) : Bool := decide (PySem.W.findIn K (.ref (He.ga K "Till")) "sums" = some none)
def e_121 (K : PySem.W.Frag) : Bool := decide (PySem.W.isFn K (.ref (He.ma K (He.ga K "Till") "__init__")) = true)
def e_122 (K : PySem.W.Frag) : Bool := decide (PySem.W.makesIn K (He.ga K "Till") = true)
def e_123 (K : PySem.W.Frag) : Bool := decide (PySem.W.keepIn K (.ref (He.ga K "Till")) = true)
def e_124 (K : PySem.W.Frag) : Bool := decide (PySem.W.findIn K (.ref (He.ga K "Till")) "__init__" = some (some (.ref (He.ma K (He.ga K "Till") "__init__"))))
def e_125 (K : PySem.W.Frag) : Bool := decide (PySem.W.isFn K (.ref (He.ma K (He.ga K "Till") "twin")) = true)
def e_126 (K : PySem.W.Frag) : Bool := decide (PySem.W.findIn K (.ref (He.ga K "Till")) "twin" = some (some (.ref (He.ma K (He.ga K "Till") "twin"))))
def e_127 (K : PySem.W.Frag) : Bool := decide (PySem.W.plainGet K (He.ga K "Book") Str.empty = true)
def e_128 (K : PySem.W.Frag) : Bool := decide (PySem.W.hasDictIn K (He.ga K "Book") = true)
def e_129 (K : PySem.W.Frag) : Bool := decide (PySem.W.plainOver K (He.ga K "Book") = true)
def e_130 (K : PySem.W.Frag) : Bool := decide (PySem.W.findIn K (.ref (He.ga K "Book")) "__setattr__" = some (some (.builtin "object.__setattr__")))
def e_131 (K : PySem.W.Frag) : Bool := decide (PySem.W.nsIn K mainGlobals "Book" = some (some (.ref (He.ga K "Book"))))
def e_132 (K : PySem.W.Frag) : Bool := decide (PySem.W.findIn K (.ref (He.ga K "Book")) "most" = some none)
def e_133 (K : PySem.W.Frag) : Bool := decide (PySem.W.findIn K (.ref (He.ga K "Book")) "rows" = some none)
def e_134 (K : PySem.W.Frag) : Bool := decide (PySem.W.findIn K (.ref (He.ga K "Book")) "next_number" = some none)
def e_135 (K : PySem.W.Frag) : Bool := decide (PySem.W.findIn K (.ref (He.ga K "Book")) "past" = some none)
def e_136 (K : PySem.W.Frag) : Bool := decide (PySem.W.findIn K (.ref (He.ga K "Book")) "done" = some none)
def e_137 (K : PySem.W.Frag) : Bool := decide (PySem.W.findIn K (.ref (He.ga K "Book")) "undone" = some none)
def e_138 (K : PySem.W.Frag) : Bool := decide (PySem.W.findIn K (.ref (He.ga K "Book")) "till" = some none)
def e_139 (K : PySem.W.Frag) : Bool := decide (PySem.W.findIn K (.ref (He.ga K "Book")) "closed" = some none)
def e_140 (K : PySem.W.Frag) : Bool := decide (PySem.W.isFn K (.ref (He.ma K (He.ga K "Book") "__init__")) = true)
def e_141 (K : PySem.W.Frag) : Bool := decide (PySem.W.makesIn K (He.ga K "Book") = true)
def e_142 (K : PySem.W.Frag) : Bool := decide (PySem.W.keepIn K (.ref (He.ga K "Book")) = true)
def e_143 (K : PySem.W.Frag) : Bool := decide (PySem.W.findIn K (.ref (He.ga K "Book")) "__init__" = some (some (.ref (He.ma K (He.ga K "Book") "__init__"))))
def e_144 (K : PySem.W.Frag) : Bool := decide (PySem.W.isFn K (.ref (He.ma K (He.ga K "Book") "__len__")) = true)
def e_145 (K : PySem.W.Frag) : Bool := decide (PySem.W.findIn K (.ref (He.ga K "Book")) "__len__" = some (some (.ref (He.ma K (He.ga K "Book") "__len__"))))
def e_146 (K : PySem.W.Frag) : Bool := decide (PySem.W.isFn K (.ref (He.ma K (He.ga K "Book") "free")) = true)
def e_147 (K : PySem.W.Frag) : Bool := decide (PySem.W.findIn K (.ref (He.ga K "Book")) "free" = some (some (.ref (He.ma K (He.ga K "Book") "free"))))
def e_148 (K : PySem.W.Frag) : Bool := decide (PySem.W.isFn K (.ref (He.ma K (He.ga K "Book") "put")) = true)
def e_149 (K : PySem.W.Frag) : Bool := decide (PySem.W.findIn K (.ref (He.ga K "Book")) "put" = some (some (.ref (He.ma K (He.ga K "Book") "put"))))
def e_150 (K : PySem.W.Frag) : Bool := decide (PySem.W.isFn K (.ref (He.ma K (He.ga K "Book") "granted")) = true)
def e_151 (K : PySem.W.Frag) : Bool := decide (PySem.W.findIn K (.ref (He.ga K "Book")) "granted" = some (some (.ref (He.ma K (He.ga K "Book") "granted"))))
def e_152 (K : PySem.W.Frag) : Bool := decide (PySem.W.isFn K (.ref (He.ma K (He.ga K "Book") "enter")) = true)
def e_153 (K : PySem.W.Frag) : Bool := decide (PySem.W.findIn K (.ref (He.ga K "Book")) "enter" = some (some (.ref (He.ma K (He.ga K "Book") "enter"))))
def e_154 (K : PySem.W.Frag) : Bool := decide (PySem.W.isFn K (.ref (He.ma K (He.ga K "Book") "turns")) = true)
def e_155 (K : PySem.W.Frag) : Bool := decide (PySem.W.findIn K (.ref (He.ga K "Book")) "turns" = some (some (.ref (He.ma K (He.ga K "Book") "turns"))))
def e_156 (K : PySem.W.Frag) : Bool := decide (PySem.W.isFn K (.ref (He.ma K (He.ga K "Book") "known")) = true)
def e_157 (K : PySem.W.Frag) : Bool := decide (PySem.W.findIn K (.ref (He.ga K "Book")) "known" = some (some (.ref (He.ma K (He.ga K "Book") "known"))))
def e_158 (K : PySem.W.Frag) : Bool := decide (PySem.W.isFn K (.ref (He.ma K (He.ga K "Book") "entries")) = true)
def e_159 (K : PySem.W.Frag) : Bool := decide (PySem.W.findIn K (.ref (He.ga K "Book")) "entries" = some (some (.ref (He.ma K (He.ga K "Book") "entries"))))
def e_160 (K : PySem.W.Frag) : Bool := decide (PySem.W.isFn K (.ref (He.ma K (He.ga K "Book") "twin")) = true)
def e_161 (K : PySem.W.Frag) : Bool := decide (PySem.W.findIn K (.ref (He.ga K "Book")) "twin" = some (some (.ref (He.ma K (He.ga K "Book") "twin"))))
def e_162 (K : PySem.W.Frag) : Bool := decide (PySem.W.nsIn K mainGlobals "law" = some (some (.ref (He.ga K "law"))))
def exL_0 : List (PySem.W.Frag → Bool) := [e_0, e_1, e_2, e_3, e_4, e_5, e_6, e_7, e_8, e_9, e_10, e_11, e_12, e_13, e_14, e_15, e_16, e_17, e_18, e_19, e_20, e_21, e_22, e_23, e_24, e_25, e_26, e_27, e_28, e_29]
def exL_1 : List (PySem.W.Frag → Bool) := [e_30, e_31, e_32, e_33, e_34, e_35, e_36, e_37, e_38, e_39, e_40, e_41, e_42, e_43, e_44, e_45, e_46, e_47, e_48, e_49, e_50, e_51, e_52, e_53, e_54, e_55, e_56, e_57, e_58, e_59]
def exL_2 : List (PySem.W.Frag → Bool) := [e_60, e_61, e_62, e_63, e_64, e_65, e_66, e_67, e_68, e_69, e_70, e_71, e_72, e_73, e_74, e_75, e_76, e_77, e_78, e_79, e_80, e_81, e_82, e_83, e_84, e_85, e_86, e_87, e_88, e_89]
def exL_3 : List (PySem.W.Frag → Bool) := [e_90, e_91, e_92, e_93, e_94, e_95, e_96, e_97, e_98, e_99, e_100, e_101, e_102, e_103, e_104, e_105, e_106, e_107, e_108, e_109, e_110, e_111, e_112, e_113, e_114, e_115, e_116, e_117, e_118, e_119]
def exL_4 : List (PySem.W.Frag → Bool) := [e_120, e_121, e_122, e_123, e_124, e_125, e_126, e_127, e_128, e_129, e_130, e_131, e_132, e_133, e_134, e_135, e_136, e_137, e_138, e_139, e_140, e_141, e_142, e_143, e_144, e_145, e_146, e_147, e_148, e_149]
def exL_5 : List (PySem.W.Frag → Bool) := [e_150, e_151, e_152, e_153, e_154, e_155, e_156, e_157, e_158, e_159, e_160, e_161, e_162]
def exL : List (PySem.W.Frag → Bool) := exL_0 ++ exL_1 ++ exL_2 ++ exL_3 ++ exL_4 ++ exL_5
def fnL_0 : List DefD := [dd_TillU_initU, dd_BookU_initU, dd_BookU_lenU, dd_FullU_initU, dd_BadEntryU_initU, dd_is_name, dd_is_whole, dd_is_day, dd_is_price, dd_is_sum, dd_is_parts, dd_is_rate, dd_is_levy, dd_is_pair, dd_is_pairs, dd_checked, dd_TwiceU_initU, dd_slot, dd_Book_free, dd_Book_put, dd_Book_granted, dd_Book_enter, dd_Book_turns, dd_NoTurnU_initU, dd_Book_known, dd_Book_entries, dd_Till_twin, dd_Book_twin, dd__law_bag, dd__law_pull]
def fnL_1 : List DefD := [dd__law_name, dd__law_names, dd__law_wide, dd__law_pennies, dd__law_price, dd__law_pairs, dd__law_entry, dd__law_try, dd__law_slot, dd__law_due, dd_law]
def fnL : List DefD := fnL_0 ++ fnL_1
def tb_FORMS : Tab := (fun K => He.ga K "FORMS", ["price", "mix", "come", "go", "draw", "give", "rate", "harvest", "aside", "home", "levy", "hurdle"])
def tb_SLOTS : Tab := (fun K => He.ga K "SLOTS", ["price", "aside", "home", "mix", "rate", "harvest", "levy", "hurdle"])
def tsL : List Tab := [tb_FORMS, tb_SLOTS]
def tfL : List Defn := [("Book", some "known")]
def nsL_0 : List Str := ["FORMS", "SLOTS", "is_name", "is_whole", "is_day", "is_price", "is_sum", "is_parts", "is_rate", "is_levy", "is_pair", "is_pairs", "checked", "slot", "_law_bag", "_law_pull", "_law_name", "_law_names", "_law_wide", "_law_pennies", "_law_price", "_law_pairs", "_law_entry", "_law_try", "_law_slot", "_law_due", "law", "Full", "BadEntry", "Twice"]
def nsL_1 : List Str := ["NoTurn", "Till", "Book"]
def nsL : List Str := nsL_0 ++ nsL_1
set_option maxHeartbeats 0
theorem run_f (w : World) : HandSHeadRun.RunEq CrT.R CrT.qv (hookP nsL fnL tsL tfL exL) (obP nsL fnL tsL tfL exL) 40000 CrT.names (w.withFollow "special-get-raises" false) := by
  intro os
  kernel_rfl
theorem run_t (w : World) : HandSHeadRun.RunEq CrT.R CrT.qv (hookP nsL fnL tsL tfL exL) (obP nsL fnL tsL tfL exL) 40000 CrT.names (w.withFollow "special-get-raises" true) := by
  intro os
  kernel_rfl
theorem run_all (w : World) : HandSHeadRun.RunEq CrT.R CrT.qv (hookP nsL fnL tsL tfL exL) (obP nsL fnL tsL tfL exL) 40000 CrT.names w := PySem.W.byRow2 "special-get-raises" run_f run_t w
set_option maxHeartbeats 4000000
end
variable {P : Program} {w : World} {K : PySem.W.Frag} {mg : Str → Option Value} {base : Heap}
/-! ### TillU_initU -/
def TillAt (K : PySem.W.Frag) (C : Addr) (H : Hp) (v : V) (d : Addr) (f : Str → Int) (n : Nat) : Prop := ∃ (a dx : Addr) (kvs : List (Key × V)), v = .ref a ∧ H a = some (.ins C dx [(("sums" : Str), .ref d)]) ∧ H d = some (.dK kvs) ∧ kvs.length ≤ n ∧ ∀ s, (valV kvs (.inr s)).getD (.int 0) = .int (f s)
theorem TillAt.mono {K : PySem.W.Frag} {C : Addr} {H H' : Hp} {v : V} {d : Addr} {f : Str → Int} {n : Nat} (k : ∀ a, a ≠ d → ∀ o, isZ o = true → H a = some o → H' a = some o) (kd : ∀ kvs, H d = some (.dK kvs) → H' d = some (.dK kvs)) (h : TillAt K C H v d f n) : TillAt K C H' v d f n := by
  obtain ⟨a, dx, kvs, e, h1, h2, h3⟩ := h
  exact ⟨a, dx, kvs, e, k a (fun z => by rw [z, h2] at h1; cases h1) _ rfl h1, kd _ h2, h3⟩
def sp_TillU_initU (_K : PySem.W.Frag) (C : Addr) : Sp := fun vs H Q _ => ∃ (p dx : Addr), vs = [.ref p] ∧ H p = some (.ins C dx []) ∧ ∀ d H', H d = none → d ≠ p → (∀ b o, b ≠ p → H b = some o → H' b = some o) → H' p = some (.ins C dx [(("sums" : Str), .ref d)]) → H' d = some (.dK []) → Q .non H'
theorem ok_TillU_initU (T : Top w K mg) : FnOk P w K mg base CX0 1 T.f_TillU_initU T.fd_TillU_initU ["self"] (sp_TillU_initU K T.C_Till) := by
  have hcl_Till := T.cl_Till
  have hna_Till_sums := T.na_Till_sums
  have hcl_Book := T.cl_Book
  have hna_Book_most := T.na_Book_most
  have hna_Book_rows := T.na_Book_rows
  have hna_Book_next_number := T.na_Book_next_number
  have hna_Book_past := T.na_Book_past
  have hna_Book_done := T.na_Book_done
  have hna_Book_undone := T.na_Book_undone
  have hna_Book_till := T.na_Book_till
  have hna_Book_closed := T.na_Book_closed
  refine T.F_TillU_initU.ok sc_TillU_initU (fun vs H Q E h => by obtain ⟨p, dx, rfl, _⟩ := h; rfl) (fun cdv A outer s H vs Q E hr h => ?_)
  obtain ⟨p, dx, rfl, hp, q⟩ := h
  refine ⟨_, (pss_one (ps_fld (pv 0) pe_dnewK rfl)), ?_⟩
  intro d hd
  have hdp : d ≠ p := fun e => by rw [e, hp] at hd; cases hd
  refine ⟨.ref p, rfl, p, T.C_Till, dx, [], rfl, (by rw [upd_ne hdp.symm]; exact hp), T.cl_Till, T.na_Till_sums, by show 0 < 1000; decide, ?_⟩
  exact q d _ hd hdp (fun b o hb e => by rw [upd_ne hb, upd_ne (fun z => by rw [z, hd] at e; cases e)]; exact e) upd_same (by rw [upd_ne hdp, upd_same])
theorem u_makeTill {C : Addr} {H : Hp} {Q : VK} {E : XK} (q : ∀ v d H', Same H H' → H d = none → TillAt K C H' v d (fun _ => 0) 0 → Q v H') : MakeQ C (sp_TillU_initU K C) [] E [] H Q := by
  intro p dx np nd ne
  refine ⟨p, dx, rfl, upd_same, fun d H' hd hdp k h1 h2 => ⟨rfl, ?_⟩⟩
  have s : Same H H' := Same.made np nd (fun b o e hb => k b o hb e)
  have nd2 : H d = none := by
    rw [upd_ne hdp] at hd
    by_cases e : d = dx
    · rw [e]; exact nd
    · rw [upd_ne e] at hd; exact hd
  exact q _ d _ s nd2 ⟨p, dx, [], rfl, h1, h2, Nat.le_refl _, fun _ => rfl⟩
local macro_rules | `(tactic| walk_at "cr.call") => `(tactic| ((with_reducible refine' Cr.u_makeTill ?_); intro v d H' hs nd ht))
theorem s_mtill {C : Addr} {H : Hp} {v : V} {d : Addr} {f : Str → Int} {n : Nat} {mn : Str} {N : Prop} (h : TillAt K C H v d f n) (e : (mn == ("sums" : Str)) = false) (q : N) : MethQ C mn v H N := by
  obtain ⟨a, dx, kvs, rfl, h1, _⟩ := h
  exact s_meth1 h1 e q
local macro_rules | `(tactic| walk_at "cr.call") => `(tactic| ((with_reducible refine' Cr.s_mtill ?a ?b ?_); (case a => walk_at "cr.till"); (case b => with_unfolding_all decide +kernel)))

/-! ### BookU_initU -/
local macro_rules | `(tactic| walk_at "cr.call") => `(tactic| with_reducible first | (refine' Cr.s_fldG ?a ?b ?c Cr.bk_most ?_; (case a => walk_at "cr.at"); (case b => with_reducible assumption); (case c => with_reducible assumption)) | (refine' Cr.s_fldG ?a ?b ?c Cr.bk_rows ?_; (case a => walk_at "cr.at"); (case b => with_reducible assumption); (case c => with_reducible assumption)) | (refine' Cr.s_fldG ?a ?b ?c Cr.bk_nx ?_; (case a => walk_at "cr.at"); (case b => with_reducible assumption); (case c => with_reducible assumption)) | (refine' Cr.s_fldG ?a ?b ?c Cr.bk_past ?_; (case a => walk_at "cr.at"); (case b => with_reducible assumption); (case c => with_reducible assumption)) | (refine' Cr.s_fldG ?a ?b ?c Cr.bk_done ?_; (case a => walk_at "cr.at"); (case b => with_reducible assumption); (case c => with_reducible assumption)) | (refine' Cr.s_fldG ?a ?b ?c Cr.bk_undone ?_; (case a => walk_at "cr.at"); (case b => with_reducible assumption); (case c => with_reducible assumption)) | (refine' Cr.s_fldG ?a ?b ?c Cr.bk_till ?_; (case a => walk_at "cr.at"); (case b => with_reducible assumption); (case c => with_reducible assumption)) | (refine' Cr.s_fldG ?a ?b ?c Cr.bk_closed ?_; (case a => walk_at "cr.at"); (case b => with_reducible assumption); (case c => with_reducible assumption)) | (refine' Cr.w_fldG ?a ?b ?c Cr.bk_len Cr.bk_pRows ?_; (case a => walk_at "cr.at"); (case b => with_reducible assumption); (case c => with_reducible assumption)) | (refine' Cr.w_fldG ?a ?b ?c Cr.bk_len Cr.bk_pNx ?_; (case a => walk_at "cr.at"); (case b => with_reducible assumption); (case c => with_reducible assumption)) | (refine' Cr.w_fldG ?a ?b ?c Cr.bk_len Cr.bk_pUndone ?_; (case a => walk_at "cr.at"); (case b => with_reducible assumption); (case c => with_reducible assumption)) | (refine' Cr.s_methG ?a (Cr.bk_meth (by with_unfolding_all decide +kernel)) ?_; (case a => walk_at "cr.at")))
theorem PJ.add2 {H0 H H' : Hp} {p C dx q q2 : Addr} {fs : List (Str × V)} {objs : List (Addr × HO)} {o o2 : HO} (I : PJ H0 H p C dx fs objs) (s : Same H H') (n : H q = none) (n2 : H q2 = none) (ne : q ≠ q2) (e : H' q = some o) (e2 : H' q2 = some o2) : PJ H0 H' p C dx fs (objs ++ [(q, o)] ++ [(q2, o2)]) := by
  have I1 := I.add s n e
  have nq : q2 ∉ p :: (objs ++ [(q, o)]).map Prod.fst := by
    intro z
    rcases List.mem_cons.mp z with rfl | z
    · rw [I.ins] at n2; cases n2
    · obtain ⟨x, hx, rfl⟩ := List.mem_map.mp z
      rcases List.mem_append.mp hx with hx | hx
      · rw [(I.obj x hx).1] at n2; cases n2
      · rw [List.mem_singleton.mp hx] at ne; exact ne rfl
  refine ⟨I1.ins, I1.kp, fun x hx => ?_, ?_⟩
  · rcases List.mem_append.mp hx with hx | hx
    · exact I1.obj x hx
    · rw [List.mem_singleton.mp hx]; exact ⟨e2, I.out n2⟩
  · rw [List.map_append, ← List.cons_append]
    exact List.nodup_append.mpr ⟨I1.nd, List.nodup_cons.mpr ⟨List.not_mem_nil, .nil⟩, fun a ha b hb e => nq (by rw [List.mem_singleton.mp hb] at e; have e2 : a = q2 := e; rw [← e2]; exact ha)⟩
abbrev newB (most : Int) : BookS := ⟨most, [], 1, [[]], [], []⟩
theorem u_makeTillF {C : Addr} {H : Hp} {Q : VK} {E : XK} (q : ∀ a tx d H', Same H H' → H a = none → H d = none → a ≠ d → H' a = some (.ins C tx [(("sums" : Str), .ref d)]) → H' d = some (.dK []) → Q (.ref a) H') : MakeQ C (sp_TillU_initU K C) [] E [] H Q := by
  intro p dx np nd ne
  refine ⟨p, dx, rfl, upd_same, fun d H' hd hdp k h1 h2 => ⟨rfl, ?_⟩⟩
  have s : Same H H' := Same.made np nd (fun b o e hb => k b o hb e)
  have nd2 : H d = none := by
    rw [upd_ne hdp] at hd
    by_cases e : d = dx
    · rw [e]; exact nd
    · rw [upd_ne e] at hd; exact hd
  exact q p dx d _ s np nd2 hdp.symm h1 h2
local macro_rules | `(tactic| walk_at "cr.call") => `(tactic| ((with_reducible refine' Cr.u_makeTillF ?_); intro t tx td H7 s7 nt ntd ned ht htd))
def sp_BookU_initU (K : PySem.W.Frag) (Cb Ct : Addr) : Sp := fun vs H Q _ => ∃ (p dx : Addr) (most : Int), vs = [.ref p, .int most] ∧ H p = some (.ins Cb dx []) ∧
  ∀ A H', A.p = p → Keep [p] H H' → BkAt K Cb Ct H' A (newB most) → (∀ b, b ∈ A.all → b = p ∨ H b = none) → Q .non H'
theorem ok_BookU_initU (T : Top w K mg) : FnOk P w K mg base CX0 3 T.f_BookU_initU T.fd_BookU_initU ["self", "most"] (sp_BookU_initU K T.C_Book T.C_Till) := by
  have G_TillU_initU := ok_TillU_initU (P := P) (w := w) (base := base) T
  have hcl_Till := T.cl_Till
  have hna_Till_sums := T.na_Till_sums
  have hcl_Book := T.cl_Book
  have hna_Book_most := T.na_Book_most
  have hna_Book_rows := T.na_Book_rows
  have hna_Book_next_number := T.na_Book_next_number
  have hna_Book_past := T.na_Book_past
  have hna_Book_done := T.na_Book_done
  have hna_Book_undone := T.na_Book_undone
  have hna_Book_till := T.na_Book_till
  have hna_Book_closed := T.na_Book_closed
  refine T.F_BookU_initU.ok sc_BookU_initU (fun vs H Q E h => by obtain ⟨p, dx, m, rfl, _⟩ := h; rfl) (fun cdv A outer s H vs Q E hr h => ?_)
  obtain ⟨p, dx, m, rfl, hp, q⟩ := h
  refine ⟨_, (pss_cons (ps_fld (pv 0) (pv 1) rfl)
      (pss_cons (ps_fld (pv 0) pe_dnewK rfl)
      (pss_cons (ps_fld (pv 0) pe_int rfl)
      (pss_cons (ps_fld (pv 0) (pe_lst (pa_cons pe_dnewK pa_nil)) rfl)
      (pss_cons (ps_fld (pv 0) (pe_lst pa_nil) rfl)
      (pss_cons (ps_fld (pv 0) (pe_lst pa_nil) rfl)
      (pss_cons (ps_fld (pv 0) (pe_make0 T.M_Till (G_TillU_initU) (hr.mono (by decide)) (by rfl) T.c_Till T.b_TillU_initU .nil pass0) rfl)
      (pss_one (ps_fld (pv 0) pe_non rfl))))))))), ?_⟩
  have I0 : PJ H H p T.C_Book dx [] [] := ⟨hp, Keep.refl _ _, fun x hx => (nomatch hx), List.nodup_cons.mpr ⟨List.not_mem_nil, .nil⟩⟩
  walk_at "cr.k"
  refine I0.fld hcl_Book hna_Book_most (Nat.le_of_ble_eq_true rfl) fun H1 I1 => ?_
  clear I0
  walk_at "cr.go"
  rename_i p2 hp2
  refine (I1.new hp2).fld hcl_Book hna_Book_rows (Nat.le_of_ble_eq_true rfl) fun H2 I2 => ?_
  clear I1 hp2
  walk_at "cr.go"
  refine I2.fld hcl_Book hna_Book_next_number (Nat.le_of_ble_eq_true rfl) fun H3 I3 => ?_
  clear I2
  walk_at "cr.go"
  rename_i p4 hp4 p5 hp5
  refine ((I3.new hp4).new hp5).fld hcl_Book hna_Book_past (Nat.le_of_ble_eq_true rfl) fun H4 I4 => ?_
  clear I3 hp4 hp5
  walk_at "cr.go"
  rename_i p6 hp6
  refine (I4.new hp6).fld hcl_Book hna_Book_done (Nat.le_of_ble_eq_true rfl) fun H5 I5 => ?_
  clear I4 hp6
  walk_at "cr.go"
  rename_i p7 hp7
  refine (I5.new hp7).fld hcl_Book hna_Book_undone (Nat.le_of_ble_eq_true rfl) fun H6 I6 => ?_
  clear I5 hp7
  walk_at "cr.go"
  rename_i t tx td H7 s7 nt ntd ned ht htd
  have I7 := I6.add2 s7 nt ntd ned ht htd
  clear I6 s7 nt ntd ned ht htd
  refine I7.fld hcl_Book hna_Book_till (Nat.le_of_ble_eq_true rfl) fun H8 I8 => ?_
  clear I7
  walk_at "cr.go"
  refine I8.fld hcl_Book hna_Book_closed (Nat.le_of_ble_eq_true rfl) fun H9 I9 => ?_
  clear I8
  walk_at "cr.go"
  have ob := I9.obj
  have nd := I9.nd
  simp only [List.nil_append, List.cons_append] at ob nd
  have o := fun x hx => (ob x hx).1
  simp only [List.mem_cons, List.not_mem_nil, or_false, forall_eq_or_imp, forall_eq] at o
  obtain ⟨o1, o2, o3, o4, o5, o6, o7⟩ := o
  have f0 := fun x hx => (ob x hx).2
  simp only [List.mem_cons, List.not_mem_nil, or_false, forall_eq_or_imp, forall_eq] at f0
  obtain ⟨f1, f2, f3, f4, f5, f6, f7⟩ := f0
  refine q ⟨p, dx, p2, p5, p6, p7, t, tx, td, [p4], [], []⟩ H9 rfl I9.kp ⟨?_, ⟨[], o1, .nil⟩, o3, .cons ⟨[], o2, .nil⟩ .nil, o4, .nil, o5, .nil, o6, o7, ?_⟩ ?_
  · rw [I9.ins]
    with_unfolding_all rfl
  · refine (List.Perm.nodup_iff ?_).mp nd
    refine List.perm_iff_count.mpr fun x => ?_
    simp only [BkA.all, List.map_cons, List.map_nil, List.count_cons, List.count_append, List.count_nil]
    omega
  · intro b hb
    simp only [BkA.all, List.mem_cons, List.not_mem_nil, List.append_nil, or_false] at hb
    rcases hb with rfl | rfl | rfl | rfl | rfl | rfl | rfl | rfl
    · exact .inl rfl
    · exact .inr f1
    · exact .inr f3
    · exact .inr f4
    · exact .inr f5
    · exact .inr f6
    · exact .inr f7
    · exact .inr f2
def MakeKQ (C : Addr) (sp : Sp) (gV : List V → List V → List V) (E : XK) (vs zs : List V) (H : Hp) (Q : VK) : Prop := ∀ x dx, H x = none → H dx = none → dx ≠ x → sp (gV (.ref x :: vs) zs) (upd (upd H dx (.own x)) x (.ins C dx [])) (fun v H3 => v = .non ∧ Q (.ref x) H3) E
theorem s_makeK {C : Addr} {n m : Nat} {sp : Sp} {gV : List V → List V → List V} {E : XK} {t tk : TA} {σ : St} {H : Hp} {Q : VK} (h : t σ H fun vs H1 => tk σ H1 fun zs H2 => vs.length = n ∧ zs.length = m ∧ MakeKQ C sp gV E vs zs H2 Q) : tMakeK C n m sp gV E t tk σ H Q := h
theorem u_makeBook0 {Cb Ct : Addr} {H : Hp} {Q : VK} {E : XK} {most : Int} (q : ∀ A H', Same H H' → (∀ b, b ∈ A.all → H b = none) → BkAt K Cb Ct H' A (newB most) → Q (.ref A.p) H') (x dx : Addr) (np : H x = none) (nd : H dx = none) (ne : dx ≠ x) :
    sp_BookU_initU K Cb Ct [.ref x, .int most] (upd (upd H dx (.own x)) x (.ins Cb dx [])) (fun v H3 => v = .non ∧ Q (.ref x) H3) E := by
  refine ⟨x, dx, most, rfl, upd_same, fun A H' ea k hb f => ⟨rfl, ?_⟩⟩
  have s : Same H H' := Same.made np nd (fun b o e hb => k b o (fun z => hb (List.mem_singleton.mp z)) e)
  rw [← ea]
  refine q A H' s (fun b hb => ?_) hb
  rcases f b hb with z | z
  · rw [z]; exact np
  · by_cases e : b = x
    · rw [e]; exact np
    · rw [upd_ne e] at z
      by_cases e2 : b = dx
      · rw [e2]; exact nd
      · rw [upd_ne e2] at z; exact z
theorem u_makeBook {Cb Ct : Addr} {H : Hp} {Q : VK} {E : XK} {most : Int} (q : ∀ A H', Same H H' → (∀ b, b ∈ A.all → H b = none) → BkAt K Cb Ct H' A (newB most) → Q (.ref A.p) H') : MakeQ Cb (sp_BookU_initU K Cb Ct) [.int most] E [] H Q :=
  fun x dx np nd ne => u_makeBook0 q x dx np nd ne
theorem u_makeBookK {Cb Ct : Addr} {H : Hp} {Q : VK} {E : XK} {most : Int} {gV : List V → List V → List V} {vs zs : List V} (e : ∀ x, gV (.ref x :: vs) zs = [.ref x, .int most]) (q : ∀ A H', Same H H' → (∀ b, b ∈ A.all → H b = none) → BkAt K Cb Ct H' A (newB most) → Q (.ref A.p) H') : MakeKQ Cb (sp_BookU_initU K Cb Ct) gV E vs zs H Q :=
  fun x dx np nd ne => by rw [e x]; exact u_makeBook0 q x dx np nd ne
local macro_rules | `(tactic| walk_at "cr.call") => `(tactic| first | ((with_reducible refine' Cr.u_makeBook ?_); intro Ab Hb sb fb hb) | with_reducible refine Cr.s_makeK ?_ | ((with_reducible refine' Cr.u_makeBookK ?e ?_); (case e => intro x; with_unfolding_all rfl); intro Ab Hb sb fb hb))

/-! ### BookU_lenU -/
local macro_rules | `(tactic| walk_at "cr.book") => `(tactic| with_reducible first | with_reducible assumption | (refine' Cr.BkAt.new (by with_reducible assumption) ?z; (case z => walk_at "cr.book")) | (refine' Cr.BkAt.same (by with_reducible assumption) ?z; (case z => walk_at "cr.book")))
def sp_BookU_lenU (K : PySem.W.Frag) (Cb Ct : Addr) : Sp := fun vs H Q _ => ∃ (A : BkA) (B : BookS), vs = [.ref A.p] ∧ BkAt K Cb Ct H A B ∧ Q (.int B.rows.length) H
theorem u_BookU_lenU {Cb Ct : Addr} {H : Hp} {Q : VK} {E : XK} {A : BkA} {B : BookS} (hb : BkAt K Cb Ct H A B) (l : B.rows.length ≤ 1000000) (q : Q (.int B.rows.length) H) : rLenI Cb (sp_BookU_lenU K Cb Ct) E [.ref A.p] H Q :=
  ⟨A.p, A.dx, _, rfl, hb.hp, A, B, rfl, hb, _, rfl, by omega, by omega, q⟩
theorem ok_BookU_lenU (T : Top w K mg) : FnOk P w K mg base CX0 1 T.f_BookU_lenU T.fd_BookU_lenU ["self"] (sp_BookU_lenU K T.C_Book T.C_Till) := by
  have hcl_Till := T.cl_Till
  have hna_Till_sums := T.na_Till_sums
  have hcl_Book := T.cl_Book
  have hna_Book_most := T.na_Book_most
  have hna_Book_rows := T.na_Book_rows
  have hna_Book_next_number := T.na_Book_next_number
  have hna_Book_past := T.na_Book_past
  have hna_Book_done := T.na_Book_done
  have hna_Book_undone := T.na_Book_undone
  have hna_Book_till := T.na_Book_till
  have hna_Book_closed := T.na_Book_closed
  refine T.F_BookU_lenU.ok sc_BookU_lenU (fun vs H Q E h => by obtain ⟨A, B, rfl, _⟩ := h; rfl) (fun cdv A0 outer s H vs Q E hr h => ?_)
  obtain ⟨A, B, rfl, hb, q⟩ := h
  have hp := hb.hp
  obtain ⟨ps, e, h2⟩ := hb.hr
  have el : ((iOf ps).length : Int) = (B.rows.length : Int) := by rw [iOf_len, A2.len h2]
  refine ⟨_, (pss_one (ps_ret (pe_callB call_lenDU (by rfl) T.n_len (by decide +kernel) (pa_cons (pe_fld (pv 0) rfl) pa_nil)))), ?_⟩
  walk_at "cr.k"
  rw [el]
  exact q
local macro_rules | `(tactic| walk_at "cr.call") => `(tactic| ((with_reducible refine' Cr.u_BookU_lenU ?a ?b ?_); (case a => walk_at "cr.book"); (case b => first | with_reducible assumption | omega)))

/-! ### FullU_initU -/
abbrev sp_FullU_initU (K : PySem.W.Frag) : Sp := spIni K "most"
theorem ok_FullU_initU (T : Top w K mg) : FnOk P w K mg base CX0 1 T.f_FullU_initU T.fd_FullU_initU ["self", "most"] (sp_FullU_initU K) := by
  have hcl_Till := T.cl_Till
  have hna_Till_sums := T.na_Till_sums
  have hcl_Book := T.cl_Book
  have hna_Book_most := T.na_Book_most
  have hna_Book_rows := T.na_Book_rows
  have hna_Book_next_number := T.na_Book_next_number
  have hna_Book_past := T.na_Book_past
  have hna_Book_done := T.na_Book_done
  have hna_Book_undone := T.na_Book_undone
  have hna_Book_till := T.na_Book_till
  have hna_Book_closed := T.na_Book_closed
  refine T.F_FullU_initU.ok sc_FullU_initU (fun vs H Q E h => by obtain ⟨a, C, v, rfl, _⟩ := h; rfl) (fun cdv A outer s H vs Q E hr h => ?_)
  obtain ⟨a, C, v, rfl, ea, T1, hno, q⟩ := h
  refine ⟨_, (pss_one (ps_ost1 (pv 0) (pv 1) rfl)), ?_⟩
  exact ⟨v, rfl, .ref a, rfl, a, C, rfl, T1, hno, ea, fun dx n ne => q dx n ne⟩
local macro_rules | `(tactic| walk_at "cr.call") => `(tactic| ((with_reducible refine' Cr.u_mkE (f := "most") ?e (Top.oe_Full _) (Top.na_Full _) ?_); (case e => with_unfolding_all rfl); intro x H' hs hx))
local macro_rules | `(tactic| walk_at "cr.call") => `(tactic| ((with_reducible refine' Cr.u_fldE (f := "most") ?a (Top.oe_Full _) (Top.na_Full _) ?_); (case a => with_reducible assumption)))

/-! ### BadEntryU_initU -/
abbrev sp_BadEntryU_initU (K : PySem.W.Frag) : Sp := spIni K "at"
theorem ok_BadEntryU_initU (T : Top w K mg) : FnOk P w K mg base CX0 1 T.f_BadEntryU_initU T.fd_BadEntryU_initU ["self", "at"] (sp_BadEntryU_initU K) := by
  have hcl_Till := T.cl_Till
  have hna_Till_sums := T.na_Till_sums
  have hcl_Book := T.cl_Book
  have hna_Book_most := T.na_Book_most
  have hna_Book_rows := T.na_Book_rows
  have hna_Book_next_number := T.na_Book_next_number
  have hna_Book_past := T.na_Book_past
  have hna_Book_done := T.na_Book_done
  have hna_Book_undone := T.na_Book_undone
  have hna_Book_till := T.na_Book_till
  have hna_Book_closed := T.na_Book_closed
  refine T.F_BadEntryU_initU.ok sc_BadEntryU_initU (fun vs H Q E h => by obtain ⟨a, C, v, rfl, _⟩ := h; rfl) (fun cdv A outer s H vs Q E hr h => ?_)
  obtain ⟨a, C, v, rfl, ea, T1, hno, q⟩ := h
  refine ⟨_, (pss_one (ps_ost1 (pv 0) (pv 1) rfl)), ?_⟩
  exact ⟨v, rfl, .ref a, rfl, a, C, rfl, T1, hno, ea, fun dx n ne => q dx n ne⟩
local macro_rules | `(tactic| walk_at "cr.call") => `(tactic| ((with_reducible refine' Cr.u_mkE (f := "at") ?e (Top.oe_BadEntry _) (Top.na_BadEntry _) ?_); (case e => with_unfolding_all rfl); intro x H' hs hx))
local macro_rules | `(tactic| walk_at "cr.call") => `(tactic| ((with_reducible refine' Cr.u_fldE (f := "at") ?a (Top.oe_BadEntry _) (Top.na_BadEntry _) ?_); (case a => with_reducible assumption)))

/-! ### is_name -/
theorem letters : (("abcdefghijklmnopqrstuvwxyz" : String) : Str).cps.toList = (List.range 26).map (97 + ·) := by decide +kernel
theorem in_letters {c : Nat} : decide (c ∈ (("abcdefghijklmnopqrstuvwxyz" : String) : Str).cps.toList) = decide (97 ≤ c ∧ c ≤ 122) := by
  rw [letters]
  refine decide_eq_decide.mpr ⟨fun h => ?_, fun ⟨h0, h1⟩ => List.mem_map.mpr ⟨c - 97, List.mem_range.mpr (by omega), by omega⟩⟩
  obtain ⟨k, hk, rfl⟩ := List.mem_map.mp h
  have := List.mem_range.mp hk
  omega
def sp_is_name (K : PySem.W.Frag) : Sp := spLk K nameB
theorem ok_is_name (T : Top w K mg) : FnOk P w K mg base CX0 1 T.f_is_name T.fd_is_name ["one"] (sp_is_name K) := by
  have hcl_Till := T.cl_Till
  have hna_Till_sums := T.na_Till_sums
  have hcl_Book := T.cl_Book
  have hna_Book_most := T.na_Book_most
  have hna_Book_rows := T.na_Book_rows
  have hna_Book_next_number := T.na_Book_next_number
  have hna_Book_past := T.na_Book_past
  have hna_Book_done := T.na_Book_done
  have hna_Book_undone := T.na_Book_undone
  have hna_Book_till := T.na_Book_till
  have hna_Book_closed := T.na_Book_closed
  refine T.F_is_name.ok sc_is_name (fun vs H Q E h => by obtain ⟨n, x, e, rfl, _⟩ := h; rfl) (fun cdv A outer s H vs Q E hr h => ?_)
  obtain ⟨n, x, e, rfl, hx, q⟩ := h
  refine ⟨_, (pss_cons (ps_if (PW.pt (pw_or (pt_not (pt_tru (pe_callB call_isi (by rfl) T.n_isinstance (by decide +kernel) (pa_cons (pv 0) (pa_cons (pe_bltn (v := .ty "str") (by rfl) T.n_str (by decide +kernel) rfl) pa_nil))))) (pw_or1 (pt_not (pt_chain op_leI op_leI pe_int (pe_callB call_lenU (by rfl) T.n_len (by decide +kernel) (pa_cons (pv 0) pa_nil)) pe_int))))) (pss_one (ps_ret pe_bl)) pss_nil)
      (pss_one (ps_ret (pe_callB (cr_all rfl) (by rfl) T.n_all (by decide +kernel) (pa_cons (pe_lc (own := [("sign", 1)]) (g := gName 1) (tt := tYes) rfl sc_is_name.nd (pi_str (pv 0)) (blkOk_by (N := ["one", "sign"]) (sc := defScope s_is_name) (by decide +kernel)) (fun _ _ _ _ _ => pg_name (i := 1) sc_is_name.nd rfl (Or.inl rfl)) (fun _ _ _ _ _ => pts_nil) (fun _ _ _ _ _ => (pe_cmpR (show OpR _ _ rInSign from op_in_signU) (pv 1) (pe_glob (v := .str "abcdefghijklmnopqrstuvwxyz") (by rfl) T.c_LETTERS ⟨_, rfl⟩) (by rfl)))) pa_nil))))), ?_⟩
  walk_at "cr.k"
  refine s_lkS hx ?_
  cases hx.cases with
  | str t ht =>
    have hl : t.length ≤ sizeLine := Nat.le_of_lt (L2.small1000 (show t.cps.size ≤ 1000 by omega))
    have el : (t.length : Int) = (t.cps.size : Int) := rfl
    walk_at "cr.go"
    have ef : ∀ c : Bool, nmB t = c → ∀ H', Same H H' → Q (.bl c) H' := fun c e H' s => by rw [← e]; exact q H' s
    refine s_iteD (fun h0 => ?_) (fun h0 => ?_)
    · walk_at "cr.go"
      refine s_iteN (fun h1 => ?_) (fun h1 => ?_)
      · walk_at "cr.go"
        exact ef false (by unfold nmB; rw [decide_eq_false fun z => h1 (by omega)]; rfl) _ (Same.refl _)
      · walk_at "cr.go"
        refine c_strX (fun c => .bl (decide (97 ≤ c ∧ c ≤ 122))) ht ?_ ?_
        · intro c A N hc hS hN
          walk_at "cr.n"
          walk_at "cr.go"
          refine ⟨rfl, ?_⟩
          walk_at "cr.go"
          rw [in_letters]
          exact hN _ (Same.refl _)
        · intro p A hS hp hA
          walk_at "cr.go"
          refine s_allB (bs := t.cps.toList.map fun c => decide (97 ≤ c ∧ c ≤ 122)) (.of (by rw [hA, List.map_map]; rfl)) ?_
          refine ef _ ?_ _ hS
          unfold nmB
          rw [decide_eq_true (by omega), Bool.true_and, List.all_map]
          rfl
    · walk_at "cr.go"
      exact ef false (by unfold nmB; rw [decide_eq_false fun z => h0 (by omega)]; rfl) _ (Same.refl _)
  | _ =>
    walk_at "cr.go"
    exact q _ (Same.refl _)

/-! ### is_whole -/
def sp_is_whole (K : PySem.W.Frag) : Sp := fun vs H Q _ => ∃ (n : Nat) (x : V) (e : PyData) (a b : Int), vs = [x, .int a, .int b] ∧ Dl K H n x e ∧ Q (.bl (wholeB a b e)) H
theorem ok_is_whole (T : Top w K mg) : FnOk P w K mg base CX0 1 T.f_is_whole T.fd_is_whole ["one", "least", "most"] (sp_is_whole K) := by
  have hcl_Till := T.cl_Till
  have hna_Till_sums := T.na_Till_sums
  have hcl_Book := T.cl_Book
  have hna_Book_most := T.na_Book_most
  have hna_Book_rows := T.na_Book_rows
  have hna_Book_next_number := T.na_Book_next_number
  have hna_Book_past := T.na_Book_past
  have hna_Book_done := T.na_Book_done
  have hna_Book_undone := T.na_Book_undone
  have hna_Book_till := T.na_Book_till
  have hna_Book_closed := T.na_Book_closed
  refine T.F_is_whole.ok sc_is_whole (fun vs H Q E h => by obtain ⟨n, x, e, a, b, rfl, _⟩ := h; rfl) (fun cdv A outer s H vs Q E hr h => ?_)
  obtain ⟨n, x, e, a, b, rfl, hx, q⟩ := h
  refine ⟨_, (pss_one (ps_ret (pe_and (pe_callB call_isi (by rfl) T.n_isinstance (by decide +kernel) (pa_cons (pv 0) (pa_cons (pe_bltn (v := .ty "int") (by rfl) T.n_int (by decide +kernel) rfl) pa_nil))) (pe_and (pe_not (pe_callB call_isi (by rfl) T.n_isinstance (by decide +kernel) (pa_cons (pv 0) (pa_cons (pe_bltn (v := .ty "bool") (by rfl) T.n_bool (by decide +kernel) rfl) pa_nil)))) (pe_one (pe_chain op_leI op_leI (pv 1) (pv 0) (pv 2))))))), ?_⟩
  cases hx.cases with
  | int i =>
    walk_at "cr.k"
    refine s_iteD (fun h0 => ?_) (fun h0 => ?_)
    · walk_at "cr.go"
      by_cases h1 : i ≤ b
      · rw [decide_eq_true h1]
        rw [show wholeB a b (.int i) = true from decide_eq_true ⟨h0, h1⟩] at q
        exact q
      · rw [decide_eq_false h1]
        rw [show wholeB a b (.int i) = false from decide_eq_false fun z => h1 z.2] at q
        exact q
    · rw [show wholeB a b (.int i) = false from decide_eq_false fun z => h0 z.1] at q
      exact q
  | bl c =>
    walk_at "cr.k"
    exact q
  | non =>
    walk_at "cr.k"
    exact q
  | str s hv =>
    walk_at "cr.k"
    exact q
  | tup hv d l =>
    walk_at "cr.k"
    refine s_isTy (SqT.tyT hv) kit_ti ?_
    walk_at "cr.go"
    exact q
  | lst hv =>
    walk_at "cr.k"
    refine s_isTy (.base (.lst hv)) kit_li ?_
    walk_at "cr.go"
    exact q

/-! ### is_day -/
def sp_is_day (K : PySem.W.Frag) : Sp := spLk K (wholeB 0 400)
theorem ok_is_day (T : Top w K mg) : FnOk P w K mg base CX0 2 T.f_is_day T.fd_is_day ["one"] (sp_is_day K) := by
  have G_is_whole := ok_is_whole (P := P) (w := w) (base := base) T
  have hcl_Till := T.cl_Till
  have hna_Till_sums := T.na_Till_sums
  have hcl_Book := T.cl_Book
  have hna_Book_most := T.na_Book_most
  have hna_Book_rows := T.na_Book_rows
  have hna_Book_next_number := T.na_Book_next_number
  have hna_Book_past := T.na_Book_past
  have hna_Book_done := T.na_Book_done
  have hna_Book_undone := T.na_Book_undone
  have hna_Book_till := T.na_Book_till
  have hna_Book_closed := T.na_Book_closed
  refine T.F_is_day.ok sc_is_day (fun vs H Q E h => by obtain ⟨n, x, e, rfl, _⟩ := h; rfl) (fun cdv A outer s H vs Q E hr h => ?_)
  obtain ⟨n, x, e, rfl, hx, q⟩ := h
  refine ⟨_, (pss_one (ps_ret (pe_call (G_is_whole) (hr.mono (by decide)) (by rfl) T.g_is_whole T.k_is_whole T.b_is_whole .nil pass0 (pa_cons (pv 0) (pa_cons pe_int (pa_cons (pe_glob (v := .int 400) (by rfl) T.c_LAST ⟨_, rfl⟩) pa_nil)))))), ?_⟩
  walk_at "cr.k"
  exact ⟨n, x, e, 0, 400, rfl, hx, q _ (Same.refl _)⟩

/-! ### is_price -/
def sp_is_price (K : PySem.W.Frag) : Sp := spLk K (wholeB 1 1000000)
theorem ok_is_price (T : Top w K mg) : FnOk P w K mg base CX0 2 T.f_is_price T.fd_is_price ["one"] (sp_is_price K) := by
  have G_is_whole := ok_is_whole (P := P) (w := w) (base := base) T
  have hcl_Till := T.cl_Till
  have hna_Till_sums := T.na_Till_sums
  have hcl_Book := T.cl_Book
  have hna_Book_most := T.na_Book_most
  have hna_Book_rows := T.na_Book_rows
  have hna_Book_next_number := T.na_Book_next_number
  have hna_Book_past := T.na_Book_past
  have hna_Book_done := T.na_Book_done
  have hna_Book_undone := T.na_Book_undone
  have hna_Book_till := T.na_Book_till
  have hna_Book_closed := T.na_Book_closed
  refine T.F_is_price.ok sc_is_price (fun vs H Q E h => by obtain ⟨n, x, e, rfl, _⟩ := h; rfl) (fun cdv A outer s H vs Q E hr h => ?_)
  obtain ⟨n, x, e, rfl, hx, q⟩ := h
  refine ⟨_, (pss_one (ps_ret (pe_call (G_is_whole) (hr.mono (by decide)) (by rfl) T.g_is_whole T.k_is_whole T.b_is_whole .nil pass0 (pa_cons (pv 0) (pa_cons pe_int (pa_cons (pe_glob (v := .int 1000000) (by rfl) T.c_MOST_PRICE ⟨_, rfl⟩) pa_nil)))))), ?_⟩
  walk_at "cr.k"
  exact ⟨n, x, e, 1, 1000000, rfl, hx, q _ (Same.refl _)⟩

/-! ### is_sum -/
def sp_is_sum (K : PySem.W.Frag) : Sp := spLk K (wholeB 1 1000000000)
theorem ok_is_sum (T : Top w K mg) : FnOk P w K mg base CX0 2 T.f_is_sum T.fd_is_sum ["one"] (sp_is_sum K) := by
  have G_is_whole := ok_is_whole (P := P) (w := w) (base := base) T
  have hcl_Till := T.cl_Till
  have hna_Till_sums := T.na_Till_sums
  have hcl_Book := T.cl_Book
  have hna_Book_most := T.na_Book_most
  have hna_Book_rows := T.na_Book_rows
  have hna_Book_next_number := T.na_Book_next_number
  have hna_Book_past := T.na_Book_past
  have hna_Book_done := T.na_Book_done
  have hna_Book_undone := T.na_Book_undone
  have hna_Book_till := T.na_Book_till
  have hna_Book_closed := T.na_Book_closed
  refine T.F_is_sum.ok sc_is_sum (fun vs H Q E h => by obtain ⟨n, x, e, rfl, _⟩ := h; rfl) (fun cdv A outer s H vs Q E hr h => ?_)
  obtain ⟨n, x, e, rfl, hx, q⟩ := h
  refine ⟨_, (pss_one (ps_ret (pe_call (G_is_whole) (hr.mono (by decide)) (by rfl) T.g_is_whole T.k_is_whole T.b_is_whole .nil pass0 (pa_cons (pv 0) (pa_cons pe_int (pa_cons (pe_glob (v := .int 1000000000) (by rfl) T.c_MOST_SUM ⟨_, rfl⟩) pa_nil)))))), ?_⟩
  walk_at "cr.k"
  exact ⟨n, x, e, 1, 1000000000, rfl, hx, q _ (Same.refl _)⟩

/-! ### is_parts -/
def sp_is_parts (K : PySem.W.Frag) : Sp := spLk K (wholeB 1 10000)
theorem ok_is_parts (T : Top w K mg) : FnOk P w K mg base CX0 2 T.f_is_parts T.fd_is_parts ["one"] (sp_is_parts K) := by
  have G_is_whole := ok_is_whole (P := P) (w := w) (base := base) T
  have hcl_Till := T.cl_Till
  have hna_Till_sums := T.na_Till_sums
  have hcl_Book := T.cl_Book
  have hna_Book_most := T.na_Book_most
  have hna_Book_rows := T.na_Book_rows
  have hna_Book_next_number := T.na_Book_next_number
  have hna_Book_past := T.na_Book_past
  have hna_Book_done := T.na_Book_done
  have hna_Book_undone := T.na_Book_undone
  have hna_Book_till := T.na_Book_till
  have hna_Book_closed := T.na_Book_closed
  refine T.F_is_parts.ok sc_is_parts (fun vs H Q E h => by obtain ⟨n, x, e, rfl, _⟩ := h; rfl) (fun cdv A outer s H vs Q E hr h => ?_)
  obtain ⟨n, x, e, rfl, hx, q⟩ := h
  refine ⟨_, (pss_one (ps_ret (pe_call (G_is_whole) (hr.mono (by decide)) (by rfl) T.g_is_whole T.k_is_whole T.b_is_whole .nil pass0 (pa_cons (pv 0) (pa_cons pe_int (pa_cons (pe_glob (v := .int 10000) (by rfl) T.c_WHOLE ⟨_, rfl⟩) pa_nil)))))), ?_⟩
  walk_at "cr.k"
  exact ⟨n, x, e, 1, 10000, rfl, hx, q _ (Same.refl _)⟩

/-! ### is_rate -/
def sp_is_rate (K : PySem.W.Frag) : Sp := spLk K (wholeB 0 9999)
theorem ok_is_rate (T : Top w K mg) : FnOk P w K mg base CX0 2 T.f_is_rate T.fd_is_rate ["one"] (sp_is_rate K) := by
  have G_is_whole := ok_is_whole (P := P) (w := w) (base := base) T
  have hcl_Till := T.cl_Till
  have hna_Till_sums := T.na_Till_sums
  have hcl_Book := T.cl_Book
  have hna_Book_most := T.na_Book_most
  have hna_Book_rows := T.na_Book_rows
  have hna_Book_next_number := T.na_Book_next_number
  have hna_Book_past := T.na_Book_past
  have hna_Book_done := T.na_Book_done
  have hna_Book_undone := T.na_Book_undone
  have hna_Book_till := T.na_Book_till
  have hna_Book_closed := T.na_Book_closed
  refine T.F_is_rate.ok sc_is_rate (fun vs H Q E h => by obtain ⟨n, x, e, rfl, _⟩ := h; rfl) (fun cdv A outer s H vs Q E hr h => ?_)
  obtain ⟨n, x, e, rfl, hx, q⟩ := h
  refine ⟨_, (pss_one (ps_ret (pe_call (G_is_whole) (hr.mono (by decide)) (by rfl) T.g_is_whole T.k_is_whole T.b_is_whole .nil pass0 (pa_cons (pv 0) (pa_cons pe_int (pa_cons (pe_op op_subU (pe_glob (v := .int 10000) (by rfl) T.c_WHOLE ⟨_, rfl⟩) pe_int) pa_nil)))))), ?_⟩
  walk_at "cr.k"
  exact ⟨n, x, e, 0, 9999, rfl, hx, q _ (Same.refl _)⟩

/-! ### is_levy -/
def sp_is_levy (K : PySem.W.Frag) : Sp := spLk K (wholeB 1 9999)
theorem ok_is_levy (T : Top w K mg) : FnOk P w K mg base CX0 2 T.f_is_levy T.fd_is_levy ["one"] (sp_is_levy K) := by
  have G_is_whole := ok_is_whole (P := P) (w := w) (base := base) T
  have hcl_Till := T.cl_Till
  have hna_Till_sums := T.na_Till_sums
  have hcl_Book := T.cl_Book
  have hna_Book_most := T.na_Book_most
  have hna_Book_rows := T.na_Book_rows
  have hna_Book_next_number := T.na_Book_next_number
  have hna_Book_past := T.na_Book_past
  have hna_Book_done := T.na_Book_done
  have hna_Book_undone := T.na_Book_undone
  have hna_Book_till := T.na_Book_till
  have hna_Book_closed := T.na_Book_closed
  refine T.F_is_levy.ok sc_is_levy (fun vs H Q E h => by obtain ⟨n, x, e, rfl, _⟩ := h; rfl) (fun cdv A outer s H vs Q E hr h => ?_)
  obtain ⟨n, x, e, rfl, hx, q⟩ := h
  refine ⟨_, (pss_one (ps_ret (pe_call (G_is_whole) (hr.mono (by decide)) (by rfl) T.g_is_whole T.k_is_whole T.b_is_whole .nil pass0 (pa_cons (pv 0) (pa_cons pe_int (pa_cons (pe_op op_subU (pe_glob (v := .int 10000) (by rfl) T.c_WHOLE ⟨_, rfl⟩) pe_int) pa_nil)))))), ?_⟩
  walk_at "cr.k"
  exact ⟨n, x, e, 1, 9999, rfl, hx, q _ (Same.refl _)⟩

/-! ### is_pair -/
theorem pairB_2 (a b : PyData) : pairB (.tuple [a, b]) = (nameB a && wholeB 1 1000000 b) := rfl
theorem pairB_len {es : List PyData} (h : es.length ≠ 2) : pairB (.tuple es) = false := by
  match es, h with
  | [], _ => rfl
  | [_], _ => rfl
  | [_, _], h => exact absurd rfl h
  | _ :: _ :: _ :: _, _ => rfl
def sp_is_pair (K : PySem.W.Frag) : Sp := spLk K pairB
theorem ok_is_pair (T : Top w K mg) : FnOk P w K mg base CX0 3 T.f_is_pair T.fd_is_pair ["one"] (sp_is_pair K) := by
  have G_is_name := ok_is_name (P := P) (w := w) (base := base) T
  have G_is_price := ok_is_price (P := P) (w := w) (base := base) T
  have hcl_Till := T.cl_Till
  have hna_Till_sums := T.na_Till_sums
  have hcl_Book := T.cl_Book
  have hna_Book_most := T.na_Book_most
  have hna_Book_rows := T.na_Book_rows
  have hna_Book_next_number := T.na_Book_next_number
  have hna_Book_past := T.na_Book_past
  have hna_Book_done := T.na_Book_done
  have hna_Book_undone := T.na_Book_undone
  have hna_Book_till := T.na_Book_till
  have hna_Book_closed := T.na_Book_closed
  refine T.F_is_pair.ok sc_is_pair (fun vs H Q E h => by obtain ⟨n, x, e, rfl, _⟩ := h; rfl) (fun cdv A outer s H vs Q E hr h => ?_)
  obtain ⟨n, x, e, rfl, hx, q⟩ := h
  refine ⟨_, (pss_one (ps_ret (pe_and (pe_callB call_isi (by rfl) T.n_isinstance (by decide +kernel) (pa_cons (pv 0) (pa_cons (pe_bltn (v := .ty "tuple") (by rfl) T.n_tuple (by decide +kernel) rfl) pa_nil))) (pe_and (pe_cmpR (op_eqD hr.units) (pe_callB call_lenU (by rfl) T.n_len (by decide +kernel) (pa_cons (pv 0) pa_nil)) pe_int (nomark _)) (pe_and (pe_call (G_is_name) (hr.mono (by decide)) (by rfl) T.g_is_name T.k_is_name T.b_is_name .nil pass0 (pa_cons (pe_ix ix_seq (pv 0) pe_int (fun _ _ => rfl)) pa_nil)) (pe_one (pe_call (G_is_price) (hr.mono (by decide)) (by rfl) T.g_is_price T.k_is_price T.b_is_price .nil pass0 (pa_cons (pe_ix ix_seq (pv 0) pe_int (fun _ _ => rfl)) pa_nil)))))))), ?_⟩
  walk_at "cr.k"
  refine s_lkT hx ?_
  cases hx.cases with
  | tup hv d l =>
    walk_at "cr.go"
    refine s_lenQ hv ?_
    have hdl := d.len
    walk_at "cr.go"
    refine s_iteD (fun h2 => ?_) (fun h2 => ?_)
    · cases d with
      | nil => exact absurd h2 (by simp)
      | cons d0 d1 => cases d1 with
        | nil => exact absurd h2 (by simp)
        | cons d1 d2 => cases d2 with
          | cons d2 d3 => exact absurd h2 (by simp only [List.length_cons]; omega)
          | nil =>
            walk_at "cr.go"
            refine s_ixQ0 hv ?_
            walk_at "cr.go"
            refine ⟨_, _, _, rfl, d0, fun H1 s1 => ?_⟩
            refine ⟨_, rfl, s_iteB (fun hb => ?_) (fun hb => ?_)⟩
            · walk_at "cr.go"
              refine s_ixQ1 (sqT_kt (kt_same s1) hv) ?_
              walk_at "cr.go"
              refine ⟨_, _, _, rfl, d1.same s1, fun H2 s2 => ?_⟩
              have := q H2 (s1.trans s2)
              rw [pairB_2, hb, Bool.true_and] at this
              exact this
            · have := q H1 s1
              rw [pairB_2, hb, Bool.false_and] at this
              exact this
    · have := q H (Same.refl _)
      rw [pairB_len fun z => h2 (by rw [hdl, z]; rfl)] at this
      exact this
  | _ =>
    walk_at "cr.go"
    exact q _ (Same.refl _)

/-! ### is_pairs -/
theorem nodup_of_map2 {α β : Type} {f : α → β} : ∀ {l : List α}, (l.map f).Nodup → l.Nodup
  | [], _ => .nil
  | x :: l, h => by
    rw [List.map_cons] at h
    obtain ⟨h1, h2⟩ := List.nodup_cons.mp h
    exact List.nodup_cons.mpr ⟨fun z => h1 (List.mem_map_of_mem z), nodup_of_map2 h2⟩
def keyD : PyData → Str
  | .tuple (.str t :: _) => t
  | _ => ""
def pairsB : PyData → Bool
  | .tuple es => decide (1 ≤ es.length ∧ es.length ≤ 8) && (es.all pairB && decide ((es.map keyD).Nodup))
  | _ => false
theorem pairsB_t (es : List PyData) : pairsB (.tuple es) = (decide (1 ≤ es.length ∧ es.length ≤ 8) && (es.all pairB && decide ((es.map keyD).Nodup))) := rfl
theorem wholeB_inv {lo hi : Int} {e : PyData} (h : wholeB lo hi e = true) : ∃ i, e = .int i ∧ lo ≤ i ∧ i ≤ hi := by
  cases e with
  | int i => exact ⟨i, rfl, of_decide_eq_true h⟩
  | _ => exact Bool.noConfusion h
theorem nameB_inv {e : PyData} (h : nameB e = true) : ∃ t, e = .str t ∧ Nm t := by
  cases e with
  | str t => exact ⟨t, rfl, nmB_iff.mp h⟩
  | _ => exact Bool.noConfusion h
theorem pairB_inv {e : PyData} (h : pairB e = true) : ∃ t c, e = .tuple [.str t, .int c] ∧ Nm t ∧ 1 ≤ c ∧ c ≤ 1000000 := by
  match e, h with
  | .tuple [a, b], h =>
    rw [pairB_2, Bool.and_eq_true] at h
    obtain ⟨t, rfl, ht⟩ := nameB_inv h.1
    obtain ⟨c, rfl, h0, h1⟩ := wholeB_inv h.2
    exact ⟨t, c, rfl, ht, h0, h1⟩
theorem Dl.pair {K : PySem.W.Frag} {H : Hp} {n : Nat} {x : V} {t : Str} {c : Int} (h : Dl K H n x (.tuple [.str t, .int c])) : Dt K H x (.tuple [.str t, .int c]) := by
  cases h.cases with
  | tup hv d l => cases d with
    | cons d0 d1 => cases d1 with
      | cons d1 d2 => cases d2 with
        | nil =>
          obtain rfl := d0.dt_str
          obtain rfl := d1.dt_int
          exact .tup hv (.cons (.str _) (.cons (.int _) .nil))
theorem pairs_dt {K : PySem.W.Frag} {H : Hp} {n : Nat} : ∀ {xs : List V} {es : List PyData}, A2 (Dl K H n) xs es → es.all pairB = true → A2 (fun v e => Dt K H v e ∧ ∃ t c, e = .tuple [.str t, .int c]) xs es
  | _, _, .nil, _ => .nil
  | _, _, .cons a b, h => by
    rw [List.all_cons, Bool.and_eq_true] at h
    obtain ⟨t, c, e, _⟩ := pairB_inv h.1
    subst e
    exact .cons ⟨a.pair, t, c, rfl⟩ (pairs_dt b h.2)
def sp_is_pairs (K : PySem.W.Frag) : Sp := spLk K pairsB
theorem ok_is_pairs (T : Top w K mg) : FnOk P w K mg base CX0 4 T.f_is_pairs T.fd_is_pairs ["some"] (sp_is_pairs K) := by
  have G_is_pair := ok_is_pair (P := P) (w := w) (base := base) T
  have hcl_Till := T.cl_Till
  have hna_Till_sums := T.na_Till_sums
  have hcl_Book := T.cl_Book
  have hna_Book_most := T.na_Book_most
  have hna_Book_rows := T.na_Book_rows
  have hna_Book_next_number := T.na_Book_next_number
  have hna_Book_past := T.na_Book_past
  have hna_Book_done := T.na_Book_done
  have hna_Book_undone := T.na_Book_undone
  have hna_Book_till := T.na_Book_till
  have hna_Book_closed := T.na_Book_closed
  refine T.F_is_pairs.ok sc_is_pairs (fun vs H Q E h => by obtain ⟨n, x, e, rfl, _⟩ := h; rfl) (fun cdv A outer s H vs Q E hr h => ?_)
  obtain ⟨n, x, e, rfl, hx, q⟩ := h
  refine ⟨_, (pss_cons (ps_if (PW.pt (pw_or (pt_not (pt_tru (pe_callB call_isi (by rfl) T.n_isinstance (by decide +kernel) (pa_cons (pv 0) (pa_cons (pe_bltn (v := .ty "tuple") (by rfl) T.n_tuple (by decide +kernel) rfl) pa_nil))))) (pw_or1 (pt_not (pt_chain op_leI op_leI pe_int (pe_callB call_lenU (by rfl) T.n_len (by decide +kernel) (pa_cons (pv 0) pa_nil)) pe_int))))) (pss_one (ps_ret pe_bl)) pss_nil)
      (pss_cons (ps_if (pt_not (pt_tru (pe_callB (cr_all rfl) (by rfl) T.n_all (by decide +kernel) (pa_cons (pe_lc (own := [("one", 1)]) (g := gName 1) (tt := tYes) rfl sc_is_pairs.nd (pi_tup (pv 0)) (blkOk_by (N := ["some", "one", "thing", "count"]) (sc := defScope s_is_pairs) (by decide +kernel)) (fun _ _ _ _ _ => pg_name (i := 1) sc_is_pairs.nd rfl (Or.inl rfl)) (fun _ _ _ _ _ => pts_nil) (fun _ _ _ _ _ => (pe_call (G_is_pair) (hr.mono (by decide)) (by rfl) T.g_is_pair T.k_is_pair T.b_is_pair .nil pass0 (pa_cons (pv 1) pa_nil)))) pa_nil)))) (pss_one (ps_ret pe_bl)) pss_nil)
      (pss_one (ps_ret (pe_cmpR (op_eqD hr.units) (pe_callB call_lenK (by rfl) T.n_len (by decide +kernel) (pa_cons (pe_sk (own := [("thing", 2), ("count", 3)]) (g := gTup _ 2 (gCons (gName 2) (gCons (gName 3) gNil))) (tt := tYes) (fam_key _ _) rfl sc_is_pairs.nd (pi_tup (pv 0)) (blkOk_by (N := ["some", "one", "thing", "count"]) (sc := defScope s_is_pairs) (by decide +kernel)) (fun _ _ _ _ _ => pg_tup rfl (pgs_cons (pg_name (i := 2) sc_is_pairs.nd rfl (Or.inl rfl)) (pgs_cons (pg_name (i := 3) sc_is_pairs.nd rfl (Or.inl rfl)) pgs_nil))) (fun _ _ _ _ _ => pts_nil) (fun _ _ _ _ _ => (pv 2))) pa_nil)) (pe_callB call_lenU (by rfl) T.n_len (by decide +kernel) (pa_cons (pv 0) pa_nil)) (nomark _)))))), ?_⟩
  walk_at "cr.k"
  refine s_lkT hx ?_
  cases hx.cases with
  | tup hv d l =>
    rename_i a xs es
    have hdl := d.len
    have ef : ∀ c : Bool, pairsB (.tuple es) = c → ∀ H', Same H H' → Q (.bl c) H' := fun c e H' s => by rw [← e]; exact q H' s
    walk_at "cr.go"
    refine s_lenQ hv ?_
    walk_at "cr.go"
    refine s_iteD (fun h0 => ?_) (fun h0 => ?_)
    · walk_at "cr.go"
      refine s_iteN (fun h1 => ?_) (fun h1 => ?_)
      · walk_at "cr.go"
        exact ef false (by rw [pairsB_t, decide_eq_false fun z => h1 (by omega)]; rfl) _ (Same.refl _)
      · walk_at "cr.go"
        refine ⟨a, rfl, ⟨xs, hv⟩, ?_⟩
        refine c_tupS (fun _ v e => Dl K H n v e) (fun _ e y => y = .bl (pairB e)) (fun _ _ _ _ _ h => h) (fun _ _ _ _ _ h => h) hv d (by omega) ?_ ?_
        · intro x e A N hm hx hS hN
          walk_at "cr.n"
          walk_at "cr.go"
          refine ⟨rfl, ?_⟩
          walk_at "cr.go"
          exact ⟨n, x, e, rfl, hx.same hS, fun H1 s1 => hN _ _ s1 rfl⟩
        · intro p ys A hS hp hA h2
          have ey : ys = (es.map pairB).map V.bl := by
            clear hA hp hdl ef hx q h0 h1 d l hv
            induction h2 with
            | nil => rfl
            | cons r _ ih => rw [r, ih]; rfl
          subst ey
          walk_at "cr.go"
          refine s_allB (bs := es.map pairB) (.of hA) ?_
          walk_at "cr.go"
          have eall : (es.map pairB).all id = es.all pairB := by rw [List.all_map]; rfl
          rw [eall]
          have e18 : decide (1 ≤ es.length ∧ es.length ≤ 8) = true := decide_eq_true (by omega)
          refine s_iteB (fun hb => ?_) (fun hb => ?_)
          · rw [Bool.not_eq_true'] at hb
            walk_at "cr.go"
            exact ef false (by rw [pairsB_t, hb, Bool.false_and, Bool.and_false]) _ hS
          · rw [Bool.not_eq_false'] at hb
            have hpd := pairs_dt (d.mono fun _ _ z => z.same hS) hb
            have hvA : SqT K A a xs := sqT_kt (kt_same hS) hv
            walk_at "cr.go"
            refine ⟨a, rfl, ⟨xs, hvA⟩, ?_⟩
            refine c_setT (fun H v e => Dt K H v e ∧ ∃ t c, e = .tuple [.str t, .int c]) (fun e => (Sum.inr (keyD e) : Key)) (fun _ _ _ _ k h => ⟨h.1.mono k.kt, h.2⟩) hvA (by omega) hpd ?_ ?_
            · rintro x e B N hm ⟨hx, t, c, rfl⟩ hS2 hN
              walk_at "cr.n"
              walk_at "cr.go"
              refine ⟨rfl, ?_⟩
              walk_at "cr.go"
              exact hN _ (Same.refl _)
            · intro p3 A3 hS3 hp3 hA3
              have hv3 : SqT K A3 a xs := sqT_kt (kt_same hS3) hvA
              walk_at "cr.go"
              refine s_lenQ hv3 ?_
              walk_at "cr.go"
              have em : (es.map fun e => (Sum.inr (keyD e) : Key)) = (es.map keyD).map Sum.inr := by rw [List.map_map]; rfl
              by_cases hn : (es.map keyD).Nodup
              · have h5 : ((es.map keyD).map (Sum.inr : Str → Key)).Nodup := List.Pairwise.map _ (fun a b h q => h (Sum.inr.inj q)) hn
                rw [em, accK_nodup h5, decide_eq_true (by rw [List.length_map, List.length_map]; omega)]
                exact ef true (by rw [pairsB_t, e18, hb, decide_eq_true hn]; rfl) _ (hS.trans hS3)
              · have h5 : ¬ ((es.map keyD).map (Sum.inr : Str → Key)).Nodup := fun z => hn (nodup_of_map2 z)
                have h6 := accK_lt h5
                rw [List.length_map, List.length_map] at h6
                rw [em, decide_eq_false (by omega)]
                exact ef false (by rw [pairsB_t, e18, hb, decide_eq_false hn]; rfl) _ (hS.trans hS3)
    · walk_at "cr.go"
      exact ef false (by rw [pairsB_t, decide_eq_false fun z => h0 (by omega)]; rfl) _ (Same.refl _)
  | _ =>
    walk_at "cr.go"
    exact q _ (Same.refl _)

/-! ### checked -/
/-- which def looks at a place, and what it promises -/
def FormSp (T : Top w K mg) (f : Addr) (sp : Sp) : Prop := (f = T.f_is_day ∧ sp = sp_is_day K) ∨ (f = T.f_is_name ∧ sp = sp_is_name K) ∨ (f = T.f_is_price ∧ sp = sp_is_price K) ∨ (f = T.f_is_sum ∧ sp = sp_is_sum K) ∨ (f = T.f_is_parts ∧ sp = sp_is_parts K) ∨ (f = T.f_is_rate ∧ sp = sp_is_rate K) ∨ (f = T.f_is_levy ∧ sp = sp_is_levy K) ∨ (f = T.f_is_pairs ∧ sp = sp_is_pairs K)
theorem form_held (T : Top w K mg) {k1 k2 k3 k4 k5 k6 k7 k8 : Nat} (G1 : FnOk P w K mg base CX0 k1 T.f_is_day T.fd_is_day ["one"] (sp_is_day K)) (G2 : FnOk P w K mg base CX0 k2 T.f_is_name T.fd_is_name ["one"] (sp_is_name K)) (G3 : FnOk P w K mg base CX0 k3 T.f_is_price T.fd_is_price ["one"] (sp_is_price K)) (G4 : FnOk P w K mg base CX0 k4 T.f_is_sum T.fd_is_sum ["one"] (sp_is_sum K)) (G5 : FnOk P w K mg base CX0 k5 T.f_is_parts T.fd_is_parts ["one"] (sp_is_parts K)) (G6 : FnOk P w K mg base CX0 k6 T.f_is_rate T.fd_is_rate ["one"] (sp_is_rate K)) (G7 : FnOk P w K mg base CX0 k7 T.f_is_levy T.fd_is_levy ["one"] (sp_is_levy K)) (G8 : FnOk P w K mg base CX0 k8 T.f_is_pairs T.fd_is_pairs ["some"] (sp_is_pairs K))
    (l1 : k1 ≤ 5 := by decide) (l2 : k2 ≤ 5 := by decide) (l3 : k3 ≤ 5 := by decide) (l4 : k4 ≤ 5 := by decide) (l5 : k5 ≤ 5 := by decide) (l6 : k6 ≤ 5 := by decide) (l7 : k7 ≤ 5 := by decide) (l8 : k8 ≤ 5 := by decide) : ∀ f sp, FormSp T f sp → ∃ k, k ≤ 5 ∧ Held P w K mg base k f sp := by
  rintro f sp (⟨rfl, rfl⟩ | ⟨rfl, rfl⟩ | ⟨rfl, rfl⟩ | ⟨rfl, rfl⟩ | ⟨rfl, rfl⟩ | ⟨rfl, rfl⟩ | ⟨rfl, rfl⟩ | ⟨rfl, rfl⟩)
  · exact ⟨k1, l1, ⟨_, _, G1, T.k_is_day, T.b_is_day⟩⟩
  · exact ⟨k2, l2, ⟨_, _, G2, T.k_is_name, T.b_is_name⟩⟩
  · exact ⟨k3, l3, ⟨_, _, G3, T.k_is_price, T.b_is_price⟩⟩
  · exact ⟨k4, l4, ⟨_, _, G4, T.k_is_sum, T.b_is_sum⟩⟩
  · exact ⟨k5, l5, ⟨_, _, G5, T.k_is_parts, T.b_is_parts⟩⟩
  · exact ⟨k6, l6, ⟨_, _, G6, T.k_is_rate, T.b_is_rate⟩⟩
  · exact ⟨k7, l7, ⟨_, _, G7, T.k_is_levy, T.b_is_levy⟩⟩
  · exact ⟨k8, l8, ⟨_, _, G8, T.k_is_pairs, T.b_is_pairs⟩⟩
/-- the looks of a kind -/
def formsB (k : Str) : List (PyData → Bool) :=
  if k = "price" then [wholeB 0 400, nameB, wholeB 1 1000000] else if k = "mix" then [wholeB 0 400, pairsB] else if k ∈ (["come", "draw"] : List Str) then [wholeB 0 400, nameB, wholeB 1 1000000000]
  else if k = "go" then [wholeB 0 400, nameB, wholeB 1 10000] else if k = "give" then [wholeB 0 400, nameB, nameB, wholeB 1 10000] else if k = "rate" then [wholeB 0 400, wholeB 0 9999]
  else if k = "harvest" then [wholeB 0 400] else if k ∈ (["aside", "home"] : List Str) then [wholeB 0 400, nameB] else if k = "levy" then [wholeB 0 400, wholeB 1 9999] else [wholeB 0 400, wholeB 1 10000]
def FormOk (T : Top w K mg) (f : Addr) (g : PyData → Bool) : Prop := FormSp T f (spLk K g)
theorem fo_day (T : Top w K mg) : FormOk T T.f_is_day (wholeB 0 400) := .inl ⟨rfl, rfl⟩
theorem fo_name (T : Top w K mg) : FormOk T T.f_is_name nameB := .inr (.inl ⟨rfl, rfl⟩)
theorem fo_price (T : Top w K mg) : FormOk T T.f_is_price (wholeB 1 1000000) := .inr (.inr (.inl ⟨rfl, rfl⟩))
theorem fo_sum (T : Top w K mg) : FormOk T T.f_is_sum (wholeB 1 1000000000) := .inr (.inr (.inr (.inl ⟨rfl, rfl⟩)))
theorem fo_parts (T : Top w K mg) : FormOk T T.f_is_parts (wholeB 1 10000) := .inr (.inr (.inr (.inr (.inl ⟨rfl, rfl⟩))))
theorem fo_rate (T : Top w K mg) : FormOk T T.f_is_rate (wholeB 0 9999) := .inr (.inr (.inr (.inr (.inr (.inl ⟨rfl, rfl⟩)))))
theorem fo_levy (T : Top w K mg) : FormOk T T.f_is_levy (wholeB 1 9999) := .inr (.inr (.inr (.inr (.inr (.inr (.inl ⟨rfl, rfl⟩))))))
theorem fo_pairs (T : Top w K mg) : FormOk T T.f_is_pairs pairsB := .inr (.inr (.inr (.inr (.inr (.inr (.inr ⟨rfl, rfl⟩))))))
theorem kinds_of {P : Str → Prop} (h1 : P "price") (h2 : P "mix") (h3 : P "come") (h4 : P "go") (h5 : P "draw") (h6 : P "give") (h7 : P "rate") (h8 : P "harvest") (h9 : P "aside") (h10 : P "home") (h11 : P "levy") (h12 : P "hurdle") {k : Str} (h : k ∈ kindsE) : P k := by
  unfold kindsE at h
  simp only [List.mem_cons, List.not_mem_nil, or_false] at h
  rcases h with rfl | rfl | rfl | rfl | rfl | rfl | rfl | rfl | rfl | rfl | rfl | rfl <;> assumption
theorem fb_price : formsB "price" = [wholeB 0 400, nameB, wholeB 1 1000000] := rfl
theorem fb_mix : formsB "mix" = [wholeB 0 400, pairsB] := by unfold formsB; rw [if_neg (by decide +kernel), if_pos rfl]
theorem fb_come : formsB "come" = [wholeB 0 400, nameB, wholeB 1 1000000000] := by unfold formsB; rw [if_neg (by decide +kernel), if_neg (by decide +kernel), if_pos (by decide +kernel)]
theorem fb_draw : formsB "draw" = [wholeB 0 400, nameB, wholeB 1 1000000000] := by unfold formsB; rw [if_neg (by decide +kernel), if_neg (by decide +kernel), if_pos (by decide +kernel)]
theorem fb_go : formsB "go" = [wholeB 0 400, nameB, wholeB 1 10000] := by unfold formsB; rw [if_neg (by decide +kernel), if_neg (by decide +kernel), if_neg (by decide +kernel), if_pos rfl]
theorem fb_give : formsB "give" = [wholeB 0 400, nameB, nameB, wholeB 1 10000] := by unfold formsB; rw [if_neg (by decide +kernel), if_neg (by decide +kernel), if_neg (by decide +kernel), if_neg (by decide +kernel), if_pos rfl]
theorem fb_rate : formsB "rate" = [wholeB 0 400, wholeB 0 9999] := by unfold formsB; rw [if_neg (by decide +kernel), if_neg (by decide +kernel), if_neg (by decide +kernel), if_neg (by decide +kernel), if_neg (by decide +kernel), if_pos rfl]
theorem fb_harvest : formsB "harvest" = [wholeB 0 400] := by unfold formsB; rw [if_neg (by decide +kernel), if_neg (by decide +kernel), if_neg (by decide +kernel), if_neg (by decide +kernel), if_neg (by decide +kernel), if_neg (by decide +kernel), if_pos rfl]
theorem fb_aside : formsB "aside" = [wholeB 0 400, nameB] := by unfold formsB; rw [if_neg (by decide +kernel), if_neg (by decide +kernel), if_neg (by decide +kernel), if_neg (by decide +kernel), if_neg (by decide +kernel), if_neg (by decide +kernel), if_neg (by decide +kernel), if_pos (by decide +kernel)]
theorem fb_home : formsB "home" = [wholeB 0 400, nameB] := by unfold formsB; rw [if_neg (by decide +kernel), if_neg (by decide +kernel), if_neg (by decide +kernel), if_neg (by decide +kernel), if_neg (by decide +kernel), if_neg (by decide +kernel), if_neg (by decide +kernel), if_pos (by decide +kernel)]
theorem fb_levy : formsB "levy" = [wholeB 0 400, wholeB 1 9999] := by unfold formsB; rw [if_neg (by decide +kernel), if_neg (by decide +kernel), if_neg (by decide +kernel), if_neg (by decide +kernel), if_neg (by decide +kernel), if_neg (by decide +kernel), if_neg (by decide +kernel), if_neg (by decide +kernel), if_pos rfl]
theorem fb_hurdle : formsB "hurdle" = [wholeB 0 400, wholeB 1 10000] := by unfold formsB; rw [if_neg (by decide +kernel), if_neg (by decide +kernel), if_neg (by decide +kernel), if_neg (by decide +kernel), if_neg (by decide +kernel), if_neg (by decide +kernel), if_neg (by decide +kernel), if_neg (by decide +kernel), if_neg (by decide +kernel)]
theorem Top.forms (T : Top w K mg) {k : Str} (h : k ∈ kindsE) : ∃ (a : Addr) (fs : List Addr), PySem.W.nsIn K T.a_FORMS k = some (some (.ref a)) ∧ (∀ H, SqT K H a (fs.map V.ref)) ∧ A2 (FormOk T) fs (formsB k) := by
  refine kinds_of (P := fun k => ∃ (a : Addr) (fs : List Addr), PySem.W.nsIn K T.a_FORMS k = some (some (.ref a)) ∧ (∀ H, SqT K H a (fs.map V.ref)) ∧ A2 (FormOk T) fs (formsB k)) ?_ ?_ ?_ ?_ ?_ ?_ ?_ ?_ ?_ ?_ ?_ ?_ h
  · exact ⟨_, [_, _, _], T.i_FORMS_price, T.q_FORMS_price, fb_price ▸ .cons (fo_day T) (.cons (fo_name T) (.cons (fo_price T) .nil))⟩
  · exact ⟨_, [_, _], T.i_FORMS_mix, T.q_FORMS_mix, fb_mix ▸ .cons (fo_day T) (.cons (fo_pairs T) .nil)⟩
  · exact ⟨_, [_, _, _], T.i_FORMS_come, T.q_FORMS_come, fb_come ▸ .cons (fo_day T) (.cons (fo_name T) (.cons (fo_sum T) .nil))⟩
  · exact ⟨_, [_, _, _], T.i_FORMS_go, T.q_FORMS_go, fb_go ▸ .cons (fo_day T) (.cons (fo_name T) (.cons (fo_parts T) .nil))⟩
  · exact ⟨_, [_, _, _], T.i_FORMS_draw, T.q_FORMS_draw, fb_draw ▸ .cons (fo_day T) (.cons (fo_name T) (.cons (fo_sum T) .nil))⟩
  · exact ⟨_, [_, _, _, _], T.i_FORMS_give, T.q_FORMS_give, fb_give ▸ .cons (fo_day T) (.cons (fo_name T) (.cons (fo_name T) (.cons (fo_parts T) .nil)))⟩
  · exact ⟨_, [_, _], T.i_FORMS_rate, T.q_FORMS_rate, fb_rate ▸ .cons (fo_day T) (.cons (fo_rate T) .nil)⟩
  · exact ⟨_, [_], T.i_FORMS_harvest, T.q_FORMS_harvest, fb_harvest ▸ .cons (fo_day T) .nil⟩
  · exact ⟨_, [_, _], T.i_FORMS_aside, T.q_FORMS_aside, fb_aside ▸ .cons (fo_day T) (.cons (fo_name T) .nil)⟩
  · exact ⟨_, [_, _], T.i_FORMS_home, T.q_FORMS_home, fb_home ▸ .cons (fo_day T) (.cons (fo_name T) .nil)⟩
  · exact ⟨_, [_, _], T.i_FORMS_levy, T.q_FORMS_levy, fb_levy ▸ .cons (fo_day T) (.cons (fo_levy T) .nil)⟩
  · exact ⟨_, [_, _], T.i_FORMS_hurdle, T.q_FORMS_hurdle, fb_hurdle ▸ .cons (fo_day T) (.cons (fo_parts T) .nil)⟩
/-- the place j is as it should be -/
def OkAt (k : Str) (rest : List PyData) (j : Nat) : Prop := ∃ g e, (formsB k)[j]? = some g ∧ rest[j]? = some e ∧ g e = true ∧ (k = "give" → j = 2 → rest[1]? ≠ rest[2]?)
def BadAt (k : Str) (rest : List PyData) (j : Nat) : Prop := rest.length = (formsB k).length ∧ j < rest.length ∧ (∀ i, i < j → OkAt k rest i) ∧ ¬ OkAt k rest j
/-- no tuple, an empty one, no text ahead, no such kind, a wrong count -/
def Bad0 (K : PySem.W.Frag) (aF : Addr) : PyData → Prop
  | .tuple (.str k :: rest) => PySem.W.nsIn K aF k = some none ∨ (k ∈ kindsE ∧ rest.length ≠ (formsB k).length)
  | _ => True
def formR (k : Str) (rest : List PyData) : List PyData := if k = "mix" then match rest with
  | [.tuple ps] => [.tuple (sortD ps)]
  | _ => rest else rest
theorem give_two {k : Str} {d : Int} {rest : List PyData} (h : EntOf Nm Nm 400 k d rest) (e : k = "give") : ∃ t u p, rest = [.str t, .str u, .int p] ∧ t ≠ u ∧ Nm t ∧ Nm u := by
  cases h with
  | give d0 d1 t u n p0 p1 => exact ⟨_, _, _, rfl, n, t, u⟩
  | _ => exact absurd e (by decide +kernel)
theorem mix_ps {k : Str} {d : Int} {rest : List PyData} (h : EntOf Nm Nm 400 k d rest) (e : k = "mix") : ∃ ps, rest = [pairsD ps] ∧ PsOf Nm ps := by
  cases h with
  | mix d0 d1 h => exact ⟨_, rfl, h⟩
  | _ => exact absurd e (by decide +kernel)
theorem ps_alike (ps : List (Str × Int)) : PySem.W.AllAlike (ps.map fun p => PyData.tuple [.str p.1, .int p.2]) := PySem.W.AllAlike.of fun a b => by simp [PySem.W.alike, PySem.W.alikeAll]
theorem ps_sortable (ps : List (Str × Int)) : PySem.W.Sortable (ps.map fun p => PyData.tuple [.str p.1, .int p.2]) := PySem.W.Sortable.tuples fun b => ⟨_, _, rfl⟩
theorem ps_depth (ps : List (Str × Int)) : ∀ d, d ∈ (ps.map fun p => PyData.tuple [.str p.1, .int p.2]) → d.depth ≤ 32 := fun d hd => by
  obtain ⟨p, _, rfl⟩ := List.mem_map.mp hd
  simp [PyData.depth, PyData.depthAll]
theorem dataLe_total : PySem.W.TotalLe (PySem.W.dataLe false (id : PyData → PyData)) := PySem.W.sortLe_total _ _ _
theorem sortD_idem (ds : List PyData) : sortD (sortD ds) = sortD ds := List.mergeSort_of_pairwise (PySem.W.sort_pairwise dataLe_total ds)
theorem sortD_perm (ds : List PyData) : (sortD ds).Perm ds := List.mergeSort_perm _ _
def sortP (ps : List (Str × Int)) : List (Str × Int) := ps.mergeSort (PySem.W.dataLe false fun p => PyData.tuple [.str p.1, .int p.2])
theorem sortP_D (ps : List (Str × Int)) : sortD (ps.map fun p => PyData.tuple [.str p.1, .int p.2]) = (sortP ps).map fun p => PyData.tuple [.str p.1, .int p.2] :=
  (PySem.W.sort_maps (r := PySem.W.dataLe false fun p : Str × Int => PyData.tuple [.str p.1, .int p.2]) (s := PySem.W.dataLe false (id : PyData → PyData)) (fun p => PyData.tuple [.str p.1, .int p.2]) (l := ps) (fun _ _ _ _ => rfl)).symm
theorem sortP_perm (ps : List (Str × Int)) : (sortP ps).Perm ps := List.mergeSort_perm _ _
theorem PsOf.perm {Tn : Str → Prop} {ps qs : List (Str × Int)} (h : PsOf Tn ps) (p : qs.Perm ps) : PsOf Tn qs :=
  ⟨by rw [p.length_eq]; exact h.l0, by rw [p.length_eq]; exact h.l1, ((p.map Prod.fst).nodup_iff).mpr h.nd, fun x hx => h.ok x (p.mem_iff.mp hx)⟩
theorem formR_other {k : Str} (h : k ≠ "mix") (rest : List PyData) : formR k rest = rest := by unfold formR; rw [if_neg h]
theorem formR_mix (ps : List (Str × Int)) : formR "mix" [pairsD ps] = [pairsD (sortP ps)] := by
  unfold formR
  rw [if_pos rfl]
  show [PyData.tuple (sortD _)] = _
  rw [sortP_D]
theorem form_ent {Hn Tn : Str → Prop} {L d : Int} {k : Str} {rest : List PyData} (h : EntOf Hn Tn L k d rest) : EntOf Hn Tn L k d (formR k rest) := by
  cases h with
  | mix d0 d1 h => rw [formR_mix]; exact .mix d0 d1 (h.perm (sortP_perm _))
  | price d0 d1 t p0 p1 => rw [formR_other (by decide +kernel)]; exact .price d0 d1 t p0 p1
  | come d0 d1 t p0 p1 => rw [formR_other (by decide +kernel)]; exact .come d0 d1 t p0 p1
  | go d0 d1 t p0 p1 => rw [formR_other (by decide +kernel)]; exact .go d0 d1 t p0 p1
  | draw d0 d1 t p0 p1 => rw [formR_other (by decide +kernel)]; exact .draw d0 d1 t p0 p1
  | give d0 d1 t u n p0 p1 => rw [formR_other (by decide +kernel)]; exact .give d0 d1 t u n p0 p1
  | rate d0 d1 p0 p1 => rw [formR_other (by decide +kernel)]; exact .rate d0 d1 p0 p1
  | harvest d0 d1 => rw [formR_other (by decide +kernel)]; exact .harvest d0 d1
  | aside d0 d1 t => rw [formR_other (by decide +kernel)]; exact .aside d0 d1 t
  | home d0 d1 t => rw [formR_other (by decide +kernel)]; exact .home d0 d1 t
  | levy d0 d1 p0 p1 => rw [formR_other (by decide +kernel)]; exact .levy d0 d1 p0 p1
  | hurdle d0 d1 p0 p1 => rw [formR_other (by decide +kernel)]; exact .hurdle d0 d1 p0 p1
theorem form_idem {Hn Tn : Str → Prop} {L d : Int} {k : Str} {rest : List PyData} (h : EntOf Hn Tn L k d rest) : formR k (formR k rest) = formR k rest := by
  by_cases e : k = "mix"
  · cases h with
    | mix d0 d1 h =>
      rw [formR_mix, formR_mix]
      have := sortD_idem (List.map (fun p : Str × Int => PyData.tuple [.str p.1, .int p.2]) ‹List (Str × Int)›)
      rw [sortP_D, sortP_D] at this
      show [PyData.tuple _] = [PyData.tuple _]
      rw [this]
    | _ => exact absurd e (by decide +kernel)
  · rw [formR_other e, formR_other e]
theorem a2_get {α β : Type} {R : α → β → Prop} : ∀ {xs : List α} {ys : List β}, A2 R xs ys → ∀ {j : Nat} {x : α} {y : β}, xs[j]? = some x → ys[j]? = some y → R x y
  | _, _, .cons a b, 0, _, _, h1, h2 => by
    rw [List.getElem?_cons_zero] at h1 h2
    rw [← Option.some.inj h1, ← Option.some.inj h2]
    exact a
  | _, _, .cons a b, j + 1, _, _, h1, h2 => by
    rw [List.getElem?_cons_succ] at h1 h2
    exact a2_get b h1 h2
theorem a2_of {α β : Type} {R : α → β → Prop} : ∀ {xs : List α} {ys : List β}, xs.length = ys.length → (∀ (j : Nat) (x : α) (y : β), xs[j]? = some x → ys[j]? = some y → R x y) → A2 R xs ys
  | [], [], _, _ => .nil
  | [], _ :: _, h, _ => nomatch h
  | _ :: _, [], h, _ => nomatch h
  | x :: xs, y :: ys, h, r => .cons (r 0 x y rfl rfl) (a2_of (Nat.succ.inj h) fun j a b h1 h2 => r (j + 1) a b h1 h2)
theorem ok_all {k : Str} {rest : List PyData} (h : A2 (fun (g : PyData → Bool) e => g e = true) (formsB k) rest) (n : k = "give" → rest[1]? ≠ rest[2]?) : rest.length = (formsB k).length ∧ ∀ j, j < rest.length → OkAt k rest j := by
  refine ⟨h.len.symm, fun j hj => ?_⟩
  have h1 : j < (formsB k).length := by rw [h.len]; exact hj
  exact ⟨_, _, List.getElem?_eq_getElem h1, List.getElem?_eq_getElem hj, a2_get h (List.getElem?_eq_getElem h1) (List.getElem?_eq_getElem hj), fun e _ => n e⟩
theorem wh_ok {lo hi i : Int} (h0 : lo ≤ i) (h1 : i ≤ hi) : wholeB lo hi (.int i) = true := decide_eq_true ⟨h0, h1⟩
theorem nm_ok {t : Str} (h : Nm t) : nameB (.str t) = true := nmB_iff.mpr h
theorem prs_ok {ps : List (Str × Int)} (h : PsOf Nm ps) : pairsB (pairsD ps) = true := by
  rw [pairsB_t, Bool.and_eq_true, Bool.and_eq_true, decide_eq_true_eq, decide_eq_true_eq, List.all_eq_true, List.length_map]
  refine ⟨⟨h.l0, h.l1⟩, fun e he => ?_, ?_⟩
  · obtain ⟨p, hp, rfl⟩ := List.mem_map.mp he
    obtain ⟨h1, h2, h3⟩ := h.ok p hp
    rw [pairB_2, nm_ok h1, wh_ok h2 h3]
    rfl
  · rw [List.map_map]
    exact h.nd
theorem prs_inv {e : PyData} (h : pairsB e = true) : ∃ ps, e = pairsD ps ∧ PsOf Nm ps := by
  match e, h with
  | .tuple es, h =>
    rw [pairsB_t, Bool.and_eq_true, Bool.and_eq_true, decide_eq_true_eq, decide_eq_true_eq, List.all_eq_true] at h
    obtain ⟨⟨h0, h1⟩, h2, h3⟩ := h
    have key : ∀ l : List PyData, (∀ e, e ∈ l → pairB e = true) → ∃ ps : List (Str × Int), l = ps.map (fun p => PyData.tuple [.str p.1, .int p.2]) ∧ l.map keyD = ps.map Prod.fst ∧ ∀ p, p ∈ ps → Nm p.1 ∧ 1 ≤ p.2 ∧ p.2 ≤ 1000000 := by
      intro l
      induction l with
      | nil => exact fun _ => ⟨[], rfl, rfl, fun _ h => nomatch h⟩
      | cons e l ih =>
        intro h
        obtain ⟨ps, e1, e2, e3⟩ := ih fun y hy => h y (List.mem_cons_of_mem _ hy)
        obtain ⟨t, c, rfl, h4, h5, h6⟩ := pairB_inv (h e List.mem_cons_self)
        refine ⟨(t, c) :: ps, by rw [e1]; rfl, by rw [List.map_cons, e2]; rfl, fun p hp => ?_⟩
        rcases List.mem_cons.mp hp with rfl | hp
        · exact ⟨h4, h5, h6⟩
        · exact e3 p hp
    obtain ⟨ps, e1, e2, e3⟩ := key es h2
    subst e1
    rw [e2] at h3
    rw [List.length_map] at h0 h1
    exact ⟨ps, rfl, h0, h1, h3, e3⟩
theorem ok_ent {k : Str} {d : Int} {rest : List PyData} (h : EntOf Nm Nm 400 k d rest) : (.int d :: rest : List PyData).length = (formsB k).length ∧ ∀ j, j < (.int d :: rest : List PyData).length → OkAt k (.int d :: rest) j := by
  cases h with
  | price d0 d1 t p0 p1 => exact ok_all (fb_price ▸ .cons (wh_ok d0 d1) (.cons (nm_ok t) (.cons (wh_ok p0 p1) .nil))) fun e => absurd e (by decide +kernel)
  | mix d0 d1 h => exact ok_all (fb_mix ▸ .cons (wh_ok d0 d1) (.cons (prs_ok h) .nil)) fun e => absurd e (by decide +kernel)
  | come d0 d1 t p0 p1 => exact ok_all (fb_come ▸ .cons (wh_ok d0 d1) (.cons (nm_ok t) (.cons (wh_ok p0 p1) .nil))) fun e => absurd e (by decide +kernel)
  | go d0 d1 t p0 p1 => exact ok_all (fb_go ▸ .cons (wh_ok d0 d1) (.cons (nm_ok t) (.cons (wh_ok p0 p1) .nil))) fun e => absurd e (by decide +kernel)
  | draw d0 d1 t p0 p1 => exact ok_all (fb_draw ▸ .cons (wh_ok d0 d1) (.cons (nm_ok t) (.cons (wh_ok p0 p1) .nil))) fun e => absurd e (by decide +kernel)
  | give d0 d1 t u n p0 p1 => exact ok_all (fb_give ▸ .cons (wh_ok d0 d1) (.cons (nm_ok t) (.cons (nm_ok u) (.cons (wh_ok p0 p1) .nil)))) fun _ z => n (PyData.str.inj (Option.some.inj z))
  | rate d0 d1 p0 p1 => exact ok_all (fb_rate ▸ .cons (wh_ok d0 d1) (.cons (wh_ok p0 p1) .nil)) fun e => absurd e (by decide +kernel)
  | harvest d0 d1 => exact ok_all (fb_harvest ▸ .cons (wh_ok d0 d1) .nil) fun e => absurd e (by decide +kernel)
  | aside d0 d1 t => exact ok_all (fb_aside ▸ .cons (wh_ok d0 d1) (.cons (nm_ok t) .nil)) fun e => absurd e (by decide +kernel)
  | home d0 d1 t => exact ok_all (fb_home ▸ .cons (wh_ok d0 d1) (.cons (nm_ok t) .nil)) fun e => absurd e (by decide +kernel)
  | levy d0 d1 p0 p1 => exact ok_all (fb_levy ▸ .cons (wh_ok d0 d1) (.cons (wh_ok p0 p1) .nil)) fun e => absurd e (by decide +kernel)
  | hurdle d0 d1 p0 p1 => exact ok_all (fb_hurdle ▸ .cons (wh_ok d0 d1) (.cons (wh_ok p0 p1) .nil)) fun e => absurd e (by decide +kernel)
theorem ok_a2 {k : Str} {rest : List PyData} (hl : rest.length = (formsB k).length) (h : ∀ j, j < rest.length → OkAt k rest j) : A2 (fun (g : PyData → Bool) e => g e = true) (formsB k) rest :=
  a2_of hl.symm fun j g e h1 h2 => by
    obtain ⟨g', e', h3, h4, h5, _⟩ := h j (List.getElem?_eq_some_iff.mp h2).1
    rw [h1] at h3
    rw [h2] at h4
    cases h3; cases h4
    exact h5
theorem ent_ok {k : Str} {rest : List PyData} (hk : k ∈ kindsE) (hl : rest.length = (formsB k).length) (h : ∀ j, j < rest.length → OkAt k rest j) : ∃ d r, rest = .int d :: r ∧ EntOf Nm Nm 400 k d r := by
  have ha := ok_a2 hl h
  revert ha h hl
  refine kinds_of (P := fun k => rest.length = (formsB k).length → (∀ j, j < rest.length → OkAt k rest j) → A2 (fun (g : PyData → Bool) e => g e = true) (formsB k) rest → ∃ d r, rest = .int d :: r ∧ EntOf Nm Nm 400 k d r) ?_ ?_ ?_ ?_ ?_ ?_ ?_ ?_ ?_ ?_ ?_ ?_ hk
  · rw [fb_price]; intro _ _ ha
    cases ha with | cons a0 r => cases r with | cons a1 r => cases r with | cons a2 r => cases r with | nil =>
    obtain ⟨d, rfl, d0, d1⟩ := wholeB_inv a0; obtain ⟨t, rfl, ht⟩ := nameB_inv a1; obtain ⟨c, rfl, c0, c1⟩ := wholeB_inv a2
    exact ⟨_, _, rfl, .price d0 d1 ht c0 c1⟩
  · rw [fb_mix]; intro _ _ ha
    cases ha with | cons a0 r => cases r with | cons a1 r => cases r with | nil =>
    obtain ⟨d, rfl, d0, d1⟩ := wholeB_inv a0; obtain ⟨ps, rfl, hp⟩ := prs_inv a1
    exact ⟨_, _, rfl, .mix d0 d1 hp⟩
  · rw [fb_come]; intro _ _ ha
    cases ha with | cons a0 r => cases r with | cons a1 r => cases r with | cons a2 r => cases r with | nil =>
    obtain ⟨d, rfl, d0, d1⟩ := wholeB_inv a0; obtain ⟨t, rfl, ht⟩ := nameB_inv a1; obtain ⟨c, rfl, c0, c1⟩ := wholeB_inv a2
    exact ⟨_, _, rfl, .come d0 d1 ht c0 c1⟩
  · rw [fb_go]; intro _ _ ha
    cases ha with | cons a0 r => cases r with | cons a1 r => cases r with | cons a2 r => cases r with | nil =>
    obtain ⟨d, rfl, d0, d1⟩ := wholeB_inv a0; obtain ⟨t, rfl, ht⟩ := nameB_inv a1; obtain ⟨c, rfl, c0, c1⟩ := wholeB_inv a2
    exact ⟨_, _, rfl, .go d0 d1 ht c0 c1⟩
  · rw [fb_draw]; intro _ _ ha
    cases ha with | cons a0 r => cases r with | cons a1 r => cases r with | cons a2 r => cases r with | nil =>
    obtain ⟨d, rfl, d0, d1⟩ := wholeB_inv a0; obtain ⟨t, rfl, ht⟩ := nameB_inv a1; obtain ⟨c, rfl, c0, c1⟩ := wholeB_inv a2
    exact ⟨_, _, rfl, .draw d0 d1 ht c0 c1⟩
  · intro hl h ha
    rw [fb_give] at hl ha
    cases ha with | cons a0 r => cases r with | cons a1 r => cases r with | cons a2 r => cases r with | cons a3 r => cases r with | nil =>
    obtain ⟨d, rfl, d0, d1⟩ := wholeB_inv a0; obtain ⟨t, rfl, ht⟩ := nameB_inv a1; obtain ⟨u, rfl, hu⟩ := nameB_inv a2; obtain ⟨c, rfl, c0, c1⟩ := wholeB_inv a3
    obtain ⟨_, _, _, _, _, ne⟩ := h 2 (by show 2 < 4; decide)
    exact ⟨_, _, rfl, .give d0 d1 ht hu (fun z => ne rfl rfl (by rw [z]; rfl)) c0 c1⟩
  · rw [fb_rate]; intro _ _ ha
    cases ha with | cons a0 r => cases r with | cons a1 r => cases r with | nil =>
    obtain ⟨d, rfl, d0, d1⟩ := wholeB_inv a0; obtain ⟨c, rfl, c0, c1⟩ := wholeB_inv a1
    exact ⟨_, _, rfl, .rate d0 d1 c0 c1⟩
  · rw [fb_harvest]; intro _ _ ha
    cases ha with | cons a0 r => cases r with | nil =>
    obtain ⟨d, rfl, d0, d1⟩ := wholeB_inv a0
    exact ⟨_, _, rfl, .harvest d0 d1⟩
  · rw [fb_aside]; intro _ _ ha
    cases ha with | cons a0 r => cases r with | cons a1 r => cases r with | nil =>
    obtain ⟨d, rfl, d0, d1⟩ := wholeB_inv a0; obtain ⟨t, rfl, ht⟩ := nameB_inv a1
    exact ⟨_, _, rfl, .aside d0 d1 ht⟩
  · rw [fb_home]; intro _ _ ha
    cases ha with | cons a0 r => cases r with | cons a1 r => cases r with | nil =>
    obtain ⟨d, rfl, d0, d1⟩ := wholeB_inv a0; obtain ⟨t, rfl, ht⟩ := nameB_inv a1
    exact ⟨_, _, rfl, .home d0 d1 ht⟩
  · rw [fb_levy]; intro _ _ ha
    cases ha with | cons a0 r => cases r with | cons a1 r => cases r with | nil =>
    obtain ⟨d, rfl, d0, d1⟩ := wholeB_inv a0; obtain ⟨c, rfl, c0, c1⟩ := wholeB_inv a1
    exact ⟨_, _, rfl, .levy d0 d1 c0 c1⟩
  · rw [fb_hurdle]; intro _ _ ha
    cases ha with | cons a0 r => cases r with | cons a1 r => cases r with | nil =>
    obtain ⟨d, rfl, d0, d1⟩ := wholeB_inv a0; obtain ⟨c, rfl, c0, c1⟩ := wholeB_inv a1
    exact ⟨_, _, rfl, .hurdle d0 d1 c0 c1⟩
theorem forms_len {k : Str} (hk : k ∈ kindsE) : (formsB k).length ≤ 4 := by
  refine kinds_of (P := fun k => (formsB k).length ≤ 4) ?_ ?_ ?_ ?_ ?_ ?_ ?_ ?_ ?_ ?_ ?_ ?_ hk
  · rw [fb_price]; decide
  · rw [fb_mix]; decide
  · rw [fb_come]; decide
  · rw [fb_go]; decide
  · rw [fb_draw]; decide
  · rw [fb_give]; decide
  · rw [fb_rate]; decide
  · rw [fb_harvest]; decide
  · rw [fb_aside]; decide
  · rw [fb_home]; decide
  · rw [fb_levy]; decide
  · rw [fb_hurdle]; decide
theorem Dl.pairs {K : PySem.W.Frag} {H : Hp} {n : Nat} {x : V} {ps : List (Str × Int)} (h : Dl K H n x (pairsD ps)) : Dt K H x (pairsD ps) := by
  cases h.cases with
  | tup hv d l =>
    refine .tup hv ?_
    clear hv l h
    rename_i xs
    induction ps generalizing xs with
    | nil => cases d; exact .nil
    | cons p ps ih => cases d with | cons a b => exact .cons a.pair (ih b)
theorem atoms_dt {K : PySem.W.Frag} {H : Hp} {n : Nat} : ∀ {xs : List V} {es : List PyData}, A2 (Dl K H n) xs es → (∀ e, e ∈ es → (∃ i, e = .int i) ∨ ∃ s, e = .str s) → DtAll K H xs es
  | _, _, .nil, _ => .nil
  | _, _, .cons a b, h => by
    rcases h _ List.mem_cons_self with ⟨i, rfl⟩ | ⟨s, rfl⟩
    · obtain rfl := a.dt_int
      exact .cons (.int i) (atoms_dt b fun e he => h e (List.mem_cons_of_mem _ he))
    · obtain rfl := a.dt_str
      exact .cons (.str s) (atoms_dt b fun e he => h e (List.mem_cons_of_mem _ he))
theorem ent_atoms {k : Str} {d : Int} {r : List PyData} (h : EntOf Nm Nm 400 k d r) (hm : k ≠ "mix") : ∀ e, e ∈ (.int d :: r : List PyData) → (∃ i, e = .int i) ∨ ∃ s, e = .str s := by
  cases h with
  | mix => exact absurd rfl hm
  | _ =>
    intro e he
    simp only [List.mem_cons, List.not_mem_nil, or_false] at he
    first
      | (rcases he with rfl | rfl | rfl | rfl <;> first | exact .inl ⟨_, rfl⟩ | exact .inr ⟨_, rfl⟩)
      | (rcases he with rfl | rfl | rfl <;> first | exact .inl ⟨_, rfl⟩ | exact .inr ⟨_, rfl⟩)
      | (rcases he with rfl | rfl <;> first | exact .inl ⟨_, rfl⟩ | exact .inr ⟨_, rfl⟩)
      | (subst he; exact .inl ⟨_, rfl⟩)
/-- how checked answers to e -/
def ChkQ (K : PySem.W.Frag) (C aF : Addr) (H : Hp) (Q : VK) (E : XK) (e : PyData) : Prop :=
  (∃ k d rest, e = entD k d rest ∧ EntOf Nm Nm 400 k d rest ∧ ∀ v H', Same H H' → Dt K H' v (entD k d (formR k rest)) → Q v H') ∨
   (Bad0 K aF e ∧ ∀ dx H', Same H H' → H dx = none → H' dx = some (.xd [("at", .int 0)]) → E (.ref C) (some dx) H') ∨
   (∃ k rest j, e = .tuple (.str k :: rest) ∧ k ∈ kindsE ∧ BadAt k rest j ∧ ∀ dx H', Same H H' → H dx = none → H' dx = some (.xd [("at", .int ((j : Int) + 1))]) → E (.ref C) (some dx) H')
theorem ChkQ.same {C aF : Addr} {H H1 : Hp} {Q : VK} {E : XK} {e : PyData} (h : ChkQ K C aF H Q E e) (s : Same H H1) : ChkQ K C aF H1 Q E e := by
  rcases h with ⟨k, d, rest, h1, h2, q⟩ | ⟨h1, q⟩ | ⟨k, rest, j, h1, h2, h3, q⟩
  · exact .inl ⟨k, d, rest, h1, h2, fun v H' s' => q v H' (s.trans s')⟩
  · exact .inr (.inl ⟨h1, fun dx H' s' n => q dx H' (s.trans s') (s.free n)⟩)
  · exact .inr (.inr ⟨k, rest, j, h1, h2, h3, fun dx H' s' n => q dx H' (s.trans s') (s.free n)⟩)
def sp_checked (K : PySem.W.Frag) (C aF : Addr) : Sp := fun vs H Q E => ∃ (n : Nat) (x : V) (e : PyData), vs = [x] ∧ Dl K H n x e ∧ ChkQ K C aF H Q E e
theorem dl_new {H : Hp} {n : Nat} {p : Addr} {xs : List V} {es : List PyData} (hp : H p = none) (d : A2 (Dl K H n) xs es) (l : xs.length ≤ 900) : Dl K (upd H p (.tup xs)) (n + 1) (.ref p) (.tuple es) :=
  .inr ⟨p, xs, es, rfl, rfl, .of upd_same, d.mono fun _ _ z => z.same (same_new hp), l⟩
theorem ok_checked (T : Top w K mg) : FnOk P w K mg base (L2.CX P w) 6 T.f_checked T.fd_checked ["entry"] (sp_checked K T.C_BadEntry T.a_FORMS) := by
  have G_BadEntryU_initU := ok_BadEntryU_initU (P := P) (w := w) (base := base) T
  have G_is_name := ok_is_name (P := P) (w := w) (base := base) T
  have G_is_day := ok_is_day (P := P) (w := w) (base := base) T
  have G_is_price := ok_is_price (P := P) (w := w) (base := base) T
  have G_is_sum := ok_is_sum (P := P) (w := w) (base := base) T
  have G_is_parts := ok_is_parts (P := P) (w := w) (base := base) T
  have G_is_rate := ok_is_rate (P := P) (w := w) (base := base) T
  have G_is_levy := ok_is_levy (P := P) (w := w) (base := base) T
  have G_is_pairs := ok_is_pairs (P := P) (w := w) (base := base) T
  obtain ⟨_, _, kd_FORMS⟩ := T.kd_FORMS
  have hcl_Till := T.cl_Till
  have hna_Till_sums := T.na_Till_sums
  have hcl_Book := T.cl_Book
  have hna_Book_most := T.na_Book_most
  have hna_Book_rows := T.na_Book_rows
  have hna_Book_next_number := T.na_Book_next_number
  have hna_Book_past := T.na_Book_past
  have hna_Book_done := T.na_Book_done
  have hna_Book_undone := T.na_Book_undone
  have hna_Book_till := T.na_Book_till
  have hna_Book_closed := T.na_Book_closed
  refine T.F_checked.okX sc_checked (fun vs H Q E h => by obtain ⟨n, x, e, rfl, _⟩ := h; rfl) (fun cdv A outer s H vs Q E hr h => ?_)
  obtain ⟨n, x, e, rfl, hx, hcase⟩ := h
  have hc : (Bad0 K T.a_FORMS e ∧ ∀ dx H', Same H H' → H dx = none → H' dx = some (.xd [("at", .int 0)]) → E (.ref T.C_BadEntry) (some dx) H') ∨
      (∃ k rest, e = .tuple (.str k :: rest) ∧ k ∈ kindsE ∧ rest.length = (formsB k).length ∧
        (∀ i, i < rest.length → (∀ j, j < i → OkAt k rest j) → ¬ OkAt k rest i → ∀ dx H', Same H H' → H dx = none → H' dx = some (.xd [("at", .int ((i : Int) + 1))]) → E (.ref T.C_BadEntry) (some dx) H') ∧
        ((∀ j, j < rest.length → OkAt k rest j) → ∀ d r, rest = .int d :: r → ∀ v H', Same H H' → Dt K H' v (entD k d (formR k r)) → Q v H')) := by
    rcases hcase with ⟨k, d, rest, rfl, hent, q⟩ | h0 | ⟨k, rest, j, rfl, hk, ⟨hl, hj, hp, hb⟩, q⟩
    · obtain ⟨hl, ho⟩ := ok_ent hent
      exact .inr ⟨k, .int d :: rest, rfl, hent.kind, hl, fun i hi _ hn => absurd (ho i hi) hn, fun _ d' r' e => by cases e; exact q⟩
    · exact .inl h0
    · refine .inr ⟨k, rest, rfl, hk, hl, fun i hi hpi hn => ?_, fun ho => absurd (ho j hj) hb⟩
      have : i = j := by
        rcases Nat.lt_trichotomy i j with h | h | h
        · exact absurd (hp i h) hn
        · exact h
        · exact absurd (hpi j h) hb
      subst this
      exact q
  clear hcase
  refine ⟨_, (pss_cons (ps_if (PW.pt (pw_or (pt_not (pt_tru (pe_callB call_isi (by rfl) T.n_isinstance (by decide +kernel) (pa_cons (pv 0) (pa_cons (pe_bltn (v := .ty "tuple") (by rfl) T.n_tuple (by decide +kernel) rfl) pa_nil))))) (pw_or (pt_not (pt_tru (pv 0))) (pw_or1 (pt_not (pt_tru (pe_callB call_isi (by rfl) T.n_isinstance (by decide +kernel) (pa_cons (pe_ix ix_seq (pv 0) pe_int (fun _ _ => rfl)) (pa_cons (pe_bltn (v := .ty "str") (by rfl) T.n_str (by decide +kernel) rfl) pa_nil))))))))) (pss_one (ps_raise rfl (takes_of rfl rfl rfl rfl) (pmk_mk T.mk_BadEntry T.oe_BadEntry.kp (raises_own T.oe_BadEntry.ex T.kq_tyBadEntry) (G_BadEntryU_initU) (hr.mono (by decide)) T.b_BadEntryU_initU pass0 (by rfl) T.c_BadEntry (pa_cons pe_int pa_nil)))) pss_nil)
      (pss_cons (ps_asg (pv 0) (pg_star rfl (pgs_cons (pg_name (i := 1) sc_checked.nd rfl (Or.inl rfl)) (pgs_cons (pg_name (i := 2) sc_checked.nd rfl (Or.inl rfl)) pgs_nil))))
      (pss_cons (ps_if (PW.pt (pw_or (pt_cmpR (op_kntin kd_FORMS) (pv 1) (pe_glob (v := .ref T.a_FORMS) (by rfl) T.c_FORMS rfl) (by rfl)) (pw_or1 (pt_cmpR (op_neD hr.units) (pe_callB call_lenU (by rfl) T.n_len (by decide +kernel) (pa_cons (pe_ix ix_kdict (pe_glob (v := .ref T.a_FORMS) (by rfl) T.c_FORMS rfl) (pv 1) (fun _ _ => rfl)) pa_nil)) (pe_callB call_lenU (by rfl) T.n_len (by decide +kernel) (pa_cons (pv 2) pa_nil)) (nomark _))))) (pss_one (ps_raise rfl (takes_of rfl rfl rfl rfl) (pmk_mk T.mk_BadEntry T.oe_BadEntry.kp (raises_own T.oe_BadEntry.ex T.kq_tyBadEntry) (G_BadEntryU_initU) (hr.mono (by decide)) T.b_BadEntryU_initU pass0 (by rfl) T.c_BadEntry (pa_cons pe_int pa_nil)))) pss_nil)
      (pss_cons (ps_for (passes_of rfl) rfl (pi_enumT (by rfl) T.n_enumerate (pa_cons (pe_ix ix_kdict (pe_glob (v := .ref T.a_FORMS) (by rfl) T.c_FORMS rfl) (pv 1) (fun _ _ => rfl)) pa_nil)) (pg_tup (by rfl) (pgs_cons (pg_name (i := 3) sc_checked.nd rfl (Or.inl rfl)) (pgs_cons (pg_name (i := 4) sc_checked.nd rfl (Or.inl rfl)) pgs_nil))) (pss_one (ps_if (PW.pt (pw_or (pt_not (pt_tru (pe_callR (m := 5) (i := 4) (form_held T G_is_day G_is_name G_is_price G_is_sum G_is_parts G_is_rate G_is_levy G_is_pairs) (hr.mono (by decide)) rfl (Or.inl rfl) (pa_cons (pe_ix ix_seq (pv 2) (pv 3) (fun _ _ => rfl)) pa_nil)))) (pw_or1 (PW.pt (pw_and (pt_cmpR (op_eqD hr.units) (pv 1) pe_str (nomark _)) (pw_and (pt_cmpR (op_eqD hr.units) (pv 3) pe_int (nomark _)) (pw_and1 (pt_cmpR (op_eqD hr.units) (pe_ix ix_seq (pv 2) pe_int (fun _ _ => rfl)) (pe_ix ix_seq (pv 2) pe_int (fun _ _ => rfl)) (nomark _))))))))) (pss_one (ps_raise rfl (takes_of rfl rfl rfl rfl) (pmk_mk T.mk_BadEntry T.oe_BadEntry.kp (raises_own T.oe_BadEntry.ex T.kq_tyBadEntry) (G_BadEntryU_initU) (hr.mono (by decide)) T.b_BadEntryU_initU pass0 (by rfl) T.c_BadEntry (pa_cons (pe_op op_addU (pv 3) pe_int) pa_nil)))) pss_nil)))
      (pss_cons (ps_if (pt_cmpR (op_eqD hr.units) (pv 1) pe_str (nomark _)) (pss_one (ps_ret (pe_tup (pa_cons (pv 1) (pa_cons (pe_ix ix_seq (pv 2) pe_int (fun _ _ => rfl)) (pa_cons (pe_callTy call_tupU (by rfl) T.n_tuple (by decide +kernel) (pa_cons (pe_callB (call_sortD hr.units) (by rfl) T.n_sorted (by decide +kernel) (pa_cons (pe_ix ix_seq (pv 2) pe_int (fun _ _ => rfl)) pa_nil)) pa_nil)) pa_nil)))))) pss_nil)
      (pss_one (ps_ret (pv 0)))))))), ?_⟩
  rcases hc with ⟨hb0, hE⟩ | ⟨k, rest, rfl, hk, hlen, hE, hQ⟩
  · cases hx.cases with
    | tup hv d l =>
      cases d with
      | nil =>
        walk_at "cr.k"
        refine s_isTQ hv ?_
        walk_at "cr.go"
        refine s_truQ hv ?_
        walk_at "cr.go"
        rw [show ([] : List V).isEmpty = true from rfl]
        walk_at "cr.go"
        refine s_mkO1 T.oe_BadEntry T.na_BadEntry fun dx hdx => ?_
        exact hE dx _ (same_new hdx) (by walk_at "cr.fr") upd_same
      | cons d0 d1 =>
        rename_i x0 e0 xr rest
        walk_at "cr.k"
        refine s_isTQ hv ?_
        walk_at "cr.go"
        refine s_truQ hv ?_
        walk_at "cr.go"
        rw [show (x0 :: xr).isEmpty = false from rfl, Bool.not_false, Bool.not_true]
        walk_at "cr.go"
        refine s_ixQ0 hv ?_
        walk_at "cr.go"
        refine s_lkS d0 ?_
        cases d0.cases with
        | str k hs =>
          walk_at "cr.go"
          refine s_gstarQ hv (by rw [List.length_cons] at l; omega) fun p hp => ?_
          have sm0 := same_new (o := .lst xr) hp
          rcases hb0 with hn | ⟨hk, hl⟩
          · walk_at "cr.go"
            refine s_mkO1 T.oe_BadEntry T.na_BadEntry fun dx hdx => ?_
            exact hE dx _ (sm0.trans (same_new hdx)) (by walk_at "cr.fr") upd_same
          · obtain ⟨af, fs, hns, hfs, hok⟩ := T.forms hk
            have hfl : fs.length = (formsB k).length := A2.len hok
            have hrl : xr.length = rest.length := d1.len
            walk_at "cr.go"
            refine s_kget (v := .ref af) kd_FORMS hns rfl ?_
            walk_at "cr.go"
            refine s_lenQ (hfs _) ?_
            walk_at "cr.go"
            refine s_iteN (fun _ => ?_) (fun z => absurd (by rw [List.length_map] at z; omega) hl)
            walk_at "cr.go"
            refine s_mkO1 T.oe_BadEntry T.na_BadEntry fun dx hdx => ?_
            exact hE dx _ (sm0.trans (same_new hdx)) (by walk_at "cr.fr") upd_same
        | _ =>
          walk_at "cr.go"
          refine s_mkO1 T.oe_BadEntry T.na_BadEntry fun dx hdx => ?_
          exact hE dx _ (same_new hdx) (by walk_at "cr.fr") upd_same
    | _ =>
      walk_at "cr.k"
      try (refine s_lkT hx ?_; walk_at "cr.go")
      refine s_mkO1 T.oe_BadEntry T.na_BadEntry fun dx hdx => ?_
      exact hE dx _ (same_new hdx) (by walk_at "cr.fr") upd_same
  · obtain ⟨af, fs, hns, hfs, hok⟩ := T.forms hk
    have hsk : SeqAt.shaped (.str k) = true := (lay_str (n := 0) (kind_txt hk)).sh
    have hfl : fs.length = (formsB k).length := A2.len hok
    have hf4 := forms_len hk
    cases hx.cases with
    | tup hv d l =>
      rename_i a xs
      cases d with
      | cons d0 d1 =>
        rename_i x0 xr
        obtain rfl := d0.dt_str
        have hrl : xr.length = rest.length := d1.len
        walk_at "cr.k"
        refine s_isTQ hv ?_
        walk_at "cr.go"
        refine s_truQ hv ?_
        walk_at "cr.go"
        rw [show (V.str k :: xr).isEmpty = false from rfl, Bool.not_false, Bool.not_true]
        walk_at "cr.go"
        refine s_ixQ0 hv ?_
        walk_at "cr.go"
        refine s_gstarQ hv (by rw [List.length_cons] at l; omega) fun p hp => ?_
        walk_at "cr.go"
        refine s_kget (v := .ref af) kd_FORMS hns rfl ?_
        walk_at "cr.go"
        refine s_lenQ (hfs _) ?_
        walk_at "cr.go"
        refine s_iteN (fun z => absurd (by rw [List.length_map, hrl, hlen, hfl]) z) (fun _ => ?_)
        walk_at "cr.go"
        refine s_kget (v := .ref af) kd_FORMS hns rfl ?_
        walk_at "cr.go"
        refine s_isEn (hfs _) ?_
        have sm0 := same_new (o := .lst xr) hp
        refine f_enumT (xs := fs.map V.ref) (fun i σ' H' => ∃ y3 y4, σ' = [some (.ref a), some (.str k), some (.ref p), y3, y4] ∧ Same H H' ∧ H' p = some (.lst xr) ∧ ∀ j, j < i → OkAt k rest j) ⟨_, _, rfl, sm0, upd_same, fun _ h => absurd h (Nat.not_lt_zero _)⟩ (fun _ _ _ _ _ => hfs _) ?_ ?_
        · rintro i z T0 σ' H' hz ⟨y3, y4, rfl, hs1, hp1, hall⟩ hT0
          obtain ⟨f, ef, rfl⟩ : ∃ f, fs[i]? = some f ∧ z = V.ref f := by
            rw [List.getElem?_map] at hz
            cases q : fs[i]? with
            | none => rw [q] at hz; cases hz
            | some f => rw [q] at hz; exact ⟨f, rfl, (Option.some.inj hz).symm⟩
          obtain ⟨g, eg, hsp⟩ := hok.at ef
          have hil : i < rest.length := by rw [hlen]; exact (List.getElem?_eq_some_iff.mp eg).1
          have hix : i < xr.length := by omega
          obtain ⟨v, ev⟩ : ∃ v, xr[i]? = some v := ⟨_, List.getElem?_eq_getElem hix⟩
          obtain ⟨e, ee, hve⟩ := d1.at ev
          have hat : atI xr ((i : Nat) : Int) = some v := atI_nat ev
          have st : Same H' (upd H' T0 (.tup [.int (i : Nat), .ref f])) := same_new hT0
          have hq : SqT K (upd H' T0 (.tup [.int (i : Nat), .ref f])) T0 [.int (i : Nat), .ref f] := SqT.of upd_same
          have hp2 := st _ _ hp1
          have hs2 := hs1.trans st
          have hve2 := hve.same hs2
          clear hs1 hp1 hT0 st sm0
          generalize upd H' T0 (.tup [.int (i : Nat), .ref f]) = H1 at *
          refine s_gtupQ hq rfl ?_
          walk_at "cr.go"
          refine s_callR (by rfl) hsp ?_
          walk_at "cr.go"
          refine ⟨n, v, e, rfl, hve2, fun H2 hs3 => ?_⟩
          have hp3 := hs3 _ _ hp2
          have hs4 := hs2.trans hs3
          clear hs2 hs3 hp2 hve2 hq
          walk_at "cr.go"
          have okN : g e = true → (k = "give" → i = 2 → rest[1]? ≠ rest[2]?) → ∀ j, j < i + 1 → OkAt k rest j := fun h1 h2 j hj => by
            rcases Nat.lt_succ_iff_lt_or_eq.mp hj with h | rfl
            · exact hall j h
            · exact ⟨g, e, eg, ee, h1, h2⟩
          have raise := hE i hil hall
          refine s_iteB (fun hg => ?_) (fun hg => ?_)
          · walk_at "cr.go"
            refine s_mkO1 T.oe_BadEntry T.na_BadEntry fun dx hdx => ?_
            refine raise (fun z => ?_) dx _ (hs4.trans (same_new hdx)) (by walk_at "cr.fr") upd_same
            obtain ⟨g', e', h3, h4, h5, _⟩ := z
            rw [eg] at h3
            rw [ee] at h4
            cases h3; cases h4
            rw [h5] at hg
            exact Bool.noConfusion hg
          · rw [Bool.not_eq_false'] at hg
            walk_at "cr.go"
            refine s_iteD (fun hk2 => ?_) (fun hk2 => ?_)
            · walk_at "cr.go"
              refine s_iteD (fun h2 => ?_) (fun h2 => ?_)
              · have i2 : i = 2 := by omega
                subst i2
                obtain ⟨g1, r1, hg1, hr1, ht1, _⟩ := hall 1 (by decide)
                have hg2 := eg
                rw [hk2, fb_give] at hg1 hg2
                cases hg1; cases hg2
                obtain ⟨t, rfl, ht⟩ := nameB_inv ht1
                obtain ⟨u, rfl, hu⟩ := nameB_inv hg
                obtain rfl := hve.dt_str
                have h1x : 1 < xr.length := by omega
                obtain ⟨e1, he1, hv1⟩ := d1.at (List.getElem?_eq_getElem h1x)
                rw [hr1] at he1
                cases he1
                have ex1 := hv1.dt_str
                have sh1 : SeqAt.shaped (.str t) = true := (lay_str (n := 0) ht.txt).sh
                have sh2 : SeqAt.shaped (.str u) = true := (lay_str (n := 0) hu.txt).sh
                walk_at "cr.go"
                refine s_ixL (v := .str t) (.of hp3) (atI_nat (j := 1) (by rw [List.getElem?_eq_getElem h1x, ex1])) ?_
                walk_at "cr.go"
                refine s_ixL (v := .str u) (.of hp3) (atI_nat (j := 2) ev) ?_
                walk_at "cr.go"
                refine s_iteD (fun h3 => ?_) (fun h3 => ?_)
                · walk_at "cr.go"
                  refine s_mkO1 T.oe_BadEntry T.na_BadEntry fun dx hdx => ?_
                  refine raise (fun z => ?_) dx _ (hs4.trans (same_new hdx)) (by walk_at "cr.fr") upd_same
                  obtain ⟨_, _, _, _, _, ne⟩ := z
                  exact ne hk2 rfl (by rw [hr1, ee, h3])
                · walk_at "cr.go"
                  exact ⟨_, _, rfl, hs4, hp3, okN hg fun _ _ z => h3 (by rw [hr1, ee] at z; exact PyData.str.inj (Option.some.inj z))⟩
              · walk_at "cr.go"
                exact ⟨_, _, rfl, hs4, hp3, okN hg fun _ z => absurd (by rw [z]; rfl) h2⟩
            · walk_at "cr.go"
              exact ⟨_, _, rfl, hs4, hp3, okN hg fun z => absurd z hk2⟩
        · rintro σ' H' ⟨y3, y4, rfl, hs1, hp1, hall⟩
          have hall2 : ∀ j, j < rest.length → OkAt k rest j := fun j hj => hall j (by rw [List.length_map, hfl, ← hlen]; exact hj)
          obtain ⟨d, r, rfl, hent⟩ := ent_ok hk hlen hall2
          have q := hQ hall2 d r rfl
          have d2 : A2 (Dl K H' n) xr (.int d :: r) := d1.mono fun _ _ z => z.same hs1
          walk_at "cr.go"
          refine s_iteD (fun hm => ?_) (fun hm => ?_)
          · obtain ⟨ps, rfl, hps⟩ := mix_ps hent hm
            cases d2 with
            | cons w0 d2 => cases d2 with
              | cons w1 d2 => cases d2 with
                | nil =>
                  obtain rfl := w0.dt_int
                  have hv1 := w1.pairs
                  have hlen8 : (ps.map fun p => PyData.tuple [.str p.1, .int p.2]).length ≤ 1000 := by rw [List.length_map]; have := hps.l1; omega
                  clear hp sm0 d1 hx hv w1
                  walk_at "cr.go"
                  refine s_sortT hv1 (ps_alike ps) (ps_sortable ps) (ps_depth ps) hlen8 fun p2 ys2 hp2 hys2 => ?_
                  walk_at "cr.go"
                  refine q _ _ (by walk_at "cr.sm") ?_
                  unfold formR
                  rw [if_pos hm]
                  walk_at "cr.dt"
          · walk_at "cr.go"
            refine q _ _ hs1 ?_
            unfold formR
            rw [if_neg hm]
            exact .tup (sqT_kt (kt_same hs1) hv) (.cons (.str k) (atoms_dt d2 (ent_atoms hent hm)))

/-! ### TwiceU_initU -/
abbrev sp_TwiceU_initU (K : PySem.W.Frag) : Sp := spIni K "number"
theorem ok_TwiceU_initU (T : Top w K mg) : FnOk P w K mg base CX0 1 T.f_TwiceU_initU T.fd_TwiceU_initU ["self", "number"] (sp_TwiceU_initU K) := by
  have hcl_Till := T.cl_Till
  have hna_Till_sums := T.na_Till_sums
  have hcl_Book := T.cl_Book
  have hna_Book_most := T.na_Book_most
  have hna_Book_rows := T.na_Book_rows
  have hna_Book_next_number := T.na_Book_next_number
  have hna_Book_past := T.na_Book_past
  have hna_Book_done := T.na_Book_done
  have hna_Book_undone := T.na_Book_undone
  have hna_Book_till := T.na_Book_till
  have hna_Book_closed := T.na_Book_closed
  refine T.F_TwiceU_initU.ok sc_TwiceU_initU (fun vs H Q E h => by obtain ⟨a, C, v, rfl, _⟩ := h; rfl) (fun cdv A outer s H vs Q E hr h => ?_)
  obtain ⟨a, C, v, rfl, ea, T1, hno, q⟩ := h
  refine ⟨_, (pss_one (ps_ost1 (pv 0) (pv 1) rfl)), ?_⟩
  exact ⟨v, rfl, .ref a, rfl, a, C, rfl, T1, hno, ea, fun dx n ne => q dx n ne⟩
local macro_rules | `(tactic| walk_at "cr.call") => `(tactic| ((with_reducible refine' Cr.u_mkE (f := "number") ?e (Top.oe_Twice _) (Top.na_Twice _) ?_); (case e => with_unfolding_all rfl); intro x H' hs hx))
local macro_rules | `(tactic| walk_at "cr.call") => `(tactic| ((with_reducible refine' Cr.u_fldE (f := "number") ?a (Top.oe_Twice _) (Top.na_Twice _) ?_); (case a => with_reducible assumption)))

/-! ### slot -/
theorem Top.slots (T : Top w K mg) {k : Str} (hk : k ∈ kindsE) : (∃ (n : Nat) (t : Tok), PySem.W.nsIn K T.a_SLOTS k = some (some (.int n t)) ∧ slotN k = some n) ∨ (PySem.W.nsIn K T.a_SLOTS k = some none ∧ slotN k = none) := by
  unfold kindsE at hk
  simp only [List.mem_cons, List.not_mem_nil, or_false] at hk
  rcases hk with rfl | rfl | rfl | rfl | rfl | rfl | rfl | rfl | rfl | rfl | rfl | rfl
  · obtain ⟨t, e⟩ := T.i_SLOTS_price; exact .inl ⟨3, t, e, by decide +kernel⟩
  · obtain ⟨t, e⟩ := T.i_SLOTS_mix; exact .inl ⟨2, t, e, by decide +kernel⟩
  · exact .inr ⟨T.i_SLOTS_come, by decide +kernel⟩
  · exact .inr ⟨T.i_SLOTS_go, by decide +kernel⟩
  · exact .inr ⟨T.i_SLOTS_draw, by decide +kernel⟩
  · exact .inr ⟨T.i_SLOTS_give, by decide +kernel⟩
  · obtain ⟨t, e⟩ := T.i_SLOTS_rate; exact .inl ⟨2, t, e, by decide +kernel⟩
  · obtain ⟨t, e⟩ := T.i_SLOTS_harvest; exact .inl ⟨2, t, e, by decide +kernel⟩
  · obtain ⟨t, e⟩ := T.i_SLOTS_aside; exact .inl ⟨3, t, e, by decide +kernel⟩
  · obtain ⟨t, e⟩ := T.i_SLOTS_home; exact .inl ⟨3, t, e, by decide +kernel⟩
  · obtain ⟨t, e⟩ := T.i_SLOTS_levy; exact .inl ⟨2, t, e, by decide +kernel⟩
  · obtain ⟨t, e⟩ := T.i_SLOTS_hurdle; exact .inl ⟨2, t, e, by decide +kernel⟩
def sp_slot (K : PySem.W.Frag) : Sp := fun vs H Q _ => ∃ (x : V) (k : Str) (d : Int) (rest : List PyData), vs = [x] ∧ Dt K H x (entD k d rest) ∧ k ∈ kindsE ∧ ∀ v H', Same H H' → Dt K H' v (slotD k d rest) → Q v H'
theorem u_slot {H : Hp} {Q : VK} {E : XK} {vs : List V} {x : V} {k : Str} {d : Int} {rest : List PyData} (e : vs = [x]) (hx : Dt K H x (entD k d rest)) (hk : k ∈ kindsE) (q : ∀ v H', Same H H' → Dt K H' v (slotD k d rest) → Q v H') : sp_slot K vs H Q E := ⟨x, k, d, rest, e, hx, hk, q⟩
theorem ok_slot (T : Top w K mg) : FnOk P w K mg base CX0 1 T.f_slot T.fd_slot ["entry"] (sp_slot K) := by
  obtain ⟨_, _, kd_SLOTS⟩ := T.kd_SLOTS
  have hcl_Till := T.cl_Till
  have hna_Till_sums := T.na_Till_sums
  have hcl_Book := T.cl_Book
  have hna_Book_most := T.na_Book_most
  have hna_Book_rows := T.na_Book_rows
  have hna_Book_next_number := T.na_Book_next_number
  have hna_Book_past := T.na_Book_past
  have hna_Book_done := T.na_Book_done
  have hna_Book_undone := T.na_Book_undone
  have hna_Book_till := T.na_Book_till
  have hna_Book_closed := T.na_Book_closed
  refine T.F_slot.ok sc_slot (fun vs H Q E h => by obtain ⟨x, k, d, rest, rfl, _⟩ := h; rfl) (fun cdv A outer s H vs Q E hr h => ?_)
  obtain ⟨x, k, d, rest, rfl, hx, hk, q⟩ := h
  have hx' : Dt K H x (.tuple (.str k :: .int d :: rest)) := hx
  refine ⟨_, (pss_cons (ps_if (pt_cmpR (op_kin kd_SLOTS) (pe_ix ix_seq (pv 0) pe_int (fun _ _ => rfl)) (pe_glob (v := .ref T.a_SLOTS) (by rfl) T.c_SLOTS rfl) (by rfl)) (pss_one (ps_ret (pe_callTy call_tupU (by rfl) T.n_tuple (by decide +kernel) (pa_cons (pe_slice sl_tupA (pv 0) po_none (po_some (pe_ix ix_kdict (pe_glob (v := .ref T.a_SLOTS) (by rfl) T.c_SLOTS rfl) (pe_ix ix_seq (pv 0) pe_int (fun _ _ => rfl)) (fun _ _ => rfl)))) pa_nil)))) pss_nil)
      (pss_one (ps_ret pe_non))), ?_⟩
  clear hx
  rcases T.slots hk with ⟨n, t, e, es⟩ | ⟨e, es⟩
  · walk_at "cr.k"
    refine s_kget (v := .int (n : Int)) kd_SLOTS e ⟨t, rfl⟩ ?_
    walk_at "cr.go"
    rename_i v H' hs hd
    rw [Int.toNat_natCast] at hd
    refine q _ _ hs ?_
    unfold slotD
    rw [es]
    exact hd
  · walk_at "cr.k"
    refine q _ _ (Same.refl _) ?_
    unfold slotD
    rw [es]
    exact .non
local macro_rules | `(tactic| walk_at "cr.call") => `(tactic| ((with_reducible refine' Cr.u_slot ?e ?a ?b ?_); (case e => with_unfolding_all rfl); (case a => walk_at "cr.dt"); (case b => with_reducible assumption); intro v H' hs hd))

/-! ### Book_free -/
structure RwOk (nx : Int) (rows : List Row) : Prop where
  rise : (rows.map Prod.fst).Pairwise (· < ·)
  lo : ∀ e, e ∈ rows → 1 ≤ e.1 ∧ e.1 < nx
  ent : ∀ e, e ∈ rows → EntIn Nm Nm 400 e.2
  len : rows.length ≤ 60
theorem RwOk.nd {nx : Int} {rows : List Row} (h : RwOk nx rows) : (rows.map Prod.fst).Nodup := h.rise.imp fun z => by omega
abbrev numV : Option Int → V
  | none => .non
  | some n => .int n
open Classical in
/-- whether a row takes the slot of an entry that is to stand under n -/
noncomputable def hitB (e : E3) (n : Option Int) (p : Row) : Bool := decide (slotE e ≠ .none ∧ n ≠ some p.1 ∧ slotE p.2 = slotE e)
noncomputable def freeF (rows : List Row) (e : E3) (n : Option Int) : Option Int := (rows.find? (hitB e n)).map Prod.fst
open Classical in
theorem hit_iff {e : E3} {n : Option Int} {p : Row} : hitB e n p = true ↔ slotE e ≠ .none ∧ n ≠ some p.1 ∧ slotE p.2 = slotE e := by unfold hitB; exact decide_eq_true_iff
open Classical in
theorem hit_no {e : E3} {n : Option Int} {p : Row} (h : ¬ (slotE e ≠ .none ∧ n ≠ some p.1 ∧ slotE p.2 = slotE e)) : hitB e n p = false := by unfold hitB; exact decide_eq_false h
theorem free_none {rows : List Row} {e : E3} {n : Option Int} (h : ∀ p, p ∈ rows → hitB e n p = false) : freeF rows e n = none := by
  unfold freeF
  rw [List.find?_eq_none.mpr fun p hp => by rw [h p hp]; exact Bool.false_ne_true]
  rfl
theorem free_at {rows : List Row} {e : E3} {n : Option Int} {i : Nat} {p : Row} (hi : rows[i]? = some p) (h : ∀ q, q ∈ rows.take i → hitB e n q = false) (hp : hitB e n p = true) : freeF rows e n = some p.1 := by
  obtain ⟨l, e1⟩ := List.getElem?_eq_some_iff.mp hi
  have e2 : rows = rows.take i ++ p :: rows.drop (i + 1) := by rw [← e1]; simp
  unfold freeF
  rw [e2, List.find?_append, List.find?_eq_none.mpr fun q hq => by rw [h q hq]; exact Bool.false_ne_true, List.find?_cons_of_pos hp]
  rfl
theorem slot_pure {Hn Tn : Str → Prop} {L : Int} {a : E3} (h : EntIn Hn Tn L a) {ds : List PyData} (e : slotE a = .tuple ds) : pureD (.tuple ds) = true := by
  have hp := ent_pure h
  unfold slotE slotD at e
  split at e
  · rename_i n hn
    have e2 := PyData.tuple.inj e
    rw [← e2]
    show pureAll _ = true
    have hp : pureAll (.str a.1 :: .int a.2.1 :: a.2.2) = true := hp
    generalize (PyData.str a.1 :: .int a.2.1 :: a.2.2) = l at hp
    clear e e2 hn
    induction l generalizing n with
    | nil => rw [List.take_nil]; rfl
    | cons x xs ih =>
      cases n with
      | zero => rfl
      | succ n =>
        rw [pureAll, Bool.and_eq_true] at hp
        rw [List.take_succ_cons, pureAll, hp.1, ih n hp.2]; rfl
  · cases e
theorem slot_eqv {a b : E3} (ha : EntIn Nm Nm 400 a) (hb : EntIn Nm Nm 400 b) : PyData.eqv (slotE a) (slotE b) = true ↔ slotE a = slotE b := by
  have refl : ∀ {x : E3}, EntIn Nm Nm 400 x → PyData.eqv (slotE x) (slotE x) = true := fun {x} h => SeqAt.eqv_refl _ (lay_slot (fun _ z => Nm.txt z) (fun _ z => Nm.txt z) (h : EntOf Nm Nm 400 x.1 x.2.1 x.2.2)).1
  refine ⟨fun h => ?_, fun h => by rw [h]; exact refl hb⟩
  rcases slot_cases a with ea | ⟨da, ea⟩ <;> rcases slot_cases b with eb | ⟨db, eb⟩
  · rw [ea, eb]
  · rw [ea, eb] at h; simp only [PyData.eqv] at h; cases h
  · rw [ea, eb] at h; simp only [PyData.eqv] at h; cases h
  · rw [ea, eb] at h ⊢
    exact pure_eqv _ _ (slot_pure ha ea) (slot_pure hb eb) h
theorem rise_same : ∀ {l l' : List Int}, l.Pairwise (· < ·) → l'.Pairwise (· < ·) → (∀ k, k ∈ l ↔ k ∈ l') → l = l'
  | [], [], _, _, _ => rfl
  | [], x :: xs, _, _, h => absurd ((h x).mpr List.mem_cons_self) List.not_mem_nil
  | x :: xs, [], _, _, h => absurd ((h x).mp List.mem_cons_self) List.not_mem_nil
  | x :: xs, y :: ys, h1, h2, h => by
    obtain ⟨a1, b1⟩ := List.pairwise_cons.mp h1
    obtain ⟨a2, b2⟩ := List.pairwise_cons.mp h2
    have e : x = y := by
      rcases List.mem_cons.mp ((h x).mp List.mem_cons_self) with z | z
      · exact z
      · rcases List.mem_cons.mp ((h y).mpr List.mem_cons_self) with w | w
        · exact w.symm
        · have := a1 _ w; have := a2 _ z; omega
    subst e
    rw [rise_same b1 b2 fun k => ⟨fun hk => by
      rcases List.mem_cons.mp ((h k).mp (List.mem_cons_of_mem _ hk)) with z | z
      · have := a1 _ hk; omega
      · exact z, fun hk => by
      rcases List.mem_cons.mp ((h k).mpr (List.mem_cons_of_mem _ hk)) with z | z
      · have := a2 _ hk; omega
      · exact z⟩]
section
variable {H : Hp} {Q : VK}
theorem s_eqSlot {x y : V} {a b : E3} (hx : Dt K H x (slotE a)) (hy : Dt K H y (slotE b)) (ha : EntIn Nm Nm 400 a) (hb : EntIn Nm Nm 400 b) (h1 : slotE a = slotE b → Q (.bl true) H) (h2 : slotE a ≠ slotE b → Q (.bl false) H) : rEqD K x y H Q := by
  refine ⟨slotE a, slotE b, hx.dp, hy.dp, (lay_slot (fun _ z => Nm.txt z) (fun _ z => Nm.txt z) (ha : EntOf Nm Nm 400 a.1 a.2.1 a.2.2)).sh (by decide), (lay_slot (fun _ z => Nm.txt z) (fun _ z => Nm.txt z) (hb : EntOf Nm Nm 400 b.1 b.2.1 b.2.2)).sh (by decide), ?_⟩
  by_cases e : slotE a = slotE b
  · rw [(slot_eqv ha hb).mpr e]; exact h1 e
  · rw [show PyData.eqv (slotE a) (slotE b) = false from Bool.eq_false_iff.mpr fun z => e ((slot_eqv ha hb).mp z)]; exact h2 e
def rSortDIr : List V → Hp → VK → Prop := fun xs H Q => ∃ (a : Addr) (kvs : List (Key × V)) (ks : List Int), xs = [.ref a] ∧ Rd H a (.dK kvs) ∧ kvs.map (·.1) = ks.map Sum.inl ∧ ks.length < 64 ∧
  ∀ (ys : List Int) (p : Addr), ys.Perm ks → ys.Pairwise (· ≤ ·) → H p = none → Q (.ref p) (upd H p (.lst (ys.map V.int)))
theorem call_sortDIU {X : Cx} (hc : X.calm = true) : CallR X (.builtin "sorted") rSortDIr := call_sortedDI hc
theorem s_sortDIr {a : Addr} {ps : List (Int × V)} (e : H a = some (.dK (iOf ps))) (rise : (ps.map Prod.fst).Pairwise (· < ·)) (l : ps.length < 64) (h : ∀ p, H p = none → Q (.ref p) (upd H p (.lst ((ps.map Prod.fst).map V.int)))) : rSortDIr [.ref a] H Q := by
  refine ⟨a, iOf ps, ps.map Prod.fst, rfl, .inl e, by unfold iOf; rw [List.map_map, List.map_map]; rfl, by rw [List.length_map]; exact l, fun ys p pm srt hp => ?_⟩
  have nd : ys.Nodup := (pm.nodup_iff).mpr (rise.imp fun z => by omega)
  have lt : ys.Pairwise (· < ·) := (srt.and nd).imp fun z => by have := z.1; have := z.2; omega
  rw [rise_same lt rise fun k => pm.mem_iff]
  exact h p hp
theorem dget_I {d : Addr} {ps : List (Int × V)} {n : Int} {v : V} {N : V → Prop} (e : H d = some (.dK (iOf ps))) (l : lookI ps n = some v) (h : N v) : DGetQ (.ref d) (.int n) H N :=
  ⟨d, v, rfl, by have := DGet.k (k := .inl n) e; rwa [valV_iOf, l] at this, h⟩
end
theorem s_neNum {H : Hp} {Q : VK} {k : Int} {n : Option Int} (h1 : n ≠ some k → Q (.bl true) H) (h2 : n = some k → Q (.bl false) H) : rNeD K (.int k) (numV n) H Q := by
  cases n with
  | none =>
    refine ⟨.int k, .none, .int _, .non, (lay_int (n := 0) k).sh, (lay_non (n := 0)).sh, ?_⟩
    simp only [PyData.eqv]; exact h1 (fun z => nomatch z)
  | some m =>
    refine s_neI ?_
    by_cases e : k = m
    · rw [decide_eq_true e]; exact h2 (by rw [e])
    · rw [decide_eq_false e]; exact h1 fun z => e (Option.some.inj z).symm
def sp_Book_free (K : PySem.W.Frag) (Cb Ct Cw : Addr) : Sp := fun vs H Q E => ∃ (A : BkA) (B : BookS) (x : V) (e : E3) (n : Option Int), vs = [.ref A.p, x, numV n] ∧ BkAt K Cb Ct H A B ∧ Dt K H x (dE e) ∧ EntIn Nm Nm 400 e ∧ RwOk B.nx B.rows ∧
  (freeF B.rows e n = none → ∀ H', Same H H' → Q .non H') ∧ (∀ k, freeF B.rows e n = some k → ∀ dx H', Same H H' → H dx = none → H' dx = some (.xd [("number", .int k)]) → E (.ref Cw) (some dx) H')
theorem ok_Book_free (T : Top w K mg) : FnOk P w K mg base (L2.CX P w) 3 T.f_Book_free T.fd_Book_free ["self", "entry", "number"] (sp_Book_free K T.C_Book T.C_Till T.C_Twice) := by
  have G_TwiceU_initU := ok_TwiceU_initU (P := P) (w := w) (base := base) T
  have G_slot := ok_slot (P := P) (w := w) (base := base) T
  have hcl_Till := T.cl_Till
  have hna_Till_sums := T.na_Till_sums
  have hcl_Book := T.cl_Book
  have hna_Book_most := T.na_Book_most
  have hna_Book_rows := T.na_Book_rows
  have hna_Book_next_number := T.na_Book_next_number
  have hna_Book_past := T.na_Book_past
  have hna_Book_done := T.na_Book_done
  have hna_Book_undone := T.na_Book_undone
  have hna_Book_till := T.na_Book_till
  have hna_Book_closed := T.na_Book_closed
  refine T.F_Book_free.okX sc_Book_free (fun vs H Q E h => by obtain ⟨A, B, x, e, n, rfl, _⟩ := h; rfl) (fun cdv A0 outer s H vs Q E hr h => ?_)
  obtain ⟨A, B, x, ⟨ek, ed, er⟩, n, rfl, hb, hx, he, ho, q1, q2⟩ := h
  have hp := hb.hp
  obtain ⟨ps, hrd, hps⟩ := hb.hr
  have hek : ek ∈ kindsE := EntOf.kind he
  have hx' : Dt K H x (entD ek ed er) := hx
  refine ⟨_, (pss_cons (ps_set (i := 3) sc_Book_free.nd rfl (Or.inl rfl) (pe_call (G_slot) (hr.mono (by decide)) (by rfl) T.g_slot T.k_slot T.b_slot .nil pass0 (pa_cons (pv 1) pa_nil)))
      (pss_one (ps_for (passes_of rfl) rfl (pi_list (pe_callB (call_sortDIU rfl) (by rfl) T.n_sorted (by decide +kernel) (pa_cons (pe_fld (pv 0) rfl) pa_nil))) (pg_name (i := 4) sc_Book_free.nd rfl (Or.inl rfl)) (pss_one (ps_if (PW.pt (pw_and (pt_cmpR op_notU (pv 3) pe_non (nomark _)) (pw_and (pt_cmpR (op_neD hr.units) (pv 4) (pv 2) (nomark _)) (pw_and1 (pt_cmpR (op_eqD hr.units) (pe_call (G_slot) (hr.mono (by decide)) (by rfl) T.g_slot T.k_slot T.b_slot .nil pass0 (pa_cons (pe_dget (hu_of hr) (pe_fld (pv 0) rfl) (pv 4) (fun _ _ => rfl)) pa_nil)) (pv 3) (nomark _)))))) (pss_one (ps_raise rfl (takes_of rfl rfl rfl rfl) (pmk_mk T.mk_Twice T.oe_Twice.kp (raises_own T.oe_Twice.ex T.kq_tyTwice) (G_TwiceU_initU) (hr.mono (by decide)) T.b_TwiceU_initU pass0 (by rfl) T.c_Twice (pa_cons (pv 4) pa_nil)))) pss_nil))))), ?_⟩
  walk_at "cr.k"
  rename_i v Hs hs hv
  have hrise : (ps.map Prod.fst).Pairwise (· < ·) := by rw [hps.keys]; exact ho.rise
  have lps : ps.length = B.rows.length := A2.len hps
  refine s_sortDIr (hs _ _ hrd) hrise (by have := ho.len; omega) fun p hp0 => ?_
  have sp := same_new (o := .lst ((ps.map Prod.fst).map V.int)) hp0
  have hseq : upd Hs p (.lst ((ps.map Prod.fst).map V.int)) p = some (.lst ((ps.map Prod.fst).map V.int)) := upd_same
  have s1 : Same H (upd Hs p (.lst ((ps.map Prod.fst).map V.int))) := hs.trans sp
  have hv1 := hv.mono (kt_same sp)
  generalize upd Hs p (.lst ((ps.map Prod.fst).map V.int)) = H1 at *
  clear hs hv sp hp0
  refine ⟨p, rfl, ⟨_, .of hseq⟩, ?_⟩
  refine f_list (xs := (ps.map Prod.fst).map V.int) (fun i σ' H' => (∃ y4, σ' = [some (.ref A.p), some x, some (numV n), some v, y4]) ∧ Same H1 H' ∧ ∀ q, q ∈ B.rows.take i → hitB (ek, ed, er) n q = false) ⟨⟨_, rfl⟩, Same.refl _, fun q hq => by simp at hq⟩ (fun i σ' H' _ h => SqL.of (h.2.1 _ _ hseq)) ?_ ?_
  · rintro i y σ' H' ex ⟨⟨y4, rfl⟩, sm, hno⟩
    rw [List.getElem?_map, List.getElem?_map] at ex
    cases ep : ps[i]? with
    | none => rw [ep] at ex; cases ex
    | some pr =>
    rw [ep] at ex
    cases ex
    obtain ⟨rw_, erw, ekey, hval⟩ := A2.at hps ep
    obtain ⟨rk, ⟨ak, ad, ar⟩⟩ := rw_
    have ekey : pr.1 = rk := ekey
    have hval : Dt K H pr.2 (dE (ak, ad, ar)) := hval
    rw [ekey]
    have hmem : (rk, (ak, ad, ar)) ∈ B.rows := List.mem_of_getElem? erw
    have hre := ho.ent _ hmem
    have hlook : lookI ps rk = some pr.2 := by
      have := A2.at hps ep
      obtain ⟨v', h1, h2⟩ := hps.look ho.nd hmem
      unfold lookI
      have : ps.find? (fun p => decide (p.1 = rk)) = some pr := by
        have hl := (List.getElem?_eq_some_iff.mp ep)
        obtain ⟨hl, el⟩ := hl
        refine List.find?_eq_some_iff_getElem.mpr ⟨decide_eq_true ekey, i, hl, el, fun j hj => ?_⟩
        have h3 := List.pairwise_iff_getElem.mp hrise j i (by rw [List.length_map]; omega) (by rw [List.length_map]; omega) hj
        rw [List.getElem_map, List.getElem_map, el, ekey] at h3
        rw [Bool.not_eq_true', decide_eq_false_iff_not]
        omega
      rw [this]; rfl
    have hs2 : Same H H' := s1.trans sm
    have tk : B.rows.take (i + 1) = B.rows.take i ++ [(rk, (ak, ad, ar))] := by rw [List.take_add_one, erw]; rfl
    have fin : hitB (ek, ed, er) n (rk, (ak, ad, ar)) = false → ∀ q, q ∈ B.rows.take (i + 1) → hitB (ek, ed, er) n q = false := fun z q hq => by
      rw [tk] at hq
      rcases List.mem_append.mp hq with hq | hq
      · exact hno q hq
      · rw [List.mem_singleton.mp hq]; exact z
    have hp' := hs2 _ _ hp
    have hrd' := hs2 _ _ hrd
    have hv' := hv1.mono (kt_same sm)
    have hval' := hval.mono (kt_same hs2)
    walk_at "cr.n"
    walk_at "cr.go"
    rcases slot_cases (ek, ed, er) with e0 | ⟨ds, e0⟩
    · have e1 : slotD ek ed er = .none := e0
      rw [e1] at hv'
      cases hv'
      walk_at "cr.go"
      exact ⟨⟨_, rfl⟩, sm, fin (hit_no fun z => z.1 e0)⟩
    have e1 : slotD ek ed er = .tuple ds := e0
    have hvT : Dt K H' v (.tuple ds) := by rw [← e1]; exact hv'
    have hak : ak ∈ kindsE := EntOf.kind hre
    walk_at "cr.go"
    refine s_neNum (fun e2 => ?_) (fun e2 => ?_)
    rotate_left
    · refine ⟨_, rfl, ?_⟩
      rw [if_neg Bool.false_ne_true]
      walk_at "cr.go"
      exact ⟨⟨_, rfl⟩, sm, fin (hit_no fun z => z.2.1 e2)⟩
    refine ⟨_, rfl, ?_⟩
    rw [if_pos rfl]
    walk_at "cr.go"
    refine dget_I hrd' hlook ?_
    walk_at "cr.go"
    rename_i v2 H2 hs22 hd2
    refine s_eqSlot (a := (ak, ad, ar)) (b := (ek, ed, er)) hd2 (hv'.mono (kt_same hs22)) hre he (fun e3 => ?_) (fun e3 => ?_)
    · refine ⟨_, rfl, ?_⟩
      rw [if_pos rfl]
      walk_at "cr.go"
      refine s_mkO1 T.oe_Twice T.na_Twice fun dx hdx => ?_
      have hs3 := hs2.trans hs22
      exact q2 rk (free_at erw hno (hit_iff.mpr ⟨(fun z => by rw [e0] at z; cases z), e2, e3⟩)) dx _ (hs3.trans (same_new hdx)) (free_on hdx hs3) upd_same
    · refine ⟨_, rfl, ?_⟩
      rw [if_neg Bool.false_ne_true]
      walk_at "cr.go"
      exact ⟨⟨_, rfl⟩, sm.trans hs22, fin (hit_no fun z => e3 z.2.2)⟩
  · rintro σ' H' ⟨⟨y4, rfl⟩, sm, hno⟩
    rw [List.length_map, List.length_map, lps, List.take_length] at hno
    walk_at "cr.go"
    exact q1 (free_none hno) _ (s1.trans sm)
theorem u_Book_freeX {Cb Ct Cw : Addr} {H : Hp} {Q : VK} {E : XK} {vs : List V} {A : BkA} {B : BookS} {x : V} {e : E3} {n : Option Int} (ev : vs = [.ref A.p, x, numV n]) (hb : BkAt K Cb Ct H A B) (hx : Dt K H x (dE e)) (he : EntIn Nm Nm 400 e) (ho : RwOk B.nx B.rows)
    (q1 : freeF B.rows e n = none → ∀ H', Same H H' → Q .non H') (q2 : ∀ k, freeF B.rows e n = some k → ∀ dx H', Same H H' → H dx = none → H' dx = some (.xd [("number", .int k)]) → E (.ref Cw) (some dx) H') : sp_Book_free K Cb Ct Cw vs H Q E := ⟨A, B, x, e, n, ev, hb, hx, he, ho, q1, q2⟩

/-! ### Book_put -/
/-- what checked tells of what was handed in: an entry, or the first wrong place -/
def ChkD (K : PySem.W.Frag) (aF : Addr) (d : PyData) : E3 ⊕ Nat → Prop
  | .inl e => d = dE e ∧ EntIn Nm Nm 400 e
  | .inr 0 => Bad0 K aF d
  | .inr (j + 1) => ∃ k rest, d = .tuple (.str k :: rest) ∧ k ∈ kindsE ∧ BadAt k rest j
abbrev frmE (e : E3) : E3 := (e.1, e.2.1, formR e.1 e.2.2)
inductive Out
  | num (n : Int)
  | bad (j : Nat)
  | full (m : Int)
  | twice (k : Int)
noncomputable def putO (B : BookS) : E3 ⊕ Nat → Out
  | .inr j => .bad j
  | .inl e => if B.most ≤ B.rows.length then .full B.most else match freeF B.rows (frmE e) none with
    | some k => .twice k
    | none => .num B.nx
theorem putO_e (B : BookS) (e : E3) : putO B (.inl e) = if B.most ≤ B.rows.length then .full B.most else match freeF B.rows (frmE e) none with
    | some k => .twice k
    | none => .num B.nx := rfl
theorem put_full {B : BookS} {e : E3} (h : B.most ≤ B.rows.length) : putO B (.inl e) = .full B.most := by rw [putO_e, if_pos h]
theorem put_twice {B : BookS} {e : E3} {k : Int} (h : ¬ B.most ≤ B.rows.length) (hk : freeF B.rows (frmE e) none = some k) : putO B (.inl e) = .twice k := by rw [putO_e, if_neg h, hk]
theorem put_num {B : BookS} {e : E3} (h : ¬ B.most ≤ B.rows.length) (hk : freeF B.rows (frmE e) none = none) : putO B (.inl e) = .num B.nx := by rw [putO_e, if_neg h, hk]
abbrev addB (B : BookS) (e : E3) : BookS := { B with rows := B.rows ++ [(B.nx, e)], nx := B.nx + 1 }
def OutX (Ce Cf Cw : Addr) (H : Hp) (E : XK) : Out → Prop
  | .num _ => True
  | .bad j => ∀ dx H', Same H H' → H dx = none → H' dx = some (.xd [("at", .int j)]) → E (.ref Ce) (some dx) H'
  | .full m => ∀ dx H', Same H H' → H dx = none → H' dx = some (.xd [("most", .int m)]) → E (.ref Cf) (some dx) H'
  | .twice k => ∀ dx H', Same H H' → H dx = none → H' dx = some (.xd [("number", .int k)]) → E (.ref Cw) (some dx) H'
def sp_Book_put (K : PySem.W.Frag) (Cb Ct Ce aF Cf Cw : Addr) : Sp := fun vs H Q E => ∃ (A : BkA) (B : BookS) (n : Nat) (x : V) (d : PyData) (c : E3 ⊕ Nat), vs = [.ref A.p, x] ∧ BkAt K Cb Ct H A B ∧ RwOk B.nx B.rows ∧ Dl K H n x d ∧ ChkD K aF d c ∧
  OutX Ce Cf Cw H E (putO B c) ∧ (∀ e, c = .inl e → putO B c = .num B.nx → ∀ H', Keep A.all H H' → BkAt K Cb Ct H' A (addB B (frmE e)) → Q (.int B.nx) H')
theorem s_putI {H : Hp} {d : Addr} {ps : List (Int × V)} {n : Int} {v : V} {N : Hp → Prop} (hd : H d = some (.dK (iOf ps))) (hl : (iOf ps).length < sizeLine) (h : N (upd H d (.dK (iOf (setI ps n v))))) : PutQ (.ref d) (.int n) v H N :=
  ⟨d, _, rfl, DPut.k (k := .inl n) hd hl, by rw [putK_iOf]; exact h⟩
theorem ok_Book_put (T : Top w K mg) : FnOk P w K mg base (L2.CX P w) 7 T.f_Book_put T.fd_Book_put ["self", "entry"] (sp_Book_put K T.C_Book T.C_Till T.C_BadEntry T.a_FORMS T.C_Full T.C_Twice) := by
  have G_FullU_initU := ok_FullU_initU (P := P) (w := w) (base := base) T
  have G_checked := ok_checked (P := P) (w := w) (base := base) T
  have G_Book_free := ok_Book_free (P := P) (w := w) (base := base) T
  have hcl_Till := T.cl_Till
  have hna_Till_sums := T.na_Till_sums
  have hcl_Book := T.cl_Book
  have hna_Book_most := T.na_Book_most
  have hna_Book_rows := T.na_Book_rows
  have hna_Book_next_number := T.na_Book_next_number
  have hna_Book_past := T.na_Book_past
  have hna_Book_done := T.na_Book_done
  have hna_Book_undone := T.na_Book_undone
  have hna_Book_till := T.na_Book_till
  have hna_Book_closed := T.na_Book_closed
  refine T.F_Book_put.okX sc_Book_put (fun vs H Q E h => by obtain ⟨A, B, n, x, d, c, rfl, _⟩ := h; rfl) (fun cdv A0 outer s H vs Q E hr h => ?_)
  obtain ⟨A, B, n, x, d, c, rfl, hb, ho, hx, hc, qx, q⟩ := h
  refine ⟨_, (pss_cons (ps_set (i := 1) sc_Book_put.nd rfl (Or.inl rfl) (pe_call (G_checked) (hr.mono (by decide)) (by rfl) T.g_checked T.k_checked T.b_checked .nil (passes_call (E := E) (takes_of rfl rfl rfl rfl) (fun _ _ _ _ h => h)) (pa_cons (pv 1) pa_nil)))
      (pss_cons (ps_if (pt_cmpR op_geI (pe_callB call_lenDU (by rfl) T.n_len (by decide +kernel) (pa_cons (pe_fld (pv 0) rfl) pa_nil)) (pe_fld (pv 0) rfl) (nomark _)) (pss_one (ps_raise rfl (takes_of rfl rfl rfl rfl) (pmk_mk T.mk_Full T.oe_Full.kp (raises_own T.oe_Full.ex T.kq_tyFull) (G_FullU_initU) (hr.mono (by decide)) T.b_FullU_initU pass0 (by rfl) T.c_Full (pa_cons (pe_fld (pv 0) rfl) pa_nil)))) pss_nil)
      (pss_cons (ps_expr (pe_meth (pv 0) T.cl_Book T.m_Book_free (G_Book_free) (hr.mono (by decide)) T.b_Book_free .nil (passes_call (E := E) (takes_of rfl rfl rfl rfl) (fun _ _ _ _ h => h)) (pa_cons (pv 1) (pa_cons pe_non pa_nil))))
      (pss_cons (ps_set (i := 2) sc_Book_put.nd rfl (Or.inl rfl) (pe_fld (pv 0) rfl))
      (pss_cons (ps_dput (hu_of hr) (pe_fld (pv 0) rfl) (pv 2) (pv 1) rfl)
      (pss_cons (ps_fld (pv 0) (pe_op op_addU (pv 2) pe_int) rfl)
      (pss_one (ps_ret (pv 2))))))))), ?_⟩
  walk_at "cr.k"
  refine ⟨n, x, d, rfl, hx, ?_⟩
  match c, hc with
  | .inr 0, hc => exact .inr (.inl ⟨hc, fun dx H' s1 n1 e => qx dx H' s1 n1 e⟩)
  | .inr (j + 1), ⟨k, rest, e1, hk, hb1⟩ => exact .inr (.inr ⟨k, rest, j, e1, hk, hb1, fun dx H' s1 n1 e => qx dx H' s1 n1 e⟩)
  | .inl (ek, ed, er), ⟨e1, he⟩ =>
  refine .inl ⟨ek, ed, er, e1, he, fun v H1 s1 hv => ?_⟩
  have hb1 := hb.same s1
  have hp := hb1.hp
  obtain ⟨ps, hrd, hps⟩ := hb1.hr
  have hv' : Dt K H1 v (dE (frmE (ek, ed, er))) := hv
  have he' : EntIn Nm Nm 400 (frmE (ek, ed, er)) := form_ent he
  have lps : (iOf ps).length = B.rows.length := by rw [iOf_len, A2.len hps]
  walk_at "cr.go"
  have hm : H1 A.p = some (.ins T.C_Book A.dx (bkF B.most A.r B.nx A.pa A.dn A.un A.t)) := hp
  by_cases hfull : B.most ≤ B.rows.length
  · rw [lps, decide_eq_true hfull, if_pos rfl]
    walk_at "cr.go"
    refine s_mkO1 T.oe_Full T.na_Full fun dx hdx => ?_
    have e2 : putO B (.inl (ek, ed, er)) = .full B.most := put_full hfull
    rw [e2] at qx
    exact qx dx _ (s1.trans (same_new hdx)) (free_on hdx s1) upd_same
  rw [lps, decide_eq_false hfull, if_neg Bool.false_ne_true]
  walk_at "cr.go"
  refine u_Book_freeX (n := none) rfl hb1 hv' he' ho (fun hn H2 s2 => ?_) (fun k hk dx H2 s2 n2 e2 => ?_)
  rotate_left
  · have e3 : putO B (.inl (ek, ed, er)) = .twice k := put_twice hfull hk
    rw [e3] at qx
    exact qx dx H2 (s1.trans s2) (free_on n2 s1) e2
  have e3 : putO B (.inl (ek, ed, er)) = .num B.nx := put_num hfull hn
  have hb2 := hb1.same s2
  have hp2 := s2 _ _ hp
  have hrd2 := s2 _ _ hrd
  have hps2 := hps.mono (kt_same s2)
  have hv2 := hv'.mono (kt_same s2)
  have nk : B.nx ∉ ps.map Prod.fst := by
    rw [hps.keys]
    intro z
    obtain ⟨w, hw, e⟩ := List.mem_map.mp z
    have := (ho.lo w hw).2
    omega
  have lsz : (iOf ps).length < sizeLine := by rw [lps]; exact room5 (by have := ho.len; omega)
  walk_at "cr.go"
  refine s_putI hrd2 lsz ?_
  rw [setI_new nk]
  have hb3 : BkAt K T.C_Book T.C_Till (upd H2 A.r (.dK (iOf (ps ++ [(B.nx, v)])))) A { B with rows := B.rows ++ [(B.nx, frmE (ek, ed, er))] } := hb2.setRows (A2.snoc (R := fun (p : Int × V) (e : Row) => p.1 = e.1 ∧ Dt K H2 p.2 (dE e.2)) ⟨rfl, hv2⟩ hps2)
  have k3 : Keep A.all H (upd H2 A.r (.dK (iOf (ps ++ [(B.nx, v)])))) := ((Keep.same s1).trans (Keep.same s2)).trans (Keep.upd (by simp [BkA.all]))
  have hp3 : upd H2 A.r (.dK (iOf (ps ++ [(B.nx, v)]))) A.p = some (.ins T.C_Book A.dx (bkF B.most A.r B.nx A.pa A.dn A.un A.t)) := hb3.hp
  generalize upd H2 A.r (.dK (iOf (ps ++ [(B.nx, v)]))) = H3 at *
  clear hrd2 hps2 hv2 hp2 hb2 hps hrd hp hb1 hv hv' hm
  walk_at "cr.go"
  have hb4 : BkAt K T.C_Book T.C_Till (upd H3 A.p (.ins T.C_Book A.dx (bkF B.most A.r (B.nx + 1) A.pa A.dn A.un A.t))) A (addB B (frmE (ek, ed, er))) :=
    hb3.setIns (u := A.un) (us := A.uns) (uu := B.undone) hb3.hun hb3.huns (.inl rfl) (.inl rfl)
  exact q _ rfl e3 _ (k3.trans (Keep.upd (by simp [BkA.all]))) hb4
theorem u_Book_putX {Cb Ct Ce aF Cf Cw : Addr} {H : Hp} {Q : VK} {E : XK} {vs : List V} {A : BkA} {B : BookS} {n : Nat} {x : V} {d : PyData} {c : E3 ⊕ Nat} (ev : vs = [.ref A.p, x]) (hb : BkAt K Cb Ct H A B) (ho : RwOk B.nx B.rows) (hx : Dl K H n x d) (hc : ChkD K aF d c) (qx : OutX Ce Cf Cw H E (putO B c))
    (q : ∀ e, c = .inl e → putO B c = .num B.nx → ∀ H', Keep A.all H H' → BkAt K Cb Ct H' A (addB B (frmE e)) → Q (.int B.nx) H') : sp_Book_put K Cb Ct Ce aF Cf Cw vs H Q E := ⟨A, B, n, x, d, c, ev, hb, ho, hx, hc, qx, q⟩
/-! what any data of an entry's shape is -/
theorem dl_pair {K : PySem.W.Frag} {H : Hp} {x : V} {t : Str} {c : Int} (h : Dt K H x (.tuple [.str t, .int c])) (lt : t.cps.size ≤ 1000) : Dl K H 1 x (.tuple [.str t, .int c]) := by
  obtain ⟨a, xs, rfl, hs, hd⟩ := h.tup_inv
  cases hd with
  | cons a0 r => cases r with
    | cons a1 r => cases r with
      | nil =>
        obtain rfl := a0.str_eq
        obtain rfl := a1.int_eq
        exact .inr ⟨a, _, _, rfl, rfl, hs, .cons (Dl.str lt) (.cons Dl.int .nil), by show 2 ≤ 900; decide⟩
theorem prs_dl {K : PySem.W.Frag} {H : Hp} : ∀ {vs : List V} {ps : List (Str × Int)}, (∀ p, p ∈ ps → p.1.cps.size ≤ 1000) → DtAll K H vs (ps.map fun p => PyData.tuple [.str p.1, .int p.2]) → A2 (Dl K H 1) vs (ps.map fun p => PyData.tuple [.str p.1, .int p.2]) := by
  intro vs ps hn
  induction ps generalizing vs with
  | nil => intro h; cases h; exact .nil
  | cons p ps ih => intro h; cases h with | cons a b => exact .cons (dl_pair a (hn p List.mem_cons_self)) (ih (fun q hq => hn q (List.mem_cons_of_mem _ hq)) b)
theorem pairsB_bad {es : List PyData} {e : PyData} (h : e ∈ es) (hb : pairB e = false) : pairsB (.tuple es) = false := by
  rw [pairsB_t]
  have : es.all pairB = false := List.all_eq_false.mpr ⟨e, h, by rw [hb]; decide⟩
  rw [this]; simp
theorem pairsB_nine {es : List PyData} (h : es.length = 9) : pairsB (.tuple es) = false := by
  rw [pairsB_t, decide_eq_false (by omega)]; rfl
theorem pairsB_dup {es : List PyData} {t : Str} {c c' : Int} (h : PyData.tuple [.str t, .int c] ∈ es) : pairsB (.tuple (es ++ [.tuple [.str t, .int c']])) = false := by
  rw [pairsB_t]
  have : ¬ ((es ++ [PyData.tuple [.str t, .int c']]).map keyD).Nodup := fun z => by
    rw [List.map_append] at z
    exact (List.nodup_append.mp z).2.2 t (List.mem_map.mpr ⟨_, h, rfl⟩) t (List.mem_singleton.mpr rfl) rfl
  rw [decide_eq_false this]; simp
theorem prs_of {K : PySem.W.Frag} {H : Hp} {α : Type} : ∀ {zs : List α} {ys : List V}, A2 (fun _ y => ∃ (s : Str) (c : Int), s.cps.size ≤ 1000 ∧ Dt K H y (.tuple [.str s, .int c])) zs ys → ∃ qs : List (Str × Int), qs.length = zs.length ∧ (∀ p, p ∈ qs → p.1.cps.size ≤ 1000) ∧ DtAll K H ys (qs.map fun p => PyData.tuple [.str p.1, .int p.2])
  | _, _, .nil => ⟨[], rfl, (fun _ h => nomatch h), .nil⟩
  | _, _, .cons ⟨s, c, h1, h2⟩ r => by
    obtain ⟨qs, e, h3, h4⟩ := prs_of r
    exact ⟨(s, c) :: qs, by rw [List.length_cons, List.length_cons, e], fun p hp => by
      rcases List.mem_cons.mp hp with rfl | hp
      · exact h1
      · exact h3 p hp, .cons h2 h4⟩
theorem kind_small {k : Str} (h : k ∈ kindsE) : k.cps.size ≤ 1000 :=
  kinds_of (P := fun k => k.cps.size ≤ 1000) (by decide +kernel) (by decide +kernel) (by decide +kernel) (by decide +kernel) (by decide +kernel) (by decide +kernel) (by decide +kernel) (by decide +kernel) (by decide +kernel) (by decide +kernel) (by decide +kernel) (by decide +kernel) h
theorem ent_dl {K : PySem.W.Frag} {H : Hp} {k : Str} {d : Int} {rest : List PyData} {vs : List V} (h : EntOf Nm Nm 400 k d rest) (hd : DtAll K H vs rest) : A2 (Dl K H 3) vs rest := by
  have key : ∀ e, e ∈ rest → (∃ i, e = .int i) ∨ (∃ t : Str, e = .str t ∧ t.cps.size ≤ 1000) ∨ ∃ ps, e = pairsD ps ∧ PsOf Nm ps := by
    have nm : ∀ t, Nm t → t.cps.size ≤ 1000 := fun t h => by have := h.2.1; omega
    intro e he
    cases h <;> simp only [List.mem_cons, List.not_mem_nil, or_false] at he
    case price =>
      rcases he with rfl | rfl
      · exact .inr (.inl ⟨_, rfl, nm _ (by assumption)⟩)
      · exact .inl ⟨_, rfl⟩
    case mix => subst he; exact .inr (.inr ⟨_, rfl, by assumption⟩)
    case come =>
      rcases he with rfl | rfl
      · exact .inr (.inl ⟨_, rfl, nm _ (by assumption)⟩)
      · exact .inl ⟨_, rfl⟩
    case go =>
      rcases he with rfl | rfl
      · exact .inr (.inl ⟨_, rfl, nm _ (by assumption)⟩)
      · exact .inl ⟨_, rfl⟩
    case draw =>
      rcases he with rfl | rfl
      · exact .inr (.inl ⟨_, rfl, nm _ (by assumption)⟩)
      · exact .inl ⟨_, rfl⟩
    case give =>
      rcases he with rfl | rfl | rfl
      · exact .inr (.inl ⟨_, rfl, nm _ (by assumption)⟩)
      · exact .inr (.inl ⟨_, rfl, nm _ (by assumption)⟩)
      · exact .inl ⟨_, rfl⟩
    case rate => subst he; exact .inl ⟨_, rfl⟩
    case aside => subst he; exact .inr (.inl ⟨_, rfl, nm _ (by assumption)⟩)
    case home => subst he; exact .inr (.inl ⟨_, rfl, nm _ (by assumption)⟩)
    case levy => subst he; exact .inl ⟨_, rfl⟩
    case hurdle => subst he; exact .inl ⟨_, rfl⟩
  clear h
  induction rest generalizing vs with
  | nil => cases hd; exact .nil
  | cons e rest ih =>
    cases hd with
    | cons a b =>
      refine .cons ?_ (ih b fun x hx => key x (List.mem_cons_of_mem _ hx))
      rcases key e List.mem_cons_self with ⟨i, rfl⟩ | ⟨t, rfl, ht⟩ | ⟨ps, rfl, hp⟩
      · obtain rfl := a.int_eq
        exact Dl.int
      · obtain rfl := a.str_eq
        exact Dl.str ht
      · obtain ⟨c, us, rfl, hc, hu⟩ := a.tup_inv
        have : A2 (Dl K H 1) us (ps.map fun p => PyData.tuple [.str p.1, .int p.2]) := prs_dl (fun p hp' => by have := (hp.ok p hp').1.2.1; omega) hu
        exact .inl (.inr ⟨c, us, _, rfl, rfl, hc, this, by rw [A2.len this, List.length_map]; have := hp.l1; omega⟩)
theorem dt_dlE {K : PySem.W.Frag} {H : Hp} {v : V} {k : Str} {d d' : Int} {rest : List PyData} (he : EntOf Nm Nm 400 k d rest) (h : Dt K H v (.tuple (.str k :: .int d' :: rest))) : Dl K H 4 v (.tuple (.str k :: .int d' :: rest)) := by
  obtain ⟨a, xs, rfl, hs, hd⟩ := h.tup_inv
  cases hd with
  | cons a0 r => cases r with
    | cons a1 r =>
      obtain rfl := a0.str_eq
      obtain rfl := a1.int_eq
      have hl := r.len
      have hr : rest.length ≤ 4 := by cases he <;> simp
      exact .inr ⟨a, _, _, rfl, rfl, hs, .cons (Dl.str (kind_small he.kind)) (.cons Dl.int (ent_dl he r)), by simp only [List.length_cons]; omega⟩
theorem bad_day {k : Str} {d d' : Int} {rest : List PyData} (he : EntOf Nm Nm 400 k d rest) (hw : wholeB 0 400 (.int d') = false) : BadAt k (.int d' :: rest) 0 := by
  have h1 := (ok_ent he).1
  refine ⟨h1, Nat.zero_lt_succ _, fun i hi => absurd hi (Nat.not_lt_zero _), ?_⟩
  rintro ⟨g, e, h2, h3, h4, _⟩
  cases h3
  have hg : (formsB k)[0]? = some (wholeB 0 400) := kinds_of (P := fun k => (formsB k)[0]? = some (wholeB 0 400)) (by rw [fb_price]; rfl) (by rw [fb_mix]; rfl) (by rw [fb_come]; rfl) (by rw [fb_go]; rfl) (by rw [fb_draw]; rfl) (by rw [fb_give]; rfl) (by rw [fb_rate]; rfl) (by rw [fb_harvest]; rfl) (by rw [fb_aside]; rfl) (by rw [fb_home]; rfl) (by rw [fb_levy]; rfl) (by rw [fb_hurdle]; rfl) he.kind
  rw [hg] at h2
  cases h2
  rw [hw] at h4
  cases h4
theorem RwOk.snoc {nx : Int} {rows : List Row} {e : E3} (h : RwOk nx rows) (h1 : 1 ≤ nx) (he : EntIn Nm Nm 400 e) (l : rows.length < 60) : RwOk (nx + 1) (rows ++ [(nx, e)]) := by
  refine ⟨?_, fun x hx => ?_, fun x hx => ?_, by rw [List.length_append]; exact l⟩
  · rw [List.map_append]
    refine List.pairwise_append.mpr ⟨h.rise, List.pairwise_singleton _ _, fun a ha b hb => ?_⟩
    obtain ⟨p, hp, rfl⟩ := List.mem_map.mp ha
    rw [List.mem_singleton.mp hb]
    exact (h.lo p hp).2
  · rcases List.mem_append.mp hx with hx | hx
    · have := h.lo x hx; omega
    · rw [List.mem_singleton.mp hx]; exact ⟨h1, by show nx < nx + 1; omega⟩
  · rcases List.mem_append.mp hx with hx | hx
    · exact h.ent x hx
    · rw [List.mem_singleton.mp hx]; exact he
theorem slot_frm (e : E3) : slotE (frmE e) = slotE e := by
  obtain ⟨k, d, r⟩ := e
  show slotD k d (formR k r) = slotD k d r
  by_cases h : k = "mix"
  · subst h
    unfold slotD
    rw [show slotN "mix" = some 2 by decide +kernel]
    rfl
  · rw [formR_other h]
theorem hit_frm (e : E3) (n : Option Int) (p : Row) : hitB (frmE e) n p = hitB e n p := by
  by_cases h : slotE e ≠ .none ∧ n ≠ some p.1 ∧ slotE p.2 = slotE e
  · rw [hit_iff.mpr h, hit_iff.mpr (by rw [slot_frm]; exact h)]
  · rw [hit_no h, hit_no (by rw [slot_frm]; exact h)]
theorem free_frm (rows : List Row) (e : E3) (n : Option Int) : freeF rows (frmE e) n = freeF rows e n := by
  unfold freeF
  rw [show hitB (frmE e) n = hitB e n from funext (hit_frm e n)]

/-! ### Book_granted -/
abbrev grantB (B : BookS) (rows : List Row) : BookS := { B with past := B.past ++ [B.rows], done := B.done ++ [rows], undone := [] }
def sp_Book_granted (K : PySem.W.Frag) (Cb Ct : Addr) : Sp := fun vs H Q _ => ∃ (A : BkA) (B : BookS) (b : Addr) (rows : List Row), vs = [.ref A.p, .ref b] ∧ BkAt K Cb Ct H A B ∧ RowsAt K H b rows ∧ b ∉ A.all ∧ B.past.length ≤ 100000 ∧ B.done.length ≤ 100000 ∧
  ∀ A' H', Keep A.all H H' → BkAt K Cb Ct H' A' (grantB B rows) → A'.p = A.p → (∀ x, x ∈ A'.all → x ∈ A.all ∨ x = b ∨ H x = none) → Q .non H'
theorem u_Book_granted {Cb Ct : Addr} {H : Hp} {Q : VK} {E : XK} {vs : List V} {A : BkA} {B : BookS} {b : Addr} {rows : List Row} (e : vs = [.ref A.p, .ref b]) (hb : BkAt K Cb Ct H A B) (hr : RowsAt K H b rows) (nb : b ∉ A.all) (l1 : B.past.length ≤ 100000) (l2 : B.done.length ≤ 100000)
    (q : ∀ A' H', Keep A.all H H' → BkAt K Cb Ct H' A' (grantB B rows) → A'.p = A.p → (∀ x, x ∈ A'.all → x ∈ A.all ∨ x = b ∨ H x = none) → Q .non H') : sp_Book_granted K Cb Ct vs H Q E := ⟨A, B, b, rows, e, hb, hr, nb, l1, l2, q⟩
theorem ok_Book_granted (T : Top w K mg) : FnOk P w K mg base CX0 1 T.f_Book_granted T.fd_Book_granted ["self", "before"] (sp_Book_granted K T.C_Book T.C_Till) := by
  have hcl_Till := T.cl_Till
  have hna_Till_sums := T.na_Till_sums
  have hcl_Book := T.cl_Book
  have hna_Book_most := T.na_Book_most
  have hna_Book_rows := T.na_Book_rows
  have hna_Book_next_number := T.na_Book_next_number
  have hna_Book_past := T.na_Book_past
  have hna_Book_done := T.na_Book_done
  have hna_Book_undone := T.na_Book_undone
  have hna_Book_till := T.na_Book_till
  have hna_Book_closed := T.na_Book_closed
  refine T.F_Book_granted.ok sc_Book_granted (fun vs H Q E h => by obtain ⟨A, B, b, rows, rfl, _⟩ := h; rfl) (fun cdv A0 outer s H vs Q E hr h => ?_)
  obtain ⟨A, B, b, rows, rfl, hb, hrb, nb, l1, l2, q⟩ := h
  have hp := hb.hp
  have hpa := hb.hpa
  have lpa : (A.pas.map V.ref).length < sizeLine := room5 (by rw [List.length_map, A2.len hb.hpas]; exact l1)
  have ldn : (A.dos.map V.ref).length < sizeLine := room5 (by rw [List.length_map, A2.len hb.hdos]; exact l2)
  obtain ⟨ps, e, h2⟩ := hb.hr
  refine ⟨_, (pss_cons (ps_expr (pe_bm PySem.F.plainAttrs_list PySem.F.slot_list_append PySem.F.type_list_append mt_append (pe_fld (pv 0) rfl) (pa_cons (pe_callTy call_dictU (by rfl) T.n_dict (by decide +kernel) (pa_cons (pe_fld (pv 0) rfl) pa_nil)) pa_nil)))
      (pss_cons (ps_expr (pe_bm PySem.F.plainAttrs_list PySem.F.slot_list_append PySem.F.type_list_append mt_append (pe_fld (pv 0) rfl) (pa_cons (pv 1) pa_nil)))
      (pss_one (ps_fld (pv 0) (pe_lst pa_nil) rfl)))), ?_⟩
  walk_at "cr.k"
  rename_i d hd
  have nd := hb.notin hd
  have hb1 := (hb.new (o := .dK (iOf ps)) hd).pushPast (d := d) ⟨ps, upd_same, h2.mono (kt_new hd)⟩ nd
  have kt1 : KT H (upd (upd H d (.dK (iOf ps))) A.pa (.lst (A.pas.map V.ref ++ [.ref d]))) := (kt_new hd).trans (kt_mut (hb.new hd).hpa rfl)
  have nbp : b ≠ A.pa := fun z => nb (by simp [BkA.all, z])
  have hrb1 : RowsAt K (upd (upd H d (.dK (iOf ps))) A.pa (.lst (A.pas.map V.ref ++ [.ref d]))) b rows := hrb.up kt1 fun kvs e => by rw [upd_ne nbp]; exact same_new hd _ _ e
  have k1 : Keep A.all H (upd (upd H d (.dK (iOf ps))) A.pa (.lst (A.pas.map V.ref ++ [.ref d]))) := (Keep.same (same_new hd)).trans (Keep.upd (by simp [BkA.all]))
  have nbd : b ≠ d := fun z => by obtain ⟨_, e, _⟩ := hrb; rw [z, hd] at e; cases e
  generalize upd (upd H d (.dK (iOf ps))) A.pa (.lst (A.pas.map V.ref ++ [.ref d])) = H1 at *
  have hp1 : H1 A.p = some (.ins T.C_Book A.dx (bkF B.most A.r B.nx A.pa A.dn A.un A.t)) := hb1.hp
  have hdn1 : H1 A.dn = some (.lst (A.dos.map V.ref)) := hb1.hdn
  clear hp hpa e h2 kt1
  walk_at "cr.go"
  have nb1 : b ∉ ({ A with pas := A.pas ++ [d] } : BkA).all := fun z => by
    simp only [BkA.all, List.mem_cons, List.mem_append, List.not_mem_nil, or_false] at z nb
    grind
  have hb2 : BkAt K T.C_Book T.C_Till (upd H1 A.dn (.lst (A.dos.map V.ref ++ [.ref b]))) ⟨A.p, A.dx, A.r, A.pa, A.dn, A.un, A.t, A.tx, A.td, A.pas ++ [d], A.dos ++ [b], A.uns⟩ ⟨B.most, B.rows, B.nx, B.past ++ [B.rows], B.done ++ [rows], B.undone⟩ := hb1.pushDone hrb1 nb1
  have k2 : Keep A.all H (upd H1 A.dn (.lst (A.dos.map V.ref ++ [.ref b]))) := k1.trans (Keep.upd (by simp [BkA.all]))
  rename_i u hu
  have hu' : (upd H1 A.dn (.lst (A.dos.map V.ref ++ [.ref b]))) u = none := hu
  clear hb1 hrb1 k1 hp1 hdn1 hu
  generalize upd H1 A.dn (.lst (A.dos.map V.ref ++ [.ref b])) = H2 at *
  have nu := hb2.notin hu'
  have hb3 := hb2.new (o := .lst []) hu'
  have hp3 : (upd H2 u (.lst [])) A.p = some (.ins T.C_Book A.dx (bkF B.most A.r B.nx A.pa A.dn A.un A.t)) := hb3.hp
  have hb4 : BkAt K T.C_Book T.C_Till (upd (upd H2 u (.lst [])) A.p (.ins T.C_Book A.dx (bkF B.most A.r B.nx A.pa A.dn u A.t))) ⟨A.p, A.dx, A.r, A.pa, A.dn, u, A.t, A.tx, A.td, A.pas ++ [d], A.dos ++ [b], []⟩ ⟨B.most, B.rows, B.nx, B.past ++ [B.rows], B.done ++ [rows], []⟩ :=
    hb3.setIns (us := []) (uu := []) upd_same .nil (.inr nu) (.inr rfl)
  have k4 : Keep A.all H (upd (upd H2 u (.lst [])) A.p (.ins T.C_Book A.dx (bkF B.most A.r B.nx A.pa A.dn u A.t))) := (k2.trans (Keep.same (same_new hu'))).trans (Keep.upd (by simp [BkA.all]))
  have nuH : H u = none := by
    cases e : H u with
    | none => rfl
    | some o =>
      by_cases z : u ∈ A.all
      · exfalso
        refine nu ?_
        simp only [BkA.all, List.mem_cons, List.mem_append, List.not_mem_nil, or_false] at z ⊢
        grind
      · rw [k2 u o z e] at hu'; cases hu'
  walk_at "cr.go"
  refine q _ _ k4 hb4 rfl fun x hx => ?_
  simp only [BkA.all, List.mem_cons, List.mem_append, List.not_mem_nil, or_false, List.append_nil] at hx ⊢
  rcases hx with h | h | h | h | h | h | h | ((h | h) | (h | h))
  · exact .inl (by simp [h])
  · exact .inl (by simp [h])
  · exact .inl (by simp [h])
  · exact .inl (by simp [h])
  · exact .inr (.inr (by rw [h]; exact nuH))
  · exact .inl (by simp [h])
  · exact .inl (by simp [h])
  · exact .inl (by simp [h])
  · exact .inr (.inr (by rw [h]; exact hd))
  · exact .inl (by simp [h])
  · exact .inr (.inl h)
local macro_rules | `(tactic| walk_at "cr.call") => `(tactic| ((with_reducible refine' Cr.u_Book_granted ?e ?a ?b ?c ?d ?f ?_); (case e => with_unfolding_all rfl); (case a => walk_at "cr.book"); (case b => with_reducible assumption); (case c => with_reducible assumption); (case d => first | with_reducible assumption | omega); (case f => first | with_reducible assumption | omega); intro A' H' kA hb' ep fA))

/-! ### Book_enter -/
abbrev entB (B : BookS) (e : E3) : BookS := ⟨B.most, B.rows ++ [(B.nx, e)], B.nx + 1, B.past ++ [B.rows ++ [(B.nx, e)]], B.done ++ [B.rows], []⟩
theorem OutX.same {Ce Cf Cw : Addr} {H H1 : Hp} {E : XK} {o : Out} (h : OutX Ce Cf Cw H E o) (s : Same H H1) : OutX Ce Cf Cw H1 E o := by
  cases o with
  | num _ => exact h
  | bad _ => exact fun dx H' s' n e => h dx H' (s.trans s') (s.free n) e
  | full _ => exact fun dx H' s' n e => h dx H' (s.trans s') (s.free n) e
  | twice _ => exact fun dx H' s' n e => h dx H' (s.trans s') (s.free n) e
def sp_Book_enter (K : PySem.W.Frag) (Cb Ct Ce aF Cf Cw : Addr) : Sp := fun vs H Q E => ∃ (A : BkA) (B : BookS) (n : Nat) (x : V) (d : PyData) (c : E3 ⊕ Nat), vs = [.ref A.p, x] ∧ BkAt K Cb Ct H A B ∧ RwOk B.nx B.rows ∧ Dl K H n x d ∧ ChkD K aF d c ∧ B.past.length ≤ 100000 ∧ B.done.length ≤ 100000 ∧
  OutX Ce Cf Cw H E (putO B c) ∧ (∀ e, c = .inl e → putO B c = .num B.nx → ∀ A' H', Keep A.all H H' → BkAt K Cb Ct H' A' (entB B (frmE e)) → A'.p = A.p → (∀ x, x ∈ A'.all → x ∈ A.all ∨ H x = none) → Q (.int B.nx) H')
theorem ok_Book_enter (T : Top w K mg) : FnOk P w K mg base (L2.CX P w) 8 T.f_Book_enter T.fd_Book_enter ["self", "entry"] (sp_Book_enter K T.C_Book T.C_Till T.C_BadEntry T.a_FORMS T.C_Full T.C_Twice) := by
  have G_Book_put := ok_Book_put (P := P) (w := w) (base := base) T
  have G_Book_granted := ok_Book_granted (P := P) (w := w) (base := base) T
  have hcl_Till := T.cl_Till
  have hna_Till_sums := T.na_Till_sums
  have hcl_Book := T.cl_Book
  have hna_Book_most := T.na_Book_most
  have hna_Book_rows := T.na_Book_rows
  have hna_Book_next_number := T.na_Book_next_number
  have hna_Book_past := T.na_Book_past
  have hna_Book_done := T.na_Book_done
  have hna_Book_undone := T.na_Book_undone
  have hna_Book_till := T.na_Book_till
  have hna_Book_closed := T.na_Book_closed
  refine T.F_Book_enter.okX sc_Book_enter (fun vs H Q E h => by obtain ⟨A, B, n, x, d, c, rfl, _⟩ := h; rfl) (fun cdv A0 outer s H vs Q E hr h => ?_)
  obtain ⟨A, B, n, x, d, c, rfl, hb, ho, hx, hc, l1, l2, qx, q⟩ := h
  have hp := hb.hp
  obtain ⟨ps, hrd, hps⟩ := hb.hr
  refine ⟨_, (pss_cons (ps_set (i := 2) sc_Book_enter.nd rfl (Or.inl rfl) (pe_callTy call_dictU (by rfl) T.n_dict (by decide +kernel) (pa_cons (pe_fld (pv 0) rfl) pa_nil)))
      (pss_cons (ps_set (i := 3) sc_Book_enter.nd rfl (Or.inl rfl) (pe_meth (pv 0) T.cl_Book T.m_Book_put (G_Book_put) (hr.mono (by decide)) T.b_Book_put .nil (passes_call (E := E) (takes_of rfl rfl rfl rfl) (fun _ _ _ _ h => h)) (pa_cons (pv 1) pa_nil)))
      (pss_cons (ps_expr (pe_meth (pv 0) T.cl_Book T.m_Book_granted (G_Book_granted) (hr.mono (by decide)) T.b_Book_granted .nil pass0 (pa_cons (pv 2) pa_nil)))
      (pss_one (ps_ret (pv 3)))))), ?_⟩
  walk_at "cr.k"
  rename_i b hbf
  have s1 := same_new (o := .dK (iOf ps)) hbf
  have hrb : RowsAt K (upd H b (.dK (iOf ps))) b B.rows := ⟨ps, upd_same, hps.mono (kt_same s1)⟩
  have nb := hb.notin hbf
  have hb1 := hb.same s1
  have hp1 := s1 _ _ hp
  refine u_Book_putX rfl hb1 ho (hx.same s1) hc (qx.same s1) fun e ec eo H2 k2 hb2 => ?_
  have nbp : ∀ x, x ∈ A.all → b ≠ x := fun x hx z => nb (z ▸ hx)
  have hrb2 : RowsAt K H2 b B.rows := hrb.up (hb1.kt k2.n) fun kvs e => k2 _ _ nb e
  have hp2 : H2 A.p = some (.ins T.C_Book A.dx (bkF B.most A.r (B.nx + 1) A.pa A.dn A.un A.t)) := hb2.hp
  have k3 : Keep A.all H H2 := (Keep.same s1).trans k2
  clear hx hp hrd hps hrb hb1 hp1
  walk_at "cr.go"
  rename_i A' H3 kA hb3 ep fA
  refine q e ec eo A' H3 (k3.trans kA) hb3 ep fun x hx => ?_
  rcases fA x hx with h | h | h
  · exact .inl h
  · rw [h]; exact .inr hbf
  · by_cases z : x ∈ A.all
    · exact .inl z
    · refine .inr ?_
      cases e : H x with
      | none => rfl
      | some o => rw [k3 x o z e] at h; cases h
theorem u_Book_enterX {Cb Ct Ce aF Cf Cw : Addr} {H : Hp} {Q : VK} {E : XK} {vs : List V} {A : BkA} {B : BookS} {n : Nat} {x : V} {d : PyData} {c : E3 ⊕ Nat} (ev : vs = [.ref A.p, x]) (hb : BkAt K Cb Ct H A B) (ho : RwOk B.nx B.rows) (hx : Dl K H n x d) (hc : ChkD K aF d c) (l1 : B.past.length ≤ 100000) (l2 : B.done.length ≤ 100000) (qx : OutX Ce Cf Cw H E (putO B c))
    (q : ∀ e, c = .inl e → putO B c = .num B.nx → ∀ A' H', Keep A.all H H' → BkAt K Cb Ct H' A' (entB B (frmE e)) → A'.p = A.p → (∀ x, x ∈ A'.all → x ∈ A.all ∨ H x = none) → Q (.int B.nx) H') : sp_Book_enter K Cb Ct Ce aF Cf Cw vs H Q E := ⟨A, B, n, x, d, c, ev, hb, ho, hx, hc, l1, l2, qx, q⟩

/-! ### Book_turns -/
def sp_Book_turns (K : PySem.W.Frag) (Cb Ct : Addr) : Sp := fun vs H Q _ => ∃ (A : BkA) (B : BookS), vs = [.ref A.p] ∧ BkAt K Cb Ct H A B ∧ Q (.int ((B.past.length : Int) - 1)) H
theorem u_Book_turns {Cb Ct : Addr} {H : Hp} {Q : VK} {E : XK} {vs : List V} {A : BkA} {B : BookS} (e : vs = [.ref A.p]) (hb : BkAt K Cb Ct H A B) (q : Q (.int ((B.past.length : Int) - 1)) H) : sp_Book_turns K Cb Ct vs H Q E := ⟨A, B, e, hb, q⟩
theorem ok_Book_turns (T : Top w K mg) : FnOk P w K mg base CX0 1 T.f_Book_turns T.fd_Book_turns ["self"] (sp_Book_turns K T.C_Book T.C_Till) := by
  have hcl_Till := T.cl_Till
  have hna_Till_sums := T.na_Till_sums
  have hcl_Book := T.cl_Book
  have hna_Book_most := T.na_Book_most
  have hna_Book_rows := T.na_Book_rows
  have hna_Book_next_number := T.na_Book_next_number
  have hna_Book_past := T.na_Book_past
  have hna_Book_done := T.na_Book_done
  have hna_Book_undone := T.na_Book_undone
  have hna_Book_till := T.na_Book_till
  have hna_Book_closed := T.na_Book_closed
  refine T.F_Book_turns.ok sc_Book_turns (fun vs H Q E h => by obtain ⟨A, B, rfl, _⟩ := h; rfl) (fun cdv A0 outer s H vs Q E hr h => ?_)
  obtain ⟨A, B, rfl, hb, q⟩ := h
  have hp := hb.hp
  have hpa := hb.hpa
  have el : ((A.pas.map V.ref).length : Int) = (B.past.length : Int) := by rw [List.length_map, A2.len hb.hpas]
  refine ⟨_, (pss_one (ps_ret (pe_op op_subU (pe_callB call_lenU (by rfl) T.n_len (by decide +kernel) (pa_cons (pe_fld (pv 0) rfl) pa_nil)) pe_int))), ?_⟩
  walk_at "cr.k"
  rw [el]
  exact q
local macro_rules | `(tactic| walk_at "cr.call") => `(tactic| ((with_reducible refine' Cr.u_Book_turns ?e ?a ?_); (case e => with_unfolding_all rfl); (case a => walk_at "cr.book")))

/-! ### NoTurnU_initU -/
abbrev sp_NoTurnU_initU (K : PySem.W.Frag) : Sp := spIni K "turn"
theorem ok_NoTurnU_initU (T : Top w K mg) : FnOk P w K mg base CX0 1 T.f_NoTurnU_initU T.fd_NoTurnU_initU ["self", "turn"] (sp_NoTurnU_initU K) := by
  have hcl_Till := T.cl_Till
  have hna_Till_sums := T.na_Till_sums
  have hcl_Book := T.cl_Book
  have hna_Book_most := T.na_Book_most
  have hna_Book_rows := T.na_Book_rows
  have hna_Book_next_number := T.na_Book_next_number
  have hna_Book_past := T.na_Book_past
  have hna_Book_done := T.na_Book_done
  have hna_Book_undone := T.na_Book_undone
  have hna_Book_till := T.na_Book_till
  have hna_Book_closed := T.na_Book_closed
  refine T.F_NoTurnU_initU.ok sc_NoTurnU_initU (fun vs H Q E h => by obtain ⟨a, C, v, rfl, _⟩ := h; rfl) (fun cdv A outer s H vs Q E hr h => ?_)
  obtain ⟨a, C, v, rfl, ea, T1, hno, q⟩ := h
  refine ⟨_, (pss_one (ps_ost1 (pv 0) (pv 1) rfl)), ?_⟩
  exact ⟨v, rfl, .ref a, rfl, a, C, rfl, T1, hno, ea, fun dx n ne => q dx n ne⟩
local macro_rules | `(tactic| walk_at "cr.call") => `(tactic| ((with_reducible refine' Cr.u_mkE (f := "turn") ?e (Top.oe_NoTurn _) (Top.na_NoTurn _) ?_); (case e => with_unfolding_all rfl); intro x H' hs hx))
local macro_rules | `(tactic| walk_at "cr.call") => `(tactic| ((with_reducible refine' Cr.u_fldE (f := "turn") ?a (Top.oe_NoTurn _) (Top.na_NoTurn _) ?_); (case a => with_reducible assumption)))

/-! ### Book_known -/
/-- the lambda's name within known -/
def qBk : Str := (("Book.known" : Str) ++ ".<locals>.") ++ "<lambda>"
abbrev rowD (p : Row) : PyData := .tuple [.int p.1, dE p.2]
/-- a turn as asked: none is the last one -/
def TurnV (v : V) (B : BookS) (i : Nat) : Prop := (v = .non ∧ i + 1 = B.past.length) ∨ (v = .int i ∧ i < B.past.length)
theorem funD_okC {CX : CXT} {x qual : Str} {params : Arguments} {body : List Stmt} {scope : Scope} {dvs : List V} {kws : List (Str × V)} {f : Addr} {fd : FuncData} {N ps : List Str} {k : Nat} {sp : Sp} (F : FunD K x qual params body scope dvs kws f fd) (S : FnScope N ps scope) (len : ∀ vs H Q E, sp vs H Q E → vs.length = ps.length)
    (hbody : ∀ (A : Around) (outer : List Env) (s : Shared) (H : Hp) (vs : List V) (Q : VK) (E : XK), Room k (A.deeper (envOfC qual scope s.heap.objs.size f fd.code)) → sp vs H Q E →
      ∃ t, PSs (cxOf CX P w K mg base N qual scope f fd.code A outer s H E) body t ∧ t { nx := fun _ H' => Q .non H', rt := Q } (start N vs) H) : FnOk P w K mg base CX (k + 1) f fd ps sp := by
  obtain ⟨oc, od, dV, kV, doc, pm, an, cdv, ct, osl, rfl, lk, hcd, _, _⟩ := F.ex
  exact fn_of lk hcd S len fun A outer s H vs Q E hr hsp => hbody A outer s H vs Q E hr hsp
theorem s_sortI {H : Hp} {Q : VK} {P : Addr} {q : Str} {te : TE} {σ : St} (h : te σ H fun x H1 => SortI K P q x H1 Q) : tSortI K P q te σ H Q := h
theorem rows_zip {H : Hp} : ∀ {ps : List (Int × V)} {rows : List Row}, PsAt K H ps rows → ((ps.zip (rows.map fun e => dE e.2)).map fun z => PyData.tuple [.int z.1.1, z.2]) = rows.map rowD
  | _, _, .nil => rfl
  | _, _, .cons a b => by rw [List.map_cons, List.zip_cons_cons, List.map_cons, List.map_cons, rows_zip b, a.1]
def sp_Book_known (K : PySem.W.Frag) (Cb Ct Cn P : Addr) : Sp := fun vs H Q E => ∃ (A : BkA) (B : BookS) (v : V), vs = [.ref A.p, v] ∧ BkAt K Cb Ct H A B ∧ TabS H P qBk ∧
  ((∃ (i : Nat) (rows : List Row), TurnV v B i ∧ B.past[i]? = some rows ∧ (∃ nx, RwOk nx rows) ∧ ∀ l ys H1, ExtN H H1 → TabS H1 P qBk → Fresh H l → H1 l = some (.lst ys) → DtAll K H1 ys (rows.map rowD) → Q (.ref l) H1) ∨
   (∃ n d, Dl K H n v d ∧ d ≠ .none ∧ wholeB 0 ((B.past.length : Int) - 1) d = false ∧ ∀ dx H', Same H H' → H dx = none → H' dx = some (.xd [("turn", v)]) → E (.ref Cn) (some dx) H'))
theorem ok_Book_known (T : Top w K mg) (TB : LamX.TabB base mg T.tc T.tP) : FnOk P w K mg base (L2.CX P w) 3 T.f_Book_known T.fd_Book_known ["self", "turn"] (sp_Book_known K T.C_Book T.C_Till T.C_NoTurn T.tP) := by
  have G_is_whole := ok_is_whole (P := P) (w := w) (base := base) T
  have G_Book_turns := ok_Book_turns (P := P) (w := w) (base := base) T
  have G_NoTurnU_initU := ok_NoTurnU_initU (P := P) (w := w) (base := base) T
  have hcl_Till := T.cl_Till
  have hna_Till_sums := T.na_Till_sums
  have hcl_Book := T.cl_Book
  have hna_Book_most := T.na_Book_most
  have hna_Book_rows := T.na_Book_rows
  have hna_Book_next_number := T.na_Book_next_number
  have hna_Book_past := T.na_Book_past
  have hna_Book_done := T.na_Book_done
  have hna_Book_undone := T.na_Book_undone
  have hna_Book_till := T.na_Book_till
  have hna_Book_closed := T.na_Book_closed
  refine funD_okC T.F_Book_known sc_Book_known (fun vs H Q E h => by obtain ⟨A, B, v, rfl, _⟩ := h; rfl) (fun A0 outer s H vs Q E hr h => ?_)
  obtain ⟨A, B, v, rfl, hb, hT, hc⟩ := h
  have hp := hb.hp
  have hpa := hb.hpa
  refine ⟨_, (pss_cons (ps_if (pt_cmpR op_isU (pv 1) pe_non (nomark _)) (pss_one (ps_set (i := 1) sc_Book_known.nd rfl (Or.inl rfl) (pe_meth0 (pv 0) T.cl_Book T.m_Book_turns (G_Book_turns) (hr.mono (by decide)) T.b_Book_turns .nil pass0))) pss_nil)
      (pss_cons (ps_if (pt_not (pt_tru (pe_call (G_is_whole) (hr.mono (by decide)) (by rfl) T.g_is_whole T.k_is_whole T.b_is_whole .nil pass0 (pa_cons (pv 1) (pa_cons pe_int (pa_cons (pe_meth0 (pv 0) T.cl_Book T.m_Book_turns (G_Book_turns) (hr.mono (by decide)) T.b_Book_turns .nil pass0) pa_nil)))))) (pss_one (ps_raise rfl (takes_of rfl rfl rfl rfl) (pmk_mk T.mk_NoTurn T.oe_NoTurn.kp (raises_own T.oe_NoTurn.ex T.kq_tyNoTurn) (G_NoTurnU_initU) (hr.mono (by decide)) T.b_NoTurnU_initU pass0 (by rfl) T.c_NoTurn (pa_cons (pv 1) pa_nil)))) pss_nil)
      (pss_one (ps_ret (pe_sortI (y := "row") rfl hr TB T.tcode (by exact ⟨fun _ _ _ _ _ _ => rfl, ⟨_, _, _, _, rfl⟩, rfl, rfl, rfl, by decide +kernel, by decide +kernel, by decide +kernel⟩) (by rfl) T.n_sorted (pe_bm0 PySem.F.plainAttrs_dict PySem.F.slot_dict_items PySem.F.type_dict_items mt_itemsK (pe_ix ix_seq (pe_fld (pv 0) rfl) (pv 1) (fun _ _ => rfl)))))))), ?_⟩
  rcases hc with ⟨i, rows, hv, hrow, ⟨nx, ho⟩, q⟩ | ⟨n, d, hd, hn, hw, q⟩
  · have hi : i < B.past.length := (List.getElem?_eq_some_iff.mp hrow).1
    obtain ⟨ra, hra, hr1⟩ := hb.hpas.flip.at hrow
    have ei : ((A.pas.map V.ref).length : Int) = B.past.length := by rw [List.length_map, A2.len hb.hpas]
    have eat : atI (A.pas.map V.ref) (i : Int) = some (.ref ra) := atI_nat (by rw [List.getElem?_map, hra]; rfl)
    rcases hv with ⟨rfl, e1⟩ | ⟨rfl, e1⟩
    · walk_at "cr.k"
      have e2 : (B.past.length : Int) - 1 = (i : Int) := by omega
      rw [e2]
      walk_at "cr.go"
      refine ⟨0, .int i, .int i, 0, _, rfl, .int, ?_⟩
      rw [show wholeB 0 _ (.int (i : Int)) = true from wh_ok (by omega) (by omega)]
      walk_at "cr.go"
      refine s_sortI ?_
      unfold tBM0
      walk_at "cr.go"
      obtain ⟨ps, hra2, hps⟩ := hr1
      refine ⟨.inr (.inr (.inl ⟨rfl, .inl ⟨_, hra2⟩⟩)), ?_⟩
      refine ⟨ra, _, rfl, rfl, hra2, fun pi hpi => ?_⟩
      have si := same_new (o := itemsO pi ra) hpi
      refine ⟨tab_keep (L := []) hT (.same si) (fun b hb => absurd hb List.not_mem_nil), pi, ra, ps, rows.map fun e => dE e.2, rfl, upd_same, si _ _ hra2, ?_, (hps.mono (kt_same si)).vals, ?_, fun l ys H1 ex t1 fl hl hd => ?_⟩
      · rw [hps.keys]; exact ho.rise
      · have := A2.len hps; have := ho.len; omega
      · rw [rows_zip hps] at hd
        exact q l ys H1 (fun b o e t => ex _ _ (si _ _ e) t) t1 (fun o e => fl o (si _ _ e)) hl hd
    · walk_at "cr.k"
      refine ⟨rfl, ?_⟩
      rw [decide_eq_false (fun z => nomatch z)]
      walk_at "cr.go"
      refine ⟨0, .int i, .int i, 0, _, rfl, .int, ?_⟩
      rw [show wholeB 0 _ (.int (i : Int)) = true from wh_ok (by omega) (by omega)]
      walk_at "cr.go"
      refine s_sortI ?_
      unfold tBM0
      walk_at "cr.go"
      obtain ⟨ps, hra2, hps⟩ := hr1
      refine ⟨.inr (.inr (.inl ⟨rfl, .inl ⟨_, hra2⟩⟩)), ?_⟩
      refine ⟨ra, _, rfl, rfl, hra2, fun pi hpi => ?_⟩
      have si := same_new (o := itemsO pi ra) hpi
      refine ⟨tab_keep (L := []) hT (.same si) (fun b hb => absurd hb List.not_mem_nil), pi, ra, ps, rows.map fun e => dE e.2, rfl, upd_same, si _ _ hra2, ?_, (hps.mono (kt_same si)).vals, ?_, fun l ys H1 ex t1 fl hl hd => ?_⟩
      · rw [hps.keys]; exact ho.rise
      · have := A2.len hps; have := ho.len; omega
      · rw [rows_zip hps] at hd
        exact q l ys H1 (fun b o e t => ex _ _ (si _ _ e) t) t1 (fun o e => fl o (si _ _ e)) hl hd
  · have hv : v ≠ .non := fun z => by
      subst z
      cases hd.cases
      exact hn rfl
    walk_at "cr.k"
    refine ⟨rfl, ?_⟩
    rw [decide_eq_false hv]
    walk_at "cr.go"
    refine ⟨n, v, d, 0, _, rfl, hd, ?_⟩
    rw [hw]
    walk_at "cr.go"
    refine s_mkO1 T.oe_NoTurn T.na_NoTurn fun dx hdx => ?_
    exact q dx _ (same_new hdx) hdx upd_same
theorem u_Book_known {Cb Ct Cn P : Addr} {H : Hp} {Q : VK} {E : XK} {vs : List V} {A : BkA} {B : BookS} {v : V} {i : Nat} {rows : List Row} (e : vs = [.ref A.p, v]) (hb : BkAt K Cb Ct H A B) (hT : TabS H P qBk) (hv : TurnV v B i) (hr : B.past[i]? = some rows) (ho : ∃ nx, RwOk nx rows)
    (q : ∀ l ys H1, ExtN H H1 → TabS H1 P qBk → Fresh H l → H1 l = some (.lst ys) → DtAll K H1 ys (rows.map rowD) → Q (.ref l) H1) : sp_Book_known K Cb Ct Cn P vs H Q E := ⟨A, B, v, e, hb, hT, .inl ⟨i, rows, hv, hr, ho, q⟩⟩
theorem u_Book_knownX {Cb Ct Cn P : Addr} {H : Hp} {Q : VK} {E : XK} {vs : List V} {A : BkA} {B : BookS} {v : V} {n : Nat} {d : PyData} (e : vs = [.ref A.p, v]) (hb : BkAt K Cb Ct H A B) (hT : TabS H P qBk) (hd : Dl K H n v d) (hn : d ≠ .none) (hw : wholeB 0 ((B.past.length : Int) - 1) d = false)
    (q : ∀ dx H', Same H H' → H dx = none → H' dx = some (.xd [("turn", v)]) → E (.ref Cn) (some dx) H') : sp_Book_known K Cb Ct Cn P vs H Q E := ⟨A, B, v, e, hb, hT, .inr ⟨n, d, hd, hn, hw, q⟩⟩
theorem s_cutG {g : TS} {D : Ends} {σ : St} {H : Hp} (js : List Nat) (I : (Nat → Option V) → Hp → Prop) (h : ∀ N' : St → Hp → Prop, (∀ σ' H', σ' = sets σ js (fun j => (σ'[j]?).join) → I (fun j => (σ'[j]?).join) H' → N' σ' H') → g { D with nx := N' } σ H)
    (hN : ∀ f H', I f H' → D.nx (sets σ js f) H') : g D σ H := h D.nx fun σ' H' e i => by rw [e]; exact hN _ H' i
/-! the state of the law -/
structure LI (K : PySem.W.Frag) (Cb Ct P : Addr) (H : Hp) (b l ph pt pr : Addr) (ys zs : List Str) (A : BkA) (B : BookS) (R : List Row) (ws : List V) : Prop where
  bag : Bag H b l
  bk : BkAt K Cb Ct H A B
  tab : TabS H P qBk
  hh : H ph = some (.lst (ys.map V.str))
  ht : H pt = some (.lst (zs.map V.str))
  hr : H pr = some (.lst ws)
  hd : DtAll K H ws (R.map rowD)
  na : ∀ x, x ∈ [b, l, ph, pt, pr] → x ∉ A.all
  nb : ph ≠ b ∧ pt ≠ b ∧ pr ≠ b ∧ pr ≠ l ∧ pr ≠ ph ∧ pr ≠ pt
theorem Bag.up' {H H' : Hp} {b l : Addr} (h : Bag H b l) (e1 : ∀ xs, H b = some (.lst xs) → H' b = some (.lst xs)) (e2 : ∀ xs, H l = some (.lst xs) → H' l = some (.lst xs)) : Bag H' b l := by
  obtain ⟨ns, p, r, z, h1, h2, h3⟩ := h
  exact ⟨ns, p, r, z, e1 _ h1, e2 _ h2, h3⟩
theorem tab_but {b : Addr} {H H' : Hp} {P : Addr} {q : Str} (s : But b H H') (t : TabS H P q) : TabS H' P q := tab_keep (L := [b]) t (fun c o n e => s.oth c o (fun z => n (by rw [z]; exact List.mem_cons_self)) e) (fun c hc o e => by
  rw [List.mem_singleton.mp hc] at e
  obtain ⟨xs, h⟩ := s.lst
  rw [h] at e
  cases e
  exact ⟨fun ps z => (nomatch z), fun φ z => (nomatch z)⟩)
section
variable {Cb Ct P : Addr} {H H' : Hp} {b l ph pt pr : Addr} {ys zs : List Str} {A A' : BkA} {B B' : BookS} {R : List Row} {ws : List V}
theorem LI.up (L : LI K Cb Ct P H b l ph pt pr ys zs A B R ws) (k : KT H H') (t : TabS H' P qBk) (e : ∀ x o, x ∈ [b, l, ph, pt, pr] ∨ x ∈ A.all → H x = some o → (∀ ps, o ≠ .tbl ps) → H' x = some o) : LI K Cb Ct P H' b l ph pt pr ys zs A B R ws := by
  have m : ∀ x xs, x ∈ [b, l, ph, pt, pr] → H x = some (.lst xs) → H' x = some (.lst xs) := fun x xs hx h => e x _ (.inl hx) h fun ps z => nomatch z
  exact ⟨L.bag.up' (fun xs => m _ xs (by simp)) (fun xs => m _ xs (by simp)), L.bk.up k fun b hb o h t => e b o (.inr hb) h t, t, m _ _ (by simp) L.hh, m _ _ (by simp) L.ht, m _ _ (by simp) L.hr, L.hd.mono k, L.na, L.nb⟩
theorem LI.same (L : LI K Cb Ct P H b l ph pt pr ys zs A B R ws) (s : Same H H') : LI K Cb Ct P H' b l ph pt pr ys zs A B R ws := L.up (kt_same s) (tab_keep (L := []) L.tab (.same s) (fun b hb => absurd hb List.not_mem_nil)) fun x o _ h _ => s _ _ h
theorem LI.ext (L : LI K Cb Ct P H b l ph pt pr ys zs A B R ws) (s : ExtN H H') (t : TabS H' P qBk) : LI K Cb Ct P H' b l ph pt pr ys zs A B R ws := L.up (extN_kt s) t fun x o _ h n => s _ _ h n
theorem LI.but (L : LI K Cb Ct P H b l ph pt pr ys zs A B R ws) (s : But b H H') (hB : Bag H' b l) : LI K Cb Ct P H' b l ph pt pr ys zs A B R ws := by
  obtain ⟨n1, n2, n3, _⟩ := L.nb
  exact ⟨hB, L.bk.but (L.na b (by simp)) s (l := l), tab_but s L.tab, s.oth _ _ n1 L.hh, s.oth _ _ n2 L.ht, s.oth _ _ n3 L.hr, L.hd.mono (kt_but s), L.na, L.nb⟩
theorem LI.has (L : LI K Cb Ct P H b l ph pt pr ys zs A B R ws) {x : Addr} (hx : x ∈ [b, l, ph, pt, pr] ∨ x ∈ A.all) : ∃ o, H x = some o ∧ ∀ ps, o ≠ .tbl ps := by
  rcases hx with hx | hx
  · obtain ⟨_, _, _, _, h1, h2, _⟩ := L.bag
    simp only [List.mem_cons, List.not_mem_nil, or_false] at hx
    rcases hx with rfl | rfl | rfl | rfl | rfl
    · exact ⟨_, h1, fun ps z => nomatch z⟩
    · exact ⟨_, h2, fun ps z => nomatch z⟩
    · exact ⟨_, L.hh, fun ps z => nomatch z⟩
    · exact ⟨_, L.ht, fun ps z => nomatch z⟩
    · exact ⟨_, L.hr, fun ps z => nomatch z⟩
  · obtain ⟨o, e, w⟩ := L.bk.own x hx
    exact ⟨o, e, w.tbl⟩
/-- a new list is changed -/
theorem LI.mut {x : Addr} {xs zs' : List V} (L : LI K Cb Ct P H b l ph pt pr ys zs A B R ws) (n : ∀ y, y ∈ [b, l, ph, pt, pr] ∨ y ∈ A.all → y ≠ x) (h : H x = some (.lst xs)) : LI K Cb Ct P (upd H x (.lst zs')) b l ph pt pr ys zs A B R ws :=
  L.up (kt_mut h rfl) (tab_keep (L := [x]) L.tab (.upd List.mem_cons_self) fun c hc o e => by
    rw [List.mem_singleton.mp hc, h] at e
    cases e
    exact ⟨fun ps z => (nomatch z), fun φ z => (nomatch z)⟩) fun y o hy e _ => (upd_ne (n y hy)).trans e
theorem LI.ne (L : LI K Cb Ct P H b l ph pt pr ys zs A B R ws) {x : Addr} (f : Fresh H x) : ∀ y, y ∈ [b, l, ph, pt, pr] ∨ y ∈ A.all → y ≠ x := fun y hy => by
  obtain ⟨o, e, t⟩ := L.has hy
  exact Fresh.ne f e t
/-- behind a deed -/
theorem LI.deed (L : LI K Cb Ct P H b l ph pt pr ys zs A B R ws) (k : Keep A.all H H') (hb : BkAt K Cb Ct H' A' B') (f : ∀ x, x ∈ A'.all → x ∈ A.all ∨ H x = none) : LI K Cb Ct P H' b l ph pt pr ys zs A' B' R ws := by
  have m : ∀ x o, x ∈ [b, l, ph, pt, pr] → H x = some o → H' x = some o := fun x o hx e => k x o (L.na x hx) e
  refine ⟨L.bag.up' (fun xs => m _ _ (by simp)) (fun xs => m _ _ (by simp)), hb, L.bk.tab k L.tab, m _ _ (by simp) L.hh, m _ _ (by simp) L.ht, m _ _ (by simp) L.hr, L.hd.mono (L.bk.kt k.n), fun x hx z => ?_, L.nb⟩
  rcases f x z with h | h
  · exact L.na x hx h
  · obtain ⟨o, e, _⟩ := L.has (.inl hx)
    rw [h] at e; cases e
/-- another book -/
theorem LI.book (L : LI K Cb Ct P H b l ph pt pr ys zs A B R ws) (s : Same H H') (hb : BkAt K Cb Ct H' A' B') (f : ∀ x, x ∈ A'.all → H x = none) : LI K Cb Ct P H' b l ph pt pr ys zs A' B' R ws := by
  have J := L.same s
  refine ⟨J.bag, hb, J.tab, J.hh, J.ht, J.hr, J.hd, fun x hx z => ?_, J.nb⟩
  obtain ⟨o, e, _⟩ := L.has (.inl hx)
  rw [f x z] at e; cases e
/-- behind a deed of another book -/
theorem LI.twin {Ht H2 : Hp} {At : BkA} {Bt : BookS} (L : LI K Cb Ct P H b l ph pt pr ys zs A B R ws) (s : Same H Ht) (hb : BkAt K Cb Ct Ht At Bt) (f : ∀ x, x ∈ At.all → H x = none) (k : Keep At.all Ht H2) : LI K Cb Ct P H2 b l ph pt pr ys zs A B R ws := by
  have J := L.same s
  refine J.up (hb.kt k.n) (hb.tab k J.tab) fun x o hx e _ => k x o (fun z => ?_) e
  obtain ⟨o', e', _⟩ := L.has hx
  rw [f x z] at e'; cases e'
theorem lay_rows {R : List Row} (h : ∀ p, p ∈ R → EntIn Nm Nm 400 p.2) : ∀ d, d ∈ R.map rowD → LayN 4 d := fun d hd => by
  obtain ⟨p, hp, rfl⟩ := List.mem_map.mp hd
  exact lay_tup fun e he => by
    simp only [List.mem_cons, List.not_mem_nil, or_false] at he
    rcases he with rfl | rfl
    · exact lay_int _
    · exact (lay_entQ (h p hp))
theorem LI.push {v : V} {p : Row} (L : LI K Cb Ct P H b l ph pt pr ys zs A B R ws) (hv : Dt K H v (rowD p)) : LI K Cb Ct P (upd H pr (.lst (ws ++ [v]))) b l ph pt pr ys zs A B (R ++ [p]) (ws ++ [v]) := by
  have kt : KT H (upd H pr (.lst (ws ++ [v]))) := kt_mut L.hr rfl
  obtain ⟨n1, n2, n3, n4, n5, n6⟩ := L.nb
  have nA := L.na pr (by simp)
  refine ⟨L.bag.upd n3 n4, L.bk.up kt fun b hb o e _ => (upd_ne fun z => nA (by rw [← z]; exact hb)).trans e, ?_, (upd_ne n5.symm).trans L.hh, (upd_ne n6.symm).trans L.ht, upd_same, ?_, L.na, L.nb⟩
  · refine tab_keep (L := [pr]) L.tab (.upd List.mem_cons_self) fun c hc o e => ?_
    rw [List.mem_singleton.mp hc, L.hr] at e
    cases e
    exact ⟨fun ps z => (nomatch z), fun φ z => (nomatch z)⟩
  · rw [List.map_append]; exact (L.hd.mono kt).append (.cons (hv.mono kt) .nil)
end
theorem row_at {H : Hp} {Q : VK} {pr : Addr} {ws : List V} {R : List Row} {i : Int} (hr : H pr = some (.lst ws)) (hd : DtAll K H ws (R.map rowD)) (i0 : 0 ≤ i) (i1 : i < ws.length) (q : ∀ v p, p ∈ R → Dt K H v (.tuple [.int p.1, dE p.2]) → Q v H) : rIx K (.ref pr) (.int i) H Q := by
  obtain ⟨j, rfl⟩ : ∃ j : Nat, i = (j : Int) := ⟨i.toNat, by omega⟩
  have hj : j < ws.length := by omega
  have hj2 : j < R.length := by have := hd.len; rw [List.length_map] at this; omega
  obtain ⟨d, ed, hv⟩ := hd.item (List.getElem?_eq_getElem hj)
  rw [List.getElem?_map, List.getElem?_eq_getElem hj2] at ed
  cases ed
  exact s_ixL (.of hr) (atI_nat (List.getElem?_eq_getElem hj)) (q _ _ (List.getElem_mem hj2) hv)

/-! ### Book_entries -/
theorem ents_rows {H : Hp} : ∀ {rows : List Row} {ys : List V}, A2 (fun (p : Row) v => Dt K H v (dE p.2)) rows ys → EntsAt K H ys (rows.map Prod.snd)
  | _, _, .nil => .nil
  | _, _, .cons a b => .cons a (ents_rows b)
theorem rows_a2 {H : Hp} : ∀ {rows : List Row} {ys : List V}, DtAll K H ys (rows.map rowD) → A2 (fun v (p : Row) => Dt K H v (rowD p)) ys rows
  | [], _, h => by cases h; exact .nil
  | p :: ps, _, h => by cases h with | cons a b => exact .cons a (rows_a2 b)
def sp_Book_entries (K : PySem.W.Frag) (Cb Ct Cn P : Addr) : Sp := fun vs H Q E => ∃ (A : BkA) (B : BookS) (v : V), vs = [.ref A.p, v] ∧ BkAt K Cb Ct H A B ∧ TabS H P qBk ∧
  ((∃ (i : Nat) (rows : List Row), TurnV v B i ∧ B.past[i]? = some rows ∧ (∃ nx, RwOk nx rows) ∧ ∀ l ys H1, ExtN H H1 → TabS H1 P qBk → Fresh H l → H1 l = some (.lst ys) → EntsAt K H1 ys (rows.map Prod.snd) → Q (.ref l) H1) ∨
   (∃ n d, Dl K H n v d ∧ d ≠ .none ∧ wholeB 0 ((B.past.length : Int) - 1) d = false ∧ ∀ dx H', Same H H' → H dx = none → H' dx = some (.xd [("turn", v)]) → E (.ref Cn) (some dx) H'))
theorem ok_Book_entries (T : Top w K mg) (TB : LamX.TabB base mg T.tc T.tP) : FnOk P w K mg base (L2.CX P w) 4 T.f_Book_entries T.fd_Book_entries ["self", "turn"] (sp_Book_entries K T.C_Book T.C_Till T.C_NoTurn T.tP) := by
  have G_Book_known := ok_Book_known (P := P) (w := w) (base := base) T TB
  have hcl_Till := T.cl_Till
  have hna_Till_sums := T.na_Till_sums
  have hcl_Book := T.cl_Book
  have hna_Book_most := T.na_Book_most
  have hna_Book_rows := T.na_Book_rows
  have hna_Book_next_number := T.na_Book_next_number
  have hna_Book_past := T.na_Book_past
  have hna_Book_done := T.na_Book_done
  have hna_Book_undone := T.na_Book_undone
  have hna_Book_till := T.na_Book_till
  have hna_Book_closed := T.na_Book_closed
  obtain ⟨_, v_Book_known_2, b_Book_known_2⟩ := bi_Book_known_2 T
  cases v_Book_known_2
  refine T.F_Book_entries.ok sc_Book_entries (fun vs H Q E h => by obtain ⟨A, B, v, rfl, _⟩ := h; rfl) (fun cdv A0 outer s H vs Q E hr h => ?_)
  obtain ⟨A, B, v, rfl, hb, hT, hc⟩ := h
  have hp := hb.hp
  refine ⟨_, (pss_one (ps_ret (pe_lc (own := [("number", 2), ("entry", 3)]) (g := gTup _ 2 (gCons (gName 2) (gCons (gName 3) gNil))) (tt := tYes) rfl sc_Book_entries.nd (pi_list (pe_meth (pv 0) T.cl_Book T.m_Book_known (G_Book_known) (hr.mono (by decide)) b_Book_known_2 .nil (passes_call (E := E) (takes_of rfl rfl rfl rfl) (fun _ _ _ _ h => h)) (pa_cons (pv 1) pa_nil))) (blkOk_by (N := ["self", "turn", "number", "entry"]) (sc := defScope s_Book_entries) (by decide +kernel)) (fun _ _ _ _ _ => pg_tup rfl (pgs_cons (pg_name (i := 2) sc_Book_entries.nd rfl (Or.inl rfl)) (pgs_cons (pg_name (i := 3) sc_Book_entries.nd rfl (Or.inl rfl)) pgs_nil))) (fun _ _ _ _ _ => pts_nil) (fun _ _ _ _ _ => (pv 3))))), ?_⟩
  rcases hc with ⟨i, rows, hv, hrow, ho, q⟩ | ⟨n, d, hd, hn, hw, q⟩
  · walk_at "cr.k"
    refine u_Book_known rfl hb hT hv hrow ho fun l ys H1 ex t1 fl hl hd => ?_
    obtain ⟨nx, ho⟩ := ho
    refine ⟨l, rfl, ⟨_, .of hl⟩, ?_⟩
    have hr2 := rows_a2 hd
    refine c_listS (fun H v (p : Row) => Dt K H v (rowD p)) (fun H (p : Row) v => Dt K H v (dE p.2)) (fun _ _ _ _ k h => h.mono k.kt) (fun _ _ _ _ k h => h.mono k.kt) (.of hl) hr2 (by rw [A2.len hr2]; have := ho.len; omega) ?_ ?_
    · rintro x ⟨m, k, d, rest⟩ A1 N hm hP hS hN
      have hP : Dt K A1 x (.tuple [.int m, dE (k, d, rest)]) := hP
      walk_at "cr.n"
      walk_at "cr.go"
      refine ⟨rfl, ?_⟩
      walk_at "cr.go"
      exact hN _ _ (Same.refl _) (by assumption)
    · intro p ys2 A1 hS hp2 hA h2
      walk_at "cr.n"
      walk_at "cr.go"
      exact q p ys2 A1 (fun b o e t => hS _ _ (ex _ _ e t)) (tab_keep (L := []) t1 (.same hS) (fun b hb => absurd hb List.not_mem_nil)) (Fresh.back (.of_none hp2) ex) hA (ents_rows h2)
  · walk_at "cr.k"
    exact u_Book_knownX rfl hb hT hd hn hw q
theorem u_Book_entries {Cb Ct Cn P : Addr} {H : Hp} {Q : VK} {E : XK} {vs : List V} {A : BkA} {B : BookS} {v : V} {i : Nat} {rows : List Row} (e : vs = [.ref A.p, v]) (hb : BkAt K Cb Ct H A B) (hT : TabS H P qBk) (hv : TurnV v B i) (hr : B.past[i]? = some rows) (ho : ∃ nx, RwOk nx rows)
    (q : ∀ l ys H1, ExtN H H1 → TabS H1 P qBk → Fresh H l → H1 l = some (.lst ys) → EntsAt K H1 ys (rows.map Prod.snd) → Q (.ref l) H1) : sp_Book_entries K Cb Ct Cn P vs H Q E := ⟨A, B, v, e, hb, hT, .inl ⟨i, rows, hv, hr, ho, q⟩⟩

/-! ### Till_twin -/
/-- a till that paid nothing -/
def sp_Till_twin (K : PySem.W.Frag) (Ct : Addr) : Sp := fun vs H Q _ => ∃ (t tx td : Addr), vs = [.ref t] ∧ H t = some (.ins Ct tx [(("sums" : Str), .ref td)]) ∧ H td = some (.dK []) ∧
  ∀ t' tx' td' H', Same H H' → H t' = none → H td' = none → t' ≠ td' → H' t' = some (.ins Ct tx' [(("sums" : Str), .ref td')]) → H' td' = some (.dK []) → Q (.ref t') H'
theorem u_Till_twin {Ct : Addr} {H : Hp} {Q : VK} {E : XK} {vs : List V} {t tx td : Addr} (e : vs = [.ref t]) (h1 : H t = some (.ins Ct tx [(("sums" : Str), .ref td)])) (h2 : H td = some (.dK []))
    (q : ∀ t' tx' td' H', Same H H' → H t' = none → H td' = none → t' ≠ td' → H' t' = some (.ins Ct tx' [(("sums" : Str), .ref td')]) → H' td' = some (.dK []) → Q (.ref t') H') : sp_Till_twin K Ct vs H Q E := ⟨t, tx, td, e, h1, h2, q⟩
theorem ok_Till_twin (T : Top w K mg) : FnOk P w K mg base CX0 3 T.f_Till_twin T.fd_Till_twin ["self"] (sp_Till_twin K T.C_Till) := by
  have G_TillU_initU := ok_TillU_initU (P := P) (w := w) (base := base) T
  have hcl_Till := T.cl_Till
  have hna_Till_sums := T.na_Till_sums
  have hcl_Book := T.cl_Book
  have hna_Book_most := T.na_Book_most
  have hna_Book_rows := T.na_Book_rows
  have hna_Book_next_number := T.na_Book_next_number
  have hna_Book_past := T.na_Book_past
  have hna_Book_done := T.na_Book_done
  have hna_Book_undone := T.na_Book_undone
  have hna_Book_till := T.na_Book_till
  have hna_Book_closed := T.na_Book_closed
  refine T.F_Till_twin.ok sc_Till_twin (fun vs H Q E h => by obtain ⟨t, tx, td, rfl, _⟩ := h; rfl) (fun cdv A0 outer s H vs Q E hr h => ?_)
  obtain ⟨t, tx, td, rfl, h1, h2, q⟩ := h
  refine ⟨_, (pss_cons (ps_set (i := 1) sc_Till_twin.nd rfl (Or.inl rfl) (pe_make0 T.M_Till (G_TillU_initU) (hr.mono (by decide)) (by rfl) T.c_Till T.b_TillU_initU .nil pass0))
      (pss_cons (ps_fld (pv 1) (pe_callTy call_dictU (by rfl) T.n_dict (by decide +kernel) (pa_cons (pe_fld (pv 0) rfl) pa_nil)) rfl)
      (pss_one (ps_ret (pv 1))))), ?_⟩
  walk_at "cr.k"
  rename_i t2 tx2 td2 H7 s7 nt ntd ned ht htd p hp0
  have e1 : upd H7 p (.dK []) t2 = some (.ins T.C_Till tx2 [(("sums" : Str), .ref td2)]) := same_new hp0 _ _ ht
  have n1 : t2 ≠ p := ne_of_none ht hp0
  refine w_fldG (fs' := [(("sums" : Str), .ref p)]) e1 hcl_Till hna_Till_sums (by show 1 < 1000; decide) (by with_unfolding_all rfl) ?_
  walk_at "cr.go"
  exact q t2 tx2 p _ (same_mut (s7.trans (same_new hp0)) nt) nt (free_on hp0 s7) n1 upd_same (by rw [upd_ne n1.symm]; exact upd_same)
local macro_rules | `(tactic| walk_at "cr.call") => `(tactic| ((with_reducible refine' Cr.u_Till_twin ?e ?a ?b ?_); (case e => with_unfolding_all rfl); (case a => walk_at "cr.at"); (case b => walk_at "cr.at"); intro t' tx' td' H' hs nt ntd ne ht htd))

/-! ### Book_twin -/
/-- a twin under way: an instance at p, dicts of rows, lists of dicts, all of them new -/
structure TW (K : PySem.W.Frag) (H0 H : Hp) (p C dx : Addr) (fs : List (Str × V)) (os : List Addr) (D : List (Addr × List Row)) (Ls : List (Addr × List Addr)) (X : List (Addr × HO)) : Prop where
  ins : H p = some (.ins C dx fs)
  sm : Same H0 H
  np : H0 p = none
  fresh : ∀ x, x ∈ os → H0 x = none
  nd : (p :: os).Nodup
  th : ∀ x, x ∈ os → ∃ o, H x = some o
  dd : ∀ d, d ∈ D → RowsAt K H d.1 d.2 ∧ d.1 ∈ os
  ls : ∀ l, l ∈ Ls → H l.1 = some (.lst (l.2.map V.ref)) ∧ l.1 ∈ os
  ob : ∀ x, x ∈ X → H x.1 = some x.2 ∧ x.1 ∈ os
section
variable {H0 H H' : Hp} {p C dx : Addr} {fs : List (Str × V)} {os : List Addr} {D : List (Addr × List Row)} {Ls : List (Addr × List Addr)} {X : List (Addr × HO)}
theorem TW.ne (I : TW K H0 H p C dx fs os D Ls X) {x : Addr} (h : x ∈ os) : x ≠ p := fun z => (List.nodup_cons.mp I.nd).1 (z ▸ h)
theorem TW.fld {f : Str} {y : V} {N : Hp → Prop} (I : TW K H0 H p C dx fs os D Ls X) (k : Cls K C) (n : NoAttr K C f) (l : fs.length < 1000) (q : ∀ H', TW K H0 H' p C dx (putF f y fs) os D Ls X → N H') : FldW K f y (.ref p) H N := by
  refine ⟨p, C, dx, fs, rfl, I.ins, k, n, l, q _ ⟨upd_same, same_mut I.sm I.np, I.np, I.fresh, I.nd, fun x hx => by rw [upd_ne (I.ne hx)]; exact I.th x hx, fun d hd => ?_, fun l hl => ?_, fun x hx => ?_⟩⟩
  · exact ⟨(I.dd d hd).1.up (kt_mut I.ins rfl) fun kvs e => by rw [upd_ne (I.ne (I.dd d hd).2)]; exact e, (I.dd d hd).2⟩
  · exact ⟨by rw [upd_ne (I.ne (I.ls l hl).2)]; exact (I.ls l hl).1, (I.ls l hl).2⟩
  · exact ⟨by rw [upd_ne (I.ne (I.ob x hx).2)]; exact (I.ob x hx).1, (I.ob x hx).2⟩
theorem TW.same (I : TW K H0 H p C dx fs os D Ls X) (s : Same H H') : TW K H0 H' p C dx fs os D Ls X :=
  ⟨s _ _ I.ins, I.sm.trans s, I.np, I.fresh, I.nd, fun x hx => (I.th x hx).imp fun o e => s _ _ e, fun d hd => ⟨(I.dd d hd).1.up (kt_same s) fun kvs e => s _ _ e, (I.dd d hd).2⟩, fun l hl => ⟨s _ _ (I.ls l hl).1, (I.ls l hl).2⟩, fun x hx => ⟨s _ _ (I.ob x hx).1, (I.ob x hx).2⟩⟩
/-- more addresses -/
theorem TW.more {bs : List Addr} (I : TW K H0 H p C dx fs os D Ls X) (hn : ∀ b, b ∈ bs → H b = none) (nd : bs.Nodup) (th : ∀ x, x ∈ bs → ∃ o, H' x = some o) (D' : List (Addr × List Row)) (Ls' : List (Addr × List Addr)) (X' : List (Addr × HO)) (s : Same H H')
    (h1 : ∀ d, d ∈ D' → RowsAt K H' d.1 d.2 ∧ d.1 ∈ bs) (h2 : ∀ l, l ∈ Ls' → H' l.1 = some (.lst (l.2.map V.ref)) ∧ l.1 ∈ bs) (h3 : ∀ x, x ∈ X' → H' x.1 = some x.2 ∧ x.1 ∈ bs) : TW K H0 H' p C dx fs (os ++ bs) (D ++ D') (Ls ++ Ls') (X ++ X') := by
  have J := I.same s
  refine ⟨J.ins, J.sm, J.np, fun x hx => ?_, ?_, fun x hx => (List.mem_append.mp hx).elim (J.th x) (th x), fun d hd => ?_, fun l hl => ?_, fun x hx => ?_⟩
  · rcases List.mem_append.mp hx with h | h
    · exact I.fresh x h
    · exact I.sm.free (hn x h)
  · rw [← List.cons_append]
    refine List.nodup_append.mpr ⟨I.nd, nd, fun a ha b hb e => ?_⟩
    subst e
    have hb' := hn a hb
    rcases List.mem_cons.mp ha with z | z
    · rw [z, I.ins] at hb'; cases hb'
    · obtain ⟨o, e⟩ := I.th a z
      rw [hb'] at e; cases e
  · rcases List.mem_append.mp hd with h | h
    · exact ⟨(J.dd d h).1, List.mem_append_left _ (J.dd d h).2⟩
    · exact ⟨(h1 d h).1, List.mem_append_right _ (h1 d h).2⟩
  · rcases List.mem_append.mp hl with h | h
    · exact ⟨(J.ls l h).1, List.mem_append_left _ (J.ls l h).2⟩
    · exact ⟨(h2 l h).1, List.mem_append_right _ (h2 l h).2⟩
  · rcases List.mem_append.mp hx with h | h
    · exact ⟨(J.ob x h).1, List.mem_append_left _ (J.ob x h).2⟩
    · exact ⟨(h3 x h).1, List.mem_append_right _ (h3 x h).2⟩
end
theorem a2_zip {H : Hp} : ∀ {bs : List Addr} {L : List (List Row)}, A2 (RowsAt K H) bs L → ∀ d, d ∈ bs.zip L → RowsAt K H d.1 d.2 ∧ d.1 ∈ bs
  | _, _, .cons a b, d, h => by
    rcases List.mem_cons.mp h with h | h
    · subst h; exact ⟨a, List.mem_cons_self⟩
    · have := a2_zip b d h; exact ⟨this.1, List.mem_cons_of_mem _ this.2⟩
theorem TW.lst {H0 H A : Hp} {p C dx l : Addr} {fs : List (Str × V)} {os bs : List Addr} {D : List (Addr × List Row)} {Ls : List (Addr × List Addr)} {X : List (Addr × HO)} {L : List (List Row)} (I : TW K H0 H p C dx fs os D Ls X) (s : Same H A) (n : H l = none) (e : A l = some (.lst (bs.map V.ref))) (r : A2 (RowsAt K A) bs L) (f : ∀ b, b ∈ bs → H b = none) (d : (l :: bs).Nodup) :
    TW K H0 A p C dx fs (os ++ (l :: bs)) (D ++ bs.zip L) (Ls ++ [(l, bs)]) X := by
  have J := I.more (bs := l :: bs) (fun b hb => (List.mem_cons.mp hb).elim (fun z => by rw [z]; exact n) (f b)) d (fun x hx => (List.mem_cons.mp hx).elim (fun z => by rw [z]; exact ⟨_, e⟩) fun z => by
    obtain ⟨y, q⟩ := A2.left r x z
    obtain ⟨o, w, _⟩ := q.own
    exact ⟨o, w⟩) (bs.zip L) [(l, bs)] [] s (fun d hd => by have := a2_zip r d hd; exact ⟨this.1, List.mem_cons_of_mem _ this.2⟩) (fun x hx => by rw [List.mem_singleton.mp hx]; exact ⟨e, List.mem_cons_self⟩) (fun x hx => nomatch hx)
  rwa [List.append_nil] at J
theorem zip_a2 {H : Hp} : ∀ {bs : List Addr} {L : List (List Row)}, bs.length = L.length → (∀ d, d ∈ bs.zip L → RowsAt K H d.1 d.2) → A2 (RowsAt K H) bs L
  | [], [], _, _ => .nil
  | [], _ :: _, h, _ => nomatch h
  | _ :: _, [], h, _ => nomatch h
  | b :: bs, l :: L, h, q => .cons (q (b, l) List.mem_cons_self) (zip_a2 (Nat.succ.inj h) fun d hd => q d (List.mem_cons_of_mem _ hd))
theorem s_gFld {ta : TE} {f : Str} {v : V} {σ : St} {H : Hp} {N : St → Hp → Prop} (h : ta σ H fun x H2 => FldW K f v x H2 (N σ)) : gFld K ta f v σ H N := h
/-- copies of dicts, one of each -/
theorem c_copies {a : Addr} {as : List Addr} {L : List (List Row)} {g : TG} {te : TE} {vs : List Nat} {σ : St} {H : Hp} {Q : VK} (hl : H a = some (.lst (as.map V.ref))) (hr : A2 (RowsAt K H) as L) (hz : as.length ≤ 1000)
    (turn : ∀ x ps A (N : V → Hp → Prop), A x = some (.dK (iOf ps)) → (∀ q, A q = none → N (.ref q) (upd A q (.dK (iOf ps)))) → g (.ref x) (wipe σ vs) A fun σ2 B => wipe σ2 vs = wipe σ vs ∧ te σ2 B N)
    (fin : ∀ p bs A, Same H A → H p = none → A p = some (.lst (bs.map V.ref)) → A2 (RowsAt K A) bs L → (∀ b, b ∈ bs → H b = none) → (p :: bs).Nodup → Q (.ref p) A) : LcR (Itl K a) g tYes te vs σ H Q := by
  intro p hp
  have lx := A2.len hr
  refine lc_list (xs := as.map V.ref) (fun i A => i ≤ as.length ∧ Same H A ∧ ∃ bs : List Addr, A p = some (.lst (bs.map V.ref)) ∧ bs.length = i ∧ A2 (RowsAt K A) bs (L.take i) ∧ (∀ b, b ∈ bs → H b = none) ∧ (p :: bs).Nodup)
    ⟨Nat.zero_le _, same_new hp, [], upd_same, rfl, .nil, (fun b h => nomatch h), List.nodup_cons.mpr ⟨List.not_mem_nil, .nil⟩⟩ (fun i A _ h => .of (h.2.1 _ _ hl)) ?_ ?_
  · rintro i y A e ⟨hi, sm, bs, h1, hlen, h2, hf, nd⟩
    rw [List.getElem?_map] at e
    cases ex : as[i]? with
    | none => rw [ex] at e; cases e
    | some x =>
    rw [ex] at e
    cases e
    have hlt : i < as.length := (List.getElem?_eq_some_iff.mp ex).1
    obtain ⟨rows, erow, ps, hx, hps⟩ := A2.at hr ex
    have et : L.take (i + 1) = L.take i ++ [rows] := by rw [List.take_add_one, erow]; rfl
    refine turn x ps A _ (sm _ _ hx) fun q hq => ?_
    have sq := same_new (o := .dK (iOf ps)) hq
    have npq : p ≠ q := ne_of_none h1 hq
    have nqb : q ∉ bs := fun z => by
      obtain ⟨r, hr⟩ := A2.left h2 q z
      obtain ⟨o, e, _⟩ := hr.own
      rw [hq] at e; cases e
    have h1' := sq _ _ h1
    have kt : KT (upd A q (.dK (iOf ps))) (upd (upd A q (.dK (iOf ps))) p (.lst (bs.map V.ref ++ [.ref q]))) := kt_mut h1' rfl
    have ktA := (kt_same sq).trans kt
    refine ⟨bs.map V.ref, h1', L2.small1000 (by rw [List.length_map]; omega), by omega, same_mut (sm.trans sq) hp, bs ++ [q], by rw [upd_same, List.map_append]; rfl, by rw [List.length_append, hlen]; rfl, ?_, fun b hb => ?_, ?_⟩
    · rw [et]
      refine A2.snoc ⟨ps, by rw [upd_ne npq.symm]; exact upd_same, (hps.mono (kt_same sm)).mono ktA⟩ (A2.inn (fun b hb r w => w.up ktA fun kvs e => ?_) h2)
      have nbp : b ≠ p := fun z => (List.nodup_cons.mp nd).1 (z ▸ hb)
      rw [upd_ne nbp]
      exact sq _ _ e
    · rcases List.mem_append.mp hb with hb | hb
      · exact hf b hb
      · rw [List.mem_singleton.mp hb]; exact free_on hq sm
    · have nd2 : (q :: p :: bs).Nodup := List.nodup_cons.mpr ⟨fun z => by
        rcases List.mem_cons.mp z with z | z
        · exact npq z.symm
        · exact nqb z, nd⟩
      refine (List.Perm.nodup_iff ?_).mp nd2
      refine List.perm_iff_count.mpr fun x => ?_
      simp only [List.count_cons, List.count_append, List.count_nil]
      omega
  · rintro A ⟨_, sm, bs, h1, hlen, h2, hf, nd⟩
    rw [List.length_map] at hlen h2
    rw [lx, List.take_length] at h2
    exact fin p bs A sm hp h1 h2 hf nd
def sp_Book_twin (K : PySem.W.Frag) (Cb Ct : Addr) : Sp := fun vs H Q _ => ∃ (A : BkA) (B : BookS), vs = [.ref A.p] ∧ BkAt K Cb Ct H A B ∧ B.past.length ≤ 1000 ∧ B.done.length ≤ 1000 ∧ B.undone.length ≤ 1000 ∧
  ∀ A' H', Same H H' → (∀ b, b ∈ A'.all → H b = none) → BkAt K Cb Ct H' A' B → Q (.ref A'.p) H'
theorem u_Book_twin {Cb Ct : Addr} {H : Hp} {Q : VK} {E : XK} {vs : List V} {A : BkA} {B : BookS} (e : vs = [.ref A.p]) (hb : BkAt K Cb Ct H A B) (l1 : B.past.length ≤ 1000) (l2 : B.done.length ≤ 1000) (l3 : B.undone.length ≤ 1000)
    (q : ∀ A' H', Same H H' → (∀ b, b ∈ A'.all → H b = none) → BkAt K Cb Ct H' A' B → Q (.ref A'.p) H') : sp_Book_twin K Cb Ct vs H Q E := ⟨A, B, e, hb, l1, l2, l3, q⟩
theorem ok_Book_twin (T : Top w K mg) : FnOk P w K mg base CX0 5 T.f_Book_twin T.fd_Book_twin ["self"] (sp_Book_twin K T.C_Book T.C_Till) := by
  have G_BookU_initU := ok_BookU_initU (P := P) (w := w) (base := base) T
  have G_Till_twin := ok_Till_twin (P := P) (w := w) (base := base) T
  have hcl_Till := T.cl_Till
  have hna_Till_sums := T.na_Till_sums
  have hcl_Book := T.cl_Book
  have hna_Book_most := T.na_Book_most
  have hna_Book_rows := T.na_Book_rows
  have hna_Book_next_number := T.na_Book_next_number
  have hna_Book_past := T.na_Book_past
  have hna_Book_done := T.na_Book_done
  have hna_Book_undone := T.na_Book_undone
  have hna_Book_till := T.na_Book_till
  have hna_Book_closed := T.na_Book_closed
  obtain ⟨_, kb_BookU_initU_1_most⟩ := kt_BookU_initU_1_most T
  refine T.F_Book_twin.ok sc_Book_twin (fun vs H Q E h => by obtain ⟨A, B, rfl, _⟩ := h; rfl) (fun cdv A0 outer s H vs Q E hr h => ?_)
  obtain ⟨A, B, rfl, hb, l1, l2, l3, q⟩ := h
  have hp := hb.hp
  refine ⟨_, (pss_cons (ps_set (i := 1) sc_Book_twin.nd rfl (Or.inl rfl) (pe_makeK0 T.M_Book (G_BookU_initU) (hr.mono (by decide)) (by rfl) T.c_Book kb_BookU_initU_1_most pass0 (pk_cons (pe_fld (pv 0) rfl) pk_nil)))
      (pss_cons (ps_asg (pe_tup (pa_cons (pe_callTy call_dictU (by rfl) T.n_dict (by decide +kernel) (pa_cons (pe_fld (pv 0) rfl) pa_nil)) (pa_cons (pe_fld (pv 0) rfl) pa_nil))) (pg_tup (by rfl) (pgs_cons (pg_fld (pv 1)) (pgs_cons (pg_fld (pv 1)) pgs_nil))))
      (pss_cons (ps_fld (pv 1) (pe_lc (own := [("rows", 2)]) (g := gName 2) (tt := tYes) rfl sc_Book_twin.nd (pi_list (pe_fld (pv 0) rfl)) (blkOk_by (N := ["self", "other", "rows"]) (sc := defScope s_Book_twin) (by decide +kernel)) (fun _ _ _ _ _ => pg_name (i := 2) sc_Book_twin.nd rfl (Or.inl rfl)) (fun _ _ _ _ _ => pts_nil) (fun _ _ _ _ _ => (pe_callTy call_dictU (by rfl) T.n_dict (by decide +kernel) (pa_cons (pv 2) pa_nil)))) rfl)
      (pss_cons (ps_fld (pv 1) (pe_lc (own := [("rows", 2)]) (g := gName 2) (tt := tYes) rfl sc_Book_twin.nd (pi_list (pe_fld (pv 0) rfl)) (blkOk_by (N := ["self", "other", "rows"]) (sc := defScope s_Book_twin) (by decide +kernel)) (fun _ _ _ _ _ => pg_name (i := 2) sc_Book_twin.nd rfl (Or.inl rfl)) (fun _ _ _ _ _ => pts_nil) (fun _ _ _ _ _ => (pe_callTy call_dictU (by rfl) T.n_dict (by decide +kernel) (pa_cons (pv 2) pa_nil)))) rfl)
      (pss_cons (ps_fld (pv 1) (pe_lc (own := [("rows", 2)]) (g := gName 2) (tt := tYes) rfl sc_Book_twin.nd (pi_list (pe_fld (pv 0) rfl)) (blkOk_by (N := ["self", "other", "rows"]) (sc := defScope s_Book_twin) (by decide +kernel)) (fun _ _ _ _ _ => pg_name (i := 2) sc_Book_twin.nd rfl (Or.inl rfl)) (fun _ _ _ _ _ => pts_nil) (fun _ _ _ _ _ => (pe_callTy call_dictU (by rfl) T.n_dict (by decide +kernel) (pa_cons (pv 2) pa_nil)))) rfl)
      (pss_cons (ps_asg (pe_tup (pa_cons (pe_meth0 (pe_fld (pv 0) rfl) T.cl_Till T.m_Till_twin (G_Till_twin) (hr.mono (by decide)) T.b_Till_twin .nil pass0) (pa_cons (pe_fld (pv 0) rfl) pa_nil))) (pg_tup (by rfl) (pgs_cons (pg_fld (pv 1)) (pgs_cons (pg_fld (pv 1)) pgs_nil))))
      (pss_one (ps_ret (pv 1))))))))), ?_⟩
  walk_at "cr.k"
  rename_i Ab Hb sb fb hbb
  have nAb : H Ab.p = none := fb _ (by simp [BkA.all])
  have I0 : TW K H Hb Ab.p T.C_Book Ab.dx (bkF B.most Ab.r 1 Ab.pa Ab.dn Ab.un Ab.t) [] [] [] [] := ⟨hbb.hp, sb, nAb, (fun x hx => nomatch hx), List.nodup_cons.mpr ⟨List.not_mem_nil, .nil⟩, (fun x hx => nomatch hx), (fun x hx => nomatch hx), (fun x hx => nomatch hx), (fun x hx => nomatch hx)⟩
  obtain ⟨ps, hrd, hps⟩ := hb.hr
  clear hbb
  refine s_dictD (sb _ _ hrd) fun r2 hr2 => ?_
  have I1 : TW K H (upd Hb r2 (.dK (iOf ps))) Ab.p T.C_Book Ab.dx (bkF B.most Ab.r 1 Ab.pa Ab.dn Ab.un Ab.t) [r2] [(r2, B.rows)] [] [] :=
    I0.more (bs := [r2]) (fun b hb => by rw [List.mem_singleton.mp hb]; exact hr2) (List.nodup_cons.mpr ⟨List.not_mem_nil, .nil⟩) (fun b hb => by rw [List.mem_singleton.mp hb]; exact ⟨_, upd_same⟩) [(r2, B.rows)] [] [] (same_new hr2)
      (fun d hd => by rw [List.mem_singleton.mp hd]; exact ⟨⟨ps, upd_same, (hps.mono (kt_same sb)).mono (kt_new hr2)⟩, List.mem_singleton.mpr rfl⟩) (fun x hx => nomatch hx) (fun x hx => nomatch hx)
  have hb1 := hb.same I1.sm
  have hp1 := hb1.hp
  clear I0 hp
  walk_at "cr.go"
  rename_i p3 hp3
  refine s_gtupQ (.of upd_same) (by with_unfolding_all rfl) ?_
  have I3 := I1.same (same_new (o := .tup [.ref r2, .int B.nx]) hp3)
  clear hp3 I1 hp1 hb1
  refine s_gc ?_
  refine s_gFld ?_
  refine s_v1 ?_
  refine I3.fld hcl_Book hna_Book_rows bk_len fun H4 I4 => ?_
  rw [bk_pRows] at I4
  clear I3
  refine s_gc ?_
  refine s_gFld ?_
  refine s_v1 ?_
  refine I4.fld hcl_Book hna_Book_next_number bk_len fun H5 I5 => ?_
  rw [bk_pNx] at I5
  clear I4
  have hb5 := hb.same I5.sm
  have hp5 := hb5.hp
  have hl5 := hb5.hpa
  walk_at "cr.go"
  refine c_copies hl5 hb5.hpas (by rw [A2.len hb5.hpas]; exact l1) (fun x ps A1 N e1 hN => ?_) fun p6 bs6 A6 s6 n6 e6 r6 f6 d6 => ?_
  · walk_at "cr.n"
    refine ⟨rfl, ?_⟩
    walk_at "cr.go"
    exact hN _ (by assumption)
  have I6 := I5.lst s6 n6 e6 r6 f6 d6
  clear I5 s6 n6 e6 f6 d6 hb5 hp5 hl5
  refine s_v1 ?_
  refine I6.fld hcl_Book hna_Book_past bk_len fun H7 I7 => ?_
  rw [bk_pPast] at I7
  have len6 : bs6.length = B.past.length := A2.len r6
  clear I6 r6
  have hb7 := hb.same I7.sm
  have hp7 := hb7.hp
  have hl7 := hb7.hdn
  walk_at "cr.go"
  refine c_copies hl7 hb7.hdos (by rw [A2.len hb7.hdos]; exact l2) (fun x ps A1 N e1 hN => ?_) fun p8 bs8 A8 s8 n8 e8 r8 f8 d8 => ?_
  · walk_at "cr.n"
    refine ⟨rfl, ?_⟩
    walk_at "cr.go"
    exact hN _ (by assumption)
  have I8 := I7.lst s8 n8 e8 r8 f8 d8
  clear I7 s8 n8 e8 f8 d8 hb7 hp7 hl7
  refine s_v1 ?_
  refine I8.fld hcl_Book hna_Book_done bk_len fun H9 I9 => ?_
  rw [bk_pDone] at I9
  have len8 : bs8.length = B.done.length := A2.len r8
  clear I8 r8
  have hb9 := hb.same I9.sm
  have hp9 := hb9.hp
  have hl9 := hb9.hun
  walk_at "cr.go"
  refine c_copies hl9 hb9.huns (by rw [A2.len hb9.huns]; exact l3) (fun x ps A1 N e1 hN => ?_) fun p10 bs10 A10 s10 n10 e10 r10 f10 d10 => ?_
  · walk_at "cr.n"
    refine ⟨rfl, ?_⟩
    walk_at "cr.go"
    exact hN _ (by assumption)
  have I10 := I9.lst s10 n10 e10 r10 f10 d10
  clear I9 s10 n10 e10 f10 d10 hb9 hp9 hl9
  refine s_v1 ?_
  refine I10.fld hcl_Book hna_Book_undone bk_len fun H11 I11 => ?_
  rw [bk_pUndone] at I11
  have len10 : bs10.length = B.undone.length := A2.len r10
  clear I10 r10
  have hb11 := hb.same I11.sm
  have hp11 := hb11.hp
  have ht11 := hb11.ht
  have htd11 := hb11.htd
  walk_at "cr.go"
  rename_i t2 tx2 td2 H12 s12 nt ntd ne12 ht2 htd2 p13 hp13
  refine s_gtupQ (.of upd_same) (by with_unfolding_all rfl) ?_
  have I12 := I11.more (bs := [t2, td2]) (fun b hb => by
      simp only [List.mem_cons, List.not_mem_nil, or_false] at hb
      rcases hb with rfl | rfl
      · exact nt
      · exact ntd) (List.nodup_cons.mpr ⟨fun z => ne12 (List.mem_singleton.mp z), List.nodup_cons.mpr ⟨List.not_mem_nil, .nil⟩⟩) (fun b hb => by
      simp only [List.mem_cons, List.not_mem_nil, or_false] at hb
      rcases hb with rfl | rfl
      · exact ⟨_, ht2⟩
      · exact ⟨_, htd2⟩) [] [] [(t2, .ins T.C_Till tx2 [(("sums" : Str), .ref td2)]), (td2, .dK [])] s12 (fun x hx => nomatch hx) (fun x hx => nomatch hx) (fun x hx => by
      simp only [List.mem_cons, List.not_mem_nil, or_false] at hx
      rcases hx with rfl | rfl
      · exact ⟨ht2, by simp⟩
      · exact ⟨htd2, by simp⟩)
  have I13 := I12.same (same_new (o := .tup [.ref t2, .non]) hp13)
  clear I11 I12 s12 nt ntd ne12 ht2 htd2 hp13 hb11 hp11 ht11 htd11
  refine s_gc ?_
  refine s_gFld ?_
  refine s_v1 ?_
  refine I13.fld hcl_Book hna_Book_till bk_len fun H14 I14 => ?_
  rw [bk_pTill] at I14
  clear I13
  refine s_gc ?_
  refine s_gFld ?_
  refine s_v1 ?_
  refine I14.fld hcl_Book hna_Book_closed bk_len fun H15 I15 => ?_
  rw [bk_pClosed] at I15
  clear I14
  walk_at "cr.go"
  have hd := I15.dd
  have hl := I15.ls
  have ho := I15.ob
  refine q ⟨Ab.p, Ab.dx, r2, p6, p8, p10, t2, tx2, td2, bs6, bs8, bs10⟩ H15 I15.sm (fun b hb => ?_) ⟨I15.ins, ?_, ?_, ?_, ?_, ?_, ?_, ?_, ?_, ?_, ?_⟩
  · simp only [BkA.all, List.mem_cons, List.mem_append] at hb
    rcases hb with h | h | h | h | h | h | h | h | h | h
    · rw [h]; exact nAb
    all_goals exact I15.fresh b (by simp [h])
  · exact (hd (r2, B.rows) (by simp)).1
  · exact (hl (p6, bs6) (by simp)).1
  · exact zip_a2 len6 fun d hm => (hd d (by simp [hm])).1
  · exact (hl (p8, bs8) (by simp)).1
  · exact zip_a2 len8 fun d hm => (hd d (by simp [hm])).1
  · exact (hl (p10, bs10) (by simp)).1
  · exact zip_a2 len10 fun d hm => (hd d (by simp [hm])).1
  · exact (ho (t2, .ins T.C_Till tx2 [(("sums" : Str), .ref td2)]) (by simp)).1
  · exact (ho (td2, .dK []) (by simp)).1
  · refine (List.Perm.nodup_iff ?_).mp I15.nd
    refine List.perm_iff_count.mpr fun x => ?_
    simp only [BkA.all, List.count_cons, List.count_append, List.count_nil]
    omega
local macro_rules | `(tactic| walk_at "cr.call") => `(tactic| ((with_reducible refine' Cr.u_Book_twin ?e ?a ?b ?c ?d ?_); (case e => with_unfolding_all rfl); (case a => walk_at "cr.book"); (case b => first | with_reducible assumption | omega); (case c => first | with_reducible assumption | omega); (case d => first | with_reducible assumption | omega); intro At Ht st ft ht))

/-! ### _law_bag -/
def sp__law_bag (K : PySem.W.Frag) : Sp := fun vs H Q _ => ∃ (a : Addr) (ns : List Int), vs = [.ref a] ∧ SqL K H a (ns.map V.int) ∧ ∀ b l H', Same H H' → H b = none → H l = none → Bag H' b l → Q (.ref b) H'
theorem u__law_bag {H : Hp} {Q : VK} {E : XK} {vs : List V} {a : Addr} {ns : List Int} (e : vs = [.ref a]) (h : SqL K H a (ns.map V.int)) (q : ∀ b l H', Same H H' → H b = none → H l = none → Bag H' b l → Q (.ref b) H') : sp__law_bag K vs H Q E := ⟨a, ns, e, h, q⟩
theorem ok__law_bag (T : Top w K mg) : FnOk P w K mg base CX0 1 T.f__law_bag T.fd__law_bag ["_law_script"] (sp__law_bag K) := by
  have hcl_Till := T.cl_Till
  have hna_Till_sums := T.na_Till_sums
  have hcl_Book := T.cl_Book
  have hna_Book_most := T.na_Book_most
  have hna_Book_rows := T.na_Book_rows
  have hna_Book_next_number := T.na_Book_next_number
  have hna_Book_past := T.na_Book_past
  have hna_Book_done := T.na_Book_done
  have hna_Book_undone := T.na_Book_undone
  have hna_Book_till := T.na_Book_till
  have hna_Book_closed := T.na_Book_closed
  refine T.F__law_bag.ok sc__law_bag (fun vs H Q E h => by obtain ⟨a, ns, rfl, _⟩ := h; rfl) (fun cdv A outer s H vs Q E hr h => ?_)
  obtain ⟨a, ns, rfl, hS, q⟩ := h
  refine ⟨_, (pss_cons (ps_set (i := 1) sc__law_bag.nd rfl (Or.inl rfl) pe_int)
      (pss_cons (ps_for PassesOwn.never rfl (pi_list (pe_slice sl_seqU (pv 0) po_none (po_some pe_int))) (pg_name (i := 2) sc__law_bag.nd rfl (Or.inl rfl)) (pss_one (ps_set (i := 1) sc__law_bag.nd rfl (Or.inl rfl) (pe_op op_modU (pe_op op_addU (pe_op op_mulU (pv 1) pe_int) (pv 2)) pe_int))))
      (pss_one (ps_ret (pe_lst (pa_cons (pe_callTy call_listU (by rfl) T.n_list (by decide +kernel) (pa_cons (pe_slice sl_seqU (pv 0) po_none (po_some pe_int)) pa_nil)) (pa_cons pe_int (pa_cons pe_int (pa_cons (pv 1) pa_nil))))))))), ?_⟩
  obtain ⟨ms, hms⟩ := cut_ints ns none (some 63)
  walk_at "cr.k"
  rename_i p hp
  rw [hms]
  refine f_list (xs := ms.map V.int) (fun i σ' H' => ∃ (z : Int) (y : Option V), σ' = [some (.ref a), some (.int z), y] ∧ 0 ≤ z ∧ z < 2147483629 ∧ H' = upd H p (.lst (ms.map V.int))) ⟨7, none, rfl, by decide, by decide, rfl⟩ ?_ ?_ ?_
  · rintro i σ' H' _ ⟨z, y, _, _, _, rfl⟩
    exact SqL.of upd_same
  · rintro i x σ' H' hx ⟨z, y, rfl, h0, h1, rfl⟩
    obtain ⟨c, hc, rfl⟩ : ∃ c, ms[i]? = some c ∧ x = V.int c := by
      rw [List.getElem?_map] at hx
      cases e : ms[i]? with
      | none => rw [e] at hx; cases hx
      | some c => rw [e] at hx; exact ⟨c, rfl, (Option.some.inj hx).symm⟩
    walk_at "cr.go"
    refine ⟨_, _, rfl, ?_, ?_, rfl⟩
    · rw [Int.fmod_eq_emod_of_nonneg _ (by decide)]; exact Int.emod_nonneg _ (by decide)
    · rw [Int.fmod_eq_emod_of_nonneg _ (by decide)]; exact Int.emod_lt_of_pos _ (by decide)
  · rintro σ' H' ⟨z, y, rfl, h0, h1, rfl⟩
    walk_at "cr.go"
    rw [hms]
    rename_i p2 hp2 p3 hp3 p4 hp4
    have n3 : H p3 = none := (same_new hp).free ((same_new hp2).free hp3)
    have n4 : H p4 = none := (same_new hp).free ((same_new hp2).free ((same_new hp3).free hp4))
    refine q p4 p3 _ (by walk_at "cr.sm") n4 n3 ⟨ms, 0, 0, z, upd_same, ?_, by decide, by omega, by omega, ?_⟩
    · rw [upd_ne (ne_of_none (upd_same) hp4), upd_same]
    · exact ne_of_none (upd_same) hp4
local macro_rules | `(tactic| walk_at "cr.call") => `(tactic| ((with_reducible refine' Cr.u__law_bag ?e ?a ?_); (case e => with_unfolding_all rfl); (case a => walk_at "cr.lst"); intro b l H' hs nb nl hB))

/-! ### _law_pull -/
def sp__law_pull (K : PySem.W.Frag) : Sp := fun vs H Q _ => ∃ (b l : Addr) (m : Int), vs = [.ref b, .int m] ∧ Bag H b l ∧ 0 < m ∧ m < 2 ^ 64 ∧ ∀ k H', 0 ≤ k → k < m → But b H H' → Bag H' b l → Q (.int k) H'
theorem u__law_pull {H : Hp} {Q : VK} {E : XK} {vs : List V} {b l : Addr} {m : Int} (e : vs = [.ref b, .int m]) (h : Bag H b l) (h0 : 0 < m) (h1 : m < 2 ^ 64) (q : ∀ k H', 0 ≤ k → k < m → But b H H' → Bag H' b l → Q (.int k) H') : sp__law_pull K vs H Q E := ⟨b, l, m, e, h, h0, h1, q⟩
theorem fmod_in {i m : Int} (h : 0 < m) : 0 ≤ i.fmod m ∧ i.fmod m < m := by
  rw [Int.fmod_eq_emod_of_nonneg _ (by omega)]
  exact ⟨Int.emod_nonneg _ (by omega), Int.emod_lt_of_pos _ h⟩
theorem dz_small {i j : Int} (h : 0 < j) (k : j < 2 ^ 64) : CDivZ i j := dz_of (n := 64) (by omega) (by omega) (by decide) (by decide)
theorem but_upd {H H1 : Hp} {b : Addr} {o : HO} (h : But b H H1) : But b H (upd H1 b o) := ⟨fun a u n e => by rw [upd_ne n]; exact h.oth a u n e, h.lst⟩
theorem ok__law_pull (T : Top w K mg) : FnOk P w K mg base CX0 1 T.f__law_pull T.fd__law_pull ["_law_bag_here", "_law_many"] (sp__law_pull K) := by
  have hcl_Till := T.cl_Till
  have hna_Till_sums := T.na_Till_sums
  have hcl_Book := T.cl_Book
  have hna_Book_most := T.na_Book_most
  have hna_Book_rows := T.na_Book_rows
  have hna_Book_next_number := T.na_Book_next_number
  have hna_Book_past := T.na_Book_past
  have hna_Book_done := T.na_Book_done
  have hna_Book_undone := T.na_Book_undone
  have hna_Book_till := T.na_Book_till
  have hna_Book_closed := T.na_Book_closed
  refine T.F__law_pull.ok sc__law_pull (fun vs H Q E h => by obtain ⟨b, l, m, rfl, _⟩ := h; rfl) (fun cdv A outer s H vs Q E hr h => ?_)
  obtain ⟨b, l, m, rfl, hB, h0, h1, q⟩ := h
  have hB' := hB
  obtain ⟨ns, p, r, z, e1, e2, hp0, hz0, hz1, hlb⟩ := hB
  have dz : ∀ i, CDivZ i m := fun i => dz_small h0 h1
  refine ⟨_, (pss_cons (ps_if (pt_cmpR op_gtI (pe_ix ix_seq (pv 0) pe_int (fun _ _ => rfl)) pe_int (nomark _)) (pss_cons (ps_set (i := 2) sc__law_pull.nd rfl (Or.inl rfl) (pe_op op_modU (pe_ix ix_seq (pv 0) pe_int (fun _ _ => rfl)) (pv 1)))
      (pss_cons (ps_asg (pe_op op_divU (pe_ix ix_seq (pv 0) pe_int (fun _ _ => rfl)) (pv 1)) (pg_sub (pv 0) pe_int set_list))
      (pss_one (ps_ret (pv 2))))) pss_nil)
      (pss_cons (ps_set (i := 3) sc__law_pull.nd rfl (Or.inl rfl) pe_int)
      (pss_cons (ps_if (pt_cmpR op_ltI (pe_ix ix_seq (pv 0) pe_int (fun _ _ => rfl)) (pe_callB call_lenU (by rfl) T.n_len (by decide +kernel) (pa_cons (pe_ix ix_seq (pv 0) pe_int (fun _ _ => rfl)) pa_nil)) (nomark _)) (pss_one (ps_set (i := 3) sc__law_pull.nd rfl (Or.inl rfl) (pe_ix ix_seq (pe_ix ix_seq (pv 0) pe_int (fun _ _ => rfl)) (pe_ix ix_seq (pv 0) pe_int (fun _ _ => rfl)) (fun _ _ => rfl)))) pss_nil)
      (pss_cons (ps_asg (pe_op op_addU (pe_ix ix_seq (pv 0) pe_int (fun _ _ => rfl)) pe_int) (pg_sub (pv 0) pe_int set_list))
      (pss_cons (ps_if (pt_cmpR op_geI (pv 3) (pe_op op_powU pe_int pe_int) (nomark _)) (pss_cons (ps_asg (pe_op op_divU (pv 3) (pv 1)) (pg_sub (pv 0) pe_int set_list))
      (pss_one (ps_ret (pe_op op_modU (pv 3) (pv 1))))) pss_nil)
      (pss_cons (ps_asg (pe_op op_modU (pe_op op_addU (pe_op op_addU (pe_op op_mulU (pe_ix ix_seq (pv 0) pe_int (fun _ _ => rfl)) pe_int) (pe_op op_modU (pv 3) pe_int)) (pe_op op_mulU pe_int (pe_ix ix_seq (pv 0) pe_int (fun _ _ => rfl)))) pe_int) (pg_sub (pv 0) pe_int set_list))
      (pss_cons (ps_asg (pe_op op_modU (pe_op op_addU (pe_op op_mulU (pe_ix ix_seq (pv 0) pe_int (fun _ _ => rfl)) pe_int) pe_int) pe_int) (pg_sub (pv 0) pe_int set_list))
      (pss_one (ps_ret (pe_op op_modU (pe_op op_divU (pe_ix ix_seq (pv 0) pe_int (fun _ _ => rfl)) pe_int) (pv 1))))))))))), ?_⟩
  walk_at "cr.k"
  by_cases hr0 : 0 < r
  · rw [decide_eq_true hr0]
    have d := dz r
    walk_at "cr.go"
    exact q _ _ (fmod_in h0).1 (fmod_in h0).2 (but_upd (but_of hB' fun _ _ _ e => e)) ⟨ns, p, r.fdiv m, z, upd_same, (upd_ne hlb).trans e2, hp0, hz0, hz1, hlb⟩
  · rw [decide_eq_false hr0]
    walk_at "cr.go"
    have tl : ∀ (z' p' r' : Int) (H' : Hp), H' = upd H b (.lst [.ref l, .int p', .int r', .int z']) → 0 ≤ p' → -(2 ^ 40) < z' → z' < 2 ^ 40 → Bag H' b l := fun z' p' r' H' e h1 h2 h3 => by
      subst e
      exact ⟨ns, p', r', z', upd_same, (upd_ne hlb).trans e2, h1, h2, h3, hlb⟩
    have bt : ∀ o : HO, But b H (upd H b o) := fun o => but_upd (but_of hB' fun _ _ _ e => e)
    have zi : ∀ i : Int, -(2 ^ 40) < i.fmod 2147483647 ∧ i.fmod 2147483647 < 2 ^ 40 := fun i => by
      have := fmod_in (i := i) (m := 2147483647) (by decide)
      omega
    have zm : ∀ i : Int, CMulZ (i.fmod 2147483647) 69621 := fun i => by
      have := fmod_in (i := i) (m := 2147483647) (by decide)
      exact .inl (.inl ⟨by omega, by omega⟩)
    have hlen : (ns.map V.int).length = ns.length := List.length_map _
    refine s_iteD (fun hlt => ?_) (fun hlt => ?_)
    · have hlt' : p < ns.length := by have := hlt; omega
      obtain ⟨c, hc⟩ : ∃ c : Int, atI (ns.map V.int) p = some (.int c) := by
        obtain ⟨j, rfl⟩ : ∃ j : Nat, p = (j : Int) := ⟨p.toNat, by omega⟩
        have hj : j < ns.length := by omega
        exact ⟨ns[j], atI_nat (by rw [List.getElem?_map, List.getElem?_eq_getElem hj]; rfl)⟩
      have d := dz c
      walk_at "cr.go"
      refine s_iteD (fun hc => ?_) (fun hc => ?_)
      · walk_at "cr.go"
        simp only [upd_upd]
        exact q _ _ (fmod_in h0).1 (fmod_in h0).2 (bt _) (tl z (p + 1) (c.fdiv m) _ rfl (by omega) hz0 hz1)
      · walk_at "cr.go"
        have zz := zm ((z * 48271 + c.fmod 2147483629 + 17 * (p + 1)))
        walk_at "cr.go"
        have dd : CDivZ ((((z * 48271 + c.fmod 2147483629 + 17 * (p + 1)).fmod 2147483647) * 69621 + 11).fmod 2147483647) 64 := dz_small (by decide) (by decide)
        walk_at "cr.go"
        simp only [upd_upd]
        exact q _ _ (fmod_in h0).1 (fmod_in h0).2 (bt _) (tl _ (p + 1) r _ rfl (by omega) (zi _).1 (zi _).2)
    · have d := dz 0
      walk_at "cr.go"
      refine s_iteD (fun hc => ?_) (fun hc => ?_)
      · walk_at "cr.go"
        simp only [upd_upd]
        exact q _ _ (fmod_in h0).1 (fmod_in h0).2 (bt _) (tl z (p + 1) ((0 : Int).fdiv m) _ rfl (by omega) hz0 hz1)
      · walk_at "cr.go"
        have zz := zm ((z * 48271 + (0 : Int).fmod 2147483629 + 17 * (p + 1)))
        walk_at "cr.go"
        have dd : CDivZ ((((z * 48271 + (0 : Int).fmod 2147483629 + 17 * (p + 1)).fmod 2147483647) * 69621 + 11).fmod 2147483647) 64 := dz_small (by decide) (by decide)
        walk_at "cr.go"
        simp only [upd_upd]
        exact q _ _ (fmod_in h0).1 (fmod_in h0).2 (bt _) (tl _ (p + 1) r _ rfl (by omega) (zi _).1 (zi _).2)
local macro_rules | `(tactic| walk_at "cr.call") => `(tactic| ((with_reducible refine' Cr.u__law_pull ?e ?a ?b ?c ?_); (case e => with_unfolding_all rfl); (case a => walk_at "cr.bag"); (case b => first | assumption | omega | decide); (case c => first | assumption | omega | decide); intro k H' hk0 hk1 hb hB))

/-! ### _law_name -/
def sp__law_name (K : PySem.W.Frag) : Sp := fun vs H Q _ => ∃ (b l : Addr), vs = [.ref b] ∧ Bag H b l ∧ ∀ x H', But b H H' → Bag H' b l → Nm x → Q (.str x) H'
theorem u__law_name {H : Hp} {Q : VK} {E : XK} {vs : List V} {b l : Addr} (e : vs = [.ref b]) (h : Bag H b l) (q : ∀ x H', But b H H' → Bag H' b l → Nm x → Q (.str x) H') : sp__law_name K vs H Q E := ⟨b, l, e, h, q⟩
theorem a2_signs {α : Type} : ∀ {zs : List α} {ys : List V}, A2 (fun _ y => ∃ c, y = V.str (sign c) ∧ 97 ≤ c ∧ c ≤ 122) zs ys → ∃ cs : List Nat, cs.length = zs.length ∧ ys = (cs.map sign).map V.str ∧ ∀ c, c ∈ cs → 97 ≤ c ∧ c ≤ 122
  | _, _, .nil => ⟨[], rfl, rfl, fun _ h => nomatch h⟩
  | _, _, .cons h t => by
    obtain ⟨c, rfl, h2⟩ := h
    obtain ⟨cs, e, d, k⟩ := a2_signs t
    exact ⟨c :: cs, congrArg Nat.succ e, by rw [d]; rfl, fun x hx => by
      rcases List.mem_cons.mp hx with e | e
      · rw [e]; exact h2
      · exact k x e⟩
theorem join_room (cs : List Nat) (h : cs.length ≤ 12) : ((cs.map sign).map (·.length)).sum + (cs.map sign).length * (("" : String) : Str).length ≤ 16777216 := by
  have h1 := small_sum (cs.map sign) fun y hy => by
    obtain ⟨c, _, rfl⟩ := List.mem_map.mp hy
    exact (show 1 ≤ 1000 by decide)
  rw [show (("" : String) : Str).length = 0 by decide +kernel, Nat.mul_zero]
  rw [List.length_map] at h1
  omega
theorem ok__law_name (T : Top w K mg) : FnOk P w K mg base CX0 2 T.f__law_name T.fd__law_name ["_law_bag_here"] (sp__law_name K) := by
  have G__law_pull := ok__law_pull (P := P) (w := w) (base := base) T
  have hcl_Till := T.cl_Till
  have hna_Till_sums := T.na_Till_sums
  have hcl_Book := T.cl_Book
  have hna_Book_most := T.na_Book_most
  have hna_Book_rows := T.na_Book_rows
  have hna_Book_next_number := T.na_Book_next_number
  have hna_Book_past := T.na_Book_past
  have hna_Book_done := T.na_Book_done
  have hna_Book_undone := T.na_Book_undone
  have hna_Book_till := T.na_Book_till
  have hna_Book_closed := T.na_Book_closed
  refine T.F__law_name.ok sc__law_name (fun vs H Q E h => by obtain ⟨b, l, rfl, _⟩ := h; rfl) (fun cdv A outer s H vs Q E hr h => ?_)
  obtain ⟨b, l, rfl, hB, q⟩ := h
  refine ⟨_, (pss_cons (ps_set (i := 1) sc__law_name.nd rfl (Or.inl rfl) (pe_ix ix_seq (pe_lst (pa_cons pe_int (pa_cons pe_int (pa_cons pe_int (pa_cons (pe_op op_addU pe_int (pe_call (G__law_pull) (hr.mono (by decide)) (by rfl) T.g__law_pull T.k__law_pull T.b__law_pull .nil pass0 (pa_cons (pv 0) (pa_cons pe_int pa_nil)))) pa_nil))))) (pe_call (G__law_pull) (hr.mono (by decide)) (by rfl) T.g__law_pull T.k__law_pull T.b__law_pull .nil pass0 (pa_cons (pv 0) (pa_cons pe_int pa_nil))) (fun _ _ => rfl)))
      (pss_one (ps_ret (pe_joinU pe_str (pe_lc (own := [("_law_k", 2)]) (g := gName 2) (tt := tYes) rfl sc__law_name.nd (pi_range1 rfl T.n_range (pa_cons (pv 1) pa_nil)) (blkOk_by (N := ["_law_bag_here", "_law_size", "_law_k"]) (sc := defScope s__law_name) (by decide +kernel)) (fun _ _ _ _ _ => pg_name (i := 2) sc__law_name.nd rfl (Or.inl rfl)) (fun _ _ _ _ _ => pts_nil) (fun _ _ _ _ _ => (pe_ix (show IxR _ (rIx K) from ix_seq) pe_str (pe_call (G__law_pull) (hr.mono (by decide)) (by rfl) T.g__law_pull T.k__law_pull T.b__law_pull .nil pass0 (pa_cons (pv 0) (pa_cons pe_int pa_nil))) (fun _ _ => rfl)))))))), ?_⟩
  walk_at "cr.k"
  refine s_menuI 1 12 (by walk_at "cr.lst") (by assumption) (by walk_at "cr.len") (by walk_at "cr.items") fun t1 t11 t12 => ?_
  walk_at "cr.go"
  rename_i k1 H1 hk10 hk11 hb1 hB1 p1 hp1 k2 H2 hk20 hk21 hb2 hB2
  have hb : But b H H2 := by walk_at "cr.but"
  clear hb1 hb2 hB1 hp1
  refine c_range (stp_but hB2) (fun A i y => ∃ c, y = V.str (sign c) ∧ 97 ≤ c ∧ c ≤ 122) (fun _ _ _ _ k h => h) (by omega) ?_ ?_
  · intro i A N hi hS hN
    obtain ⟨hbA, hBA⟩ := hS
    clear hbA hB2 hb
    walk_at "cr.n"
    walk_at "cr.go"
    refine ⟨rfl, ?_⟩
    walk_at "cr.go"
    exact hN _ _ ⟨by walk_at "cr.but", by walk_at "cr.bag"⟩ ⟨_, rfl, by assumption, by assumption⟩
  · intro p ys A hS hp hy h2
    obtain ⟨hbA, hBA⟩ := hS
    obtain ⟨cs, el, rfl, hc⟩ := a2_signs h2
    rw [List.length_range] at el
    have hroom := join_room cs (by omega)
    walk_at "cr.go"
    rw [join_signs]
    exact q _ _ (by walk_at "cr.but") hBA ⟨by simp; omega, by simp; omega, fun c h => hc c (by simpa using h)⟩
local macro_rules | `(tactic| walk_at "cr.call") => `(tactic| ((with_reducible refine' Cr.u__law_name ?e ?a ?_); (case e => with_unfolding_all rfl); (case a => walk_at "cr.bag"); intro x H' hb hB hn))

/-! ### _law_names -/
def sp__law_names (K : PySem.W.Frag) : Sp := fun vs H Q _ => ∃ (b l : Addr) (m : Int), vs = [.ref b, .int m] ∧ Bag H b l ∧ 0 ≤ m ∧ m ≤ 8 ∧ ∀ p (ys : List Str) H', But b H H' → Bag H' b l → H p = none → H' p = some (.lst (ys.map V.str)) → ys.length = m.toNat → ys.Nodup → (∀ y, y ∈ ys → Nm y) → Q (.ref p) H'
theorem u__law_names {H : Hp} {Q : VK} {E : XK} {vs : List V} {b l : Addr} {m : Int} (e : vs = [.ref b, .int m]) (h : Bag H b l) (m0 : 0 ≤ m) (m1 : m ≤ 8) (q : ∀ p (ys : List Str) H', But b H H' → Bag H' b l → H p = none → H' p = some (.lst (ys.map V.str)) → ys.length = m.toNat → ys.Nodup → (∀ y, y ∈ ys → Nm y) → Q (.ref p) H') : sp__law_names K vs H Q E := ⟨b, l, m, e, h, m0, m1, q⟩
/-- behind i signs: the name is new, or for each of the signs a name that begins so stands -/
def Seen (ys : List Str) (i : Nat) (x : Str) : Prop := x ∉ ys ∨ ∀ j, j < i → ∃ z, z ∈ ys ∧ z.cps[0]? = some (97 + j)
theorem Seen.new {ys : List Str} {x : Str} (h : Seen ys 8 x) (l : ys.length ≤ 7) : x ∉ ys := by
  rcases h with h | h
  · exact h
  · exfalso
    have s : ((List.range 8).map fun j => some (97 + j)) ⊆ ys.map fun z => z.cps[0]? := fun o ho => by
      obtain ⟨j, hj, rfl⟩ := List.mem_map.mp ho
      obtain ⟨z, hz, e⟩ := h j (List.mem_range.mp hj)
      exact List.mem_map.mpr ⟨z, hz, e⟩
    have := List.Nodup.length_le_of_subset (by decide) s
    rw [List.length_map, List.length_map, List.length_range] at this
    omega
theorem Seen.keep {ys : List Str} {i : Nat} {x : Str} (h : x ∉ ys) : Seen ys (i + 1) x := .inl h
theorem abch_at {i c : Nat} (e : (("abcdefgh" : String) : Str).cps[i]? = some c) : i < 8 ∧ c = 97 + i := by
  rw [abch_cps] at e
  match i, e with
  | 0, e => cases e; exact ⟨by decide, rfl⟩
  | 1, e => cases e; exact ⟨by decide, rfl⟩
  | 2, e => cases e; exact ⟨by decide, rfl⟩
  | 3, e => cases e; exact ⟨by decide, rfl⟩
  | 4, e => cases e; exact ⟨by decide, rfl⟩
  | 5, e => cases e; exact ⟨by decide, rfl⟩
  | 6, e => cases e; exact ⟨by decide, rfl⟩
  | 7, e => cases e; exact ⟨by decide, rfl⟩
theorem Nm.push {x : Str} {c : Nat} (h : Nm x) (h0 : 97 ≤ c) (h1 : c ≤ 122) : Nm (takeS (x ++ sign c) 12) := by
  obtain ⟨a, b, d⟩ := h
  have e : (takeS (x ++ sign c) 12).cps.toList = (x.cps.toList ++ [c]).take 12 := by simp [takeS, str_app, sign]
  refine ⟨?_, ?_, fun k hk => ?_⟩
  · rw [← Array.length_toList, e, List.length_take, List.length_append, Array.length_toList]; simp; omega
  · rw [← Array.length_toList, e, List.length_take]; omega
  · rw [e] at hk
    rcases List.mem_append.mp (List.mem_of_mem_take hk) with z | z
    · exact d k z
    · rw [List.mem_singleton] at z; omega
theorem Nm.head {x : Str} {c : Nat} (h : Nm x) (h0 : 97 ≤ c) (h1 : c ≤ 122) : Nm (sign c ++ dropS x 1) ∧ (sign c ++ dropS x 1).cps[0]? = some c := by
  obtain ⟨a, b, d⟩ := h
  have e : (sign c ++ dropS x 1).cps.toList = c :: x.cps.toList.drop 1 := by simp [dropS, str_app, sign]
  refine ⟨⟨?_, ?_, fun k hk => ?_⟩, ?_⟩
  · rw [← Array.length_toList, e, List.length_cons]; omega
  · rw [← Array.length_toList, e, List.length_cons, List.length_drop, Array.length_toList]; omega
  · rw [e] at hk
    rcases List.mem_cons.mp hk with z | z
    · omega
    · exact d k (List.mem_of_mem_drop z)
  · rw [← Array.getElem?_toList, e]; rfl
theorem Nm.len {x : Str} (h : Nm x) : x.length ≤ sizeLine := L2.small1000 (show x.cps.size ≤ 1000 by have := h.2.1; omega) |> Nat.le_of_lt
theorem Nm.len2 {x : Str} {c : Nat} (h : Nm x) : x.length + (sign c).length ≤ sizeLine := Nat.le_of_lt (L2.small1000 (show x.cps.size + 1 ≤ 1000 by have := h.2.1; omega))
theorem Nm.len3 {x : Str} {c : Nat} (h : Nm x) : (sign c).length + (dropS x 1).length ≤ sizeLine := Nat.le_of_lt (L2.small1000 (by
  have e : (dropS x 1).length = x.cps.size - 1 := by show (x.cps.toList.drop 1).toArray.size = _; simp
  rw [e]
  have := h.2.1
  show 1 + _ ≤ 1000
  omega))
theorem Nm.len4 {x : Str} {c : Nat} (h : Nm x) : (x ++ sign c).length ≤ sizeLine := by
  rw [strLen_append]; exact h.len2
theorem ok__law_names (T : Top w K mg) : FnOk P w K mg base CX0 3 T.f__law_names T.fd__law_names ["_law_bag_here", "_law_many"] (sp__law_names K) := by
  have G__law_name := ok__law_name (P := P) (w := w) (base := base) T
  have hcl_Till := T.cl_Till
  have hna_Till_sums := T.na_Till_sums
  have hcl_Book := T.cl_Book
  have hna_Book_most := T.na_Book_most
  have hna_Book_rows := T.na_Book_rows
  have hna_Book_next_number := T.na_Book_next_number
  have hna_Book_past := T.na_Book_past
  have hna_Book_done := T.na_Book_done
  have hna_Book_undone := T.na_Book_undone
  have hna_Book_till := T.na_Book_till
  have hna_Book_closed := T.na_Book_closed
  refine T.F__law_names.ok sc__law_names (fun vs H Q E h => by obtain ⟨b, l, m, rfl, _⟩ := h; rfl) (fun cdv A outer s H vs Q E hr h => ?_)
  obtain ⟨b, l, m, rfl, hB, m0, m1, q⟩ := h
  refine ⟨_, (pss_cons (ps_set (i := 2) sc__law_names.nd rfl (Or.inl rfl) (pe_lst pa_nil))
      (pss_cons (ps_for PassesOwn.never rfl (pi_range1 rfl T.n_range (pa_cons (pv 1) pa_nil)) (pg_name (i := 3) sc__law_names.nd rfl (Or.inl rfl)) (pss_cons (ps_set (i := 4) sc__law_names.nd rfl (Or.inl rfl) (pe_call (G__law_name) (hr.mono (by decide)) (by rfl) T.g__law_name T.k__law_name T.b__law_name .nil pass0 (pa_cons (pv 0) pa_nil)))
      (pss_cons (ps_for PassesOwn.never rfl (pi_str pe_str) (pg_name (i := 5) sc__law_names.nd rfl (Or.inl rfl)) (pss_cons (ps_if (pt_cmpR op_in_seq (pv 4) (pv 2) (by rfl)) (pss_one (ps_set (i := 4) sc__law_names.nd rfl (Or.inl rfl) (pe_slice sl_str (pe_op op_addU (pv 4) (pv 5)) po_none (po_some pe_int)))) pss_nil)
      (pss_one (ps_if (pt_cmpR op_in_seq (pv 4) (pv 2) (by rfl)) (pss_one (ps_set (i := 4) sc__law_names.nd rfl (Or.inl rfl) (pe_op op_addU (pv 5) (pe_slice sl_str (pv 4) (po_some pe_int) po_none)))) pss_nil))))
      (pss_one (ps_expr (pe_bm PySem.F.plainAttrs_list PySem.F.slot_list_append PySem.F.type_list_append mt_append (pv 2) (pa_cons (pv 4) pa_nil)))))))
      (pss_one (ps_ret (pv 2))))), ?_⟩
  walk_at "cr.k"
  rename_i p hp
  have npb : p ≠ b := by walk_at "cr.ne"
  have npl : p ≠ l := by walk_at "cr.ne"
  refine f_range (fun n σ' H' => ∃ (ys : List Str) (y3 y4 y5 : Option V), σ' = [some (.ref b), some (.int m), some (.ref p), y3, y4, y5] ∧ But b H H' ∧ Bag H' b l ∧ H' p = some (.lst (ys.map V.str)) ∧ ys.length = n ∧ ys.Nodup ∧ (∀ y, y ∈ ys → Nm y))
    ⟨[], none, none, none, rfl, by walk_at "cr.but", by walk_at "cr.bag", upd_same, rfl, List.nodup_nil, fun _ h => nomatch h⟩ ?_ ?_
  · rintro n σ' H' hn ⟨ys, y3, y4, y5, rfl, hb, hB', hp', hl, hnd, hnm⟩
    clear hB
    walk_at "cr.go"
    rename_i x0 H2 hb2 hB2 hn0
    have hp2 : H2 p = some (.lst (ys.map V.str)) := by walk_at "cr.at"
    have hb : But b H H2 := by walk_at "cr.but"
    clear hb2 hB' hp'
    refine f_str (fun i σ' H' => ∃ (x : Str) (y5 : Option V), σ' = [some (.ref b), some (.int m), some (.ref p), some (.int (0 + (n : Int))), some (.str x), y5] ∧ H' = H2 ∧ Nm x ∧ Seen ys i x) ⟨x0, _, rfl, rfl, hn0, .inr (fun j hj => absurd hj (Nat.not_lt_zero _))⟩ ?_ ?_
    · rintro i c σ' H' hc ⟨x, y5, rfl, rfl, hx, hse⟩
      obtain ⟨hi8, rfl⟩ := abch_at hc
      have l2 := hx.len2 (c := 97 + i)
      have l4 := hx.len4 (c := 97 + i)
      have hx1 : Nm (takeS (x ++ sign (97 + i)) (Int.toNat 12)) := hx.push (by omega) (by omega)
      have l5 := hx1.len
      have l6 : (sign (97 + i)).length + (dropS (takeS (x ++ sign (97 + i)) (Int.toNat 12)) (Int.toNat 1)).length ≤ sizeLine := hx1.len3
      have hx2 := hx1.head (c := 97 + i) (by omega) (by omega)
      walk_at "cr.go"
      refine s_iteD (fun h => ?_) (fun h => ?_)
      · walk_at "cr.go"
        refine s_iteD (fun h2 => ?_) (fun h2 => ?_)
        · walk_at "cr.go"
          refine ⟨_, _, rfl, rfl, hx2.1, ?_⟩
          by_cases h3 : sign (97 + i) ++ dropS (takeS (x ++ sign (97 + i)) (Int.toNat 12)) (Int.toNat 1) ∈ ys
          · refine .inr fun j hj => ?_
            by_cases hji : j = i
            · rw [hji]; exact ⟨_, h3, hx2.2⟩
            · exact (hse.resolve_left (fun z => z h)) j (by omega)
          · exact .inl h3
        · walk_at "cr.go"
          exact ⟨_, _, rfl, rfl, hx1, .inl h2⟩
      · walk_at "cr.go"
        refine s_iteD (fun h2 => absurd h2 h) (fun _ => ?_)
        walk_at "cr.go"
        exact ⟨_, _, rfl, rfl, hx, .inl h⟩
    · rintro σ' H' ⟨x, y5, rfl, rfl, hx, hse⟩
      rw [abch_cps] at hse
      have hnew : x ∉ ys := Seen.new hse (by omega)
      walk_at "cr.go"
      refine ⟨ys ++ [x], _, _, _, rfl, by walk_at "cr.but", by walk_at "cr.bag", by rw [List.map_append]; exact upd_same, by rw [List.length_append, hl]; rfl, ?_, fun y hy => ?_⟩
      · rw [List.nodup_append]
        exact ⟨hnd, (by simp), fun a ha b hb e => hnew (by rw [List.mem_singleton] at hb; rw [← hb, ← e]; exact ha)⟩
      · rcases List.mem_append.mp hy with h | h
        · exact hnm y h
        · rw [List.mem_singleton] at h; rw [h]; exact hx
  · rintro σ' H' ⟨ys, y3, y4, y5, rfl, hb, hB', hp', hl, hnd, hnm⟩
    walk_at "cr.go"
    exact q p ys _ hb hB' hp hp' hl hnd hnm
local macro_rules | `(tactic| walk_at "cr.call") => `(tactic| ((with_reducible refine' Cr.u__law_names ?e ?a ?b ?c ?_); (case e => with_unfolding_all rfl); (case a => walk_at "cr.bag"); (case b => omega); (case c => omega); intro p ys H' hb hB np hp hl hn hnm))

/-! ### _law_wide -/
def sp__law_wide (K : PySem.W.Frag) : Sp := fun vs H Q _ => ∃ (b l : Addr) (m : Int), vs = [.ref b, .int m] ∧ Bag H b l ∧ 0 < m ∧ ∀ k H', 0 ≤ k → k < m → But b H H' → Bag H' b l → Q (.int k) H'
theorem u__law_wide {H : Hp} {Q : VK} {E : XK} {vs : List V} {b l : Addr} {m : Int} (e : vs = [.ref b, .int m]) (h : Bag H b l) (h0 : 0 < m) (q : ∀ k H', 0 ≤ k → k < m → But b H H' → Bag H' b l → Q (.int k) H') : sp__law_wide K vs H Q E := ⟨b, l, m, e, h, h0, q⟩
theorem ok__law_wide (T : Top w K mg) : FnOk P w K mg base CX0 2 T.f__law_wide T.fd__law_wide ["_law_bag_here", "_law_many"] (sp__law_wide K) := by
  have G__law_pull := ok__law_pull (P := P) (w := w) (base := base) T
  have hcl_Till := T.cl_Till
  have hna_Till_sums := T.na_Till_sums
  have hcl_Book := T.cl_Book
  have hna_Book_most := T.na_Book_most
  have hna_Book_rows := T.na_Book_rows
  have hna_Book_next_number := T.na_Book_next_number
  have hna_Book_past := T.na_Book_past
  have hna_Book_done := T.na_Book_done
  have hna_Book_undone := T.na_Book_undone
  have hna_Book_till := T.na_Book_till
  have hna_Book_closed := T.na_Book_closed
  refine T.F__law_wide.ok sc__law_wide (fun vs H Q E h => by obtain ⟨b, l, m, rfl, _⟩ := h; rfl) (fun cdv A outer s H vs Q E hr h => ?_)
  obtain ⟨b, l, m, rfl, hB, h0, q⟩ := h
  refine ⟨_, (pss_cons (ps_set (i := 2) sc__law_wide.nd rfl (Or.inl rfl) (pe_call (G__law_pull) (hr.mono (by decide)) (by rfl) T.g__law_pull T.k__law_pull T.b__law_pull .nil pass0 (pa_cons (pv 0) (pa_cons pe_int pa_nil))))
      (pss_one (ps_ret (pe_op op_modU (pe_op op_addU (pv 2) (pe_op op_mulU pe_int (pe_call (G__law_pull) (hr.mono (by decide)) (by rfl) T.g__law_pull T.k__law_pull T.b__law_pull .nil pass0 (pa_cons (pv 0) (pa_cons pe_int pa_nil))))) (pv 1))))), ?_⟩
  walk_at "cr.k"
  exact q _ _ (fmod_in h0).1 (fmod_in h0).2 (by walk_at "cr.but") (by walk_at "cr.bag")
local macro_rules | `(tactic| walk_at "cr.call") => `(tactic| ((with_reducible refine' Cr.u__law_wide ?e ?a ?b ?_); (case e => with_unfolding_all rfl); (case a => walk_at "cr.bag"); (case b => first | assumption | omega | decide); intro k H' hk0 hk1 hb hB))

/-! ### _law_pennies -/
def sp__law_pennies (_K : PySem.W.Frag) : Sp := fun vs H Q _ => ∃ (b l : Addr), vs = [.ref b] ∧ Bag H b l ∧ ∀ i H', 1 ≤ i → i ≤ 1000000000 → But b H H' → Bag H' b l → Q (.int i) H'
theorem u__law_pennies {H : Hp} {Q : VK} {E : XK} {vs : List V} {b l : Addr} (e : vs = [.ref b]) (h : Bag H b l) (q : ∀ i H', 1 ≤ i → i ≤ 1000000000 → But b H H' → Bag H' b l → Q (.int i) H') : sp__law_pennies K vs H Q E := ⟨b, l, e, h, q⟩
theorem ok__law_pennies (T : Top w K mg) : FnOk P w K mg base CX0 3 T.f__law_pennies T.fd__law_pennies ["_law_bag_here"] (sp__law_pennies K) := by
  have G__law_pull := ok__law_pull (P := P) (w := w) (base := base) T
  have G__law_wide := ok__law_wide (P := P) (w := w) (base := base) T
  have hcl_Till := T.cl_Till
  have hna_Till_sums := T.na_Till_sums
  have hcl_Book := T.cl_Book
  have hna_Book_most := T.na_Book_most
  have hna_Book_rows := T.na_Book_rows
  have hna_Book_next_number := T.na_Book_next_number
  have hna_Book_past := T.na_Book_past
  have hna_Book_done := T.na_Book_done
  have hna_Book_undone := T.na_Book_undone
  have hna_Book_till := T.na_Book_till
  have hna_Book_closed := T.na_Book_closed
  refine T.F__law_pennies.ok sc__law_pennies (fun vs H Q E h => by obtain ⟨b, l, rfl, _⟩ := h; rfl) (fun cdv A outer s H vs Q E hr h => ?_)
  obtain ⟨b, l, rfl, hB, q⟩ := h
  refine ⟨_, (pss_one (ps_ret (pe_ix ix_seq (pe_lst (pa_cons (pe_op op_addU pe_int (pe_call (G__law_pull) (hr.mono (by decide)) (by rfl) T.g__law_pull T.k__law_pull T.b__law_pull .nil pass0 (pa_cons (pv 0) (pa_cons pe_int pa_nil)))) (pa_cons (pe_op op_addU pe_int (pe_call (G__law_pull) (hr.mono (by decide)) (by rfl) T.g__law_pull T.k__law_pull T.b__law_pull .nil pass0 (pa_cons (pv 0) (pa_cons pe_int pa_nil)))) (pa_cons (pe_op op_addU pe_int (pe_call (G__law_wide) (hr.mono (by decide)) (by rfl) T.g__law_wide T.k__law_wide T.b__law_wide .nil pass0 (pa_cons (pv 0) (pa_cons (pe_op op_powU pe_int pe_int) pa_nil)))) pa_nil)))) (pe_call (G__law_pull) (hr.mono (by decide)) (by rfl) T.g__law_pull T.k__law_pull T.b__law_pull .nil pass0 (pa_cons (pv 0) (pa_cons pe_int pa_nil))) (fun _ _ => rfl)))), ?_⟩
  walk_at "cr.k"
  refine s_menuI 1 1000000000 (by walk_at "cr.lst") (by assumption) (by walk_at "cr.len") (by walk_at "cr.items") fun t1 t11 t12 => ?_
  exact q _ _ t11 t12 (by walk_at "cr.but") (by walk_at "cr.bag")
local macro_rules | `(tactic| walk_at "cr.call") => `(tactic| ((with_reducible refine' Cr.u__law_pennies ?e ?a ?_); (case e => with_unfolding_all rfl); (case a => walk_at "cr.bag"); intro i H' hi0 hi1 hb hB))

/-! ### _law_price -/
def sp__law_price (_K : PySem.W.Frag) : Sp := fun vs H Q _ => ∃ (b l : Addr), vs = [.ref b] ∧ Bag H b l ∧ ∀ i H', 1 ≤ i → i ≤ 1000000 → But b H H' → Bag H' b l → Q (.int i) H'
theorem u__law_price {H : Hp} {Q : VK} {E : XK} {vs : List V} {b l : Addr} (e : vs = [.ref b]) (h : Bag H b l) (q : ∀ i H', 1 ≤ i → i ≤ 1000000 → But b H H' → Bag H' b l → Q (.int i) H') : sp__law_price K vs H Q E := ⟨b, l, e, h, q⟩
theorem ok__law_price (T : Top w K mg) : FnOk P w K mg base CX0 3 T.f__law_price T.fd__law_price ["_law_bag_here"] (sp__law_price K) := by
  have G__law_pull := ok__law_pull (P := P) (w := w) (base := base) T
  have G__law_wide := ok__law_wide (P := P) (w := w) (base := base) T
  have hcl_Till := T.cl_Till
  have hna_Till_sums := T.na_Till_sums
  have hcl_Book := T.cl_Book
  have hna_Book_most := T.na_Book_most
  have hna_Book_rows := T.na_Book_rows
  have hna_Book_next_number := T.na_Book_next_number
  have hna_Book_past := T.na_Book_past
  have hna_Book_done := T.na_Book_done
  have hna_Book_undone := T.na_Book_undone
  have hna_Book_till := T.na_Book_till
  have hna_Book_closed := T.na_Book_closed
  refine T.F__law_price.ok sc__law_price (fun vs H Q E h => by obtain ⟨b, l, rfl, _⟩ := h; rfl) (fun cdv A outer s H vs Q E hr h => ?_)
  obtain ⟨b, l, rfl, hB, q⟩ := h
  refine ⟨_, (pss_one (ps_ret (pe_ix ix_seq (pe_lst (pa_cons (pe_op op_addU pe_int (pe_call (G__law_pull) (hr.mono (by decide)) (by rfl) T.g__law_pull T.k__law_pull T.b__law_pull .nil pass0 (pa_cons (pv 0) (pa_cons pe_int pa_nil)))) (pa_cons (pe_op op_addU pe_int (pe_call (G__law_pull) (hr.mono (by decide)) (by rfl) T.g__law_pull T.k__law_pull T.b__law_pull .nil pass0 (pa_cons (pv 0) (pa_cons pe_int pa_nil)))) (pa_cons pe_int (pa_cons (pe_op op_addU pe_int (pe_call (G__law_wide) (hr.mono (by decide)) (by rfl) T.g__law_wide T.k__law_wide T.b__law_wide .nil pass0 (pa_cons (pv 0) (pa_cons (pe_op op_powU pe_int pe_int) pa_nil)))) pa_nil))))) (pe_call (G__law_pull) (hr.mono (by decide)) (by rfl) T.g__law_pull T.k__law_pull T.b__law_pull .nil pass0 (pa_cons (pv 0) (pa_cons pe_int pa_nil))) (fun _ _ => rfl)))), ?_⟩
  walk_at "cr.k"
  refine s_menuI 1 1000000 (by walk_at "cr.lst") (by assumption) (by walk_at "cr.len") (by walk_at "cr.items") fun t1 t11 t12 => ?_
  exact q _ _ t11 t12 (by walk_at "cr.but") (by walk_at "cr.bag")
local macro_rules | `(tactic| walk_at "cr.call") => `(tactic| ((with_reducible refine' Cr.u__law_price ?e ?a ?_); (case e => with_unfolding_all rfl); (case a => walk_at "cr.bag"); intro i H' hi0 hi1 hb hB))

/-! ### _law_pairs -/
def sp__law_pairs (K : PySem.W.Frag) : Sp := fun vs H Q _ => ∃ (b l a : Addr) (ys : List Str), vs = [.ref b, .ref a] ∧ Bag H b l ∧ H a = some (.lst (ys.map V.str)) ∧ a ≠ b ∧ 1 ≤ ys.length ∧ ys.length ≤ 8 ∧ ys.Nodup ∧ ∀ v ps H', But b H H' → Bag H' b l → Dt K H' v (pairsD ps) → PsOf (· ∈ ys) ps → Q v H'
theorem u__law_pairs {H : Hp} {Q : VK} {E : XK} {vs : List V} {b l a : Addr} {ys : List Str} (e : vs = [.ref b, .ref a]) (hB : Bag H b l) (ha : H a = some (.lst (ys.map V.str))) (ne : a ≠ b) (l0 : 1 ≤ ys.length) (l1 : ys.length ≤ 8) (nd : ys.Nodup) (q : ∀ v ps H', But b H H' → Bag H' b l → Dt K H' v (pairsD ps) → PsOf (· ∈ ys) ps → Q v H') : sp__law_pairs K vs H Q E := ⟨b, l, a, ys, e, hB, ha, ne, l0, l1, nd, q⟩
theorem ps_sub {ys zs : List Str} {ps : List (Str × Int)} (nd : ys.Nodup) (l1 : ys.length ≤ 8) (s : zs.Sublist ys) (e : ps.map Prod.fst = zs) (l0 : 1 ≤ ps.length) (k : ∀ p, p ∈ ps → 1 ≤ p.2 ∧ p.2 ≤ 1000000) : PsOf (· ∈ ys) ps := by
  have hl : ps.length = zs.length := by rw [← e, List.length_map]
  exact ⟨l0, by have := s.length_le; omega, by rw [e]; exact s.nodup nd, fun p hp => ⟨s.subset (by rw [← e]; exact List.mem_map_of_mem hp), k p hp⟩⟩
theorem ok__law_pairs (T : Top w K mg) : FnOk P w K mg base CX0 4 T.f__law_pairs T.fd__law_pairs ["_law_bag_here", "_law_things"] (sp__law_pairs K) := by
  have G__law_pull := ok__law_pull (P := P) (w := w) (base := base) T
  have G__law_price := ok__law_price (P := P) (w := w) (base := base) T
  have hcl_Till := T.cl_Till
  have hna_Till_sums := T.na_Till_sums
  have hcl_Book := T.cl_Book
  have hna_Book_most := T.na_Book_most
  have hna_Book_rows := T.na_Book_rows
  have hna_Book_next_number := T.na_Book_next_number
  have hna_Book_past := T.na_Book_past
  have hna_Book_done := T.na_Book_done
  have hna_Book_undone := T.na_Book_undone
  have hna_Book_till := T.na_Book_till
  have hna_Book_closed := T.na_Book_closed
  refine T.F__law_pairs.ok sc__law_pairs (fun vs H Q E h => by obtain ⟨b, l, a, ys, rfl, _⟩ := h; rfl) (fun cdv A outer s H vs Q E hr h => ?_)
  obtain ⟨b, l, a, ys, rfl, hB, ha, ne, l0, l1, nd, q⟩ := h
  refine ⟨_, (pss_cons (ps_setLc (i := 2) (own := [("_law_thing", 3)]) (g := gName 3) rfl sc__law_pairs.nd rfl rfl (sw_true rfl rfl rfl (by decide +kernel)) (pi_list (pv 1)) (blkOk_by (N := ["_law_bag_here", "_law_things", "_law_found", "_law_thing"]) (sc := defScope s__law_pairs) (by decide +kernel)) (fun _ _ _ _ _ => pg_name (i := 3) sc__law_pairs.nd rfl (Or.inl rfl)) (fun _ _ _ _ _ => (pts_one (pt_cmpR op_gtI (pe_call (G__law_pull) (hr.mono (by decide)) (by rfl) T.g__law_pull T.k__law_pull T.b__law_pull .nil pass0 (pa_cons (pv 0) (pa_cons pe_int pa_nil))) pe_int (nomark _)))) (fun _ _ _ _ _ => (pe_tup (pa_cons (pv 3) (pa_cons (pe_call (G__law_price) (hr.mono (by decide)) (by rfl) T.g__law_price T.k__law_price T.b__law_price .nil pass0 (pa_cons (pv 0) pa_nil)) pa_nil)))))
      (pss_cons (ps_if (pt_not (pt_tru (pv 2))) (pss_one (ps_set (i := 2) sc__law_pairs.nd rfl (Or.inl rfl) (pe_lst (pa_cons (pe_tup (pa_cons (pe_ix ix_seq (pv 1) pe_int (fun _ _ => rfl)) (pa_cons (pe_op op_addU pe_int (pe_call (G__law_pull) (hr.mono (by decide)) (by rfl) T.g__law_pull T.k__law_pull T.b__law_pull .nil pass0 (pa_cons (pv 0) (pa_cons pe_int pa_nil)))) pa_nil))) pa_nil)))) pss_nil)
      (pss_one (ps_ret (pe_callTy call_tupU (by rfl) T.n_tuple (by decide +kernel) (pa_cons (pv 2) pa_nil)))))), ?_⟩
  walk_at "cr.k"
  refine c_listF (stp_but hB) (fun _ v y => v = V.str y) (fun H y v => ∃ c, Dt K H v (.tuple [.str y, .int c]) ∧ 1 ≤ c ∧ c ≤ 1000000) (fun _ _ _ _ _ h => h) (fun _ _ _ _ k h => by obtain ⟨c, h1, h2⟩ := h; exact ⟨c, h1.mono k.kt, h2⟩) (fun A s => .of (s.1.oth _ _ ne ha)) (a2_strs ys) (by rw [List.length_map]; omega) ?_ ?_
  · rintro _ y A Nt Nf hy rfl hS hT hF
    obtain ⟨hbA, hBA⟩ := hS
    clear hbA hB
    walk_at "cr.n"
    walk_at "cr.go"
    refine ⟨rfl, ?_⟩
    walk_at "cr.go"
    refine s_iteD (fun h => ?_) (fun h => ?_)
    · walk_at "cr.go"
      exact hT _ _ ⟨by walk_at "cr.but", by walk_at "cr.bag"⟩ ⟨_, by walk_at "cr.dt", by assumption, by assumption⟩
    · exact hF _ ⟨by walk_at "cr.but", by walk_at "cr.bag"⟩
  · intro p vs zs A hS hp hA hsub h2
    obtain ⟨hbA, hBA⟩ := hS
    obtain ⟨ps, e, hd, hk⟩ := a2_ps h2
    have hyA : A a = some (.lst (ys.map V.str)) := hbA.oth _ _ ne ha
    have npb : p ≠ b := hB.ne1 hp
    have npl : p ≠ l := hB.ne2 hp
    have hzl : zs.length = vs.length := h2.len
    have hpl : ps.length = zs.length := by rw [← e, List.length_map]
    clear h2 hB ha
    walk_at "cr.n"
    walk_at "cr.go"
    by_cases hv : vs.isEmpty = true
    · rw [hv, Bool.not_true, Bool.not_false]
      walk_at "cr.go"
      refine s_ixL (v := .str (ys[0]'(by omega))) (.of hyA) (atI_nat (j := 0) (by rw [List.getElem?_map, List.getElem?_eq_getElem (by omega)]; rfl)) ?_
      walk_at "cr.go"
      rename_i c B hc0 hc1 hbB hBB p2 hp2 p3 hp3
      have hd3 : DtAll K (upd (upd B p2 (.tup [.str (ys[0]'(by omega)), .int (1 + c)])) p3 (.lst [.ref p2])) [.ref p2] (([(ys[0]'(by omega), 1 + c)] : List (Str × Int)).map fun p => .tuple [.str p.1, .int p.2]) := by
        refine .cons ?_ .nil
        show Dt K _ _ (.tuple [.str _, .int _])
        walk_at "cr.dt"
      walk_at "cr.go"
      rename_i v4 H4 hs4 hd4
      refine q _ _ _ (by walk_at "cr.but") (by walk_at "cr.bag") hd4 ⟨by simp, by simp, List.nodup_cons.mpr ⟨List.not_mem_nil, List.nodup_nil⟩, fun p hp => ?_⟩
      rw [List.mem_singleton] at hp
      subst hp
      exact ⟨List.getElem_mem _, by show 1 ≤ 1 + c; omega, by show 1 + c ≤ 1000000; omega⟩
    · have hv' : vs.isEmpty = false := by simpa using hv
      rw [hv', Bool.not_false, Bool.not_true]
      have hl0 : 1 ≤ ps.length := by
        cases vs with
        | nil => exact absurd rfl hv
        | cons _ _ => rw [hpl, hzl]; simp
      walk_at "cr.go"
      rename_i v4 H4 hs4 hd4
      exact q _ _ _ (by walk_at "cr.but") (by walk_at "cr.bag") hd4 (ps_sub nd l1 hsub e hl0 hk)
local macro_rules | `(tactic| walk_at "cr.call") => `(tactic| ((with_reducible refine' Cr.u__law_pairs ?e ?a ?b ?c ?d ?f ?g ?_); (case e => with_unfolding_all rfl); (case a => walk_at "cr.bag"); (case b => walk_at "cr.at"); (case c => with_reducible assumption); (case d => first | with_reducible assumption | omega); (case f => first | with_reducible assumption | omega); (case g => with_reducible assumption); intro v ps H' hb hB hd hps))

/-! ### _law_entry -/
def sp__law_entry (K : PySem.W.Frag) : Sp := fun vs H Q _ => ∃ (b l a c : Addr) (ys zs : List Str) (L : Int), vs = [.ref b, .ref a, .ref c, .int L] ∧ Bag H b l ∧ H a = some (.lst (ys.map V.str)) ∧ H c = some (.lst (zs.map V.str)) ∧ a ≠ b ∧ c ≠ b ∧ 2 ≤ ys.length ∧ ys.length ≤ 8 ∧ 1 ≤ zs.length ∧ zs.length ≤ 8 ∧ ys.Nodup ∧ zs.Nodup ∧ 0 ≤ L ∧ L ≤ 400 ∧ ∀ v k d rest H', But b H H' → Bag H' b l → Dt K H' v (entD k d rest) → EntOf (· ∈ ys) (· ∈ zs) L k d rest → Q v H'
theorem u__law_entry {H : Hp} {Q : VK} {E : XK} {vs : List V} {b l a c : Addr} {ys zs : List Str} {L : Int} (e : vs = [.ref b, .ref a, .ref c, .int L]) (hB : Bag H b l) (ha : H a = some (.lst (ys.map V.str))) (hc : H c = some (.lst (zs.map V.str))) (na : a ≠ b) (nc : c ≠ b) (y0 : 2 ≤ ys.length) (y1 : ys.length ≤ 8) (z0 : 1 ≤ zs.length) (z1 : zs.length ≤ 8) (ny : ys.Nodup) (nz : zs.Nodup) (L0 : 0 ≤ L) (L1 : L ≤ 400) (q : ∀ v k d rest H', But b H H' → Bag H' b l → Dt K H' v (entD k d rest) → EntOf (· ∈ ys) (· ∈ zs) L k d rest → Q v H') : sp__law_entry K vs H Q E := ⟨b, l, a, c, ys, zs, L, e, hB, ha, hc, na, nc, y0, y1, z0, z1, ny, nz, L0, L1, q⟩
theorem other_at {i k n : Int} (i0 : 0 ≤ i) (i1 : i < n) (k0 : 0 ≤ k) (k1 : k < n - 1) : 0 ≤ (i + 1 + k).fmod n ∧ (i + 1 + k).fmod n < n ∧ (i + 1 + k).fmod n ≠ i := by
  rw [Int.fmod_eq_emod_of_nonneg _ (by omega)]
  by_cases h : i + 1 + k < n
  · rw [Int.emod_eq_of_lt (by omega) h]; omega
  · have e : (i + 1 + k) % n = i + 1 + k - n := by
      rw [← Int.sub_emod_right, Int.emod_eq_of_lt (by omega) (by omega)]
    rw [e]; omega
theorem str_at {K : PySem.W.Frag} {H : Hp} {a : Addr} {ys : List Str} {i : Int} {Q : VK} (h : H a = some (.lst (ys.map V.str))) (i0 : 0 ≤ i) (i1 : i < ys.length) (q : ∀ (j : Nat) (hj : j < ys.length), i = (j : Int) → Q (.str ys[j]) H) : rIx K (.ref a) (.int i) H Q := by
  obtain ⟨j, rfl⟩ : ∃ j : Nat, i = (j : Int) := ⟨i.toNat, by omega⟩
  have hj : j < ys.length := by omega
  exact s_ixL (v := .str ys[j]) (.of h) (atI_nat (by rw [List.getElem?_map, List.getElem?_eq_getElem hj]; rfl)) (q j hj rfl)
set_option maxHeartbeats 4000000 in
theorem ok__law_entry (T : Top w K mg) : FnOk P w K mg base CX0 5 T.f__law_entry T.fd__law_entry ["_law_bag_here", "_law_holders", "_law_things", "_law_last"] (sp__law_entry K) := by
  have G__law_pull := ok__law_pull (P := P) (w := w) (base := base) T
  have G__law_pennies := ok__law_pennies (P := P) (w := w) (base := base) T
  have G__law_price := ok__law_price (P := P) (w := w) (base := base) T
  have G__law_pairs := ok__law_pairs (P := P) (w := w) (base := base) T
  have hcl_Till := T.cl_Till
  have hna_Till_sums := T.na_Till_sums
  have hcl_Book := T.cl_Book
  have hna_Book_most := T.na_Book_most
  have hna_Book_rows := T.na_Book_rows
  have hna_Book_next_number := T.na_Book_next_number
  have hna_Book_past := T.na_Book_past
  have hna_Book_done := T.na_Book_done
  have hna_Book_undone := T.na_Book_undone
  have hna_Book_till := T.na_Book_till
  have hna_Book_closed := T.na_Book_closed
  refine T.F__law_entry.ok sc__law_entry (fun vs H Q E h => by obtain ⟨b, l, a, c, ys, zs, L, rfl, _⟩ := h; rfl) (fun cdv A outer s H vs Q E hr h => ?_)
  obtain ⟨b, l, a, c, ys, zs, L, rfl, hB, ha, hc, na, nc, y0, y1, z0, z1, ny, nz, L0, L1, q⟩ := h
  have m0 : (0 : Int) < L + 1 := by omega
  have m1 : L + 1 < 2 ^ 64 := by omega
  have m2 : (0 : Int) < ((ys.map V.str).length : Int) := by rw [List.length_map]; omega
  have m3 : ((ys.map V.str).length : Int) < 2 ^ 64 := by rw [List.length_map]; omega
  have m4 : (0 : Int) < ((zs.map V.str).length : Int) := by rw [List.length_map]; omega
  have m5 : ((zs.map V.str).length : Int) < 2 ^ 64 := by rw [List.length_map]; omega
  have m6 : (0 : Int) < ((ys.map V.str).length : Int) - 1 := by rw [List.length_map]; omega
  have m7 : ((ys.map V.str).length : Int) - 1 < 2 ^ 64 := by rw [List.length_map]; omega
  have m8 : ((ys.map V.str).length : Int) ≠ 0 := by omega
  refine ⟨_, (pss_cons (ps_set (i := 4) sc__law_entry.nd rfl (Or.inl rfl) (pe_lst (pa_cons pe_str (pa_cons pe_str (pa_cons pe_str (pa_cons pe_str (pa_cons pe_str (pa_cons pe_str (pa_cons pe_str (pa_cons pe_str (pa_cons pe_str (pa_cons pe_str (pa_cons pe_str (pa_cons pe_str pa_nil))))))))))))))
      (pss_cons (ps_set (i := 5) sc__law_entry.nd rfl (Or.inl rfl) (pe_ix ix_seq (pe_op op_addU (pv 4) (pe_lst (pa_cons pe_str (pa_cons pe_str (pa_cons pe_str (pa_cons pe_str (pa_cons pe_str pa_nil))))))) (pe_call (G__law_pull) (hr.mono (by decide)) (by rfl) T.g__law_pull T.k__law_pull T.b__law_pull .nil pass0 (pa_cons (pv 0) (pa_cons pe_int pa_nil))) (fun _ _ => rfl)))
      (pss_cons (ps_set (i := 6) sc__law_entry.nd rfl (Or.inl rfl) (pe_call (G__law_pull) (hr.mono (by decide)) (by rfl) T.g__law_pull T.k__law_pull T.b__law_pull .nil pass0 (pa_cons (pv 0) (pa_cons (pe_op op_addU (pv 3) pe_int) pa_nil))))
      (pss_cons (ps_set (i := 7) sc__law_entry.nd rfl (Or.inl rfl) (pe_call (G__law_pull) (hr.mono (by decide)) (by rfl) T.g__law_pull T.k__law_pull T.b__law_pull .nil pass0 (pa_cons (pv 0) (pa_cons (pe_callB call_lenU (by rfl) T.n_len (by decide +kernel) (pa_cons (pv 1) pa_nil)) pa_nil))))
      (pss_cons (ps_set (i := 8) sc__law_entry.nd rfl (Or.inl rfl) (pe_ix ix_seq (pv 2) (pe_call (G__law_pull) (hr.mono (by decide)) (by rfl) T.g__law_pull T.k__law_pull T.b__law_pull .nil pass0 (pa_cons (pv 0) (pa_cons (pe_callB call_lenU (by rfl) T.n_len (by decide +kernel) (pa_cons (pv 2) pa_nil)) pa_nil))) (fun _ _ => rfl)))
      (pss_cons (ps_set (i := 9) sc__law_entry.nd rfl (Or.inl rfl) (pe_ix ix_seq (pe_lst (pa_cons pe_int (pa_cons pe_int (pa_cons (pe_op op_addU pe_int (pe_call (G__law_pull) (hr.mono (by decide)) (by rfl) T.g__law_pull T.k__law_pull T.b__law_pull .nil pass0 (pa_cons (pv 0) (pa_cons pe_int pa_nil)))) pa_nil)))) (pe_call (G__law_pull) (hr.mono (by decide)) (by rfl) T.g__law_pull T.k__law_pull T.b__law_pull .nil pass0 (pa_cons (pv 0) (pa_cons pe_int pa_nil))) (fun _ _ => rfl)))
      (pss_cons (ps_if (pt_cmpR op_in_seq (pv 5) (pe_lst (pa_cons pe_str (pa_cons pe_str pa_nil))) (by rfl)) (pss_one (ps_ret (pe_tup (pa_cons (pv 5) (pa_cons (pv 6) (pa_cons (pe_ix ix_seq (pv 1) (pv 7) (fun _ _ => rfl)) (pa_cons (pe_call (G__law_pennies) (hr.mono (by decide)) (by rfl) T.g__law_pennies T.k__law_pennies T.b__law_pennies .nil pass0 (pa_cons (pv 0) pa_nil)) pa_nil))))))) pss_nil)
      (pss_cons (ps_if (pt_cmpR (op_eqD hr.units) (pv 5) pe_str (nomark _)) (pss_one (ps_ret (pe_tup (pa_cons (pv 5) (pa_cons (pv 6) (pa_cons (pv 8) (pa_cons (pe_call (G__law_price) (hr.mono (by decide)) (by rfl) T.g__law_price T.k__law_price T.b__law_price .nil pass0 (pa_cons (pv 0) pa_nil)) pa_nil))))))) pss_nil)
      (pss_cons (ps_if (pt_cmpR (op_eqD hr.units) (pv 5) pe_str (nomark _)) (pss_one (ps_ret (pe_tup (pa_cons (pv 5) (pa_cons (pv 6) (pa_cons (pe_call (G__law_pairs) (hr.mono (by decide)) (by rfl) T.g__law_pairs T.k__law_pairs T.b__law_pairs .nil pass0 (pa_cons (pv 0) (pa_cons (pv 2) pa_nil))) pa_nil)))))) pss_nil)
      (pss_cons (ps_if (pt_cmpR (op_eqD hr.units) (pv 5) pe_str (nomark _)) (pss_one (ps_ret (pe_tup (pa_cons (pv 5) (pa_cons (pv 6) (pa_cons (pe_ix ix_seq (pv 1) (pv 7) (fun _ _ => rfl)) (pa_cons (pv 9) pa_nil))))))) pss_nil)
      (pss_cons (ps_if (pt_cmpR (op_eqD hr.units) (pv 5) pe_str (nomark _)) (pss_cons (ps_set (i := 10) sc__law_entry.nd rfl (Or.inl rfl) (pe_ix ix_seq (pv 1) (pe_op op_modU (pe_op op_addU (pe_op op_addU (pv 7) pe_int) (pe_call (G__law_pull) (hr.mono (by decide)) (by rfl) T.g__law_pull T.k__law_pull T.b__law_pull .nil pass0 (pa_cons (pv 0) (pa_cons (pe_op op_subU (pe_callB call_lenU (by rfl) T.n_len (by decide +kernel) (pa_cons (pv 1) pa_nil)) pe_int) pa_nil)))) (pe_callB call_lenU (by rfl) T.n_len (by decide +kernel) (pa_cons (pv 1) pa_nil))) (fun _ _ => rfl)))
      (pss_one (ps_ret (pe_tup (pa_cons (pv 5) (pa_cons (pv 6) (pa_cons (pe_ix ix_seq (pv 1) (pv 7) (fun _ _ => rfl)) (pa_cons (pv 10) (pa_cons (pv 9) pa_nil))))))))) pss_nil)
      (pss_cons (ps_if (pt_cmpR op_in_seq (pv 5) (pe_lst (pa_cons pe_str (pa_cons pe_str pa_nil))) (by rfl)) (pss_one (ps_ret (pe_tup (pa_cons (pv 5) (pa_cons (pv 6) (pa_cons (pv 8) pa_nil)))))) pss_nil)
      (pss_cons (ps_if (pt_cmpR op_in_seq (pv 5) (pe_lst (pa_cons pe_str (pa_cons pe_str pa_nil))) (by rfl)) (pss_one (ps_ret (pe_tup (pa_cons (pv 5) (pa_cons (pv 6) (pa_cons (pe_ix ix_seq (pe_lst (pa_cons pe_int (pa_cons pe_int (pa_cons (pe_op op_addU pe_int (pe_op op_modU (pv 9) pe_int)) pa_nil)))) (pe_call (G__law_pull) (hr.mono (by decide)) (by rfl) T.g__law_pull T.k__law_pull T.b__law_pull .nil pass0 (pa_cons (pv 0) (pa_cons pe_int pa_nil))) (fun _ _ => rfl)) pa_nil)))))) pss_nil)
      (pss_cons (ps_if (pt_cmpR (op_eqD hr.units) (pv 5) pe_str (nomark _)) (pss_one (ps_ret (pe_tup (pa_cons (pv 5) (pa_cons (pv 6) (pa_cons (pv 9) pa_nil)))))) pss_nil)
      (pss_one (ps_ret (pe_tup (pa_cons (pv 5) (pa_cons (pv 6) pa_nil))))))))))))))))))), ?_⟩
  walk_at "cr.k"
  rename_i p1 hp1 p2 hp2 p3 hp3 k0 H1 hk00 hk01 hb1 hB1
  refine s_menuP (fun _ v => ∃ k, v = .str k ∧ k ∈ kindsE) (by walk_at "cr.lst") (by assumption) (by walk_at "cr.len") ?_ fun v hv => ?_
  · refine List.forall_mem_append.mpr ⟨?_, ?_⟩ <;> (repeat (refine List.forall_mem_cons.mpr ⟨⟨_, rfl, by decide +kernel⟩, ?_⟩)) <;> exact (fun _ h => nomatch h)
  obtain ⟨k, rfl, hk⟩ := hv
  have hb : But b H H1 := by walk_at "cr.but"
  have ha1 : H1 a = some (.lst (ys.map V.str)) := hb.oth _ _ na ha
  have hc1 : H1 c = some (.lst (zs.map V.str)) := hb.oth _ _ nc hc
  have hsk : SeqAt.shaped (.str k) = true := (lay_str (n := 0) (kind_txt hk)).sh
  clear hb1 hp1 hp2 hp3 hB ha hc hk00 hk01
  walk_at "cr.go"
  rename_i d H2 hd0 hd1 hb2 hB2 i H3 hi0 hi1 hb3 hB3 j H4 hj0 hj1 hb4 hB4
  have hb' : But b H H4 := by walk_at "cr.but"
  have ha4 : H4 a = some (.lst (ys.map V.str)) := hb4.oth _ _ na (hb3.oth _ _ na (hb2.oth _ _ na ha1))
  have hc4 : H4 c = some (.lst (zs.map V.str)) := hb4.oth _ _ nc (hb3.oth _ _ nc (hb2.oth _ _ nc hc1))
  clear hb hb2 hb3 hb4 hB1 hB2 hB3 ha1 hc1
  rw [List.length_map] at hi1 hj1
  refine str_at hc4 hj0 hj1 fun j' hj' ej => ?_
  obtain ⟨th, hth⟩ : ∃ th, th = zs[j'] := ⟨_, rfl⟩
  have hthm : th ∈ zs := by rw [hth]; exact List.getElem_mem _
  rw [← hth]
  clear hth ej hj0 hj1
  walk_at "cr.go"
  refine s_menuI 1 10000 (by walk_at "cr.lst") (by assumption) (by walk_at "cr.len") (by walk_at "cr.items") fun ct ct0 ct1 => ?_
  rename_i c1 H5 hc10 hc11 hb5 hB5 p6 hp6 c2 H7 hc20 hc21 hb7 hB7
  have n6 : p6 ≠ a := by walk_at "cr.ne"
  have n7 : p6 ≠ c := by walk_at "cr.ne"
  have ha7 : H7 a = some (.lst (ys.map V.str)) := by walk_at "cr.at"
  have hc7 : H7 c = some (.lst (zs.map V.str)) := by walk_at "cr.at"
  have hb : But b H H7 := by walk_at "cr.but"
  clear hb' hb5 hb7 hB5 hB4 hp6 ha4 hc4
  walk_at "cr.go"
  refine s_iteD (fun h1 => ?_) (fun h1 => ?_)
  · walk_at "cr.go"
    refine str_at (by walk_at "cr.at") hi0 hi1 fun i' hi' ei => ?_
    have hm : ys[i'] ∈ ys := List.getElem_mem _
    walk_at "cr.go"
    refine q _ k d _ _ (by walk_at "cr.but") (by walk_at "cr.bag") (by walk_at "cr.dt") ?_
    simp only [List.mem_cons, List.not_mem_nil, or_false] at h1
    rcases h1 with rfl | rfl
    · exact .come hd0 (by omega) hm (by assumption) (by assumption)
    · exact .draw hd0 (by omega) hm (by assumption) (by assumption)
  walk_at "cr.go"
  refine s_iteD (fun h2 => ?_) (fun h2 => ?_)
  · walk_at "cr.go"
    refine q _ k d _ _ (by walk_at "cr.but") (by walk_at "cr.bag") (by walk_at "cr.dt") ?_
    subst h2
    exact .price hd0 (by omega) hthm (by assumption) (by assumption)
  walk_at "cr.go"
  refine s_iteD (fun h3 => ?_) (fun h3 => ?_)
  · walk_at "cr.go"
    refine q _ k d _ _ (by walk_at "cr.but") (by walk_at "cr.bag") (by walk_at "cr.dt") ?_
    subst h3
    exact .mix hd0 (by omega) (by assumption)
  walk_at "cr.go"
  refine s_iteD (fun h4 => ?_) (fun h4 => ?_)
  · walk_at "cr.go"
    refine str_at (by walk_at "cr.at") hi0 hi1 fun i' hi' ei => ?_
    have hm : ys[i'] ∈ ys := List.getElem_mem _
    walk_at "cr.go"
    refine q _ k d _ _ (by walk_at "cr.but") (by walk_at "cr.bag") (by walk_at "cr.dt") ?_
    subst h4
    exact .go hd0 (by omega) hm (by assumption) (by assumption)
  walk_at "cr.go"
  refine s_iteD (fun h5 => ?_) (fun h5 => ?_)
  · walk_at "cr.go"
    rename_i kk H8 hk80 hk81 hb8 hB8
    rw [List.length_map] at hk81 ⊢
    obtain ⟨o0, o1, o2⟩ := other_at hi0 hi1 hk80 hk81
    refine str_at (by walk_at "cr.at") o0 o1 fun j2 hj2 ej2 => ?_
    have hm2 : ys[j2] ∈ ys := List.getElem_mem _
    walk_at "cr.go"
    refine str_at (by walk_at "cr.at") hi0 hi1 fun i' hi' ei => ?_
    have hm : ys[i'] ∈ ys := List.getElem_mem _
    have hne : ys[i'] ≠ ys[j2] := fun z => by
      have := (List.getElem_inj ny).mp z
      omega
    walk_at "cr.go"
    refine q _ k d _ _ (by walk_at "cr.but") (by walk_at "cr.bag") (by walk_at "cr.dt") ?_
    subst h5
    exact .give hd0 (by omega) hm hm2 hne (by assumption) (by assumption)
  walk_at "cr.go"
  refine s_iteD (fun h6 => ?_) (fun h6 => ?_)
  · walk_at "cr.go"
    refine q _ k d _ _ (by walk_at "cr.but") (by walk_at "cr.bag") (by walk_at "cr.dt") ?_
    simp only [List.mem_cons, List.not_mem_nil, or_false] at h6
    rcases h6 with rfl | rfl
    · exact .aside hd0 (by omega) hthm
    · exact .home hd0 (by omega) hthm
  walk_at "cr.go"
  refine s_iteD (fun h7 => ?_) (fun h7 => ?_)
  · walk_at "cr.go"
    have hf : 0 ≤ ct.fmod 9999 ∧ ct.fmod 9999 ≤ 9998 := by rw [Int.fmod_eq_emod_of_nonneg _ (by omega)]; omega
    obtain ⟨hf0, hf1⟩ := hf
    refine s_menuI 1 9999 (by walk_at "cr.lst") (by assumption) (by walk_at "cr.len") (by walk_at "cr.items") fun ct2 ct20 ct21 => ?_
    walk_at "cr.go"
    refine q _ k d _ _ (by walk_at "cr.but") (by walk_at "cr.bag") (by walk_at "cr.dt") ?_
    simp only [List.mem_cons, List.not_mem_nil, or_false] at h7
    rcases h7 with rfl | rfl
    · exact .rate hd0 (by omega) (by omega) (by assumption)
    · exact .levy hd0 (by omega) (by assumption) (by assumption)
  walk_at "cr.go"
  refine s_iteD (fun h8 => ?_) (fun h8 => ?_)
  · walk_at "cr.go"
    refine q _ k d _ _ (by walk_at "cr.but") (by walk_at "cr.bag") (by walk_at "cr.dt") ?_
    subst h8
    exact .hurdle hd0 (by omega) (by assumption) (by assumption)
  walk_at "cr.go"
  refine q _ k d _ _ (by walk_at "cr.but") (by walk_at "cr.bag") (by walk_at "cr.dt") ?_
  simp only [List.mem_cons, List.not_mem_nil, or_false, not_or] at h1 h6 h7
  unfold kindsE at hk
  simp only [List.mem_cons, List.not_mem_nil, or_false, h1.1, h1.2, h2, h3, h4, h5, h6.1, h6.2, h7.1, h7.2, h8, false_or] at hk
  subst hk
  exact .harvest hd0 (by omega)
local macro_rules | `(tactic| walk_at "cr.call") => `(tactic| ((with_reducible refine' Cr.u__law_entry ?e ?a ?b ?c ?f1 ?f2 ?g1 ?g2 ?g3 ?g4 ?g5 ?g6 ?g7 ?g8 ?_); (case e => with_unfolding_all rfl); (case a => walk_at "cr.bag"); (case b => walk_at "cr.at"); (case c => walk_at "cr.at"); (case f1 => with_reducible assumption); (case f2 => with_reducible assumption); (case g1 => first | with_reducible assumption | omega); (case g2 => first | with_reducible assumption | omega); (case g3 => first | with_reducible assumption | omega); (case g4 => first | with_reducible assumption | omega); (case g5 => with_reducible assumption); (case g6 => with_reducible assumption); (case g7 => first | with_reducible assumption | omega); (case g8 => first | with_reducible assumption | omega); intro v k d rest H' hb hB hd hent))

/-! ### _law_try -/
def outD : Out → PyData
  | .num n => .tuple [.str "number", .int n]
  | .bad j => .tuple [.str "bad", .int j]
  | .full m => .tuple [.str "full", .int m]
  | .twice k => .tuple [.str "twice", .int k]
/-- the book behind a try -/
noncomputable def tryB (B : BookS) (c : E3 ⊕ Nat) : BookS := match c, putO B c with
  | .inl e, .num _ => entB B (frmE e)
  | _, _ => B
theorem tryB_num {B : BookS} {e : E3} {n : Int} (h : putO B (.inl e) = .num n) : tryB B (.inl e) = entB B (frmE e) := by unfold tryB; rw [h]
theorem tryB_no {B : BookS} {c : E3 ⊕ Nat} (h : ∀ n, putO B c ≠ .num n) : tryB B c = B := by
  unfold tryB
  cases c with
  | inr j => rfl
  | inl e =>
    cases q : putO B (.inl e) with
    | num n => exact absurd q (h n)
    | _ => rfl
theorem s_methS {C : Addr} {m : Str} {sp : Sp} {E : L2.St → XK} {ta : TE} {t : TA} {σ : St} {H : Hp} {Q : VK} (h : ta σ H fun x H1 => MethQ C m x H1 (t σ H1 fun vs H2 => sp (x :: vs) H2 Q (E σ))) : tMethS C m sp E ta t σ H Q := h
def sp__law_try (K : PySem.W.Frag) (Cb Ct aF : Addr) : Sp := fun vs H Q _ => ∃ (A : BkA) (B : BookS) (n : Nat) (x : V) (d : PyData) (c : E3 ⊕ Nat), vs = [.ref A.p, x] ∧ BkAt K Cb Ct H A B ∧ RwOk B.nx B.rows ∧ Dl K H n x d ∧ ChkD K aF d c ∧ B.past.length ≤ 100000 ∧ B.done.length ≤ 100000 ∧
  ∀ v A' H', Keep A.all H H' → BkAt K Cb Ct H' A' (tryB B c) → A'.p = A.p → (∀ x, x ∈ A'.all → x ∈ A.all ∨ H x = none) → Dt K H' v (outD (putO B c)) → Q v H'
theorem ok__law_try (T : Top w K mg) : FnOk P w K mg base (L2.CX P w) 9 T.f__law_try T.fd__law_try ["_law_book", "_law_entry_here"] (sp__law_try K T.C_Book T.C_Till T.a_FORMS) := by
  have G_Book_enter := ok_Book_enter (P := P) (w := w) (base := base) T
  have hcl_Till := T.cl_Till
  have hna_Till_sums := T.na_Till_sums
  have hcl_Book := T.cl_Book
  have hna_Book_most := T.na_Book_most
  have hna_Book_rows := T.na_Book_rows
  have hna_Book_next_number := T.na_Book_next_number
  have hna_Book_past := T.na_Book_past
  have hna_Book_done := T.na_Book_done
  have hna_Book_undone := T.na_Book_undone
  have hna_Book_till := T.na_Book_till
  have hna_Book_closed := T.na_Book_closed
  refine T.F__law_try.okX sc__law_try (fun vs H Q E h => by obtain ⟨A, B, n, x, d, c, rfl, _⟩ := h; rfl) (fun cdv A0 outer s H vs Q E hr h => ?_)
  obtain ⟨A, B, n, x, d, c, rfl, hb, ho, hx, hc, l1, l2, q⟩ := h
  have hp := hb.hp
  refine ⟨_, (pss_cons (ps_set (i := 2) sc__law_try.nd rfl (Or.inl rfl) pe_non)
      (pss_cons (ps_try_manyAs rfl rfl sc__law_try.nd (takes_of rfl rfl rfl rfl) (fun W pn xe tk _ => (pss_one (ps_set (i := 2) sc__law_try.nd rfl (Or.inl rfl) (pe_tup (pa_cons pe_str (pa_cons (pe_methS (pv 0) T.cl_Book T.m_Book_enter (G_Book_enter) (hr.mono (by decide)) T.b_Book_enter (fun σ => passAt tk σ) (pa_cons (pv 1) pa_nil)) pa_nil)))))) (.cons (i := 3) rfl rfl ⟨rfl, by decide, .inl T.c_BadEntry⟩ (fun a oe cls d pn hz hf => (pss_one (ps_set (i := 2) sc__law_try.nd rfl (Or.inl rfl) (pe_tup (pa_cons pe_str (pa_cons (pe_xf (xfG T.oe_BadEntry) T.na_BadEntry hz hf (pv 3)) pa_nil)))))) (.cons (i := 3) rfl rfl ⟨rfl, by decide, .inl T.c_Full⟩ (fun a oe cls d pn hz hf => (pss_one (ps_set (i := 2) sc__law_try.nd rfl (Or.inl rfl) (pe_tup (pa_cons pe_str (pa_cons (pe_xf (xfG T.oe_Full) T.na_Full hz hf (pv 3)) pa_nil)))))) (.cons (i := 3) rfl rfl ⟨rfl, by decide, .inl T.c_Twice⟩ (fun a oe cls d pn hz hf => (pss_one (ps_set (i := 2) sc__law_try.nd rfl (Or.inl rfl) (pe_tup (pa_cons pe_str (pa_cons (pe_xf (xfG T.oe_Twice) T.na_Twice hz hf (pv 3)) pa_nil)))))) .nil))))
      (pss_one (ps_ret (pv 2))))), ?_⟩
  walk_at "cr.k"
  refine s_methS ?_
  walk_at "cr.go"
  refine u_Book_enterX rfl hb ho hx hc l1 l2 ?_ fun e ec eo A' H' kA hb' ep fA => ?_
  · have fin : ∀ (p : Addr) (H1 : Hp) (k : Str) (i : Int), Same H H1 → (∀ n, putO B c ≠ .num n) → outD (putO B c) = .tuple [.str k, .int i] → H1 p = none → Q (.ref p) (upd H1 p (.tup [.str k, .int i])) := fun p H1 k i s1 h1 h2 hn => by
      refine q (.ref p) A _ (Keep.same (s1.trans (same_new hn))) ?_ rfl (fun x hx => .inl hx) ?_
      · rw [tryB_no h1]; exact hb.same (s1.trans (same_new hn))
      · rw [h2]; exact dt_new (.cons (.str _) (.cons (.int _) .nil)) hn
    cases eo : putO B c with
    | num n => exact True.intro
    | bad j =>
      rw [eo] at fin
      intro dx H1 s1 n1 e1
      refine ⟨true, T.kq_exmBadEntry, fun _ ae hae => ?_, fun z => nomatch z⟩
      walk_at "cr.go"
      refine s_xf1 e1 ?_
      walk_at "cr.go"
      rename_i p hp0
      exact fin p H1 _ _ s1 (fun n z => nomatch z) rfl hp0
    | full m =>
      rw [eo] at fin
      intro dx H1 s1 n1 e1
      refine ⟨false, T.kq_exFB, fun z => (nomatch z), fun _ => ⟨true, T.kq_exmFull, fun _ ae hae => ?_, fun z => nomatch z⟩⟩
      walk_at "cr.go"
      refine s_xf1 e1 ?_
      walk_at "cr.go"
      rename_i p hp0
      exact fin p H1 _ _ s1 (fun n z => nomatch z) rfl hp0
    | twice k =>
      rw [eo] at fin
      intro dx H1 s1 n1 e1
      refine ⟨false, T.kq_exTB, fun z => (nomatch z), fun _ => ⟨false, T.kq_exTF, fun z => (nomatch z), fun _ => ⟨true, T.kq_exmTwice, fun _ ae hae => ?_, fun z => nomatch z⟩⟩⟩
      walk_at "cr.go"
      refine s_xf1 e1 ?_
      walk_at "cr.go"
      rename_i p hp0
      exact fin p H1 _ _ s1 (fun n z => nomatch z) rfl hp0
  · clear hx hp
    walk_at "cr.go"
    rename_i p hp0
    refine q _ A' _ (kA.trans (Keep.same (same_new hp0))) ?_ ep fA ?_
    · rw [ec, tryB_num (ec ▸ eo)]; exact hb'.same (same_new hp0)
    · rw [eo]; exact dt_new (.cons (.str _) (.cons (.int _) .nil)) hp0
theorem u__law_try {Cb Ct aF : Addr} {H : Hp} {Q : VK} {E : XK} {vs : List V} {A : BkA} {B : BookS} {n : Nat} {x : V} {d : PyData} {c : E3 ⊕ Nat} (ev : vs = [.ref A.p, x]) (hb : BkAt K Cb Ct H A B) (ho : RwOk B.nx B.rows) (hx : Dl K H n x d) (hc : ChkD K aF d c) (l1 : B.past.length ≤ 100000) (l2 : B.done.length ≤ 100000)
    (q : ∀ v A' H', Keep A.all H H' → BkAt K Cb Ct H' A' (tryB B c) → A'.p = A.p → (∀ x, x ∈ A'.all → x ∈ A.all ∨ H x = none) → Dt K H' v (outD (putO B c)) → Q v H') : sp__law_try K Cb Ct aF vs H Q E := ⟨A, B, n, x, d, c, ev, hb, ho, hx, hc, l1, l2, q⟩

/-! ### _law_slot -/
def sp__law_slot (K : PySem.W.Frag) : Sp := fun vs H Q _ => ∃ (x : V) (k : Str) (d : Int) (rest : List PyData), vs = [x] ∧ Dt K H x (entD k d rest) ∧ ∀ v H', Same H H' → Dt K H' v (slotD k d rest) → Q v H'
theorem u__law_slot {H : Hp} {Q : VK} {E : XK} {vs : List V} {x : V} {k : Str} {d : Int} {rest : List PyData} (e : vs = [x]) (hx : Dt K H x (entD k d rest)) (q : ∀ v H', Same H H' → Dt K H' v (slotD k d rest) → Q v H') : sp__law_slot K vs H Q E := ⟨x, k, d, rest, e, hx, q⟩
theorem ok__law_slot (T : Top w K mg) : FnOk P w K mg base CX0 1 T.f__law_slot T.fd__law_slot ["_law_row"] (sp__law_slot K) := by
  have hcl_Till := T.cl_Till
  have hna_Till_sums := T.na_Till_sums
  have hcl_Book := T.cl_Book
  have hna_Book_most := T.na_Book_most
  have hna_Book_rows := T.na_Book_rows
  have hna_Book_next_number := T.na_Book_next_number
  have hna_Book_past := T.na_Book_past
  have hna_Book_done := T.na_Book_done
  have hna_Book_undone := T.na_Book_undone
  have hna_Book_till := T.na_Book_till
  have hna_Book_closed := T.na_Book_closed
  refine T.F__law_slot.ok sc__law_slot (fun vs H Q E h => by obtain ⟨x, k, d, rest, rfl, _⟩ := h; rfl) (fun cdv A outer s H vs Q E hr h => ?_)
  obtain ⟨x, k, d, rest, rfl, hx, q⟩ := h
  have hx' : Dt K H x (.tuple (.str k :: .int d :: rest)) := hx
  refine ⟨_, (pss_cons (ps_if (pt_cmpR op_in_seq (pe_ix ix_seq (pv 0) pe_int (fun _ _ => rfl)) (pe_lst (pa_cons pe_str (pa_cons pe_str (pa_cons pe_str pa_nil)))) (by rfl)) (pss_one (ps_ret (pe_slice sl_tupA (pv 0) po_none (po_some pe_int)))) pss_nil)
      (pss_cons (ps_if (pt_cmpR op_in_seq (pe_ix ix_seq (pv 0) pe_int (fun _ _ => rfl)) (pe_lst (pa_cons pe_str (pa_cons pe_str (pa_cons pe_str (pa_cons pe_str pa_nil))))) (by rfl)) (pss_one (ps_ret pe_non)) pss_nil)
      (pss_one (ps_ret (pe_slice sl_tupA (pv 0) po_none (po_some pe_int)))))), ?_⟩
  clear hx
  walk_at "cr.k"
  refine s_iteD (fun h => ?_) (fun h => ?_)
  · walk_at "cr.go"
    exact q _ _ (by walk_at "cr.sm") (by unfold slotD slotN; rw [if_pos h]; assumption)
  · walk_at "cr.go"
    refine s_iteD (fun h2 => ?_) (fun h2 => ?_)
    · walk_at "cr.go"
      exact q _ _ (by walk_at "cr.sm") (by unfold slotD slotN; rw [if_neg h, if_pos h2]; exact .non)
    · walk_at "cr.go"
      exact q _ _ (by walk_at "cr.sm") (by unfold slotD slotN; rw [if_neg h, if_neg h2]; assumption)
local macro_rules | `(tactic| walk_at "cr.call") => `(tactic| ((with_reducible refine' Cr.u__law_slot ?e ?a ?_); (case e => with_unfolding_all rfl); (case a => walk_at "cr.dt"); intro v H' hs hd))

/-! ### _law_due -/
noncomputable def dueO (rows : List Row) (m nb : Int) (e : E3) : Out := if m ≤ rows.length then .full m else match freeF rows e none with
  | some k => .twice k
  | none => .num nb
theorem due_full {rows : List Row} {m nb : Int} {e : E3} (h : m ≤ rows.length) : dueO rows m nb e = .full m := by unfold dueO; rw [if_pos h]
theorem due_twice {rows : List Row} {m nb k : Int} {e : E3} (h : ¬ m ≤ rows.length) (hk : freeF rows e none = some k) : dueO rows m nb e = .twice k := by unfold dueO; rw [if_neg h, hk]
theorem due_num {rows : List Row} {m nb : Int} {e : E3} (h : ¬ m ≤ rows.length) (hk : freeF rows e none = none) : dueO rows m nb e = .num nb := by unfold dueO; rw [if_neg h, hk]
def sp__law_due (K : PySem.W.Frag) : Sp := fun vs H Q _ => ∃ (pr : Addr) (ws : List V) (rows : List Row) (m nb : Int) (x : V) (bd : Bool), vs = [.ref pr, .int m, x, .bl bd, .int nb] ∧ SqL K H pr ws ∧ DtAll K H ws (rows.map rowD) ∧ (∀ p, p ∈ rows → EntIn Nm Nm 400 p.2) ∧ rows.length ≤ 1000 ∧
  ((bd = true ∧ ∀ v H', Same H H' → Dt K H' v (outD (.bad 1)) → Q v H') ∨ (bd = false ∧ ∃ e, Dt K H x (dE e) ∧ EntIn Nm Nm 400 e ∧ ∀ v H', Same H H' → Dt K H' v (outD (dueO rows m nb e)) → Q v H'))
theorem ok__law_due (T : Top w K mg) : FnOk P w K mg base CX0 2 T.f__law_due T.fd__law_due ["_law_rows", "_law_many", "_law_entry_here", "_law_bad", "_law_number"] (sp__law_due K) := by
  have G__law_slot := ok__law_slot (P := P) (w := w) (base := base) T
  have hcl_Till := T.cl_Till
  have hna_Till_sums := T.na_Till_sums
  have hcl_Book := T.cl_Book
  have hna_Book_most := T.na_Book_most
  have hna_Book_rows := T.na_Book_rows
  have hna_Book_next_number := T.na_Book_next_number
  have hna_Book_past := T.na_Book_past
  have hna_Book_done := T.na_Book_done
  have hna_Book_undone := T.na_Book_undone
  have hna_Book_till := T.na_Book_till
  have hna_Book_closed := T.na_Book_closed
  refine T.F__law_due.ok sc__law_due (fun vs H Q E h => by obtain ⟨pr, ws, rows, m, nb, x, bd, rfl, _⟩ := h; rfl) (fun cdv A0 outer s H vs Q E hr h => ?_)
  obtain ⟨pr, ws, rows, m, nb, x, bd, rfl, hs, hd, hi, hz, hc⟩ := h
  refine ⟨_, (pss_cons (ps_if (pt_tru (pv 3)) (pss_one (ps_ret (pe_tup (pa_cons pe_str (pa_cons pe_int pa_nil))))) pss_nil)
      (pss_cons (ps_if (pt_cmpR op_geI (pe_callB call_lenU (by rfl) T.n_len (by decide +kernel) (pa_cons (pv 0) pa_nil)) (pv 1) (nomark _)) (pss_one (ps_ret (pe_tup (pa_cons pe_str (pa_cons (pv 1) pa_nil))))) pss_nil)
      (pss_cons (ps_for PassesOwn.never rfl (pi_list (pv 0)) (pg_name (i := 5) sc__law_due.nd rfl (Or.inl rfl)) (pss_one (ps_if (PW.pt (pw_and (pt_cmpR op_notU (pe_call (G__law_slot) (hr.mono (by decide)) (by rfl) T.g__law_slot T.k__law_slot T.b__law_slot .nil pass0 (pa_cons (pv 2) pa_nil)) pe_non (nomark _)) (pw_and1 (pt_cmpR (op_eqD hr.units) (pe_call (G__law_slot) (hr.mono (by decide)) (by rfl) T.g__law_slot T.k__law_slot T.b__law_slot .nil pass0 (pa_cons (pv 2) pa_nil)) (pe_call (G__law_slot) (hr.mono (by decide)) (by rfl) T.g__law_slot T.k__law_slot T.b__law_slot .nil pass0 (pa_cons (pe_ix ix_seq (pv 5) pe_int (fun _ _ => rfl)) pa_nil)) (nomark _))))) (pss_one (ps_ret (pe_tup (pa_cons pe_str (pa_cons (pe_ix ix_seq (pv 5) pe_int (fun _ _ => rfl)) pa_nil))))) pss_nil)))
      (pss_one (ps_ret (pe_tup (pa_cons pe_str (pa_cons (pv 4) pa_nil)))))))), ?_⟩
  rcases hc with ⟨rfl, q⟩ | ⟨rfl, ⟨ek, ed, er⟩, hx, he, q⟩
  · walk_at "cr.k"
    rename_i p hp
    exact q _ _ (same_new hp) (dt_new (.cons (.str _) (.cons (.int _) .nil)) hp)
  have lw : ws.length = rows.length := by rw [hd.len, List.length_map]
  have hx' : Dt K H x (entD ek ed er) := hx
  walk_at "cr.k"
  rw [lw]
  by_cases hm : m ≤ rows.length
  · rw [decide_eq_true hm, if_pos rfl]
    walk_at "cr.go"
    rename_i p hp
    exact q _ _ (same_new hp) (by rw [due_full hm]; exact dt_new (.cons (.str _) (.cons (.int _) .nil)) hp)
  rw [decide_eq_false hm, if_neg Bool.false_ne_true]
  walk_at "cr.go"
  refine f_list (xs := ws) (fun i σ' H' => (∃ y5, σ' = [some (.ref pr), some (.int m), some x, some (.bl false), some (.int nb), y5]) ∧ Same H H' ∧ ∀ q, q ∈ rows.take i → hitB (ek, ed, er) none q = false) ⟨⟨_, rfl⟩, Same.refl _, fun q hq => by simp at hq⟩ (fun i σ' H' _ h => h.2.1.seq hs) ?_ ?_
  · rintro i y σ' H' ex ⟨⟨y5, rfl⟩, sm, hno⟩
    obtain ⟨d, ed1, hy⟩ := hd.item ex
    rw [List.getElem?_map] at ed1
    cases erw : rows[i]? with
    | none => rw [erw] at ed1; cases ed1
    | some pr1 =>
    rw [erw] at ed1
    cases ed1
    obtain ⟨rk, ak, ad, ar⟩ := pr1
    have hre := hi _ (List.mem_of_getElem? erw)
    have hy' : Dt K H' y (.tuple [.int rk, entD ak ad ar]) := hy.mono (kt_same sm)
    have hx2 := hx'.mono (kt_same sm)
    have tk : rows.take (i + 1) = rows.take i ++ [(rk, (ak, ad, ar))] := by rw [List.take_add_one, erw]; rfl
    have fin : hitB (ek, ed, er) none (rk, (ak, ad, ar)) = false → ∀ q, q ∈ rows.take (i + 1) → hitB (ek, ed, er) none q = false := fun z q hq => by
      rw [tk] at hq
      rcases List.mem_append.mp hq with hq | hq
      · exact hno q hq
      · rw [List.mem_singleton.mp hq]; exact z
    walk_at "cr.n"
    walk_at "cr.go"
    rename_i v1 H1 s1 hv1
    rcases slot_cases (ek, ed, er) with e0 | ⟨ds, e0⟩
    · have e1 : slotD ek ed er = .none := e0
      rw [e1] at hv1
      cases hv1
      walk_at "cr.go"
      exact ⟨⟨_, rfl⟩, sm.trans s1, fin (hit_no fun z => z.1 e0)⟩
    have e1 : slotD ek ed er = .tuple ds := e0
    have hvT : Dt K H1 v1 (.tuple ds) := by rw [← e1]; exact hv1
    walk_at "cr.go"
    rename_i v2 H2 s2 hv2 v3 hv3 v4 H4 s4 hv4
    have sA := (sm.trans s1).trans (s2.trans s4)
    have hy4 : Dt K H4 y (.tuple [.int rk, entD ak ad ar]) := hy'.mono (kt_same (s1.trans (s2.trans s4)))
    refine s_eqSlot (a := (ek, ed, er)) (b := (ak, ad, ar)) (hv2.mono (kt_same s4)) hv4 he hre (fun e3 => ?_) (fun e3 => ?_)
    · refine ⟨_, rfl, ?_⟩
      rw [if_pos rfl]
      clear hv4 hv3 hv2 hv1 hvT hy' hx2
      walk_at "cr.go"
      rename_i p hp
      refine q _ _ (sA.trans (same_new hp)) ?_
      rw [due_twice hm (free_at erw hno (hit_iff.mpr ⟨(fun z => by rw [e0] at z; cases z), (fun z => nomatch z), e3.symm⟩))]
      exact dt_new (.cons (.str _) (.cons (.int _) .nil)) hp
    · refine ⟨_, rfl, ?_⟩
      rw [if_neg Bool.false_ne_true]
      walk_at "cr.go"
      exact ⟨⟨_, rfl⟩, sA, fin (hit_no fun z => e3 z.2.2.symm)⟩
  · rintro σ' H' ⟨⟨y5, rfl⟩, sm, hno⟩
    rw [lw, List.take_length] at hno
    walk_at "cr.go"
    rename_i p hp
    exact q _ _ (sm.trans (same_new hp)) (by rw [due_num hm (free_none hno)]; exact dt_new (.cons (.str _) (.cons (.int _) .nil)) hp)
theorem u__law_due {H : Hp} {Q : VK} {E : XK} {vs : List V} {pr : Addr} {ws : List V} {rows : List Row} {m nb : Int} {x : V} {bd : Bool} (ev : vs = [.ref pr, .int m, x, .bl bd, .int nb]) (hs : SqL K H pr ws) (hd : DtAll K H ws (rows.map rowD)) (hi : ∀ p, p ∈ rows → EntIn Nm Nm 400 p.2) (hz : rows.length ≤ 1000)
    (q : (bd = true ∧ ∀ v H', Same H H' → Dt K H' v (outD (.bad 1)) → Q v H') ∨ (bd = false ∧ ∃ e, Dt K H x (dE e) ∧ EntIn Nm Nm 400 e ∧ ∀ v H', Same H H' → Dt K H' v (outD (dueO rows m nb e)) → Q v H')) : sp__law_due K vs H Q E := ⟨pr, ws, rows, m, nb, x, bd, ev, hs, hd, hi, hz, q⟩

/-! ### law -/
/-! what a book is while it only grows -/
structure BOk (B : BookS) : Prop where
  m1 : B.most ≤ 60
  ok : RwOk B.nx B.rows
  nx : B.nx = B.rows.length + 1
  pl : B.past.length = B.rows.length + 1
  last : B.past[B.rows.length]? = some B.rows
  dl : B.done.length = B.rows.length
  ul : B.undone = []
theorem bok_new {m : Int} (h : m ≤ 60) : BOk (newB m) := ⟨h, ⟨.nil, (fun e h => nomatch h), (fun e h => nomatch h), Nat.zero_le _⟩, rfl, rfl, rfl, rfl, rfl⟩
theorem BOk.ent {B : BookS} {e : E3} (h : BOk B) (he : EntIn Nm Nm 400 e) (l : ¬ B.most ≤ B.rows.length) : BOk (entB B e) := by
  have hm := h.m1
  refine ⟨h.m1, h.ok.snoc (by rw [h.nx]; omega) he (by omega), ?_, ?_, ?_, ?_, rfl⟩
  · show B.nx + 1 = ((B.rows ++ [(B.nx, e)]).length : Int) + 1
    rw [h.nx, List.length_append]; rfl
  · show (B.past ++ [B.rows ++ [(B.nx, e)]]).length = (B.rows ++ [(B.nx, e)]).length + 1
    rw [List.length_append, h.pl, List.length_append]; rfl
  · show (B.past ++ [B.rows ++ [(B.nx, e)]])[(B.rows ++ [(B.nx, e)]).length]? = _
    rw [List.length_append, ← show B.past.length = B.rows.length + [(B.nx, e)].length from h.pl, List.getElem?_append_right (Nat.le_refl _), Nat.sub_self]; rfl
  · show (B.done ++ [B.rows]).length = (B.rows ++ [(B.nx, e)]).length
    rw [List.length_append, h.dl, List.length_append]; rfl
theorem put_due (B : BookS) (e : E3) : putO B (.inl e) = dueO B.rows B.most B.nx e := by
  rw [putO_e, free_frm]; rfl
theorem lay_out (o : Out) : LayN 2 (outD o) := by
  have tx : ∀ {t : Str} {i : Int}, TxtOk t → LayN 2 (.tuple [.str t, .int i]) := fun h => lay_tup fun e he => by
    simp only [List.mem_cons, List.not_mem_nil, or_false] at he
    rcases he with rfl | rfl
    · exact lay_str h
    · exact lay_int _
  cases o with
  | num n => exact tx (by unfold TxtOk; decide +kernel)
  | bad n => exact tx (by unfold TxtOk; decide +kernel)
  | full n => exact tx (by unfold TxtOk; decide +kernel)
  | twice n => exact tx (by unfold TxtOk; decide +kernel)
def sp_law (K : PySem.W.Frag) (P : Addr) : Sp := fun vs H Q _ => ∃ (a : Addr) (ns : List Int), vs = [.ref a] ∧ SqL K H a (ns.map V.int) ∧ ns.length ≤ 63 ∧ TabS H P qBk ∧ ∀ H', Q (.bl true) H'
theorem ok_law {f : Addr} {fd : FuncData} (F : Fun K "law" "law" s_law f fd) (T : Top w K mg) (TB : LamX.TabB base mg T.tc T.tP) : FnOk P w K mg base (L2.CX P w) 10 f fd ["_law_script"] (sp_law K T.tP) := by
  have G_BookU_initU := ok_BookU_initU (P := P) (w := w) (base := base) T
  have G_BookU_lenU := ok_BookU_lenU (P := P) (w := w) (base := base) T
  have G_Book_enter := ok_Book_enter (P := P) (w := w) (base := base) T
  have G_Book_turns := ok_Book_turns (P := P) (w := w) (base := base) T
  have G_Book_known := ok_Book_known (P := P) (w := w) (base := base) T TB
  have G_Book_entries := ok_Book_entries (P := P) (w := w) (base := base) T TB
  have G_Book_twin := ok_Book_twin (P := P) (w := w) (base := base) T
  have G__law_bag := ok__law_bag (P := P) (w := w) (base := base) T
  have G__law_pull := ok__law_pull (P := P) (w := w) (base := base) T
  have G__law_names := ok__law_names (P := P) (w := w) (base := base) T
  have G__law_entry := ok__law_entry (P := P) (w := w) (base := base) T
  have G__law_try := ok__law_try (P := P) (w := w) (base := base) T
  have G__law_due := ok__law_due (P := P) (w := w) (base := base) T
  have hcl_Till := T.cl_Till
  have hna_Till_sums := T.na_Till_sums
  have hcl_Book := T.cl_Book
  have hna_Book_most := T.na_Book_most
  have hna_Book_rows := T.na_Book_rows
  have hna_Book_next_number := T.na_Book_next_number
  have hna_Book_past := T.na_Book_past
  have hna_Book_done := T.na_Book_done
  have hna_Book_undone := T.na_Book_undone
  have hna_Book_till := T.na_Book_till
  have hna_Book_closed := T.na_Book_closed
  obtain ⟨_, v_BookU_initU_1, b_BookU_initU_1⟩ := bi_BookU_initU_1 T
  obtain ⟨_, v_Book_entries_1, b_Book_entries_1⟩ := bi_Book_entries_1 T
  obtain ⟨_, v_Book_known_1, b_Book_known_1⟩ := bi_Book_known_1 T
  obtain ⟨_, kb_BookU_initU_1_most⟩ := kt_BookU_initU_1_most T
  refine F.okX sc_law (fun vs H Q E h => by obtain ⟨a, ns, rfl, _⟩ := h; rfl) (fun cdv A0 outer s H vs Q E hr h => ?_)
  obtain ⟨a, ns, rfl, hS, _, hT, q⟩ := h
  refine ⟨_, (pss_cons (ps_set (i := 1) sc_law.nd rfl (Or.inl rfl) (pe_call (G__law_bag) (hr.mono (by decide)) (by rfl) T.g__law_bag T.k__law_bag T.b__law_bag .nil pass0 (pa_cons (pv 0) pa_nil)))
      (pss_cons (ps_set (i := 2) sc_law.nd rfl (Or.inl rfl) (pe_call (G__law_names) (hr.mono (by decide)) (by rfl) T.g__law_names T.k__law_names T.b__law_names .nil pass0 (pa_cons (pv 1) (pa_cons pe_int pa_nil))))
      (pss_cons (ps_set (i := 3) sc_law.nd rfl (Or.inl rfl) (pe_call (G__law_names) (hr.mono (by decide)) (by rfl) T.g__law_names T.k__law_names T.b__law_names .nil pass0 (pa_cons (pv 1) (pa_cons pe_int pa_nil))))
      (pss_cons (ps_set (i := 4) sc_law.nd rfl (Or.inl rfl) (pe_ix ix_seq (pe_lst (pa_cons (pe_call (G__law_pull) (hr.mono (by decide)) (by rfl) T.g__law_pull T.k__law_pull T.b__law_pull .nil pass0 (pa_cons (pv 1) (pa_cons pe_int pa_nil))) (pa_cons pe_int pa_nil))) (pe_call (G__law_pull) (hr.mono (by decide)) (by rfl) T.g__law_pull T.k__law_pull T.b__law_pull .nil pass0 (pa_cons (pv 1) (pa_cons pe_int pa_nil))) (fun _ _ => rfl)))
      (pss_cons (ps_set (i := 5) sc_law.nd rfl (Or.inl rfl) (pe_makeK0 T.M_Book (G_BookU_initU) (hr.mono (by decide)) (by rfl) T.c_Book kb_BookU_initU_1_most pass0 (pk_cons (pv 4) pk_nil)))
      (pss_cons (ps_if (pt_cmpR (op_eqD hr.units) (pv 4) pe_int (nomark _)) (pss_one (ps_set (i := 5) sc_law.nd rfl (Or.inl rfl) (pe_make0 T.M_Book (G_BookU_initU) (hr.mono (by decide)) (by rfl) T.c_Book b_BookU_initU_1 v_BookU_initU_1 pass0))) pss_nil)
      (pss_cons (ps_set (i := 6) sc_law.nd rfl (Or.inl rfl) (pe_lst pa_nil))
      (pss_cons (ps_for (passes_of rfl) rfl (pi_range1 rfl T.n_range (pa_cons (pe_call (G__law_pull) (hr.mono (by decide)) (by rfl) T.g__law_pull T.k__law_pull T.b__law_pull .nil pass0 (pa_cons (pv 1) (pa_cons pe_int pa_nil))) pa_nil)) (pg_name (i := 7) sc_law.nd rfl (Or.inl rfl)) (pss_cons (ps_set (i := 8) sc_law.nd rfl (Or.inl rfl) (pe_call (G__law_entry) (hr.mono (by decide)) (by rfl) T.g__law_entry T.k__law_entry T.b__law_entry .nil pass0 (pa_cons (pv 1) (pa_cons (pv 2) (pa_cons (pv 3) (pa_cons (pe_ix ix_seq (pe_lst (pa_cons pe_int (pa_cons pe_int pa_nil))) (pe_call (G__law_pull) (hr.mono (by decide)) (by rfl) T.g__law_pull T.k__law_pull T.b__law_pull .nil pass0 (pa_cons (pv 1) (pa_cons pe_int pa_nil))) (fun _ _ => rfl)) pa_nil))))))
      (pss_cons (ps_if (PW.pt (pw_and (pt_tru (pv 6)) (pw_and1 (pt_cmpR (op_eqD hr.units) (pe_call (G__law_pull) (hr.mono (by decide)) (by rfl) T.g__law_pull T.k__law_pull T.b__law_pull .nil pass0 (pa_cons (pv 1) (pa_cons pe_int pa_nil))) pe_int (nomark _))))) (pss_one (ps_set (i := 8) sc_law.nd rfl (Or.inl rfl) (pe_ix ix_seq (pe_ix ix_seq (pv 6) (pe_call (G__law_pull) (hr.mono (by decide)) (by rfl) T.g__law_pull T.k__law_pull T.b__law_pull .nil pass0 (pa_cons (pv 1) (pa_cons (pe_callB call_lenU (by rfl) T.n_len (by decide +kernel) (pa_cons (pv 6) pa_nil)) pa_nil))) (fun _ _ => rfl)) pe_int (fun _ _ => rfl)))) pss_nil)
      (pss_cons (ps_set (i := 9) sc_law.nd rfl (Or.inl rfl) (pe_cmpR (op_eqD hr.units) (pe_call (G__law_pull) (hr.mono (by decide)) (by rfl) T.g__law_pull T.k__law_pull T.b__law_pull .nil pass0 (pa_cons (pv 1) (pa_cons pe_int pa_nil))) pe_int (nomark _)))
      (pss_cons (ps_if (pt_tru (pv 9)) (pss_one (ps_set (i := 8) sc_law.nd rfl (Or.inl rfl) (pe_op op_addU (pe_tup (pa_cons (pe_ix ix_seq (pv 8) pe_int (fun _ _ => rfl)) (pa_cons pe_int pa_nil))) (pe_slice sl_seqU (pv 8) (po_some pe_int) po_none)))) pss_nil)
      (pss_cons (ps_set (i := 10) sc_law.nd rfl (Or.inl rfl) (pe_call (G__law_due) (hr.mono (by decide)) (by rfl) T.g__law_due T.k__law_due T.b__law_due .nil pass0 (pa_cons (pv 6) (pa_cons (pv 4) (pa_cons (pv 8) (pa_cons (pv 9) (pa_cons (pe_op op_addU (pe_callB call_lenU (by rfl) T.n_len (by decide +kernel) (pa_cons (pv 6) pa_nil)) pe_int) pa_nil)))))))
      (pss_cons (ps_if (pt_cmpR (op_neD hr.units) (pe_call (G__law_try) (hr.mono (by decide)) (by rfl) T.g__law_try T.k__law_try T.b__law_try .nil passL (pa_cons (pv 5) (pa_cons (pv 8) pa_nil))) (pv 10) (nomark _)) (pss_one (ps_ret pe_bl)) pss_nil)
      (pss_cons (ps_if (pt_cmpR (op_eqD hr.units) (pe_ix ix_seq (pv 10) pe_int (fun _ _ => rfl)) pe_str (nomark _)) (pss_cons (ps_if (pt_cmpR (op_eqD hr.units) (pe_ix ix_seq (pv 8) pe_int (fun _ _ => rfl)) pe_str (nomark _)) (pss_one (ps_set (i := 8) sc_law.nd rfl (Or.inl rfl) (pe_op op_addU (pe_slice sl_seqU (pv 8) po_none (po_some pe_int)) (pe_tup (pa_cons (pe_callTy call_tupU (by rfl) T.n_tuple (by decide +kernel) (pa_cons (pe_callB (call_sortD hr.units) (by rfl) T.n_sorted (by decide +kernel) (pa_cons (pe_ix ix_seq (pv 8) pe_int (fun _ _ => rfl)) pa_nil)) pa_nil)) pa_nil))))) pss_nil)
      (pss_one (ps_expr (pe_bm PySem.F.plainAttrs_list PySem.F.slot_list_append PySem.F.type_list_append mt_append (pv 6) (pa_cons (pe_tup (pa_cons (pe_ix ix_seq (pv 10) pe_int (fun _ _ => rfl)) (pa_cons (pv 8) pa_nil))) pa_nil))))) pss_nil)
      (pss_cons (ps_set (i := 11) sc_law.nd rfl (Or.inl rfl) (pe_meth0 (pv 5) T.cl_Book T.m_Book_known (G_Book_known) (hr.mono (by decide)) b_Book_known_1 v_Book_known_1 passL))
      (pss_cons (ps_if (PW.pt (pw_or (pt_cmpR (op_neD hr.units) (pv 11) (pv 6) (nomark _)) (pw_or1 (pt_cmpR (op_neD hr.units) (pe_meth0 (pv 5) T.cl_Book T.m_Book_entries (G_Book_entries) (hr.mono (by decide)) b_Book_entries_1 v_Book_entries_1 passL) (pe_lc (own := [("_law_one", 12)]) (g := gName 12) (tt := tYes) rfl sc_law.nd (pi_list (pv 6)) (blkOk_by (N := ["_law_script", "_law_bag_here", "_law_holders", "_law_things", "_law_many", "_law_book", "_law_rows", "_law_k", "_law_entry_here", "_law_bad", "_law_due_here", "_law_found", "_law_one"]) (sc := defScope s_law) (by decide +kernel)) (fun _ _ _ _ _ => pg_name (i := 12) sc_law.nd rfl (Or.inl rfl)) (fun _ _ _ _ _ => pts_nil) (fun _ _ _ _ _ => (pe_ix (show IxR _ (rIx K) from ix_seq) (pv 12) pe_int (fun _ _ => rfl)))) (nomark _))))) (pss_one (ps_ret pe_bl)) pss_nil)
      (pss_cons (ps_expr (pe_bm PySem.F.plainAttrs_list PySem.F.slot_list_append PySem.F.type_list_append mt_append (pv 11) (pa_cons pe_non pa_nil)))
      (pss_cons (ps_expr (pe_bm PySem.F.plainAttrs_list PySem.F.slot_list_append PySem.F.type_list_append mt_append (pe_meth0 (pv 5) T.cl_Book T.m_Book_entries (G_Book_entries) (hr.mono (by decide)) b_Book_entries_1 v_Book_entries_1 passL) (pa_cons pe_non pa_nil)))
      (pss_cons (ps_if (PW.pt (pw_or (pt_cmpR (op_neD hr.units) (pe_callB (call_lenI T.m_BookU_lenU (G_BookU_lenU) (hr.mono (by decide)) T.b_BookU_lenU pass0) (by rfl) T.n_len (by decide +kernel) (pa_cons (pv 5) pa_nil)) (pe_callB call_lenU (by rfl) T.n_len (by decide +kernel) (pa_cons (pv 6) pa_nil)) (nomark _)) (pw_or (pt_cmpR (op_neD hr.units) (pe_meth0 (pv 5) T.cl_Book T.m_Book_turns (G_Book_turns) (hr.mono (by decide)) T.b_Book_turns .nil pass0) (pe_callB call_lenU (by rfl) T.n_len (by decide +kernel) (pa_cons (pv 6) pa_nil)) (nomark _)) (pw_or1 (pt_cmpR (op_neD hr.units) (pe_meth0 (pv 5) T.cl_Book T.m_Book_known (G_Book_known) (hr.mono (by decide)) b_Book_known_1 v_Book_known_1 passL) (pv 6) (nomark _)))))) (pss_one (ps_ret pe_bl)) pss_nil)
      (pss_one (ps_if (PW.pt (pw_and (pt_cmpR op_geI (pe_callB call_lenU (by rfl) T.n_len (by decide +kernel) (pa_cons (pv 6) pa_nil)) (pv 4) (nomark _)) (pw_and1 (pt_cmpR (op_neD hr.units) (pe_call (G__law_try) (hr.mono (by decide)) (by rfl) T.g__law_try T.k__law_try T.b__law_try .nil passL (pa_cons (pe_meth0 (pv 5) T.cl_Book T.m_Book_twin (G_Book_twin) (hr.mono (by decide)) T.b_Book_twin .nil pass0) (pa_cons (pe_tup (pa_cons pe_str (pa_cons pe_int (pa_cons pe_int pa_nil)))) pa_nil))) (pe_tup (pa_cons pe_str (pa_cons (pv 4) pa_nil))) (nomark _))))) (pss_one (ps_ret pe_bl)) pss_nil)))))))))))))))
      (pss_cons (ps_set (i := 5) sc_law.nd rfl (Or.inl rfl) (pe_make0 T.M_Book (G_BookU_initU) (hr.mono (by decide)) (by rfl) T.c_Book b_BookU_initU_1 v_BookU_initU_1 pass0))
      (pss_cons (ps_for (passes_of rfl) rfl (pi_range1 rfl T.n_range (pa_cons pe_int pa_nil)) (pg_name (i := 7) sc_law.nd rfl (Or.inl rfl)) (pss_one (ps_if (pt_cmpR (op_neD hr.units) (pe_meth (pv 5) T.cl_Book T.m_Book_enter (G_Book_enter) (hr.mono (by decide)) T.b_Book_enter .nil passL (pa_cons (pe_tup (pa_cons pe_str (pa_cons (pv 7) (pa_cons (pe_ix ix_seq (pv 2) (pe_op op_modU (pv 7) pe_int) (fun _ _ => rfl)) (pa_cons (pe_op op_addU pe_int (pv 7)) pa_nil))))) pa_nil)) (pe_op op_addU (pv 7) pe_int) (nomark _)) (pss_one (ps_ret pe_bl)) pss_nil)))
      (pss_one (ps_ret (pe_and (pe_cmpR (op_eqD hr.units) (pe_call (G__law_try) (hr.mono (by decide)) (by rfl) T.g__law_try T.k__law_try T.b__law_try .nil passL (pa_cons (pv 5) (pa_cons (pe_tup (pa_cons pe_str (pa_cons pe_int pa_nil))) pa_nil))) (pe_tup (pa_cons pe_str (pa_cons pe_int pa_nil))) (nomark _)) (pe_and (pe_cmpR (op_eqD hr.units) (pe_callB (call_lenI T.m_BookU_lenU (G_BookU_lenU) (hr.mono (by decide)) T.b_BookU_lenU pass0) (by rfl) T.n_len (by decide +kernel) (pa_cons (pe_make0 T.M_Book (G_BookU_initU) (hr.mono (by decide)) (by rfl) T.c_Book b_BookU_initU_1 v_BookU_initU_1 pass0) pa_nil)) pe_int (nomark _)) (pe_one (pe_cmpR (op_eqD hr.units) (pe_meth0 (pe_make0 T.M_Book (G_BookU_initU) (hr.mono (by decide)) (by rfl) T.c_Book b_BookU_initU_1 v_BookU_initU_1 pass0) T.cl_Book T.m_Book_known (G_Book_known) (hr.mono (by decide)) b_Book_known_1 v_Book_known_1 passL) (pe_lst pa_nil) (nomark _))))))))))))))))), ?_⟩
  walk_at "cr.k"
  rename_i b l H1 hs1 nb nl hB1 ph ys H2 hb2 hB2 np2 hp2 hl2 hn2 hm2 pt zs H3 hb3 hB3 np3 hp3 hl3 hn3 hm3 k0 H4 k00 k01 hb4 hB4 p5 hp5 k5 H5 k50 k51 hb5 hB5
  refine s_menuI 0 60 (by walk_at "cr.lst") (by assumption) (by walk_at "cr.len") (by walk_at "cr.items") fun mny m0 m1 => ?_
  have hl2 : ys.length = 2 := hl2
  have hl3 : zs.length = 2 := hl3
  have nhb : ph ≠ b := Bag.ne1' np2 hB1
  have ntb : pt ≠ b := Bag.ne1' np3 hB2
  have hph : H5 ph = some (.lst (ys.map V.str)) := hb5.oth _ _ nhb ((same_new hp5) _ _ (hb4.oth _ _ nhb (hb3.oth _ _ nhb hp2)))
  have hpt : H5 pt = some (.lst (zs.map V.str)) := hb5.oth _ _ ntb ((same_new hp5) _ _ (hb4.oth _ _ ntb hp3))
  have hT5 : TabS H5 T.tP qBk := tab_but hb5 (tab_keep (L := []) (tab_but hb4 (tab_but hb3 (tab_but hb2 (tab_keep (L := []) hT (.same hs1) (fun b hb => absurd hb List.not_mem_nil))))) (.same (same_new hp5)) (fun b hb => absurd hb List.not_mem_nil))
  clear hs1 nb nl hB1 hb2 hB2 np2 hp2 hb3 hB3 np3 hp3 hb4 hB4 hp5 hb5 hT hS
  walk_at "cr.go"
  rename_i A0 H6 s6 f6 hb6
  refine s_cutI [5] (fun f H' => ∃ A : BkA, f 5 = some (.ref A.p) ∧ Same H5 H' ∧ (∀ x, x ∈ A.all → H5 x = none) ∧ BkAt K T.C_Book T.C_Till H' A (newB mny)) ?_ ?_
  · intro N' hN'
    refine s_iteD (fun h => ?_) (fun h => ?_)
    · walk_at "cr.go"
      rename_i A1 H7 s7 f7 hb7
      exact hN' _ _ rfl ⟨A1, rfl, s6.trans s7, fun x hx => free_on (f7 x hx) s6, by rw [h]; exact hb7⟩
    · walk_at "cr.go"
      exact hN' _ _ rfl ⟨A0, rfl, s6, f6, hb6⟩
  clear hb6 f6 s6
  rintro f H7 ⟨A, e5, s7, f7, hb7⟩
  walk_at "cr.n"
  rw [e5]
  have hB7 := hB5.same s7
  have hph7 := s7 _ _ hph
  have hpt7 := s7 _ _ hpt
  have hT7 : TabS H7 T.tP qBk := tab_keep (L := []) hT5 (.same s7) (fun b hb => absurd hb List.not_mem_nil)
  have na7 : ∀ x o, H5 x = some o → x ∉ A.all := fun x o e z => by rw [f7 x z] at e; cases e
  obtain ⟨_, _, _, _, eb5, el5, _⟩ := id hB5
  have nab := na7 _ _ eb5
  have nal := na7 _ _ el5
  have nah := na7 _ _ hph
  have nat_ := na7 _ _ hpt
  clear hB5 hph hpt hT5 s7 na7 eb5 el5 f7 e5
  walk_at "cr.go"
  rename_i pr hpr kn H8 kn0 kn1 hb8 hB8
  have L7 : LI K T.C_Book T.C_Till T.tP (upd H7 pr (.lst [])) b l ph pt pr ys zs A (newB mny) [] [] := by
    refine ⟨hB7.new hpr, hb7.new hpr, tab_keep (L := []) hT7 (.same (same_new hpr)) (fun b hb => absurd hb List.not_mem_nil), same_new hpr _ _ hph7, same_new hpr _ _ hpt7, upd_same, .nil, fun x hx => ?_, nhb, ntb, Bag.ne1' hpr hB7, Bag.ne2' hpr hB7, (ne_on hpr hph7).symm, (ne_on hpr hpt7).symm⟩
    simp only [List.mem_cons, List.not_mem_nil, or_false] at hx
    rcases hx with rfl | rfl | rfl | rfl | rfl
    · exact nab
    · exact nal
    · exact nah
    · exact nat_
    · exact hb7.notin hpr
  have L8 := L7.but hb8 hB8
  clear L7 hb8 hB8 hpr hb7 hB7 hph7 hpt7 hT7 nab nal nah nat_
  generalize eA : A.p = ap at *
  refine r_each [7, 8, 9, 10, 11, 12] (fun _ H' => ∃ A B ws, A.p = ap ∧ B.most = mny ∧ BOk B ∧ LI K T.C_Book T.C_Till T.tP H' b l ph pt pr ys zs A B B.rows ws) ⟨A, newB mny, [], eA, rfl, bok_new m1, L8⟩ rfl ?_ ?_
  · rintro n g H9 hn ⟨A, B, ws, eA, em, hB, L⟩
    clear L8
    have bag9 := L.bag
    have hh9 := L.hh
    have ht9 := L.ht
    have y0 : 2 ≤ ys.length := by omega
    have y1 : ys.length ≤ 8 := by omega
    have z0 : 1 ≤ zs.length := by omega
    have z1 : zs.length ≤ 8 := by omega
    walk_at "cr.n"
    refine s_seq ?_
    refine s_cutG [8] (fun f H' => ∃ v e, f 8 = some v ∧ Dt K H' v (dE e) ∧ EntIn Nm Nm 400 e ∧ LI K T.C_Book T.C_Till T.tP H' b l ph pt pr ys zs A B B.rows ws) (fun N' hN' => ?_) ?_
    · walk_at "cr.go"
      refine s_menuI 2 400 (by walk_at "cr.lst") (by assumption) (by walk_at "cr.len") (by walk_at "cr.items") fun dl dl0 dl1 => ?_
      have dl0' : 0 ≤ dl := by omega
      walk_at "cr.go"
      rename_i p9 hp9 k9 Hx k90 k91 hbx hBx v0 ek ed er H10 hby hBy hv0 hent0
      have he0 : EntIn Nm Nm 400 (ek, ed, er) := EntOf.mono hent0 hm2 hm3 dl1
      exact hN' _ _ rfl ⟨v0, (ek, ed, er), rfl, hv0, he0, ((L.same (same_new hp9)).but hbx hBx).but hby hBy⟩
    clear bag9 hh9 ht9 L
    rintro f8 H10 ⟨v0, e0, ev0, hv0, he0, L⟩
    walk_at "cr.n"
    rw [ev0]
    have lws : ws.length = B.rows.length := by rw [L.hd.len, List.length_map]
    refine s_seq ?_
    refine s_cutG [8] (fun f H' => ∃ v e, f 8 = some v ∧ Dt K H' v (dE e) ∧ EntIn Nm Nm 400 e ∧ LI K T.C_Book T.C_Till T.tP H' b l ph pt pr ys zs A B B.rows ws) (fun N' hN' => ?_) ?_
    · have bag := L.bag
      have hr10 := L.hr
      walk_at "cr.go"
      by_cases hw : ws = []
      · subst hw
        exact hN' _ _ rfl ⟨v0, e0, rfl, hv0, he0, L⟩
      have hlen : 0 < ws.length := List.length_pos_iff.mpr hw
      rw [show (!ws.isEmpty) = true by simpa using hw, if_pos rfl]
      have q0 : (0 : Int) < (ws.length : Int) := by omega
      have q1 : (ws.length : Int) < 2 ^ 64 := by have := hB.ok.len; omega
      walk_at "cr.go"
      rename_i k1 H11 k10 k11 hb11 hB11
      have L11 := L.but hb11 hB11
      have hv11 := hv0.mono (kt_but hb11)
      have hr11 := L11.hr
      clear hb11 bag hr10 L hv0
      refine s_iteD (fun h => ?_) (fun h => ?_)
      rotate_left
      · exact hN' _ _ rfl ⟨v0, e0, rfl, hv11, he0, L11⟩
      walk_at "cr.go"
      rename_i k2 H12 k20 k21 hb12 hB12
      have L12 := L11.but hb12 hB12
      clear hb12 hB11 hr11 L11 hv11
      refine row_at L12.hr L12.hd k20 k21 fun v p hp hv => ?_
      walk_at "cr.go"
      exact hN' _ _ rfl ⟨_, p.2, rfl, by assumption, hB.ok.ent p hp, L12⟩
    clear hv0 he0 ev0 L e0
    rintro f8' H11 ⟨v1, ⟨ek, ed, er⟩, ev1, hv1, he1, L⟩
    walk_at "cr.n"
    rw [ev1]
    clear ev1 lws
    have lws : ws.length = B.rows.length := by rw [L.hd.len, List.length_map]
    refine s_seq ?_
    refine s_cutG [9] (fun f H' => ∃ bd : Bool, f 9 = some (.bl bd) ∧ Dt K H' v1 (dE (ek, ed, er)) ∧ LI K T.C_Book T.C_Till T.tP H' b l ph pt pr ys zs A B B.rows ws) (fun N' hN' => ?_) ?_
    · have bag := L.bag
      walk_at "cr.go"
      rename_i k1 H12 k10 k11 hb12 hB12
      exact hN' _ _ rfl ⟨_, rfl, hv1.mono (kt_but hb12), L.but hb12 hB12⟩
    clear hv1 L
    rintro f9 H12 ⟨bd, ebd, hv1, L⟩
    walk_at "cr.n"
    rw [ebd]
    clear ebd
    refine s_seq ?_
    refine s_cutG [8] (fun f H' => ∃ v n d c, f 8 = some v ∧ Dl K H' n v d ∧ ChkD K T.a_FORMS d c ∧ (bd = true → c = .inr 1) ∧ (bd = false → ∃ e, c = .inl e ∧ Dt K H' v (dE e) ∧ EntIn Nm Nm 400 e) ∧ LI K T.C_Book T.C_Till T.tP H' b l ph pt pr ys zs A B B.rows ws) (fun N' hN' => ?_) ?_
    · cases bd with
      | false =>
        walk_at "cr.go"
        exact hN' _ _ rfl ⟨v1, 4, _, .inl (ek, ed, er), rfl, dt_dlE he1 hv1, ⟨rfl, he1⟩, (fun z => nomatch z), (fun _ => ⟨_, rfl, hv1, he1⟩), L⟩
      | true =>
        have hv1' : Dt K H12 v1 (.tuple (.str ek :: .int ed :: er)) := hv1
        walk_at "cr.go"
        rename_i hk0 p13 hp13
        refine s_slTlo (hv1'.mono (kt_new hp13)) (by decide) (by simp) fun y H14 s14 hy => ?_
        have hx14 : Dt K H14 (.ref p13) (.tuple [.str ek, .int 401]) := (dt_new (.cons (.str _) (.cons (.int _) .nil)) hp13).mono (kt_same s14)
        have hy : Dt K H14 y (.tuple er) := hy
        have ler : er.length ≤ 4 := by cases (he1 : EntOf Nm Nm 400 ek ed er) <;> simp
        refine s_addTG hx14 hy (by simp) (by simp only [List.length_cons, List.length_nil]; omega) fun v H15 s15 hv => ?_
        have hv : Dt K H15 v (.tuple (.str ek :: .int 401 :: er)) := hv
        refine s_gname ?_
        exact hN' _ _ rfl ⟨v, 4, _, .inr 1, rfl, dt_dlE he1 hv, ⟨ek, _, rfl, EntOf.kind he1, bad_day he1 (by decide)⟩, (fun _ => rfl), (fun z => nomatch z), ((L.same (same_new hp13)).same s14).same s15⟩
    clear hv1 he1 L
    rintro f8b H13 ⟨v1, nv, d, c, ev1, hdl, hc, c1, c2, L⟩
    walk_at "cr.n"
    rw [ev1]
    clear ev1
    refine s_seq ?_
    refine s_cutG [10] (fun f H' => ∃ v, f 10 = some v ∧ Dt K H' v (outD (putO B c)) ∧ Same H13 H') (fun N' hN' => ?_) ?_
    · have hr13 := L.hr
      walk_at "cr.go"
      refine u__law_due (by with_unfolding_all rfl) (.of hr13) L.hd hB.ok.ent (by have := hB.ok.len; omega) ?_
      cases bd with
      | true =>
        obtain rfl := c1 rfl
        exact .inl ⟨rfl, fun v H' s' hv => hN' _ _ rfl ⟨v, rfl, hv, s'⟩⟩
      | false =>
        obtain ⟨e, rfl, hve, he⟩ := c2 rfl
        refine .inr ⟨rfl, e, hve, he, fun v H' s' hv => hN' _ _ rfl ⟨v, rfl, ?_, s'⟩⟩
        rw [put_due, em, hB.nx, ← lws]
        exact hv
    rintro f10 H14 ⟨v10, e10, hv10, s14⟩
    walk_at "cr.n"
    rw [e10]
    clear e10
    have hdl14 := hdl.same s14
    have L14 := L.same s14
    have c2' : bd = false → ∃ e, c = .inl e ∧ Dt K H14 v1 (dE e) ∧ EntIn Nm Nm 400 e := fun z => by
      obtain ⟨e, h1, h2, h3⟩ := c2 z
      exact ⟨e, h1, h2.mono (kt_same s14), h3⟩
    clear c2 L hdl
    refine s_seq ?_
    refine s_cutG [] (fun f H' => ∃ A', A'.p = ap ∧ Dt K H' v10 (outD (putO B c)) ∧ (bd = false → ∃ e, c = .inl e ∧ Dt K H' v1 (dE e) ∧ EntIn Nm Nm 400 e) ∧ LI K T.C_Book T.C_Till T.tP H' b l ph pt pr ys zs A' (tryB B c) B.rows ws) (fun N' hN' => ?_) ?_
    · walk_at "cr.go"
      refine u__law_try (by rw [eA]; rfl) L14.bk hB.ok hdl14 hc (by have := hB.pl; have := hB.ok.len; omega) (by have := hB.dl; have := hB.ok.len; omega) fun v A' H15 kA hb15 ep fA hv => ?_
      have L15 := L14.deed kA hb15 fA
      have kt := L14.bk.kt kA.n
      refine s_v10 ?_
      refine s_neDr hv (hv10.mono kt) (lay_out _) (by decide) ?_
      walk_at "cr.go"
      exact hN' _ _ rfl ⟨A', ep.trans eA, hv10.mono kt, fun z => by
        obtain ⟨e, h1, h2, h3⟩ := c2' z
        exact ⟨e, h1, h2.mono kt, h3⟩, L15⟩
    clear hv10 s14 hdl14 L14 c2' hc
    rintro _ H15 ⟨A', eA', hv10, c2, L15⟩
    walk_at "cr.n"
    refine s_seq ?_
    refine s_cutG [8] (fun f H' => ∃ B' ws', B'.most = mny ∧ BOk B' ∧ LI K T.C_Book T.C_Till T.tP H' b l ph pt pr ys zs A' B' B'.rows ws') (fun N' hN' => ?_) ?_
    · cases eo : putO B c with
      | bad j =>
        rw [eo] at hv10
        have hv10 : Dt K H15 v10 (.tuple [.str "bad", .int j]) := hv10
        rw [tryB_no (fun n z => by rw [eo] at z; cases z)] at L15
        walk_at "cr.go"
        exact hN' _ _ rfl ⟨B, ws, em, hB, L15⟩
      | full m =>
        rw [eo] at hv10
        have hv10 : Dt K H15 v10 (.tuple [.str "full", .int m]) := hv10
        rw [tryB_no (fun n z => by rw [eo] at z; cases z)] at L15
        walk_at "cr.go"
        exact hN' _ _ rfl ⟨B, ws, em, hB, L15⟩
      | twice k =>
        rw [eo] at hv10
        have hv10 : Dt K H15 v10 (.tuple [.str "twice", .int k]) := hv10
        rw [tryB_no (fun n z => by rw [eo] at z; cases z)] at L15
        walk_at "cr.go"
        exact hN' _ _ rfl ⟨B, ws, em, hB, L15⟩
      | num nn =>
        rw [eo] at hv10
        have hv10 : Dt K H15 v10 (.tuple [.str "number", .int nn]) := hv10
        have hbd : bd = false := by
          cases bd with
          | false => rfl
          | true => rw [c1 rfl] at eo; cases eo
        obtain ⟨⟨ek, ed, er⟩, rfl, hv1, he⟩ := c2 hbd
        have hfull : ¬ B.most ≤ B.rows.length := fun z => by rw [put_full z] at eo; cases eo
        have hnn : nn = B.nx := by
          cases hk : freeF B.rows (frmE (ek, ed, er)) none with
          | some k => rw [put_twice hfull hk] at eo; cases eo
          | none => rw [put_num hfull hk] at eo; cases eo; rfl
        subst hnn
        rw [tryB_num eo] at L15
        have hv1' : Dt K H15 v1 (.tuple (.str ek :: .int ed :: er)) := hv1
        have hsk : SeqAt.shaped (.str ek) = true := (lay_str (n := 0) (kind_txt (EntOf.kind he))).sh
        have he' : EntOf Nm Nm 400 ek ed er := he
        have hBe := hB.ent (e := frmE (ek, ed, er)) (form_ent he) hfull
        have fin : ∀ v H' pq, Same H15 H' → Dt K H' v (dE (frmE (ek, ed, er))) → H' pq = none → N' [some (.ref a), some (.ref b), some (.ref ph), some (.ref pt), some (.int mny), some (.ref ap), some (.ref pr), some (.int (0 + ↑n)), some v, some (.bl bd), some v10, g 11, g 12] (upd (upd H' pq (.tup [.int B.nx, v])) pr (.lst (ws ++ [.ref pq]))) := fun v H' pq s' hv hq => by
          have L16 := (L15.same s').same (same_new (o := .tup [.int B.nx, v]) hq)
          exact hN' _ _ rfl ⟨entB B (frmE (ek, ed, er)), ws ++ [.ref pq], em, hBe, L16.push (p := (B.nx, frmE (ek, ed, er))) (dt_new (.cons (.int _) (.cons hv .nil)) hq)⟩
        walk_at "cr.go"
        refine s_iteD (fun hm => ?_) (fun hm => ?_)
        · obtain ⟨ps, rfl, hps⟩ := mix_ps he' hm
          have hlen8 : (ps.map fun p => PyData.tuple [.str p.1, .int p.2]).length ≤ 1000 := by rw [List.length_map]; have := hps.l1; omega
          walk_at "cr.go"
          refine s_slThi (hi := 2) hv1' (by decide) (by show (2 : Int) < 3; decide) fun v2 H16 s16 hv2 => ?_
          have hP1 := hv1'.mono (kt_same s16)
          have hv10b := hv10.mono (kt_same s16)
          have hv2 : Dt K H16 v2 (.tuple [.str ek, .int ed]) := hv2
          clear hv1' hv1
          have hr15 := L15.hr
          have lsz : ws.length < sizeLine := room5 (by have := hB.ok.len; omega)
          walk_at "cr.go"
          rename_i v3 hv3
          refine s_sortT hv3 (ps_alike ps) (ps_sortable ps) (ps_depth ps) hlen8 fun p2 ys2 hp2 hys2 => ?_
          have hv2b := hv2.mono (kt_new (o := .lst ys2) hp2)
          have hv10c := hv10b.mono (kt_new (o := .lst ys2) hp2)
          have hr2 := same_new (o := .lst ys2) hp2 _ _ (s16 _ _ hr15)
          have s17 := s16.trans (same_new (o := .lst ys2) hp2)
          clear hv2 hv3 hP1 hr15
          walk_at "cr.go"
          rename_i pq hpq
          refine fin _ _ pq (by walk_at "cr.sm") ?_ hpq
          subst hm
          rw [show frmE ("mix", ed, [pairsD ps]) = (("mix", ed, [pairsD (sortP ps)]) : E3) by unfold frmE; rw [formR_mix]]
          show Dt K _ _ (.tuple [.str "mix", .int ed, .tuple ((sortP ps).map fun p => PyData.tuple [.str p.1, .int p.2])])
          rw [← sortP_D]
          assumption
        · have hr15 := L15.hr
          have lsz : ws.length < sizeLine := room5 (by have := hB.ok.len; omega)
          walk_at "cr.go"
          rename_i pq hpq
          refine fin v1 H15 pq (Same.refl _) ?_ hpq
          show Dt K H15 v1 (dE (ek, ed, formR ek er))
          rw [formR_other hm]
          exact hv1
    clear hv10 c2 c1 L15
    rintro _ H16 ⟨B', ws', em', hB', L⟩
    walk_at "cr.n"
    subst eA'
    have lwr : ws'.length = B'.rows.length := by rw [L.hd.len, List.length_map]
    have hz60 := hB'.ok.len
    refine s_seq ?_
    refine s_cutG [11] (fun f H' => ∃ lf yf, f 11 = some (.ref lf) ∧ H' lf = some (.lst yf) ∧ DtAll K H' yf (B'.rows.map rowD) ∧ (∀ y, y ∈ [b, l, ph, pt, pr] ∨ y ∈ A'.all → y ≠ lf) ∧ LI K T.C_Book T.C_Till T.tP H' b l ph pt pr ys zs A' B' B'.rows ws') (fun N' hN' => ?_) ?_
    · have hp := L.bk.hp
      walk_at "cr.go"
      refine u_Book_known rfl L.bk L.tab (v := .non) (i := B'.rows.length) (.inl ⟨rfl, hB'.pl.symm⟩) hB'.last ⟨_, hB'.ok⟩ fun lf yf H17 ex t1 fl hl hd => ?_
      walk_at "cr.go"
      exact hN' _ _ rfl ⟨lf, yf, rfl, hl, hd, L.ne fl, L.ext ex t1⟩
    clear L
    rintro f11 H17 ⟨lf, yf, e11, hlf, hdf, nlf, L⟩
    walk_at "cr.n"
    rw [e11]
    clear e11
    refine s_seq ?_
    refine s_cutG [12] (fun f H' => H' lf = some (.lst yf) ∧ LI K T.C_Book T.C_Till T.tP H' b l ph pt pr ys zs A' B' B'.rows ws') (fun N' hN' => ?_) ?_
    · have hp := L.bk.hp
      walk_at "cr.go"
      refine s_neLr (.of hlf) (.of L.hr) hdf L.hd (lay_rows hB'.ok.ent) (by decide) ?_
      walk_at "cr.go"
      refine u_Book_entries rfl L.bk L.tab (v := .non) (i := B'.rows.length) (.inl ⟨rfl, hB'.pl.symm⟩) hB'.last ⟨_, hB'.ok⟩ fun le ye H18 ex t1 fl hl he => ?_
      have L18 := L.ext ex t1
      have hlf18 := ex _ _ hlf (fun ps z => nomatch z)
      have hr18 := L18.hr
      clear hp L hlf hdf
      walk_at "cr.go"
      refine c_listS (fun H v (p : Row) => Dt K H v (rowD p)) (fun H (p : Row) v => Dt K H v (dE p.2)) (fun _ _ _ _ k h => h.mono k.kt) (fun _ _ _ _ k h => h.mono k.kt) (.of hr18) (rows_a2 L18.hd) (by omega) ?_ ?_
      · rintro x ⟨m, k, d, rest⟩ A1 N hm hP hS hN
        have hP : Dt K A1 x (.tuple [.int m, dE (k, d, rest)]) := hP
        walk_at "cr.n"
        refine ⟨rfl, ?_⟩
        walk_at "cr.go"
        exact hN _ _ (Same.refl _) (by assumption)
      · intro p ys2 A1 hS hp2 hA h2
        walk_at "cr.n"
        refine s_neLr (.of (hS _ _ hl)) (.of hA) (EntsAt.daQ (EntsAt.mono (kt_same hS) he)) (EntsAt.daQ (ents_rows h2)) (lay_entsQ fun e he => by
          obtain ⟨p, hp, rfl⟩ := List.mem_map.mp he
          exact hB'.ok.ent p hp) (by decide) ?_
        walk_at "cr.go"
        exact hN' _ _ rfl ⟨hS _ _ hlf18, L18.same hS⟩
    clear L hlf
    rintro _ H18 ⟨hlf, L⟩
    walk_at "cr.n"
    refine s_seq ?_
    refine s_cutG [] (fun f H' => LI K T.C_Book T.C_Till T.tP H' b l ph pt pr ys zs A' B' B'.rows ws') (fun N' hN' => ?_) ?_
    · have lsz : yf.length < sizeLine := room5 (by have := hdf.len; rw [List.length_map] at this; omega)
      walk_at "cr.go"
      exact hN' _ _ rfl (L.mut nlf hlf)
    clear L hlf hdf nlf
    intro _ H19 L
    walk_at "cr.n"
    refine s_seq ?_
    refine s_cutG [] (fun f H' => LI K T.C_Book T.C_Till T.tP H' b l ph pt pr ys zs A' B' B'.rows ws') (fun N' hN' => ?_) ?_
    · have hp := L.bk.hp
      walk_at "cr.go"
      refine u_Book_entries rfl L.bk L.tab (v := .non) (i := B'.rows.length) (.inl ⟨rfl, hB'.pl.symm⟩) hB'.last ⟨_, hB'.ok⟩ fun le ye H20 ex t1 fl hl he => ?_
      have lsz : ye.length < sizeLine := room5 (by have := A2.len he; rw [List.length_map] at this; omega)
      have L20 := (L.ext ex t1).mut (zs' := ye ++ [.non]) (L.ne fl) hl
      clear L hp ex
      walk_at "cr.go"
      exact hN' _ _ rfl L20
    clear L
    intro _ H20 L
    walk_at "cr.n"
    refine s_seq ?_
    refine s_cutG [] (fun f H' => LI K T.C_Book T.C_Till T.tP H' b l ph pt pr ys zs A' B' B'.rows ws') (fun N' hN' => ?_) ?_
    · have hp := L.bk.hp
      have hbk := L.bk
      have hr20 := L.hr
      have ept : (B'.past.length : Int) - 1 = (B'.rows.length : Int) := by rw [hB'.pl]; omega
      walk_at "cr.go"
      rw [lwr, decide_eq_true rfl]
      walk_at "cr.go"
      rw [ept, lwr, decide_eq_true rfl]
      walk_at "cr.go"
      refine u_Book_known rfl L.bk L.tab (v := .non) (i := B'.rows.length) (.inl ⟨rfl, hB'.pl.symm⟩) hB'.last ⟨_, hB'.ok⟩ fun lf2 yf2 H21 ex t1 fl hl hd => ?_
      have L21 := L.ext ex t1
      clear L hp hbk hr20 ex
      walk_at "cr.go"
      refine s_neLr (.of hl) (.of L21.hr) hd L21.hd (lay_rows hB'.ok.ent) (by decide) ?_
      walk_at "cr.go"
      exact hN' _ _ rfl L21
    clear L
    intro _ H21 L
    walk_at "cr.n"
    have hp := L.bk.hp
    have hr21 := L.hr
    walk_at "cr.go"
    rw [lwr]
    refine s_iteD (fun hm => ?_) (fun hm => ?_)
    · have hbk := L.bk
      walk_at "cr.go"
      refine u_Book_twin rfl hbk (by have := hB'.pl; omega) (by have := hB'.dl; omega) (by rw [hB'.ul]; exact Nat.zero_le _) fun At Ht st ft ht => ?_
      walk_at "cr.go"
      rename_i p22 hp22
      have heR : EntOf Nm Nm 400 "rate" 400 [.int 5] := .rate (by decide) (by decide) (by decide) (by decide)
      have hdR : Dt K (upd Ht p22 (.tup [.str "rate", .int 400, .int 5])) (.ref p22) (.tuple [.str "rate", .int 400, .int 5]) := dt_new (.cons (.str _) (.cons (.int _) (.cons (.int _) .nil))) hp22
      refine u__law_try rfl (ht.new hp22) hB'.ok (dt_dlE heR hdR) (c := .inl ("rate", 400, [.int 5])) ⟨rfl, heR⟩ (by have := hB'.pl; omega) (by have := hB'.dl; omega) fun v A3 H23 kA hb3 ep fA hv => ?_
      rw [put_full (by rw [em']; exact hm), em'] at hv
      have L23 := L.twin (st.trans (same_new hp22)) (ht.new hp22) ft kA
      clear L hp hr21 hbk ht hdR hp22
      walk_at "cr.go"
      rename_i p24 hp24
      refine s_neDr (hv.mono (kt_new hp24)) (dt_new (.cons (.str _) (.cons (.int _) .nil)) hp24) (lay_out (.full mny)) (by decide) ?_
      walk_at "cr.go"
      exact ⟨i_of rfl, A', B', ws', rfl, em', hB', L23.same (same_new hp24)⟩
    · walk_at "cr.go"
      exact ⟨i_of rfl, A', B', ws', rfl, em', hB', L⟩
  · rintro g H9 ⟨A1, B1, ws, eA1, em, hB1, L⟩
    clear L8
    walk_at "cr.n"
    walk_at "cr.go"
    rename_i A2 H10 s10 f10 hb10
    have L10 := L.book s10 hb10 f10
    clear L s10 f10 hb10 hB1
    generalize eA2 : A2.p = ap2 at *
    refine r_each [7] (fun n H' => ∃ A B, A.p = ap2 ∧ B.most = 60 ∧ B.rows.length = n ∧ BOk B ∧ LI K T.C_Book T.C_Till T.tP H' b l ph pt pr ys zs A B B1.rows ws) ⟨A2, newB 60, eA2, rfl, rfl, bok_new (by decide), L10⟩ rfl ?_ ?_
    · rintro n g2 H11 hn ⟨A, B, eA, em, en, hB, L⟩
      subst eA
      have hp := L.bk.hp
      have hh := L.hh
      have hn60 : n < 60 := hn
      walk_at "cr.n"
      walk_at "cr.go"
      have e0 : (0 : Int) + (n : Int) = (n : Int) := Int.zero_add _
      rw [e0]
      have hm2' : ((n : Int)).fmod 2 = ((n % 2 : Nat) : Int) := by rw [Int.fmod_eq_emod_of_nonneg _ (by decide)]; rfl
      rw [hm2']
      refine str_at hh (by omega) (by rw [hl2]; omega) fun j hj _ => ?_
      have hnj : Nm ys[j] := hm2 _ (List.getElem_mem hj)
      generalize ys[j] = nm at hnj
      walk_at "cr.go"
      rename_i p12 hp12
      have heC : EntOf Nm Nm 400 "come" (n : Int) [.str nm, .int (1 + (n : Int))] := .come (by omega) (by omega) hnj (by omega) (by omega)
      have hdC : Dt K (upd H11 p12 (.tup [.str "come", .int (n : Int), .str nm, .int (1 + (n : Int))])) (.ref p12) (.tuple [.str "come", .int (n : Int), .str nm, .int (1 + (n : Int))]) := dt_new (.cons (.str _) (.cons (.int _) (.cons (.str _) (.cons (.int _) .nil)))) hp12
      have L12 := L.same (same_new (o := .tup [.str "come", .int (n : Int), .str nm, .int (1 + (n : Int))]) hp12)
      have nfull : ¬ B.most ≤ B.rows.length := by rw [em, en]; omega
      have nofree : freeF B.rows (frmE ("come", (n : Int), [.str nm, .int (1 + (n : Int))])) none = none := free_none fun p _ => hit_no fun z => z.1 (by rw [slot_frm]; show slotD _ _ _ = _; unfold slotD; rw [show slotN "come" = none by decide +kernel])
      have epn : putO B (.inl ("come", (n : Int), [.str nm, .int (1 + (n : Int))])) = .num B.nx := put_num nfull nofree
      refine u_Book_enterX rfl L12.bk hB.ok (dt_dlE heC hdC) (c := .inl ("come", (n : Int), [.str nm, .int (1 + (n : Int))])) ⟨rfl, heC⟩ (by have := hB.pl; omega) (by have := hB.dl; omega) (by rw [epn]; exact True.intro) fun e ec _ A' H13 kA hb13 ep fA => ?_
      cases ec
      have L13 := L12.deed kA hb13 fA
      have enx : B.nx = (n : Int) + 1 := by rw [hB.nx, en]
      walk_at "cr.go"
      rw [decide_eq_true enx]
      walk_at "cr.go"
      exact ⟨i_of rfl, A', entB B (frmE ("come", (n : Int), [.str nm, .int (1 + (n : Int))])), ep, em, by show (B.rows ++ [_]).length = n + 1; rw [List.length_append, en]; rfl, hB.ent (e := frmE ("come", (n : Int), [.str nm, .int (1 + (n : Int))])) (form_ent heC) nfull, L13⟩
    · rintro g2 H11 ⟨A, B, eA, em, en, hB, L⟩
      subst eA
      have en : B.rows.length = 60 := en
      walk_at "cr.n"
      walk_at "cr.go"
      rename_i p12 hp12
      have heH : EntOf Nm Nm 400 "harvest" 3 [] := .harvest (by decide) (by decide)
      have hdH : Dt K (upd H11 p12 (.tup [.str "harvest", .int 3])) (.ref p12) (.tuple [.str "harvest", .int 3]) := dt_new (.cons (.str _) (.cons (.int _) .nil)) hp12
      have L12 := L.same (same_new (o := .tup [.str "harvest", .int 3]) hp12)
      refine u__law_try rfl L12.bk hB.ok (dt_dlE heH hdH) (c := .inl ("harvest", 3, [])) ⟨rfl, heH⟩ (by have := hB.pl; omega) (by have := hB.dl; omega) fun v A3 H13 kA hb13 ep fA hv => ?_
      rw [put_full (by rw [em, en]; decide), em] at hv
      have L13 := L12.deed kA hb13 fA
      clear L L12 hdH hp12 hb13 kA fA
      walk_at "cr.go"
      rename_i p14 hp14
      have L14 := L13.same (same_new (o := .tup [.str "full", .int 60]) hp14)
      refine s_eqDr (hv.mono (kt_new hp14)) (dt_new (.cons (.str _) (.cons (.int _) .nil)) hp14) (lay_out (.full 60)) (by decide) ?_
      clear L13 hv hp14
      walk_at "cr.go"
      rename_i A4 H15 s15 f15 hb15
      refine u_BookU_lenU hb15 (by show 0 ≤ 1000000; decide) ?_
      show tC (V.int 0) _ _ _
      refine s_c ?_
      refine s_eqII ?_
      refine ⟨_, rfl, ?_⟩
      rw [if_pos rfl]
      have L15 := L14.same s15
      clear hb15 f15 s15 L14
      walk_at "cr.go"
      rename_i A5 H16 s16 f16 hb16
      have L16 := L15.book s16 hb16 f16
      have hp := hb16.hp
      walk_at "cr.go"
      refine u_Book_known rfl hb16 L16.tab (v := .non) (i := 0) (rows := []) (.inl ⟨rfl, rfl⟩) rfl ⟨1, .nil, (fun e h => nomatch h), (fun e h => nomatch h), Nat.zero_le _⟩ fun lf yf H17 ex t1 fl hl hd => ?_
      cases hd
      clear hp hb16 L16 L15 s16 f16
      walk_at "cr.go"
      rename_i p18 hp18
      refine s_eqLr (n := 0) (.of (same_new hp18 _ _ hl)) (.of upd_same) .nil .nil (fun d hd => nomatch hd) (by decide) ?_
      exact q _

end
open He in
theorem all_mk {l : PySem.W.OpenLaw} {w : World} {K : PySem.W.Frag} {h : Heap} {mg : Str → Option Value} {fa : Addr} (X : K.In h) (G : h.Ns mainGlobals mg) (hfa : mg "law" = some (.ref fa)) (c : SaysP fnL tsL tfL exL w h K) :
    LamX.LawAtS l w K (L2.CX l.prog w) 10 63 "_law_script" mg fa h := by
  have x_0 : PySem.W.nsIn K mainGlobals "len" = some none := of_decide_eq_true (c.fact 0 (f := e_0) rfl)
  have x_1 : PySem.W.nsIn K mainGlobals "all" = some none := of_decide_eq_true (c.fact 1 (f := e_1) rfl)
  have x_2 : PySem.W.nsIn K mainGlobals "isinstance" = some none := of_decide_eq_true (c.fact 2 (f := e_2) rfl)
  have x_3 : PySem.W.nsIn K mainGlobals "str" = some none := of_decide_eq_true (c.fact 3 (f := e_3) rfl)
  have x_4 : PySem.W.nsIn K mainGlobals "bool" = some none := of_decide_eq_true (c.fact 4 (f := e_4) rfl)
  have x_5 : PySem.W.nsIn K mainGlobals "int" = some none := of_decide_eq_true (c.fact 5 (f := e_5) rfl)
  have x_6 : PySem.W.nsIn K mainGlobals "tuple" = some none := of_decide_eq_true (c.fact 6 (f := e_6) rfl)
  have x_7 : PySem.W.nsIn K mainGlobals "enumerate" = some none := of_decide_eq_true (c.fact 7 (f := e_7) rfl)
  have x_8 : PySem.W.nsIn K mainGlobals "sorted" = some none := of_decide_eq_true (c.fact 8 (f := e_8) rfl)
  have x_9 : PySem.W.nsIn K mainGlobals "dict" = some none := of_decide_eq_true (c.fact 9 (f := e_9) rfl)
  have x_10 : PySem.W.nsIn K mainGlobals "list" = some none := of_decide_eq_true (c.fact 10 (f := e_10) rfl)
  have x_11 : PySem.W.nsIn K mainGlobals "range" = some none := of_decide_eq_true (c.fact 11 (f := e_11) rfl)
  obtain ⟨t_MOST, c_MOST⟩ := intB_ok (c.fact 12 (f := e_12) rfl)
  obtain ⟨t_LETTERS, c_LETTERS⟩ := strB_ok (c.fact 13 (f := e_13) rfl)
  obtain ⟨t_LAST, c_LAST⟩ := intB_ok (c.fact 14 (f := e_14) rfl)
  obtain ⟨t_MOST_PRICE, c_MOST_PRICE⟩ := intB_ok (c.fact 15 (f := e_15) rfl)
  obtain ⟨t_MOST_SUM, c_MOST_SUM⟩ := intB_ok (c.fact 16 (f := e_16) rfl)
  obtain ⟨t_WHOLE, c_WHOLE⟩ := intB_ok (c.fact 17 (f := e_17) rfl)
  have x_18 : PySem.W.nsIn K mainGlobals "FORMS" = some (some (.ref (He.ga K "FORMS"))) := of_decide_eq_true (c.fact 18 (f := e_18) rfl)
  have x_19 : PySem.W.nsIn K mainGlobals "SLOTS" = some (some (.ref (He.ga K "SLOTS"))) := of_decide_eq_true (c.fact 19 (f := e_19) rfl)
  have x_20 : PySem.W.typeIn K (.ref (He.ga K "BadEntry")) = some (.type "type") := of_decide_eq_true (c.fact 20 (f := e_20) rfl)
  have x_21 : PySem.W.exmOne K (.ref (He.ga K "BadEntry")) (.ref (He.ga K "BadEntry")) = some true := of_decide_eq_true (c.fact 21 (f := e_21) rfl)
  have x_22 : PySem.W.typeIn K (.ref (He.ga K "Twice")) = some (.type "type") := of_decide_eq_true (c.fact 22 (f := e_22) rfl)
  have x_23 : PySem.W.exmOne K (.ref (He.ga K "Twice")) (.ref (He.ga K "Twice")) = some true := of_decide_eq_true (c.fact 23 (f := e_23) rfl)
  have x_24 : PySem.W.typeIn K (.ref (He.ga K "Full")) = some (.type "type") := of_decide_eq_true (c.fact 24 (f := e_24) rfl)
  have x_25 : PySem.W.exmOne K (.ref (He.ga K "Full")) (.ref (He.ga K "Full")) = some true := of_decide_eq_true (c.fact 25 (f := e_25) rfl)
  have x_26 : PySem.W.typeIn K (.ref (He.ga K "NoTurn")) = some (.type "type") := of_decide_eq_true (c.fact 26 (f := e_26) rfl)
  have x_27 : PySem.W.exmOne K (.ref (He.ga K "NoTurn")) (.ref (He.ga K "NoTurn")) = some true := of_decide_eq_true (c.fact 27 (f := e_27) rfl)
  have x_28 : PySem.W.exmOne K (.ref (He.ga K "Full")) (.ref (He.ga K "BadEntry")) = some false := of_decide_eq_true (c.fact 28 (f := e_28) rfl)
  have x_29 : PySem.W.exmOne K (.ref (He.ga K "Twice")) (.ref (He.ga K "BadEntry")) = some false := of_decide_eq_true (c.fact 29 (f := e_29) rfl)
  have x_30 : PySem.W.exmOne K (.ref (He.ga K "Twice")) (.ref (He.ga K "Full")) = some false := of_decide_eq_true (c.fact 30 (f := e_30) rfl)
  obtain ⟨fd_TillU_initU, D_TillU_initU⟩ := c.def_ 0 (d := dd_TillU_initU) rfl
  have F_TillU_initU : Fun K "__init__" "Till.__init__" s_TillU_initU (He.ma K (He.ga K "Till") "__init__") fd_TillU_initU := fun_ofD D_TillU_initU
  obtain ⟨fd_BookU_initU, D_BookU_initU⟩ := c.def_ 1 (d := dd_BookU_initU) rfl
  have F_BookU_initU : FunD K "__init__" "Book.__init__" (defArgs s_BookU_initU) (defBody s_BookU_initU) (defScope s_BookU_initU) [] [("most", V.int 60)] (He.ma K (He.ga K "Book") "__init__") fd_BookU_initU := D_BookU_initU
  obtain ⟨fd_BookU_lenU, D_BookU_lenU⟩ := c.def_ 2 (d := dd_BookU_lenU) rfl
  have F_BookU_lenU : Fun K "__len__" "Book.__len__" s_BookU_lenU (He.ma K (He.ga K "Book") "__len__") fd_BookU_lenU := fun_ofD D_BookU_lenU
  obtain ⟨fd_FullU_initU, D_FullU_initU⟩ := c.def_ 3 (d := dd_FullU_initU) rfl
  have F_FullU_initU : Fun K "__init__" "Full.__init__" s_FullU_initU (He.ma K (He.ga K "Full") "__init__") fd_FullU_initU := fun_ofD D_FullU_initU
  obtain ⟨fd_BadEntryU_initU, D_BadEntryU_initU⟩ := c.def_ 4 (d := dd_BadEntryU_initU) rfl
  have F_BadEntryU_initU : Fun K "__init__" "BadEntry.__init__" s_BadEntryU_initU (He.ma K (He.ga K "BadEntry") "__init__") fd_BadEntryU_initU := fun_ofD D_BadEntryU_initU
  obtain ⟨fd_is_name, D_is_name⟩ := c.def_ 5 (d := dd_is_name) rfl
  have F_is_name : Fun K "is_name" "is_name" s_is_name (He.ga K "is_name") fd_is_name := fun_ofD D_is_name
  have x_31 : PySem.W.nsIn K mainGlobals "is_name" = some (some (.ref (He.ga K "is_name"))) := of_decide_eq_true (c.fact 31 (f := e_31) rfl)
  obtain ⟨fd_is_whole, D_is_whole⟩ := c.def_ 6 (d := dd_is_whole) rfl
  have F_is_whole : Fun K "is_whole" "is_whole" s_is_whole (He.ga K "is_whole") fd_is_whole := fun_ofD D_is_whole
  have x_32 : PySem.W.nsIn K mainGlobals "is_whole" = some (some (.ref (He.ga K "is_whole"))) := of_decide_eq_true (c.fact 32 (f := e_32) rfl)
  obtain ⟨fd_is_day, D_is_day⟩ := c.def_ 7 (d := dd_is_day) rfl
  have F_is_day : Fun K "is_day" "is_day" s_is_day (He.ga K "is_day") fd_is_day := fun_ofD D_is_day
  have x_33 : PySem.W.nsIn K mainGlobals "is_day" = some (some (.ref (He.ga K "is_day"))) := of_decide_eq_true (c.fact 33 (f := e_33) rfl)
  obtain ⟨fd_is_price, D_is_price⟩ := c.def_ 8 (d := dd_is_price) rfl
  have F_is_price : Fun K "is_price" "is_price" s_is_price (He.ga K "is_price") fd_is_price := fun_ofD D_is_price
  have x_34 : PySem.W.nsIn K mainGlobals "is_price" = some (some (.ref (He.ga K "is_price"))) := of_decide_eq_true (c.fact 34 (f := e_34) rfl)
  obtain ⟨fd_is_sum, D_is_sum⟩ := c.def_ 9 (d := dd_is_sum) rfl
  have F_is_sum : Fun K "is_sum" "is_sum" s_is_sum (He.ga K "is_sum") fd_is_sum := fun_ofD D_is_sum
  have x_35 : PySem.W.nsIn K mainGlobals "is_sum" = some (some (.ref (He.ga K "is_sum"))) := of_decide_eq_true (c.fact 35 (f := e_35) rfl)
  obtain ⟨fd_is_parts, D_is_parts⟩ := c.def_ 10 (d := dd_is_parts) rfl
  have F_is_parts : Fun K "is_parts" "is_parts" s_is_parts (He.ga K "is_parts") fd_is_parts := fun_ofD D_is_parts
  have x_36 : PySem.W.nsIn K mainGlobals "is_parts" = some (some (.ref (He.ga K "is_parts"))) := of_decide_eq_true (c.fact 36 (f := e_36) rfl)
  obtain ⟨fd_is_rate, D_is_rate⟩ := c.def_ 11 (d := dd_is_rate) rfl
  have F_is_rate : Fun K "is_rate" "is_rate" s_is_rate (He.ga K "is_rate") fd_is_rate := fun_ofD D_is_rate
  have x_37 : PySem.W.nsIn K mainGlobals "is_rate" = some (some (.ref (He.ga K "is_rate"))) := of_decide_eq_true (c.fact 37 (f := e_37) rfl)
  obtain ⟨fd_is_levy, D_is_levy⟩ := c.def_ 12 (d := dd_is_levy) rfl
  have F_is_levy : Fun K "is_levy" "is_levy" s_is_levy (He.ga K "is_levy") fd_is_levy := fun_ofD D_is_levy
  have x_38 : PySem.W.nsIn K mainGlobals "is_levy" = some (some (.ref (He.ga K "is_levy"))) := of_decide_eq_true (c.fact 38 (f := e_38) rfl)
  obtain ⟨fd_is_pair, D_is_pair⟩ := c.def_ 13 (d := dd_is_pair) rfl
  have F_is_pair : Fun K "is_pair" "is_pair" s_is_pair (He.ga K "is_pair") fd_is_pair := fun_ofD D_is_pair
  have x_39 : PySem.W.nsIn K mainGlobals "is_pair" = some (some (.ref (He.ga K "is_pair"))) := of_decide_eq_true (c.fact 39 (f := e_39) rfl)
  obtain ⟨fd_is_pairs, D_is_pairs⟩ := c.def_ 14 (d := dd_is_pairs) rfl
  have F_is_pairs : Fun K "is_pairs" "is_pairs" s_is_pairs (He.ga K "is_pairs") fd_is_pairs := fun_ofD D_is_pairs
  have x_40 : PySem.W.nsIn K mainGlobals "is_pairs" = some (some (.ref (He.ga K "is_pairs"))) := of_decide_eq_true (c.fact 40 (f := e_40) rfl)
  obtain ⟨fd_checked, D_checked⟩ := c.def_ 15 (d := dd_checked) rfl
  have F_checked : Fun K "checked" "checked" s_checked (He.ga K "checked") fd_checked := fun_ofD D_checked
  have x_41 : PySem.W.nsIn K mainGlobals "checked" = some (some (.ref (He.ga K "checked"))) := of_decide_eq_true (c.fact 41 (f := e_41) rfl)
  obtain ⟨fd_TwiceU_initU, D_TwiceU_initU⟩ := c.def_ 16 (d := dd_TwiceU_initU) rfl
  have F_TwiceU_initU : Fun K "__init__" "Twice.__init__" s_TwiceU_initU (He.ma K (He.ga K "Twice") "__init__") fd_TwiceU_initU := fun_ofD D_TwiceU_initU
  obtain ⟨fd_slot, D_slot⟩ := c.def_ 17 (d := dd_slot) rfl
  have F_slot : Fun K "slot" "slot" s_slot (He.ga K "slot") fd_slot := fun_ofD D_slot
  have x_42 : PySem.W.nsIn K mainGlobals "slot" = some (some (.ref (He.ga K "slot"))) := of_decide_eq_true (c.fact 42 (f := e_42) rfl)
  obtain ⟨fd_Book_free, D_Book_free⟩ := c.def_ 18 (d := dd_Book_free) rfl
  have F_Book_free : Fun K "free" "Book.free" s_Book_free (He.ma K (He.ga K "Book") "free") fd_Book_free := fun_ofD D_Book_free
  obtain ⟨fd_Book_put, D_Book_put⟩ := c.def_ 19 (d := dd_Book_put) rfl
  have F_Book_put : Fun K "put" "Book.put" s_Book_put (He.ma K (He.ga K "Book") "put") fd_Book_put := fun_ofD D_Book_put
  obtain ⟨fd_Book_granted, D_Book_granted⟩ := c.def_ 20 (d := dd_Book_granted) rfl
  have F_Book_granted : Fun K "granted" "Book.granted" s_Book_granted (He.ma K (He.ga K "Book") "granted") fd_Book_granted := fun_ofD D_Book_granted
  obtain ⟨fd_Book_enter, D_Book_enter⟩ := c.def_ 21 (d := dd_Book_enter) rfl
  have F_Book_enter : Fun K "enter" "Book.enter" s_Book_enter (He.ma K (He.ga K "Book") "enter") fd_Book_enter := fun_ofD D_Book_enter
  obtain ⟨fd_Book_turns, D_Book_turns⟩ := c.def_ 22 (d := dd_Book_turns) rfl
  have F_Book_turns : Fun K "turns" "Book.turns" s_Book_turns (He.ma K (He.ga K "Book") "turns") fd_Book_turns := fun_ofD D_Book_turns
  obtain ⟨fd_NoTurnU_initU, D_NoTurnU_initU⟩ := c.def_ 23 (d := dd_NoTurnU_initU) rfl
  have F_NoTurnU_initU : Fun K "__init__" "NoTurn.__init__" s_NoTurnU_initU (He.ma K (He.ga K "NoTurn") "__init__") fd_NoTurnU_initU := fun_ofD D_NoTurnU_initU
  obtain ⟨fd_Book_known, D_Book_known⟩ := c.def_ 24 (d := dd_Book_known) rfl
  have F_Book_known : FunD K "known" "Book.known" (defArgs s_Book_known) (defBody s_Book_known) (defScope s_Book_known) [V.non] [] (He.ma K (He.ga K "Book") "known") fd_Book_known := D_Book_known
  obtain ⟨fd_Book_entries, D_Book_entries⟩ := c.def_ 25 (d := dd_Book_entries) rfl
  have F_Book_entries : FunD K "entries" "Book.entries" (defArgs s_Book_entries) (defBody s_Book_entries) (defScope s_Book_entries) [V.non] [] (He.ma K (He.ga K "Book") "entries") fd_Book_entries := D_Book_entries
  obtain ⟨fd_Till_twin, D_Till_twin⟩ := c.def_ 26 (d := dd_Till_twin) rfl
  have F_Till_twin : Fun K "twin" "Till.twin" s_Till_twin (He.ma K (He.ga K "Till") "twin") fd_Till_twin := fun_ofD D_Till_twin
  obtain ⟨fd_Book_twin, D_Book_twin⟩ := c.def_ 27 (d := dd_Book_twin) rfl
  have F_Book_twin : Fun K "twin" "Book.twin" s_Book_twin (He.ma K (He.ga K "Book") "twin") fd_Book_twin := fun_ofD D_Book_twin
  obtain ⟨fd__law_bag, D__law_bag⟩ := c.def_ 28 (d := dd__law_bag) rfl
  have F__law_bag : Fun K "_law_bag" "_law_bag" s__law_bag (He.ga K "_law_bag") fd__law_bag := fun_ofD D__law_bag
  have x_43 : PySem.W.nsIn K mainGlobals "_law_bag" = some (some (.ref (He.ga K "_law_bag"))) := of_decide_eq_true (c.fact 43 (f := e_43) rfl)
  obtain ⟨fd__law_pull, D__law_pull⟩ := c.def_ 29 (d := dd__law_pull) rfl
  have F__law_pull : Fun K "_law_pull" "_law_pull" s__law_pull (He.ga K "_law_pull") fd__law_pull := fun_ofD D__law_pull
  have x_44 : PySem.W.nsIn K mainGlobals "_law_pull" = some (some (.ref (He.ga K "_law_pull"))) := of_decide_eq_true (c.fact 44 (f := e_44) rfl)
  obtain ⟨fd__law_name, D__law_name⟩ := c.def_ 30 (d := dd__law_name) rfl
  have F__law_name : Fun K "_law_name" "_law_name" s__law_name (He.ga K "_law_name") fd__law_name := fun_ofD D__law_name
  have x_45 : PySem.W.nsIn K mainGlobals "_law_name" = some (some (.ref (He.ga K "_law_name"))) := of_decide_eq_true (c.fact 45 (f := e_45) rfl)
  obtain ⟨fd__law_names, D__law_names⟩ := c.def_ 31 (d := dd__law_names) rfl
  have F__law_names : Fun K "_law_names" "_law_names" s__law_names (He.ga K "_law_names") fd__law_names := fun_ofD D__law_names
  have x_46 : PySem.W.nsIn K mainGlobals "_law_names" = some (some (.ref (He.ga K "_law_names"))) := of_decide_eq_true (c.fact 46 (f := e_46) rfl)
  obtain ⟨fd__law_wide, D__law_wide⟩ := c.def_ 32 (d := dd__law_wide) rfl
  have F__law_wide : Fun K "_law_wide" "_law_wide" s__law_wide (He.ga K "_law_wide") fd__law_wide := fun_ofD D__law_wide
  have x_47 : PySem.W.nsIn K mainGlobals "_law_wide" = some (some (.ref (He.ga K "_law_wide"))) := of_decide_eq_true (c.fact 47 (f := e_47) rfl)
  obtain ⟨fd__law_pennies, D__law_pennies⟩ := c.def_ 33 (d := dd__law_pennies) rfl
  have F__law_pennies : Fun K "_law_pennies" "_law_pennies" s__law_pennies (He.ga K "_law_pennies") fd__law_pennies := fun_ofD D__law_pennies
  have x_48 : PySem.W.nsIn K mainGlobals "_law_pennies" = some (some (.ref (He.ga K "_law_pennies"))) := of_decide_eq_true (c.fact 48 (f := e_48) rfl)
  obtain ⟨fd__law_price, D__law_price⟩ := c.def_ 34 (d := dd__law_price) rfl
  have F__law_price : Fun K "_law_price" "_law_price" s__law_price (He.ga K "_law_price") fd__law_price := fun_ofD D__law_price
  have x_49 : PySem.W.nsIn K mainGlobals "_law_price" = some (some (.ref (He.ga K "_law_price"))) := of_decide_eq_true (c.fact 49 (f := e_49) rfl)
  obtain ⟨fd__law_pairs, D__law_pairs⟩ := c.def_ 35 (d := dd__law_pairs) rfl
  have F__law_pairs : Fun K "_law_pairs" "_law_pairs" s__law_pairs (He.ga K "_law_pairs") fd__law_pairs := fun_ofD D__law_pairs
  have x_50 : PySem.W.nsIn K mainGlobals "_law_pairs" = some (some (.ref (He.ga K "_law_pairs"))) := of_decide_eq_true (c.fact 50 (f := e_50) rfl)
  obtain ⟨fd__law_entry, D__law_entry⟩ := c.def_ 36 (d := dd__law_entry) rfl
  have F__law_entry : Fun K "_law_entry" "_law_entry" s__law_entry (He.ga K "_law_entry") fd__law_entry := fun_ofD D__law_entry
  have x_51 : PySem.W.nsIn K mainGlobals "_law_entry" = some (some (.ref (He.ga K "_law_entry"))) := of_decide_eq_true (c.fact 51 (f := e_51) rfl)
  obtain ⟨fd__law_try, D__law_try⟩ := c.def_ 37 (d := dd__law_try) rfl
  have F__law_try : Fun K "_law_try" "_law_try" s__law_try (He.ga K "_law_try") fd__law_try := fun_ofD D__law_try
  have x_52 : PySem.W.nsIn K mainGlobals "_law_try" = some (some (.ref (He.ga K "_law_try"))) := of_decide_eq_true (c.fact 52 (f := e_52) rfl)
  obtain ⟨fd__law_slot, D__law_slot⟩ := c.def_ 38 (d := dd__law_slot) rfl
  have F__law_slot : Fun K "_law_slot" "_law_slot" s__law_slot (He.ga K "_law_slot") fd__law_slot := fun_ofD D__law_slot
  have x_53 : PySem.W.nsIn K mainGlobals "_law_slot" = some (some (.ref (He.ga K "_law_slot"))) := of_decide_eq_true (c.fact 53 (f := e_53) rfl)
  obtain ⟨fd__law_due, D__law_due⟩ := c.def_ 39 (d := dd__law_due) rfl
  have F__law_due : Fun K "_law_due" "_law_due" s__law_due (He.ga K "_law_due") fd__law_due := fun_ofD D__law_due
  have x_54 : PySem.W.nsIn K mainGlobals "_law_due" = some (some (.ref (He.ga K "_law_due"))) := of_decide_eq_true (c.fact 54 (f := e_54) rfl)
  obtain ⟨fd_law, D_law⟩ := c.def_ 40 (d := dd_law) rfl
  have F_law : Fun K "law" "law" s_law (He.ga K "law") fd_law := fun_ofD D_law
  have x_55 : PySem.W.nsIn K (He.ga K "FORMS") "price" = some (some (.ref (nad K (He.ga K "FORMS") "price"))) := of_decide_eq_true (c.fact 55 (f := e_55) rfl)
  have x_57 : PySem.W.nsIn K (He.ga K "FORMS") "mix" = some (some (.ref (nad K (He.ga K "FORMS") "mix"))) := of_decide_eq_true (c.fact 57 (f := e_57) rfl)
  have x_59 : PySem.W.nsIn K (He.ga K "FORMS") "come" = some (some (.ref (nad K (He.ga K "FORMS") "come"))) := of_decide_eq_true (c.fact 59 (f := e_59) rfl)
  have x_61 : PySem.W.nsIn K (He.ga K "FORMS") "go" = some (some (.ref (nad K (He.ga K "FORMS") "go"))) := of_decide_eq_true (c.fact 61 (f := e_61) rfl)
  have x_63 : PySem.W.nsIn K (He.ga K "FORMS") "draw" = some (some (.ref (nad K (He.ga K "FORMS") "draw"))) := of_decide_eq_true (c.fact 63 (f := e_63) rfl)
  have x_65 : PySem.W.nsIn K (He.ga K "FORMS") "give" = some (some (.ref (nad K (He.ga K "FORMS") "give"))) := of_decide_eq_true (c.fact 65 (f := e_65) rfl)
  have x_67 : PySem.W.nsIn K (He.ga K "FORMS") "rate" = some (some (.ref (nad K (He.ga K "FORMS") "rate"))) := of_decide_eq_true (c.fact 67 (f := e_67) rfl)
  have x_69 : PySem.W.nsIn K (He.ga K "FORMS") "harvest" = some (some (.ref (nad K (He.ga K "FORMS") "harvest"))) := of_decide_eq_true (c.fact 69 (f := e_69) rfl)
  have x_71 : PySem.W.nsIn K (He.ga K "FORMS") "aside" = some (some (.ref (nad K (He.ga K "FORMS") "aside"))) := of_decide_eq_true (c.fact 71 (f := e_71) rfl)
  have x_73 : PySem.W.nsIn K (He.ga K "FORMS") "home" = some (some (.ref (nad K (He.ga K "FORMS") "home"))) := of_decide_eq_true (c.fact 73 (f := e_73) rfl)
  have x_75 : PySem.W.nsIn K (He.ga K "FORMS") "levy" = some (some (.ref (nad K (He.ga K "FORMS") "levy"))) := of_decide_eq_true (c.fact 75 (f := e_75) rfl)
  have x_77 : PySem.W.nsIn K (He.ga K "FORMS") "hurdle" = some (some (.ref (nad K (He.ga K "FORMS") "hurdle"))) := of_decide_eq_true (c.fact 77 (f := e_77) rfl)
  have x_87 : PySem.W.nsIn K (He.ga K "SLOTS") "come" = some none := of_decide_eq_true (c.fact 87 (f := e_87) rfl)
  have x_88 : PySem.W.nsIn K (He.ga K "SLOTS") "go" = some none := of_decide_eq_true (c.fact 88 (f := e_88) rfl)
  have x_89 : PySem.W.nsIn K (He.ga K "SLOTS") "draw" = some none := of_decide_eq_true (c.fact 89 (f := e_89) rfl)
  have x_90 : PySem.W.nsIn K (He.ga K "SLOTS") "give" = some none := of_decide_eq_true (c.fact 90 (f := e_90) rfl)
  have x_91 : PySem.W.nsIn K mainGlobals "Full" = some (some (.ref (He.ga K "Full"))) := of_decide_eq_true (c.fact 91 (f := e_91) rfl)
  have x_92 : oexB K (He.ga K "Full") [.type "ValueError", .type "Exception", .type "BaseException", .type "object"] = true := of_decide_eq_true (c.fact 92 (f := e_92) rfl)
  have x_93 : PySem.W.findIn K (.ref (He.ga K "Full")) "__init__" = some (some (.ref (He.ma K (He.ga K "Full") "__init__"))) := of_decide_eq_true (c.fact 93 (f := e_93) rfl)
  have x_94 : PySem.W.typeIn K (.ref (He.ma K (He.ga K "Full") "__init__")) = some (.type "function") := of_decide_eq_true (c.fact 94 (f := e_94) rfl)
  have x_95 : PySem.W.excInitIn K (He.ga K "Full") [.type "ValueError", .type "Exception", .type "BaseException", .type "object"] "ValueError.__new__" = true := of_decide_eq_true (c.fact 95 (f := e_95) rfl)
  have x_96 : PySem.W.findIn K (.ref (He.ga K "Full")) "most" = some none := of_decide_eq_true (c.fact 96 (f := e_96) rfl)
  have x_97 : PySem.W.nsIn K mainGlobals "BadEntry" = some (some (.ref (He.ga K "BadEntry"))) := of_decide_eq_true (c.fact 97 (f := e_97) rfl)
  have x_98 : oexB K (He.ga K "BadEntry") [.type "ValueError", .type "Exception", .type "BaseException", .type "object"] = true := of_decide_eq_true (c.fact 98 (f := e_98) rfl)
  have x_99 : PySem.W.findIn K (.ref (He.ga K "BadEntry")) "__init__" = some (some (.ref (He.ma K (He.ga K "BadEntry") "__init__"))) := of_decide_eq_true (c.fact 99 (f := e_99) rfl)
  have x_100 : PySem.W.typeIn K (.ref (He.ma K (He.ga K "BadEntry") "__init__")) = some (.type "function") := of_decide_eq_true (c.fact 100 (f := e_100) rfl)
  have x_101 : PySem.W.excInitIn K (He.ga K "BadEntry") [.type "ValueError", .type "Exception", .type "BaseException", .type "object"] "ValueError.__new__" = true := of_decide_eq_true (c.fact 101 (f := e_101) rfl)
  have x_102 : PySem.W.findIn K (.ref (He.ga K "BadEntry")) "at" = some none := of_decide_eq_true (c.fact 102 (f := e_102) rfl)
  have x_103 : PySem.W.nsIn K mainGlobals "Twice" = some (some (.ref (He.ga K "Twice"))) := of_decide_eq_true (c.fact 103 (f := e_103) rfl)
  have x_104 : oexB K (He.ga K "Twice") [.type "ValueError", .type "Exception", .type "BaseException", .type "object"] = true := of_decide_eq_true (c.fact 104 (f := e_104) rfl)
  have x_105 : PySem.W.findIn K (.ref (He.ga K "Twice")) "__init__" = some (some (.ref (He.ma K (He.ga K "Twice") "__init__"))) := of_decide_eq_true (c.fact 105 (f := e_105) rfl)
  have x_106 : PySem.W.typeIn K (.ref (He.ma K (He.ga K "Twice") "__init__")) = some (.type "function") := of_decide_eq_true (c.fact 106 (f := e_106) rfl)
  have x_107 : PySem.W.excInitIn K (He.ga K "Twice") [.type "ValueError", .type "Exception", .type "BaseException", .type "object"] "ValueError.__new__" = true := of_decide_eq_true (c.fact 107 (f := e_107) rfl)
  have x_108 : PySem.W.findIn K (.ref (He.ga K "Twice")) "number" = some none := of_decide_eq_true (c.fact 108 (f := e_108) rfl)
  have x_109 : PySem.W.nsIn K mainGlobals "NoTurn" = some (some (.ref (He.ga K "NoTurn"))) := of_decide_eq_true (c.fact 109 (f := e_109) rfl)
  have x_110 : oexB K (He.ga K "NoTurn") [.type "IndexError", .type "LookupError", .type "Exception", .type "BaseException", .type "object"] = true := of_decide_eq_true (c.fact 110 (f := e_110) rfl)
  have x_111 : PySem.W.findIn K (.ref (He.ga K "NoTurn")) "__init__" = some (some (.ref (He.ma K (He.ga K "NoTurn") "__init__"))) := of_decide_eq_true (c.fact 111 (f := e_111) rfl)
  have x_112 : PySem.W.typeIn K (.ref (He.ma K (He.ga K "NoTurn") "__init__")) = some (.type "function") := of_decide_eq_true (c.fact 112 (f := e_112) rfl)
  have x_113 : PySem.W.excInitIn K (He.ga K "NoTurn") [.type "IndexError", .type "LookupError", .type "Exception", .type "BaseException", .type "object"] "IndexError.__new__" = true := of_decide_eq_true (c.fact 113 (f := e_113) rfl)
  have x_114 : PySem.W.findIn K (.ref (He.ga K "NoTurn")) "turn" = some none := of_decide_eq_true (c.fact 114 (f := e_114) rfl)
  have x_115 : PySem.W.plainGet K (He.ga K "Till") Str.empty = true := of_decide_eq_true (c.fact 115 (f := e_115) rfl)
  have x_116 : PySem.W.hasDictIn K (He.ga K "Till") = true := of_decide_eq_true (c.fact 116 (f := e_116) rfl)
  have x_117 : PySem.W.plainOver K (He.ga K "Till") = true := of_decide_eq_true (c.fact 117 (f := e_117) rfl)
  have x_118 : PySem.W.findIn K (.ref (He.ga K "Till")) "__setattr__" = some (some (.builtin "object.__setattr__")) := of_decide_eq_true (c.fact 118 (f := e_118) rfl)
  have x_119 : PySem.W.nsIn K mainGlobals "Till" = some (some (.ref (He.ga K "Till"))) := of_decide_eq_true (c.fact 119 (f := e_119) rfl)
  have x_120 : PySem.W.findIn K (.ref (He.ga K "Till")) "sums" = some none := of_decide_eq_true (c.fact 120 (f := e_120) rfl)
  have x_121 : PySem.W.isFn K (.ref (He.ma K (He.ga K "Till") "__init__")) = true := of_decide_eq_true (c.fact 121 (f := e_121) rfl)
  have x_122 : PySem.W.makesIn K (He.ga K "Till") = true := of_decide_eq_true (c.fact 122 (f := e_122) rfl)
  have x_123 : PySem.W.keepIn K (.ref (He.ga K "Till")) = true := of_decide_eq_true (c.fact 123 (f := e_123) rfl)
  have x_124 : PySem.W.findIn K (.ref (He.ga K "Till")) "__init__" = some (some (.ref (He.ma K (He.ga K "Till") "__init__"))) := of_decide_eq_true (c.fact 124 (f := e_124) rfl)
  have x_125 : PySem.W.isFn K (.ref (He.ma K (He.ga K "Till") "twin")) = true := of_decide_eq_true (c.fact 125 (f := e_125) rfl)
  have x_126 : PySem.W.findIn K (.ref (He.ga K "Till")) "twin" = some (some (.ref (He.ma K (He.ga K "Till") "twin"))) := of_decide_eq_true (c.fact 126 (f := e_126) rfl)
  have x_127 : PySem.W.plainGet K (He.ga K "Book") Str.empty = true := of_decide_eq_true (c.fact 127 (f := e_127) rfl)
  have x_128 : PySem.W.hasDictIn K (He.ga K "Book") = true := of_decide_eq_true (c.fact 128 (f := e_128) rfl)
  have x_129 : PySem.W.plainOver K (He.ga K "Book") = true := of_decide_eq_true (c.fact 129 (f := e_129) rfl)
  have x_130 : PySem.W.findIn K (.ref (He.ga K "Book")) "__setattr__" = some (some (.builtin "object.__setattr__")) := of_decide_eq_true (c.fact 130 (f := e_130) rfl)
  have x_131 : PySem.W.nsIn K mainGlobals "Book" = some (some (.ref (He.ga K "Book"))) := of_decide_eq_true (c.fact 131 (f := e_131) rfl)
  have x_132 : PySem.W.findIn K (.ref (He.ga K "Book")) "most" = some none := of_decide_eq_true (c.fact 132 (f := e_132) rfl)
  have x_133 : PySem.W.findIn K (.ref (He.ga K "Book")) "rows" = some none := of_decide_eq_true (c.fact 133 (f := e_133) rfl)
  have x_134 : PySem.W.findIn K (.ref (He.ga K "Book")) "next_number" = some none := of_decide_eq_true (c.fact 134 (f := e_134) rfl)
  have x_135 : PySem.W.findIn K (.ref (He.ga K "Book")) "past" = some none := of_decide_eq_true (c.fact 135 (f := e_135) rfl)
  have x_136 : PySem.W.findIn K (.ref (He.ga K "Book")) "done" = some none := of_decide_eq_true (c.fact 136 (f := e_136) rfl)
  have x_137 : PySem.W.findIn K (.ref (He.ga K "Book")) "undone" = some none := of_decide_eq_true (c.fact 137 (f := e_137) rfl)
  have x_138 : PySem.W.findIn K (.ref (He.ga K "Book")) "till" = some none := of_decide_eq_true (c.fact 138 (f := e_138) rfl)
  have x_139 : PySem.W.findIn K (.ref (He.ga K "Book")) "closed" = some none := of_decide_eq_true (c.fact 139 (f := e_139) rfl)
  have x_140 : PySem.W.isFn K (.ref (He.ma K (He.ga K "Book") "__init__")) = true := of_decide_eq_true (c.fact 140 (f := e_140) rfl)
  have x_141 : PySem.W.makesIn K (He.ga K "Book") = true := of_decide_eq_true (c.fact 141 (f := e_141) rfl)
  have x_142 : PySem.W.keepIn K (.ref (He.ga K "Book")) = true := of_decide_eq_true (c.fact 142 (f := e_142) rfl)
  have x_143 : PySem.W.findIn K (.ref (He.ga K "Book")) "__init__" = some (some (.ref (He.ma K (He.ga K "Book") "__init__"))) := of_decide_eq_true (c.fact 143 (f := e_143) rfl)
  have x_144 : PySem.W.isFn K (.ref (He.ma K (He.ga K "Book") "__len__")) = true := of_decide_eq_true (c.fact 144 (f := e_144) rfl)
  have x_145 : PySem.W.findIn K (.ref (He.ga K "Book")) "__len__" = some (some (.ref (He.ma K (He.ga K "Book") "__len__"))) := of_decide_eq_true (c.fact 145 (f := e_145) rfl)
  have x_146 : PySem.W.isFn K (.ref (He.ma K (He.ga K "Book") "free")) = true := of_decide_eq_true (c.fact 146 (f := e_146) rfl)
  have x_147 : PySem.W.findIn K (.ref (He.ga K "Book")) "free" = some (some (.ref (He.ma K (He.ga K "Book") "free"))) := of_decide_eq_true (c.fact 147 (f := e_147) rfl)
  have x_148 : PySem.W.isFn K (.ref (He.ma K (He.ga K "Book") "put")) = true := of_decide_eq_true (c.fact 148 (f := e_148) rfl)
  have x_149 : PySem.W.findIn K (.ref (He.ga K "Book")) "put" = some (some (.ref (He.ma K (He.ga K "Book") "put"))) := of_decide_eq_true (c.fact 149 (f := e_149) rfl)
  have x_150 : PySem.W.isFn K (.ref (He.ma K (He.ga K "Book") "granted")) = true := of_decide_eq_true (c.fact 150 (f := e_150) rfl)
  have x_151 : PySem.W.findIn K (.ref (He.ga K "Book")) "granted" = some (some (.ref (He.ma K (He.ga K "Book") "granted"))) := of_decide_eq_true (c.fact 151 (f := e_151) rfl)
  have x_152 : PySem.W.isFn K (.ref (He.ma K (He.ga K "Book") "enter")) = true := of_decide_eq_true (c.fact 152 (f := e_152) rfl)
  have x_153 : PySem.W.findIn K (.ref (He.ga K "Book")) "enter" = some (some (.ref (He.ma K (He.ga K "Book") "enter"))) := of_decide_eq_true (c.fact 153 (f := e_153) rfl)
  have x_154 : PySem.W.isFn K (.ref (He.ma K (He.ga K "Book") "turns")) = true := of_decide_eq_true (c.fact 154 (f := e_154) rfl)
  have x_155 : PySem.W.findIn K (.ref (He.ga K "Book")) "turns" = some (some (.ref (He.ma K (He.ga K "Book") "turns"))) := of_decide_eq_true (c.fact 155 (f := e_155) rfl)
  have x_156 : PySem.W.isFn K (.ref (He.ma K (He.ga K "Book") "known")) = true := of_decide_eq_true (c.fact 156 (f := e_156) rfl)
  have x_157 : PySem.W.findIn K (.ref (He.ga K "Book")) "known" = some (some (.ref (He.ma K (He.ga K "Book") "known"))) := of_decide_eq_true (c.fact 157 (f := e_157) rfl)
  have x_158 : PySem.W.isFn K (.ref (He.ma K (He.ga K "Book") "entries")) = true := of_decide_eq_true (c.fact 158 (f := e_158) rfl)
  have x_159 : PySem.W.findIn K (.ref (He.ga K "Book")) "entries" = some (some (.ref (He.ma K (He.ga K "Book") "entries"))) := of_decide_eq_true (c.fact 159 (f := e_159) rfl)
  have x_160 : PySem.W.isFn K (.ref (He.ma K (He.ga K "Book") "twin")) = true := of_decide_eq_true (c.fact 160 (f := e_160) rfl)
  have x_161 : PySem.W.findIn K (.ref (He.ga K "Book")) "twin" = some (some (.ref (He.ma K (He.ga K "Book") "twin"))) := of_decide_eq_true (c.fact 161 (f := e_161) rfl)
  have x_162 : PySem.W.nsIn K mainGlobals "law" = some (some (.ref (He.ga K "law"))) := of_decide_eq_true (c.fact 162 (f := e_162) rfl)
  have e := hfa.symm.trans (PySem.W.mg_of X G x_162)
  cases e
  have T : ∃ T : Top w K mg, T.tc = (He.cT K ("Book", some "known")).1 ∧ T.tP = (He.cT K ("Book", some "known")).2 := ⟨{
    n_len := PySem.W.mg_none_of X G x_0,
    n_all := PySem.W.mg_none_of X G x_1,
    n_isinstance := PySem.W.mg_none_of X G x_2,
    n_str := PySem.W.mg_none_of X G x_3,
    n_bool := PySem.W.mg_none_of X G x_4,
    n_int := PySem.W.mg_none_of X G x_5,
    n_tuple := PySem.W.mg_none_of X G x_6,
    n_enumerate := PySem.W.mg_none_of X G x_7,
    n_sorted := PySem.W.mg_none_of X G x_8,
    n_dict := PySem.W.mg_none_of X G x_9,
    n_list := PySem.W.mg_none_of X G x_10,
    n_range := PySem.W.mg_none_of X G x_11,
    t_MOST := t_MOST,
    c_MOST := PySem.W.mg_of X G c_MOST,
    t_LETTERS := t_LETTERS,
    c_LETTERS := PySem.W.mg_of X G c_LETTERS,
    t_LAST := t_LAST,
    c_LAST := PySem.W.mg_of X G c_LAST,
    t_MOST_PRICE := t_MOST_PRICE,
    c_MOST_PRICE := PySem.W.mg_of X G c_MOST_PRICE,
    t_MOST_SUM := t_MOST_SUM,
    c_MOST_SUM := PySem.W.mg_of X G c_MOST_SUM,
    t_WHOLE := t_WHOLE,
    c_WHOLE := PySem.W.mg_of X G c_WHOLE,
    a_FORMS := He.ga K "FORMS",
    c_FORMS := PySem.W.mg_of X G x_18,
    kd_FORMS := c.tab 0 (t := tb_FORMS) rfl,
    a_SLOTS := He.ga K "SLOTS",
    c_SLOTS := PySem.W.mg_of X G x_19,
    kd_SLOTS := c.tab 1 (t := tb_SLOTS) rfl,
    kq_tyBadEntry := x_20,
    kq_exmBadEntry := x_21,
    kq_tyTwice := x_22,
    kq_exmTwice := x_23,
    kq_tyFull := x_24,
    kq_exmFull := x_25,
    kq_tyNoTurn := x_26,
    kq_exmNoTurn := x_27,
    kq_exFB := x_28,
    kq_exTB := x_29,
    kq_exTF := x_30,
    f_TillU_initU := (He.ma K (He.ga K "Till") "__init__"),
    fd_TillU_initU := fd_TillU_initU,
    F_TillU_initU := F_TillU_initU,
    b_TillU_initU := F_TillU_initU.binds (ps := ["self"]) fun _ _ _ _ _ _ us hl => match us, hl with | [_], _ => rfl,
    k_TillU_initU := F_TillU_initU.kp,
    f_BookU_initU := (He.ma K (He.ga K "Book") "__init__"),
    fd_BookU_initU := fd_BookU_initU,
    F_BookU_initU := F_BookU_initU,
    k_BookU_initU := F_BookU_initU.kp,
    f_BookU_lenU := (He.ma K (He.ga K "Book") "__len__"),
    fd_BookU_lenU := fd_BookU_lenU,
    F_BookU_lenU := F_BookU_lenU,
    b_BookU_lenU := F_BookU_lenU.binds (ps := ["self"]) fun _ _ _ _ _ _ us hl => match us, hl with | [_], _ => rfl,
    k_BookU_lenU := F_BookU_lenU.kp,
    f_FullU_initU := (He.ma K (He.ga K "Full") "__init__"),
    fd_FullU_initU := fd_FullU_initU,
    F_FullU_initU := F_FullU_initU,
    b_FullU_initU := F_FullU_initU.binds (ps := ["self", "most"]) fun _ _ _ _ _ _ us hl => match us, hl with | [_, _], _ => rfl,
    k_FullU_initU := F_FullU_initU.kp,
    f_BadEntryU_initU := (He.ma K (He.ga K "BadEntry") "__init__"),
    fd_BadEntryU_initU := fd_BadEntryU_initU,
    F_BadEntryU_initU := F_BadEntryU_initU,
    b_BadEntryU_initU := F_BadEntryU_initU.binds (ps := ["self", "at"]) fun _ _ _ _ _ _ us hl => match us, hl with | [_, _], _ => rfl,
    k_BadEntryU_initU := F_BadEntryU_initU.kp,
    f_is_name := (He.ga K "is_name"),
    fd_is_name := fd_is_name,
    F_is_name := F_is_name,
    b_is_name := F_is_name.binds (ps := ["one"]) fun _ _ _ _ _ _ us hl => match us, hl with | [_], _ => rfl,
    k_is_name := F_is_name.kp,
    g_is_name := PySem.W.mg_of X G x_31,
    f_is_whole := (He.ga K "is_whole"),
    fd_is_whole := fd_is_whole,
    F_is_whole := F_is_whole,
    b_is_whole := F_is_whole.binds (ps := ["one", "least", "most"]) fun _ _ _ _ _ _ us hl => match us, hl with | [_, _, _], _ => rfl,
    k_is_whole := F_is_whole.kp,
    g_is_whole := PySem.W.mg_of X G x_32,
    f_is_day := (He.ga K "is_day"),
    fd_is_day := fd_is_day,
    F_is_day := F_is_day,
    b_is_day := F_is_day.binds (ps := ["one"]) fun _ _ _ _ _ _ us hl => match us, hl with | [_], _ => rfl,
    k_is_day := F_is_day.kp,
    g_is_day := PySem.W.mg_of X G x_33,
    f_is_price := (He.ga K "is_price"),
    fd_is_price := fd_is_price,
    F_is_price := F_is_price,
    b_is_price := F_is_price.binds (ps := ["one"]) fun _ _ _ _ _ _ us hl => match us, hl with | [_], _ => rfl,
    k_is_price := F_is_price.kp,
    g_is_price := PySem.W.mg_of X G x_34,
    f_is_sum := (He.ga K "is_sum"),
    fd_is_sum := fd_is_sum,
    F_is_sum := F_is_sum,
    b_is_sum := F_is_sum.binds (ps := ["one"]) fun _ _ _ _ _ _ us hl => match us, hl with | [_], _ => rfl,
    k_is_sum := F_is_sum.kp,
    g_is_sum := PySem.W.mg_of X G x_35,
    f_is_parts := (He.ga K "is_parts"),
    fd_is_parts := fd_is_parts,
    F_is_parts := F_is_parts,
    b_is_parts := F_is_parts.binds (ps := ["one"]) fun _ _ _ _ _ _ us hl => match us, hl with | [_], _ => rfl,
    k_is_parts := F_is_parts.kp,
    g_is_parts := PySem.W.mg_of X G x_36,
    f_is_rate := (He.ga K "is_rate"),
    fd_is_rate := fd_is_rate,
    F_is_rate := F_is_rate,
    b_is_rate := F_is_rate.binds (ps := ["one"]) fun _ _ _ _ _ _ us hl => match us, hl with | [_], _ => rfl,
    k_is_rate := F_is_rate.kp,
    g_is_rate := PySem.W.mg_of X G x_37,
    f_is_levy := (He.ga K "is_levy"),
    fd_is_levy := fd_is_levy,
    F_is_levy := F_is_levy,
    b_is_levy := F_is_levy.binds (ps := ["one"]) fun _ _ _ _ _ _ us hl => match us, hl with | [_], _ => rfl,
    k_is_levy := F_is_levy.kp,
    g_is_levy := PySem.W.mg_of X G x_38,
    f_is_pair := (He.ga K "is_pair"),
    fd_is_pair := fd_is_pair,
    F_is_pair := F_is_pair,
    b_is_pair := F_is_pair.binds (ps := ["one"]) fun _ _ _ _ _ _ us hl => match us, hl with | [_], _ => rfl,
    k_is_pair := F_is_pair.kp,
    g_is_pair := PySem.W.mg_of X G x_39,
    f_is_pairs := (He.ga K "is_pairs"),
    fd_is_pairs := fd_is_pairs,
    F_is_pairs := F_is_pairs,
    b_is_pairs := F_is_pairs.binds (ps := ["some"]) fun _ _ _ _ _ _ us hl => match us, hl with | [_], _ => rfl,
    k_is_pairs := F_is_pairs.kp,
    g_is_pairs := PySem.W.mg_of X G x_40,
    f_checked := (He.ga K "checked"),
    fd_checked := fd_checked,
    F_checked := F_checked,
    b_checked := F_checked.binds (ps := ["entry"]) fun _ _ _ _ _ _ us hl => match us, hl with | [_], _ => rfl,
    k_checked := F_checked.kp,
    g_checked := PySem.W.mg_of X G x_41,
    f_TwiceU_initU := (He.ma K (He.ga K "Twice") "__init__"),
    fd_TwiceU_initU := fd_TwiceU_initU,
    F_TwiceU_initU := F_TwiceU_initU,
    b_TwiceU_initU := F_TwiceU_initU.binds (ps := ["self", "number"]) fun _ _ _ _ _ _ us hl => match us, hl with | [_, _], _ => rfl,
    k_TwiceU_initU := F_TwiceU_initU.kp,
    f_slot := (He.ga K "slot"),
    fd_slot := fd_slot,
    F_slot := F_slot,
    b_slot := F_slot.binds (ps := ["entry"]) fun _ _ _ _ _ _ us hl => match us, hl with | [_], _ => rfl,
    k_slot := F_slot.kp,
    g_slot := PySem.W.mg_of X G x_42,
    f_Book_free := (He.ma K (He.ga K "Book") "free"),
    fd_Book_free := fd_Book_free,
    F_Book_free := F_Book_free,
    b_Book_free := F_Book_free.binds (ps := ["self", "entry", "number"]) fun _ _ _ _ _ _ us hl => match us, hl with | [_, _, _], _ => rfl,
    k_Book_free := F_Book_free.kp,
    f_Book_put := (He.ma K (He.ga K "Book") "put"),
    fd_Book_put := fd_Book_put,
    F_Book_put := F_Book_put,
    b_Book_put := F_Book_put.binds (ps := ["self", "entry"]) fun _ _ _ _ _ _ us hl => match us, hl with | [_, _], _ => rfl,
    k_Book_put := F_Book_put.kp,
    f_Book_granted := (He.ma K (He.ga K "Book") "granted"),
    fd_Book_granted := fd_Book_granted,
    F_Book_granted := F_Book_granted,
    b_Book_granted := F_Book_granted.binds (ps := ["self", "before"]) fun _ _ _ _ _ _ us hl => match us, hl with | [_, _], _ => rfl,
    k_Book_granted := F_Book_granted.kp,
    f_Book_enter := (He.ma K (He.ga K "Book") "enter"),
    fd_Book_enter := fd_Book_enter,
    F_Book_enter := F_Book_enter,
    b_Book_enter := F_Book_enter.binds (ps := ["self", "entry"]) fun _ _ _ _ _ _ us hl => match us, hl with | [_, _], _ => rfl,
    k_Book_enter := F_Book_enter.kp,
    f_Book_turns := (He.ma K (He.ga K "Book") "turns"),
    fd_Book_turns := fd_Book_turns,
    F_Book_turns := F_Book_turns,
    b_Book_turns := F_Book_turns.binds (ps := ["self"]) fun _ _ _ _ _ _ us hl => match us, hl with | [_], _ => rfl,
    k_Book_turns := F_Book_turns.kp,
    f_NoTurnU_initU := (He.ma K (He.ga K "NoTurn") "__init__"),
    fd_NoTurnU_initU := fd_NoTurnU_initU,
    F_NoTurnU_initU := F_NoTurnU_initU,
    b_NoTurnU_initU := F_NoTurnU_initU.binds (ps := ["self", "turn"]) fun _ _ _ _ _ _ us hl => match us, hl with | [_, _], _ => rfl,
    k_NoTurnU_initU := F_NoTurnU_initU.kp,
    f_Book_known := (He.ma K (He.ga K "Book") "known"),
    fd_Book_known := fd_Book_known,
    F_Book_known := F_Book_known,
    k_Book_known := F_Book_known.kp,
    f_Book_entries := (He.ma K (He.ga K "Book") "entries"),
    fd_Book_entries := fd_Book_entries,
    F_Book_entries := F_Book_entries,
    k_Book_entries := F_Book_entries.kp,
    f_Till_twin := (He.ma K (He.ga K "Till") "twin"),
    fd_Till_twin := fd_Till_twin,
    F_Till_twin := F_Till_twin,
    b_Till_twin := F_Till_twin.binds (ps := ["self"]) fun _ _ _ _ _ _ us hl => match us, hl with | [_], _ => rfl,
    k_Till_twin := F_Till_twin.kp,
    f_Book_twin := (He.ma K (He.ga K "Book") "twin"),
    fd_Book_twin := fd_Book_twin,
    F_Book_twin := F_Book_twin,
    b_Book_twin := F_Book_twin.binds (ps := ["self"]) fun _ _ _ _ _ _ us hl => match us, hl with | [_], _ => rfl,
    k_Book_twin := F_Book_twin.kp,
    f__law_bag := (He.ga K "_law_bag"),
    fd__law_bag := fd__law_bag,
    F__law_bag := F__law_bag,
    b__law_bag := F__law_bag.binds (ps := ["_law_script"]) fun _ _ _ _ _ _ us hl => match us, hl with | [_], _ => rfl,
    k__law_bag := F__law_bag.kp,
    g__law_bag := PySem.W.mg_of X G x_43,
    f__law_pull := (He.ga K "_law_pull"),
    fd__law_pull := fd__law_pull,
    F__law_pull := F__law_pull,
    b__law_pull := F__law_pull.binds (ps := ["_law_bag_here", "_law_many"]) fun _ _ _ _ _ _ us hl => match us, hl with | [_, _], _ => rfl,
    k__law_pull := F__law_pull.kp,
    g__law_pull := PySem.W.mg_of X G x_44,
    f__law_name := (He.ga K "_law_name"),
    fd__law_name := fd__law_name,
    F__law_name := F__law_name,
    b__law_name := F__law_name.binds (ps := ["_law_bag_here"]) fun _ _ _ _ _ _ us hl => match us, hl with | [_], _ => rfl,
    k__law_name := F__law_name.kp,
    g__law_name := PySem.W.mg_of X G x_45,
    f__law_names := (He.ga K "_law_names"),
    fd__law_names := fd__law_names,
    F__law_names := F__law_names,
    b__law_names := F__law_names.binds (ps := ["_law_bag_here", "_law_many"]) fun _ _ _ _ _ _ us hl => match us, hl with | [_, _], _ => rfl,
    k__law_names := F__law_names.kp,
    g__law_names := PySem.W.mg_of X G x_46,
    f__law_wide := (He.ga K "_law_wide"),
    fd__law_wide := fd__law_wide,
    F__law_wide := F__law_wide,
    b__law_wide := F__law_wide.binds (ps := ["_law_bag_here", "_law_many"]) fun _ _ _ _ _ _ us hl => match us, hl with | [_, _], _ => rfl,
    k__law_wide := F__law_wide.kp,
    g__law_wide := PySem.W.mg_of X G x_47,
    f__law_pennies := (He.ga K "_law_pennies"),
    fd__law_pennies := fd__law_pennies,
    F__law_pennies := F__law_pennies,
    b__law_pennies := F__law_pennies.binds (ps := ["_law_bag_here"]) fun _ _ _ _ _ _ us hl => match us, hl with | [_], _ => rfl,
    k__law_pennies := F__law_pennies.kp,
    g__law_pennies := PySem.W.mg_of X G x_48,
    f__law_price := (He.ga K "_law_price"),
    fd__law_price := fd__law_price,
    F__law_price := F__law_price,
    b__law_price := F__law_price.binds (ps := ["_law_bag_here"]) fun _ _ _ _ _ _ us hl => match us, hl with | [_], _ => rfl,
    k__law_price := F__law_price.kp,
    g__law_price := PySem.W.mg_of X G x_49,
    f__law_pairs := (He.ga K "_law_pairs"),
    fd__law_pairs := fd__law_pairs,
    F__law_pairs := F__law_pairs,
    b__law_pairs := F__law_pairs.binds (ps := ["_law_bag_here", "_law_things"]) fun _ _ _ _ _ _ us hl => match us, hl with | [_, _], _ => rfl,
    k__law_pairs := F__law_pairs.kp,
    g__law_pairs := PySem.W.mg_of X G x_50,
    f__law_entry := (He.ga K "_law_entry"),
    fd__law_entry := fd__law_entry,
    F__law_entry := F__law_entry,
    b__law_entry := F__law_entry.binds (ps := ["_law_bag_here", "_law_holders", "_law_things", "_law_last"]) fun _ _ _ _ _ _ us hl => match us, hl with | [_, _, _, _], _ => rfl,
    k__law_entry := F__law_entry.kp,
    g__law_entry := PySem.W.mg_of X G x_51,
    f__law_try := (He.ga K "_law_try"),
    fd__law_try := fd__law_try,
    F__law_try := F__law_try,
    b__law_try := F__law_try.binds (ps := ["_law_book", "_law_entry_here"]) fun _ _ _ _ _ _ us hl => match us, hl with | [_, _], _ => rfl,
    k__law_try := F__law_try.kp,
    g__law_try := PySem.W.mg_of X G x_52,
    f__law_slot := (He.ga K "_law_slot"),
    fd__law_slot := fd__law_slot,
    F__law_slot := F__law_slot,
    b__law_slot := F__law_slot.binds (ps := ["_law_row"]) fun _ _ _ _ _ _ us hl => match us, hl with | [_], _ => rfl,
    k__law_slot := F__law_slot.kp,
    g__law_slot := PySem.W.mg_of X G x_53,
    f__law_due := (He.ga K "_law_due"),
    fd__law_due := fd__law_due,
    F__law_due := F__law_due,
    b__law_due := F__law_due.binds (ps := ["_law_rows", "_law_many", "_law_entry_here", "_law_bad", "_law_number"]) fun _ _ _ _ _ _ us hl => match us, hl with | [_, _, _, _, _], _ => rfl,
    k__law_due := F__law_due.kp,
    g__law_due := PySem.W.mg_of X G x_54,
    a_FORMS_price := (nad K (He.ga K "FORMS") "price"),
    i_FORMS_price := x_55,
    q_FORMS_price := tupA_ok (c.fact 56 (f := e_56) rfl),
    a_FORMS_mix := (nad K (He.ga K "FORMS") "mix"),
    i_FORMS_mix := x_57,
    q_FORMS_mix := tupA_ok (c.fact 58 (f := e_58) rfl),
    a_FORMS_come := (nad K (He.ga K "FORMS") "come"),
    i_FORMS_come := x_59,
    q_FORMS_come := tupA_ok (c.fact 60 (f := e_60) rfl),
    a_FORMS_go := (nad K (He.ga K "FORMS") "go"),
    i_FORMS_go := x_61,
    q_FORMS_go := tupA_ok (c.fact 62 (f := e_62) rfl),
    a_FORMS_draw := (nad K (He.ga K "FORMS") "draw"),
    i_FORMS_draw := x_63,
    q_FORMS_draw := tupA_ok (c.fact 64 (f := e_64) rfl),
    a_FORMS_give := (nad K (He.ga K "FORMS") "give"),
    i_FORMS_give := x_65,
    q_FORMS_give := tupA_ok (c.fact 66 (f := e_66) rfl),
    a_FORMS_rate := (nad K (He.ga K "FORMS") "rate"),
    i_FORMS_rate := x_67,
    q_FORMS_rate := tupA_ok (c.fact 68 (f := e_68) rfl),
    a_FORMS_harvest := (nad K (He.ga K "FORMS") "harvest"),
    i_FORMS_harvest := x_69,
    q_FORMS_harvest := tupA_ok (c.fact 70 (f := e_70) rfl),
    a_FORMS_aside := (nad K (He.ga K "FORMS") "aside"),
    i_FORMS_aside := x_71,
    q_FORMS_aside := tupA_ok (c.fact 72 (f := e_72) rfl),
    a_FORMS_home := (nad K (He.ga K "FORMS") "home"),
    i_FORMS_home := x_73,
    q_FORMS_home := tupA_ok (c.fact 74 (f := e_74) rfl),
    a_FORMS_levy := (nad K (He.ga K "FORMS") "levy"),
    i_FORMS_levy := x_75,
    q_FORMS_levy := tupA_ok (c.fact 76 (f := e_76) rfl),
    a_FORMS_hurdle := (nad K (He.ga K "FORMS") "hurdle"),
    i_FORMS_hurdle := x_77,
    q_FORMS_hurdle := tupA_ok (c.fact 78 (f := e_78) rfl),
    i_SLOTS_price := intB_ok (c.fact 79 (f := e_79) rfl),
    i_SLOTS_aside := intB_ok (c.fact 80 (f := e_80) rfl),
    i_SLOTS_home := intB_ok (c.fact 81 (f := e_81) rfl),
    i_SLOTS_mix := intB_ok (c.fact 82 (f := e_82) rfl),
    i_SLOTS_rate := intB_ok (c.fact 83 (f := e_83) rfl),
    i_SLOTS_harvest := intB_ok (c.fact 84 (f := e_84) rfl),
    i_SLOTS_levy := intB_ok (c.fact 85 (f := e_85) rfl),
    i_SLOTS_hurdle := intB_ok (c.fact 86 (f := e_86) rfl),
    i_SLOTS_come := x_87,
    i_SLOTS_go := x_88,
    i_SLOTS_draw := x_89,
    i_SLOTS_give := x_90,
    C_Full := He.ga K "Full",
    c_Full := PySem.W.mg_of X G x_91,
    oe_Full := oexB_ok PySem.F.store_ValueError x_92,
    mk_Full := makes_of PySem.F.excBase_ValueError x_95 x_93 x_94,
    na_Full := x_96,
    C_BadEntry := He.ga K "BadEntry",
    c_BadEntry := PySem.W.mg_of X G x_97,
    oe_BadEntry := oexB_ok PySem.F.store_ValueError x_98,
    mk_BadEntry := makes_of PySem.F.excBase_ValueError x_101 x_99 x_100,
    na_BadEntry := x_102,
    C_Twice := He.ga K "Twice",
    c_Twice := PySem.W.mg_of X G x_103,
    oe_Twice := oexB_ok PySem.F.store_ValueError x_104,
    mk_Twice := makes_of PySem.F.excBase_ValueError x_107 x_105 x_106,
    na_Twice := x_108,
    C_NoTurn := He.ga K "NoTurn",
    c_NoTurn := PySem.W.mg_of X G x_109,
    oe_NoTurn := oexB_ok PySem.F.store_IndexError x_110,
    mk_NoTurn := makes_of PySem.F.excBase_IndexError x_113 x_111 x_112,
    na_NoTurn := x_114,
    C_Till := He.ga K "Till",
    c_Till := PySem.W.mg_of X G x_119,
    cl_Till := ⟨x_115, x_116, x_117, x_118⟩,
    na_Till_sums := x_120,
    M_Till := ⟨x_122, x_124, x_121, x_123⟩,
    m_Till_twin := ⟨x_126, x_125, F_Till_twin.kp⟩,
    C_Book := He.ga K "Book",
    c_Book := PySem.W.mg_of X G x_131,
    cl_Book := ⟨x_127, x_128, x_129, x_130⟩,
    na_Book_most := x_132,
    na_Book_rows := x_133,
    na_Book_next_number := x_134,
    na_Book_past := x_135,
    na_Book_done := x_136,
    na_Book_undone := x_137,
    na_Book_till := x_138,
    na_Book_closed := x_139,
    M_Book := ⟨x_141, x_143, x_140, x_142⟩,
    m_BookU_lenU := ⟨x_145, x_144, F_BookU_lenU.kp⟩,
    m_Book_free := ⟨x_147, x_146, F_Book_free.kp⟩,
    m_Book_put := ⟨x_149, x_148, F_Book_put.kp⟩,
    m_Book_granted := ⟨x_151, x_150, F_Book_granted.kp⟩,
    m_Book_enter := ⟨x_153, x_152, F_Book_enter.kp⟩,
    m_Book_turns := ⟨x_155, x_154, F_Book_turns.kp⟩,
    m_Book_known := ⟨x_157, x_156, F_Book_known.kp⟩,
    m_Book_entries := ⟨x_159, x_158, F_Book_entries.kp⟩,
    m_Book_twin := ⟨x_161, x_160, F_Book_twin.kp⟩,
    tc := (He.cT K ("Book", some "known")).1,
    tP := (He.cT K ("Book", some "known")).2,
    tcode := code_ofD D_Book_known }, rfl, rfl⟩
  obtain ⟨T, htc, htP⟩ := T
  have b := FunD.bindsA (ps := ["_law_script"]) D_law fun _ _ _ _ _ _ us hl => match us, hl with | [_], _ => rfl
  refine ⟨fd_law, [(T.tc, T.tP)], sp_law K T.tP, fun p hp => ?_, fun p hp => ?_, fun p hp => ?_, fun s v => b s [v] rfl, fun H a ns hl _ hT hS => ⟨a, ns, rfl, hS, hl, LamX.TabS.nil (hT _ List.mem_cons_self), fun _ => rfl⟩, fun base _ _ TB => ok_law F_law T (TB _ List.mem_cons_self)⟩
  · rw [List.mem_singleton.mp hp, htc, htP]; exact c.empty ("Book", some "known") (by simp [tfL])
  · rw [List.mem_singleton.mp hp, htc, htP]; exact c.out ("Book", some "known") (by simp [tfL])
  · rw [List.mem_singleton.mp hp, htc, htP]; exact PySem.W.codeHd_of_K X (c.hd ("Book", some "known") (by simp [tfL]))
end Cr
open PySem PySem.W PyProof.Rows
set_option maxRecDepth 100000 in
set_option maxHeartbeats 0 in
theorem PySem.Challenge.cw_crestpool_k47_entering_holds : PySem.Challenge.rw_crestpool_k47_entering.Holds := by
  refine CrT.head Cr.obP_eq Cr.run_all ?_
  refine LamX.walk_ofTsE (l := PySem.Challenge.rw_crestpool_k47_entering) (n := 63) (k := 10) (x := "_law_script") (CX := fun w => L2.CX PySem.Challenge.rw_crestpool_k47_entering.prog w) rfl (by decide) (by kernel_rfl) ⟨rfl, by decide, by decide⟩ ?F (fun _ _ _ _ _ h => by obtain ⟨_, _, _, _, _, _, _, _, _, _, _, _, z⟩ := h; exact z)
  intro w mg fa h Y G hmg0
  obtain ⟨K, KX, c⟩ := Y
  have hmg : mg ("law" : PySem.Str) = some (.ref fa) := by
    have e : (HandSHeadRun.topDef CrT.R.prog 86).name = ("law" : PySem.Str) := by kernel_rfl
    rw [← e]
    exact hmg0
  exact ⟨K, KX, Cr.all_mk KX G hmg c⟩
#print axioms PySem.Challenge.cw_crestpool_k47_entering_holds
