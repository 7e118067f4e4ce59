import PyProof.Rows.All
import Wide.All
import OpenK.AllK
import Wide.FinOn
import HandS.ForMost
import HandS.ForExc
import HandS.Wide
import HandS.IsInst
import HandS.Defaults
import HandS.ExcIs
import HandS.ExcBuiltin
import HandS.Flow
import HandS.Style
import HandS.MakeKwOnly
import HandS.Comp
import HandS.Deep
import PySem.Challenge.RW_crestpool_k62_whole_unlike_ones_are_part
set_option Elab.async false
set_option linter.all false
set_option maxRecDepth 100000
set_option maxHeartbeats 4000000
namespace Cr
/-- a fraction's numbers are below 2 ^ n -/
def Sz (n : Nat) (r : Rat) : Prop := r.num.natAbs < 2 ^ n ∧ r.den < 2 ^ n
theorem Sz.mono {n m : Nat} {r : Rat} (h : Sz n r) (k : n ≤ m) : Sz m r :=
  have e : 2 ^ n ≤ 2 ^ m := Nat.pow_le_pow_right (by decide) k
  ⟨Nat.lt_of_lt_of_le h.1 e, Nat.lt_of_lt_of_le h.2 e⟩
theorem lt_two {a n : Nat} (h : a < 2 ^ n) {b m : Nat} (k : b < 2 ^ m) : a * b < 2 ^ (n + m) := by
  rw [Nat.pow_add]; exact Nat.mul_lt_mul'' h k
/-- the numbers of a quotient in lowest terms are no greater -/
theorem divInt_num_le (t b : Int) (hb : b ≠ 0) : (Rat.divInt t b).num.natAbs ≤ t.natAbs := by
  rw [Rat.num_divInt, Int.natAbs_ediv_of_dvd]
  · refine Nat.le_trans (Nat.div_le_self _ _) ?_
    rw [Int.natAbs_mul, Int.natAbs_sign, if_neg hb, Nat.one_mul]
    exact Nat.le_refl _
  · exact Int.dvd_trans (Int.gcd_dvd_right _ _) (Int.dvd_mul_left _ _)
theorem divInt_den_le (t b : Int) (hb : b ≠ 0) : (Rat.divInt t b).den ≤ b.natAbs := by
  rw [Rat.den_divInt, if_neg hb]
  exact Nat.div_le_self _ _
theorem divInt_sz {t b : Int} {n : Nat} (hb : b ≠ 0) (h1 : t.natAbs < 2 ^ n) (h2 : b.natAbs < 2 ^ n) : Sz n (Rat.divInt t b) :=
  ⟨Nat.lt_of_le_of_lt (divInt_num_le t b hb) h1, Nat.lt_of_le_of_lt (divInt_den_le t b hb) h2⟩
theorem rat_add (r s : Rat) : Rat.divInt (r.num * s.den + s.num * r.den) (r.den * s.den) = r + s := by
  have h1 : (r.den : Int) ≠ 0 := by have := r.den_pos; omega
  have h2 : (s.den : Int) ≠ 0 := by have := s.den_pos; omega
  rw [← Rat.divInt_add_divInt _ _ h1 h2, Rat.num_divInt_den, Rat.num_divInt_den]
theorem rat_sub (r s : Rat) : Rat.divInt (r.num * s.den - s.num * r.den) (r.den * s.den) = r - s := by
  have e := rat_add r (-s)
  rw [Rat.neg_num, Rat.neg_den] at e
  rw [Rat.sub_eq_add_neg, ← e, Int.neg_mul, Int.sub_eq_add_neg]
theorem rat_mul (r s : Rat) : Rat.divInt (r.num * s.num) (r.den * s.den) = r * s := by
  rw [← Rat.divInt_mul_divInt, Rat.num_divInt_den, Rat.num_divInt_den]
theorem den_ne (r : Rat) : (r.den : Int) ≠ 0 := by have := r.den_pos; omega
theorem natAbs_lt_mul {a b : Int} {n m : Nat} (h : a.natAbs < 2 ^ n) (k : b.natAbs < 2 ^ m) : (a * b).natAbs < 2 ^ (n + m) := by
  rw [Int.natAbs_mul]; exact lt_two h k
theorem natAbs_lt_add {a b : Int} {n : Nat} (h : a.natAbs < 2 ^ n) (k : b.natAbs < 2 ^ n) : (a + b).natAbs < 2 ^ (n + 1) := by
  have := Int.natAbs_add_le a b
  rw [Nat.pow_succ]; omega
theorem natAbs_lt_sub {a b : Int} {n : Nat} (h : a.natAbs < 2 ^ n) (k : b.natAbs < 2 ^ n) : (a - b).natAbs < 2 ^ (n + 1) := by
  have := Int.natAbs_add_le a (-b)
  rw [Int.natAbs_neg] at this
  rw [Int.sub_eq_add_neg, Nat.pow_succ]; omega
theorem sz0 : Sz 4000 0 := by unfold Sz; exact ⟨Nat.pow_pos (by decide), Nat.one_lt_two_pow (by decide)⟩
theorem Sz.dA {n : Nat} {r : Rat} (h : Sz n r) : (r.den : Int).natAbs < 2 ^ n := by rw [Int.natAbs_natCast]; exact h.2
theorem pw_le {a n m : Nat} (h : a < 2 ^ n) (k : n ≤ m) : a < 2 ^ m := Nat.lt_of_lt_of_le h (Nat.pow_le_pow_right (by decide) k)
theorem Sz.add {n m : Nat} {r s : Rat} (h : Sz n r) (k : Sz m s) : Sz (n + m + 1) (r + s) := by
  rw [← rat_add]
  refine divInt_sz ?_ ?_ ?_
  · exact Int.mul_ne_zero (den_ne r) (den_ne s)
  · refine natAbs_lt_add (natAbs_lt_mul h.1 k.dA) ?_
    rw [Nat.add_comm]
    exact natAbs_lt_mul k.1 h.dA
  · exact pw_le (natAbs_lt_mul h.dA k.dA) (by omega)
theorem Sz.sub {n m : Nat} {r s : Rat} (h : Sz n r) (k : Sz m s) : Sz (n + m + 1) (r - s) := by
  rw [← rat_sub]
  refine divInt_sz ?_ ?_ ?_
  · exact Int.mul_ne_zero (den_ne r) (den_ne s)
  · refine natAbs_lt_sub (natAbs_lt_mul h.1 k.dA) ?_
    rw [Nat.add_comm]
    exact natAbs_lt_mul k.1 h.dA
  · exact pw_le (natAbs_lt_mul h.dA k.dA) (by omega)
theorem Sz.mul {n m : Nat} {r s : Rat} (h : Sz n r) (k : Sz m s) : Sz (n + m) (r * s) := by
  rw [← rat_mul]
  refine divInt_sz ?_ ?_ ?_
  · exact Int.mul_ne_zero (den_ne r) (den_ne s)
  · exact natAbs_lt_mul h.1 k.1
  · exact natAbs_lt_mul h.dA k.dA
theorem Sz.neg {n : Nat} {r : Rat} (h : Sz n r) : Sz n (-r) := by
  unfold Sz; rw [Rat.neg_num, Rat.neg_den, Int.natAbs_neg]; exact h
theorem num_ne {s : Rat} (h : s ≠ 0) : s.num ≠ 0 := fun e => h (Rat.num_eq_zero.mp e)
theorem rat_div (r s : Rat) : Rat.divInt (r.num * s.den) (r.den * s.num) = r / s := by
  rw [Rat.div_def, ← Rat.num_divInt_den s, Rat.inv_divInt, ← Rat.divInt_mul_divInt, Rat.num_divInt_den]
  rw [Rat.num_divInt_den]
theorem Sz.div {n m : Nat} {r s : Rat} (h : Sz n r) (k : Sz m s) (h0 : s ≠ 0) : Sz (n + m) (r / s) := by
  rw [← rat_div]
  refine divInt_sz ?_ ?_ ?_
  · exact Int.mul_ne_zero (den_ne r) (num_ne h0)
  · exact natAbs_lt_mul h.1 k.dA
  · exact natAbs_lt_mul h.dA k.1
/-- what the two lowest-terms loops end with -/
def lowG (t b : Int) : Int := if b < 0 then -((Nat.gcd t.natAbs b.natAbs : Nat) : Int) else ((Nat.gcd t.natAbs b.natAbs : Nat) : Int)
theorem gcd_pos {t b : Int} (hb : b ≠ 0) : 0 < Nat.gcd t.natAbs b.natAbs := Nat.gcd_pos_of_pos_right _ (by omega)
theorem low_num {t b : Int} (hb : b ≠ 0) : t.fdiv (lowG t b) = (Rat.divInt t b).num := by
  have hg := gcd_pos (t := t) hb
  have hd : ((Nat.gcd t.natAbs b.natAbs : Nat) : Int) ∣ t := by
    have := Int.gcd_dvd_left t b
    exact this
  have e : Int.gcd b t = Nat.gcd t.natAbs b.natAbs := by show Nat.gcd b.natAbs t.natAbs = _; exact Nat.gcd_comm _ _
  rw [Rat.num_divInt, e]
  unfold lowG
  obtain ⟨k, hk⟩ := hd
  generalize hgg : Nat.gcd t.natAbs b.natAbs = g at *
  by_cases h : b < 0
  · rw [if_pos h, Int.sign_eq_neg_one_of_neg h, hk]
    rw [Int.fdiv_eq_ediv_of_dvd (by rw [Int.neg_dvd]; exact Int.dvd_mul_right _ _)]
    rw [Int.ediv_neg, Int.mul_ediv_cancel_left _ (by omega)]
    rw [show (-1 : Int) * (↑g * k) = ↑g * (-k) by rw [Int.mul_neg]; omega, Int.mul_ediv_cancel_left _ (by omega)]
  · rw [if_neg h, Int.sign_eq_one_of_pos (by omega), hk]
    rw [Int.fdiv_eq_ediv_of_dvd (Int.dvd_mul_right _ _), Int.one_mul]
theorem low_den {t b : Int} (hb : b ≠ 0) : b.fdiv (lowG t b) = ((Rat.divInt t b).den : Int) := by
  have hg := gcd_pos (t := t) hb
  have hd : ((Nat.gcd t.natAbs b.natAbs : Nat) : Int) ∣ b := by
    have := Int.gcd_dvd_right t b
    exact this
  have e : Int.gcd b t = Nat.gcd t.natAbs b.natAbs := by show Nat.gcd b.natAbs t.natAbs = _; exact Nat.gcd_comm _ _
  rw [Rat.den_divInt, if_neg hb, e]
  unfold lowG
  obtain ⟨k, hk⟩ := hd
  generalize hgg : Nat.gcd t.natAbs b.natAbs = g at *
  have ea : b.natAbs = g * k.natAbs := by rw [hk, Int.natAbs_mul, Int.natAbs_natCast]
  rw [ea, Nat.mul_div_cancel_left _ hg]
  by_cases h : b < 0
  · rw [if_pos h, hk]
    rw [Int.fdiv_eq_ediv_of_dvd (by rw [Int.neg_dvd]; exact Int.dvd_mul_right _ _)]
    rw [Int.ediv_neg, Int.mul_ediv_cancel_left _ (by omega)]
    have : k < 0 := by
      rcases Int.lt_or_le k 0 with q | q
      · exact q
      · exfalso; have := Int.mul_nonneg (show (0 : Int) ≤ g by omega) q; omega
    omega
  · rw [if_neg h, hk]
    rw [Int.fdiv_eq_ediv_of_dvd (Int.dvd_mul_right _ _), Int.mul_ediv_cancel_left _ (by omega)]
    have : 0 ≤ k := by
      rcases Int.lt_or_le k 0 with q | q
      · exfalso
        have := Int.mul_neg_of_pos_of_neg (show (0 : Int) < g by omega) q; omega
      · exact q
    omega
/-- one turn of the loop -/
theorem gcd_turn (a b : Nat) : Nat.gcd b (a % b) = Nat.gcd a b := by
  rw [Nat.gcd_comm a b, Nat.gcd_rec b a, Nat.gcd_comm]
end Cr
namespace Cr
/-- sums of fractions -/
theorem foldl_add (a : Rat) (rs : List Rat) : rs.foldl (· + ·) a = rs.foldl (· + ·) 0 + a := by
  induction rs generalizing a with
  | nil => show a = 0 + a; grind
  | cons r rs ih =>
    rw [List.foldl_cons, List.foldl_cons, ih (a + r), ih (0 + r)]
    grind
theorem foldl_rev (rs : List Rat) : rs.reverse.foldl (· + ·) 0 = rs.foldl (· + ·) 0 := by
  induction rs with
  | nil => rfl
  | cons r rs ih =>
    rw [List.reverse_cons, List.foldl_append, ih, List.foldl_cons, List.foldl_cons, List.foldl_nil, foldl_add (0 + r)]
    grind
theorem foldl_sz {n m : Nat} (rs : List Rat) (h : ∀ r, r ∈ rs → Sz n r) (a : Rat) (ha : Sz m a) : Sz (m + (n + 1) * rs.length) (rs.foldl (· + ·) a) := by
  induction rs generalizing a m with
  | nil => exact ha.mono (by simp)
  | cons r rs ih =>
    rw [List.foldl_cons]
    refine (ih (fun x hx => h x (List.mem_cons_of_mem _ hx)) (a + r) (ha.add (h r List.mem_cons_self))).mono ?_
    rw [List.length_cons, Nat.mul_add]
    omega
end Cr
namespace Cr
theorem divInt_pos {t b : Int} (h : 0 < t) (k : 0 < b) : 0 < Rat.divInt t b := by
  rw [Rat.divInt_eq_div, Rat.div_def]
  exact Rat.mul_pos (by exact_mod_cast h) (Rat.inv_pos.mpr (by exact_mod_cast k))
/-- the fee in a lot -/
def feeR (w m : Rat) (rate : Int) : Rat := if m < w then (w - m) * Rat.divInt rate 10000 else 0
theorem sz1 {n : Nat} (h : 0 < n) : Sz n 0 := by unfold Sz; exact ⟨Nat.pow_pos (by decide), Nat.one_lt_two_pow (by omega)⟩
theorem feeR_sz {n : Nat} {w m : Rat} {rate : Int} (h : Sz n w) (k : Sz n m) (r0 : 0 ≤ rate) (r1 : rate ≤ 10000) : Sz (2 * n + 65) (feeR w m rate) := by
  unfold feeR
  split
  · exact ((h.sub k).mul (divInt_sz (n := 64) (by decide) (by omega) (by omega))).mono (by omega)
  · exact sz1 (by omega)
end Cr

namespace Cr
/-- the fee in a part of a lot -/
theorem feeR_part {w m r : Rat} {i : Int} (h : 0 < r) : feeR (w * r) (m * r) i = feeR w m i * r := by
  unfold feeR
  by_cases c : m < w
  · rw [if_pos c, if_pos (Rat.mul_lt_mul_of_pos_right c h)]
    grind
  · rw [if_neg c, if_neg (fun z => c ((Rat.mul_lt_mul_right h).mp z))]
    grind
theorem cents {i : Int} : Rat.divInt i 10000 + Rat.divInt (10000 - i) 10000 = 1 := by
  rw [Rat.divInt_eq_div, Rat.divInt_eq_div]
  push_cast
  grind
end Cr

namespace Cr
open PySem PySem.Spec PyProof.Rows L2
abbrev St := L2.St

/-! ### rules that take any of several kinds -/
theorem opR_or {X : Cx} {f : Value → Value → Sem Value} {r1 r2 : R2} (h1 : OpR X f r1) (h2 : OpR X f r2) : OpR X f (fun x y H Q => r1 x y H Q ∨ r2 x y H Q) := by
  intro pins s σ H x y v u Q I rx ry h
  rcases h with h | h
  · exact h1 pins s σ H x y v u Q I rx ry h
  · exact h2 pins s σ H x y v u Q I rx ry h
def CDivZ (_ j : Int) : Prop := j ≠ 0 ∧ j.natAbs.log2 < 9000
def CMulZ (i j : Int) : Prop := CMul i j ∨ CMulW i j
def rAddI : R2 := rI0 fun i j => .int (i + j)
def rAddS : R2 := fun x y H Q => ∃ i j, x = .str i ∧ y = .str j ∧ i.length + j.length ≤ sizeLine ∧ Q (.str (i ++ j)) H
def rAddU (K : PySem.W.Frag) : R2 := fun x y H Q => rAddI x y H Q ∨ rAddS x y H Q ∨ rCat x y H Q ∨ rCatT K x y H Q
def rSubU : R2 := rI0 fun i j => .int (i - j)
def rMulI : R2 := rI CMulZ fun i j => .int (i * j)
def rMulU : R2 := fun x y H Q => rMulI x y H Q ∨ rRep x y H Q
def rDivU : R2 := rI CDivZ fun i j => .int (i.fdiv j)
def rModU : R2 := rI (fun _ j => j ≠ 0) fun i j => .int (i.fmod j)
def rPowU : R2 := rI CPow fun i j => .int (i ^ j.toNat)
def rLtI : R2 := rI0 fun i j => .bl (decide (i < j))
def rLeI : R2 := rI0 fun i j => .bl (decide (i ≤ j))
def rGtI : R2 := rI0 fun i j => .bl (decide (j < i))
def rGeI : R2 := rI0 fun i j => .bl (decide (j ≤ i))
def rLenU (K : PySem.W.Frag) : List V → Hp → VK → Prop := fun xs H Q => ∃ x n, xs = [x] ∧ LenV K x H n ∧ Q (.int n) H
def rAbsU : List V → Hp → VK → Prop := fun xs H Q => ∃ i, xs = [.int i] ∧ Q (.int (if i < 0 then -i else i)) H
def rMaxU : List V → Hp → VK → Prop := fun xs H Q => ∃ i j, xs = [.int i, .int j] ∧ Q (.int (if j > i then j else i)) H
def rMinU : List V → Hp → VK → Prop := fun xs H Q => ∃ i j, xs = [.int i, .int j] ∧ Q (.int (if j < i then j else i)) H
def rListU (K : PySem.W.Frag) : List V → Hp → VK → Prop := fun xs H Q => ∃ p ys, xs = [.ref p] ∧ (SqL K H p ys ∨ SqT K H p ys) ∧ ∀ l, H l = none → Q (.ref l) (upd H l (.lst ys))
def rTupU (K : PySem.W.Frag) : List V → Hp → VK → Prop := fun xs H Q => ∃ p ys, xs = [.ref p] ∧ ((SqL K H p ys ∧ ∀ l, H l = none → Q (.ref l) (upd H l (.tup ys))) ∨ (SqT K H p ys ∧ Q (.ref p) H))
def rSlU (K : PySem.W.Frag) : V → Option Int → Option Int → Hp → VK → Prop := fun x lo hi H Q => rSlL K x lo hi H Q ∨ rSlT K x lo hi H Q
def rNegU : V → Hp → VK → Prop := rU fun i => .int (-i)
section
variable {X : Cx}
theorem op_addU : OpR X (binaryOp .Add) (rAddU X.K) := opR_or op_add (opR_or op_add_str (opR_or op_cat op_catT))
theorem op_subU : OpR X (binaryOp .Sub) rSubU := op_sub
theorem op_mulI : OpR X (binaryOp .Mult) rMulI := opI fun _ _ _ _ _ _ _ hc q => mul_int q (hc.elim CMul.ok CMulW.ok)
theorem op_mulU : OpR X (binaryOp .Mult) rMulU := opR_or op_mulI op_rep
theorem op_divU : OpR X (binaryOp .FloorDiv) rDivU := opI fun _ _ _ _ _ _ _ hc q => floordiv_int hc.1 q (.inl (PyProof.noPylong_of_log2 hc.2))
theorem op_modU : OpR X (binaryOp .Mod) rModU := op_modN
theorem op_powU : OpR X (binaryOp .Pow) rPowU := op_pow
theorem op_ltI : OpR X (compareOp .Lt) rLtI := op_lt
theorem op_leI : OpR X (compareOp .LtE) rLeI := op_le
theorem op_gtI : OpR X (compareOp .Gt) rGtI := op_gt
theorem op_geI : OpR X (compareOp .GtE) rGeI := op_ge
theorem call_lenU : CallR X (.builtin "len") (rLenU X.K) := call_len
theorem call_absU : CallR X (.builtin "abs") rAbsU := call_abs
theorem call_maxU (hc : X.calm = true) : CallR X (.builtin "max") rMaxU := call_max2 hc
theorem call_minU (hc : X.calm = true) : CallR X (.builtin "min") rMinU := call_min2 hc
theorem call_listU : CallR X (.type "list") (rListU X.K) := call_list_of
theorem call_tupU : CallR X (.type "tuple") (rTupU X.K) := call_tuple_of
theorem sl_seqU : SlR X (rSlU X.K) := SlR.or sl_list sl_tup
theorem un_negU : UnR X (unaryOp .USub) rNegU := un_neg
end
def tTruU (K : PySem.W.Frag) (ta : TE) : TT := fun σ H Q => ta σ H fun x H' => ∃ k, TruV K x H' k ∧ Q k H'
theorem pt_tru {X : Cx} {a : Expr} {ta : TE} (ha : PE X a ta) (he : ∀ whole, isTrue a X.env whole = (do let v ← whole; standAt a.pos; holding [v] (truthy v)) := by intro _; rfl) : PT X a (tTruU X.K ta) := pt_truth ha he

/-! ### heaps -/
def isT : HO → Bool
  | .tup _ => true
  | .frz _ (.tup _) => true
  | _ => false
/-- tuples stay -/
def KT (H H' : Hp) : Prop := ∀ a o, H a = some o → isT o = true → H' a = some o
theorem KT.refl (H : Hp) : KT H H := fun _ _ h _ => h
theorem KT.trans {H H1 H2 : Hp} (a : KT H H1) (b : KT H1 H2) : KT H H2 := fun x o h t => b x o (a x o h t) t
theorem kt_same {H H' : Hp} (s : Same H H') : KT H H' := fun a o h _ => s a o h
theorem kt_new {H : Hp} {p : Addr} {o : HO} (h : H p = none) : KT H (upd H p o) := fun a u e _ => by rw [upd_ne (ne_of_none e h)]; exact e
theorem kt_mut {H : Hp} {p : Addr} {o o' : HO} (h : H p = some o) (t : isT o = false) : KT H (upd H p o') := fun a u e k => by
  rw [upd_ne (fun z => by subst z; rw [h] at e; cases e; rw [t] at k; cases k)]; exact e
theorem ne_on {H : Hp} {a b : Addr} {o : HO} (h' : H b = none) (h : H a = some o) : a ≠ b := ne_of_none h h'
theorem at_same {H H' : Hp} {a : Addr} {o : HO} (s : Same H H') (h : H a = some o) : H' a = some o := s a o h
theorem free_on {H H' : Hp} {l : Addr} (h : H' l = none) (e : Same H H') : H l = none := e.free h
theorem same_new {H : Hp} {p : Addr} {o : HO} (h : H p = none) : Same H (upd H p o) := fun a u e => by rw [upd_ne (ne_of_none e h)]; exact e
/-- what H0 knows stays where an object that H0 does not know is changed -/
theorem same_mut {H0 H : Hp} {p : Addr} {o : HO} (s : Same H0 H) (h : H0 p = none) : Same H0 (upd H p o) := fun a u e => by rw [upd_ne (ne_of_none e h)]; exact s a u e
/-- all but what stands at b stays; a list stands at b -/
structure But (b : Addr) (H H' : Hp) : Prop where
  oth : ∀ a o, a ≠ b → H a = some o → H' a = some o
  lst : ∃ xs, H b = some (.lst xs)
theorem kt_but {b : Addr} {H H' : Hp} (s : But b H H') : KT H H' := fun a o h t => s.oth a o (fun z => by subst z; obtain ⟨xs, e⟩ := s.lst; rw [e] at h; cases h; cases t) h
theorem sqT_kt {K : PySem.W.Frag} {H H' : Hp} {a : Addr} {xs : List V} (k : KT H H') (h : SqT K H a xs) : SqT K H' a xs := by
  rcases h with (h | ⟨o, h⟩) | h
  · exact .inl (.inl (k _ _ h rfl))
  · exact .inl (.inr ⟨o, k _ _ h rfl⟩)
  · exact .inr h

/-! ### data of tuples, ints, texts, truths, None -/
mutual
inductive Dt (K : PySem.W.Frag) (H : Hp) : V → PyData → Prop
  | non : Dt K H .non .none
  | bl (b : Bool) : Dt K H (.bl b) (.bool b)
  | int (i : Int) : Dt K H (.int i) (.int i)
  | str (x : Str) : Dt K H (.str x) (.str x)
  | tup {a : Addr} {xs : List V} {ds : List PyData} : SqT K H a xs → DtAll K H xs ds → Dt K H (.ref a) (.tuple ds)
inductive DtAll (K : PySem.W.Frag) (H : Hp) : List V → List PyData → Prop
  | nil : DtAll K H [] []
  | cons {v : V} {vs : List V} {d : PyData} {ds : List PyData} : Dt K H v d → DtAll K H vs ds → DtAll K H (v :: vs) (d :: ds)
end
section
variable {K : PySem.W.Frag} {H H' : Hp}
mutual
theorem Dt.mono (k : KT H H') : ∀ {v : V} {d : PyData}, Dt K H v d → Dt K H' v d
  | _, _, .non => .non
  | _, _, .bl b => .bl b
  | _, _, .int i => .int i
  | _, _, .str x => .str x
  | _, _, .tup h a => .tup (sqT_kt k h) (DtAll.mono k a)
theorem DtAll.mono (k : KT H H') : ∀ {vs : List V} {ds : List PyData}, DtAll K H vs ds → DtAll K H' vs ds
  | _, _, .nil => .nil
  | _, _, .cons h a => .cons (Dt.mono k h) (DtAll.mono k a)
end
mutual
theorem Dt.dp : ∀ {v : V} {d : PyData}, Dt K H v d → Dp K H v d
  | _, _, .non => .non
  | _, _, .bl b => .bl b
  | _, _, .int i => .int i
  | _, _, .str x => .str x
  | _, _, .tup h a => .tup h (DtAll.dp a)
theorem DtAll.dp : ∀ {vs : List V} {ds : List PyData}, DtAll K H vs ds → DpAll K H vs ds
  | _, _, .nil => .nil
  | _, _, .cons h a => .cons (Dt.dp h) (DtAll.dp a)
end
theorem Dt.int_eq {v : V} {i : Int} (h : Dt K H v (.int i)) : v = .int i := by cases h; rfl
theorem Dt.bl_eq {v : V} {i : Bool} (h : Dt K H v (.bool i)) : v = .bl i := by cases h; rfl
theorem Dt.str_eq {v : V} {i : Str} (h : Dt K H v (.str i)) : v = .str i := by cases h; rfl
theorem Dt.tup_inv {v : V} {ds : List PyData} (h : Dt K H v (.tuple ds)) : ∃ a xs, v = .ref a ∧ SqT K H a xs ∧ DtAll K H xs ds := by
  cases h with
  | tup h a => exact ⟨_, _, rfl, h, a⟩
theorem DtAll.len {vs : List V} {ds : List PyData} (h : DtAll K H vs ds) : vs.length = ds.length := by
  induction ds generalizing vs with
  | nil => cases h; rfl
  | cons d ds ih => cases h with | cons h a => exact congrArg Nat.succ (ih a)
theorem DtAll.get {vs : List V} {ds : List PyData} (h : DtAll K H vs ds) {i : Nat} {d : PyData} (e : ds[i]? = some d) : ∃ v, vs[i]? = some v ∧ Dt K H v d := by
  induction ds generalizing vs i with
  | nil => cases e
  | cons d' ds ih =>
    cases h with
    | cons h a =>
      cases i with
      | zero => cases e; exact ⟨_, rfl, h⟩
      | succ i => obtain ⟨v, e1, e2⟩ := ih a e; exact ⟨v, e1, e2⟩
theorem DtAll.append {vs ws : List V} {ds es : List PyData} (h : DtAll K H vs ds) (h2 : DtAll K H ws es) : DtAll K H (vs ++ ws) (ds ++ es) := by
  induction ds generalizing vs with
  | nil => cases h; exact h2
  | cons d ds ih => cases h with | cons h a => exact .cons h (ih a)
theorem dt_new {p : Addr} {xs : List V} {ds : List PyData} (h : DtAll K H xs ds) (n : H p = none) : Dt K (upd H p (.tup xs)) (.ref p) (.tuple ds) :=
  .tup (.inl (.inl upd_same)) (h.mono (kt_new n))
/-- a fraction -/
def fr (r : Rat) : PyData := .tuple [.int r.num, .int r.den]
end

/-! ### readings step by step -/
theorem cxK0 {CX : CXT} {P : Program} {w : World} {K : PySem.W.Frag} {mg : Str → Option Value} {base : Heap} {N : List Str} {qual : Str} {scope : Scope} {f : Addr} {cd : Value} {A : Around} {outer : List Env} {s : Shared} {H : Hp} {E : XK} : (cxOf CX P w K mg base N qual scope f cd A outer s H E).nox.K = K := rfl
theorem cxK1 {CX : CXT} {P : Program} {w : World} {K : PySem.W.Frag} {mg : Str → Option Value} {base : Heap} {N : List Str} {qual : Str} {scope : Scope} {f : Addr} {cd : Value} {A : Around} {outer : List Env} {s : Shared} {H : Hp} {E : XK} : (cxOf CX P w K mg base N qual scope f cd A outer s H E).K = K := rfl
section
variable {K : PySem.W.Frag} {σ : St} {H : Hp} {Q : VK} {D : Ends}
theorem s_seq {t u : TS} (h : t { D with nx := u D } σ H) : tSeq t u D σ H := h
theorem s_next (h : D.nx σ H) : tNext D σ H := h
theorem s_brk (h : D.bk σ H) : tBreak D σ H := h
theorem s_cont (h : D.ct σ H) : tCont D σ H := h
theorem s_asg {te : TE} {g : TG} (h : te σ H fun x H1 => g x σ H1 D.nx) : tAsg te g D σ H := h
theorem s_gname {i : Nat} {v : V} {N : St → Hp → Prop} (h : N (σ.set i (some v)) H) : gName i v σ H N := h
theorem s_gsub {to ti : TE} {t : TSet} {v : V} {N : St → Hp → Prop} (h : to σ H fun o H1 => ti σ H1 fun i H2 => t o i v H2 fun H3 => N σ H3) : gSub to ti t v σ H N := h
theorem s_drop {te : TE} (h : te σ H fun _ H1 => D.nx σ H1) : tDrop te D σ H := h
theorem s_ret {te : TE} (h : te σ H D.rt) : tRet te D σ H := h
theorem s_retN (h : D.rt .non H) : tRetN D σ H := h
theorem s_par {i j : Nat} {ta tb : TE} (h : ta σ H fun x H1 => tb σ H1 fun y H2 => D.nx ((σ.set i (some x)).set j (some y)) H2) : tPar i j (tCons ta (tCons tb tNil)) D σ H :=
  (show ta σ H fun x H1 => tb σ H1 fun y H2 => ∃ v w, [x, y] = [v, w] ∧ D.nx ((σ.set i (some v)).set j (some w)) H2 from by
    have e : (fun x H1 => tb σ H1 fun y H2 => ∃ v w, [x, y] = [v, w] ∧ D.nx ((σ.set i (some v)).set j (some w)) H2) = (fun x H1 => tb σ H1 fun y H2 => D.nx ((σ.set i (some x)).set j (some y)) H2) := by
      funext x H1
      have e2 : (fun (y : V) (H2 : Hp) => ∃ v w, [x, y] = [v, w] ∧ D.nx ((σ.set i (some v)).set j (some w)) H2) = (fun y H2 => D.nx ((σ.set i (some x)).set j (some y)) H2) := by
        funext y H2
        refine propext ⟨fun ⟨v, w, e, n⟩ => ?_, fun n => ⟨x, y, rfl, n⟩⟩
        cases e
        exact n
      rw [e2]
    rw [e]
    exact h)
theorem s_if {c : TT} {t u : TS} (h : c σ H fun b H1 => if b = true then t D σ H1 else u D σ H1) : tIfS c t u D σ H := h
theorem s_ifE {c : TT} {ta tb : TE} (h : c σ H fun b H1 => if b = true then ta σ H1 Q else tb σ H1 Q) : tIf c ta tb σ H Q := h
theorem s_itT {A B : Prop} (h : A) : if true = true then A else B := iteT h
theorem s_itF {A B : Prop} (h : B) : if false = true then A else B := iteF h
theorem s_itNT {A B : Prop} (h : B) : if (!true) = true then A else B := iteF h
theorem s_itNF {A B : Prop} (h : A) : if (!false) = true then A else B := iteT h
theorem s_iteD {c A B : Prop} {inst : Decidable c} (h1 : c → A) (h2 : ¬ c → B) : if (@decide c inst) = true then A else B := by
  by_cases h : c
  · rw [decide_eq_true h]; exact iteT (h1 h)
  · rw [decide_eq_false h]; exact iteF (h2 h)
theorem s_iteN {c A B : Prop} {inst : Decidable c} (h1 : ¬ c → A) (h2 : c → B) : if (!@decide c inst) = true then A else B := by
  by_cases h : c
  · rw [decide_eq_true h]; exact iteF (h2 h)
  · rw [decide_eq_false h]; exact iteT (h1 h)
theorem s_iteB {b : Bool} {A B : Prop} (h1 : b = true → A) (h2 : b = false → B) : if b = true then A else B := by
  cases b with
  | true => exact iteT (h1 rfl)
  | false => exact iteF (h2 rfl)
theorem s_var {i : Nat} {v : V} (e : σ[i]? = some (some v)) (h : Q v H) : tVar i σ H Q := ⟨v, e, h⟩
theorem s_v0 {v : V} {σ : St} (h : Q v H) : tVar 0 (some v :: σ) H Q := ⟨v, rfl, h⟩
theorem s_g0 {y : Option V} {v : V} {σ : St} {N : St → Hp → Prop} (h : N (some v :: σ) H) : gName 0 v (y :: σ) H N := h
theorem s_v1 {x0 : Option V} {v : V} {σ : St} (h : Q v H) : tVar 1 (x0 :: some v :: σ) H Q := ⟨v, rfl, h⟩
theorem s_g1 {x0 : Option V} {y : Option V} {v : V} {σ : St} {N : St → Hp → Prop} (h : N (x0 :: some v :: σ) H) : gName 1 v (x0 :: y :: σ) H N := h
theorem s_v2 {x0 x1 : Option V} {v : V} {σ : St} (h : Q v H) : tVar 2 (x0 :: x1 :: some v :: σ) H Q := ⟨v, rfl, h⟩
theorem s_g2 {x0 x1 : Option V} {y : Option V} {v : V} {σ : St} {N : St → Hp → Prop} (h : N (x0 :: x1 :: some v :: σ) H) : gName 2 v (x0 :: x1 :: y :: σ) H N := h
theorem s_v3 {x0 x1 x2 : Option V} {v : V} {σ : St} (h : Q v H) : tVar 3 (x0 :: x1 :: x2 :: some v :: σ) H Q := ⟨v, rfl, h⟩
theorem s_g3 {x0 x1 x2 : Option V} {y : Option V} {v : V} {σ : St} {N : St → Hp → Prop} (h : N (x0 :: x1 :: x2 :: some v :: σ) H) : gName 3 v (x0 :: x1 :: x2 :: y :: σ) H N := h
theorem s_v4 {x0 x1 x2 x3 : Option V} {v : V} {σ : St} (h : Q v H) : tVar 4 (x0 :: x1 :: x2 :: x3 :: some v :: σ) H Q := ⟨v, rfl, h⟩
theorem s_g4 {x0 x1 x2 x3 : Option V} {y : Option V} {v : V} {σ : St} {N : St → Hp → Prop} (h : N (x0 :: x1 :: x2 :: x3 :: some v :: σ) H) : gName 4 v (x0 :: x1 :: x2 :: x3 :: y :: σ) H N := h
theorem s_v5 {x0 x1 x2 x3 x4 : Option V} {v : V} {σ : St} (h : Q v H) : tVar 5 (x0 :: x1 :: x2 :: x3 :: x4 :: some v :: σ) H Q := ⟨v, rfl, h⟩
theorem s_g5 {x0 x1 x2 x3 x4 : Option V} {y : Option V} {v : V} {σ : St} {N : St → Hp → Prop} (h : N (x0 :: x1 :: x2 :: x3 :: x4 :: some v :: σ) H) : gName 5 v (x0 :: x1 :: x2 :: x3 :: x4 :: y :: σ) H N := h
theorem s_v6 {x0 x1 x2 x3 x4 x5 : Option V} {v : V} {σ : St} (h : Q v H) : tVar 6 (x0 :: x1 :: x2 :: x3 :: x4 :: x5 :: some v :: σ) H Q := ⟨v, rfl, h⟩
theorem s_g6 {x0 x1 x2 x3 x4 x5 : Option V} {y : Option V} {v : V} {σ : St} {N : St → Hp → Prop} (h : N (x0 :: x1 :: x2 :: x3 :: x4 :: x5 :: some v :: σ) H) : gName 6 v (x0 :: x1 :: x2 :: x3 :: x4 :: x5 :: y :: σ) H N := h
theorem s_v7 {x0 x1 x2 x3 x4 x5 x6 : Option V} {v : V} {σ : St} (h : Q v H) : tVar 7 (x0 :: x1 :: x2 :: x3 :: x4 :: x5 :: x6 :: some v :: σ) H Q := ⟨v, rfl, h⟩
theorem s_g7 {x0 x1 x2 x3 x4 x5 x6 : Option V} {y : Option V} {v : V} {σ : St} {N : St → Hp → Prop} (h : N (x0 :: x1 :: x2 :: x3 :: x4 :: x5 :: x6 :: some v :: σ) H) : gName 7 v (x0 :: x1 :: x2 :: x3 :: x4 :: x5 :: x6 :: y :: σ) H N := h
theorem s_v8 {x0 x1 x2 x3 x4 x5 x6 x7 : Option V} {v : V} {σ : St} (h : Q v H) : tVar 8 (x0 :: x1 :: x2 :: x3 :: x4 :: x5 :: x6 :: x7 :: some v :: σ) H Q := ⟨v, rfl, h⟩
theorem s_g8 {x0 x1 x2 x3 x4 x5 x6 x7 : Option V} {y : Option V} {v : V} {σ : St} {N : St → Hp → Prop} (h : N (x0 :: x1 :: x2 :: x3 :: x4 :: x5 :: x6 :: x7 :: some v :: σ) H) : gName 8 v (x0 :: x1 :: x2 :: x3 :: x4 :: x5 :: x6 :: x7 :: y :: σ) H N := h
theorem s_v9 {x0 x1 x2 x3 x4 x5 x6 x7 x8 : Option V} {v : V} {σ : St} (h : Q v H) : tVar 9 (x0 :: x1 :: x2 :: x3 :: x4 :: x5 :: x6 :: x7 :: x8 :: some v :: σ) H Q := ⟨v, rfl, h⟩
theorem s_g9 {x0 x1 x2 x3 x4 x5 x6 x7 x8 : Option V} {y : Option V} {v : V} {σ : St} {N : St → Hp → Prop} (h : N (x0 :: x1 :: x2 :: x3 :: x4 :: x5 :: x6 :: x7 :: x8 :: some v :: σ) H) : gName 9 v (x0 :: x1 :: x2 :: x3 :: x4 :: x5 :: x6 :: x7 :: x8 :: y :: σ) H N := h
theorem s_v10 {x0 x1 x2 x3 x4 x5 x6 x7 x8 x9 : Option V} {v : V} {σ : St} (h : Q v H) : tVar 10 (x0 :: x1 :: x2 :: x3 :: x4 :: x5 :: x6 :: x7 :: x8 :: x9 :: some v :: σ) H Q := ⟨v, rfl, h⟩
theorem s_g10 {x0 x1 x2 x3 x4 x5 x6 x7 x8 x9 : Option V} {y : Option V} {v : V} {σ : St} {N : St → Hp → Prop} (h : N (x0 :: x1 :: x2 :: x3 :: x4 :: x5 :: x6 :: x7 :: x8 :: x9 :: some v :: σ) H) : gName 10 v (x0 :: x1 :: x2 :: x3 :: x4 :: x5 :: x6 :: x7 :: x8 :: x9 :: y :: σ) H N := h
theorem s_v11 {x0 x1 x2 x3 x4 x5 x6 x7 x8 x9 x10 : Option V} {v : V} {σ : St} (h : Q v H) : tVar 11 (x0 :: x1 :: x2 :: x3 :: x4 :: x5 :: x6 :: x7 :: x8 :: x9 :: x10 :: some v :: σ) H Q := ⟨v, rfl, h⟩
theorem s_g11 {x0 x1 x2 x3 x4 x5 x6 x7 x8 x9 x10 : Option V} {y : Option V} {v : V} {σ : St} {N : St → Hp → Prop} (h : N (x0 :: x1 :: x2 :: x3 :: x4 :: x5 :: x6 :: x7 :: x8 :: x9 :: x10 :: some v :: σ) H) : gName 11 v (x0 :: x1 :: x2 :: x3 :: x4 :: x5 :: x6 :: x7 :: x8 :: x9 :: x10 :: y :: σ) H N := h
theorem s_v12 {x0 x1 x2 x3 x4 x5 x6 x7 x8 x9 x10 x11 : Option V} {v : V} {σ : St} (h : Q v H) : tVar 12 (x0 :: x1 :: x2 :: x3 :: x4 :: x5 :: x6 :: x7 :: x8 :: x9 :: x10 :: x11 :: some v :: σ) H Q := ⟨v, rfl, h⟩
theorem s_g12 {x0 x1 x2 x3 x4 x5 x6 x7 x8 x9 x10 x11 : Option V} {y : Option V} {v : V} {σ : St} {N : St → Hp → Prop} (h : N (x0 :: x1 :: x2 :: x3 :: x4 :: x5 :: x6 :: x7 :: x8 :: x9 :: x10 :: x11 :: some v :: σ) H) : gName 12 v (x0 :: x1 :: x2 :: x3 :: x4 :: x5 :: x6 :: x7 :: x8 :: x9 :: x10 :: x11 :: y :: σ) H N := h
theorem s_v13 {x0 x1 x2 x3 x4 x5 x6 x7 x8 x9 x10 x11 x12 : Option V} {v : V} {σ : St} (h : Q v H) : tVar 13 (x0 :: x1 :: x2 :: x3 :: x4 :: x5 :: x6 :: x7 :: x8 :: x9 :: x10 :: x11 :: x12 :: some v :: σ) H Q := ⟨v, rfl, h⟩
theorem s_g13 {x0 x1 x2 x3 x4 x5 x6 x7 x8 x9 x10 x11 x12 : Option V} {y : Option V} {v : V} {σ : St} {N : St → Hp → Prop} (h : N (x0 :: x1 :: x2 :: x3 :: x4 :: x5 :: x6 :: x7 :: x8 :: x9 :: x10 :: x11 :: x12 :: some v :: σ) H) : gName 13 v (x0 :: x1 :: x2 :: x3 :: x4 :: x5 :: x6 :: x7 :: x8 :: x9 :: x10 :: x11 :: x12 :: y :: σ) H N := h
theorem s_v14 {x0 x1 x2 x3 x4 x5 x6 x7 x8 x9 x10 x11 x12 x13 : Option V} {v : V} {σ : St} (h : Q v H) : tVar 14 (x0 :: x1 :: x2 :: x3 :: x4 :: x5 :: x6 :: x7 :: x8 :: x9 :: x10 :: x11 :: x12 :: x13 :: some v :: σ) H Q := ⟨v, rfl, h⟩
theorem s_g14 {x0 x1 x2 x3 x4 x5 x6 x7 x8 x9 x10 x11 x12 x13 : Option V} {y : Option V} {v : V} {σ : St} {N : St → Hp → Prop} (h : N (x0 :: x1 :: x2 :: x3 :: x4 :: x5 :: x6 :: x7 :: x8 :: x9 :: x10 :: x11 :: x12 :: x13 :: some v :: σ) H) : gName 14 v (x0 :: x1 :: x2 :: x3 :: x4 :: x5 :: x6 :: x7 :: x8 :: x9 :: x10 :: x11 :: x12 :: x13 :: y :: σ) H N := h
theorem s_v15 {x0 x1 x2 x3 x4 x5 x6 x7 x8 x9 x10 x11 x12 x13 x14 : Option V} {v : V} {σ : St} (h : Q v H) : tVar 15 (x0 :: x1 :: x2 :: x3 :: x4 :: x5 :: x6 :: x7 :: x8 :: x9 :: x10 :: x11 :: x12 :: x13 :: x14 :: some v :: σ) H Q := ⟨v, rfl, h⟩
theorem s_g15 {x0 x1 x2 x3 x4 x5 x6 x7 x8 x9 x10 x11 x12 x13 x14 : Option V} {y : Option V} {v : V} {σ : St} {N : St → Hp → Prop} (h : N (x0 :: x1 :: x2 :: x3 :: x4 :: x5 :: x6 :: x7 :: x8 :: x9 :: x10 :: x11 :: x12 :: x13 :: x14 :: some v :: σ) H) : gName 15 v (x0 :: x1 :: x2 :: x3 :: x4 :: x5 :: x6 :: x7 :: x8 :: x9 :: x10 :: x11 :: x12 :: x13 :: x14 :: y :: σ) H N := h
theorem s_v16 {x0 x1 x2 x3 x4 x5 x6 x7 x8 x9 x10 x11 x12 x13 x14 x15 : Option V} {v : V} {σ : St} (h : Q v H) : tVar 16 (x0 :: x1 :: x2 :: x3 :: x4 :: x5 :: x6 :: x7 :: x8 :: x9 :: x10 :: x11 :: x12 :: x13 :: x14 :: x15 :: some v :: σ) H Q := ⟨v, rfl, h⟩
theorem s_g16 {x0 x1 x2 x3 x4 x5 x6 x7 x8 x9 x10 x11 x12 x13 x14 x15 : Option V} {y : Option V} {v : V} {σ : St} {N : St → Hp → Prop} (h : N (x0 :: x1 :: x2 :: x3 :: x4 :: x5 :: x6 :: x7 :: x8 :: x9 :: x10 :: x11 :: x12 :: x13 :: x14 :: x15 :: some v :: σ) H) : gName 16 v (x0 :: x1 :: x2 :: x3 :: x4 :: x5 :: x6 :: x7 :: x8 :: x9 :: x10 :: x11 :: x12 :: x13 :: x14 :: x15 :: y :: σ) H N := h
theorem s_v17 {x0 x1 x2 x3 x4 x5 x6 x7 x8 x9 x10 x11 x12 x13 x14 x15 x16 : Option V} {v : V} {σ : St} (h : Q v H) : tVar 17 (x0 :: x1 :: x2 :: x3 :: x4 :: x5 :: x6 :: x7 :: x8 :: x9 :: x10 :: x11 :: x12 :: x13 :: x14 :: x15 :: x16 :: some v :: σ) H Q := ⟨v, rfl, h⟩
theorem s_g17 {x0 x1 x2 x3 x4 x5 x6 x7 x8 x9 x10 x11 x12 x13 x14 x15 x16 : Option V} {y : Option V} {v : V} {σ : St} {N : St → Hp → Prop} (h : N (x0 :: x1 :: x2 :: x3 :: x4 :: x5 :: x6 :: x7 :: x8 :: x9 :: x10 :: x11 :: x12 :: x13 :: x14 :: x15 :: x16 :: some v :: σ) H) : gName 17 v (x0 :: x1 :: x2 :: x3 :: x4 :: x5 :: x6 :: x7 :: x8 :: x9 :: x10 :: x11 :: x12 :: x13 :: x14 :: x15 :: x16 :: y :: σ) H N := h
theorem s_c {v : V} (h : Q v H) : tC v σ H Q := h
theorem s_op {r : R2} {ta tb : TE} (h : ta σ H fun x H1 => tb σ H1 fun y H2 => r x y H2 Q) : tOp r ta tb σ H Q := h
theorem s_un {r : V → Hp → VK → Prop} {ta : TE} (h : ta σ H fun x H1 => r x H1 Q) : tUn r ta σ H Q := h
def NewT (xs : List V) (H : Hp) (Q : VK) : Prop := xs.length ≤ sizeLine ∧ ∀ p, H p = none → Q (.ref p) (upd H p (.tup xs))
def NewL (xs : List V) (H : Hp) (Q : VK) : Prop := xs.length ≤ sizeLine ∧ ∀ p, H p = none → Q (.ref p) (upd H p (.lst xs))
theorem s_tup {ta : TA} (h : ta σ H fun xs H1 => NewT xs H1 Q) : tTup ta σ H Q := h
theorem s_lst {ta : TA} (h : ta σ H fun xs H1 => NewL xs H1 Q) : tLst ta σ H Q := h
theorem s_newT {xs : List V} (z : xs.length ≤ sizeLine) (h : ∀ p, H p = none → Q (.ref p) (upd H p (.tup xs))) : NewT xs H Q := ⟨z, h⟩
theorem s_newL {xs : List V} (z : xs.length ≤ sizeLine) (h : ∀ p, H p = none → Q (.ref p) (upd H p (.lst xs))) : NewL xs H Q := ⟨z, h⟩
theorem size_le {xs : List V} (h : xs.length ≤ 1000) : xs.length ≤ sizeLine := Nat.le_of_lt (L2.small1000 h)
theorem size_le2 {n : Nat} (h : n ≤ 1000) : n ≤ sizeLine := Nat.le_of_lt (L2.small1000 h)
-- for
def ForR (J : It) (g : TG) (tb : TS) (D : Ends) (σ : St) (H1 : Hp) : Prop := ∃ W : Nat → Nat → St → Hp → Prop, (∃ m, W 0 m σ H1) ∧ ∀ i m σ H, W i m σ H →
  (J.stop i H ∧ D.nx σ H) ∨ (J.go i H ∧ ∃ N : St → Hp → Prop, (∀ σ' H', N σ' H' → ∃ m', m' < m ∧ W (i + 1) m' σ' H') ∧ ∀ x H', J.yld i H x H' → g x σ H' fun σ2 H2 => tb { D with nx := N, ct := N, bk := D.nx } σ2 H2)
theorem s_for {wi : TI} {g : TG} {tb : TS} (h : wi σ H fun J H1 => ForR J g tb D σ H1) : tFor wi g tb D σ H := h
theorem s_iList {tl : TE} {R : It → Hp → Prop} (h : tl σ H fun x H1 => ∃ a, x = .ref a ∧ (∃ xs, SqL K H1 a xs) ∧ R (Itl K a) H1) : iList K tl σ H R := h
theorem s_iTup {tl : TE} {R : It → Hp → Prop} (h : tl σ H fun x H1 => ∃ a, x = .ref a ∧ (∃ xs, SqT K H1 a xs) ∧ R (Itt K a) H1) : iTup K tl σ H R := h
theorem s_isL {p : Addr} {xs : List V} {N : Addr → Prop} (hs : SqL K H p xs) (h : N p) : ∃ a, V.ref p = V.ref a ∧ (∃ xs, SqL K H a xs) ∧ N a := ⟨p, rfl, ⟨xs, hs⟩, h⟩
theorem s_rng1 {ta : TA} {R : It → Hp → Prop} (h : ta σ H fun vs H1 => ∃ j : Int, vs = [.int j] ∧ -(2 ^ 62) ≤ j ∧ j < 2 ^ 62 ∧ R (Itr 0 j.toNat) H1) : iRng1 ta σ H R := h
theorem s_isR1 {i : Int} {N : Int → Prop} (l1 : -(2 ^ 62) ≤ i) (l2 : i < 2 ^ 62) (h : N i) : ∃ j : Int, [V.int i] = [V.int j] ∧ -(2 ^ 62) ≤ j ∧ j < 2 ^ 62 ∧ N j := ⟨i, rfl, l1, l2, h⟩
theorem f_list {a : Addr} {xs : List V} {g : TG} {tb : TS} (Pv : Nat → St → Hp → Prop) (h0 : Pv 0 σ H) (hl : ∀ i σ H, i ≤ xs.length → Pv i σ H → SqL K H a xs)
    (hs : ∀ i x σ H, xs[i]? = some x → Pv i σ H → g x σ H fun σ2 H2 => tb { D with nx := Pv (i + 1), ct := Pv (i + 1), bk := D.nx } σ2 H2) (hd : ∀ σ H, Pv xs.length σ H → D.nx σ H) : ForR (Itl K a) g tb D σ H := for_list Pv h0 hl hs hd
theorem f_range {lo : Int} {n : Nat} {g : TG} {tb : TS} (Pv : Nat → St → Hp → Prop) (h0 : Pv 0 σ H)
    (hs : ∀ i σ H, i < n → Pv i σ H → g (.int (lo + i)) σ H fun σ2 H2 => tb { D with nx := Pv (i + 1), ct := Pv (i + 1), bk := D.nx } σ2 H2) (hd : ∀ σ H, Pv n σ H → D.nx σ H) : ForR (Itr lo n) g tb D σ H := for_range Pv h0 hs hd
/-- a walk over a list that changes no heap; the slots i, j are the body's -/
theorem f_all2 {a : Addr} {xs : List V} {g : TG} {tb : TS} (Φ : Hp → V → Prop) (i j : Nat) (hs : SqL K H a xs) (hx : ∀ x, x ∈ xs → Φ H x) (hi : ∃ y z, (σ.set i y).set j z = σ)
    (turn : ∀ x y z, Φ H x → g x ((σ.set i y).set j z) H fun σ2 H2 => tb { D with nx := fun σ' H' => (∃ y z, σ' = (σ.set i y).set j z) ∧ H' = H, ct := fun σ' H' => (∃ y z, σ' = (σ.set i y).set j z) ∧ H' = H, bk := D.nx } σ2 H2)
    (fin : ∀ y z, D.nx ((σ.set i y).set j z) H) : ForR (Itl K a) g tb D σ H := by
  refine f_list (xs := xs) (fun _ σ' H' => (∃ y z, σ' = (σ.set i y).set j z) ∧ H' = H) ⟨?_, rfl⟩ ?_ ?_ ?_
  · obtain ⟨y, z, e⟩ := hi
    exact ⟨y, z, e.symm⟩
  · rintro _ _ _ _ ⟨_, rfl⟩
    exact hs
  · rintro n x σ' H' e ⟨⟨y, z, rfl⟩, rfl⟩
    exact turn x y z (hx x (List.mem_of_getElem? e))
  · rintro σ' H' ⟨⟨y, z, rfl⟩, rfl⟩
    exact fin y z
/-- the slots js hold what f tells -/
def sets (σ : St) (js : List Nat) (f : Nat → Option V) : St := js.foldl (fun s j => s.set j (f j)) σ
def Upd (js : List Nat) (σ σ' : St) : Prop := ∃ f, σ' = sets σ js f
theorem i_of {σ' : St} {js : List Nat} (h : σ' = sets σ js (fun j => (σ'[j]?).join)) : Upd js σ σ' := ⟨_, h⟩
/-- a walk over a list: the slots js are the body's, R holds of the heap -/
theorem f_each {a : Addr} {xs : List V} {g : TG} {tb : TS} (js : List Nat) (R : Nat → Hp → Prop) (r0 : R 0 H) (h0 : σ = sets σ js (fun j => (σ[j]?).join)) (hs : ∀ n H', R n H' → SqL K H' a xs)
    (turn : ∀ n x f H1, xs[n]? = some x → R n H1 → g x (sets σ js f) H1 fun σ2 H2 => tb { D with nx := fun σ' H' => Upd js σ σ' ∧ R (n + 1) H', ct := fun σ' H' => Upd js σ σ' ∧ R (n + 1) H', bk := D.nx } σ2 H2)
    (fin : ∀ f H1, R xs.length H1 → D.nx (sets σ js f) H1) : ForR (Itl K a) g tb D σ H := by
  refine f_list (xs := xs) (fun n σ' H' => Upd js σ σ' ∧ R n H') ⟨i_of h0, r0⟩ ?_ ?_ ?_
  · rintro n _ H' _ ⟨_, r⟩
    exact hs n H' r
  · rintro n x σ' H' e ⟨⟨f, rfl⟩, r⟩
    exact turn n x f H' e r
  · rintro σ' H' ⟨⟨f, rfl⟩, r⟩
    exact fin f H' r
/-- the same where the turn lays new things alone -/
theorem f_eachS {a : Addr} {xs : List V} {g : TG} {tb : TS} (Φ : Hp → V → Prop) (js : List Nat) (hs : SqL K H a xs) (h0 : σ = sets σ js (fun j => (σ[j]?).join)) (hx : ∀ x, x ∈ xs → Φ H x)
    (turn : ∀ x f H1, Same H H1 → Φ H x → g x (sets σ js f) H1 fun σ2 H2 => tb { D with nx := fun σ' H' => Upd js σ σ' ∧ Same H H', ct := fun σ' H' => Upd js σ σ' ∧ Same H H', bk := D.nx } σ2 H2)
    (fin : ∀ f H1, Same H H1 → D.nx (sets σ js f) H1) : ForR (Itl K a) g tb D σ H :=
  f_each (xs := xs) js (fun _ H' => Same H H') (Same.refl H) h0 (fun _ _ r => r.seq hs) (fun _ x f H1 e r => turn x f H1 r (hx x (List.mem_of_getElem? e))) fin
theorem r_each {lo : Int} {m : Nat} {g : TG} {tb : TS} (js : List Nat) (R : Nat → Hp → Prop) (r0 : R 0 H) (h0 : σ = sets σ js (fun j => (σ[j]?).join))
    (turn : ∀ n f H1, n < m → R n H1 → g (.int (lo + n)) (sets σ js f) H1 fun σ2 H2 => tb { D with nx := fun σ' H' => Upd js σ σ' ∧ R (n + 1) H', ct := fun σ' H' => Upd js σ σ' ∧ R (n + 1) H', bk := D.nx } σ2 H2)
    (fin : ∀ f H1, R m H1 → D.nx (sets σ js f) H1) : ForR (Itr lo m) g tb D σ H := by
  refine f_range (fun n σ' H' => Upd js σ σ' ∧ R n H') ⟨i_of h0, r0⟩ ?_ ?_
  · rintro n σ' H' e ⟨⟨f, rfl⟩, r⟩
    exact turn n f H' e r
  · rintro σ' H' ⟨⟨f, rfl⟩, r⟩
    exact fin f H' r
theorem s_ixR0 {a : Addr} {v0 : V} {vs : List V} (hs : H a = some (.tup (v0 :: vs))) (h : Q v0 H) : rIx K (.ref a) (.int 0) H Q := .inr (.inl ⟨a, _, 0, _, rfl, rfl, SqT.of hs, atI_nat (j := 0) rfl, h⟩)
theorem s_ixR1 {a : Addr} {v0 v1 : V} {vs : List V} (hs : H a = some (.tup (v0 :: v1 :: vs))) (h : Q v1 H) : rIx K (.ref a) (.int 1) H Q := .inr (.inl ⟨a, _, 1, _, rfl, rfl, SqT.of hs, atI_nat (j := 1) rfl, h⟩)
theorem s_ixR2 {a : Addr} {v0 v1 v2 : V} {vs : List V} (hs : H a = some (.tup (v0 :: v1 :: v2 :: vs))) (h : Q v2 H) : rIx K (.ref a) (.int 2) H Q := .inr (.inl ⟨a, _, 2, _, rfl, rfl, SqT.of hs, atI_nat (j := 2) rfl, h⟩)
theorem s_ixR3 {a : Addr} {v0 v1 v2 v3 : V} {vs : List V} (hs : H a = some (.tup (v0 :: v1 :: v2 :: v3 :: vs))) (h : Q v3 H) : rIx K (.ref a) (.int 3) H Q := .inr (.inl ⟨a, _, 3, _, rfl, rfl, SqT.of hs, atI_nat (j := 3) rfl, h⟩)
theorem s_addT {x y : V} {ds es : List PyData} (hx : Dt K H x (.tuple ds)) (hy : Dt K H y (.tuple es)) (n1 : ds ≠ []) (n2 : es ≠ []) (l : ds.length + es.length ≤ 1000) (h : ∀ v H', Same H H' → Dt K H' v (.tuple (ds ++ es)) → Q v H') : rAddU K x y H Q := by
  obtain ⟨a, xs, rfl, hs, ha⟩ := hx.tup_inv
  obtain ⟨b, ys, rfl, ht, hb⟩ := hy.tup_inv
  have e1 := ha.len
  have e2 := hb.len
  refine .inr (.inr (.inr ⟨a, b, xs, ys, rfl, rfl, hs, ht, fun z => n1 ?_, Nat.le_of_lt (L2.small1000 (by omega)), fun z => absurd ?_ n2, fun _ p hp => h _ _ (same_new hp) (dt_new (ha.append hb) hp)⟩))
  · subst z; exact List.length_eq_zero_iff.mp e1.symm
  · subst z; exact List.length_eq_zero_iff.mp e2.symm
theorem s_addT1 {x y : V} {d : PyData} {es : List PyData} (hx : Dt K H x (.tuple [d])) (hy : Dt K H y (.tuple es)) (n2 : es ≠ []) (l : 1 + es.length ≤ 1000) (h : ∀ v H', Same H H' → Dt K H' v (.tuple (d :: es)) → Q v H') : rAddU K x y H Q := s_addT hx hy (List.cons_ne_nil _ _) n2 l h
/-- a list of data -/
theorem s_addL {a b : Addr} {xs ys : List V} (hx : H a = some (.lst xs)) (hy : H b = some (.lst ys)) (z : xs.length + ys.length ≤ sizeLine) (h : ∀ p, H p = none → Q (.ref p) (upd H p (.lst (xs ++ ys)))) : rAddU K (.ref a) (.ref b) H Q :=
  .inr (.inr (.inl ⟨a, b, xs, ys, rfl, rfl, hx, hy, z, h⟩))
def RevQ (K : PySem.W.Frag) (x : V) (H : Hp) (Q : VK) : Prop := ∃ p xs, x = .ref p ∧ SqL K H p xs ∧ ∀ l, H l = none → Q (.ref l) (upd H l (.lst xs.reverse))
theorem s_revL {te : TE} (h : te σ H fun x H1 => RevQ K x H1 Q) : tRevL K te σ H Q := h
theorem s_isRev {p : Addr} {xs : List V} (hs : SqL K H p xs) (h : ∀ l, H l = none → Q (.ref l) (upd H l (.lst xs.reverse))) : RevQ K (.ref p) H Q := ⟨p, xs, rfl, hs, h⟩
/-- two lists of the same fractions -/
def lay : PyData → Bool := fun d => d.canLay0 && decide (d.depth ≤ 64)
theorem frs_lay : ∀ rs : List Rat, PyData.canLayAll0 (rs.map fr) = true
  | [] => by simp [PyData.canLayAll0]
  | r :: rs => by rw [List.map_cons, PyData.canLayAll0, frs_lay rs]; rfl
theorem frs_depth : ∀ rs : List Rat, PyData.depthAll (rs.map fr) ≤ 2
  | [] => by simp [PyData.depthAll]
  | r :: rs => by
    have h := frs_depth rs
    have h1 : (fr r).depth ≤ 2 := by show PyData.depth (.tuple [.int r.num, .int r.den]) ≤ 2; simp [PyData.depth, PyData.depthAll]
    simp only [List.map_cons, PyData.depthAll]
    omega
theorem sh_frs (rs : List Rat) : SeqAt.shaped (.list (rs.map fr)) = true := by
  have h1 := frs_lay rs
  have h2 := frs_depth rs
  unfold SeqAt.shaped
  rw [Bool.and_eq_true]
  refine ⟨by rw [PyData.canLay0]; exact h1, decide_eq_true (by simp only [PyData.depth]; omega)⟩
theorem s_eqLF {a b : Addr} {vs ws : List V} {rs : List Rat} (ha : SqL K H a vs) (hb : SqL K H b ws) (da : DtAll K H vs (rs.map fr)) (db : DtAll K H ws (rs.map fr)) (h : Q (.bl true) H) : rEqD K (.ref a) (.ref b) H Q :=
  ⟨_, _, .lst ha da.dp, .lst hb db.dp, sh_frs rs, sh_frs rs, by rw [SeqAt.eqv_refl _ (SeqAt.canLay_of_shaped (sh_frs rs))]; exact h⟩
theorem DtAll.rev {vs : List V} {ds : List PyData} (h : DtAll K H vs ds) : DtAll K H vs.reverse ds.reverse := by
  induction ds generalizing vs with
  | nil => cases h; exact .nil
  | cons d ds ih => cases h with | cons h a => rw [List.reverse_cons, List.reverse_cons]; exact (ih a).append (.cons h .nil)
-- slices
theorem s_sl {r : V → Option Int → Option Int → Hp → VK → Prop} {te : TE} {tl th : TO} (h : te σ H fun x H1 => tl σ H1 fun l H2 => th σ H2 fun u H3 => r x l u H3 Q) : tSl r te tl th σ H Q := h
theorem s_noPart {N : Option Int → Hp → Prop} (h : N none H) : tNoPart σ H N := h
theorem s_part {t : TE} {N : Option Int → Hp → Prop} (h : t σ H fun x H1 => ∃ i, x = .int i ∧ N (some i) H1) : tPart t σ H N := h
theorem s_isI {i : Int} {N : Int → Prop} (h : N i) : ∃ j, V.int i = V.int j ∧ N j := ⟨i, rfl, h⟩
theorem s_slL {a : Addr} {xs : List V} {lo hi : Option Int} (hs : SqL K H a xs) (h : ∀ p, H p = none → Q (.ref p) (upd H p (.lst (cutV xs lo hi)))) : rSlU K (.ref a) lo hi H Q := .inl ⟨a, xs, rfl, hs, h⟩
theorem cut_ints (ns : List Int) (lo hi : Option Int) : ∃ ms : List Int, cutV (ns.map V.int) lo hi = ms.map V.int :=
  ⟨(ns.drop (HT.sIx (ns.map V.int).length 0 lo)).take (HT.sIx (ns.map V.int).length (ns.map V.int).length hi - HT.sIx (ns.map V.int).length 0 lo), by unfold cutV; rw [List.map_take, List.map_drop]⟩
theorem s_listL {a : Addr} {xs : List V} (hs : SqL K H a xs) (h : ∀ p, H p = none → Q (.ref p) (upd H p (.lst xs))) : rListU K [.ref a] H Q := ⟨a, xs, rfl, .inl hs, h⟩
/-- some item of a list -/
theorem s_menu {a : Addr} {xs : List V} {i : Int} (hs : SqL K H a xs) (h0 : 0 ≤ i) (h1 : i < xs.length) (h : ∀ v, v ∈ xs → Q v H) : rIx K (.ref a) (.int i) H Q := by
  obtain ⟨j, rfl⟩ : ∃ j : Nat, i = (j : Int) := ⟨i.toNat, by omega⟩
  have hj : j < xs.length := by omega
  exact .inl ⟨a, xs, _, xs[j], rfl, rfl, hs, atI_nat (List.getElem?_eq_getElem hj), h _ (List.getElem_mem hj)⟩
theorem s_menuP {a : Addr} {xs : List V} {i : Int} (Φ : Hp → V → Prop) (hs : SqL K H a xs) (h0 : 0 ≤ i) (h1 : i < xs.length) (hx : ∀ v, v ∈ xs → Φ H v) (h : ∀ v, Φ H v → Q v H) : rIx K (.ref a) (.int i) H Q :=
  s_menu hs h0 h1 fun v hv => h v (hx v hv)
theorem s_menuI {a : Addr} {xs : List V} {i : Int} (lo hi : Int) (hs : SqL K H a xs) (h0 : 0 ≤ i) (h1 : i < xs.length) (hx : ∀ v, v ∈ xs → ∃ z, v = .int z ∧ lo ≤ z ∧ z ≤ hi) (h : ∀ z, lo ≤ z → z ≤ hi → Q (.int z) H) : rIx K (.ref a) (.int i) H Q :=
  s_menu hs h0 h1 fun v hv => by
    obtain ⟨z, rfl, a, b⟩ := hx v hv
    exact h z a b
theorem s_app {to : TE} {t : TA} {r : V → List V → Hp → VK → Prop} {T : String} (h : to σ H fun x H1 => tyV K T x H1 ∧ t σ H1 fun xs H2 => r x xs H2 Q) : tBM K T r to t σ H Q := h
theorem s_tyL {a : Addr} {xs : List V} {N : Prop} (hs : SqL K H a xs) (h : N) : tyV K "list" (.ref a) H ∧ N := ⟨.inl ⟨rfl, xs, hs⟩, h⟩
theorem s_append {a : Addr} {xs : List V} {y : V} (hs : H a = some (.lst xs)) (z : xs.length < sizeLine) (h : Q .non (upd H a (.lst (xs ++ [y])))) : rAppend (.ref a) [y] H Q := ⟨a, xs, y, rfl, rfl, hs, z, h⟩
theorem s_nil {N : List V → Hp → Prop} (h : N [] H) : tNil σ H N := h
theorem s_cons {ta : TE} {tr : TA} {N : List V → Hp → Prop} (h : ta σ H fun x H1 => tr σ H1 fun xs H2 => N (x :: xs) H2) : tCons ta tr σ H N := h
theorem s_cb {r : List V → Hp → VK → Prop} {t : TA} (h : t σ H fun vs H1 => r vs H1 Q) : tCB r t σ H Q := h
theorem s_call {sp : Sp} {dvs : List V} {E : XK} {t : TA} (h : t σ H fun vs H1 => sp (vs ++ dvs) H1 Q E) : tCall sp dvs E t σ H Q := h
theorem s_test {t : TE} {N : Bool → Hp → Prop} (h : t σ H fun x H' => ∃ k, x = .bl k ∧ N k H') : tTest t σ H N := h
theorem s_B {t : TE} {N : Bool → Hp → Prop} (h : t σ H fun x H' => ∃ k, x = .bl k ∧ N k H') : tB t σ H N := h
theorem s_tru {t : TE} {N : Bool → Hp → Prop} (h : t σ H fun x H' => ∃ k, TruV K x H' k ∧ N k H') : tTruU K t σ H N := h
theorem s_isB {k : Bool} {N : Bool → Prop} (h : N k) : ∃ k', V.bl k = V.bl k' ∧ N k' := ⟨k, rfl, h⟩
theorem s_truI {i : Int} {N : Bool → Prop} (h : N (i != 0)) : ∃ k, TruV K (.int i) H k ∧ N k := ⟨_, rfl, h⟩
theorem s_truB {b : Bool} {N : Bool → Prop} (h : N b) : ∃ k, TruV K (.bl b) H k ∧ N k := ⟨_, rfl, h⟩
theorem s_and {t u : TT} {N : Bool → Hp → Prop} (h : t σ H fun c H1 => if c = true then u σ H1 N else N false H1) : tAnd t u σ H N := h
theorem s_or {t u : TT} {N : Bool → Hp → Prop} (h : t σ H fun c H1 => if c = true then N true H1 else u σ H1 N) : tOr t u σ H N := h
theorem s_not {t : TT} {N : Bool → Hp → Prop} (h : t σ H fun c H1 => N (!c) H1) : tNot t σ H N := h
theorem s_andV {ta tb : TE} (h : ta σ H fun x H1 => ∃ c, x = .bl c ∧ if c = true then tb σ H1 Q else Q (.bl false) H1) : tAndV ta tb σ H Q := h
theorem s_orV {ta tb : TE} (h : ta σ H fun x H1 => ∃ c, x = .bl c ∧ if c = true then Q (.bl true) H1 else tb σ H1 Q) : tOrV ta tb σ H Q := h
theorem s_notV {ta : TE} (h : ta σ H fun x H1 => ∃ c, x = .bl c ∧ Q (.bl (!c)) H1) : tNotV ta σ H Q := h
theorem s_chain {r r' : R2} {ta tb tc : TE} (h : ta σ H fun x H1 => tb σ H1 fun y H2 => r x y H2 fun z H3 => ∃ k, z = .bl k ∧ if k = true then tc σ H3 fun w H4 => r' y w H4 Q else Q (.bl false) H3) : tChain r r' ta tb tc σ H Q := by
  first
    | exact h
    | (unfold tChain; exact h)
-- by values
theorem s_addI {i j : Int} (h : Q (.int (i + j)) H) : rAddU K (.int i) (.int j) H Q := .inl ⟨i, j, rfl, rfl, h⟩
theorem s_addS {i j : Str} (l : i.length + j.length ≤ sizeLine) (h : Q (.str (i ++ j)) H) : rAddU K (.str i) (.str j) H Q := .inr (.inl ⟨i, j, rfl, rfl, l, h⟩)
theorem s_subI {i j : Int} (h : Q (.int (i - j)) H) : rSubU (.int i) (.int j) H Q := ⟨i, j, rfl, rfl, h⟩
theorem s_mulI {i j : Int} (c : CMulZ i j) (h : Q (.int (i * j)) H) : rMulU (.int i) (.int j) H Q := .inl ⟨i, j, rfl, rfl, c, h⟩
theorem s_divI {i j : Int} (c : CDivZ i j) (h : Q (.int (i.fdiv j)) H) : rDivU (.int i) (.int j) H Q := ⟨i, j, rfl, rfl, c, h⟩
theorem s_modI {i j : Int} (c : j ≠ 0) (h : Q (.int (i.fmod j)) H) : rModU (.int i) (.int j) H Q := ⟨i, j, rfl, rfl, c, h⟩
theorem s_powI {i j : Int} (c : CPow i j) (h : Q (.int (i ^ j.toNat)) H) : rPowU (.int i) (.int j) H Q := ⟨i, j, rfl, rfl, c, h⟩
theorem s_pow2 (h : Q (.int 100) H) : rPowU (.int 10) (.int 2) H Q := s_powI ⟨by decide, by decide, by decide⟩ (by exact h)
theorem s_pow3 (h : Q (.int 1000) H) : rPowU (.int 10) (.int 3) H Q := s_powI ⟨by decide, by decide, by decide⟩ (by exact h)
theorem s_pow4 (h : Q (.int 10000) H) : rPowU (.int 10) (.int 4) H Q := s_powI ⟨by decide, by decide, by decide⟩ (by exact h)
theorem s_pow5 (h : Q (.int 100000) H) : rPowU (.int 10) (.int 5) H Q := s_powI ⟨by decide, by decide, by decide⟩ (by exact h)
theorem s_pow6 (h : Q (.int 1000000) H) : rPowU (.int 10) (.int 6) H Q := s_powI ⟨by decide, by decide, by decide⟩ (by exact h)
theorem s_pow7 (h : Q (.int 10000000) H) : rPowU (.int 10) (.int 7) H Q := s_powI ⟨by decide, by decide, by decide⟩ (by exact h)
theorem s_pow8 (h : Q (.int 100000000) H) : rPowU (.int 10) (.int 8) H Q := s_powI ⟨by decide, by decide, by decide⟩ (by exact h)
theorem s_pow9 (h : Q (.int 1000000000) H) : rPowU (.int 10) (.int 9) H Q := s_powI ⟨by decide, by decide, by decide⟩ (by exact h)
theorem s_pow10 (h : Q (.int 10000000000) H) : rPowU (.int 10) (.int 10) H Q := s_powI ⟨by decide, by decide, by decide⟩ (by exact h)
theorem s_pow12 (h : Q (.int 1000000000000) H) : rPowU (.int 10) (.int 12) H Q := s_powI ⟨by decide, by decide, by decide⟩ (by exact h)
theorem s_negI {i : Int} (h : Q (.int (-i)) H) : rNegU (.int i) H Q := ⟨i, rfl, h⟩
theorem s_ltI {i j : Int} (h : Q (.bl (decide (i < j))) H) : rLtI (.int i) (.int j) H Q := ⟨i, j, rfl, rfl, h⟩
theorem s_leI {i j : Int} (h : Q (.bl (decide (i ≤ j))) H) : rLeI (.int i) (.int j) H Q := ⟨i, j, rfl, rfl, h⟩
theorem s_gtI {i j : Int} (h : Q (.bl (decide (j < i))) H) : rGtI (.int i) (.int j) H Q := ⟨i, j, rfl, rfl, h⟩
theorem s_geI {i j : Int} (h : Q (.bl (decide (j ≤ i))) H) : rGeI (.int i) (.int j) H Q := ⟨i, j, rfl, rfl, h⟩
theorem eqvI (i j : Int) : PyData.eqv (.int i) (.int j) = decide (i = j) := by
  simp only [PyData.eqv]
  by_cases h : i = j <;> simp [h]
theorem eqvB (i j : Bool) : PyData.eqv (.bool i) (.bool j) = decide (i = j) := by
  cases i <;> cases j <;> (simp only [PyData.eqv]; rfl)
theorem shI (i : Int) : SeqAt.shaped (.int i) = true := rfl
theorem shB (i : Bool) : SeqAt.shaped (.bool i) = true := rfl
theorem s_eqI {i j : Int} (h : Q (.bl (decide (i = j))) H) : rEqD K (.int i) (.int j) H Q := ⟨_, _, .int i, .int j, shI i, shI j, by rw [eqvI]; exact h⟩
theorem s_neI {i j : Int} (h : Q (.bl (!decide (i = j))) H) : rNeD K (.int i) (.int j) H Q := ⟨_, _, .int i, .int j, shI i, shI j, by rw [eqvI]; exact h⟩
theorem s_eqB {i j : Bool} (h : Q (.bl (decide (i = j))) H) : rEqD K (.bl i) (.bl j) H Q := ⟨_, _, .bl i, .bl j, shB i, shB j, by rw [eqvB]; exact h⟩
theorem s_neB {i j : Bool} (h : Q (.bl (!decide (i = j))) H) : rNeD K (.bl i) (.bl j) H Q := ⟨_, _, .bl i, .bl j, shB i, shB j, by rw [eqvB]; exact h⟩
/-- two data -/
theorem s_eqD {x y : V} {d e : PyData} (hx : Dt K H x d) (hy : Dt K H y e) (sd : SeqAt.shaped d = true) (se : SeqAt.shaped e = true) (h : Q (.bl (PyData.eqv d e)) H) : rEqD K x y H Q := ⟨d, e, hx.dp, hy.dp, sd, se, h⟩
theorem s_neD {x y : V} {d e : PyData} (hx : Dt K H x d) (hy : Dt K H y e) (sd : SeqAt.shaped d = true) (se : SeqAt.shaped e = true) (h : Q (.bl (!PyData.eqv d e)) H) : rNeD K x y H Q := ⟨d, e, hx.dp, hy.dp, sd, se, h⟩
theorem shfr (r : Rat) : SeqAt.shaped (fr r) = true := rfl
theorem eqvfr (r s : Rat) : PyData.eqv (fr r) (fr s) = decide (r = s) := by
  have e : PyData.eqv (fr r) (fr s) = ((r.num == s.num) && (((r.den : Int) == (s.den : Int)) && true)) := by simp only [fr, PyData.eqv, PyData.eqvAll]
  rw [e]
  by_cases h : r = s
  · subst h; simp
  · have : ¬ (r.num = s.num ∧ (r.den : Int) = s.den) := fun ⟨a, b⟩ => h (Rat.ext a (by omega))
    rw [decide_eq_false h]
    by_cases h1 : r.num = s.num
    · have h2 : ¬ (r.den : Int) = s.den := fun z => this ⟨h1, z⟩
      rw [beq_eq_false_iff_ne.mpr h2]; simp
    · rw [beq_eq_false_iff_ne.mpr h1]; simp
theorem s_eqF {x y : V} {d e : Rat} (hx : Dt K H x (fr d)) (hy : Dt K H y (fr e)) (h : Q (.bl (decide (d = e))) H) : rEqD K x y H Q := ⟨_, _, hx.dp, hy.dp, shfr _, shfr _, by rw [eqvfr]; exact h⟩
theorem s_neF {x y : V} {d e : Rat} (hx : Dt K H x (fr d)) (hy : Dt K H y (fr e)) (h : Q (.bl (!decide (d = e))) H) : rNeD K x y H Q := ⟨_, _, hx.dp, hy.dp, shfr _, shfr _, by rw [eqvfr]; exact h⟩
theorem s_eqFF {x y : V} {d : Rat} (hx : Dt K H x (fr d)) (hy : Dt K H y (fr d)) (h : Q (.bl true) H) : rEqD K x y H Q := s_eqF hx hy (by rw [decide_eq_true rfl]; exact h)
theorem s_neFF {x y : V} {d : Rat} (hx : Dt K H x (fr d)) (hy : Dt K H y (fr d)) (h : Q (.bl false) H) : rNeD K x y H Q := s_neF hx hy (by rw [decide_eq_true rfl]; exact h)
theorem sh2 (a b : Rat) : SeqAt.shaped (.tuple [fr a, fr b]) = true := rfl
theorem s_eqD2 {x y : V} {a b : Rat} (hx : Dt K H x (.tuple [fr a, fr b])) (hy : Dt K H y (.tuple [fr a, fr b])) (h : Q (.bl true) H) : rEqD K x y H Q := s_eqD hx hy (sh2 a b) (sh2 a b) (by rw [SeqAt.eqv_refl _ (SeqAt.canLay_of_shaped (sh2 a b))]; exact h)
theorem s_neD2 {x y : V} {a b : Rat} (hx : Dt K H x (.tuple [fr a, fr b])) (hy : Dt K H y (.tuple [fr a, fr b])) (h : Q (.bl false) H) : rNeD K x y H Q := s_neD hx hy (sh2 a b) (sh2 a b) (by rw [SeqAt.eqv_refl _ (SeqAt.canLay_of_shaped (sh2 a b))]; exact h)
-- subscripts
theorem atI_of {α : Type} {xs : List α} {i : Nat} {v : α} (h : xs[i]? = some v) : atI xs (i : Int) = some v := atI_nat h
theorem DtAll.at {vs : List V} {ds : List PyData} (h : DtAll K H vs ds) {i : Int} {d : PyData} (e : atI ds i = some d) : ∃ v, atI vs i = some v ∧ Dt K H v d := by
  unfold atI at e ⊢
  rw [h.len]
  cases q : ixN ds.length i with
  | none => rw [q] at e; cases e
  | some j => rw [q] at e; exact h.get e
theorem s_ixT {x : V} {ds : List PyData} {i : Int} {d : PyData} (hx : Dt K H x (.tuple ds)) (e : atI ds i = some d) (h : ∀ v, Dt K H v d → Q v H) : rIx K x (.int i) H Q := by
  obtain ⟨a, xs, rfl, hs, ha⟩ := hx.tup_inv
  obtain ⟨v, e1, e2⟩ := ha.at e
  exact .inr (.inl ⟨a, xs, i, v, rfl, rfl, hs, e1, h v e2⟩)
theorem s_ixTi {x : V} {ds : List PyData} {i : Int} {z : Int} (hx : Dt K H x (.tuple ds)) (e : atI ds i = some (.int z)) (h : Q (.int z) H) : rIx K x (.int i) H Q :=
  s_ixT hx e fun v hv => by rw [hv.int_eq]; exact h
theorem s_ixTs {x : V} {ds : List PyData} {i : Int} {z : Str} (hx : Dt K H x (.tuple ds)) (e : atI ds i = some (.str z)) (h : Q (.str z) H) : rIx K x (.int i) H Q :=
  s_ixT hx e fun v hv => by rw [hv.str_eq]; exact h
theorem s_ixF0 {x : V} {r : Rat} (hx : Dt K H x (fr r)) (h : Q (.int r.num) H) : rIx K x (.int 0) H Q := s_ixTi (i := 0) hx rfl h
theorem s_ixF1 {x : V} {r : Rat} (hx : Dt K H x (fr r)) (h : Q (.int r.den) H) : rIx K x (.int 1) H Q := s_ixTi (i := 1) hx rfl h
theorem s_ixL {a : Addr} {xs : List V} {i : Int} {v : V} (hs : SqL K H a xs) (e : atI xs i = some v) (h : Q v H) : rIx K (.ref a) (.int i) H Q := .inl ⟨a, xs, i, v, rfl, rfl, hs, e, h⟩
theorem s_ixS {z : Str} {i : Int} {c : Nat} (l : z.length ≤ sizeLine) (e : atI z.cps.toList i = some c) (h : Q (.str ⟨#[c]⟩) H) : rIx K (.str z) (.int i) H Q := .inr (.inr ⟨z, i, c, rfl, rfl, l, e, h⟩)
theorem s_setL {a : Addr} {xs : List V} {i : Int} {j : Nat} {v : V} {N : Hp → Prop} (hs : H a = some (.lst xs)) (e : ixN xs.length i = some j) (h : N (upd H a (.lst (xs.set j v)))) : rSetL (.ref a) (.int i) v H N := ⟨a, xs, i, j, rfl, rfl, hs, e, h⟩
theorem s_ixT0 {x : V} {d0 : PyData} {ds : List PyData} (hx : Dt K H x (.tuple (d0 :: ds))) (h : ∀ v, Dt K H v d0 → Q v H) : rIx K x (.int 0) H Q := s_ixT hx (atI_nat (j := 0) rfl) h
theorem s_ixL0 {a : Addr} {v0 : V} {vs : List V} (hs : SqL K H a (v0 :: vs)) (h : Q v0 H) : rIx K (.ref a) (.int 0) H Q := s_ixL hs (atI_nat (j := 0) rfl) h
theorem s_setL0 {a : Addr} {v0 v : V} {vs : List V} {N : Hp → Prop} (hs : H a = some (.lst (v0 :: vs))) (h : N (upd H a (.lst (v :: vs)))) : rSetL (.ref a) (.int 0) v H N := s_setL (j := 0) hs (by show ixN _ ((0 : Nat) : Int) = some 0; unfold ixN; rw [if_pos (by omega), if_pos (by simp only [List.length_cons]; omega)]; rfl) h
theorem s_ixT1 {x : V} {d0 d1 : PyData} {ds : List PyData} (hx : Dt K H x (.tuple (d0 :: d1 :: ds))) (h : ∀ v, Dt K H v d1 → Q v H) : rIx K x (.int 1) H Q := s_ixT hx (atI_nat (j := 1) rfl) h
theorem s_ixL1 {a : Addr} {v0 v1 : V} {vs : List V} (hs : SqL K H a (v0 :: v1 :: vs)) (h : Q v1 H) : rIx K (.ref a) (.int 1) H Q := s_ixL hs (atI_nat (j := 1) rfl) h
theorem s_setL1 {a : Addr} {v0 v1 v : V} {vs : List V} {N : Hp → Prop} (hs : H a = some (.lst (v0 :: v1 :: vs))) (h : N (upd H a (.lst (v0 :: v :: vs)))) : rSetL (.ref a) (.int 1) v H N := s_setL (j := 1) hs (by show ixN _ ((1 : Nat) : Int) = some 1; unfold ixN; rw [if_pos (by omega), if_pos (by simp only [List.length_cons]; omega)]; rfl) h
theorem s_ixT2 {x : V} {d0 d1 d2 : PyData} {ds : List PyData} (hx : Dt K H x (.tuple (d0 :: d1 :: d2 :: ds))) (h : ∀ v, Dt K H v d2 → Q v H) : rIx K x (.int 2) H Q := s_ixT hx (atI_nat (j := 2) rfl) h
theorem s_ixL2 {a : Addr} {v0 v1 v2 : V} {vs : List V} (hs : SqL K H a (v0 :: v1 :: v2 :: vs)) (h : Q v2 H) : rIx K (.ref a) (.int 2) H Q := s_ixL hs (atI_nat (j := 2) rfl) h
theorem s_setL2 {a : Addr} {v0 v1 v2 v : V} {vs : List V} {N : Hp → Prop} (hs : H a = some (.lst (v0 :: v1 :: v2 :: vs))) (h : N (upd H a (.lst (v0 :: v1 :: v :: vs)))) : rSetL (.ref a) (.int 2) v H N := s_setL (j := 2) hs (by show ixN _ ((2 : Nat) : Int) = some 2; unfold ixN; rw [if_pos (by omega), if_pos (by simp only [List.length_cons]; omega)]; rfl) h
theorem s_ixT3 {x : V} {d0 d1 d2 d3 : PyData} {ds : List PyData} (hx : Dt K H x (.tuple (d0 :: d1 :: d2 :: d3 :: ds))) (h : ∀ v, Dt K H v d3 → Q v H) : rIx K x (.int 3) H Q := s_ixT hx (atI_nat (j := 3) rfl) h
theorem s_ixL3 {a : Addr} {v0 v1 v2 v3 : V} {vs : List V} (hs : SqL K H a (v0 :: v1 :: v2 :: v3 :: vs)) (h : Q v3 H) : rIx K (.ref a) (.int 3) H Q := s_ixL hs (atI_nat (j := 3) rfl) h
theorem s_setL3 {a : Addr} {v0 v1 v2 v3 v : V} {vs : List V} {N : Hp → Prop} (hs : H a = some (.lst (v0 :: v1 :: v2 :: v3 :: vs))) (h : N (upd H a (.lst (v0 :: v1 :: v2 :: v :: vs)))) : rSetL (.ref a) (.int 3) v H N := s_setL (j := 3) hs (by show ixN _ ((3 : Nat) : Int) = some 3; unfold ixN; rw [if_pos (by omega), if_pos (by simp only [List.length_cons]; omega)]; rfl) h
theorem s_ixT4 {x : V} {d0 d1 d2 d3 d4 : PyData} {ds : List PyData} (hx : Dt K H x (.tuple (d0 :: d1 :: d2 :: d3 :: d4 :: ds))) (h : ∀ v, Dt K H v d4 → Q v H) : rIx K x (.int 4) H Q := s_ixT hx (atI_nat (j := 4) rfl) h
theorem s_ixL4 {a : Addr} {v0 v1 v2 v3 v4 : V} {vs : List V} (hs : SqL K H a (v0 :: v1 :: v2 :: v3 :: v4 :: vs)) (h : Q v4 H) : rIx K (.ref a) (.int 4) H Q := s_ixL hs (atI_nat (j := 4) rfl) h
theorem s_setL4 {a : Addr} {v0 v1 v2 v3 v4 v : V} {vs : List V} {N : Hp → Prop} (hs : H a = some (.lst (v0 :: v1 :: v2 :: v3 :: v4 :: vs))) (h : N (upd H a (.lst (v0 :: v1 :: v2 :: v3 :: v :: vs)))) : rSetL (.ref a) (.int 4) v H N := s_setL (j := 4) hs (by show ixN _ ((4 : Nat) : Int) = some 4; unfold ixN; rw [if_pos (by omega), if_pos (by simp only [List.length_cons]; omega)]; rfl) h
theorem s_ixT5 {x : V} {d0 d1 d2 d3 d4 d5 : PyData} {ds : List PyData} (hx : Dt K H x (.tuple (d0 :: d1 :: d2 :: d3 :: d4 :: d5 :: ds))) (h : ∀ v, Dt K H v d5 → Q v H) : rIx K x (.int 5) H Q := s_ixT hx (atI_nat (j := 5) rfl) h
theorem s_ixL5 {a : Addr} {v0 v1 v2 v3 v4 v5 : V} {vs : List V} (hs : SqL K H a (v0 :: v1 :: v2 :: v3 :: v4 :: v5 :: vs)) (h : Q v5 H) : rIx K (.ref a) (.int 5) H Q := s_ixL hs (atI_nat (j := 5) rfl) h
theorem s_setL5 {a : Addr} {v0 v1 v2 v3 v4 v5 v : V} {vs : List V} {N : Hp → Prop} (hs : H a = some (.lst (v0 :: v1 :: v2 :: v3 :: v4 :: v5 :: vs))) (h : N (upd H a (.lst (v0 :: v1 :: v2 :: v3 :: v4 :: v :: vs)))) : rSetL (.ref a) (.int 5) v H N := s_setL (j := 5) hs (by show ixN _ ((5 : Nat) : Int) = some 5; unfold ixN; rw [if_pos (by omega), if_pos (by simp only [List.length_cons]; omega)]; rfl) h
-- calls of built-ins
theorem s_lenL {a : Addr} {xs : List V} (hs : SqL K H a xs) (h : Q (.int xs.length) H) : rLenU K [.ref a] H Q := ⟨.ref a, xs.length, rfl, .inl ⟨xs, hs, rfl⟩, h⟩
theorem s_lenT {x : V} {ds : List PyData} (hx : Dt K H x (.tuple ds)) (h : Q (.int ds.length) H) : rLenU K [x] H Q := by
  obtain ⟨a, xs, rfl, hs, ha⟩ := hx.tup_inv
  exact ⟨.ref a, xs.length, rfl, .inr ⟨xs, hs, rfl⟩, by rw [ha.len]; exact h⟩
theorem size1 {a : V} : [a].length ≤ sizeLine := by show 1 ≤ sizeLine; decide
theorem size2 {a b : V} : [a, b].length ≤ sizeLine := by show 2 ≤ sizeLine; decide
theorem size3 {a b c : V} : [a, b, c].length ≤ sizeLine := by show 3 ≤ sizeLine; decide
theorem size4 {a b c d : V} : [a, b, c, d].length ≤ sizeLine := by show 4 ≤ sizeLine; decide
theorem abs_if (i : Int) : (if i < 0 then -i else i) = (i.natAbs : Int) := by
  by_cases h : i < 0
  · rw [if_pos h]; omega
  · rw [if_neg h]; omega
theorem s_abs {i : Int} (h : Q (.int (i.natAbs : Int)) H) : rAbsU [.int i] H Q := ⟨i, rfl, by rw [abs_if]; exact h⟩
theorem lt_dec (r s : Rat) : decide (r.num * (s.den : Int) < s.num * (r.den : Int)) = decide (r < s) := by
  by_cases h : r < s
  · rw [decide_eq_true h, decide_eq_true ((Rat.lt_iff r s).mp h)]
  · rw [decide_eq_false h, decide_eq_false (fun z => h ((Rat.lt_iff r s).mpr z))]
theorem mz_of {i j : Int} {n m : Nat} (h : i.natAbs < 2 ^ n) (k : j.natAbs < 2 ^ m) (h0 : 0 < n) (k0 : 0 < m) (l : n + m ≤ 1000000) : CMulZ i j := .inr (wide_mul h k h0 k0 l)
theorem mz_nd {r s : Rat} (h : Sz 400000 r) (k : Sz 400000 s) : CMulZ r.num s.den := mz_of h.1 k.dA (by decide) (by decide) (by decide)
theorem mz_nn {r s : Rat} (h : Sz 400000 r) (k : Sz 400000 s) : CMulZ r.num s.num := mz_of h.1 k.1 (by decide) (by decide) (by decide)
theorem mz_dd {r s : Rat} (h : Sz 400000 r) (k : Sz 400000 s) : CMulZ r.den s.den := mz_of h.dA k.dA (by decide) (by decide) (by decide)
theorem mz_dn {r s : Rat} (h : Sz 400000 r) (k : Sz 400000 s) : CMulZ r.den s.num := mz_of h.dA k.1 (by decide) (by decide) (by decide)
theorem cz_l {i j : Int} (h : -18446744073709551616 < i) (k : i < 18446744073709551616) : CMulZ i j := .inl (.inl ⟨h, k⟩)
theorem cz_r {i j : Int} (h : -18446744073709551616 < j) (k : j < 18446744073709551616) : CMulZ i j := .inl (.inr ⟨h, k⟩)
theorem dz_of {i j : Int} {n : Nat} (h : j ≠ 0) (k : j.natAbs < 2 ^ n) (h0 : 0 < n) (l : n ≤ 9000) : CDivZ i j := ⟨h, Nat.lt_of_lt_of_le (PySem.Flt.log2_lt_of h0 k) l⟩
theorem dz_sm {i j : Int} (h : 0 < j) (k : j < 18446744073709551616) : CDivZ i j := dz_of (n := 64) (by omega) (by omega) (by decide) (by decide)
theorem s_max {i j : Int} (h : Q (.int (if j > i then j else i)) H) : rMaxU [.int i, .int j] H Q := ⟨i, j, rfl, h⟩
theorem s_min {i j : Int} (h : Q (.int (if j < i then j else i)) H) : rMinU [.int i, .int j] H Q := ⟨i, j, rfl, h⟩
theorem kit_ii : kitB "int" "int" = some true := by decide +kernel
theorem kit_ib : kitB "int" "bool" = some false := by decide +kernel
theorem kit_bi : kitB "bool" "int" = some true := by decide +kernel
theorem kit_bb : kitB "bool" "bool" = some true := by decide +kernel
theorem kit_tt : kitB "tuple" "tuple" = some true := by decide +kernel
theorem s_isII {i : Int} (h : Q (.bl true) H) : rIsi K [.int i, .ty "int"] H Q := ⟨_, _, _, _, true, rfl, .ty _, .base (.int i), kit_ty kit_ii, h⟩
theorem s_isIB {i : Int} (h : Q (.bl false) H) : rIsi K [.int i, .ty "bool"] H Q := ⟨_, _, _, _, false, rfl, .ty _, .base (.int i), kit_ty kit_ib, h⟩
theorem s_isBI {b : Bool} (h : Q (.bl true) H) : rIsi K [.bl b, .ty "int"] H Q := ⟨_, _, _, _, true, rfl, .ty _, .base (.bl b), kit_ty kit_bi, h⟩
theorem s_isBB {b : Bool} (h : Q (.bl true) H) : rIsi K [.bl b, .ty "bool"] H Q := ⟨_, _, _, _, true, rfl, .ty _, .base (.bl b), kit_ty kit_bb, h⟩
theorem Dt.tyT {x : V} {ds : List PyData} (hx : Dt K H x (.tuple ds)) : TyX K H x (.type "tuple") := by
  obtain ⟨a, xs, rfl, hs, _⟩ := hx.tup_inv
  rcases hs with (h | ⟨o, h⟩) | ⟨o, its, n, h, c, _⟩
  · exact .base (.tup h)
  · exact .fTuple h
  · exact .kTuple h c
theorem s_isTT {x : V} {ds : List PyData} (hx : Dt K H x (.tuple ds)) (h : Q (.bl true) H) : rIsi K [x, .ty "tuple"] H Q := ⟨_, _, _, _, true, rfl, .ty _, hx.tyT, kit_ty kit_tt, h⟩
end
/-! ### the law's bag: [the script's numbers, how many are taken, what is left of a great one, the salt] -/
def Bag (H : Hp) (b l : Addr) : Prop := ∃ (ns : List Int) (p r z : Int), H b = some (.lst [.ref l, .int p, .int r, .int z]) ∧ H l = some (.lst (ns.map V.int)) ∧ 0 ≤ p ∧ -(2 ^ 40) < z ∧ z < 2 ^ 40 ∧ l ≠ b
theorem Bag.same {H H' : Hp} {b l : Addr} (s : Same H H') (h : Bag H b l) : Bag H' b l := by
  obtain ⟨ns, p, r, z, h1, h2, h3⟩ := h
  exact ⟨ns, p, r, z, s _ _ h1, s _ _ h2, h3⟩
theorem Bag.upd {H : Hp} {b l q : Addr} {o : HO} (h : Bag H b l) (n1 : q ≠ b) (n2 : q ≠ l) : Bag (upd H q o) b l := by
  obtain ⟨ns, p, r, z, h1, h2, h3⟩ := h
  exact ⟨ns, p, r, z, (upd_ne n1.symm).trans h1, (upd_ne n2.symm).trans h2, h3⟩
theorem Bag.ne1 {H : Hp} {b l q : Addr} (h : Bag H b l) (n : H q = none) : q ≠ b := fun e => by
  obtain ⟨_, _, _, _, h1, _⟩ := h
  rw [e, h1] at n
  cases n
theorem Bag.ne2 {H : Hp} {b l q : Addr} (h : Bag H b l) (n : H q = none) : q ≠ l := fun e => by
  obtain ⟨_, _, _, _, _, h1, _⟩ := h
  rw [e, h1] at n
  cases n
theorem Bag.ne1' {H : Hp} {b l q : Addr} (n : H q = none) (h : Bag H b l) : q ≠ b := h.ne1 n
theorem Bag.ne2' {H : Hp} {b l q : Addr} (n : H q = none) (h : Bag H b l) : q ≠ l := h.ne2 n
theorem Bag.new {H : Hp} {b l q : Addr} {o : HO} (h : Bag H b l) (n : H q = none) : Bag (L2.upd H q o) b l := h.same (same_new n)
theorem but_of {H H' : Hp} {b l : Addr} (h : Bag H b l) (k : ∀ a o, a ≠ b → H a = some o → H' a = some o) : But b H H' := ⟨k, by obtain ⟨_, _, _, _, h1, _⟩ := h; exact ⟨_, h1⟩⟩
theorem But.same {H H1 H2 : Hp} {b : Addr} (s : But b H H1) (t : Same H1 H2) : But b H H2 := ⟨fun a o n h => t _ _ (s.oth a o n h), s.lst⟩
theorem But.trans {H H1 H2 : Hp} {b : Addr} (s : But b H H1) (t : But b H1 H2) : But b H H2 := ⟨fun a o n h => t.oth a o n (s.oth a o n h), s.lst⟩
theorem But.ofSame {H H1 : Hp} {b l : Addr} (h : Bag H b l) (t : Same H H1) : But b H H1 := but_of h fun a o _ e => t a o e
theorem but_mut {H H1 : Hp} {b q : Addr} {o : HO} (s : But b H H1) (n : H q = none) : But b H (upd H1 q o) := ⟨fun a u k h => by rw [upd_ne (ne_of_none h n)]; exact s.oth a u k h, s.lst⟩
theorem But.free {H H1 : Hp} {b q : Addr} (s : But b H H1) (nb : q ≠ b) (h : H1 q = none) : H q = none := by
  cases e : H q with
  | none => rfl
  | some o => rw [s.oth q o nb e] at h; cases h
/-- a def upon data that lays nothing -/
def spV {α : Type} (K : PySem.W.Frag) (arg : α → List PyData) (pre : α → Prop) (res : α → V) : Sp := fun vs H Q _ => ∃ x : α, DtAll K H vs (arg x) ∧ pre x ∧ Q (res x) H
theorem spV.len {α : Type} {K : PySem.W.Frag} {arg : α → List PyData} {pre : α → Prop} {res : α → V} {n : Nat} (hn : ∀ x, (arg x).length = n) {vs : List V} {H : Hp} {Q : VK} {E : XK} (h : spV K arg pre res vs H Q E) : vs.length = n := by
  obtain ⟨x, h, _⟩ := h
  exact h.len.trans (hn x)
theorem da1 {K : PySem.W.Frag} {H : Hp} {vs : List V} {a : PyData} (h : DtAll K H vs [a]) : ∃ x, vs = [x] ∧ Dt K H x a := by
  cases h with | cons h t => cases t; exact ⟨_, rfl, h⟩
theorem da2 {K : PySem.W.Frag} {H : Hp} {vs : List V} {a b : PyData} (h : DtAll K H vs [a, b]) : ∃ x y, vs = [x, y] ∧ Dt K H x a ∧ Dt K H y b := by
  cases h with | cons h t => obtain ⟨y, rfl, k⟩ := da1 t; exact ⟨_, _, rfl, h, k⟩
theorem da3 {K : PySem.W.Frag} {H : Hp} {vs : List V} {a b c : PyData} (h : DtAll K H vs [a, b, c]) : ∃ x y z, vs = [x, y, z] ∧ Dt K H x a ∧ Dt K H y b ∧ Dt K H z c := by
  cases h with | cons h t => obtain ⟨y, z, rfl, k⟩ := da2 t; exact ⟨_, _, _, rfl, h, k⟩
/-- a draw: args behind the bag, what is asked of them, what comes -/
def spB {α : Type} (K : PySem.W.Frag) (arg : α → List PyData) (pre : α → Prop) (post : α → PyData → Prop) : Sp := fun vs H Q _ => ∃ (b l : Addr) (ws : List V) (x : α), vs = .ref b :: ws ∧ Bag H b l ∧ DtAll K H ws (arg x) ∧ pre x ∧
  ∀ v d H', But b H H' → Bag H' b l → post x d → Dt K H' v d → Q v H'
/-- a def upon data -/
def spP {α : Type} (K : PySem.W.Frag) (arg : α → List PyData) (pre : α → Prop) (res : α → PyData) : Sp := fun vs H Q _ => ∃ x : α, DtAll K H vs (arg x) ∧ pre x ∧ ∀ v H', Same H H' → Dt K H' v (res x) → Q v H'
theorem spB.len {α : Type} {K : PySem.W.Frag} {arg : α → List PyData} {pre : α → Prop} {post : α → PyData → Prop} {n : Nat} (hn : ∀ x, (arg x).length = n) {vs : List V} {H : Hp} {Q : VK} {E : XK} (h : spB K arg pre post vs H Q E) : vs.length = n + 1 := by
  obtain ⟨b, l, ws, x, rfl, _, h, _⟩ := h
  exact congrArg Nat.succ (h.len.trans (hn x))
theorem spP.len {α : Type} {K : PySem.W.Frag} {arg : α → List PyData} {pre : α → Prop} {res : α → PyData} {n : Nat} (hn : ∀ x, (arg x).length = n) {vs : List V} {H : Hp} {Q : VK} {E : XK} (h : spP K arg pre res vs H Q E) : vs.length = n := by
  obtain ⟨x, h, _⟩ := h
  exact h.len.trans (hn x)
end Cr

namespace Cr
open PySem PySem.Spec PyProof.Rows L2
/-! ### own error classes without an __init__ of their own -/
structure ExcT (K : PySem.W.Frag) (mg : Str → Option Value) (x : Str) (C : Addr) (bm : List Value) (new : String) : Prop where
  g : mg x = some (.ref C)
  q : PySem.W.excIn K C bm new = true
  k : PySem.W.keepIn K (.ref C) = true
  s : PySem.W.subIn K (.ref C) (.type "BaseException") = some true
  t : PySem.W.typeIn K (.ref C) = some (.type "type")
  hd : PySem.W.hasDictIn K C = true
  self : PySem.W.subIn K (.ref C) (.ref C) = some true
theorem ExcT.te {K : PySem.W.Frag} {mg : Str → Option Value} {x : Str} {C : Addr} {bm : List Value} {new : String} (T : ExcT K mg x C bm new) : PySem.W.exmOne K (.ref C) (.ref C) = some true := PySem.W.exm_ref T.s T.hd T.t T.self
section
variable {X : Cx} {pos : Pos}
/-- C(), an own error without arguments -/
theorem pmk_own0 {C : Addr} {bmB : List Value} {B newId initId : String} {x : Str} {p : Pos} (F : ExcBaseFacts B newId initId bmB) (q : PySem.W.excIn X.K C bmB newId = true) (gC : X.mg x = some (.ref C))
    (kC : PySem.W.keepIn X.K (.ref C) = true) (r : Raises X (.ref C)) (hg : Gl X x) (hdb : (x == ("__debug__" : Str)) = false := by decide) :
    PMk X (.Call (.Name x p) [] [] pos) (fun _ H Q => Q (.ref C) none H) := by
  intro pins s σ H Q I h
  refine wpAny_Call_Name_kw (ld_glob I hg gC ?_ hdb)
  refine PySem.W.callWith_K0 I.kIn kC ?_
  show wpAny _ _ (call (.ref C) []) _ _ _
  obtain ⟨bm, N, nm, qn, bs, hdct, sn, sub, ab, col, dd, k0, k1, k2, k3, k5, mN, hC, hN, hni, T⟩ := exc_obj I.kIn q
  refine wpAny_call_exc_subT F T hC hN hni (fun h' e hm => ?_) (Nat.zero_le _)
  exact mk_of I hm r h (I.hok.gone hm.new)
end
/-! ### calls with keywords -/
theorem kb1 {K : PySem.W.Frag} {x qual : Str} {params : Arguments} {body : List Stmt} {scope : Scope} {dvs : List V} {kws : List (Str × V)} {f : Addr} {fd : FuncData} {ps : List Str} (F : FunD K x qual params body scope dvs kws f fd) (n : Nat) (ks : List Str)
    (g : {α : Type} → List α → List α → List α → List α) (hd : dvs ≠ [])
    (hrel : ∀ {vs ds zs : List V} {us its ws : List Value}, Vals vs us → Vals ds its → Vals zs ws → Vals (g vs ds zs) (g us its ws))
    (h : ∀ (T : Addr) (kV doc pm : Value) (an : Option Addr) (cdv ct : Value) (us its ws : List Value), us.length = n → its.length = dvs.length → ws.length = ks.length →
      ∃ k, bindArgs (PySem.W.fnOf x qual params body scope (.ref T) kV doc pm an cdv ct) ⟨us, ks.zip ws⟩ = seqItems? (.ref T) >>= k ∧ k (some its.toArray) = pure (ps.zip (g us its ws))) :
    ∃ its : List Value, KBn K fd ps n ks (fun us ws => g us its ws) (fun vs zs => g vs dvs zs) := by
  obtain ⟨oc, od, dV, kV, doc, pm, an, cdv, ct, osl, rfl, lk, hcd, hD, hK⟩ := F.ex
  rcases hD with ⟨e, _⟩ | ⟨_, T, o, its, m, rfl, lT, oT, rT⟩
  · exact absurd e hd
  · refine ⟨its, ⟨fun s us ws X l1 l2 => ?_, fun r1 r2 => hrel r1 rT r2⟩⟩
    obtain ⟨k, e1, e2⟩ := h T kV doc pm an cdv ct us its ws l1 rT.length.symm l2
    refine BindsTo.of_looks fun M => ?_
    rw [e1]
    exact looks_items X lT oT (.of_pure e2)
/-- f(k = v, ..) -/
theorem pe_callN0 {X : Cx} {CX : CXT} {k : Nat} {f : Addr} {fd : FuncData} {ps ks : List Str} {sp : Sp} {E : XK} {x : Str} {p pos : Pos} {kws : List Keyword} {tk : TA} {g : List Value → List Value → List Value} {gV : List V → List V → List V}
    (F : FnOk X.prog X.w X.K X.mg X.base CX k f fd ps sp) (hr : Room k X.A) (hg : Gl X x) (hm : X.mg x = some (.ref f)) (hk : PySem.W.keepIn X.K (.ref f) = true) (hb : KBn X.K fd ps 0 ks g gV) (hx : Passes CX X E)
    (hkw : PK X kws tk) (hall : (backToKw pos (keywordEach kws X.env)).all (·.1.isSome) = true := by rfl) (hks : (backToKw pos (keywordEach kws X.env)).filterMap (·.1) = ks := by rfl)
    (hdb : (x == ("__debug__" : Str)) = false := by decide)
    (hpl : ((backTo pos (starEach [] X.env)).any (·.1) || (backToKw pos (keywordEach kws X.env)).any (·.1.isNone)) = false := by rfl) :
    PE X (.Call (.Name x p) [] kws pos) (tCallN 0 ks.length sp gV E tNil tk) := by
  refine ⟨fun pins s σ H Q I h => ?_⟩
  refine wpAny_Call_Name_kw (ld_glob I hg hm ?_ hdb)
  refine PySem.W.callWith_KW0 (h₀ := X.base) I.ok.mod.kin hk hall ?_ hpl
  refine thn (hkw.run pos pins s σ H _ I h) fun ws s2 ⟨zs, H2, I2, rz, l1, l2, q2⟩ => ⟨I2.kIn, ?_⟩
  rw [hks]
  exact run_fnN (us := []) (vs := []) F hr hb hx I2 .nil rz rfl l2 q2
theorem kit_sub {K : PySem.W.Frag} {D : Addr} {n : String} {b : Bool} (m : PySem.W.kitMeta n = true) (e : PySem.W.subIn K (.ref D) (.type n) = some b) : PySem.W.kitOne K (.ref D) (.type n) = some b := by
  show (if (Value.ref D == Value.type n) = true then some true else (if PySem.W.kitMeta n = true then PySem.W.subIn K (.ref D) (.type n) else none)) = some b
  rw [if_neg (by intro h; cases (beq_iff_eq.mp h)), if_pos m]
  exact e
/-- isinstance of the error that the suite holds -/
def rIsX (K : PySem.W.Frag) (D a : Addr) (cls : Value) (d : Option Addr) : List V → Hp → VK → Prop := fun xs H Q => cls = .ref D ∧ d = none ∧ rIsE K D a xs H Q
theorem call_isX {X : Cx} {a D : Addr} {oe : Obj} {pn : List (Addr × Obj)} {cls : Value} {d : Option Addr} (C : ExcC X.K D) (hz : Zc cls d oe) (hf : ∃ vs, oe.data = .fields vs) : CallR (X.suite a ((a, oe) :: pn)) (.builtin "isinstance") (rIsX X.K D a cls d) := by
  intro pins s σ H xs us Q I r h
  obtain ⟨rfl, rfl, h⟩ := h
  exact call_isE C hz hf pins s σ H xs us Q I r h
section
variable {K : PySem.W.Frag} {σ : St} {H : Hp} {Q : VK} {D : Ends}
theorem s_callS {sp : Sp} {E : St → XK} {t : TA} (h : t σ H fun vs H1 => sp vs H1 Q (E σ)) : tCallS sp E t σ H Q := h
theorem s_caught {C : Addr} {ts : Addr → Value → Option Addr → TS} {Wout : WX} {d : Option Addr} (e : PySem.W.exmOne K (.ref C) (.ref C) = some true) (h : ∀ a, H a = none → ts a (.ref C) d D σ H) : wOnly K (.ref C) ts Wout D (.ref C) d σ H :=
  ⟨true, e, fun _ a ha => h a ha, fun z => Bool.noConfusion z⟩
theorem s_callN {n m : Nat} {sp : Sp} {gV : List V → List V → List V} {E : XK} {t tk : TA} (h : t σ H fun vs H1 => tk σ H1 fun zs H2 => vs.length = n ∧ zs.length = m ∧ sp (gV vs zs) H2 Q E) : tCallN n m sp gV E t tk σ H Q := h
theorem s_lens {vs zs : List V} {n m : Nat} {N : Prop} (h1 : vs.length = n) (h2 : zs.length = m) (h : N) : vs.length = n ∧ zs.length = m ∧ N := ⟨h1, h2, h⟩
theorem s_isX {D a : Addr} {n : String} {b : Bool} (e : PySem.W.kitOne K (.ref D) (.type n) = some b) (h : Q (.bl b) H) : rIsX K D a (.ref D) none [.ref a, .ty n] H Q := ⟨rfl, rfl, .ty n, .type n, b, rfl, fun _ r => r, e, h⟩
theorem s_caughtAs {C : Addr} {i : Nat} {ts : Addr → Value → Option Addr → TS} {Wout : WX} {d : Option Addr} (e : PySem.W.exmOne K (.ref C) (.ref C) = some true)
    (h : ∀ a, H a = none → ts a (.ref C) d { nx := fun σ' H' => D.nx (σ'.set i none) H', rt := D.rt, bk := fun σ' H' => D.bk (σ'.set i none) H', ct := fun σ' H' => D.ct (σ'.set i none) H' } (σ.set i (some (.ref a))) H) : wAs K (.ref C) i ts Wout D (.ref C) d σ H :=
  ⟨true, e, fun _ => h, fun z => Bool.noConfusion z⟩
end
/-! ### lots: instances that never change once they are made -/
def isZ : HO → Bool
  | .ins _ _ _ => true
  | o => isT o
def KI (H H' : Hp) : Prop := ∀ a o, H a = some o → isZ o = true → H' a = some o
theorem isZ_T {o : HO} (h : isT o = true) : isZ o = true := by cases o <;> first | exact h | rfl
theorem KI.kt {H H' : Hp} (k : KI H H') : KT H H' := fun a o h t => k a o h (isZ_T t)
theorem ki_same {H H' : Hp} (s : Same H H') : KI H H' := fun a o h _ => s a o h
theorem ki_new {H : Hp} {p : Addr} {o : HO} (h : H p = none) : KI H (upd H p o) := fun a u e _ => by rw [upd_ne (ne_of_none e h)]; exact e
theorem ki_mut {H : Hp} {p : Addr} {o o' : HO} (h : H p = some o) (t : isZ o = false) : KI H (upd H p o') := fun a u e k => by
  rw [upd_ne (fun z => by subst z; rw [h] at e; cases e; rw [t] at k; cases k)]; exact e
theorem ki_but {b : Addr} {H H' : Hp} (s : But b H H') : KI H H' := fun a o h t => s.oth a o (fun z => by subst z; obtain ⟨xs, e⟩ := s.lst; rw [e] at h; cases h; cases t) h
def IsLot (K : PySem.W.Frag) (C : Addr) (H : Hp) (v : V) (w m : Rat) : Prop := ∃ (a dx : Addr) (x y : V), v = .ref a ∧ H a = some (.ins C dx [(("worth" : Str), x), (("mark" : Str), y)]) ∧ Dt K H x (fr w) ∧ Dt K H y (fr m)
section
variable {K : PySem.W.Frag} {C : Addr} {H H' : Hp} {v : V} {w m : Rat} {Q : VK} {σ : St}
theorem IsLot.mono (k : KI H H') (h : IsLot K C H v w m) : IsLot K C H' v w m := by
  obtain ⟨a, dx, x, y, e, h1, h2, h3⟩ := h
  exact ⟨a, dx, x, y, e, k _ _ h1 rfl, h2.mono k.kt, h3.mono k.kt⟩
theorem wm : ¬ (("worth" : Str) = "mark") := by decide +kernel
def FldQ (K : PySem.W.Frag) (x : V) (f : Str) (H : Hp) (Q : VK) : Prop := ∃ a C dx fs v, x = V.ref a ∧ H a = some (.ins C dx fs) ∧ Cls K C ∧ NoAttr K C f ∧ fs.lookup f = some v ∧ Q v H
theorem s_fld {ta : TE} {f : Str} (h : ta σ H fun x H1 => FldQ K x f H1 Q) : tFld K ta f σ H Q := h
theorem s_worth (h : IsLot K C H v w m) (c : Cls K C) (n : NoAttr K C "worth") (q : ∀ x, Dt K H x (fr w) → Q x H) : FldQ K v "worth" H Q := by
  obtain ⟨a, dx, x, y, e, h1, h2, h3⟩ := h
  exact ⟨a, C, dx, _, x, e, h1, c, n, by
    show List.lookup ("worth" : Str) [(("worth" : Str), x), (("mark" : Str), y)] = some x
    rw [List.lookup_cons, show (("worth" : Str) == "worth") = true by decide +kernel], q x h2⟩
theorem s_mark (h : IsLot K C H v w m) (c : Cls K C) (n : NoAttr K C "mark") (q : ∀ x, Dt K H x (fr m) → Q x H) : FldQ K v "mark" H Q := by
  obtain ⟨a, dx, x, y, e, h1, h2, h3⟩ := h
  exact ⟨a, C, dx, _, y, e, h1, c, n, by
    show List.lookup ("mark" : Str) [(("worth" : Str), x), (("mark" : Str), y)] = some y
    rw [List.lookup_cons, show (("mark" : Str) == "worth") = false by decide +kernel]
    rfl, q y h3⟩
def MethQ (C : Addr) (m : Str) (x : V) (H : Hp) (N : Prop) : Prop := ∃ a dx fs, x = V.ref a ∧ H a = some (.ins C dx fs) ∧ fs.lookup m = none ∧ N
theorem s_meth {mn : Str} {sp : Sp} {dvs : List V} {E : XK} {ta : TE} {t : TA} (h : ta σ H fun x H1 => MethQ C mn x H1 (t σ H1 fun vs H2 => sp (x :: (vs ++ dvs)) H2 Q E)) : tMeth C mn sp dvs E ta t σ H Q := h
theorem s_mlot {mn : Str} {N : Prop} (h : IsLot K C H v w m) (e1 : (mn == ("worth" : Str)) = false) (e2 : (mn == ("mark" : Str)) = false) (n : N) : MethQ C mn v H N := by
  obtain ⟨a, dx, x, y, e, h1, _⟩ := h
  exact ⟨a, dx, _, e, h1, by
    rw [List.lookup_cons, e1, List.lookup_cons, e2]
    rfl, n⟩
def MakeQ (C : Addr) (sp : Sp) (dvs : List V) (E : XK) (vs : List V) (H : Hp) (Q : VK) : Prop := ∀ x dx, H x = none → H dx = none → dx ≠ x →
  sp (.ref x :: (vs ++ dvs)) (upd (upd H dx (.own x)) x (.ins C dx [])) (fun v H2 => v = .non ∧ Q (.ref x) H2) E
theorem s_make {sp : Sp} {dvs : List V} {E : XK} {t : TA} (h : t σ H fun vs H1 => MakeQ C sp dvs E vs H1 Q) : tMake C sp dvs E t σ H Q := h
end
end Cr
namespace Cr
open PySem PySem.Spec PyProof.Rows L2
theorem units65 {k : Nat} {A : Around} (r : Room k A) : A.units + 65 < cLine := by have := r.un; omega
/-! ### a cut behind a statement; list comprehensions; more of built-ins -/
inductive A2 {α β : Type} (R : α → β → Prop) : List α → List β → Prop
  | nil : A2 R [] []
  | cons {x : α} {y : β} {xs : List α} {ys : List β} : R x y → A2 R xs ys → A2 R (x :: xs) (y :: ys)
theorem A2.mono {α β : Type} {R S : α → β → Prop} (h : ∀ x y, R x y → S x y) : ∀ {xs : List α} {ys : List β}, A2 R xs ys → A2 S xs ys
  | _, _, .nil => .nil
  | _, _, .cons a b => .cons (h _ _ a) (A2.mono h b)
theorem A2.snoc {α β : Type} {R : α → β → Prop} {x : α} {y : β} (r : R x y) : ∀ {xs : List α} {ys : List β}, A2 R xs ys → A2 R (xs ++ [x]) (ys ++ [y])
  | _, _, .nil => .cons r .nil
  | _, _, .cons a b => .cons a (A2.snoc r b)
theorem A2.len {α β : Type} {R : α → β → Prop} : ∀ {xs : List α} {ys : List β}, A2 R xs ys → xs.length = ys.length
  | _, _, .nil => rfl
  | _, _, .cons _ b => congrArg Nat.succ (A2.len b)
section
variable {K : PySem.W.Frag} {σ : St} {H : Hp} {Q : VK} {D : Ends}
theorem s_cut {t : TS} (js : List Nat) (I : (Nat → Option V) → Hp → Prop) (h : ∀ N' : St → Hp → Prop, (∀ σ' H', σ' = sets σ js (fun j => (σ'[j]?).join) → I (fun j => (σ'[j]?).join) H' → N' σ' H') → t { D with nx := N' } σ H)
    (hN : ∀ f H', I f H' → D.nx (sets σ js f) H') : t D σ H := h D.nx fun σ' H' e i => by rw [e]; exact hN _ H' i
def LcR (J : It) (g : TG) (tt : TT) (te : TE) (vs : List Nat) (σ : St) (H1 : Hp) (Q : VK) : Prop := ∀ D, H1 D = none → ∃ W : Nat → Nat → Hp → Prop, (∃ m, W 0 m (upd H1 D (.lst []))) ∧ ∀ i m H, W i m H →
  (J.stop i H ∧ Q (.ref D) H) ∨ (J.go i H ∧ ∃ Nx : Hp → Prop, (∀ H', Nx H' → ∃ m', m' < m ∧ W (i + 1) m' H') ∧ ∀ x H', J.yld i H x H' → g x (wipe σ vs) H' fun σ2 H2 => wipe σ2 vs = wipe σ vs ∧ tt σ2 H2 fun b H3 =>
    if b = true then te σ2 H3 fun y H4 => ∃ acc, H4 D = some (.lst acc) ∧ acc.length < sizeLine ∧ Nx (upd H4 D (.lst (acc ++ [y]))) else Nx H3)
theorem s_lc {wi : TI} {g : TG} {tt : TT} {te : TE} {vs : List Nat} (h : wi σ H fun J H1 => LcR J g tt te vs σ H1 Q) : tLc wi g tt te vs σ H Q := h
/-- what may happen to the heap at a turn -/
structure Stp (H1 : Hp) (S : Hp → Hp → Prop) : Prop where
  s0 : S H1 H1
  tr : ∀ A B, S H1 A → S A B → S H1 B
  new : ∀ A p o, S H1 A → H1 p = none → S H1 (upd A p o)
  ki : ∀ A B, S A B → KI A B
  keep : ∀ A B p ys, H1 p = none → S H1 A → S A B → A p = some (.lst ys) → B p = some (.lst ys)
theorem stp_same (H1 : Hp) : Stp H1 Same := ⟨Same.refl _, fun _ _ a b => a.trans b, fun _ _ _ a n => same_mut a n, fun _ _ a => ki_same a, fun _ _ _ _ _ _ b e => b _ _ e⟩
def ButB (b l : Addr) : Hp → Hp → Prop := fun A B => But b A B ∧ Bag B b l
theorem stp_but {b l : Addr} {H1 : Hp} (h : Bag H1 b l) : Stp H1 (ButB b l) :=
  ⟨⟨But.ofSame h (Same.refl _), h⟩, fun _ _ a c => ⟨a.1.trans c.1, c.2⟩, fun _ _ _ a n => ⟨but_mut a.1 n, a.2.upd (h.ne1 n) (h.ne2 n)⟩, fun _ _ a => ki_but a.1, fun _ _ _ _ n _ c e => c.1.oth _ _ (h.ne1 n) e⟩
/-- the turns of a list comprehension without a test, over any things that come one by one -/
theorem A2.at {α β : Type} {R : α → β → Prop} : ∀ {xs : List α} {ys : List β}, A2 R xs ys → ∀ {i : Nat} {x : α}, xs[i]? = some x → ∃ y, ys[i]? = some y ∧ R x y
  | _, _, .cons a _, 0, _, e => ⟨_, rfl, by cases e; exact a⟩
  | _, _, .cons _ b, i + 1, _, e => A2.at b (i := i) e
theorem c_core {α : Type} {g : TG} {te : TE} {vs : List Nat} {H1 : Hp} {xs : List V} {zs : List α} {S : Hp → Hp → Prop} (St : Stp H1 S) (P : Hp → V → α → Prop) (R : Hp → α → V → Prop) (pm : ∀ A B x z, KI A B → P A x z → P B x z) (rm : ∀ A B z y, KI A B → R A z y → R B z y)
    (hx : A2 (P H1) xs zs) (hz : xs.length ≤ 1000) {J : It}
    (turn : ∀ x z A (N : V → Hp → Prop), z ∈ zs → P A x z → S H1 A → (∀ y B, S A B → R B z y → N y B) → g x (wipe σ vs) A fun σ2 B => wipe σ2 vs = wipe σ vs ∧ te σ2 B N)
    (fin : ∀ p ys A, S H1 A → H1 p = none → A p = some (.lst ys) → A2 (R A) zs ys → Q (.ref p) A)
    (run : ∀ (D : Addr) (Pv : Nat → Hp → Prop), Pv 0 (upd H1 D (.lst [])) → (∀ i H, Pv i H → S H1 H) →
      (∀ i x H, xs[i]? = some x → Pv i H → g x (wipe σ vs) H fun σ2 H2 => wipe σ2 vs = wipe σ vs ∧ tYes σ2 H2 fun b H3 => if b = true then te σ2 H3 fun y H4 => ∃ acc, H4 D = some (.lst acc) ∧ acc.length < sizeLine ∧ Pv (i + 1) (upd H4 D (.lst (acc ++ [y]))) else Pv (i + 1) H3) →
      (∀ H, Pv xs.length H → Q (.ref D) H) →
      ∃ W : Nat → Nat → Hp → Prop, (∃ m, W 0 m (upd H1 D (.lst []))) ∧ ∀ i m H, W i m H →
      (J.stop i H ∧ Q (.ref D) H) ∨ (J.go i H ∧ ∃ Nx : Hp → Prop, (∀ H', Nx H' → ∃ m', m' < m ∧ W (i + 1) m' H') ∧ ∀ x H', J.yld i H x H' → g x (wipe σ vs) H' fun σ2 H2 => wipe σ2 vs = wipe σ vs ∧ tYes σ2 H2 fun b H3 =>
        if b = true then te σ2 H3 fun y H4 => ∃ acc, H4 D = some (.lst acc) ∧ acc.length < sizeLine ∧ Nx (upd H4 D (.lst (acc ++ [y]))) else Nx H3)) :
    LcR J g tYes te vs σ H1 Q := by
  intro p hp
  have lx := hx.len
  refine run p (fun i A => i ≤ xs.length ∧ S H1 A ∧ ∃ ys, A p = some (.lst ys) ∧ A2 (R A) (zs.take i) ys) ⟨Nat.zero_le _, St.new _ _ _ St.s0 hp, [], upd_same, .nil⟩ (fun i A h => h.2.1) ?_ ?_
  · rintro i x A e ⟨hi, hs, ys, h1, h2⟩
    obtain ⟨z, ez, pz⟩ := hx.at e
    refine turn x z A _ (List.mem_of_getElem? ez) (pm _ _ _ _ (St.ki _ _ hs) pz) hs fun y B sb r => ?_
    have hlt : i < xs.length := (List.getElem?_eq_some_iff.mp e).1
    have e3 := St.keep _ _ _ _ hp hs sb h1
    have hl : ys.length = i := by rw [← h2.len, List.length_take]; omega
    have k : KI B (upd B p (.lst (ys ++ [y]))) := ki_mut e3 rfl
    refine ⟨ys, e3, L2.small1000 (by omega), by omega, St.new _ _ _ (St.tr _ _ hs sb) hp, ys ++ [y], upd_same, ?_⟩
    have et : zs.take (i + 1) = zs.take i ++ [z] := by rw [List.take_add_one, ez]; rfl
    rw [et]
    exact .snoc (rm _ _ _ _ k r) (h2.mono fun u v z => rm _ _ _ _ k (rm _ _ _ _ (St.ki _ _ sb) z))
  · rintro A ⟨_, hs, ys, h1, h2⟩
    rw [lx, List.take_length] at h2
    exact fin p ys A hs hp h1 h2
theorem c_list {α : Type} {a : Addr} {xs : List V} {zs : List α} {g : TG} {te : TE} {vs : List Nat} {S : Hp → Hp → Prop} (St : Stp H S) (P : Hp → V → α → Prop) (R : Hp → α → V → Prop) (pm : ∀ A B x z, KI A B → P A x z → P B x z) (rm : ∀ A B z y, KI A B → R A z y → R B z y)
    (hl : ∀ A, S H A → SqL K A a xs) (hx : A2 (P H) xs zs) (hz : xs.length ≤ 1000)
    (turn : ∀ x z A (N : V → Hp → Prop), z ∈ zs → P A x z → S H A → (∀ y B, S A B → R B z y → N y B) → g x (wipe σ vs) A fun σ2 B => wipe σ2 vs = wipe σ vs ∧ te σ2 B N)
    (fin : ∀ p ys A, S H A → H p = none → A p = some (.lst ys) → A2 (R A) zs ys → Q (.ref p) A) : LcR (Itl K a) g tYes te vs σ H Q :=
  c_core St P R pm rm hx hz turn fin fun _ Pv h0 hS hs hd => lc_list Pv h0 (fun i A _ p => hl A (hS i A p)) hs hd
/-- over a list of these, things of the heap laid alone -/
theorem c_listS {α : Type} {a : Addr} {xs : List V} {zs : List α} {g : TG} {te : TE} {vs : List Nat} (P : Hp → V → α → Prop) (R : Hp → α → V → Prop) (pm : ∀ A B x z, KI A B → P A x z → P B x z) (rm : ∀ A B z y, KI A B → R A z y → R B z y)
    (hs : SqL K H a xs) (hx : A2 (P H) xs zs) (hz : xs.length ≤ 1000)
    (turn : ∀ x z A (N : V → Hp → Prop), z ∈ zs → P A x z → Same H A → (∀ y B, Same A B → R B z y → N y B) → g x (wipe σ vs) A fun σ2 B => wipe σ2 vs = wipe σ vs ∧ te σ2 B N)
    (fin : ∀ p ys A, Same H A → H p = none → A p = some (.lst ys) → A2 (R A) zs ys → Q (.ref p) A) : LcR (Itl K a) g tYes te vs σ H Q :=
  c_list (stp_same H) P R pm rm (fun _ s => s.seq hs) hx hz turn fin
theorem a2_range {lo : Int} (n : Nat) : A2 (fun (x : V) (i : Nat) => x = .int (lo + i)) ((List.range n).map fun (i : Nat) => V.int (lo + i)) (List.range n) := by
  induction n with
  | zero => exact .nil
  | succ n ih => rw [List.range_succ, List.map_append]; exact A2.snoc (R := fun (x : V) (i : Nat) => x = .int (lo + i)) rfl ih
theorem c_range {lo : Int} {n : Nat} {g : TG} {te : TE} {vs : List Nat} {S : Hp → Hp → Prop} (St : Stp H S) (R : Hp → Nat → V → Prop) (rm : ∀ A B z y, KI A B → R A z y → R B z y) (hz : n ≤ 1000)
    (turn : ∀ (i : Nat) A (N : V → Hp → Prop), i < n → S H A → (∀ y B, S A B → R B i y → N y B) → g (.int (lo + i)) (wipe σ vs) A fun σ2 B => wipe σ2 vs = wipe σ vs ∧ te σ2 B N)
    (fin : ∀ p ys A, S H A → H p = none → A p = some (.lst ys) → A2 (R A) (List.range n) ys → Q (.ref p) A) : LcR (Itr lo n) g tYes te vs σ H Q := by
  have hl : ((List.range n).map fun (i : Nat) => V.int (lo + i)).length = n := by rw [List.length_map, List.length_range]
  refine c_core (xs := (List.range n).map fun (i : Nat) => V.int (lo + i)) (zs := List.range n) St (fun _ x i => x = .int (lo + i)) R (fun _ _ _ _ _ h => h) rm (a2_range n) (by omega) (fun x i A N hm e s k => ?_) fin fun _ Pv h0 hS hs hd => lc_range Pv h0 (fun i A hi p => hs i _ A (by rw [List.getElem?_map, List.getElem?_range hi]; rfl) p) (by rw [hl] at hd; exact hd)
  subst e
  exact turn i A N (List.mem_range.mp hm) s k
-- int(x), x is None
def rIntU : List V → Hp → VK → Prop := fun xs H Q => (∃ i, xs = [.int i] ∧ Q (.int i) H) ∨ ∃ k, xs = [.bl k] ∧ Q (.int (if k then 1 else 0)) H
theorem call_intU {X : Cx} : CallR X (.type "int") rIntU := call_int1
theorem s_intB {b : Bool} (h : Q (.int (if b = true then 1 else 0)) H) : rIntU [.bl b] H Q := .inr ⟨b, rfl, h⟩
theorem s_intT (h : Q (.int 1) H) : rIntU [.bl true] H Q := s_intB h
theorem s_intF (h : Q (.int 0) H) : rIntU [.bl false] H Q := s_intB h
theorem s_intBt {c : Prop} {inst : Decidable c} (h0 : c) (h : Q (.int 1) H) : rIntU [.bl (@decide c inst)] H Q := s_intB (by rw [decide_eq_true h0]; exact h)
theorem s_intBf {c : Prop} {inst : Decidable c} (h0 : ¬ c) (h : Q (.int 0) H) : rIntU [.bl (@decide c inst)] H Q := s_intB (by rw [decide_eq_false h0]; exact h)
theorem s_intI {i : Int} (h : Q (.int i) H) : rIntU [.int i] H Q := .inl ⟨i, rfl, h⟩
def rIsU : R2 := fun x y H Q => y = .non ∧ Q (.bl (decide (x = .non))) H
theorem op_isU {X : Cx} : OpR X (compareOp .Is) rIsU := op_isN
def rNotU : R2 := fun x y H Q => y = .non ∧ Q (.bl (!decide (x = .non))) H
theorem op_notU {X : Cx} : OpR X (compareOp .IsNot) rNotU := op_notN
theorem s_isNN (h : Q (.bl true) H) : rIsU .non .non H Q := ⟨rfl, by rw [decide_eq_true rfl]; exact h⟩
theorem s_isRN {a : Addr} (h : Q (.bl false) H) : rIsU (.ref a) .non H Q := ⟨rfl, by rw [decide_eq_false (fun z => by cases z)]; exact h⟩
theorem s_isTN {x : V} {ds : List PyData} (hx : Dt K H x (.tuple ds)) (h : Q (.bl false) H) : rIsU x .non H Q := by
  obtain ⟨a, xs, rfl, _⟩ := hx.tup_inv
  exact s_isRN h
theorem s_isFN {x : V} {r : Rat} (hx : Dt K H x (fr r)) (h : Q (.bl false) H) : rIsU x .non H Q := s_isTN (ds := [.int r.num, .int r.den]) hx h
theorem s_ntNN (h : Q (.bl false) H) : rNotU .non .non H Q := ⟨rfl, by rw [decide_eq_true rfl]; exact h⟩
theorem s_ntRN {a : Addr} (h : Q (.bl true) H) : rNotU (.ref a) .non H Q := ⟨rfl, by rw [decide_eq_false (fun z => by cases z)]; exact h⟩
theorem s_ntTN {x : V} {ds : List PyData} (hx : Dt K H x (.tuple ds)) (h : Q (.bl true) H) : rNotU x .non H Q := by
  obtain ⟨a, xs, rfl, _⟩ := hx.tup_inv
  exact s_ntRN h
theorem s_ntFN {x : V} {r : Rat} (hx : Dt K H x (fr r)) (h : Q (.bl true) H) : rNotU x .non H Q := s_ntTN (ds := [.int r.num, .int r.den]) hx h
theorem s_eqFt {x y : V} {d e : Rat} (hx : Dt K H x (fr d)) (hy : Dt K H y (fr e)) (h0 : d = e) (h : Q (.bl true) H) : rEqD K x y H Q := s_eqF hx hy (by rw [decide_eq_true h0]; exact h)
theorem s_eqFf {x y : V} {d e : Rat} (hx : Dt K H x (fr d)) (hy : Dt K H y (fr e)) (h0 : ¬ d = e) (h : Q (.bl false) H) : rEqD K x y H Q := s_eqF hx hy (by rw [decide_eq_false h0]; exact h)
theorem s_neFt {x y : V} {d e : Rat} (hx : Dt K H x (fr d)) (hy : Dt K H y (fr e)) (h0 : d = e) (h : Q (.bl false) H) : rNeD K x y H Q := s_neF hx hy (by rw [decide_eq_true h0]; exact h)
theorem s_neFf {x y : V} {d e : Rat} (hx : Dt K H x (fr d)) (hy : Dt K H y (fr e)) (h0 : ¬ d = e) (h : Q (.bl true) H) : rNeD K x y H Q := s_neF hx hy (by rw [decide_eq_false h0]; exact h)
theorem s_eqBB {i : Bool} (h : Q (.bl true) H) : rEqD K (.bl i) (.bl i) H Q := s_eqB (by rw [decide_eq_true rfl]; exact h)
theorem s_neBB {i : Bool} (h : Q (.bl false) H) : rNeD K (.bl i) (.bl i) H Q := s_neB (by rw [decide_eq_true rfl]; exact h)
theorem s_neFT (h : Q (.bl true) H) : rNeD K (.bl false) (.bl true) H Q := s_neB h
theorem s_neTF (h : Q (.bl true) H) : rNeD K (.bl true) (.bl false) H Q := s_neB h
theorem s_eqFT (h : Q (.bl false) H) : rEqD K (.bl false) (.bl true) H Q := s_eqB h
theorem s_eqTF (h : Q (.bl false) H) : rEqD K (.bl true) (.bl false) H Q := s_eqB h
theorem dt_zn {p : Addr} (n : H p = none) : Dt K (upd H p (.tup [.int 0, .int 1])) (.ref p) (fr 0) := dt_new (ds := [.int 0, .int 1]) (.cons (.int 0) (.cons (.int 1) .nil)) n
theorem dt_1n {p : Addr} (n : H p = none) : Dt K (upd H p (.tup [.int 1, .int 1])) (.ref p) (fr 1) := dt_new (ds := [.int 1, .int 1]) (.cons (.int 1) (.cons (.int 1) .nil)) n
theorem Dt.non_eq {v : V} (h : Dt K H v .none) : v = .non := by cases h; rfl
theorem s_cutI {c : Bool} {t u : TS} (js : List Nat) (I : (Nat → Option V) → Hp → Prop) (h : ∀ N' : St → Hp → Prop, (∀ σ' H', σ' = sets σ js (fun j => (σ'[j]?).join) → I (fun j => (σ'[j]?).join) H' → N' σ' H') → if c = true then t { D with nx := N' } σ H else u { D with nx := N' } σ H)
    (hN : ∀ f H', I f H' → D.nx (sets σ js f) H') : if c = true then t D σ H else u D σ H := h D.nx fun σ' H' e i => by rw [e]; exact hN _ H' i
theorem s_neNN (h : Q (.bl false) H) : rNeD K .non .non H Q := ⟨_, _, .non, .non, rfl, rfl, by simpa [PyData.eqv] using h⟩
theorem s_eqNN (h : Q (.bl true) H) : rEqD K .non .non H Q := ⟨_, _, .non, .non, rfl, rfl, by simpa [PyData.eqv] using h⟩
theorem eqv2 (a b c d : Rat) : PyData.eqv (.tuple [fr a, fr b]) (.tuple [fr c, fr d]) = decide (a = c ∧ b = d) := by
  have e : PyData.eqv (.tuple [fr a, fr b]) (.tuple [fr c, fr d]) = (PyData.eqv (fr a) (fr c) && (PyData.eqv (fr b) (fr d) && true)) := by simp only [PyData.eqv, PyData.eqvAll]
  rw [e, eqvfr, eqvfr]
  by_cases h1 : a = c <;> by_cases h2 : b = d <;> simp [h1, h2]
theorem s_eqP {x y : V} {a b c d : Rat} (hx : Dt K H x (.tuple [fr a, fr b])) (hy : Dt K H y (.tuple [fr c, fr d])) (h : Q (.bl (decide (a = c ∧ b = d))) H) : rEqD K x y H Q := s_eqD hx hy (sh2 a b) (sh2 c d) (by rw [eqv2]; exact h)
theorem s_neP {x y : V} {a b c d : Rat} (hx : Dt K H x (.tuple [fr a, fr b])) (hy : Dt K H y (.tuple [fr c, fr d])) (h : Q (.bl (!decide (a = c ∧ b = d))) H) : rNeD K x y H Q := s_neD hx hy (sh2 a b) (sh2 c d) (by rw [eqv2]; exact h)
theorem s_eqPf {x y : V} {a b c d : Rat} (hx : Dt K H x (.tuple [fr a, fr b])) (hy : Dt K H y (.tuple [fr c, fr d])) (n : ¬ (a = c ∧ b = d)) (h : Q (.bl false) H) : rEqD K x y H Q := s_eqP hx hy (by rw [decide_eq_false n]; exact h)
theorem s_nePf {x y : V} {a b c d : Rat} (hx : Dt K H x (.tuple [fr a, fr b])) (hy : Dt K H y (.tuple [fr c, fr d])) (n : ¬ (a = c ∧ b = d)) (h : Q (.bl true) H) : rNeD K x y H Q := s_neP hx hy (by rw [decide_eq_false n]; exact h)
/-- l.index(x) -/
theorem s_index {a : Addr} {vs : List V} {ds : List PyData} {y : V} {d : PyData} (j : Nat) {z : PyData} (hs : SqL K H a vs) (ha : DtAll K H vs ds) (hy : Dt K H y d) (sl : SeqAt.shaped (.list ds) = true) (sd : SeqAt.shaped d = true) (e : ds[j]? = some z) (ez : PyData.eqv z d = true)
    (no : ∀ (m : Nat) (z' : PyData), m < j → ds[m]? = some z' → PyData.eqv z' d = false) (h : Q (.int (j : Nat)) H) : rIndexD K (.ref a) [y] H Q :=
  ⟨a, y, d, ds, j, z, rfl, rfl, .lst hs ha.dp, hy.dp, sl, sd, e, ez, no, h⟩
theorem sh22 (a b c d : Rat) : SeqAt.shaped (.list [.tuple [fr a, fr b], .tuple [fr c, fr d]]) = true := rfl
theorem s_idx0 {p : Addr} {v0 v1 y : V} {a b c d : Rat} (hs : SqL K H p [v0, v1]) (h0 : Dt K H v0 (.tuple [fr a, fr b])) (h1 : Dt K H v1 (.tuple [fr c, fr d])) (hy : Dt K H y (.tuple [fr a, fr b])) (h : Q (.int 0) H) : rIndexD K (.ref p) [y] H Q :=
  s_index 0 hs (.cons h0 (.cons h1 .nil)) hy (sh22 a b c d) (sh2 a b) rfl (by rw [eqv2, decide_eq_true ⟨rfl, rfl⟩]) (fun m _ hm _ => absurd hm (Nat.not_lt_zero _)) h
theorem s_idx1 {p : Addr} {v0 v1 y : V} {a b c d : Rat} (hs : SqL K H p [v0, v1]) (h0 : Dt K H v0 (.tuple [fr a, fr b])) (h1 : Dt K H v1 (.tuple [fr c, fr d])) (hy : Dt K H y (.tuple [fr c, fr d])) (n : ¬ (a = c ∧ b = d)) (h : Q (.int 1) H) : rIndexD K (.ref p) [y] H Q :=
  s_index 1 hs (.cons h0 (.cons h1 .nil)) hy (sh22 a b c d) (sh2 c d) rfl (by rw [eqv2, decide_eq_true ⟨rfl, rfl⟩]) (fun m z' hm hz => by
    obtain rfl : m = 0 := by omega
    cases hz
    rw [eqv2, decide_eq_false n]) h
end
end Cr

/-! ## short words of the walk: local rows, by keys of our own -/
local macro_rules | `(tactic| walk_at "cr.kt") => `(tactic| with_reducible first
  | with_reducible assumption
  | exact Cr.kt_new (by with_reducible assumption)
  | exact Cr.kt_mut (by with_reducible assumption) rfl
  | exact Cr.kt_same (by with_reducible assumption)
  | exact Cr.kt_but (by with_reducible assumption))
local macro_rules | `(tactic| walk_at "cr.dt") => `(tactic| with_reducible first
  | with_reducible assumption
  | exact Cr.Dt.int _
  | exact Cr.Dt.bl _
  | exact Cr.Dt.str _
  | exact Cr.Dt.non
  | ((with_reducible refine' Cr.dt_new ?z (by with_reducible assumption)); (case z => walk_at "cr.da"))
  | exact Cr.dt_zn (by with_reducible assumption)
  | exact Cr.dt_1n (by with_reducible assumption)
  | (refine' Cr.Dt.mono (Cr.kt_new (by with_reducible assumption)) ?z; (case z => walk_at "cr.dt"))
  | (refine' Cr.Dt.mono (Cr.kt_mut (by with_reducible assumption) rfl) ?z; (case z => walk_at "cr.dt"))
  | (refine' Cr.Dt.mono (Cr.kt_same (by with_reducible assumption)) ?z; (case z => walk_at "cr.dt"))
  | (refine' Cr.Dt.mono (Cr.kt_but (by with_reducible assumption)) ?z; (case z => walk_at "cr.dt"))
  | (refine' Cr.Dt.mono (by with_reducible assumption) ?z; (case z => walk_at "cr.dt"))
  | exact (by with_reducible assumption : ∀ H : L2.Hp, Cr.Dt _ H _ _) _)
local macro_rules | `(tactic| walk_at "cr.da") => `(tactic| with_reducible first
  | exact Cr.DtAll.nil
  | (refine' Cr.DtAll.cons ?z ?w; (case z => walk_at "cr.dt"); (case w => walk_at "cr.da"))
  | with_reducible assumption)
local macro_rules | `(tactic| walk_at "cr.lot") => `(tactic| with_reducible first
  | with_reducible assumption
  | (refine' Cr.IsLot.mono (Cr.ki_new (by with_reducible assumption)) ?z; (case z => walk_at "cr.lot"))
  | (refine' Cr.IsLot.mono (Cr.ki_mut (by with_reducible assumption) rfl) ?z; (case z => walk_at "cr.lot"))
  | (refine' Cr.IsLot.mono (Cr.ki_same (by with_reducible assumption)) ?z; (case z => walk_at "cr.lot"))
  | (refine' Cr.IsLot.mono (Cr.ki_but (by with_reducible assumption)) ?z; (case z => walk_at "cr.lot"))
  | (refine' Cr.IsLot.mono (by with_reducible assumption) ?z; (case z => walk_at "cr.lot")))
/-- all of a list's -/
local macro_rules | `(tactic| walk_at "cr.das") => `(tactic| with_reducible first
  | with_reducible assumption
  | (refine' Cr.DtAll.mono (Cr.kt_new (by with_reducible assumption)) ?z; (case z => walk_at "cr.das"))
  | (refine' Cr.DtAll.mono (Cr.kt_mut (by with_reducible assumption) rfl) ?z; (case z => walk_at "cr.das"))
  | (refine' Cr.DtAll.mono (Cr.kt_same (by with_reducible assumption)) ?z; (case z => walk_at "cr.das"))
  | (refine' Cr.DtAll.mono (Cr.kt_but (by with_reducible assumption)) ?z; (case z => walk_at "cr.das"))
  | (refine' Cr.DtAll.mono (by with_reducible assumption) ?z; (case z => walk_at "cr.das")))
/-- H0 to H -/
local macro_rules | `(tactic| walk_at "cr.sm") => `(tactic| with_reducible first
  | exact L2.Same.refl _
  | with_reducible assumption
  | (refine' L2.Same.trans ?z (Cr.same_new (by with_reducible assumption)); (case z => walk_at "cr.sm"))
  | (refine' L2.Same.trans ?z (by with_reducible assumption); (case z => walk_at "cr.sm"))
  | (refine' Cr.same_mut ?z (by walk_at "cr.fr"); (case z => walk_at "cr.sm")))
/-- H p = none, from a later heap -/
local macro_rules | `(tactic| walk_at "cr.fr") => `(tactic| with_reducible first
  | with_reducible assumption
  | (refine' Cr.free_on (by with_reducible assumption) ?z; (case z => walk_at "cr.sm")))
/-- what stands at an address -/
local macro_rules | `(tactic| walk_at "cr.at") => `(tactic| with_reducible first
  | with_reducible assumption
  | exact L2.upd_same
  | (refine' Eq.trans (L2.upd_ne (by walk_at "cr.ne")) ?z; (case z => walk_at "cr.at"))
  | (refine' Cr.at_same (by with_reducible assumption) ?z; (case z => walk_at "cr.at"))
  | (refine' Cr.But.oth (by with_reducible assumption) _ _ (by walk_at "cr.ne") ?z; (case z => walk_at "cr.at")))
local macro_rules | `(tactic| walk_at "cr.ne") => `(tactic| with_reducible first
  | with_reducible assumption
  | exact Ne.symm (by with_reducible assumption)
  | (refine' Cr.Bag.ne1' (by with_reducible assumption) ?z; (case z => with_reducible assumption))
  | (refine' Cr.Bag.ne2' (by with_reducible assumption) ?z; (case z => with_reducible assumption))
  | (refine' Ne.symm (Cr.Bag.ne1' (by with_reducible assumption) ?z); (case z => with_reducible assumption))
  | (refine' Ne.symm (Cr.Bag.ne2' (by with_reducible assumption) ?z); (case z => with_reducible assumption))
  | (refine' Cr.Bag.ne1' (by with_reducible assumption) ?z; (case z => walk_at "cr.bag"))
  | (refine' Cr.Bag.ne2' (by with_reducible assumption) ?z; (case z => walk_at "cr.bag"))
  | (refine' Cr.ne_on (by with_reducible assumption) ?z; (case z => walk_at "cr.at"))
  | (refine' Ne.symm (Cr.ne_on (by with_reducible assumption) ?z); (case z => walk_at "cr.at")))
local macro_rules | `(tactic| walk_at "cr.bag") => `(tactic| with_reducible first
  | with_reducible assumption
  | (refine' Cr.Bag.new ?z (by with_reducible assumption); (case z => walk_at "cr.bag"))
  | (refine' Cr.Bag.same (by with_reducible assumption) ?z; (case z => walk_at "cr.bag"))
  | (refine' Cr.Bag.upd ?z (by walk_at "cr.ne") (by walk_at "cr.ne"); (case z => walk_at "cr.bag")))
/-- all but the bag -/
local macro_rules | `(tactic| walk_at "cr.but") => `(tactic| with_reducible first
  | with_reducible assumption
  | (refine' Cr.But.same ?z (Cr.same_new (by with_reducible assumption)); (case z => walk_at "cr.but"))
  | (refine' Cr.But.trans ?z (by with_reducible assumption); (case z => walk_at "cr.but"))
  | (refine' Cr.But.same ?z (by with_reducible assumption); (case z => walk_at "cr.but"))
  | exact Cr.But.ofSame (by with_reducible assumption) (L2.Same.refl _)
  | (refine' Cr.but_mut ?z (by walk_at "cr.fr"); (case z => walk_at "cr.but")))
local macro_rules | `(tactic| walk_at "cr.size") => `(tactic| first
  | exact Cr.size2
  | exact Cr.size1
  | exact Cr.size3
  | exact Cr.size4
  | exact Cr.size_le (by with_unfolding_all decide)
  | exact Cr.size_le (by simp only [List.length_cons, List.length_nil]; omega))
local macro_rules | `(tactic| walk_at "cr.room") => `(tactic| first
  | with_reducible assumption
  | (refine L2.small1000 ?_; (try simp only [List.length_append, List.length_cons, List.length_nil, List.length_reverse, List.length_map]); omega)
  | (refine Cr.size_le2 ?_; (try simp only [List.length_append, List.length_cons, List.length_nil, List.length_reverse, List.length_map]); omega))
local macro_rules | `(tactic| walk_at "cr.lst") => `(tactic| with_reducible first
  | with_reducible assumption
  | (refine' L2.SqL.of ?z; (case z => walk_at "cr.at"))
  | (refine' L2.Same.seq (Cr.same_new (by with_reducible assumption)) ?z; (case z => walk_at "cr.lst"))
  | (refine' L2.Same.seq (by with_reducible assumption) ?z; (case z => walk_at "cr.lst")))
local macro_rules | `(tactic| walk_at "cr.sz") => `(tactic| first
  | with_reducible assumption
  | exact Cr.cz_l (by omega) (by omega)
  | exact Cr.cz_r (by omega) (by omega)
  | exact Cr.mz_nd (by walk_at "cr.z") (by walk_at "cr.z")
  | exact Cr.mz_dn (by walk_at "cr.z") (by walk_at "cr.z")
  | exact Cr.mz_nn (by walk_at "cr.z") (by walk_at "cr.z")
  | exact Cr.mz_dd (by walk_at "cr.z") (by walk_at "cr.z"))
local macro_rules | `(tactic| walk_at "cr.z") => `(tactic| first
  | with_reducible assumption
  | exact Cr.Sz.mono (by walk_at "cr.zz") (by decide))
local macro_rules | `(tactic| walk_at "cr.len") => `(tactic| (simp only [List.length_cons, List.length_nil]; omega))
local macro_rules | `(tactic| walk_at "cr.items") => `(tactic| (intro v hv; simp only [List.mem_cons, List.not_mem_nil, or_false] at hv; first
  | (rcases hv with rfl | rfl | rfl | rfl | rfl | rfl <;> exact ⟨_, rfl, by omega, by omega⟩)
  | (rcases hv with rfl | rfl | rfl | rfl | rfl <;> exact ⟨_, rfl, by omega, by omega⟩)
  | (rcases hv with rfl | rfl | rfl | rfl <;> exact ⟨_, rfl, by omega, by omega⟩)
  | (rcases hv with rfl | rfl | rfl <;> exact ⟨_, rfl, by omega, by omega⟩)
  | (rcases hv with rfl | rfl <;> exact ⟨_, rfl, by omega, by omega⟩)))
local macro_rules | `(tactic| walk_at "cr.pw") => `(tactic| first
  | with_reducible assumption
  | exact Cr.pw_le (n := 64) (by omega) (by decide))
local macro_rules | `(tactic| walk_at "cr.zz") => `(tactic| with_reducible first
  | with_reducible assumption
  | exact Cr.divInt_sz (n := 64) (by omega) (by omega) (by omega)
  | (refine' Cr.Sz.add ?zl ?zr; (case zl => walk_at "cr.zz"); (case zr => walk_at "cr.zz"))
  | (refine' Cr.Sz.sub ?zl ?zr; (case zl => walk_at "cr.zz"); (case zr => walk_at "cr.zz"))
  | (refine' Cr.Sz.mul ?zl ?zr; (case zl => walk_at "cr.zz"); (case zr => walk_at "cr.zz"))
  | (refine' Cr.Sz.div ?zl ?zr ?zn; (case zl => walk_at "cr.zz"); (case zr => walk_at "cr.zz"); (case zn => assumption)))
local macro_rules | `(tactic| walk_at "cr.div") => `(tactic| first
  | with_reducible assumption
  | exact Cr.dz_sm (by omega) (by omega))
/-- one step of a reading -/
local macro_rules | `(tactic| walk_at "cr.s") => `(tactic| with_reducible first
  | refine Cr.s_seq ?_
  | refine Cr.s_asg ?_
  | refine Cr.s_op ?_
  | refine Cr.s_v0 ?_
  | refine Cr.s_g0 ?_
  | refine Cr.s_v1 ?_
  | refine Cr.s_g1 ?_
  | refine Cr.s_v2 ?_
  | refine Cr.s_g2 ?_
  | refine Cr.s_v3 ?_
  | refine Cr.s_g3 ?_
  | refine Cr.s_v4 ?_
  | refine Cr.s_g4 ?_
  | refine Cr.s_v5 ?_
  | refine Cr.s_g5 ?_
  | refine Cr.s_v6 ?_
  | refine Cr.s_g6 ?_
  | refine Cr.s_v7 ?_
  | refine Cr.s_g7 ?_
  | refine Cr.s_v8 ?_
  | refine Cr.s_g8 ?_
  | refine Cr.s_v9 ?_
  | refine Cr.s_g9 ?_
  | refine Cr.s_v10 ?_
  | refine Cr.s_g10 ?_
  | refine Cr.s_v11 ?_
  | refine Cr.s_g11 ?_
  | refine Cr.s_v12 ?_
  | refine Cr.s_g12 ?_
  | refine Cr.s_v13 ?_
  | refine Cr.s_g13 ?_
  | refine Cr.s_v14 ?_
  | refine Cr.s_g14 ?_
  | refine Cr.s_v15 ?_
  | refine Cr.s_g15 ?_
  | refine Cr.s_v16 ?_
  | refine Cr.s_g16 ?_
  | refine Cr.s_v17 ?_
  | refine Cr.s_g17 ?_
  | refine Cr.s_c ?_
  | refine Cr.s_ret ?_
  | refine Cr.s_if ?_
  | refine Cr.s_test ?_
  | refine Cr.s_tru ?_
  | refine Cr.s_B ?_
  | refine Cr.s_isB ?_
  | refine Cr.s_truI ?_
  | refine Cr.s_truB ?_
  | refine Cr.s_call ?_
  | refine Cr.s_callS ?_
  | refine Cr.s_callN ?_
  | (refine' Cr.s_lens ?k1 ?k2 ?_; (case k1 => with_unfolding_all rfl); (case k2 => with_unfolding_all rfl))
  | refine Cr.s_cons ?_
  | refine Cr.s_nil ?_
  | refine Cr.s_cb ?_
  | refine Cr.s_tup ?_
  | refine Cr.s_lst ?_
  | (refine Cr.s_par ?_; (try simp only [List.set_cons_zero, List.set_cons_succ]))
  | refine Cr.s_un ?_
  | refine Cr.s_drop ?_
  | refine Cr.s_next ?_
  | refine Cr.s_brk ?_
  | refine Cr.s_cont ?_
  | refine Cr.s_retN ?_
  | refine Cr.s_ifE ?_
  | refine Cr.s_and ?_
  | refine Cr.s_or ?_
  | refine Cr.s_not ?_
  | refine Cr.s_andV ?_
  | refine Cr.s_orV ?_
  | refine Cr.s_notV ?_
  | refine Cr.s_chain ?_
  | refine Cr.s_itT ?_
  | refine Cr.s_itF ?_
  | refine Cr.s_itNT ?_
  | refine Cr.s_itNF ?_
  | refine Cr.s_gsub ?_
  | refine Cr.s_addI ?_
  | refine Cr.s_subI ?_
  | refine Cr.s_negI ?_
  | refine Cr.s_ltI ?_
  | refine Cr.s_leI ?_
  | refine Cr.s_gtI ?_
  | refine Cr.s_geI ?_
  | refine Cr.s_eqI ?_
  | refine Cr.s_neI ?_
  | refine Cr.s_eqBB ?_
  | refine Cr.s_neBB ?_
  | refine Cr.s_neFT ?_
  | refine Cr.s_neTF ?_
  | refine Cr.s_eqFT ?_
  | refine Cr.s_eqTF ?_
  | refine Cr.s_eqB ?_
  | refine Cr.s_neB ?_
  | refine Cr.s_abs ?_
  | refine Cr.s_max ?_
  | refine Cr.s_min ?_
  | refine Cr.s_isII ?_
  | refine Cr.s_isIB ?_
  | refine Cr.s_isBI ?_
  | refine Cr.s_isBB ?_
  | (refine' Cr.s_isTT ?k1 ?_; (case k1 => with_reducible walk_at "cr.dt"))
  | (refine' Cr.s_ixF0 ?k1 ?_; (case k1 => with_reducible walk_at "cr.dt"))
  | (refine' Cr.s_ixF1 ?k1 ?_; (case k1 => with_reducible walk_at "cr.dt"))
  | (refine' Cr.s_ixT0 ?k1 ?_; (case k1 => with_reducible walk_at "cr.dt"); intro v hv; first | (have ev := Cr.Dt.int_eq hv; subst ev) | (have ev := Cr.Dt.str_eq hv; subst ev) | (have ev := Cr.Dt.bl_eq hv; subst ev) | skip)
  | (refine' Cr.s_ixL0 ?k1 ?_; (case k1 => with_reducible walk_at "cr.lst"))
  | (refine' Cr.s_setL0 ?k1 ?_; (case k1 => with_reducible walk_at "cr.at"))
  | (refine' Cr.s_ixT1 ?k1 ?_; (case k1 => with_reducible walk_at "cr.dt"); intro v hv; first | (have ev := Cr.Dt.int_eq hv; subst ev) | (have ev := Cr.Dt.str_eq hv; subst ev) | (have ev := Cr.Dt.bl_eq hv; subst ev) | skip)
  | (refine' Cr.s_ixL1 ?k1 ?_; (case k1 => with_reducible walk_at "cr.lst"))
  | (refine' Cr.s_setL1 ?k1 ?_; (case k1 => with_reducible walk_at "cr.at"))
  | (refine' Cr.s_ixT2 ?k1 ?_; (case k1 => with_reducible walk_at "cr.dt"); intro v hv; first | (have ev := Cr.Dt.int_eq hv; subst ev) | (have ev := Cr.Dt.str_eq hv; subst ev) | (have ev := Cr.Dt.bl_eq hv; subst ev) | skip)
  | (refine' Cr.s_ixL2 ?k1 ?_; (case k1 => with_reducible walk_at "cr.lst"))
  | (refine' Cr.s_setL2 ?k1 ?_; (case k1 => with_reducible walk_at "cr.at"))
  | (refine' Cr.s_ixT3 ?k1 ?_; (case k1 => with_reducible walk_at "cr.dt"); intro v hv; first | (have ev := Cr.Dt.int_eq hv; subst ev) | (have ev := Cr.Dt.str_eq hv; subst ev) | (have ev := Cr.Dt.bl_eq hv; subst ev) | skip)
  | (refine' Cr.s_ixL3 ?k1 ?_; (case k1 => with_reducible walk_at "cr.lst"))
  | (refine' Cr.s_setL3 ?k1 ?_; (case k1 => with_reducible walk_at "cr.at"))
  | (refine' Cr.s_ixT4 ?k1 ?_; (case k1 => with_reducible walk_at "cr.dt"); intro v hv; first | (have ev := Cr.Dt.int_eq hv; subst ev) | (have ev := Cr.Dt.str_eq hv; subst ev) | (have ev := Cr.Dt.bl_eq hv; subst ev) | skip)
  | (refine' Cr.s_ixL4 ?k1 ?_; (case k1 => with_reducible walk_at "cr.lst"))
  | (refine' Cr.s_setL4 ?k1 ?_; (case k1 => with_reducible walk_at "cr.at"))
  | (refine' Cr.s_ixT5 ?k1 ?_; (case k1 => with_reducible walk_at "cr.dt"); intro v hv; first | (have ev := Cr.Dt.int_eq hv; subst ev) | (have ev := Cr.Dt.str_eq hv; subst ev) | (have ev := Cr.Dt.bl_eq hv; subst ev) | skip)
  | (refine' Cr.s_ixL5 ?k1 ?_; (case k1 => with_reducible walk_at "cr.lst"))
  | (refine' Cr.s_setL5 ?k1 ?_; (case k1 => with_reducible walk_at "cr.at"))
  | (refine' Cr.s_ixR0 ?k1 ?_; (case k1 => with_reducible walk_at "cr.at"))
  | (refine' Cr.s_ixR1 ?k1 ?_; (case k1 => with_reducible walk_at "cr.at"))
  | (refine' Cr.s_ixR2 ?k1 ?_; (case k1 => with_reducible walk_at "cr.at"))
  | (refine' Cr.s_ixR3 ?k1 ?_; (case k1 => with_reducible walk_at "cr.at"))
  | (refine' Cr.s_addT1 ?k1 ?k2 ?k4 ?k5 ?_; (case k1 => with_reducible walk_at "cr.dt"); (case k2 => with_reducible walk_at "cr.dt"); (case k4 => exact List.cons_ne_nil _ _); (case k5 => walk_at "cr.len"); intro v H' hs hd)
  | (refine' Cr.s_addT ?k1 ?k2 ?k3 ?k4 ?k5 ?_; (case k1 => with_reducible walk_at "cr.dt"); (case k2 => with_reducible walk_at "cr.dt"); (case k3 => exact List.cons_ne_nil _ _); (case k4 => exact List.cons_ne_nil _ _); (case k5 => walk_at "cr.len"); intro v H' hs hd)
  | (refine' Cr.s_ixL ?k1 ?k2 ?_; (case k2 => assumption); (case k1 => with_reducible walk_at "cr.lst"))
  | (refine' Cr.s_setL ?k1 ?k2 ?_; (case k2 => assumption); (case k1 => with_reducible walk_at "cr.at"))
  | (refine' Cr.s_lenT ?k1 ?_; (case k1 => with_reducible walk_at "cr.dt"))
  | (refine' Cr.s_lenL ?k1 ?_; (case k1 => with_reducible walk_at "cr.lst"))
  | (refine' Cr.s_mulI ?k1 ?_; (case k1 => with_reducible walk_at "cr.sz"))
  | (refine' Cr.s_divI ?k1 ?_; (case k1 => with_reducible walk_at "cr.div"))
  | (refine' Cr.s_modI ?k1 ?_; (case k1 => first | with_reducible assumption | omega))
  | refine Cr.s_pow2 ?_
  | refine Cr.s_pow3 ?_
  | refine Cr.s_pow4 ?_
  | refine Cr.s_pow5 ?_
  | refine Cr.s_pow6 ?_
  | refine Cr.s_pow7 ?_
  | refine Cr.s_pow8 ?_
  | refine Cr.s_pow9 ?_
  | refine Cr.s_pow10 ?_
  | refine Cr.s_pow12 ?_
  | (refine' Cr.s_powI ?k1 ?_; (case k1 => with_unfolding_all exact ⟨by decide, by decide, by decide⟩))
  | (refine' Cr.s_eqFF ?k1 ?k2 ?_; (case k1 => with_reducible walk_at "cr.dt"); (case k2 => with_reducible walk_at "cr.dt"))
  | (refine' Cr.s_neFF ?k1 ?k2 ?_; (case k1 => with_reducible walk_at "cr.dt"); (case k2 => with_reducible walk_at "cr.dt"))
  | (refine' Cr.s_eqD2 ?k1 ?k2 ?_; (case k1 => with_reducible walk_at "cr.dt"); (case k2 => with_reducible walk_at "cr.dt"))
  | (refine' Cr.s_neD2 ?k1 ?k2 ?_; (case k1 => with_reducible walk_at "cr.dt"); (case k2 => with_reducible walk_at "cr.dt"))
  | (refine' Cr.s_eqPf ?k1 ?k2 ?k3 ?_; (case k1 => with_reducible walk_at "cr.dt"); (case k2 => with_reducible walk_at "cr.dt"); (case k3 => with_reducible assumption))
  | (refine' Cr.s_nePf ?k1 ?k2 ?k3 ?_; (case k1 => with_reducible walk_at "cr.dt"); (case k2 => with_reducible walk_at "cr.dt"); (case k3 => with_reducible assumption))
  | refine Cr.s_isNN ?_
  | refine Cr.s_ntNN ?_
  | refine Cr.s_neNN ?_
  | refine Cr.s_eqNN ?_
  | refine Cr.s_isRN ?_
  | refine Cr.s_ntRN ?_
  | (refine' Cr.s_isFN ?k1 ?_; (case k1 => with_reducible walk_at "cr.dt"))
  | (refine' Cr.s_ntFN ?k1 ?_; (case k1 => with_reducible walk_at "cr.dt"))
  | (refine' Cr.s_isTN ?k1 ?_; (case k1 => with_reducible walk_at "cr.dt"))
  | (refine' Cr.s_ntTN ?k1 ?_; (case k1 => with_reducible walk_at "cr.dt"))
  | refine Cr.s_lc ?_
  | refine Cr.s_intT ?_
  | refine Cr.s_intF ?_
  | (refine' Cr.s_intBt ?k1 ?_; (case k1 => with_reducible assumption))
  | (refine' Cr.s_intBf ?k1 ?_; (case k1 => with_reducible assumption))
  | refine Cr.s_intB ?_
  | refine Cr.s_intI ?_
  | (refine' Cr.s_eqFt ?k1 ?k2 ?k3 ?_; (case k1 => with_reducible walk_at "cr.dt"); (case k2 => with_reducible walk_at "cr.dt"); (case k3 => with_reducible assumption))
  | (refine' Cr.s_eqFf ?k1 ?k2 ?k3 ?_; (case k1 => with_reducible walk_at "cr.dt"); (case k2 => with_reducible walk_at "cr.dt"); (case k3 => with_reducible assumption))
  | (refine' Cr.s_neFt ?k1 ?k2 ?k3 ?_; (case k1 => with_reducible walk_at "cr.dt"); (case k2 => with_reducible walk_at "cr.dt"); (case k3 => with_reducible assumption))
  | (refine' Cr.s_neFf ?k1 ?k2 ?k3 ?_; (case k1 => with_reducible walk_at "cr.dt"); (case k2 => with_reducible walk_at "cr.dt"); (case k3 => with_reducible assumption))
  | (refine' Cr.s_eqF ?k1 ?k2 ?_; (case k1 => with_reducible walk_at "cr.dt"); (case k2 => with_reducible walk_at "cr.dt"))
  | (refine' Cr.s_neF ?k1 ?k2 ?_; (case k1 => with_reducible walk_at "cr.dt"); (case k2 => with_reducible walk_at "cr.dt"))
  | (refine' Cr.s_newT ?k1 ?_; (case k1 => with_reducible walk_at "cr.size"); intro p hp)
  | (refine' Cr.s_newL ?k1 ?_; (case k1 => with_reducible walk_at "cr.size"); intro p hp)
  | refine Cr.s_for ?_
  | refine Cr.s_iList ?_
  | refine Cr.s_rng1 ?_
  | refine Cr.s_fld ?_
  | refine Cr.s_meth ?_
  | refine Cr.s_make ?_
  | (refine' Cr.s_worth ?k1 ?k2 ?k3 ?_; (case k1 => with_reducible walk_at "cr.lot"); (case k2 => with_reducible assumption); (case k3 => with_reducible assumption); intro x hx)
  | (refine' Cr.s_mark ?k1 ?k2 ?k3 ?_; (case k1 => with_reducible walk_at "cr.lot"); (case k2 => with_reducible assumption); (case k3 => with_reducible assumption); intro x hx)
  | (refine' Cr.s_mlot ?k1 ?k2 ?k3 ?_; (case k1 => with_reducible walk_at "cr.lot"); (case k2 => with_unfolding_all decide +kernel); (case k3 => with_unfolding_all decide +kernel))
  | (refine' Cr.s_append ?k1 ?k2 ?_; (case k1 => with_reducible walk_at "cr.at"); (case k2 => walk_at "cr.room"))
  | (refine' Cr.s_addL ?k1 ?k2 ?k3 ?_; (case k1 => with_reducible walk_at "cr.at"); (case k2 => with_reducible walk_at "cr.at"); (case k3 => walk_at "cr.room"); intro p hp)
  | refine Cr.s_sl ?_
  | refine Cr.s_revL ?_
  | (refine' Cr.s_isRev ?k1 ?_; (case k1 => with_reducible walk_at "cr.lst"); intro p hp)
  | refine Cr.s_noPart ?_
  | refine Cr.s_part ?_
  | refine Cr.s_isI ?_
  | refine Cr.s_app ?_
  | (refine' Cr.s_isL ?k1 ?_; (case k1 => with_reducible walk_at "cr.lst"))
  | (refine' Cr.s_tyL ?k1 ?_; (case k1 => with_reducible walk_at "cr.lst"))
  | (refine' Cr.s_isR1 ?k1 ?k2 ?_; (case k1 => omega); (case k2 => omega))
  | (refine' Cr.s_slL ?k1 ?_; (case k1 => with_reducible walk_at "cr.lst"); intro p hp)
  | (refine' Cr.s_listL ?k1 ?_; (case k1 => with_reducible walk_at "cr.lst"); intro p hp)
  | refine Cr.s_var (by with_unfolding_all rfl) ?_
  | refine Cr.s_gname ?_
  | walk_at "cr.call")
local macro_rules | `(tactic| walk_at "cr.go") => `(tactic| repeat (walk_at "cr.s"))
/-- the slots as a written list -/
local macro_rules | `(tactic| walk_at "cr.n") => `(tactic| (try simp only [Cr.sets, L2.wipe, List.foldl_cons, List.foldl_nil, List.set_cons_zero, List.set_cons_succ]))
local macro_rules | `(tactic| walk_at "cr.k") => `(tactic| ((try simp only [Cr.cxK0, Cr.cxK1]); (try simp only [L2.start, List.map_cons, List.map_nil, List.length_cons, List.length_nil, List.cons_append, List.nil_append, Nat.reduceAdd, Nat.reduceSub, List.reduceReplicate, List.replicate, Nat.zero_add]); walk_at "cr.go"))

namespace Cr
open PySem PySem.Spec PyProof.Rows L2
section

def topS (i : Nat) : Stmt := PySem.Challenge.pw_crestpool_k62_whole_unlike_ones_are_part.main.body.getD i (.Pass ⟨0, 0, 0, 0⟩)
abbrev s_LotU_initU : Stmt := inClass (topS 13) 0
theorem sc_LotU_initU : FnScope ["self", "worth", "mark"] ["self", "worth", "mark"] (defScope s_LotU_initU) := ⟨rfl, rfl, rfl, by decide +kernel, rfl, by decide +kernel, by decide +kernel⟩
abbrev s_lowest : Stmt := topS 6
theorem sc_lowest : FnScope ["top", "bottom", "one", "other"] ["top", "bottom"] (defScope s_lowest) := ⟨rfl, rfl, rfl, by decide +kernel, rfl, by decide +kernel, by decide +kernel⟩
abbrev s_minus : Stmt := topS 8
theorem sc_minus : FnScope ["one", "other"] ["one", "other"] (defScope s_minus) := ⟨rfl, rfl, rfl, by decide +kernel, rfl, by decide +kernel, by decide +kernel⟩
abbrev s_times : Stmt := topS 9
theorem sc_times : FnScope ["one", "other"] ["one", "other"] (defScope s_times) := ⟨rfl, rfl, rfl, by decide +kernel, rfl, by decide +kernel, by decide +kernel⟩
abbrev s_less : Stmt := topS 11
theorem sc_less : FnScope ["one", "other"] ["one", "other"] (defScope s_less) := ⟨rfl, rfl, rfl, by decide +kernel, rfl, by decide +kernel, by decide +kernel⟩
abbrev s_Lot_fee : Stmt := inClass (topS 13) 4
theorem sc_Lot_fee : FnScope ["self", "rate"] ["self", "rate"] (defScope s_Lot_fee) := ⟨rfl, rfl, rfl, by decide +kernel, rfl, by decide +kernel, by decide +kernel⟩
abbrev s_Lot_grown : Stmt := inClass (topS 13) 7
theorem sc_Lot_grown : FnScope ["self", "factor"] ["self", "factor"] (defScope s_Lot_grown) := ⟨rfl, rfl, rfl, by decide +kernel, rfl, by decide +kernel, by decide +kernel⟩
abbrev s_plus : Stmt := topS 7
theorem sc_plus : FnScope ["one", "other"] ["one", "other"] (defScope s_plus) := ⟨rfl, rfl, rfl, by decide +kernel, rfl, by decide +kernel, by decide +kernel⟩
abbrev s_over : Stmt := topS 10
theorem sc_over : FnScope ["one", "other"] ["one", "other"] (defScope s_over) := ⟨rfl, rfl, rfl, by decide +kernel, rfl, by decide +kernel, by decide +kernel⟩
abbrev s_parted : Stmt := topS 15
theorem sc_parted : FnScope ["one", "other"] ["one", "other"] (defScope s_parted) := ⟨rfl, rfl, rfl, by decide +kernel, rfl, by decide +kernel, by decide +kernel⟩
abbrev s__law_bag : Stmt := topS 17
theorem sc__law_bag : FnScope ["_law_script", "_law_salt", "_law_cell"] ["_law_script"] (defScope s__law_bag) := ⟨rfl, rfl, rfl, by decide +kernel, rfl, by decide +kernel, by decide +kernel⟩
abbrev s__law_pull : Stmt := topS 18
theorem sc__law_pull : FnScope ["_law_bag_here", "_law_many", "_law_found", "_law_cell"] ["_law_bag_here", "_law_many"] (defScope s__law_pull) := ⟨rfl, rfl, rfl, by decide +kernel, rfl, by decide +kernel, by decide +kernel⟩
abbrev s__law_low : Stmt := topS 20
theorem sc__law_low : FnScope ["_law_upper", "_law_lower", "_law_one", "_law_other", "_law_keep"] ["_law_upper", "_law_lower"] (defScope s__law_low) := ⟨rfl, rfl, rfl, by decide +kernel, rfl, by decide +kernel, by decide +kernel⟩
abbrev s__law_wide : Stmt := topS 19
theorem sc__law_wide : FnScope ["_law_bag_here", "_law_many", "_law_low_here"] ["_law_bag_here", "_law_many"] (defScope s__law_wide) := ⟨rfl, rfl, rfl, by decide +kernel, rfl, by decide +kernel, by decide +kernel⟩
abbrev s__law_factor : Stmt := topS 21
theorem sc__law_factor : FnScope ["_law_bag_here", "_law_upper"] ["_law_bag_here"] (defScope s__law_factor) := ⟨rfl, rfl, rfl, by decide +kernel, rfl, by decide +kernel, by decide +kernel⟩
abbrev s__law_mul : Stmt := topS 22
theorem sc__law_mul : FnScope ["_law_one", "_law_other"] ["_law_one", "_law_other"] (defScope s__law_mul) := ⟨rfl, rfl, rfl, by decide +kernel, rfl, by decide +kernel, by decide +kernel⟩
abbrev s__law_lotpair : Stmt := topS 23
theorem sc__law_lotpair : FnScope ["_law_bag_here", "_law_mark", "_law_more"] ["_law_bag_here"] (defScope s__law_lotpair) := ⟨rfl, rfl, rfl, by decide +kernel, rfl, by decide +kernel, by decide +kernel⟩
abbrev s__law_whole : Stmt := topS 24
theorem sc__law_whole : FnScope ["_law_found"] ["_law_found"] (defScope s__law_whole) := ⟨rfl, rfl, rfl, by decide +kernel, rfl, by decide +kernel, by decide +kernel⟩
abbrev s__law_frac : Stmt := topS 25
theorem sc__law_frac : FnScope ["_law_found"] ["_law_found"] (defScope s__law_frac) := ⟨rfl, rfl, rfl, by decide +kernel, rfl, by decide +kernel, by decide +kernel⟩
abbrev s__law_div : Stmt := topS 26
theorem sc__law_div : FnScope ["_law_one", "_law_other"] ["_law_one", "_law_other"] (defScope s__law_div) := ⟨rfl, rfl, rfl, by decide +kernel, rfl, by decide +kernel, by decide +kernel⟩
abbrev s__law_add : Stmt := topS 27
theorem sc__law_add : FnScope ["_law_one", "_law_other"] ["_law_one", "_law_other"] (defScope s__law_add) := ⟨rfl, rfl, rfl, by decide +kernel, rfl, by decide +kernel, by decide +kernel⟩
abbrev s__law_below : Stmt := topS 28
theorem sc__law_below : FnScope ["_law_one", "_law_other"] ["_law_one", "_law_other"] (defScope s__law_below) := ⟨rfl, rfl, rfl, by decide +kernel, rfl, by decide +kernel, by decide +kernel⟩
abbrev s_law : Stmt := topS 29
theorem sc_law : FnScope ["_law_script", "_law_bag_here", "_law_one", "_law_factor_here", "_law_other", "_law_pick", "_law_far", "_law_found", "_law_alike", "_law_tax", "_law_fees_of", "_law_low_here", "_law_high", "_law_pair"] ["_law_script"] (defScope s_law) := ⟨rfl, rfl, rfl, by decide +kernel, rfl, by decide +kernel, by decide +kernel⟩
/-- what the top has left -/
structure Top (K : PySem.W.Frag) (mg : Str → Option Value) where
  n_abs : mg "abs" = none
  n_list : mg "list" = none
  n_len : mg "len" = none
  n_bool : mg "bool" = none
  n_int : mg "int" = none
  n_isinstance : mg "isinstance" = none
  n_tuple : mg "tuple" = none
  a_NOUGHT : Addr
  c_NOUGHT : mg "NOUGHT" = some (.ref a_NOUGHT)
  q_NOUGHT : ∀ H, SqT K H a_NOUGHT [.int 0, .int 1]
  t_WHOLE : Tok
  c_WHOLE : mg "WHOLE" = some (.int 10000 t_WHOLE)
  x_ByNought : Addr
  e_ByNought : ExcT K mg "ByNought" x_ByNought [.type "ZeroDivisionError", .type "ArithmeticError", .type "Exception", .type "BaseException", .type "object"] "ZeroDivisionError.__new__"
  f_LotU_initU : Addr
  fd_LotU_initU : FuncData
  F_LotU_initU : Fun K "__init__" "Lot.__init__" s_LotU_initU f_LotU_initU fd_LotU_initU
  b_LotU_initU : Binds K fd_LotU_initU ["self", "worth", "mark"] []
  k_LotU_initU : PySem.W.keepIn K (.ref f_LotU_initU) = true
  f_lowest : Addr
  fd_lowest : FuncData
  F_lowest : FunD K "lowest" "lowest" (defArgs s_lowest) (defBody s_lowest) (defScope s_lowest) [V.int 1] [] f_lowest fd_lowest
  k_lowest : PySem.W.keepIn K (.ref f_lowest) = true
  g_lowest : mg "lowest" = some (.ref f_lowest)
  f_minus : Addr
  fd_minus : FuncData
  F_minus : Fun K "minus" "minus" s_minus f_minus fd_minus
  b_minus : Binds K fd_minus ["one", "other"] []
  k_minus : PySem.W.keepIn K (.ref f_minus) = true
  g_minus : mg "minus" = some (.ref f_minus)
  f_times : Addr
  fd_times : FuncData
  F_times : Fun K "times" "times" s_times f_times fd_times
  b_times : Binds K fd_times ["one", "other"] []
  k_times : PySem.W.keepIn K (.ref f_times) = true
  g_times : mg "times" = some (.ref f_times)
  f_less : Addr
  fd_less : FuncData
  F_less : Fun K "less" "less" s_less f_less fd_less
  b_less : Binds K fd_less ["one", "other"] []
  k_less : PySem.W.keepIn K (.ref f_less) = true
  g_less : mg "less" = some (.ref f_less)
  f_Lot_fee : Addr
  fd_Lot_fee : FuncData
  F_Lot_fee : Fun K "fee" "Lot.fee" s_Lot_fee f_Lot_fee fd_Lot_fee
  b_Lot_fee : Binds K fd_Lot_fee ["self", "rate"] []
  k_Lot_fee : PySem.W.keepIn K (.ref f_Lot_fee) = true
  f_Lot_grown : Addr
  fd_Lot_grown : FuncData
  F_Lot_grown : Fun K "grown" "Lot.grown" s_Lot_grown f_Lot_grown fd_Lot_grown
  b_Lot_grown : Binds K fd_Lot_grown ["self", "factor"] []
  k_Lot_grown : PySem.W.keepIn K (.ref f_Lot_grown) = true
  f_plus : Addr
  fd_plus : FuncData
  F_plus : Fun K "plus" "plus" s_plus f_plus fd_plus
  b_plus : Binds K fd_plus ["one", "other"] []
  k_plus : PySem.W.keepIn K (.ref f_plus) = true
  g_plus : mg "plus" = some (.ref f_plus)
  f_over : Addr
  fd_over : FuncData
  F_over : Fun K "over" "over" s_over f_over fd_over
  b_over : Binds K fd_over ["one", "other"] []
  k_over : PySem.W.keepIn K (.ref f_over) = true
  g_over : mg "over" = some (.ref f_over)
  f_parted : Addr
  fd_parted : FuncData
  F_parted : Fun K "parted" "parted" s_parted f_parted fd_parted
  b_parted : Binds K fd_parted ["one", "other"] []
  k_parted : PySem.W.keepIn K (.ref f_parted) = true
  g_parted : mg "parted" = some (.ref f_parted)
  f__law_bag : Addr
  fd__law_bag : FuncData
  F__law_bag : Fun K "_law_bag" "_law_bag" s__law_bag f__law_bag fd__law_bag
  b__law_bag : Binds K fd__law_bag ["_law_script"] []
  k__law_bag : PySem.W.keepIn K (.ref f__law_bag) = true
  g__law_bag : mg "_law_bag" = some (.ref f__law_bag)
  f__law_pull : Addr
  fd__law_pull : FuncData
  F__law_pull : Fun K "_law_pull" "_law_pull" s__law_pull f__law_pull fd__law_pull
  b__law_pull : Binds K fd__law_pull ["_law_bag_here", "_law_many"] []
  k__law_pull : PySem.W.keepIn K (.ref f__law_pull) = true
  g__law_pull : mg "_law_pull" = some (.ref f__law_pull)
  f__law_low : Addr
  fd__law_low : FuncData
  F__law_low : Fun K "_law_low" "_law_low" s__law_low f__law_low fd__law_low
  b__law_low : Binds K fd__law_low ["_law_upper", "_law_lower"] []
  k__law_low : PySem.W.keepIn K (.ref f__law_low) = true
  g__law_low : mg "_law_low" = some (.ref f__law_low)
  f__law_wide : Addr
  fd__law_wide : FuncData
  F__law_wide : Fun K "_law_wide" "_law_wide" s__law_wide f__law_wide fd__law_wide
  b__law_wide : Binds K fd__law_wide ["_law_bag_here", "_law_many"] []
  k__law_wide : PySem.W.keepIn K (.ref f__law_wide) = true
  g__law_wide : mg "_law_wide" = some (.ref f__law_wide)
  f__law_factor : Addr
  fd__law_factor : FuncData
  F__law_factor : Fun K "_law_factor" "_law_factor" s__law_factor f__law_factor fd__law_factor
  b__law_factor : Binds K fd__law_factor ["_law_bag_here"] []
  k__law_factor : PySem.W.keepIn K (.ref f__law_factor) = true
  g__law_factor : mg "_law_factor" = some (.ref f__law_factor)
  f__law_mul : Addr
  fd__law_mul : FuncData
  F__law_mul : Fun K "_law_mul" "_law_mul" s__law_mul f__law_mul fd__law_mul
  b__law_mul : Binds K fd__law_mul ["_law_one", "_law_other"] []
  k__law_mul : PySem.W.keepIn K (.ref f__law_mul) = true
  g__law_mul : mg "_law_mul" = some (.ref f__law_mul)
  f__law_lotpair : Addr
  fd__law_lotpair : FuncData
  F__law_lotpair : Fun K "_law_lotpair" "_law_lotpair" s__law_lotpair f__law_lotpair fd__law_lotpair
  b__law_lotpair : Binds K fd__law_lotpair ["_law_bag_here"] []
  k__law_lotpair : PySem.W.keepIn K (.ref f__law_lotpair) = true
  g__law_lotpair : mg "_law_lotpair" = some (.ref f__law_lotpair)
  f__law_whole : Addr
  fd__law_whole : FuncData
  F__law_whole : Fun K "_law_whole" "_law_whole" s__law_whole f__law_whole fd__law_whole
  b__law_whole : Binds K fd__law_whole ["_law_found"] []
  k__law_whole : PySem.W.keepIn K (.ref f__law_whole) = true
  g__law_whole : mg "_law_whole" = some (.ref f__law_whole)
  f__law_frac : Addr
  fd__law_frac : FuncData
  F__law_frac : Fun K "_law_frac" "_law_frac" s__law_frac f__law_frac fd__law_frac
  b__law_frac : Binds K fd__law_frac ["_law_found"] []
  k__law_frac : PySem.W.keepIn K (.ref f__law_frac) = true
  g__law_frac : mg "_law_frac" = some (.ref f__law_frac)
  f__law_div : Addr
  fd__law_div : FuncData
  F__law_div : Fun K "_law_div" "_law_div" s__law_div f__law_div fd__law_div
  b__law_div : Binds K fd__law_div ["_law_one", "_law_other"] []
  k__law_div : PySem.W.keepIn K (.ref f__law_div) = true
  g__law_div : mg "_law_div" = some (.ref f__law_div)
  f__law_add : Addr
  fd__law_add : FuncData
  F__law_add : Fun K "_law_add" "_law_add" s__law_add f__law_add fd__law_add
  b__law_add : Binds K fd__law_add ["_law_one", "_law_other"] []
  k__law_add : PySem.W.keepIn K (.ref f__law_add) = true
  g__law_add : mg "_law_add" = some (.ref f__law_add)
  f__law_below : Addr
  fd__law_below : FuncData
  F__law_below : Fun K "_law_below" "_law_below" s__law_below f__law_below fd__law_below
  b__law_below : Binds K fd__law_below ["_law_one", "_law_other"] []
  k__law_below : PySem.W.keepIn K (.ref f__law_below) = true
  g__law_below : mg "_law_below" = some (.ref f__law_below)
  C_Lot : Addr
  c_Lot : mg "Lot" = some (.ref C_Lot)
  cl_Lot : Cls K C_Lot
  na_Lot_worth : NoAttr K C_Lot "worth"
  na_Lot_mark : NoAttr K C_Lot "mark"
  M_Lot : Mk K C_Lot f_LotU_initU
  m_Lot_fee : Meth K C_Lot "fee" f_Lot_fee
  m_Lot_grown : Meth K C_Lot "grown" f_Lot_grown
section
variable {K : PySem.W.Frag} {mg : Str → Option Value}
theorem bi_lowest_2 (T : Top K mg) : ∃ ds, Vals [] ds ∧ Binds K T.fd_lowest ["top", "bottom"] ds :=
  T.F_lowest.binds1 2 1 (by simp) rfl fun _ _ _ _ _ _ _ us its h1 h2 => match us, its, h1, h2 with | [_, _], [_], _, _ => ⟨_, rfl, rfl⟩
end
variable {P : Program} {w : World} {K : PySem.W.Frag} {mg : Str → Option Value} {base : Heap}
/-! ### LotU_initU -/
def sp_LotU_initU (_K : PySem.W.Frag) (C : Addr) : Sp := fun vs H Q _ => ∃ (p dx : Addr) (x y : V), vs = [.ref p, x, y] ∧ H p = some (.ins C dx []) ∧ ∀ H', (∀ b o, b ≠ p → H b = some o → H' b = some o) → H' p = some (.ins C dx [(("worth" : Str), x), (("mark" : Str), y)]) → Q .non H'
theorem put_wm (x y : V) : putF "mark" y (putF "worth" x []) = [(("worth" : Str), x), (("mark" : Str), y)] := by
  show (if ("worth" : Str) = "mark" then [(("worth" : Str), y)] else (("worth" : Str), x) :: putF "mark" y []) = _
  rw [if_neg wm]
  rfl
theorem ok_LotU_initU (T : Top K mg) : FnOk P w K mg base CX0 1 T.f_LotU_initU T.fd_LotU_initU ["self", "worth", "mark"] (sp_LotU_initU K T.C_Lot) := by
  have hcl_Lot := T.cl_Lot
  have hna_Lot_worth := T.na_Lot_worth
  have hna_Lot_mark := T.na_Lot_mark
  refine T.F_LotU_initU.ok sc_LotU_initU (fun vs H Q E h => by obtain ⟨p, dx, x, y, rfl, _⟩ := h; rfl) (fun cdv A outer s H vs Q E hr h => ?_)
  obtain ⟨p, dx, x, y, rfl, hp, q⟩ := h
  refine ⟨_, (pss_cons (ps_fld (pv 0) (pv 1) rfl)
      (pss_one (ps_fld (pv 0) (pv 2) rfl))), ?_⟩
  refine s_seq ?_
  refine ⟨x, rfl, .ref p, rfl, p, T.C_Lot, dx, [], rfl, hp, T.cl_Lot, T.na_Lot_worth, by show 0 < 1000; decide, y, rfl, .ref p, rfl, p, T.C_Lot, dx, _, rfl, upd_same, T.cl_Lot, T.na_Lot_mark, (by show 1 < 1000; decide), ?_⟩
  exact q _ (fun b o hb e => by rw [upd_ne hb, upd_ne hb]; exact e) (by rw [upd_same, put_wm])
theorem u_makeLot {C : Addr} {H : Hp} {Q : VK} {E : XK} {vs : List V} {x y : V} {w m : Rat} (e : vs = [x, y]) (hx : Dt K H x (fr w)) (hy : Dt K H y (fr m)) (q : ∀ v H', Same H H' → IsLot K C H' v w m → Q v H') : MakeQ C (sp_LotU_initU K C) [] E vs H Q := by
  subst e
  intro p dx np nd ne
  refine ⟨p, dx, x, y, rfl, upd_same, fun H' k hp => ⟨rfl, ?_⟩⟩
  have s : Same H H' := Same.made np nd (fun b o e hb => k b o hb e)
  exact q _ _ s ⟨p, dx, x, y, rfl, hp, hx.mono (kt_same s), hy.mono (kt_same s)⟩
local macro_rules | `(tactic| walk_at "cr.call") => `(tactic| ((with_reducible refine' Cr.u_makeLot ?e ?a ?b ?_); (case e => with_unfolding_all rfl); (case a => walk_at "cr.dt"); (case b => walk_at "cr.dt"); intro v H' hs hl))

/-! ### lowest -/
def sp_lowest (K : PySem.W.Frag) (C : Addr) : Sp := fun vs H Q E => ∃ t b : Int, vs = [.int t, .int b] ∧ b.natAbs < 2 ^ 8000 ∧ (b = 0 → E (.ref C) none H) ∧ (b ≠ 0 → ∀ v H', Same H H' → Dt K H' v (fr (Rat.divInt t b)) → Q v H')
theorem u_lowest {C : Addr} {H : Hp} {Q : VK} {E : XK} {vs : List V} {t b : Int} (e : vs = [.int t, .int b]) (z1 : b ≠ 0) (z2 : b.natAbs < 2 ^ 8000) (q : ∀ v H', Same H H' → Dt K H' v (fr (Rat.divInt t b)) → Q v H') : sp_lowest K C vs H Q E := ⟨t, b, e, z2, fun z => absurd z z1, fun _ => q⟩
theorem u_lowest0 {C : Addr} {H : Hp} {Q : VK} {E : XK} {vs : List V} {t b : Int} (e : vs = [.int t, .int b]) (hb : b = 0) (q : E (.ref C) none H) : sp_lowest K C vs H Q E := ⟨t, b, e, by subst hb; exact Nat.pow_pos (by decide), fun _ => q, fun z => absurd hb z⟩
theorem ok_lowest (T : Top K mg) : FnOk P w K mg base (L2.CX P w) 1 T.f_lowest T.fd_lowest ["top", "bottom"] (sp_lowest K T.x_ByNought) := by
  have hcl_Lot := T.cl_Lot
  have hna_Lot_worth := T.na_Lot_worth
  have hna_Lot_mark := T.na_Lot_mark
  refine T.F_lowest.ok sc_lowest (fun vs H Q E h => by obtain ⟨t, b, rfl, _⟩ := h; rfl) (fun cdv A outer s H vs Q E hr h => ?_)
  obtain ⟨t, b, rfl, hz, q0, q⟩ := h
  refine ⟨_, (pss_cons (ps_if (pt_cmpR (op_eqD hr.units) (pv 1) pe_int (nomark _)) (pss_one (ps_raise rfl (takes_of rfl rfl rfl rfl) (pmk_own0 PySem.F.excBase_ZeroDivisionError T.e_ByNought.q T.e_ByNought.g T.e_ByNought.k (raises_own T.e_ByNought.s T.e_ByNought.t) (by exact rfl)))) pss_nil)
      (pss_cons (ps_par (i := 2) (j := 3) (by rfl) sc_lowest.nd rfl rfl (by decide) rfl rfl (pa_cons (pe_callB call_absU (by rfl) T.n_abs (by decide +kernel) (pa_cons (pv 0) pa_nil)) (pa_cons (pe_callB call_absU (by rfl) T.n_abs (by decide +kernel) (pa_cons (pv 1) pa_nil)) pa_nil)) (by rfl))
      (pss_cons (ps_while (passes_of rfl) (pt_tru (pv 3)) (pss_one (ps_par (i := 2) (j := 3) (by rfl) sc_lowest.nd rfl rfl (by decide) rfl rfl (pa_cons (pv 3) (pa_cons (pe_op op_modU (pv 2) (pv 3)) pa_nil)) (by rfl))))
      (pss_cons (ps_if (pt_cmpR op_ltI (pv 1) pe_int (nomark _)) (pss_one (ps_set (i := 2) sc_lowest.nd rfl (Or.inl rfl) (pe_un un_negU (pv 2)))) pss_nil)
      (pss_one (ps_ret (pe_tup (pa_cons (pe_op op_divU (pv 0) (pv 2)) (pa_cons (pe_op op_divU (pv 1) (pv 2)) pa_nil))))))))), ?_⟩
  walk_at "cr.k"
  refine s_iteD (fun hb => q0 hb) (fun hb => ?_)
  have q := q hb
  clear q0
  walk_at "cr.go"
  refine ⟨fun m σ' H' => ∃ a : Nat, σ' = [some (.int t), some (.int b), some (.int a), some (.int (m : Nat))] ∧ Nat.gcd a m = Nat.gcd t.natAbs b.natAbs ∧ H' = H, ⟨b.natAbs, t.natAbs, rfl, rfl, rfl⟩, ?_⟩
  rintro k σ' H' ⟨a, rfl, hg, rfl⟩
  walk_at "cr.go"
  by_cases hk : k = 0
  · subst hk
    rw [show (((0 : Nat) : Int) != 0) = false by rfl]
    have hg' : a = Nat.gcd t.natAbs b.natAbs := by rw [← hg]; simp
    have gp := gcd_pos (t := t) hb
    have lg : (Nat.gcd t.natAbs b.natAbs) ≤ b.natAbs := Nat.le_of_dvd (by omega) (Nat.gcd_dvd_right _ _)
    walk_at "cr.go"
    have dz : ∀ i : Int, CDivZ i (lowG t b) := fun i => dz_of (n := 8000) (by unfold lowG; split <;> omega) (Nat.lt_of_le_of_lt (by unfold lowG; split <;> omega) hz) (by decide) (by decide)
    by_cases h : b < 0
    · rw [decide_eq_true h]
      have e : -(a : Int) = lowG t b := by rw [lowG, if_pos h, hg']
      walk_at "cr.go"
      rw [e]
      have d1 := dz t
      have d2 := dz b
      walk_at "cr.go"
      rename_i p hp
      rw [low_num hb, low_den hb]
      exact q _ _ (same_new hp) (dt_new (.cons (.int _) (.cons (.int _) .nil)) hp)
    · rw [decide_eq_false h]
      have e : (a : Int) = lowG t b := by rw [lowG, if_neg h, hg']
      walk_at "cr.go"
      rw [e]
      have d1 := dz t
      have d2 := dz b
      walk_at "cr.go"
      rename_i p hp
      rw [low_num hb, low_den hb]
      exact q _ _ (same_new hp) (dt_new (.cons (.int _) (.cons (.int _) .nil)) hp)
  · rw [show ((k : Int) != 0) = true from bne_iff_ne.mpr (by omega)]
    refine iteT ⟨fun σ' H' => ∃ m', m' < k ∧ ∃ a : Nat, σ' = [some (.int t), some (.int b), some (.int a), some (.int (m' : Nat))] ∧ Nat.gcd a m' = Nat.gcd t.natAbs b.natAbs ∧ H' = _, fun _ _ h => h, ?_⟩
    walk_at "cr.go"
    refine ⟨a % k, Nat.mod_lt _ (by omega), k, ?_, (gcd_turn a k).trans hg, rfl⟩
    rw [show ((a : Int).fmod (k : Int)) = ((a % k : Nat) : Int) by rw [Int.fmod_eq_emod_of_nonneg _ (by omega)]; rfl]
    try rfl
local macro_rules | `(tactic| walk_at "cr.call") => `(tactic| ((with_reducible refine' Cr.u_lowest ?e ?a ?b ?_); (case e => with_unfolding_all rfl); (case a => first | with_reducible assumption | omega); (case b => walk_at "cr.pw"); intro v H' hs hd))

/-! ### minus -/
def sp_minus (K : PySem.W.Frag) (C : Addr) : Sp := fun vs H Q E => ∃ (x y : V) (r s : Rat), vs = [x, y] ∧ Dt K H x (fr r) ∧ Dt K H y (fr s) ∧ Sz 4000 r ∧ Sz 4000 s ∧ (∀ v H', Same H H' → Dt K H' v (fr (r - s)) → Q v H')
theorem u_minus {C : Addr} {H : Hp} {Q : VK} {E : XK} {vs : List V} {x y : V} {r s : Rat} (e : vs = [x, y]) (hx : Dt K H x (fr r)) (hy : Dt K H y (fr s)) (z1 : Sz 4000 r) (z2 : Sz 4000 s) (q : ∀ v H', Same H H' → Dt K H' v (fr (r - s)) → Q v H') : sp_minus K C vs H Q E := ⟨x, y, r, s, e, hx, hy, z1, z2, q⟩
theorem ok_minus (T : Top K mg) : FnOk P w K mg base (L2.CX P w) 2 T.f_minus T.fd_minus ["one", "other"] (sp_minus K T.x_ByNought) := by
  have G_lowest := ok_lowest (P := P) (w := w) (base := base) T
  have hcl_Lot := T.cl_Lot
  have hna_Lot_worth := T.na_Lot_worth
  have hna_Lot_mark := T.na_Lot_mark
  obtain ⟨_, v_lowest_2, b_lowest_2⟩ := bi_lowest_2 T
  cases v_lowest_2
  refine T.F_minus.okX sc_minus (fun vs H Q E h => by obtain ⟨x, y, r, s, rfl, _⟩ := h; rfl) (fun cdv A outer s0 H vs Q E hr h => ?_)
  obtain ⟨x, y, r, s, rfl, hx, hy, z1, z2, q⟩ := h
  refine ⟨_, (pss_one (ps_ret (pe_call (G_lowest) (hr.mono (by decide)) (by rfl) T.g_lowest T.k_lowest b_lowest_2 .nil passL (pa_cons (pe_op op_subU (pe_op op_mulU (pe_ix ix_seq (pv 0) pe_int (fun _ _ => rfl)) (pe_ix ix_seq (pv 1) pe_int (fun _ _ => rfl))) (pe_op op_mulU (pe_ix ix_seq (pv 1) pe_int (fun _ _ => rfl)) (pe_ix ix_seq (pv 0) pe_int (fun _ _ => rfl)))) (pa_cons (pe_op op_mulU (pe_ix ix_seq (pv 0) pe_int (fun _ _ => rfl)) (pe_ix ix_seq (pv 1) pe_int (fun _ _ => rfl))) pa_nil))))), ?_⟩
  have z1' := z1.mono (show 4000 ≤ 400000 by decide)
  have z2' := z2.mono (show 4000 ≤ 400000 by decide)
  have dn : (r.den : Int) * s.den ≠ 0 := Int.mul_ne_zero (den_ne r) (den_ne s)
  have dz : ((r.den : Int) * s.den).natAbs < 2 ^ 8000 := natAbs_lt_mul z1.dA z2.dA
  walk_at "cr.k"
  rename_i v H' hs hd
  rw [rat_sub] at hd
  exact q _ _ (by walk_at "cr.sm") (by walk_at "cr.dt")
local macro_rules | `(tactic| walk_at "cr.call") => `(tactic| ((with_reducible refine' Cr.u_minus ?e ?a ?b ?c ?d ?_); (case e => with_unfolding_all rfl); (case a => walk_at "cr.dt"); (case b => walk_at "cr.dt"); (case c => walk_at "cr.z"); (case d => walk_at "cr.z"); intro v H' hs hd))

/-! ### times -/
def sp_times (K : PySem.W.Frag) (C : Addr) : Sp := fun vs H Q E => ∃ (x y : V) (r s : Rat), vs = [x, y] ∧ Dt K H x (fr r) ∧ Dt K H y (fr s) ∧ Sz 4000 r ∧ Sz 4000 s ∧ (∀ v H', Same H H' → Dt K H' v (fr (r * s)) → Q v H')
theorem u_times {C : Addr} {H : Hp} {Q : VK} {E : XK} {vs : List V} {x y : V} {r s : Rat} (e : vs = [x, y]) (hx : Dt K H x (fr r)) (hy : Dt K H y (fr s)) (z1 : Sz 4000 r) (z2 : Sz 4000 s) (q : ∀ v H', Same H H' → Dt K H' v (fr (r * s)) → Q v H') : sp_times K C vs H Q E := ⟨x, y, r, s, e, hx, hy, z1, z2, q⟩
theorem ok_times (T : Top K mg) : FnOk P w K mg base (L2.CX P w) 2 T.f_times T.fd_times ["one", "other"] (sp_times K T.x_ByNought) := by
  have G_lowest := ok_lowest (P := P) (w := w) (base := base) T
  have hcl_Lot := T.cl_Lot
  have hna_Lot_worth := T.na_Lot_worth
  have hna_Lot_mark := T.na_Lot_mark
  obtain ⟨_, v_lowest_2, b_lowest_2⟩ := bi_lowest_2 T
  cases v_lowest_2
  refine T.F_times.okX sc_times (fun vs H Q E h => by obtain ⟨x, y, r, s, rfl, _⟩ := h; rfl) (fun cdv A outer s0 H vs Q E hr h => ?_)
  obtain ⟨x, y, r, s, rfl, hx, hy, z1, z2, q⟩ := h
  refine ⟨_, (pss_one (ps_ret (pe_call (G_lowest) (hr.mono (by decide)) (by rfl) T.g_lowest T.k_lowest b_lowest_2 .nil passL (pa_cons (pe_op op_mulU (pe_ix ix_seq (pv 0) pe_int (fun _ _ => rfl)) (pe_ix ix_seq (pv 1) pe_int (fun _ _ => rfl))) (pa_cons (pe_op op_mulU (pe_ix ix_seq (pv 0) pe_int (fun _ _ => rfl)) (pe_ix ix_seq (pv 1) pe_int (fun _ _ => rfl))) pa_nil))))), ?_⟩
  have z1' := z1.mono (show 4000 ≤ 400000 by decide)
  have z2' := z2.mono (show 4000 ≤ 400000 by decide)
  have dn : (r.den : Int) * s.den ≠ 0 := Int.mul_ne_zero (den_ne r) (den_ne s)
  have dz : ((r.den : Int) * s.den).natAbs < 2 ^ 8000 := natAbs_lt_mul z1.dA z2.dA
  walk_at "cr.k"
  rename_i v H' hs hd
  rw [rat_mul] at hd
  exact q _ _ (by walk_at "cr.sm") (by walk_at "cr.dt")
local macro_rules | `(tactic| walk_at "cr.call") => `(tactic| ((with_reducible refine' Cr.u_times ?e ?a ?b ?c ?d ?_); (case e => with_unfolding_all rfl); (case a => walk_at "cr.dt"); (case b => walk_at "cr.dt"); (case c => walk_at "cr.z"); (case d => walk_at "cr.z"); intro v H' hs hd))

/-! ### less -/
def sp_less (K : PySem.W.Frag) : Sp := spV K (fun x : Rat × Rat => [fr x.1, fr x.2]) (fun x => Sz 400000 x.1 ∧ Sz 400000 x.2) (fun x => .bl (decide (x.1 < x.2)))
theorem u_less {H : Hp} {Q : VK} {E : XK} {vs : List V} {x y : V} {r s : Rat} (e : vs = [x, y]) (hx : Dt K H x (fr r)) (hy : Dt K H y (fr s)) (z1 : Sz 400000 r) (z2 : Sz 400000 s) (q : Q (.bl (decide (r < s))) H) : sp_less K vs H Q E := by
  subst e
  exact ⟨(r, s), .cons hx (.cons hy .nil), ⟨z1, z2⟩, q⟩
theorem ok_less (T : Top K mg) : FnOk P w K mg base CX0 1 T.f_less T.fd_less ["one", "other"] (sp_less K) := by
  have hcl_Lot := T.cl_Lot
  have hna_Lot_worth := T.na_Lot_worth
  have hna_Lot_mark := T.na_Lot_mark
  refine T.F_less.ok sc_less (fun vs H Q E h => by obtain ⟨x, h, _⟩ := h; exact h.len) (fun cdv A outer s H vs Q E hr h => ?_)
  obtain ⟨⟨r, t⟩, hd, ⟨z1, z2⟩, q⟩ := h
  obtain ⟨x, y, rfl, hx, hy⟩ := da2 hd
  dsimp only at hx hy q z1 z2
  refine ⟨_, (pss_one (ps_ret (pe_cmpR op_ltI (pe_op op_mulU (pe_ix ix_seq (pv 0) pe_int (fun _ _ => rfl)) (pe_ix ix_seq (pv 1) pe_int (fun _ _ => rfl))) (pe_op op_mulU (pe_ix ix_seq (pv 1) pe_int (fun _ _ => rfl)) (pe_ix ix_seq (pv 0) pe_int (fun _ _ => rfl))) (nomark _)))), ?_⟩
  walk_at "cr.k"
  rw [lt_dec]
  exact q
local macro_rules | `(tactic| walk_at "cr.call") => `(tactic| ((with_reducible refine' Cr.u_less ?e ?a ?b ?c ?d ?_); (case e => with_unfolding_all rfl); (case a => walk_at "cr.dt"); (case b => walk_at "cr.dt"); (case c => walk_at "cr.z"); (case d => walk_at "cr.z")))

/-! ### Lot_fee -/
theorem Top.nought {K : PySem.W.Frag} {mg : Str → Option Value} (T : Top K mg) (H : Hp) : Dt K H (.ref T.a_NOUGHT) (fr 0) := show Dt K H (.ref T.a_NOUGHT) (.tuple [.int 0, .int 1]) from .tup (T.q_NOUGHT H) (.cons (.int 0) (.cons (.int 1) .nil))
def sp_Lot_fee (K : PySem.W.Frag) (C : Addr) : Sp := fun vs H Q _ => ∃ (v : V) (w m : Rat) (i : Int), vs = [v, .int i] ∧ IsLot K C H v w m ∧ Sz 1900 w ∧ Sz 1900 m ∧ 0 ≤ i ∧ i ≤ 10000 ∧ ∀ x H', Same H H' → Dt K H' x (fr (feeR w m i)) → Q x H'
theorem u_Lot_fee {C : Addr} {H : Hp} {Q : VK} {E : XK} {vs : List V} {v : V} {w m : Rat} {i : Int} (e : vs = [v, .int i]) (hl : IsLot K C H v w m) (z1 : Sz 1900 w) (z2 : Sz 1900 m) (i0 : 0 ≤ i) (i1 : i ≤ 10000) (q : ∀ x H', Same H H' → Dt K H' x (fr (feeR w m i)) → Q x H') : sp_Lot_fee K C vs H Q E := ⟨v, w, m, i, e, hl, z1, z2, i0, i1, q⟩
theorem ok_Lot_fee (T : Top K mg) : FnOk P w K mg base CX0 3 T.f_Lot_fee T.fd_Lot_fee ["self", "rate"] (sp_Lot_fee K T.C_Lot) := by
  have G_lowest := ok_lowest (P := P) (w := w) (base := base) T
  have G_minus := ok_minus (P := P) (w := w) (base := base) T
  have G_times := ok_times (P := P) (w := w) (base := base) T
  have G_less := ok_less (P := P) (w := w) (base := base) T
  have hcl_Lot := T.cl_Lot
  have hna_Lot_worth := T.na_Lot_worth
  have hna_Lot_mark := T.na_Lot_mark
  obtain ⟨_, v_lowest_2, b_lowest_2⟩ := bi_lowest_2 T
  cases v_lowest_2
  have hN := T.nought
  refine T.F_Lot_fee.ok sc_Lot_fee (fun vs H Q E h => by obtain ⟨v, w, m, i, rfl, _⟩ := h; rfl) (fun cdv A outer s H vs Q E hr h => ?_)
  obtain ⟨v, w, m, i, rfl, hl, z1, z2, i0, i1, q⟩ := h
  refine ⟨_, (pss_cons (ps_if (pt_not (pt_tru (pe_call (G_less) (hr.mono (by decide)) (by rfl) T.g_less T.k_less T.b_less .nil pass0 (pa_cons (pe_fld (pv 0) rfl) (pa_cons (pe_fld (pv 0) rfl) pa_nil))))) (pss_one (ps_ret (pe_glob (v := .ref T.a_NOUGHT) (by rfl) T.c_NOUGHT rfl))) pss_nil)
      (pss_one (ps_ret (pe_call (G_times) (hr.mono (by decide)) (by rfl) T.g_times T.k_times T.b_times .nil passL (pa_cons (pe_call (G_minus) (hr.mono (by decide)) (by rfl) T.g_minus T.k_minus T.b_minus .nil passL (pa_cons (pe_fld (pv 0) rfl) (pa_cons (pe_fld (pv 0) rfl) pa_nil))) (pa_cons (pe_call (G_lowest) (hr.mono (by decide)) (by rfl) T.g_lowest T.k_lowest b_lowest_2 .nil passL (pa_cons (pv 1) (pa_cons (pe_glob (v := .int 10000) (by rfl) T.c_WHOLE ⟨_, rfl⟩) pa_nil))) pa_nil)))))), ?_⟩
  walk_at "cr.k"
  refine s_iteN (fun h => ?_) (fun h => ?_)
  · walk_at "cr.go"
    have e : feeR w m i = 0 := by unfold feeR; rw [if_neg h]
    rw [e] at q
    exact q _ _ (Same.refl _) (hN _)
  · have e : feeR w m i = (w - m) * Rat.divInt i 10000 := by unfold feeR; rw [if_pos h]
    rw [e] at q
    walk_at "cr.go"
    exact q _ _ (by walk_at "cr.sm") (by walk_at "cr.dt")
local macro_rules | `(tactic| walk_at "cr.call") => `(tactic| ((with_reducible refine' Cr.u_Lot_fee ?e ?a ?b ?c ?d ?f ?_); (case e => with_unfolding_all rfl); (case a => walk_at "cr.lot"); (case b => walk_at "cr.z"); (case c => walk_at "cr.z"); (case d => omega); (case f => omega); intro x H' hs hd))

/-! ### Lot_grown -/
def sp_Lot_grown (K : PySem.W.Frag) (C : Addr) : Sp := fun vs H Q _ => ∃ (v x : V) (w m r : Rat), vs = [v, x] ∧ IsLot K C H v w m ∧ Dt K H x (fr r) ∧ Sz 4000 w ∧ Sz 4000 m ∧ Sz 4000 r ∧ ∀ y H', Same H H' → IsLot K C H' y (w * r) (m) → Q y H'
theorem u_Lot_grown {C : Addr} {H : Hp} {Q : VK} {E : XK} {vs : List V} {v x : V} {w m r : Rat} (e : vs = [v, x]) (hl : IsLot K C H v w m) (hx : Dt K H x (fr r)) (z1 : Sz 4000 w) (z2 : Sz 4000 m) (z3 : Sz 4000 r) (q : ∀ y H', Same H H' → IsLot K C H' y (w * r) (m) → Q y H') : sp_Lot_grown K C vs H Q E := ⟨v, x, w, m, r, e, hl, hx, z1, z2, z3, q⟩
theorem ok_Lot_grown (T : Top K mg) : FnOk P w K mg base CX0 3 T.f_Lot_grown T.fd_Lot_grown ["self", "factor"] (sp_Lot_grown K T.C_Lot) := by
  have G_LotU_initU := ok_LotU_initU (P := P) (w := w) (base := base) T
  have G_times := ok_times (P := P) (w := w) (base := base) T
  have hcl_Lot := T.cl_Lot
  have hna_Lot_worth := T.na_Lot_worth
  have hna_Lot_mark := T.na_Lot_mark
  refine T.F_Lot_grown.ok sc_Lot_grown (fun vs H Q E h => by obtain ⟨v, x, w, m, r, rfl, _⟩ := h; rfl) (fun cdv A outer s H vs Q E hr h => ?_)
  obtain ⟨v, x, w, m, r, rfl, hl, hx, z1, z2, z3, q⟩ := h
  refine ⟨_, (pss_one (ps_ret (pe_make T.M_Lot (G_LotU_initU) (hr.mono (by decide)) (by rfl) T.c_Lot T.b_LotU_initU .nil pass0 (pa_cons (pe_call (G_times) (hr.mono (by decide)) (by rfl) T.g_times T.k_times T.b_times .nil passL (pa_cons (pe_fld (pv 0) rfl) (pa_cons (pv 1) pa_nil))) (pa_cons (pe_fld (pv 0) rfl) pa_nil))))), ?_⟩
  walk_at "cr.k"
  exact q _ _ (by walk_at "cr.sm") (by walk_at "cr.lot")
local macro_rules | `(tactic| walk_at "cr.call") => `(tactic| ((with_reducible refine' Cr.u_Lot_grown ?e ?a ?b ?c ?d ?f ?_); (case e => with_unfolding_all rfl); (case a => walk_at "cr.lot"); (case b => walk_at "cr.dt"); (case c => walk_at "cr.z"); (case d => walk_at "cr.z"); (case f => walk_at "cr.z"); intro y H' hs hl))

/-! ### plus -/
def sp_plus (K : PySem.W.Frag) (C : Addr) : Sp := fun vs H Q E => ∃ (x y : V) (r s : Rat), vs = [x, y] ∧ Dt K H x (fr r) ∧ Dt K H y (fr s) ∧ Sz 4000 r ∧ Sz 4000 s ∧ (∀ v H', Same H H' → Dt K H' v (fr (r + s)) → Q v H')
theorem u_plus {C : Addr} {H : Hp} {Q : VK} {E : XK} {vs : List V} {x y : V} {r s : Rat} (e : vs = [x, y]) (hx : Dt K H x (fr r)) (hy : Dt K H y (fr s)) (z1 : Sz 4000 r) (z2 : Sz 4000 s) (q : ∀ v H', Same H H' → Dt K H' v (fr (r + s)) → Q v H') : sp_plus K C vs H Q E := ⟨x, y, r, s, e, hx, hy, z1, z2, q⟩
theorem ok_plus (T : Top K mg) : FnOk P w K mg base (L2.CX P w) 2 T.f_plus T.fd_plus ["one", "other"] (sp_plus K T.x_ByNought) := by
  have G_lowest := ok_lowest (P := P) (w := w) (base := base) T
  have hcl_Lot := T.cl_Lot
  have hna_Lot_worth := T.na_Lot_worth
  have hna_Lot_mark := T.na_Lot_mark
  obtain ⟨_, v_lowest_2, b_lowest_2⟩ := bi_lowest_2 T
  cases v_lowest_2
  refine T.F_plus.okX sc_plus (fun vs H Q E h => by obtain ⟨x, y, r, s, rfl, _⟩ := h; rfl) (fun cdv A outer s0 H vs Q E hr h => ?_)
  obtain ⟨x, y, r, s, rfl, hx, hy, z1, z2, q⟩ := h
  refine ⟨_, (pss_one (ps_ret (pe_call (G_lowest) (hr.mono (by decide)) (by rfl) T.g_lowest T.k_lowest b_lowest_2 .nil passL (pa_cons (pe_op op_addU (pe_op op_mulU (pe_ix ix_seq (pv 0) pe_int (fun _ _ => rfl)) (pe_ix ix_seq (pv 1) pe_int (fun _ _ => rfl))) (pe_op op_mulU (pe_ix ix_seq (pv 1) pe_int (fun _ _ => rfl)) (pe_ix ix_seq (pv 0) pe_int (fun _ _ => rfl)))) (pa_cons (pe_op op_mulU (pe_ix ix_seq (pv 0) pe_int (fun _ _ => rfl)) (pe_ix ix_seq (pv 1) pe_int (fun _ _ => rfl))) pa_nil))))), ?_⟩
  have z1' := z1.mono (show 4000 ≤ 400000 by decide)
  have z2' := z2.mono (show 4000 ≤ 400000 by decide)
  have dn : (r.den : Int) * s.den ≠ 0 := Int.mul_ne_zero (den_ne r) (den_ne s)
  have dz : ((r.den : Int) * s.den).natAbs < 2 ^ 8000 := natAbs_lt_mul z1.dA z2.dA
  walk_at "cr.k"
  rename_i v H' hs hd
  rw [rat_add] at hd
  exact q _ _ (by walk_at "cr.sm") (by walk_at "cr.dt")
local macro_rules | `(tactic| walk_at "cr.call") => `(tactic| ((with_reducible refine' Cr.u_plus ?e ?a ?b ?c ?d ?_); (case e => with_unfolding_all rfl); (case a => walk_at "cr.dt"); (case b => walk_at "cr.dt"); (case c => walk_at "cr.z"); (case d => walk_at "cr.z"); intro v H' hs hd))

/-! ### over -/
def sp_over (K : PySem.W.Frag) (C : Addr) : Sp := fun vs H Q E => ∃ (x y : V) (r s : Rat), vs = [x, y] ∧ Dt K H x (fr r) ∧ Dt K H y (fr s) ∧ Sz 4000 r ∧ Sz 4000 s ∧ (s = 0 → E (.ref C) none H) ∧ (s ≠ 0 → ∀ v H', Same H H' → Dt K H' v (fr (r / s)) → Q v H')
theorem u_over {C : Addr} {H : Hp} {Q : VK} {E : XK} {vs : List V} {x y : V} {r s : Rat} (e : vs = [x, y]) (hx : Dt K H x (fr r)) (hy : Dt K H y (fr s)) (z1 : Sz 4000 r) (z2 : Sz 4000 s) (z3 : s ≠ 0) (q : ∀ v H', Same H H' → Dt K H' v (fr (r / s)) → Q v H') : sp_over K C vs H Q E := ⟨x, y, r, s, e, hx, hy, z1, z2, fun z => absurd z z3, fun _ => q⟩
theorem u_over0 {C : Addr} {H : Hp} {Q : VK} {E : XK} {vs : List V} {x y : V} {r s : Rat} (e : vs = [x, y]) (hx : Dt K H x (fr r)) (hy : Dt K H y (fr s)) (z1 : Sz 4000 r) (z2 : Sz 4000 s) (z3 : s = 0) (q : E (.ref C) none H) : sp_over K C vs H Q E := ⟨x, y, r, s, e, hx, hy, z1, z2, fun _ => q, fun z => absurd z3 z⟩
theorem ok_over (T : Top K mg) : FnOk P w K mg base (L2.CX P w) 2 T.f_over T.fd_over ["one", "other"] (sp_over K T.x_ByNought) := by
  have G_lowest := ok_lowest (P := P) (w := w) (base := base) T
  have hcl_Lot := T.cl_Lot
  have hna_Lot_worth := T.na_Lot_worth
  have hna_Lot_mark := T.na_Lot_mark
  obtain ⟨_, v_lowest_2, b_lowest_2⟩ := bi_lowest_2 T
  cases v_lowest_2
  refine T.F_over.okX sc_over (fun vs H Q E h => by obtain ⟨x, y, r, s, rfl, _⟩ := h; rfl) (fun cdv A outer s0 H vs Q E hr h => ?_)
  obtain ⟨x, y, r, s, rfl, hx, hy, z1, z2, q0, q⟩ := h
  refine ⟨_, (pss_one (ps_ret (pe_call (G_lowest) (hr.mono (by decide)) (by rfl) T.g_lowest T.k_lowest b_lowest_2 .nil (passes_call (E := E) (takes_of rfl rfl rfl rfl) (fun _ _ _ _ h => h)) (pa_cons (pe_op op_mulU (pe_ix ix_seq (pv 0) pe_int (fun _ _ => rfl)) (pe_ix ix_seq (pv 1) pe_int (fun _ _ => rfl))) (pa_cons (pe_op op_mulU (pe_ix ix_seq (pv 0) pe_int (fun _ _ => rfl)) (pe_ix ix_seq (pv 1) pe_int (fun _ _ => rfl))) pa_nil))))), ?_⟩
  have z1' := z1.mono (show 4000 ≤ 400000 by decide)
  have z2' := z2.mono (show 4000 ≤ 400000 by decide)
  have dz : ((r.den : Int) * s.num).natAbs < 2 ^ 8000 := natAbs_lt_mul z1.dA z2.1
  by_cases hs : s = 0
  · walk_at "cr.k"
    exact u_lowest0 rfl (by rw [hs]; exact Int.mul_zero _) (q0 hs)
  · have dn : (r.den : Int) * s.num ≠ 0 := Int.mul_ne_zero (den_ne r) (num_ne hs)
    walk_at "cr.k"
    rename_i v H' hs' hd
    rw [rat_div] at hd
    exact q hs _ _ (by walk_at "cr.sm") (by walk_at "cr.dt")
local macro_rules | `(tactic| walk_at "cr.call") => `(tactic| ((with_reducible refine' Cr.u_over ?e ?a ?b ?c ?d ?f ?_); (case e => with_unfolding_all rfl); (case a => walk_at "cr.dt"); (case b => walk_at "cr.dt"); (case c => walk_at "cr.z"); (case d => walk_at "cr.z"); (case f => with_reducible assumption); intro v H' hs hd))

/-! ### parted -/
def ptD (w m w' m' : Rat) : PyData := if w / m = w' / m' then .none else fr ((m + m') / (w + w'))
def sp_parted (K : PySem.W.Frag) (_C : Addr) : Sp := fun vs H Q _ => ∃ (x y : V) (w m w' m' : Rat), vs = [x, y] ∧ Dt K H x (.tuple [fr w, fr m]) ∧ Dt K H y (.tuple [fr w', fr m']) ∧ Sz 1900 w ∧ Sz 1900 m ∧ Sz 1900 w' ∧ Sz 1900 m' ∧ m ≠ 0 ∧ m' ≠ 0 ∧ w + w' ≠ 0 ∧ ∀ v H', Same H H' → Dt K H' v (ptD w m w' m') → Q v H'
theorem u_parted {C : Addr} {H : Hp} {Q : VK} {E : XK} {vs : List V} {x y : V} {w m w' m' : Rat} {d : PyData} (e : vs = [x, y]) (hx : Dt K H x (.tuple [fr w, fr m])) (hy : Dt K H y (.tuple [fr w', fr m'])) (z1 : Sz 1900 w) (z2 : Sz 1900 m) (z3 : Sz 1900 w') (z4 : Sz 1900 m') (n1 : m ≠ 0) (n2 : m' ≠ 0) (n3 : w + w' ≠ 0) (ed : ptD w m w' m' = d)
    (q : ∀ v H', Same H H' → Dt K H' v d → Q v H') : sp_parted K C vs H Q E := ⟨x, y, w, m, w', m', e, hx, hy, z1, z2, z3, z4, n1, n2, n3, by rw [ed]; exact q⟩
theorem ok_parted (T : Top K mg) : FnOk P w K mg base CX0 3 T.f_parted T.fd_parted ["one", "other"] (sp_parted K T.x_ByNought) := by
  have G_plus := ok_plus (P := P) (w := w) (base := base) T
  have G_over := ok_over (P := P) (w := w) (base := base) T
  have hcl_Lot := T.cl_Lot
  have hna_Lot_worth := T.na_Lot_worth
  have hna_Lot_mark := T.na_Lot_mark
  refine T.F_parted.ok sc_parted (fun vs H Q E h => by obtain ⟨x, y, w, m, w', m', rfl, _⟩ := h; rfl) (fun cdv A outer s H vs Q E hr h => ?_)
  obtain ⟨x, y, w, m, w', m', rfl, hx, hy, z1, z2, z3, z4, n1, n2, n3, q⟩ := h
  have y1 := z1.mono (show 1900 ≤ 4000 by decide)
  have y2 := z2.mono (show 1900 ≤ 4000 by decide)
  have y3 := z3.mono (show 1900 ≤ 4000 by decide)
  have y4 := z4.mono (show 1900 ≤ 4000 by decide)
  have y5 : Sz 4000 (m + m') := (z2.add z4).mono (by decide)
  have y6 : Sz 4000 (w + w') := (z1.add z3).mono (by decide)
  refine ⟨_, (pss_cons (ps_if (pt_cmpR (op_eqD hr.units) (pe_call (G_over) (hr.mono (by decide)) (by rfl) T.g_over T.k_over T.b_over .nil passL (pa_cons (pe_ix ix_seq (pv 0) pe_int (fun _ _ => rfl)) (pa_cons (pe_ix ix_seq (pv 0) pe_int (fun _ _ => rfl)) pa_nil))) (pe_call (G_over) (hr.mono (by decide)) (by rfl) T.g_over T.k_over T.b_over .nil passL (pa_cons (pe_ix ix_seq (pv 1) pe_int (fun _ _ => rfl)) (pa_cons (pe_ix ix_seq (pv 1) pe_int (fun _ _ => rfl)) pa_nil))) (nomark _)) (pss_one (ps_ret pe_non)) pss_nil)
      (pss_one (ps_ret (pe_call (G_over) (hr.mono (by decide)) (by rfl) T.g_over T.k_over T.b_over .nil passL (pa_cons (pe_call (G_plus) (hr.mono (by decide)) (by rfl) T.g_plus T.k_plus T.b_plus .nil passL (pa_cons (pe_ix ix_seq (pv 0) pe_int (fun _ _ => rfl)) (pa_cons (pe_ix ix_seq (pv 1) pe_int (fun _ _ => rfl)) pa_nil))) (pa_cons (pe_call (G_plus) (hr.mono (by decide)) (by rfl) T.g_plus T.k_plus T.b_plus .nil passL (pa_cons (pe_ix ix_seq (pv 0) pe_int (fun _ _ => rfl)) (pa_cons (pe_ix ix_seq (pv 1) pe_int (fun _ _ => rfl)) pa_nil))) pa_nil)))))), ?_⟩
  walk_at "cr.k"
  refine s_iteD (fun h => ?_) (fun h => ?_)
  · have e : ptD w m w' m' = .none := by unfold ptD; rw [if_pos h]
    rw [e] at q
    walk_at "cr.go"
    exact q _ _ (by walk_at "cr.sm") .non
  · have e : ptD w m w' m' = fr ((m + m') / (w + w')) := by unfold ptD; rw [if_neg h]
    rw [e] at q
    walk_at "cr.go"
    exact q _ _ (by walk_at "cr.sm") (by walk_at "cr.dt")
local macro_rules | `(tactic| walk_at "cr.call") => `(tactic| ((with_reducible refine' Cr.u_parted ?e ?a ?b ?z1 ?z2 ?z3 ?z4 ?n1 ?n2 ?n3 ?ed ?_); (case e => with_unfolding_all rfl); (case a => walk_at "cr.dt"); (case b => walk_at "cr.dt"); (case z1 => walk_at "cr.z"); (case z2 => walk_at "cr.z"); (case z3 => walk_at "cr.z"); (case z4 => walk_at "cr.z"); (case n1 => with_reducible assumption); (case n2 => with_reducible assumption); (case n3 => with_reducible assumption); (case ed => first | with_reducible assumption | exact rfl); intro v H' hs hd; first | (have ev := Cr.Dt.non_eq hd; subst ev) | skip))

/-! ### _law_bag -/
def sp__law_bag (K : PySem.W.Frag) : Sp := fun vs H Q _ => ∃ (a : Addr) (ns : List Int), vs = [.ref a] ∧ SqL K H a (ns.map V.int) ∧ ∀ b l H', Same H H' → H b = none → H l = none → Bag H' b l → Q (.ref b) H'
theorem u__law_bag {H : Hp} {Q : VK} {E : XK} {vs : List V} {a : Addr} {ns : List Int} (e : vs = [.ref a]) (h : SqL K H a (ns.map V.int)) (q : ∀ b l H', Same H H' → H b = none → H l = none → Bag H' b l → Q (.ref b) H') : sp__law_bag K vs H Q E := ⟨a, ns, e, h, q⟩
theorem ok__law_bag (T : Top K mg) : FnOk P w K mg base CX0 1 T.f__law_bag T.fd__law_bag ["_law_script"] (sp__law_bag K) := by
  have hcl_Lot := T.cl_Lot
  have hna_Lot_worth := T.na_Lot_worth
  have hna_Lot_mark := T.na_Lot_mark
  refine T.F__law_bag.ok sc__law_bag (fun vs H Q E h => by obtain ⟨a, ns, rfl, _⟩ := h; rfl) (fun cdv A outer s H vs Q E hr h => ?_)
  obtain ⟨a, ns, rfl, hS, q⟩ := h
  refine ⟨_, (pss_cons (ps_set (i := 1) sc__law_bag.nd rfl (Or.inl rfl) pe_int)
      (pss_cons (ps_for PassesOwn.never rfl (pi_list (pe_slice sl_seqU (pv 0) po_none (po_some pe_int))) (pg_name (i := 2) sc__law_bag.nd rfl (Or.inl rfl)) (pss_one (ps_set (i := 1) sc__law_bag.nd rfl (Or.inl rfl) (pe_op op_modU (pe_op op_addU (pe_op op_mulU (pv 1) pe_int) (pv 2)) pe_int))))
      (pss_one (ps_ret (pe_lst (pa_cons (pe_callTy call_listU (by rfl) T.n_list (by decide +kernel) (pa_cons (pe_slice sl_seqU (pv 0) po_none (po_some pe_int)) pa_nil)) (pa_cons pe_int (pa_cons pe_int (pa_cons (pv 1) pa_nil))))))))), ?_⟩
  obtain ⟨ms, hms⟩ := cut_ints ns none (some 63)
  walk_at "cr.k"
  rename_i p hp
  rw [hms]
  refine f_list (xs := ms.map V.int) (fun i σ' H' => ∃ (z : Int) (y : Option V), σ' = [some (.ref a), some (.int z), y] ∧ 0 ≤ z ∧ z < 2147483629 ∧ H' = upd H p (.lst (ms.map V.int))) ⟨7, none, rfl, by decide, by decide, rfl⟩ ?_ ?_ ?_
  · rintro i σ' H' _ ⟨z, y, _, _, _, rfl⟩
    exact SqL.of upd_same
  · rintro i x σ' H' hx ⟨z, y, rfl, h0, h1, rfl⟩
    obtain ⟨c, hc, rfl⟩ : ∃ c, ms[i]? = some c ∧ x = V.int c := by
      rw [List.getElem?_map] at hx
      cases e : ms[i]? with
      | none => rw [e] at hx; cases hx
      | some c => rw [e] at hx; exact ⟨c, rfl, (Option.some.inj hx).symm⟩
    walk_at "cr.go"
    refine ⟨_, _, rfl, ?_, ?_, rfl⟩
    · rw [Int.fmod_eq_emod_of_nonneg _ (by decide)]; exact Int.emod_nonneg _ (by decide)
    · rw [Int.fmod_eq_emod_of_nonneg _ (by decide)]; exact Int.emod_lt_of_pos _ (by decide)
  · rintro σ' H' ⟨z, y, rfl, h0, h1, rfl⟩
    walk_at "cr.go"
    rw [hms]
    rename_i p2 hp2 p3 hp3 p4 hp4
    have n3 : H p3 = none := (same_new hp).free ((same_new hp2).free hp3)
    have n4 : H p4 = none := (same_new hp).free ((same_new hp2).free ((same_new hp3).free hp4))
    refine q p4 p3 _ (by walk_at "cr.sm") n4 n3 ⟨ms, 0, 0, z, upd_same, ?_, by decide, by omega, by omega, ?_⟩
    · rw [upd_ne (ne_of_none (upd_same) hp4), upd_same]
    · exact ne_of_none (upd_same) hp4
local macro_rules | `(tactic| walk_at "cr.call") => `(tactic| ((with_reducible refine' Cr.u__law_bag ?e ?a ?_); (case e => with_unfolding_all rfl); (case a => walk_at "cr.lst"); intro b l H' hs nb nl hB))

/-! ### _law_pull -/
def sp__law_pull (K : PySem.W.Frag) : Sp := fun vs H Q _ => ∃ (b l : Addr) (m : Int), vs = [.ref b, .int m] ∧ Bag H b l ∧ 0 < m ∧ m < 2 ^ 64 ∧ ∀ k H', 0 ≤ k → k < m → But b H H' → Bag H' b l → Q (.int k) H'
theorem u__law_pull {H : Hp} {Q : VK} {E : XK} {vs : List V} {b l : Addr} {m : Int} (e : vs = [.ref b, .int m]) (h : Bag H b l) (h0 : 0 < m) (h1 : m < 2 ^ 64) (q : ∀ k H', 0 ≤ k → k < m → But b H H' → Bag H' b l → Q (.int k) H') : sp__law_pull K vs H Q E := ⟨b, l, m, e, h, h0, h1, q⟩
theorem fmod_in {i m : Int} (h : 0 < m) : 0 ≤ i.fmod m ∧ i.fmod m < m := by
  rw [Int.fmod_eq_emod_of_nonneg _ (by omega)]
  exact ⟨Int.emod_nonneg _ (by omega), Int.emod_lt_of_pos _ h⟩
theorem dz_small {i j : Int} (h : 0 < j) (k : j < 2 ^ 64) : CDivZ i j := dz_of (n := 64) (by omega) (by omega) (by decide) (by decide)
theorem but_upd {H H1 : Hp} {b : Addr} {o : HO} (h : But b H H1) : But b H (upd H1 b o) := ⟨fun a u n e => by rw [upd_ne n]; exact h.oth a u n e, h.lst⟩
theorem ok__law_pull (T : Top K mg) : FnOk P w K mg base CX0 1 T.f__law_pull T.fd__law_pull ["_law_bag_here", "_law_many"] (sp__law_pull K) := by
  have hcl_Lot := T.cl_Lot
  have hna_Lot_worth := T.na_Lot_worth
  have hna_Lot_mark := T.na_Lot_mark
  refine T.F__law_pull.ok sc__law_pull (fun vs H Q E h => by obtain ⟨b, l, m, rfl, _⟩ := h; rfl) (fun cdv A outer s H vs Q E hr h => ?_)
  obtain ⟨b, l, m, rfl, hB, h0, h1, q⟩ := h
  have hB' := hB
  obtain ⟨ns, p, r, z, e1, e2, hp0, hz0, hz1, hlb⟩ := hB
  have dz : ∀ i, CDivZ i m := fun i => dz_small h0 h1
  refine ⟨_, (pss_cons (ps_if (pt_cmpR op_gtI (pe_ix ix_seq (pv 0) pe_int (fun _ _ => rfl)) pe_int (nomark _)) (pss_cons (ps_set (i := 2) sc__law_pull.nd rfl (Or.inl rfl) (pe_op op_modU (pe_ix ix_seq (pv 0) pe_int (fun _ _ => rfl)) (pv 1)))
      (pss_cons (ps_asg (pe_op op_divU (pe_ix ix_seq (pv 0) pe_int (fun _ _ => rfl)) (pv 1)) (pg_sub (pv 0) pe_int set_list))
      (pss_one (ps_ret (pv 2))))) pss_nil)
      (pss_cons (ps_set (i := 3) sc__law_pull.nd rfl (Or.inl rfl) pe_int)
      (pss_cons (ps_if (pt_cmpR op_ltI (pe_ix ix_seq (pv 0) pe_int (fun _ _ => rfl)) (pe_callB call_lenU (by rfl) T.n_len (by decide +kernel) (pa_cons (pe_ix ix_seq (pv 0) pe_int (fun _ _ => rfl)) pa_nil)) (nomark _)) (pss_one (ps_set (i := 3) sc__law_pull.nd rfl (Or.inl rfl) (pe_ix ix_seq (pe_ix ix_seq (pv 0) pe_int (fun _ _ => rfl)) (pe_ix ix_seq (pv 0) pe_int (fun _ _ => rfl)) (fun _ _ => rfl)))) pss_nil)
      (pss_cons (ps_asg (pe_op op_addU (pe_ix ix_seq (pv 0) pe_int (fun _ _ => rfl)) pe_int) (pg_sub (pv 0) pe_int set_list))
      (pss_cons (ps_if (pt_cmpR op_geI (pv 3) (pe_op op_powU pe_int pe_int) (nomark _)) (pss_cons (ps_asg (pe_op op_divU (pv 3) (pv 1)) (pg_sub (pv 0) pe_int set_list))
      (pss_one (ps_ret (pe_op op_modU (pv 3) (pv 1))))) pss_nil)
      (pss_cons (ps_asg (pe_op op_modU (pe_op op_addU (pe_op op_addU (pe_op op_mulU (pe_ix ix_seq (pv 0) pe_int (fun _ _ => rfl)) pe_int) (pe_op op_modU (pv 3) pe_int)) (pe_op op_mulU pe_int (pe_ix ix_seq (pv 0) pe_int (fun _ _ => rfl)))) pe_int) (pg_sub (pv 0) pe_int set_list))
      (pss_cons (ps_asg (pe_op op_modU (pe_op op_addU (pe_op op_mulU (pe_ix ix_seq (pv 0) pe_int (fun _ _ => rfl)) pe_int) pe_int) pe_int) (pg_sub (pv 0) pe_int set_list))
      (pss_one (ps_ret (pe_op op_modU (pe_op op_divU (pe_ix ix_seq (pv 0) pe_int (fun _ _ => rfl)) pe_int) (pv 1))))))))))), ?_⟩
  walk_at "cr.k"
  by_cases hr0 : 0 < r
  · rw [decide_eq_true hr0]
    have d := dz r
    walk_at "cr.go"
    exact q _ _ (fmod_in h0).1 (fmod_in h0).2 (but_upd (but_of hB' fun _ _ _ e => e)) ⟨ns, p, r.fdiv m, z, upd_same, (upd_ne hlb).trans e2, hp0, hz0, hz1, hlb⟩
  · rw [decide_eq_false hr0]
    walk_at "cr.go"
    have tl : ∀ (z' p' r' : Int) (H' : Hp), H' = upd H b (.lst [.ref l, .int p', .int r', .int z']) → 0 ≤ p' → -(2 ^ 40) < z' → z' < 2 ^ 40 → Bag H' b l := fun z' p' r' H' e h1 h2 h3 => by
      subst e
      exact ⟨ns, p', r', z', upd_same, (upd_ne hlb).trans e2, h1, h2, h3, hlb⟩
    have bt : ∀ o : HO, But b H (upd H b o) := fun o => but_upd (but_of hB' fun _ _ _ e => e)
    have zi : ∀ i : Int, -(2 ^ 40) < i.fmod 2147483647 ∧ i.fmod 2147483647 < 2 ^ 40 := fun i => by
      have := fmod_in (i := i) (m := 2147483647) (by decide)
      omega
    have zm : ∀ i : Int, CMulZ (i.fmod 2147483647) 69621 := fun i => by
      have := fmod_in (i := i) (m := 2147483647) (by decide)
      exact .inl (.inl ⟨by omega, by omega⟩)
    have hlen : (ns.map V.int).length = ns.length := List.length_map _
    refine s_iteD (fun hlt => ?_) (fun hlt => ?_)
    · have hlt' : p < ns.length := by have := hlt; omega
      obtain ⟨c, hc⟩ : ∃ c : Int, atI (ns.map V.int) p = some (.int c) := by
        obtain ⟨j, rfl⟩ : ∃ j : Nat, p = (j : Int) := ⟨p.toNat, by omega⟩
        have hj : j < ns.length := by omega
        exact ⟨ns[j], atI_nat (by rw [List.getElem?_map, List.getElem?_eq_getElem hj]; rfl)⟩
      have d := dz c
      walk_at "cr.go"
      refine s_iteD (fun hc => ?_) (fun hc => ?_)
      · walk_at "cr.go"
        simp only [upd_upd]
        exact q _ _ (fmod_in h0).1 (fmod_in h0).2 (bt _) (tl z (p + 1) (c.fdiv m) _ rfl (by omega) hz0 hz1)
      · walk_at "cr.go"
        have zz := zm ((z * 48271 + c.fmod 2147483629 + 17 * (p + 1)))
        walk_at "cr.go"
        have dd : CDivZ ((((z * 48271 + c.fmod 2147483629 + 17 * (p + 1)).fmod 2147483647) * 69621 + 11).fmod 2147483647) 64 := dz_small (by decide) (by decide)
        walk_at "cr.go"
        simp only [upd_upd]
        exact q _ _ (fmod_in h0).1 (fmod_in h0).2 (bt _) (tl _ (p + 1) r _ rfl (by omega) (zi _).1 (zi _).2)
    · have d := dz 0
      walk_at "cr.go"
      refine s_iteD (fun hc => ?_) (fun hc => ?_)
      · walk_at "cr.go"
        simp only [upd_upd]
        exact q _ _ (fmod_in h0).1 (fmod_in h0).2 (bt _) (tl z (p + 1) ((0 : Int).fdiv m) _ rfl (by omega) hz0 hz1)
      · walk_at "cr.go"
        have zz := zm ((z * 48271 + (0 : Int).fmod 2147483629 + 17 * (p + 1)))
        walk_at "cr.go"
        have dd : CDivZ ((((z * 48271 + (0 : Int).fmod 2147483629 + 17 * (p + 1)).fmod 2147483647) * 69621 + 11).fmod 2147483647) 64 := dz_small (by decide) (by decide)
        walk_at "cr.go"
        simp only [upd_upd]
        exact q _ _ (fmod_in h0).1 (fmod_in h0).2 (bt _) (tl _ (p + 1) r _ rfl (by omega) (zi _).1 (zi _).2)
local macro_rules | `(tactic| walk_at "cr.call") => `(tactic| ((with_reducible refine' Cr.u__law_pull ?e ?a ?b ?c ?_); (case e => with_unfolding_all rfl); (case a => walk_at "cr.bag"); (case b => first | assumption | omega | decide); (case c => first | assumption | omega | decide); intro k H' hk0 hk1 hb hB))

/-! ### _law_low -/
def sp__law_low (K : PySem.W.Frag) : Sp := spP K (fun x : Int × Int => [.int x.1, .int x.2]) (fun x => x.2 ≠ 0 ∧ x.2.natAbs < 2 ^ 8000) (fun x => fr (Rat.divInt x.1 x.2))
theorem u__law_low {H : Hp} {Q : VK} {E : XK} {vs : List V} {t b : Int} (e : vs = [.int t, .int b]) (z1 : b ≠ 0) (z2 : b.natAbs < 2 ^ 8000) (q : ∀ v H', Same H H' → Dt K H' v (fr (Rat.divInt t b)) → Q v H') : sp__law_low K vs H Q E := by
  subst e
  exact ⟨(t, b), .cons (.int _) (.cons (.int _) .nil), ⟨z1, z2⟩, q⟩
theorem ok__law_low (T : Top K mg) : FnOk P w K mg base CX0 1 T.f__law_low T.fd__law_low ["_law_upper", "_law_lower"] (sp__law_low K) := by
  have hcl_Lot := T.cl_Lot
  have hna_Lot_worth := T.na_Lot_worth
  have hna_Lot_mark := T.na_Lot_mark
  refine T.F__law_low.ok sc__law_low (fun vs H Q E h => by obtain ⟨x, h, _⟩ := h; exact h.len) (fun cdv A outer s H vs Q E hr h => ?_)
  obtain ⟨⟨t, b⟩, hd, ⟨hb, hz⟩, q⟩ := h
  obtain ⟨x, y, rfl, hx, hy⟩ := da2 hd
  cases hx
  cases hy
  dsimp only at q hb hz
  refine ⟨_, (pss_cons (ps_set (i := 2) sc__law_low.nd rfl (Or.inl rfl) (pe_callB call_absU (by rfl) T.n_abs (by decide +kernel) (pa_cons (pv 0) pa_nil)))
      (pss_cons (ps_set (i := 3) sc__law_low.nd rfl (Or.inl rfl) (pe_callB call_absU (by rfl) T.n_abs (by decide +kernel) (pa_cons (pv 1) pa_nil)))
      (pss_cons (ps_while PassesOwn.never (pt_cmpR (op_neD hr.units) (pv 3) pe_int (nomark _)) (pss_cons (ps_set (i := 4) sc__law_low.nd rfl (Or.inl rfl) (pe_op op_modU (pv 2) (pv 3)))
      (pss_cons (ps_set (i := 2) sc__law_low.nd rfl (Or.inl rfl) (pv 3))
      (pss_one (ps_set (i := 3) sc__law_low.nd rfl (Or.inl rfl) (pv 4))))))
      (pss_cons (ps_if (pt_cmpR op_ltI (pv 1) pe_int (nomark _)) (pss_one (ps_set (i := 2) sc__law_low.nd rfl (Or.inl rfl) (pe_un un_negU (pv 2)))) pss_nil)
      (pss_one (ps_ret (pe_tup (pa_cons (pe_op op_divU (pv 0) (pv 2)) (pa_cons (pe_op op_divU (pv 1) (pv 2)) pa_nil))))))))), ?_⟩
  walk_at "cr.k"
  refine ⟨fun m σ' H' => ∃ a : Nat, ∃ y, σ' = [some (.int t), some (.int b), some (.int a), some (.int (m : Nat)), y] ∧ Nat.gcd a m = Nat.gcd t.natAbs b.natAbs ∧ H' = H, ⟨b.natAbs, t.natAbs, none, rfl, rfl, rfl⟩, ?_⟩
  rintro k σ' H' ⟨a, y, rfl, hg, rfl⟩
  walk_at "cr.go"
  by_cases hk : k = 0
  · subst hk
    rw [show (!decide (((0 : Nat) : Int) = 0)) = false by rfl]
    have hg' : a = Nat.gcd t.natAbs b.natAbs := by rw [← hg]; simp
    have gp := gcd_pos (t := t) hb
    have lg : (Nat.gcd t.natAbs b.natAbs) ≤ b.natAbs := Nat.le_of_dvd (by omega) (Nat.gcd_dvd_right _ _)
    walk_at "cr.go"
    have dz : ∀ i : Int, CDivZ i (lowG t b) := fun i => dz_of (n := 8000) (by unfold lowG; split <;> omega) (Nat.lt_of_le_of_lt (by unfold lowG; split <;> omega) hz) (by decide) (by decide)
    by_cases h : b < 0
    · rw [decide_eq_true h]
      have e : -(a : Int) = lowG t b := by rw [lowG, if_pos h, hg']
      walk_at "cr.go"
      rw [e]
      have d1 := dz t
      have d2 := dz b
      walk_at "cr.go"
      rename_i p hp
      rw [low_num hb, low_den hb]
      exact q _ _ (same_new hp) (dt_new (.cons (.int _) (.cons (.int _) .nil)) hp)
    · rw [decide_eq_false h]
      have e : (a : Int) = lowG t b := by rw [lowG, if_neg h, hg']
      walk_at "cr.go"
      rw [e]
      have d1 := dz t
      have d2 := dz b
      walk_at "cr.go"
      rename_i p hp
      rw [low_num hb, low_den hb]
      exact q _ _ (same_new hp) (dt_new (.cons (.int _) (.cons (.int _) .nil)) hp)
  · rw [show (!decide ((k : Int) = 0)) = true by rw [decide_eq_false (by omega)]; rfl]
    refine iteT ⟨fun σ' H' => ∃ m', m' < k ∧ ∃ a : Nat, ∃ y, σ' = [some (.int t), some (.int b), some (.int a), some (.int (m' : Nat)), y] ∧ Nat.gcd a m' = Nat.gcd t.natAbs b.natAbs ∧ H' = _, fun _ _ h => h, ?_⟩
    walk_at "cr.go"
    refine ⟨a % k, Nat.mod_lt _ (by omega), k, some (.int (a % k : Nat)), ?_, (gcd_turn a k).trans hg, rfl⟩
    rw [show ((a : Int).fmod (k : Int)) = ((a % k : Nat) : Int) by rw [Int.fmod_eq_emod_of_nonneg _ (by omega)]; rfl]
    try rfl
local macro_rules | `(tactic| walk_at "cr.call") => `(tactic| ((with_reducible refine' Cr.u__law_low ?e ?a ?b ?_); (case e => with_unfolding_all rfl); (case a => first | assumption | omega); (case b => walk_at "cr.pw"); intro v H' hs hd))

/-! ### _law_wide -/
def sp__law_wide (K : PySem.W.Frag) : Sp := fun vs H Q _ => ∃ (b l : Addr) (m : Int), vs = [.ref b, .int m] ∧ Bag H b l ∧ 0 < m ∧ ∀ k H', 0 ≤ k → k < m → But b H H' → Bag H' b l → Q (.int k) H'
theorem u__law_wide {H : Hp} {Q : VK} {E : XK} {vs : List V} {b l : Addr} {m : Int} (e : vs = [.ref b, .int m]) (h : Bag H b l) (h0 : 0 < m) (q : ∀ k H', 0 ≤ k → k < m → But b H H' → Bag H' b l → Q (.int k) H') : sp__law_wide K vs H Q E := ⟨b, l, m, e, h, h0, q⟩
theorem ok__law_wide (T : Top K mg) : FnOk P w K mg base CX0 2 T.f__law_wide T.fd__law_wide ["_law_bag_here", "_law_many"] (sp__law_wide K) := by
  have G__law_pull := ok__law_pull (P := P) (w := w) (base := base) T
  have hcl_Lot := T.cl_Lot
  have hna_Lot_worth := T.na_Lot_worth
  have hna_Lot_mark := T.na_Lot_mark
  refine T.F__law_wide.ok sc__law_wide (fun vs H Q E h => by obtain ⟨b, l, m, rfl, _⟩ := h; rfl) (fun cdv A outer s H vs Q E hr h => ?_)
  obtain ⟨b, l, m, rfl, hB, h0, q⟩ := h
  refine ⟨_, (pss_cons (ps_set (i := 2) sc__law_wide.nd rfl (Or.inl rfl) (pe_call (G__law_pull) (hr.mono (by decide)) (by rfl) T.g__law_pull T.k__law_pull T.b__law_pull .nil pass0 (pa_cons (pv 0) (pa_cons pe_int pa_nil))))
      (pss_one (ps_ret (pe_op op_modU (pe_op op_addU (pv 2) (pe_op op_mulU pe_int (pe_call (G__law_pull) (hr.mono (by decide)) (by rfl) T.g__law_pull T.k__law_pull T.b__law_pull .nil pass0 (pa_cons (pv 0) (pa_cons pe_int pa_nil))))) (pv 1))))), ?_⟩
  walk_at "cr.k"
  exact q _ _ (fmod_in h0).1 (fmod_in h0).2 (by walk_at "cr.but") (by walk_at "cr.bag")
local macro_rules | `(tactic| walk_at "cr.call") => `(tactic| ((with_reducible refine' Cr.u__law_wide ?e ?a ?b ?_); (case e => with_unfolding_all rfl); (case a => walk_at "cr.bag"); (case b => first | assumption | omega | decide); intro k H' hk0 hk1 hb hB))

/-! ### _law_factor -/
def sp__law_factor (K : PySem.W.Frag) : Sp := fun vs H Q _ => ∃ (b l : Addr), vs = [.ref b] ∧ Bag H b l ∧ ∀ v r H', But b H H' → Bag H' b l → Dt K H' v (fr r) → Sz 64 r → 0 < r → Q v H'
theorem u__law_factor {H : Hp} {Q : VK} {E : XK} {vs : List V} {b l : Addr} (e : vs = [.ref b]) (h : Bag H b l) (q : ∀ v r H', But b H H' → Bag H' b l → Dt K H' v (fr r) → Sz 64 r → 0 < r → Q v H') : sp__law_factor K vs H Q E := ⟨b, l, e, h, q⟩
theorem ok__law_factor (T : Top K mg) : FnOk P w K mg base CX0 3 T.f__law_factor T.fd__law_factor ["_law_bag_here"] (sp__law_factor K) := by
  have G__law_pull := ok__law_pull (P := P) (w := w) (base := base) T
  have G__law_low := ok__law_low (P := P) (w := w) (base := base) T
  have G__law_wide := ok__law_wide (P := P) (w := w) (base := base) T
  have hcl_Lot := T.cl_Lot
  have hna_Lot_worth := T.na_Lot_worth
  have hna_Lot_mark := T.na_Lot_mark
  refine T.F__law_factor.ok sc__law_factor (fun vs H Q E h => by obtain ⟨b, l, rfl, _⟩ := h; rfl) (fun cdv A outer s H vs Q E hr h => ?_)
  obtain ⟨b, l, rfl, hB, q⟩ := h
  refine ⟨_, (pss_cons (ps_set (i := 1) sc__law_factor.nd rfl (Or.inl rfl) (pe_op op_addU pe_int (pe_ix ix_seq (pe_lst (pa_cons (pe_call (G__law_pull) (hr.mono (by decide)) (by rfl) T.g__law_pull T.k__law_pull T.b__law_pull .nil pass0 (pa_cons (pv 0) (pa_cons pe_int pa_nil))) (pa_cons (pe_call (G__law_pull) (hr.mono (by decide)) (by rfl) T.g__law_pull T.k__law_pull T.b__law_pull .nil pass0 (pa_cons (pv 0) (pa_cons (pe_op op_powU pe_int pe_int) pa_nil))) (pa_cons (pe_call (G__law_wide) (hr.mono (by decide)) (by rfl) T.g__law_wide T.k__law_wide T.b__law_wide .nil pass0 (pa_cons (pv 0) (pa_cons (pe_op op_powU pe_int pe_int) pa_nil))) pa_nil)))) (pe_call (G__law_pull) (hr.mono (by decide)) (by rfl) T.g__law_pull T.k__law_pull T.b__law_pull .nil pass0 (pa_cons (pv 0) (pa_cons pe_int pa_nil))) (fun _ _ => rfl))))
      (pss_one (ps_ret (pe_call (G__law_low) (hr.mono (by decide)) (by rfl) T.g__law_low T.k__law_low T.b__law_low .nil pass0 (pa_cons (pv 1) (pa_cons (pe_op op_addU pe_int (pe_ix ix_seq (pe_lst (pa_cons (pe_call (G__law_pull) (hr.mono (by decide)) (by rfl) T.g__law_pull T.k__law_pull T.b__law_pull .nil pass0 (pa_cons (pv 0) (pa_cons pe_int pa_nil))) (pa_cons (pe_call (G__law_pull) (hr.mono (by decide)) (by rfl) T.g__law_pull T.k__law_pull T.b__law_pull .nil pass0 (pa_cons (pv 0) (pa_cons (pe_op op_powU pe_int pe_int) pa_nil))) pa_nil))) (pe_call (G__law_pull) (hr.mono (by decide)) (by rfl) T.g__law_pull T.k__law_pull T.b__law_pull .nil pass0 (pa_cons (pv 0) (pa_cons pe_int pa_nil))) (fun _ _ => rfl))) pa_nil)))))), ?_⟩
  walk_at "cr.k"
  refine s_menuI 0 100000000 (by walk_at "cr.lst") (by assumption) (by walk_at "cr.len") (by walk_at "cr.items") fun t1 t11 t12 => ?_
  walk_at "cr.go"
  refine s_menuI 0 10000 (by walk_at "cr.lst") (by assumption) (by walk_at "cr.len") (by walk_at "cr.items") fun t2 t21 t22 => ?_
  walk_at "cr.go"
  exact q _ _ _ (by walk_at "cr.but") (by walk_at "cr.bag") (by walk_at "cr.dt") (by walk_at "cr.zz") (divInt_pos (by omega) (by omega))
local macro_rules | `(tactic| walk_at "cr.call") => `(tactic| ((with_reducible refine' Cr.u__law_factor ?e ?a ?_); (case e => with_unfolding_all rfl); (case a => walk_at "cr.bag"); intro v r H' hb hB hd hz hp))

/-! ### _law_mul -/
def sp__law_mul (K : PySem.W.Frag) : Sp := fun vs H Q E => ∃ (x y : V) (r s : Rat), vs = [x, y] ∧ Dt K H x (fr r) ∧ Dt K H y (fr s) ∧ Sz 4000 r ∧ Sz 4000 s ∧ (∀ v H', Same H H' → Dt K H' v (fr (r * s)) → Q v H')
theorem u__law_mul {H : Hp} {Q : VK} {E : XK} {vs : List V} {x y : V} {r s : Rat} (e : vs = [x, y]) (hx : Dt K H x (fr r)) (hy : Dt K H y (fr s)) (z1 : Sz 4000 r) (z2 : Sz 4000 s) (q : ∀ v H', Same H H' → Dt K H' v (fr (r * s)) → Q v H') : sp__law_mul K vs H Q E := ⟨x, y, r, s, e, hx, hy, z1, z2, q⟩
theorem ok__law_mul (T : Top K mg) : FnOk P w K mg base CX0 2 T.f__law_mul T.fd__law_mul ["_law_one", "_law_other"] (sp__law_mul K) := by
  have G__law_low := ok__law_low (P := P) (w := w) (base := base) T
  have hcl_Lot := T.cl_Lot
  have hna_Lot_worth := T.na_Lot_worth
  have hna_Lot_mark := T.na_Lot_mark
  refine T.F__law_mul.ok sc__law_mul (fun vs H Q E h => by obtain ⟨x, y, r, s, rfl, _⟩ := h; rfl) (fun cdv A outer s0 H vs Q E hr h => ?_)
  obtain ⟨x, y, r, s, rfl, hx, hy, z1, z2, q⟩ := h
  refine ⟨_, (pss_one (ps_ret (pe_call (G__law_low) (hr.mono (by decide)) (by rfl) T.g__law_low T.k__law_low T.b__law_low .nil pass0 (pa_cons (pe_op op_mulU (pe_ix ix_seq (pv 0) pe_int (fun _ _ => rfl)) (pe_ix ix_seq (pv 1) pe_int (fun _ _ => rfl))) (pa_cons (pe_op op_mulU (pe_ix ix_seq (pv 0) pe_int (fun _ _ => rfl)) (pe_ix ix_seq (pv 1) pe_int (fun _ _ => rfl))) pa_nil))))), ?_⟩
  have z1' := z1.mono (show 4000 ≤ 400000 by decide)
  have z2' := z2.mono (show 4000 ≤ 400000 by decide)
  have dn : (r.den : Int) * s.den ≠ 0 := Int.mul_ne_zero (den_ne r) (den_ne s)
  have dz : ((r.den : Int) * s.den).natAbs < 2 ^ 8000 := natAbs_lt_mul z1.dA z2.dA
  walk_at "cr.k"
  rename_i v H' hs hd
  rw [rat_mul] at hd
  exact q _ _ (by walk_at "cr.sm") (by walk_at "cr.dt")
local macro_rules | `(tactic| walk_at "cr.call") => `(tactic| ((with_reducible refine' Cr.u__law_mul ?e ?a ?b ?c ?d ?_); (case e => with_unfolding_all rfl); (case a => walk_at "cr.dt"); (case b => walk_at "cr.dt"); (case c => walk_at "cr.z"); (case d => walk_at "cr.z"); intro v H' hs hd))

/-! ### _law_lotpair -/
def sp__law_lotpair (K : PySem.W.Frag) : Sp := fun vs H Q _ => ∃ (b l : Addr), vs = [.ref b] ∧ Bag H b l ∧ ∀ v w m H', But b H H' → Bag H' b l → Dt K H' v (.tuple [fr w, fr m]) → Sz 200 w → Sz 200 m → 0 < w → 0 < m → Q v H'
theorem u__law_lotpair {H : Hp} {Q : VK} {E : XK} {vs : List V} {b l : Addr} (e : vs = [.ref b]) (h : Bag H b l) (q : ∀ v w m H', But b H H' → Bag H' b l → Dt K H' v (.tuple [fr w, fr m]) → Sz 200 w → Sz 200 m → 0 < w → 0 < m → Q v H') : sp__law_lotpair K vs H Q E := ⟨b, l, e, h, q⟩
theorem fr_1 : fr (Rat.divInt 10001 10000) = .tuple [.int 10001, .int 10000] := by unfold fr; rw [Rat.num_divInt, Rat.den_divInt]; rfl
theorem fr_2 : fr (Rat.divInt 1 2) = .tuple [.int 1, .int 2] := by unfold fr; rw [Rat.num_divInt, Rat.den_divInt]; rfl
theorem dt_1 {H : Hp} {v : V} (h : Dt K H v (.tuple [.int 10001, .int 10000])) : Dt K H v (fr (Rat.divInt 10001 10000)) := by rw [fr_1]; exact h
theorem dt_2 {H : Hp} {v : V} (h : Dt K H v (.tuple [.int 1, .int 2])) : Dt K H v (fr (Rat.divInt 1 2)) := by rw [fr_2]; exact h
theorem ok__law_lotpair (T : Top K mg) : FnOk P w K mg base CX0 4 T.f__law_lotpair T.fd__law_lotpair ["_law_bag_here"] (sp__law_lotpair K) := by
  have G__law_pull := ok__law_pull (P := P) (w := w) (base := base) T
  have G__law_factor := ok__law_factor (P := P) (w := w) (base := base) T
  have G__law_mul := ok__law_mul (P := P) (w := w) (base := base) T
  have hcl_Lot := T.cl_Lot
  have hna_Lot_worth := T.na_Lot_worth
  have hna_Lot_mark := T.na_Lot_mark
  refine T.F__law_lotpair.ok sc__law_lotpair (fun vs H Q E h => by obtain ⟨b, l, rfl, _⟩ := h; rfl) (fun cdv A outer s H vs Q E hr h => ?_)
  obtain ⟨b, l, rfl, hB, q⟩ := h
  refine ⟨_, (pss_cons (ps_set (i := 1) sc__law_lotpair.nd rfl (Or.inl rfl) (pe_call (G__law_factor) (hr.mono (by decide)) (by rfl) T.g__law_factor T.k__law_factor T.b__law_factor .nil pass0 (pa_cons (pv 0) pa_nil)))
      (pss_cons (ps_set (i := 2) sc__law_lotpair.nd rfl (Or.inl rfl) (pe_lst (pa_cons (pv 1) (pa_cons (pe_call (G__law_factor) (hr.mono (by decide)) (by rfl) T.g__law_factor T.k__law_factor T.b__law_factor .nil pass0 (pa_cons (pv 0) pa_nil)) (pa_cons (pe_call (G__law_mul) (hr.mono (by decide)) (by rfl) T.g__law_mul T.k__law_mul T.b__law_mul .nil pass0 (pa_cons (pv 1) (pa_cons (pe_tup (pa_cons pe_int (pa_cons pe_int pa_nil))) pa_nil))) (pa_cons (pe_call (G__law_mul) (hr.mono (by decide)) (by rfl) T.g__law_mul T.k__law_mul T.b__law_mul .nil pass0 (pa_cons (pv 1) (pa_cons (pe_tup (pa_cons pe_int (pa_cons pe_int pa_nil))) pa_nil))) pa_nil))))))
      (pss_one (ps_ret (pe_tup (pa_cons (pe_ix ix_seq (pv 2) (pe_call (G__law_pull) (hr.mono (by decide)) (by rfl) T.g__law_pull T.k__law_pull T.b__law_pull .nil pass0 (pa_cons (pv 0) (pa_cons pe_int pa_nil))) (fun _ _ => rfl)) (pa_cons (pv 1) pa_nil))))))), ?_⟩
  walk_at "cr.k"
  rename_i v1 m H1 hb1 hB1 hd1 z1 hm v2 r H2 hb2 hB2 hd2 z2 hr2 p1 hp1
  have d1 := dt_1 (K := K) (H := upd H2 p1 (.tup [.int 10001, .int 10000])) (v := .ref p1) (by walk_at "cr.dt")
  walk_at "cr.go"
  rename_i v3 H3 hs3 hd3 p2 hp2
  have d2 := dt_2 (K := K) (H := upd H3 p2 (.tup [.int 1, .int 2])) (v := .ref p2) (by walk_at "cr.dt")
  walk_at "cr.go"
  have zm : Sz 200 m := z1.mono (by decide)
  refine s_menuP (fun H v => ∃ w, Dt K H v (fr w) ∧ Sz 200 w ∧ 0 < w) (by walk_at "cr.lst") (by assumption) (by walk_at "cr.len") (fun v hv => ?_) fun v hv => ?_
  · simp only [List.mem_cons, List.not_mem_nil, or_false] at hv
    rcases hv with h | h | h | h
    · subst h; exact ⟨_, by walk_at "cr.dt", zm, hm⟩
    · subst h; exact ⟨_, by walk_at "cr.dt", z2.mono (by decide), hr2⟩
    · subst h; exact ⟨_, by walk_at "cr.dt", (z1.mul (divInt_sz (n := 64) (by decide) (by decide) (by decide))).mono (by decide), Rat.mul_pos hm (divInt_pos (by decide) (by decide))⟩
    · subst h; exact ⟨_, by walk_at "cr.dt", (z1.mul (divInt_sz (n := 64) (by decide) (by decide) (by decide))).mono (by decide), Rat.mul_pos hm (divInt_pos (by decide) (by decide))⟩
  obtain ⟨w, hw, zw, hw0⟩ := hv
  walk_at "cr.go"
  exact q _ _ _ _ (by walk_at "cr.but") (by walk_at "cr.bag") (by walk_at "cr.dt") zw zm hw0 hm
local macro_rules | `(tactic| walk_at "cr.call") => `(tactic| ((with_reducible refine' Cr.u__law_lotpair ?e ?a ?_); (case e => with_unfolding_all rfl); (case a => walk_at "cr.bag"); intro v w m H' hb hB hd hz1 hz2 hp1 hp2))

/-! ### _law_whole -/
def sp__law_whole (K : PySem.W.Frag) : Sp := fun vs H Q _ => ∃ x : V, vs = [x] ∧ ((∃ i, x = .int i ∧ Q (.bl true) H) ∨ (∃ i, x = .bl i ∧ Q (.bl false) H))
theorem u__law_whole {H : Hp} {Q : VK} {E : XK} {vs : List V} {i : Int} (e : vs = [.int i]) (q : Q (.bl true) H) : sp__law_whole K vs H Q E := ⟨_, e, .inl ⟨i, rfl, q⟩⟩
theorem ok__law_whole (T : Top K mg) : FnOk P w K mg base CX0 1 T.f__law_whole T.fd__law_whole ["_law_found"] (sp__law_whole K) := by
  have hcl_Lot := T.cl_Lot
  have hna_Lot_worth := T.na_Lot_worth
  have hna_Lot_mark := T.na_Lot_mark
  refine T.F__law_whole.ok sc__law_whole (fun vs H Q E h => by obtain ⟨x, rfl, _⟩ := h; rfl) (fun cdv A outer s H vs Q E hr h => ?_)
  obtain ⟨x, rfl, h⟩ := h
  refine ⟨_, (pss_one (ps_ret (pe_and (pe_callB call_isi (by rfl) T.n_isinstance (by decide +kernel) (pa_cons (pv 0) (pa_cons (pe_bltn (v := .ty "int") (by rfl) T.n_int (by decide +kernel) rfl) pa_nil))) (pe_one (pe_not (pe_callB call_isi (by rfl) T.n_isinstance (by decide +kernel) (pa_cons (pv 0) (pa_cons (pe_bltn (v := .ty "bool") (by rfl) T.n_bool (by decide +kernel) rfl) pa_nil)))))))), ?_⟩
  rcases h with ⟨i, rfl, q⟩ | ⟨i, rfl, q⟩
  · walk_at "cr.k"
    exact q
  · walk_at "cr.k"
    exact q
local macro_rules | `(tactic| walk_at "cr.call") => `(tactic| ((with_reducible refine' Cr.u__law_whole ?e ?_); (case e => with_unfolding_all rfl)))

/-! ### _law_frac -/
def sp__law_frac (K : PySem.W.Frag) : Sp := fun vs H Q _ => ∃ (x : V) (r : Rat), vs = [x] ∧ Dt K H x (fr r) ∧ Sz 8000 r ∧ ∀ H', Same H H' → Q (.bl true) H'
theorem u__law_frac {H : Hp} {Q : VK} {E : XK} {vs : List V} {x : V} {r : Rat} (e : vs = [x]) (hx : Dt K H x (fr r)) (z1 : Sz 8000 r) (q : ∀ H', Same H H' → Q (.bl true) H') : sp__law_frac K vs H Q E := ⟨x, r, e, hx, z1, q⟩
theorem ok__law_frac (T : Top K mg) : FnOk P w K mg base CX0 2 T.f__law_frac T.fd__law_frac ["_law_found"] (sp__law_frac K) := by
  have G__law_low := ok__law_low (P := P) (w := w) (base := base) T
  have G__law_whole := ok__law_whole (P := P) (w := w) (base := base) T
  have hcl_Lot := T.cl_Lot
  have hna_Lot_worth := T.na_Lot_worth
  have hna_Lot_mark := T.na_Lot_mark
  refine T.F__law_frac.ok sc__law_frac (fun vs H Q E h => by obtain ⟨x, r, rfl, _⟩ := h; rfl) (fun cdv A outer s H vs Q E hr h => ?_)
  obtain ⟨x, r, rfl, hx, z1, q⟩ := h
  have hxt : Dt K H x (.tuple [.int r.num, .int r.den]) := hx
  have hd1 : ¬ ((r.den : Int) < 1) := by have := r.den_pos; omega
  have hdn := den_ne r
  have hdz : (r.den : Int).natAbs < 2 ^ 8000 := z1.dA
  refine ⟨_, (pss_cons (ps_if (PW.pt (pw_or (pt_not (pt_tru (pe_callB call_isi (by rfl) T.n_isinstance (by decide +kernel) (pa_cons (pv 0) (pa_cons (pe_bltn (v := .ty "tuple") (by rfl) T.n_tuple (by decide +kernel) rfl) pa_nil))))) (pw_or1 (pt_cmpR (op_neD hr.units) (pe_callB call_lenU (by rfl) T.n_len (by decide +kernel) (pa_cons (pv 0) pa_nil)) pe_int (nomark _))))) (pss_one (ps_ret pe_bl)) pss_nil)
      (pss_cons (ps_if (PW.pt (pw_or (pt_not (pt_tru (pe_call (G__law_whole) (hr.mono (by decide)) (by rfl) T.g__law_whole T.k__law_whole T.b__law_whole .nil pass0 (pa_cons (pe_ix ix_seq (pv 0) pe_int (fun _ _ => rfl)) pa_nil)))) (pw_or (pt_not (pt_tru (pe_call (G__law_whole) (hr.mono (by decide)) (by rfl) T.g__law_whole T.k__law_whole T.b__law_whole .nil pass0 (pa_cons (pe_ix ix_seq (pv 0) pe_int (fun _ _ => rfl)) pa_nil)))) (pw_or1 (pt_cmpR op_ltI (pe_ix ix_seq (pv 0) pe_int (fun _ _ => rfl)) pe_int (nomark _)))))) (pss_one (ps_ret pe_bl)) pss_nil)
      (pss_one (ps_ret (pe_cmpR (op_eqD hr.units) (pe_call (G__law_low) (hr.mono (by decide)) (by rfl) T.g__law_low T.k__law_low T.b__law_low .nil pass0 (pa_cons (pe_ix ix_seq (pv 0) pe_int (fun _ _ => rfl)) (pa_cons (pe_ix ix_seq (pv 0) pe_int (fun _ _ => rfl)) pa_nil))) (pv 0) (nomark _)))))), ?_⟩
  walk_at "cr.k"
  refine s_iteN (fun h => absurd rfl h) (fun _ => ?_)
  walk_at "cr.go"
  refine s_iteD (fun h => absurd h hd1) (fun _ => ?_)
  walk_at "cr.go"
  rw [Rat.num_divInt_den, decide_eq_true rfl]
  exact q _ (by walk_at "cr.sm")
local macro_rules | `(tactic| walk_at "cr.call") => `(tactic| ((with_reducible refine' Cr.u__law_frac ?e ?a ?c ?_); (case e => with_unfolding_all rfl); (case a => walk_at "cr.dt"); (case c => walk_at "cr.z"); intro H' hs))

/-! ### _law_div -/
def sp__law_div (K : PySem.W.Frag) : Sp := fun vs H Q E => ∃ (x y : V) (r s : Rat), vs = [x, y] ∧ Dt K H x (fr r) ∧ Dt K H y (fr s) ∧ Sz 4000 r ∧ Sz 4000 s ∧ s ≠ 0 ∧ (∀ v H', Same H H' → Dt K H' v (fr (r / s)) → Q v H')
theorem u__law_div {H : Hp} {Q : VK} {E : XK} {vs : List V} {x y : V} {r s : Rat} (e : vs = [x, y]) (hx : Dt K H x (fr r)) (hy : Dt K H y (fr s)) (z1 : Sz 4000 r) (z2 : Sz 4000 s) (z3 : s ≠ 0) (q : ∀ v H', Same H H' → Dt K H' v (fr (r / s)) → Q v H') : sp__law_div K vs H Q E := ⟨x, y, r, s, e, hx, hy, z1, z2, z3, q⟩
theorem ok__law_div (T : Top K mg) : FnOk P w K mg base CX0 2 T.f__law_div T.fd__law_div ["_law_one", "_law_other"] (sp__law_div K) := by
  have G__law_low := ok__law_low (P := P) (w := w) (base := base) T
  have hcl_Lot := T.cl_Lot
  have hna_Lot_worth := T.na_Lot_worth
  have hna_Lot_mark := T.na_Lot_mark
  refine T.F__law_div.ok sc__law_div (fun vs H Q E h => by obtain ⟨x, y, r, s, rfl, _⟩ := h; rfl) (fun cdv A outer s0 H vs Q E hr h => ?_)
  obtain ⟨x, y, r, s, rfl, hx, hy, z1, z2, hs, q⟩ := h
  refine ⟨_, (pss_one (ps_ret (pe_call (G__law_low) (hr.mono (by decide)) (by rfl) T.g__law_low T.k__law_low T.b__law_low .nil pass0 (pa_cons (pe_op op_mulU (pe_ix ix_seq (pv 0) pe_int (fun _ _ => rfl)) (pe_ix ix_seq (pv 1) pe_int (fun _ _ => rfl))) (pa_cons (pe_op op_mulU (pe_ix ix_seq (pv 0) pe_int (fun _ _ => rfl)) (pe_ix ix_seq (pv 1) pe_int (fun _ _ => rfl))) pa_nil))))), ?_⟩
  have z1' := z1.mono (show 4000 ≤ 400000 by decide)
  have z2' := z2.mono (show 4000 ≤ 400000 by decide)
  have dz : ((r.den : Int) * s.num).natAbs < 2 ^ 8000 := natAbs_lt_mul z1.dA z2.1
  have dn : (r.den : Int) * s.num ≠ 0 := Int.mul_ne_zero (den_ne r) (num_ne hs)
  walk_at "cr.k"
  rename_i v H' hs' hd
  rw [rat_div] at hd
  exact q _ _ (by walk_at "cr.sm") (by walk_at "cr.dt")
local macro_rules | `(tactic| walk_at "cr.call") => `(tactic| ((with_reducible refine' Cr.u__law_div ?e ?a ?b ?c ?d ?f ?_); (case e => with_unfolding_all rfl); (case a => walk_at "cr.dt"); (case b => walk_at "cr.dt"); (case c => walk_at "cr.z"); (case d => walk_at "cr.z"); (case f => with_reducible assumption); intro v H' hs hd))

/-! ### _law_add -/
def sp__law_add (K : PySem.W.Frag) : Sp := fun vs H Q E => ∃ (x y : V) (r s : Rat), vs = [x, y] ∧ Dt K H x (fr r) ∧ Dt K H y (fr s) ∧ Sz 4000 r ∧ Sz 4000 s ∧ (∀ v H', Same H H' → Dt K H' v (fr (r + s)) → Q v H')
theorem u__law_add {H : Hp} {Q : VK} {E : XK} {vs : List V} {x y : V} {r s : Rat} (e : vs = [x, y]) (hx : Dt K H x (fr r)) (hy : Dt K H y (fr s)) (z1 : Sz 4000 r) (z2 : Sz 4000 s) (q : ∀ v H', Same H H' → Dt K H' v (fr (r + s)) → Q v H') : sp__law_add K vs H Q E := ⟨x, y, r, s, e, hx, hy, z1, z2, q⟩
theorem ok__law_add (T : Top K mg) : FnOk P w K mg base CX0 2 T.f__law_add T.fd__law_add ["_law_one", "_law_other"] (sp__law_add K) := by
  have G__law_low := ok__law_low (P := P) (w := w) (base := base) T
  have hcl_Lot := T.cl_Lot
  have hna_Lot_worth := T.na_Lot_worth
  have hna_Lot_mark := T.na_Lot_mark
  refine T.F__law_add.ok sc__law_add (fun vs H Q E h => by obtain ⟨x, y, r, s, rfl, _⟩ := h; rfl) (fun cdv A outer s0 H vs Q E hr h => ?_)
  obtain ⟨x, y, r, s, rfl, hx, hy, z1, z2, q⟩ := h
  refine ⟨_, (pss_one (ps_ret (pe_call (G__law_low) (hr.mono (by decide)) (by rfl) T.g__law_low T.k__law_low T.b__law_low .nil pass0 (pa_cons (pe_op op_addU (pe_op op_mulU (pe_ix ix_seq (pv 0) pe_int (fun _ _ => rfl)) (pe_ix ix_seq (pv 1) pe_int (fun _ _ => rfl))) (pe_op op_mulU (pe_ix ix_seq (pv 1) pe_int (fun _ _ => rfl)) (pe_ix ix_seq (pv 0) pe_int (fun _ _ => rfl)))) (pa_cons (pe_op op_mulU (pe_ix ix_seq (pv 0) pe_int (fun _ _ => rfl)) (pe_ix ix_seq (pv 1) pe_int (fun _ _ => rfl))) pa_nil))))), ?_⟩
  have z1' := z1.mono (show 4000 ≤ 400000 by decide)
  have z2' := z2.mono (show 4000 ≤ 400000 by decide)
  have dn : (r.den : Int) * s.den ≠ 0 := Int.mul_ne_zero (den_ne r) (den_ne s)
  have dz : ((r.den : Int) * s.den).natAbs < 2 ^ 8000 := natAbs_lt_mul z1.dA z2.dA
  walk_at "cr.k"
  rename_i v H' hs hd
  rw [rat_add] at hd
  exact q _ _ (by walk_at "cr.sm") (by walk_at "cr.dt")
local macro_rules | `(tactic| walk_at "cr.call") => `(tactic| ((with_reducible refine' Cr.u__law_add ?e ?a ?b ?c ?d ?_); (case e => with_unfolding_all rfl); (case a => walk_at "cr.dt"); (case b => walk_at "cr.dt"); (case c => walk_at "cr.z"); (case d => walk_at "cr.z"); intro v H' hs hd))

/-! ### _law_below -/
def sp__law_below (K : PySem.W.Frag) : Sp := spV K (fun x : Rat × Rat => [fr x.1, fr x.2]) (fun x => Sz 400000 x.1 ∧ Sz 400000 x.2) (fun x => .bl (decide (x.1 < x.2)))
theorem u__law_below {H : Hp} {Q : VK} {E : XK} {vs : List V} {x y : V} {r s : Rat} (e : vs = [x, y]) (hx : Dt K H x (fr r)) (hy : Dt K H y (fr s)) (z1 : Sz 400000 r) (z2 : Sz 400000 s) (q : Q (.bl (decide (r < s))) H) : sp__law_below K vs H Q E := by
  subst e
  exact ⟨(r, s), .cons hx (.cons hy .nil), ⟨z1, z2⟩, q⟩
theorem ok__law_below (T : Top K mg) : FnOk P w K mg base CX0 1 T.f__law_below T.fd__law_below ["_law_one", "_law_other"] (sp__law_below K) := by
  have hcl_Lot := T.cl_Lot
  have hna_Lot_worth := T.na_Lot_worth
  have hna_Lot_mark := T.na_Lot_mark
  refine T.F__law_below.ok sc__law_below (fun vs H Q E h => by obtain ⟨x, h, _⟩ := h; exact h.len) (fun cdv A outer s H vs Q E hr h => ?_)
  obtain ⟨⟨r, t⟩, hd, ⟨z1, z2⟩, q⟩ := h
  obtain ⟨x, y, rfl, hx, hy⟩ := da2 hd
  dsimp only at hx hy q z1 z2
  refine ⟨_, (pss_one (ps_ret (pe_cmpR op_ltI (pe_op op_mulU (pe_ix ix_seq (pv 0) pe_int (fun _ _ => rfl)) (pe_ix ix_seq (pv 1) pe_int (fun _ _ => rfl))) (pe_op op_mulU (pe_ix ix_seq (pv 1) pe_int (fun _ _ => rfl)) (pe_ix ix_seq (pv 0) pe_int (fun _ _ => rfl))) (nomark _)))), ?_⟩
  walk_at "cr.k"
  rw [lt_dec]
  exact q
local macro_rules | `(tactic| walk_at "cr.call") => `(tactic| ((with_reducible refine' Cr.u__law_below ?e ?a ?b ?c ?d ?_); (case e => with_unfolding_all rfl); (case a => walk_at "cr.dt"); (case b => walk_at "cr.dt"); (case c => walk_at "cr.z"); (case d => walk_at "cr.z")))

/-! ### law -/
def sp_law (K : PySem.W.Frag) : Sp := fun vs H Q _ => ∃ (a : Addr) (ns : List Int), vs = [.ref a] ∧ SqL K H a (ns.map V.int) ∧ ns.length ≤ 63 ∧ ∀ H', Q (.bl true) H'
theorem ne0 {a : Rat} (h : 0 < a) : a ≠ 0 := by grind
theorem alike_iff {w m w' m' : Rat} (h1 : 0 < m) (h2 : 0 < m') : w / m = w' / m' ↔ w * m' = w' * m := by
  have := ne0 h1; have := ne0 h2
  constructor
  · intro h
    have : w / m * m * m' = w' / m' * m' * m := by grind
    grind
  · intro h; grind
theorem mid_low {w m w' m' : Rat} (a : 0 < w) (b : 0 < w') (h : w * m' < w' * m) : w * ((m + m') / (w + w')) < m := by
  have s : 0 < w + w' := by grind
  have e : w * ((m + m') / (w + w')) = (w * (m + m')) / (w + w') := by grind
  rw [e, Rat.div_lt_iff s]
  grind
theorem mid_high {w m w' m' : Rat} (a : 0 < w) (b : 0 < w') (h : w * m' < w' * m) : m' < w' * ((m + m') / (w + w')) := by
  have s : 0 < w + w' := by grind
  have e : w' * ((m + m') / (w + w')) = (w' * (m + m')) / (w + w') := by grind
  rw [e, Rat.lt_div_iff s]
  grind
theorem fee_none {w m : Rat} {i : Int} (h : w < m) : feeR w m i = 0 := by unfold feeR; rw [if_neg (by grind)]
theorem fee_some {w m : Rat} {i : Int} (h : m < w) (h1 : 1 ≤ i) : 0 < feeR w m i := by
  unfold feeR; rw [if_pos h]
  exact Rat.mul_pos (by grind) (divInt_pos (by omega) (by decide))
def Other (K : PySem.W.Frag) (b l : Addr) (H0 H' : Hp) (o : Option V) (P : Rat → Rat → Prop) : Prop := ∃ v w m, o = some v ∧ But b H0 H' ∧ Bag H' b l ∧ Dt K H' v (.tuple [fr w, fr m]) ∧ P w m ∧ 0 < w ∧ 0 < m
set_option maxHeartbeats 2000000 in
theorem ok_law {f : Addr} {fd : FuncData} (F : Fun K "law" "law" s_law f fd) (T : Top K mg) : FnOk P w K mg base CX0 5 f fd ["_law_script"] (sp_law K) := by
  have G_LotU_initU := ok_LotU_initU (P := P) (w := w) (base := base) T
  have G_Lot_fee := ok_Lot_fee (P := P) (w := w) (base := base) T
  have G_Lot_grown := ok_Lot_grown (P := P) (w := w) (base := base) T
  have G_parted := ok_parted (P := P) (w := w) (base := base) T
  have G__law_bag := ok__law_bag (P := P) (w := w) (base := base) T
  have G__law_pull := ok__law_pull (P := P) (w := w) (base := base) T
  have G__law_low := ok__law_low (P := P) (w := w) (base := base) T
  have G__law_factor := ok__law_factor (P := P) (w := w) (base := base) T
  have G__law_mul := ok__law_mul (P := P) (w := w) (base := base) T
  have G__law_lotpair := ok__law_lotpair (P := P) (w := w) (base := base) T
  have G__law_frac := ok__law_frac (P := P) (w := w) (base := base) T
  have G__law_div := ok__law_div (P := P) (w := w) (base := base) T
  have G__law_add := ok__law_add (P := P) (w := w) (base := base) T
  have G__law_below := ok__law_below (P := P) (w := w) (base := base) T
  have hcl_Lot := T.cl_Lot
  have hna_Lot_worth := T.na_Lot_worth
  have hna_Lot_mark := T.na_Lot_mark
  refine F.ok sc_law (fun vs H Q E h => by obtain ⟨a, ns, rfl, _⟩ := h; rfl) (fun cdv A outer s H vs Q E hr h => ?_)
  obtain ⟨a, ns, rfl, hS, _, q⟩ := h
  refine ⟨_, (pss_cons (ps_set (i := 1) sc_law.nd rfl (Or.inl rfl) (pe_call (G__law_bag) (hr.mono (by decide)) (by rfl) T.g__law_bag T.k__law_bag T.b__law_bag .nil pass0 (pa_cons (pv 0) pa_nil)))
      (pss_cons (ps_set (i := 2) sc_law.nd rfl (Or.inl rfl) (pe_call (G__law_lotpair) (hr.mono (by decide)) (by rfl) T.g__law_lotpair T.k__law_lotpair T.b__law_lotpair .nil pass0 (pa_cons (pv 1) pa_nil)))
      (pss_cons (ps_set (i := 3) sc_law.nd rfl (Or.inl rfl) (pe_call (G__law_factor) (hr.mono (by decide)) (by rfl) T.g__law_factor T.k__law_factor T.b__law_factor .nil pass0 (pa_cons (pv 1) pa_nil)))
      (pss_cons (ps_set (i := 4) sc_law.nd rfl (Or.inl rfl) (pe_call (G__law_lotpair) (hr.mono (by decide)) (by rfl) T.g__law_lotpair T.k__law_lotpair T.b__law_lotpair .nil pass0 (pa_cons (pv 1) pa_nil)))
      (pss_cons (ps_set (i := 5) sc_law.nd rfl (Or.inl rfl) (pe_call (G__law_pull) (hr.mono (by decide)) (by rfl) T.g__law_pull T.k__law_pull T.b__law_pull .nil pass0 (pa_cons (pv 1) (pa_cons pe_int pa_nil))))
      (pss_cons (ps_if (pt_cmpR (op_eqD hr.units) (pv 5) pe_int (nomark _)) (pss_one (ps_set (i := 4) sc_law.nd rfl (Or.inl rfl) (pe_tup (pa_cons (pe_call (G__law_mul) (hr.mono (by decide)) (by rfl) T.g__law_mul T.k__law_mul T.b__law_mul .nil pass0 (pa_cons (pe_ix ix_seq (pv 2) pe_int (fun _ _ => rfl)) (pa_cons (pv 3) pa_nil))) (pa_cons (pe_call (G__law_mul) (hr.mono (by decide)) (by rfl) T.g__law_mul T.k__law_mul T.b__law_mul .nil pass0 (pa_cons (pe_ix ix_seq (pv 2) pe_int (fun _ _ => rfl)) (pa_cons (pv 3) pa_nil))) pa_nil))))) pss_nil)
      (pss_cons (ps_if (pt_cmpR (op_eqD hr.units) (pv 5) pe_int (nomark _)) (pss_cons (ps_set (i := 6) sc_law.nd rfl (Or.inl rfl) (pe_op op_addU (pe_op op_powU pe_int pe_int) (pe_call (G__law_pull) (hr.mono (by decide)) (by rfl) T.g__law_pull T.k__law_pull T.b__law_pull .nil pass0 (pa_cons (pv 1) (pa_cons pe_int pa_nil)))))
      (pss_one (ps_set (i := 4) sc_law.nd rfl (Or.inl rfl) (pe_tup (pa_cons (pe_call (G__law_mul) (hr.mono (by decide)) (by rfl) T.g__law_mul T.k__law_mul T.b__law_mul .nil pass0 (pa_cons (pe_ix ix_seq (pv 2) pe_int (fun _ _ => rfl)) (pa_cons (pv 3) pa_nil))) (pa_cons (pe_call (G__law_mul) (hr.mono (by decide)) (by rfl) T.g__law_mul T.k__law_mul T.b__law_mul .nil pass0 (pa_cons (pe_call (G__law_mul) (hr.mono (by decide)) (by rfl) T.g__law_mul T.k__law_mul T.b__law_mul .nil pass0 (pa_cons (pe_ix ix_seq (pv 2) pe_int (fun _ _ => rfl)) (pa_cons (pv 3) pa_nil))) (pa_cons (pe_call (G__law_low) (hr.mono (by decide)) (by rfl) T.g__law_low T.k__law_low T.b__law_low .nil pass0 (pa_cons (pv 6) (pa_cons (pe_op op_addU (pv 6) pe_int) pa_nil))) pa_nil))) pa_nil)))))) pss_nil)
      (pss_cons (ps_set (i := 7) sc_law.nd rfl (Or.inr rfl) (pe_call (G_parted) (hr.mono (by decide)) (by rfl) T.g_parted T.k_parted T.b_parted .nil pass0 (pa_cons (pv 2) (pa_cons (pv 4) pa_nil))))
      (pss_cons (ps_set (i := 8) sc_law.nd rfl (Or.inl rfl) (pe_cmpR (op_eqD hr.units) (pe_call (G__law_mul) (hr.mono (by decide)) (by rfl) T.g__law_mul T.k__law_mul T.b__law_mul .nil pass0 (pa_cons (pe_ix ix_seq (pv 2) pe_int (fun _ _ => rfl)) (pa_cons (pe_ix ix_seq (pv 4) pe_int (fun _ _ => rfl)) pa_nil))) (pe_call (G__law_mul) (hr.mono (by decide)) (by rfl) T.g__law_mul T.k__law_mul T.b__law_mul .nil pass0 (pa_cons (pe_ix ix_seq (pv 4) pe_int (fun _ _ => rfl)) (pa_cons (pe_ix ix_seq (pv 2) pe_int (fun _ _ => rfl)) pa_nil))) (nomark _)))
      (pss_cons (ps_if (PW.pt (pw_or (pt_cmpR (op_neD hr.units) (pe_call (G_parted) (hr.mono (by decide)) (by rfl) T.g_parted T.k_parted T.b_parted .nil pass0 (pa_cons (pv 4) (pa_cons (pv 2) pa_nil))) (pv 7) (nomark _)) (pw_or1 (pt_cmpR (op_neD hr.units) (pe_cmpR op_isU (pv 7) pe_non (nomark _)) (pv 8) (nomark _))))) (pss_one (ps_ret pe_bl)) pss_nil)
      (pss_cons (ps_if (pt_tru (pv 8)) (pss_one (ps_ret (pe_cmpR op_isU (pe_call (G_parted) (hr.mono (by decide)) (by rfl) T.g_parted T.k_parted T.b_parted .nil pass0 (pa_cons (pv 2) (pa_cons (pv 2) pa_nil))) pe_non (nomark _)))) pss_nil)
      (pss_cons (ps_if (PW.pt (pw_or (pt_not (pt_tru (pe_call (G__law_frac) (hr.mono (by decide)) (by rfl) T.g__law_frac T.k__law_frac T.b__law_frac .nil pass0 (pa_cons (pv 7) pa_nil)))) (pw_or1 (pt_cmpR (op_neD hr.units) (pv 7) (pe_call (G__law_div) (hr.mono (by decide)) (by rfl) T.g__law_div T.k__law_div T.b__law_div .nil pass0 (pa_cons (pe_call (G__law_add) (hr.mono (by decide)) (by rfl) T.g__law_add T.k__law_add T.b__law_add .nil pass0 (pa_cons (pe_ix ix_seq (pv 2) pe_int (fun _ _ => rfl)) (pa_cons (pe_ix ix_seq (pv 4) pe_int (fun _ _ => rfl)) pa_nil))) (pa_cons (pe_call (G__law_add) (hr.mono (by decide)) (by rfl) T.g__law_add T.k__law_add T.b__law_add .nil pass0 (pa_cons (pe_ix ix_seq (pv 2) pe_int (fun _ _ => rfl)) (pa_cons (pe_ix ix_seq (pv 4) pe_int (fun _ _ => rfl)) pa_nil))) pa_nil))) (nomark _))))) (pss_one (ps_ret pe_bl)) pss_nil)
      (pss_cons (ps_set (i := 9) sc_law.nd rfl (Or.inr rfl) (pe_op op_addU pe_int (pe_call (G__law_pull) (hr.mono (by decide)) (by rfl) T.g__law_pull T.k__law_pull T.b__law_pull .nil pass0 (pa_cons (pv 1) (pa_cons pe_int pa_nil)))))
      (pss_cons (ps_setLc (i := 10) (own := [("_law_pair", 13)]) (g := gName 13) (tt := tYes) rfl sc_law.nd rfl rfl (sw_true rfl rfl rfl (by decide +kernel)) (pi_list (pe_lst (pa_cons (pv 2) (pa_cons (pv 4) pa_nil)))) (blkOk_by (N := ["_law_script", "_law_bag_here", "_law_one", "_law_factor_here", "_law_other", "_law_pick", "_law_far", "_law_found", "_law_alike", "_law_tax", "_law_fees_of", "_law_low_here", "_law_high", "_law_pair"]) (sc := defScope s_law) (by decide +kernel)) (fun _ _ _ _ _ => pg_name (i := 13) sc_law.nd rfl (Or.inl rfl)) (fun _ _ _ _ _ => pts_nil) (fun _ _ _ _ _ => (pe_meth (pe_meth (pe_make T.M_Lot (G_LotU_initU) (hr.mono (by decide)) (by rfl) T.c_Lot T.b_LotU_initU .nil pass0 (pa_cons (pe_ix (show IxR _ (rIx K) from ix_seq) (pv 13) pe_int (fun _ _ => rfl)) (pa_cons (pe_ix (show IxR _ (rIx K) from ix_seq) (pv 13) pe_int (fun _ _ => rfl)) pa_nil))) T.cl_Lot T.m_Lot_grown (G_Lot_grown) (hr.mono (by decide)) T.b_Lot_grown .nil pass0 (pa_cons (pv 7) pa_nil)) T.cl_Lot T.m_Lot_fee (G_Lot_fee) (hr.mono (by decide)) T.b_Lot_fee .nil pass0 (pa_cons (pv 9) pa_nil))))
      (pss_cons (ps_set (i := 11) sc_law.nd rfl (Or.inl rfl) (pe_ix ix_seq (pe_lst (pa_cons (pv 2) (pa_cons (pv 4) pa_nil))) (pe_callTy call_intU (by rfl) T.n_int (by decide +kernel) (pa_cons (pe_call (G__law_below) (hr.mono (by decide)) (by rfl) T.g__law_below T.k__law_below T.b__law_below .nil pass0 (pa_cons (pe_call (G__law_mul) (hr.mono (by decide)) (by rfl) T.g__law_mul T.k__law_mul T.b__law_mul .nil pass0 (pa_cons (pe_ix ix_seq (pv 4) pe_int (fun _ _ => rfl)) (pa_cons (pe_ix ix_seq (pv 2) pe_int (fun _ _ => rfl)) pa_nil))) (pa_cons (pe_call (G__law_mul) (hr.mono (by decide)) (by rfl) T.g__law_mul T.k__law_mul T.b__law_mul .nil pass0 (pa_cons (pe_ix ix_seq (pv 2) pe_int (fun _ _ => rfl)) (pa_cons (pe_ix ix_seq (pv 4) pe_int (fun _ _ => rfl)) pa_nil))) pa_nil))) pa_nil)) (fun _ _ => rfl)))
      (pss_cons (ps_set (i := 12) sc_law.nd rfl (Or.inl rfl) (pe_ix ix_seq (pe_lst (pa_cons (pv 4) (pa_cons (pv 2) pa_nil))) (pe_callTy call_intU (by rfl) T.n_int (by decide +kernel) (pa_cons (pe_cmpR (op_eqD hr.units) (pv 11) (pv 4) (nomark _)) pa_nil)) (fun _ _ => rfl)))
      (pss_one (ps_ret (pe_and (pe_cmpR (op_eqD hr.units) (pe_ix ix_seq (pv 10) (pe_bm PySem.F.plainAttrs_list PySem.F.slot_list_index PySem.F.type_list_index (mt_indexD (units65 hr)) (pe_lst (pa_cons (pv 2) (pa_cons (pv 4) pa_nil))) (pa_cons (pv 11) pa_nil)) (fun _ _ => rfl)) (pe_tup (pa_cons pe_int (pa_cons pe_int pa_nil))) (nomark _)) (pe_one (pe_call (G__law_below) (hr.mono (by decide)) (by rfl) T.g__law_below T.k__law_below T.b__law_below .nil pass0 (pa_cons (pe_tup (pa_cons pe_int (pa_cons pe_int pa_nil))) (pa_cons (pe_ix ix_seq (pv 10) (pe_bm PySem.F.plainAttrs_list PySem.F.slot_list_index PySem.F.type_list_index (mt_indexD (units65 hr)) (pe_lst (pa_cons (pv 2) (pa_cons (pv 4) pa_nil))) (pa_cons (pv 12) pa_nil)) (fun _ _ => rfl)) pa_nil))))))))))))))))))))))), ?_⟩
  walk_at "cr.k"
  rename_i b l H1 hs1 nb nl hB1 t1 w m H2 hb2 hB2 hd1 z1 z1' p1 p1' v2 r H3 hb3 hB3 hd2 z2 p2 t3 w3 m3 H4 hb4 hB4 hd3 z3 z3' p3 p3' k H5 hk0 hk1 hb5 hB5
  refine s_cutI [4] (fun f H' => Other K b l H5 H' (f 4) (fun w m => Sz 264 w ∧ Sz 264 m)) ?_ ?_
  · intro N' hN'
    refine s_iteD (fun h => ?_) (fun h => ?_)
    · walk_at "cr.go"
      exact hN' _ _ rfl ⟨_, _, _, rfl, by walk_at "cr.but", by walk_at "cr.bag", by walk_at "cr.dt", ⟨by walk_at "cr.z", by walk_at "cr.z"⟩, Rat.mul_pos p1 p2, Rat.mul_pos p1' p2⟩
    · walk_at "cr.go"
      exact hN' _ _ rfl ⟨_, _, _, rfl, by walk_at "cr.but", by walk_at "cr.bag", by walk_at "cr.dt", ⟨z3.mono (by decide), z3'.mono (by decide)⟩, p3, p3'⟩
  intro f H6 hI
  obtain ⟨v4, w4, m4, e4, hb6, hB6, hd4, ⟨z4, z4'⟩, p4, p4'⟩ := hI
  have hd1 : Dt K H6 t1 (.tuple [fr w, fr m]) := by walk_at "cr.dt"
  have hd2 : Dt K H6 v2 (fr r) := by walk_at "cr.dt"
  clear hs1 nb nl hB1 hb2 hB2 hb3 hB3 hd3 z3 z3' p3 p3' hb4 hB4 hb5 hB5 hb6
  walk_at "cr.n"
  simp only [e4]
  walk_at "cr.go"
  refine s_cutI [6, 4] (fun f H' => Other K b l H6 H' (f 4) (fun w m => Sz 328 w ∧ Sz 328 m)) ?_ ?_
  · intro N' hN'
    refine s_iteD (fun h => ?_) (fun h => ?_)
    · walk_at "cr.go"
      exact hN' _ _ rfl ⟨_, _, _, rfl, by walk_at "cr.but", by walk_at "cr.bag", by walk_at "cr.dt", ⟨by walk_at "cr.z", by walk_at "cr.z"⟩, Rat.mul_pos p1 p2, Rat.mul_pos (Rat.mul_pos p1' p2) (divInt_pos (by omega) (by omega))⟩
    · walk_at "cr.go"
      exact hN' _ _ rfl ⟨_, _, _, rfl, by walk_at "cr.but", by walk_at "cr.bag", by walk_at "cr.dt", ⟨z4.mono (by decide), z4'.mono (by decide)⟩, p4, p4'⟩
  intro g H7 hI
  obtain ⟨v5, w5, m5, e5, hb7, hB7, hd5, ⟨z5, z5'⟩, p5, p5'⟩ := hI
  have hd1 : Dt K H7 t1 (.tuple [fr w, fr m]) := by walk_at "cr.dt"
  clear hd2 hd4 z4 z4' p4 p4' hb7 hB6
  walk_at "cr.n"
  simp only [e5]
  have nm := ne0 p1'
  have nm5 := ne0 p5'
  have ns : w + w5 ≠ 0 := ne0 (by grind)
  have ns2 : w5 + w ≠ 0 := ne0 (by grind)
  have ns3 : w + w ≠ 0 := ne0 (by grind)
  by_cases hq : w * m5 = w5 * m
  · have hq2 : w5 * m = w * m5 := hq.symm
    have ha := (alike_iff p1' p5').mpr hq
    have e1 : ptD w m w5 m5 = .none := by unfold ptD; rw [if_pos ha]
    have e2 : ptD w5 m5 w m = .none := by unfold ptD; rw [if_pos ha.symm]
    have e3 : ptD w m w m = .none := by unfold ptD; rw [if_pos rfl]
    walk_at "cr.go"
    exact q _
  · have ha : ¬ w / m = w5 / m5 := fun z => hq ((alike_iff p1' p5').mp z)
    have e1 : ptD w m w5 m5 = fr ((m + m5) / (w + w5)) := by unfold ptD; rw [if_neg ha]
    have e2 : ptD w5 m5 w m = fr ((m + m5) / (w + w5)) := by unfold ptD; rw [if_neg (fun z => ha z.symm), Rat.add_comm m5, Rat.add_comm w5]
    walk_at "cr.go"
    rename_i v8 H8 hs8 hf8 x1 hx1 x2 hx2 x3 H9 hs9 hx3 x4 hx4 x5 hx5 x6 H10 hs10 hx6 x7 H11 hs11 hx7 H12 hs12 y1 hy1 y2 hy2 y3 H13 hs13 hy3 y4 hy4 y5 hy5 y6 H14 hs14 hy6 y7 H15 hs15 hy7 tx H16 ht0 ht1 hb16 hB16 pl hpl
    have hf : Dt K (upd H16 pl (.lst [t1, v5])) v8 (fr ((m + m5) / (w + w5))) := by walk_at "cr.dt"
    have hd1 : Dt K (upd H16 pl (.lst [t1, v5])) t1 (.tuple [fr w, fr m]) := by walk_at "cr.dt"
    have hd5 : Dt K (upd H16 pl (.lst [t1, v5])) v5 (.tuple [fr w5, fr m5]) := by walk_at "cr.dt"
    have zq : Sz 1100 ((m + m5) / (w + w5)) := by walk_at "cr.z"
    have hne : ¬ (w = w5 ∧ m = m5) := fun ⟨a, b⟩ => hq (by rw [a, b])
    clear hs8 hf8 hx1 hx2 hs9 hx3 hx4 hx5 hs10 hx6 hs11 hx7 hs12 hy1 hy2 hs13 hy3 hy4 hy5 hs14 hy6 hs15 hy7 hb16
    refine c_listS (fun H x z => Dt K H x (.tuple [fr z.1, fr z.2])) (fun H z y => Dt K H y (fr (feeR (z.1 * ((m + m5) / (w + w5))) z.2 (1 + tx)))) (fun _ _ _ _ k h => h.mono k.kt) (fun _ _ _ _ k h => h.mono k.kt) (zs := [(w, m), (w5, m5)]) (by walk_at "cr.lst") (.cons hd1 (.cons hd5 .nil)) (by walk_at "cr.len") ?_ ?_
    · intro x z A N hz hx hs hN
      have hzz : Sz 328 z.1 ∧ Sz 328 z.2 := by
        simp only [List.mem_cons, List.not_mem_nil, or_false] at hz
        rcases hz with h | h
        · subst h; exact ⟨z1.mono (by decide), z1'.mono (by decide)⟩
        · subst h; exact ⟨z5, z5'⟩
      obtain ⟨zw, zm⟩ := z
      dsimp only at hx hzz hN
      obtain ⟨hz6, hz7⟩ := hzz
      have hf := hf.mono (kt_same hs)
      clear hd1 hd5 hB16
      walk_at "cr.n"
      walk_at "cr.go"
      refine ⟨rfl, ?_⟩
      walk_at "cr.go"
      exact hN _ _ (by walk_at "cr.sm") (by walk_at "cr.dt")
    · intro p ys A hs hp hy h2
      cases h2 with
      | cons hf0 h2 =>
        cases h2 with
        | cons hf1 h2 =>
          cases h2
          rename_i y0 y1
          dsimp only at hf0 hf1
          have hf := hf.mono (kt_same hs)
          have hd1 := hd1.mono (kt_same hs)
          have hd5 := hd5.mono (kt_same hs)
          have zf0 : Sz 100000 (feeR (w * ((m + m5) / (w + w5))) m (1 + tx)) := (feeR_sz (n := 2000) ((z1.mul zq).mono (by decide)) (z1'.mono (by decide)) (by omega) (by omega)).mono (by decide)
          have zf1 : Sz 100000 (feeR (w5 * ((m + m5) / (w + w5))) m5 (1 + tx)) := (feeR_sz (n := 2000) ((z5.mul zq).mono (by decide)) (z5'.mono (by decide)) (by omega) (by omega)).mono (by decide)
          have sz0 : Sz 1 0 := sz1 (by decide)
          clear hs hp hpl hB16
          by_cases hlt : w5 * m < w * m5
          · have e0 := fee_none (i := 1 + tx) (mid_low p5 p1 hlt)
            have e1 := fee_some (i := 1 + tx) (mid_high p5 p1 hlt) (by omega)
            rw [Rat.add_comm m5, Rat.add_comm w5] at e0 e1
            rw [e0] at hf1
            walk_at "cr.go"
            refine s_idx1 (by walk_at "cr.lst") (by walk_at "cr.dt") (by walk_at "cr.dt") (by walk_at "cr.dt") hne ?_
            walk_at "cr.go"
            refine s_idx0 (by walk_at "cr.lst") (by walk_at "cr.dt") (by walk_at "cr.dt") (by walk_at "cr.dt") ?_
            walk_at "cr.go"
            rw [decide_eq_true e1]
            exact q _
          · have hlt2 : w * m5 < w5 * m := by grind
            have e0 := fee_none (i := 1 + tx) (mid_low p1 p5 hlt2)
            have e1 := fee_some (i := 1 + tx) (mid_high p1 p5 hlt2) (by omega)
            rw [e0] at hf0
            walk_at "cr.go"
            refine s_idx0 (by walk_at "cr.lst") (by walk_at "cr.dt") (by walk_at "cr.dt") (by walk_at "cr.dt") ?_
            walk_at "cr.go"
            refine s_idx1 (by walk_at "cr.lst") (by walk_at "cr.dt") (by walk_at "cr.dt") (by walk_at "cr.dt") hne ?_
            walk_at "cr.go"
            rw [decide_eq_true e1]
            exact q _

end
theorem all_mk {l : PySem.W.OpenLaw} {w : World} {K : PySem.W.Frag} {h : Heap} {mg : Str → Option Value} {fa : Addr} (X : K.In h) (G : h.Ns mainGlobals mg) (hfa : mg "law" = some (.ref fa))
    {C_Lot : Addr}
    {a_NOUGHT : Addr} {d_NOUGHT : Option Addr} {n_NOUGHT : Nat} {z_NOUGHT : Array (Option Value)} {t0_NOUGHT : Tok} {t1_NOUGHT : Tok}
    {t_WHOLE : Tok}
    {x_ByNought : Addr}
    {f_LotU_initU : Addr} {od_LotU_initU an_LotU_initU : Option Addr} {sl_LotU_initU : Array (Option Value)} {oc_LotU_initU dc_LotU_initU pm_LotU_initU cd_LotU_initU ct_LotU_initU : Value} {kV_LotU_initU : Value}
    {f_lowest : Addr} {od_lowest an_lowest : Option Addr} {sl_lowest : Array (Option Value)} {oc_lowest dc_lowest pm_lowest cd_lowest ct_lowest : Value} {kV_lowest : Value} {dT_lowest : Addr} {oT_lowest : Option Addr} {nT_lowest : Nat} {cT_lowest : Value} {zT_lowest : Array (Option Value)} {w0_lowest : Tok}
    {f_minus : Addr} {od_minus an_minus : Option Addr} {sl_minus : Array (Option Value)} {oc_minus dc_minus pm_minus cd_minus ct_minus : Value} {kV_minus : Value}
    {f_times : Addr} {od_times an_times : Option Addr} {sl_times : Array (Option Value)} {oc_times dc_times pm_times cd_times ct_times : Value} {kV_times : Value}
    {f_less : Addr} {od_less an_less : Option Addr} {sl_less : Array (Option Value)} {oc_less dc_less pm_less cd_less ct_less : Value} {kV_less : Value}
    {f_Lot_fee : Addr} {od_Lot_fee an_Lot_fee : Option Addr} {sl_Lot_fee : Array (Option Value)} {oc_Lot_fee dc_Lot_fee pm_Lot_fee cd_Lot_fee ct_Lot_fee : Value} {kV_Lot_fee : Value}
    {f_Lot_grown : Addr} {od_Lot_grown an_Lot_grown : Option Addr} {sl_Lot_grown : Array (Option Value)} {oc_Lot_grown dc_Lot_grown pm_Lot_grown cd_Lot_grown ct_Lot_grown : Value} {kV_Lot_grown : Value}
    {f_plus : Addr} {od_plus an_plus : Option Addr} {sl_plus : Array (Option Value)} {oc_plus dc_plus pm_plus cd_plus ct_plus : Value} {kV_plus : Value}
    {f_over : Addr} {od_over an_over : Option Addr} {sl_over : Array (Option Value)} {oc_over dc_over pm_over cd_over ct_over : Value} {kV_over : Value}
    {f_parted : Addr} {od_parted an_parted : Option Addr} {sl_parted : Array (Option Value)} {oc_parted dc_parted pm_parted cd_parted ct_parted : Value} {kV_parted : Value}
    {f__law_bag : Addr} {od__law_bag an__law_bag : Option Addr} {sl__law_bag : Array (Option Value)} {oc__law_bag dc__law_bag pm__law_bag cd__law_bag ct__law_bag : Value} {kV__law_bag : Value}
    {f__law_pull : Addr} {od__law_pull an__law_pull : Option Addr} {sl__law_pull : Array (Option Value)} {oc__law_pull dc__law_pull pm__law_pull cd__law_pull ct__law_pull : Value} {kV__law_pull : Value}
    {f__law_low : Addr} {od__law_low an__law_low : Option Addr} {sl__law_low : Array (Option Value)} {oc__law_low dc__law_low pm__law_low cd__law_low ct__law_low : Value} {kV__law_low : Value}
    {f__law_wide : Addr} {od__law_wide an__law_wide : Option Addr} {sl__law_wide : Array (Option Value)} {oc__law_wide dc__law_wide pm__law_wide cd__law_wide ct__law_wide : Value} {kV__law_wide : Value}
    {f__law_factor : Addr} {od__law_factor an__law_factor : Option Addr} {sl__law_factor : Array (Option Value)} {oc__law_factor dc__law_factor pm__law_factor cd__law_factor ct__law_factor : Value} {kV__law_factor : Value}
    {f__law_mul : Addr} {od__law_mul an__law_mul : Option Addr} {sl__law_mul : Array (Option Value)} {oc__law_mul dc__law_mul pm__law_mul cd__law_mul ct__law_mul : Value} {kV__law_mul : Value}
    {f__law_lotpair : Addr} {od__law_lotpair an__law_lotpair : Option Addr} {sl__law_lotpair : Array (Option Value)} {oc__law_lotpair dc__law_lotpair pm__law_lotpair cd__law_lotpair ct__law_lotpair : Value} {kV__law_lotpair : Value}
    {f__law_whole : Addr} {od__law_whole an__law_whole : Option Addr} {sl__law_whole : Array (Option Value)} {oc__law_whole dc__law_whole pm__law_whole cd__law_whole ct__law_whole : Value} {kV__law_whole : Value}
    {f__law_frac : Addr} {od__law_frac an__law_frac : Option Addr} {sl__law_frac : Array (Option Value)} {oc__law_frac dc__law_frac pm__law_frac cd__law_frac ct__law_frac : Value} {kV__law_frac : Value}
    {f__law_div : Addr} {od__law_div an__law_div : Option Addr} {sl__law_div : Array (Option Value)} {oc__law_div dc__law_div pm__law_div cd__law_div ct__law_div : Value} {kV__law_div : Value}
    {f__law_add : Addr} {od__law_add an__law_add : Option Addr} {sl__law_add : Array (Option Value)} {oc__law_add dc__law_add pm__law_add cd__law_add ct__law_add : Value} {kV__law_add : Value}
    {f__law_below : Addr} {od__law_below an__law_below : Option Addr} {sl__law_below : Array (Option Value)} {oc__law_below dc__law_below pm__law_below cd__law_below ct__law_below : Value} {kV__law_below : Value}
    {f_law : Addr} {od_law an_law : Option Addr} {sl_law : Array (Option Value)} {oc_law dc_law pm_law cd_law ct_law : Value} {kV_law : Value}
    (haC_Lot : PySem.W.nsIn K mainGlobals "Lot" = some (some (.ref C_Lot)))
    (hn_abs : PySem.W.nsIn K mainGlobals "abs" = some none)
    (hn_list : PySem.W.nsIn K mainGlobals "list" = some none)
    (hn_len : PySem.W.nsIn K mainGlobals "len" = some none)
    (hn_bool : PySem.W.nsIn K mainGlobals "bool" = some none)
    (hn_int : PySem.W.nsIn K mainGlobals "int" = some none)
    (hn_isinstance : PySem.W.nsIn K mainGlobals "isinstance" = some none)
    (hn_tuple : PySem.W.nsIn K mainGlobals "tuple" = some none)
    (hc_NOUGHT : PySem.W.nsIn K mainGlobals "NOUGHT" = some (some (.ref a_NOUGHT)))
    (hq_NOUGHT : K.lookup a_NOUGHT = some ⟨.type "tuple", d_NOUGHT, .seq #[.int 0 t0_NOUGHT, .int 1 t1_NOUGHT] n_NOUGHT, z_NOUGHT⟩)
    (hc_WHOLE : PySem.W.nsIn K mainGlobals "WHOLE" = some (some (.int 10000 t_WHOLE)))
    (hxg_ByNought : PySem.W.nsIn K mainGlobals "ByNought" = some (some (.ref x_ByNought)))
    (hxq_ByNought : PySem.W.excIn K x_ByNought [.type "ZeroDivisionError", .type "ArithmeticError", .type "Exception", .type "BaseException", .type "object"] "ZeroDivisionError.__new__" = true)
    (hxk_ByNought : PySem.W.keepIn K (.ref x_ByNought) = true)
    (hxs_ByNought : PySem.W.subIn K (.ref x_ByNought) (.type "BaseException") = some true)
    (hxt_ByNought : PySem.W.typeIn K (.ref x_ByNought) = some (.type "type"))
    (hxh_ByNought : PySem.W.hasDictIn K x_ByNought = true)
    (hxe_ByNought : PySem.W.subIn K (.ref x_ByNought) (.ref x_ByNought) = some true)
    (ha_LotU_initU : PySem.W.findIn K (.ref C_Lot) "__init__" = some (some (.ref f_LotU_initU)))
    (hi_LotU_initU : PySem.W.isFn K (.ref f_LotU_initU) = true)
    (hl_LotU_initU : K.lookup f_LotU_initU = some ⟨oc_LotU_initU, od_LotU_initU, .func (PySem.W.fnOf "__init__" "Lot.__init__" (defArgs s_LotU_initU) (defBody s_LotU_initU) (defScope s_LotU_initU) .none kV_LotU_initU dc_LotU_initU pm_LotU_initU an_LotU_initU cd_LotU_initU ct_LotU_initU), sl_LotU_initU⟩)
    (hc_LotU_initU : PySem.W.codeIn K cd_LotU_initU "Lot.__init__" = true)
    (hk_LotU_initU : PySem.W.keepIn K (.ref f_LotU_initU) = true)
    (ha_lowest : PySem.W.nsIn K mainGlobals "lowest" = some (some (.ref f_lowest)))
    (hl_lowest : K.lookup f_lowest = some ⟨oc_lowest, od_lowest, .func (PySem.W.fnOf "lowest" "lowest" (defArgs s_lowest) (defBody s_lowest) (defScope s_lowest) (.ref dT_lowest) kV_lowest dc_lowest pm_lowest an_lowest cd_lowest ct_lowest), sl_lowest⟩)
    (hc_lowest : PySem.W.codeIn K cd_lowest "lowest" = true)
    (hk_lowest : PySem.W.keepIn K (.ref f_lowest) = true)
    (hd_lowest : K.lookup dT_lowest = some ⟨cT_lowest, oT_lowest, .seq #[.int 1 w0_lowest] nT_lowest, zT_lowest⟩)
    (ha_minus : PySem.W.nsIn K mainGlobals "minus" = some (some (.ref f_minus)))
    (hl_minus : K.lookup f_minus = some ⟨oc_minus, od_minus, .func (PySem.W.fnOf "minus" "minus" (defArgs s_minus) (defBody s_minus) (defScope s_minus) .none kV_minus dc_minus pm_minus an_minus cd_minus ct_minus), sl_minus⟩)
    (hc_minus : PySem.W.codeIn K cd_minus "minus" = true)
    (hk_minus : PySem.W.keepIn K (.ref f_minus) = true)
    (ha_times : PySem.W.nsIn K mainGlobals "times" = some (some (.ref f_times)))
    (hl_times : K.lookup f_times = some ⟨oc_times, od_times, .func (PySem.W.fnOf "times" "times" (defArgs s_times) (defBody s_times) (defScope s_times) .none kV_times dc_times pm_times an_times cd_times ct_times), sl_times⟩)
    (hc_times : PySem.W.codeIn K cd_times "times" = true)
    (hk_times : PySem.W.keepIn K (.ref f_times) = true)
    (ha_less : PySem.W.nsIn K mainGlobals "less" = some (some (.ref f_less)))
    (hl_less : K.lookup f_less = some ⟨oc_less, od_less, .func (PySem.W.fnOf "less" "less" (defArgs s_less) (defBody s_less) (defScope s_less) .none kV_less dc_less pm_less an_less cd_less ct_less), sl_less⟩)
    (hc_less : PySem.W.codeIn K cd_less "less" = true)
    (hk_less : PySem.W.keepIn K (.ref f_less) = true)
    (ha_Lot_fee : PySem.W.findIn K (.ref C_Lot) "fee" = some (some (.ref f_Lot_fee)))
    (hi_Lot_fee : PySem.W.isFn K (.ref f_Lot_fee) = true)
    (hl_Lot_fee : K.lookup f_Lot_fee = some ⟨oc_Lot_fee, od_Lot_fee, .func (PySem.W.fnOf "fee" "Lot.fee" (defArgs s_Lot_fee) (defBody s_Lot_fee) (defScope s_Lot_fee) .none kV_Lot_fee dc_Lot_fee pm_Lot_fee an_Lot_fee cd_Lot_fee ct_Lot_fee), sl_Lot_fee⟩)
    (hc_Lot_fee : PySem.W.codeIn K cd_Lot_fee "Lot.fee" = true)
    (hk_Lot_fee : PySem.W.keepIn K (.ref f_Lot_fee) = true)
    (ha_Lot_grown : PySem.W.findIn K (.ref C_Lot) "grown" = some (some (.ref f_Lot_grown)))
    (hi_Lot_grown : PySem.W.isFn K (.ref f_Lot_grown) = true)
    (hl_Lot_grown : K.lookup f_Lot_grown = some ⟨oc_Lot_grown, od_Lot_grown, .func (PySem.W.fnOf "grown" "Lot.grown" (defArgs s_Lot_grown) (defBody s_Lot_grown) (defScope s_Lot_grown) .none kV_Lot_grown dc_Lot_grown pm_Lot_grown an_Lot_grown cd_Lot_grown ct_Lot_grown), sl_Lot_grown⟩)
    (hc_Lot_grown : PySem.W.codeIn K cd_Lot_grown "Lot.grown" = true)
    (hk_Lot_grown : PySem.W.keepIn K (.ref f_Lot_grown) = true)
    (ha_plus : PySem.W.nsIn K mainGlobals "plus" = some (some (.ref f_plus)))
    (hl_plus : K.lookup f_plus = some ⟨oc_plus, od_plus, .func (PySem.W.fnOf "plus" "plus" (defArgs s_plus) (defBody s_plus) (defScope s_plus) .none kV_plus dc_plus pm_plus an_plus cd_plus ct_plus), sl_plus⟩)
    (hc_plus : PySem.W.codeIn K cd_plus "plus" = true)
    (hk_plus : PySem.W.keepIn K (.ref f_plus) = true)
    (ha_over : PySem.W.nsIn K mainGlobals "over" = some (some (.ref f_over)))
    (hl_over : K.lookup f_over = some ⟨oc_over, od_over, .func (PySem.W.fnOf "over" "over" (defArgs s_over) (defBody s_over) (defScope s_over) .none kV_over dc_over pm_over an_over cd_over ct_over), sl_over⟩)
    (hc_over : PySem.W.codeIn K cd_over "over" = true)
    (hk_over : PySem.W.keepIn K (.ref f_over) = true)
    (ha_parted : PySem.W.nsIn K mainGlobals "parted" = some (some (.ref f_parted)))
    (hl_parted : K.lookup f_parted = some ⟨oc_parted, od_parted, .func (PySem.W.fnOf "parted" "parted" (defArgs s_parted) (defBody s_parted) (defScope s_parted) .none kV_parted dc_parted pm_parted an_parted cd_parted ct_parted), sl_parted⟩)
    (hc_parted : PySem.W.codeIn K cd_parted "parted" = true)
    (hk_parted : PySem.W.keepIn K (.ref f_parted) = true)
    (ha__law_bag : PySem.W.nsIn K mainGlobals "_law_bag" = some (some (.ref f__law_bag)))
    (hl__law_bag : K.lookup f__law_bag = some ⟨oc__law_bag, od__law_bag, .func (PySem.W.fnOf "_law_bag" "_law_bag" (defArgs s__law_bag) (defBody s__law_bag) (defScope s__law_bag) .none kV__law_bag dc__law_bag pm__law_bag an__law_bag cd__law_bag ct__law_bag), sl__law_bag⟩)
    (hc__law_bag : PySem.W.codeIn K cd__law_bag "_law_bag" = true)
    (hk__law_bag : PySem.W.keepIn K (.ref f__law_bag) = true)
    (ha__law_pull : PySem.W.nsIn K mainGlobals "_law_pull" = some (some (.ref f__law_pull)))
    (hl__law_pull : K.lookup f__law_pull = some ⟨oc__law_pull, od__law_pull, .func (PySem.W.fnOf "_law_pull" "_law_pull" (defArgs s__law_pull) (defBody s__law_pull) (defScope s__law_pull) .none kV__law_pull dc__law_pull pm__law_pull an__law_pull cd__law_pull ct__law_pull), sl__law_pull⟩)
    (hc__law_pull : PySem.W.codeIn K cd__law_pull "_law_pull" = true)
    (hk__law_pull : PySem.W.keepIn K (.ref f__law_pull) = true)
    (ha__law_low : PySem.W.nsIn K mainGlobals "_law_low" = some (some (.ref f__law_low)))
    (hl__law_low : K.lookup f__law_low = some ⟨oc__law_low, od__law_low, .func (PySem.W.fnOf "_law_low" "_law_low" (defArgs s__law_low) (defBody s__law_low) (defScope s__law_low) .none kV__law_low dc__law_low pm__law_low an__law_low cd__law_low ct__law_low), sl__law_low⟩)
    (hc__law_low : PySem.W.codeIn K cd__law_low "_law_low" = true)
    (hk__law_low : PySem.W.keepIn K (.ref f__law_low) = true)
    (ha__law_wide : PySem.W.nsIn K mainGlobals "_law_wide" = some (some (.ref f__law_wide)))
    (hl__law_wide : K.lookup f__law_wide = some ⟨oc__law_wide, od__law_wide, .func (PySem.W.fnOf "_law_wide" "_law_wide" (defArgs s__law_wide) (defBody s__law_wide) (defScope s__law_wide) .none kV__law_wide dc__law_wide pm__law_wide an__law_wide cd__law_wide ct__law_wide), sl__law_wide⟩)
    (hc__law_wide : PySem.W.codeIn K cd__law_wide "_law_wide" = true)
    (hk__law_wide : PySem.W.keepIn K (.ref f__law_wide) = true)
    (ha__law_factor : PySem.W.nsIn K mainGlobals "_law_factor" = some (some (.ref f__law_factor)))
    (hl__law_factor : K.lookup f__law_factor = some ⟨oc__law_factor, od__law_factor, .func (PySem.W.fnOf "_law_factor" "_law_factor" (defArgs s__law_factor) (defBody s__law_factor) (defScope s__law_factor) .none kV__law_factor dc__law_factor pm__law_factor an__law_factor cd__law_factor ct__law_factor), sl__law_factor⟩)
    (hc__law_factor : PySem.W.codeIn K cd__law_factor "_law_factor" = true)
    (hk__law_factor : PySem.W.keepIn K (.ref f__law_factor) = true)
    (ha__law_mul : PySem.W.nsIn K mainGlobals "_law_mul" = some (some (.ref f__law_mul)))
    (hl__law_mul : K.lookup f__law_mul = some ⟨oc__law_mul, od__law_mul, .func (PySem.W.fnOf "_law_mul" "_law_mul" (defArgs s__law_mul) (defBody s__law_mul) (defScope s__law_mul) .none kV__law_mul dc__law_mul pm__law_mul an__law_mul cd__law_mul ct__law_mul), sl__law_mul⟩)
    (hc__law_mul : PySem.W.codeIn K cd__law_mul "_law_mul" = true)
    (hk__law_mul : PySem.W.keepIn K (.ref f__law_mul) = true)
    (ha__law_lotpair : PySem.W.nsIn K mainGlobals "_law_lotpair" = some (some (.ref f__law_lotpair)))
    (hl__law_lotpair : K.lookup f__law_lotpair = some ⟨oc__law_lotpair, od__law_lotpair, .func (PySem.W.fnOf "_law_lotpair" "_law_lotpair" (defArgs s__law_lotpair) (defBody s__law_lotpair) (defScope s__law_lotpair) .none kV__law_lotpair dc__law_lotpair pm__law_lotpair an__law_lotpair cd__law_lotpair ct__law_lotpair), sl__law_lotpair⟩)
    (hc__law_lotpair : PySem.W.codeIn K cd__law_lotpair "_law_lotpair" = true)
    (hk__law_lotpair : PySem.W.keepIn K (.ref f__law_lotpair) = true)
    (ha__law_whole : PySem.W.nsIn K mainGlobals "_law_whole" = some (some (.ref f__law_whole)))
    (hl__law_whole : K.lookup f__law_whole = some ⟨oc__law_whole, od__law_whole, .func (PySem.W.fnOf "_law_whole" "_law_whole" (defArgs s__law_whole) (defBody s__law_whole) (defScope s__law_whole) .none kV__law_whole dc__law_whole pm__law_whole an__law_whole cd__law_whole ct__law_whole), sl__law_whole⟩)
    (hc__law_whole : PySem.W.codeIn K cd__law_whole "_law_whole" = true)
    (hk__law_whole : PySem.W.keepIn K (.ref f__law_whole) = true)
    (ha__law_frac : PySem.W.nsIn K mainGlobals "_law_frac" = some (some (.ref f__law_frac)))
    (hl__law_frac : K.lookup f__law_frac = some ⟨oc__law_frac, od__law_frac, .func (PySem.W.fnOf "_law_frac" "_law_frac" (defArgs s__law_frac) (defBody s__law_frac) (defScope s__law_frac) .none kV__law_frac dc__law_frac pm__law_frac an__law_frac cd__law_frac ct__law_frac), sl__law_frac⟩)
    (hc__law_frac : PySem.W.codeIn K cd__law_frac "_law_frac" = true)
    (hk__law_frac : PySem.W.keepIn K (.ref f__law_frac) = true)
    (ha__law_div : PySem.W.nsIn K mainGlobals "_law_div" = some (some (.ref f__law_div)))
    (hl__law_div : K.lookup f__law_div = some ⟨oc__law_div, od__law_div, .func (PySem.W.fnOf "_law_div" "_law_div" (defArgs s__law_div) (defBody s__law_div) (defScope s__law_div) .none kV__law_div dc__law_div pm__law_div an__law_div cd__law_div ct__law_div), sl__law_div⟩)
    (hc__law_div : PySem.W.codeIn K cd__law_div "_law_div" = true)
    (hk__law_div : PySem.W.keepIn K (.ref f__law_div) = true)
    (ha__law_add : PySem.W.nsIn K mainGlobals "_law_add" = some (some (.ref f__law_add)))
    (hl__law_add : K.lookup f__law_add = some ⟨oc__law_add, od__law_add, .func (PySem.W.fnOf "_law_add" "_law_add" (defArgs s__law_add) (defBody s__law_add) (defScope s__law_add) .none kV__law_add dc__law_add pm__law_add an__law_add cd__law_add ct__law_add), sl__law_add⟩)
    (hc__law_add : PySem.W.codeIn K cd__law_add "_law_add" = true)
    (hk__law_add : PySem.W.keepIn K (.ref f__law_add) = true)
    (ha__law_below : PySem.W.nsIn K mainGlobals "_law_below" = some (some (.ref f__law_below)))
    (hl__law_below : K.lookup f__law_below = some ⟨oc__law_below, od__law_below, .func (PySem.W.fnOf "_law_below" "_law_below" (defArgs s__law_below) (defBody s__law_below) (defScope s__law_below) .none kV__law_below dc__law_below pm__law_below an__law_below cd__law_below ct__law_below), sl__law_below⟩)
    (hc__law_below : PySem.W.codeIn K cd__law_below "_law_below" = true)
    (hk__law_below : PySem.W.keepIn K (.ref f__law_below) = true)
    (ha_law : PySem.W.nsIn K mainGlobals "law" = some (some (.ref f_law)))
    (hl_law : K.lookup f_law = some ⟨oc_law, od_law, .func (PySem.W.fnOf "law" "law" (defArgs s_law) (defBody s_law) (defScope s_law) .none kV_law dc_law pm_law an_law cd_law ct_law), sl_law⟩)
    (hc_law : PySem.W.codeIn K cd_law "law" = true)
    (hk_law : PySem.W.keepIn K (.ref f_law) = true)
    (hpg_Lot : PySem.W.plainGet K C_Lot Str.empty = true)
    (hhd_Lot : PySem.W.hasDictIn K C_Lot = true)
    (hpo_Lot : PySem.W.plainOver K C_Lot = true)
    (hsa_Lot : PySem.W.findIn K (.ref C_Lot) "__setattr__" = some (some (.builtin "object.__setattr__")))
    (hmk_Lot : PySem.W.makesIn K C_Lot = true)
    (hkc_Lot : PySem.W.keepIn K (.ref C_Lot) = true)
    (hna_Lot_worth : PySem.W.findIn K (.ref C_Lot) "worth" = some none)
    (hna_Lot_mark : PySem.W.findIn K (.ref C_Lot) "mark" = some none)
    : ∃ fd : FuncData, (∀ (s : Shared) (v : Value), BindsTo s fd ⟨[v], []⟩ [("_law_script", v)]) ∧ ∀ base : Heap, K.In base → base.Ns mainGlobals mg → FnOk l.prog w K mg base CX0 5 fa fd ["_law_script"] (sp_law K) := by
  have e := hfa.symm.trans (PySem.W.mg_of X G ha_law)
  cases e
  have F := fun_mk (st := s_law) hl_law hc_law hk_law
  have T : Nonempty (Top K mg) := ⟨{
    n_abs := PySem.W.mg_none_of X G hn_abs,
    n_list := PySem.W.mg_none_of X G hn_list,
    n_len := PySem.W.mg_none_of X G hn_len,
    n_bool := PySem.W.mg_none_of X G hn_bool,
    n_int := PySem.W.mg_none_of X G hn_int,
    n_isinstance := PySem.W.mg_none_of X G hn_isinstance,
    n_tuple := PySem.W.mg_none_of X G hn_tuple,
    a_NOUGHT := a_NOUGHT,
    c_NOUGHT := PySem.W.mg_of X G hc_NOUGHT,
    q_NOUGHT := fun H => .inr ⟨_, _, _, hq_NOUGHT, rfl, rfl, (by show 2 ≤ sizeLine; decide), .cons ⟨_, rfl⟩ (.cons ⟨_, rfl⟩ (.nil))⟩,
    t_WHOLE := t_WHOLE,
    c_WHOLE := PySem.W.mg_of X G hc_WHOLE,
    x_ByNought := x_ByNought,
    e_ByNought := ⟨PySem.W.mg_of X G hxg_ByNought, hxq_ByNought, hxk_ByNought, hxs_ByNought, hxt_ByNought, hxh_ByNought, hxe_ByNought⟩,
    f_LotU_initU := f_LotU_initU,
    fd_LotU_initU := _,
    F_LotU_initU := fun_mk (st := s_LotU_initU) hl_LotU_initU hc_LotU_initU hk_LotU_initU,
    b_LotU_initU := (fun_mk (st := s_LotU_initU) hl_LotU_initU hc_LotU_initU hk_LotU_initU).binds (ps := ["self", "worth", "mark"]) fun _ _ _ _ _ _ us hl => match us, hl with | [_, _, _], _ => rfl,
    k_LotU_initU := hk_LotU_initU,
    f_lowest := f_lowest,
    fd_lowest := _,
    F_lowest := ⟨⟨oc_lowest, od_lowest, _, _, dc_lowest, pm_lowest, an_lowest, cd_lowest, ct_lowest, sl_lowest, rfl, hl_lowest, hc_lowest, .inr ⟨(by simp), dT_lowest, _, _, nT_lowest, rfl, hd_lowest, rfl, .cons ⟨_, rfl⟩ (.nil)⟩, .inl rfl⟩, hk_lowest⟩,
    k_lowest := hk_lowest,
    g_lowest := PySem.W.mg_of X G ha_lowest,
    f_minus := f_minus,
    fd_minus := _,
    F_minus := fun_mk (st := s_minus) hl_minus hc_minus hk_minus,
    b_minus := (fun_mk (st := s_minus) hl_minus hc_minus hk_minus).binds (ps := ["one", "other"]) fun _ _ _ _ _ _ us hl => match us, hl with | [_, _], _ => rfl,
    k_minus := hk_minus,
    g_minus := PySem.W.mg_of X G ha_minus,
    f_times := f_times,
    fd_times := _,
    F_times := fun_mk (st := s_times) hl_times hc_times hk_times,
    b_times := (fun_mk (st := s_times) hl_times hc_times hk_times).binds (ps := ["one", "other"]) fun _ _ _ _ _ _ us hl => match us, hl with | [_, _], _ => rfl,
    k_times := hk_times,
    g_times := PySem.W.mg_of X G ha_times,
    f_less := f_less,
    fd_less := _,
    F_less := fun_mk (st := s_less) hl_less hc_less hk_less,
    b_less := (fun_mk (st := s_less) hl_less hc_less hk_less).binds (ps := ["one", "other"]) fun _ _ _ _ _ _ us hl => match us, hl with | [_, _], _ => rfl,
    k_less := hk_less,
    g_less := PySem.W.mg_of X G ha_less,
    f_Lot_fee := f_Lot_fee,
    fd_Lot_fee := _,
    F_Lot_fee := fun_mk (st := s_Lot_fee) hl_Lot_fee hc_Lot_fee hk_Lot_fee,
    b_Lot_fee := (fun_mk (st := s_Lot_fee) hl_Lot_fee hc_Lot_fee hk_Lot_fee).binds (ps := ["self", "rate"]) fun _ _ _ _ _ _ us hl => match us, hl with | [_, _], _ => rfl,
    k_Lot_fee := hk_Lot_fee,
    f_Lot_grown := f_Lot_grown,
    fd_Lot_grown := _,
    F_Lot_grown := fun_mk (st := s_Lot_grown) hl_Lot_grown hc_Lot_grown hk_Lot_grown,
    b_Lot_grown := (fun_mk (st := s_Lot_grown) hl_Lot_grown hc_Lot_grown hk_Lot_grown).binds (ps := ["self", "factor"]) fun _ _ _ _ _ _ us hl => match us, hl with | [_, _], _ => rfl,
    k_Lot_grown := hk_Lot_grown,
    f_plus := f_plus,
    fd_plus := _,
    F_plus := fun_mk (st := s_plus) hl_plus hc_plus hk_plus,
    b_plus := (fun_mk (st := s_plus) hl_plus hc_plus hk_plus).binds (ps := ["one", "other"]) fun _ _ _ _ _ _ us hl => match us, hl with | [_, _], _ => rfl,
    k_plus := hk_plus,
    g_plus := PySem.W.mg_of X G ha_plus,
    f_over := f_over,
    fd_over := _,
    F_over := fun_mk (st := s_over) hl_over hc_over hk_over,
    b_over := (fun_mk (st := s_over) hl_over hc_over hk_over).binds (ps := ["one", "other"]) fun _ _ _ _ _ _ us hl => match us, hl with | [_, _], _ => rfl,
    k_over := hk_over,
    g_over := PySem.W.mg_of X G ha_over,
    f_parted := f_parted,
    fd_parted := _,
    F_parted := fun_mk (st := s_parted) hl_parted hc_parted hk_parted,
    b_parted := (fun_mk (st := s_parted) hl_parted hc_parted hk_parted).binds (ps := ["one", "other"]) fun _ _ _ _ _ _ us hl => match us, hl with | [_, _], _ => rfl,
    k_parted := hk_parted,
    g_parted := PySem.W.mg_of X G ha_parted,
    f__law_bag := f__law_bag,
    fd__law_bag := _,
    F__law_bag := fun_mk (st := s__law_bag) hl__law_bag hc__law_bag hk__law_bag,
    b__law_bag := (fun_mk (st := s__law_bag) hl__law_bag hc__law_bag hk__law_bag).binds (ps := ["_law_script"]) fun _ _ _ _ _ _ us hl => match us, hl with | [_], _ => rfl,
    k__law_bag := hk__law_bag,
    g__law_bag := PySem.W.mg_of X G ha__law_bag,
    f__law_pull := f__law_pull,
    fd__law_pull := _,
    F__law_pull := fun_mk (st := s__law_pull) hl__law_pull hc__law_pull hk__law_pull,
    b__law_pull := (fun_mk (st := s__law_pull) hl__law_pull hc__law_pull hk__law_pull).binds (ps := ["_law_bag_here", "_law_many"]) fun _ _ _ _ _ _ us hl => match us, hl with | [_, _], _ => rfl,
    k__law_pull := hk__law_pull,
    g__law_pull := PySem.W.mg_of X G ha__law_pull,
    f__law_low := f__law_low,
    fd__law_low := _,
    F__law_low := fun_mk (st := s__law_low) hl__law_low hc__law_low hk__law_low,
    b__law_low := (fun_mk (st := s__law_low) hl__law_low hc__law_low hk__law_low).binds (ps := ["_law_upper", "_law_lower"]) fun _ _ _ _ _ _ us hl => match us, hl with | [_, _], _ => rfl,
    k__law_low := hk__law_low,
    g__law_low := PySem.W.mg_of X G ha__law_low,
    f__law_wide := f__law_wide,
    fd__law_wide := _,
    F__law_wide := fun_mk (st := s__law_wide) hl__law_wide hc__law_wide hk__law_wide,
    b__law_wide := (fun_mk (st := s__law_wide) hl__law_wide hc__law_wide hk__law_wide).binds (ps := ["_law_bag_here", "_law_many"]) fun _ _ _ _ _ _ us hl => match us, hl with | [_, _], _ => rfl,
    k__law_wide := hk__law_wide,
    g__law_wide := PySem.W.mg_of X G ha__law_wide,
    f__law_factor := f__law_factor,
    fd__law_factor := _,
    F__law_factor := fun_mk (st := s__law_factor) hl__law_factor hc__law_factor hk__law_factor,
    b__law_factor := (fun_mk (st := s__law_factor) hl__law_factor hc__law_factor hk__law_factor).binds (ps := ["_law_bag_here"]) fun _ _ _ _ _ _ us hl => match us, hl with | [_], _ => rfl,
    k__law_factor := hk__law_factor,
    g__law_factor := PySem.W.mg_of X G ha__law_factor,
    f__law_mul := f__law_mul,
    fd__law_mul := _,
    F__law_mul := fun_mk (st := s__law_mul) hl__law_mul hc__law_mul hk__law_mul,
    b__law_mul := (fun_mk (st := s__law_mul) hl__law_mul hc__law_mul hk__law_mul).binds (ps := ["_law_one", "_law_other"]) fun _ _ _ _ _ _ us hl => match us, hl with | [_, _], _ => rfl,
    k__law_mul := hk__law_mul,
    g__law_mul := PySem.W.mg_of X G ha__law_mul,
    f__law_lotpair := f__law_lotpair,
    fd__law_lotpair := _,
    F__law_lotpair := fun_mk (st := s__law_lotpair) hl__law_lotpair hc__law_lotpair hk__law_lotpair,
    b__law_lotpair := (fun_mk (st := s__law_lotpair) hl__law_lotpair hc__law_lotpair hk__law_lotpair).binds (ps := ["_law_bag_here"]) fun _ _ _ _ _ _ us hl => match us, hl with | [_], _ => rfl,
    k__law_lotpair := hk__law_lotpair,
    g__law_lotpair := PySem.W.mg_of X G ha__law_lotpair,
    f__law_whole := f__law_whole,
    fd__law_whole := _,
    F__law_whole := fun_mk (st := s__law_whole) hl__law_whole hc__law_whole hk__law_whole,
    b__law_whole := (fun_mk (st := s__law_whole) hl__law_whole hc__law_whole hk__law_whole).binds (ps := ["_law_found"]) fun _ _ _ _ _ _ us hl => match us, hl with | [_], _ => rfl,
    k__law_whole := hk__law_whole,
    g__law_whole := PySem.W.mg_of X G ha__law_whole,
    f__law_frac := f__law_frac,
    fd__law_frac := _,
    F__law_frac := fun_mk (st := s__law_frac) hl__law_frac hc__law_frac hk__law_frac,
    b__law_frac := (fun_mk (st := s__law_frac) hl__law_frac hc__law_frac hk__law_frac).binds (ps := ["_law_found"]) fun _ _ _ _ _ _ us hl => match us, hl with | [_], _ => rfl,
    k__law_frac := hk__law_frac,
    g__law_frac := PySem.W.mg_of X G ha__law_frac,
    f__law_div := f__law_div,
    fd__law_div := _,
    F__law_div := fun_mk (st := s__law_div) hl__law_div hc__law_div hk__law_div,
    b__law_div := (fun_mk (st := s__law_div) hl__law_div hc__law_div hk__law_div).binds (ps := ["_law_one", "_law_other"]) fun _ _ _ _ _ _ us hl => match us, hl with | [_, _], _ => rfl,
    k__law_div := hk__law_div,
    g__law_div := PySem.W.mg_of X G ha__law_div,
    f__law_add := f__law_add,
    fd__law_add := _,
    F__law_add := fun_mk (st := s__law_add) hl__law_add hc__law_add hk__law_add,
    b__law_add := (fun_mk (st := s__law_add) hl__law_add hc__law_add hk__law_add).binds (ps := ["_law_one", "_law_other"]) fun _ _ _ _ _ _ us hl => match us, hl with | [_, _], _ => rfl,
    k__law_add := hk__law_add,
    g__law_add := PySem.W.mg_of X G ha__law_add,
    f__law_below := f__law_below,
    fd__law_below := _,
    F__law_below := fun_mk (st := s__law_below) hl__law_below hc__law_below hk__law_below,
    b__law_below := (fun_mk (st := s__law_below) hl__law_below hc__law_below hk__law_below).binds (ps := ["_law_one", "_law_other"]) fun _ _ _ _ _ _ us hl => match us, hl with | [_, _], _ => rfl,
    k__law_below := hk__law_below,
    g__law_below := PySem.W.mg_of X G ha__law_below,
    C_Lot := C_Lot,
    c_Lot := PySem.W.mg_of X G haC_Lot,
    cl_Lot := ⟨hpg_Lot, hhd_Lot, hpo_Lot, hsa_Lot⟩,
    na_Lot_worth := hna_Lot_worth,
    na_Lot_mark := hna_Lot_mark,
    M_Lot := ⟨hmk_Lot, ha_LotU_initU, hi_LotU_initU, hkc_Lot⟩,
    m_Lot_fee := ⟨ha_Lot_fee, hi_Lot_fee, hk_Lot_fee⟩,
    m_Lot_grown := ⟨ha_Lot_grown, hi_Lot_grown, hk_Lot_grown⟩ }⟩
  obtain ⟨T⟩ := T
  exact ⟨_, fun s v => .of_eq rfl, fun base _ _ => ok_law F T⟩
end Cr
open PySem PySem.W PyProof.Rows
set_option maxRecDepth 100000 in
set_option maxHeartbeats 0 in
theorem PySem.Challenge.cw_crestpool_k62_whole_unlike_ones_are_part_holds : PySem.Challenge.rw_crestpool_k62_whole_unlike_ones_are_part.Holds := by
  w_on; o_law; k_head; (case hw => w_witness2)
  k_fill
  refine L2.walk_of (l := PySem.Challenge.rw_crestpool_k62_whole_unlike_ones_are_part) (n := 63) (k := 5) (x := "_law_script") (CX := fun _ => L2.CX0) (sp := fun w => Cr.sp_law _) rfl (by decide) rfl ⟨rfl, by decide, by decide⟩ (fun w h Y => PySem.W.kIn_of Y) ?F (fun _ _ a ns hl _ hS => ⟨a, ns, rfl, hS, hl, fun _ => rfl⟩) (fun _ _ _ _ _ h => h)
  case F =>
    intro w mg fa h KX G hmg
    refine' Cr.all_mk KX G hmg ?haC_Lot ?hn_abs ?hn_list ?hn_len ?hn_bool ?hn_int ?hn_isinstance ?hn_tuple ?hc_NOUGHT ?hq_NOUGHT ?hc_WHOLE ?hxg_ByNought ?hxq_ByNought ?hxk_ByNought ?hxs_ByNought ?hxt_ByNought ?hxh_ByNought ?hxe_ByNought ?ha_LotU_initU ?hi_LotU_initU ?hl_LotU_initU ?hc_LotU_initU ?hk_LotU_initU ?ha_lowest ?hl_lowest ?hc_lowest ?hk_lowest ?hd_lowest ?ha_minus ?hl_minus ?hc_minus ?hk_minus ?ha_times ?hl_times ?hc_times ?hk_times ?ha_less ?hl_less ?hc_less ?hk_less ?ha_Lot_fee ?hi_Lot_fee ?hl_Lot_fee ?hc_Lot_fee ?hk_Lot_fee ?ha_Lot_grown ?hi_Lot_grown ?hl_Lot_grown ?hc_Lot_grown ?hk_Lot_grown ?ha_plus ?hl_plus ?hc_plus ?hk_plus ?ha_over ?hl_over ?hc_over ?hk_over ?ha_parted ?hl_parted ?hc_parted ?hk_parted ?ha__law_bag ?hl__law_bag ?hc__law_bag ?hk__law_bag ?ha__law_pull ?hl__law_pull ?hc__law_pull ?hk__law_pull ?ha__law_low ?hl__law_low ?hc__law_low ?hk__law_low ?ha__law_wide ?hl__law_wide ?hc__law_wide ?hk__law_wide ?ha__law_factor ?hl__law_factor ?hc__law_factor ?hk__law_factor ?ha__law_mul ?hl__law_mul ?hc__law_mul ?hk__law_mul ?ha__law_lotpair ?hl__law_lotpair ?hc__law_lotpair ?hk__law_lotpair ?ha__law_whole ?hl__law_whole ?hc__law_whole ?hk__law_whole ?ha__law_frac ?hl__law_frac ?hc__law_frac ?hk__law_frac ?ha__law_div ?hl__law_div ?hc__law_div ?hk__law_div ?ha__law_add ?hl__law_add ?hc__law_add ?hk__law_add ?ha__law_below ?hl__law_below ?hc__law_below ?hk__law_below ?ha_law ?hl_law ?hc_law ?hk_law ?hpg_Lot ?hhd_Lot ?hpo_Lot ?hsa_Lot ?hmk_Lot ?hkc_Lot ?hna_Lot_worth ?hna_Lot_mark
    (case haC_Lot => k_is)
    (case hn_abs => k_is)
    (case hn_list => k_is)
    (case hn_len => k_is)
    (case hn_bool => k_is)
    (case hn_int => k_is)
    (case hn_isinstance => k_is)
    (case hn_tuple => k_is)
    (case hc_NOUGHT => k_is)
    (case hq_NOUGHT => k_is)
    (case hc_WHOLE => k_is)
    (case hxg_ByNought => k_is)
    (case hxq_ByNought => first | k_exc | k_is)
    (case hxk_ByNought => k_is)
    (case hxs_ByNought => k_is)
    (case hxt_ByNought => k_is)
    (case hxh_ByNought => k_is)
    (case hxe_ByNought => first | rfl | k_is)
    (case ha_LotU_initU => k_is)
    (case hi_LotU_initU => k_is)
    (case hl_LotU_initU => k_is)
    (case hc_LotU_initU => k_is)
    (case hk_LotU_initU => k_is)
    (case ha_lowest => k_is)
    (case hl_lowest => k_is)
    (case hc_lowest => k_is)
    (case hk_lowest => k_is)
    (case hd_lowest => k_is)
    (case ha_minus => k_is)
    (case hl_minus => k_is)
    (case hc_minus => k_is)
    (case hk_minus => k_is)
    (case ha_times => k_is)
    (case hl_times => k_is)
    (case hc_times => k_is)
    (case hk_times => k_is)
    (case ha_less => k_is)
    (case hl_less => k_is)
    (case hc_less => k_is)
    (case hk_less => k_is)
    (case ha_Lot_fee => k_is)
    (case hi_Lot_fee => k_is)
    (case hl_Lot_fee => k_is)
    (case hc_Lot_fee => k_is)
    (case hk_Lot_fee => k_is)
    (case ha_Lot_grown => k_is)
    (case hi_Lot_grown => k_is)
    (case hl_Lot_grown => k_is)
    (case hc_Lot_grown => k_is)
    (case hk_Lot_grown => k_is)
    (case ha_plus => k_is)
    (case hl_plus => k_is)
    (case hc_plus => k_is)
    (case hk_plus => k_is)
    (case ha_over => k_is)
    (case hl_over => k_is)
    (case hc_over => k_is)
    (case hk_over => k_is)
    (case ha_parted => k_is)
    (case hl_parted => k_is)
    (case hc_parted => k_is)
    (case hk_parted => k_is)
    (case ha__law_bag => k_is)
    (case hl__law_bag => k_is)
    (case hc__law_bag => k_is)
    (case hk__law_bag => k_is)
    (case ha__law_pull => k_is)
    (case hl__law_pull => k_is)
    (case hc__law_pull => k_is)
    (case hk__law_pull => k_is)
    (case ha__law_low => k_is)
    (case hl__law_low => k_is)
    (case hc__law_low => k_is)
    (case hk__law_low => k_is)
    (case ha__law_wide => k_is)
    (case hl__law_wide => k_is)
    (case hc__law_wide => k_is)
    (case hk__law_wide => k_is)
    (case ha__law_factor => k_is)
    (case hl__law_factor => k_is)
    (case hc__law_factor => k_is)
    (case hk__law_factor => k_is)
    (case ha__law_mul => k_is)
    (case hl__law_mul => k_is)
    (case hc__law_mul => k_is)
    (case hk__law_mul => k_is)
    (case ha__law_lotpair => k_is)
    (case hl__law_lotpair => k_is)
    (case hc__law_lotpair => k_is)
    (case hk__law_lotpair => k_is)
    (case ha__law_whole => k_is)
    (case hl__law_whole => k_is)
    (case hc__law_whole => k_is)
    (case hk__law_whole => k_is)
    (case ha__law_frac => k_is)
    (case hl__law_frac => k_is)
    (case hc__law_frac => k_is)
    (case hk__law_frac => k_is)
    (case ha__law_div => k_is)
    (case hl__law_div => k_is)
    (case hc__law_div => k_is)
    (case hk__law_div => k_is)
    (case ha__law_add => k_is)
    (case hl__law_add => k_is)
    (case hc__law_add => k_is)
    (case hk__law_add => k_is)
    (case ha__law_below => k_is)
    (case hl__law_below => k_is)
    (case hc__law_below => k_is)
    (case hk__law_below => k_is)
    (case ha_law => k_is)
    (case hl_law => k_is)
    (case hc_law => k_is)
    (case hk_law => k_is)
    (case hpg_Lot => k_is)
    (case hhd_Lot => k_is)
    (case hpo_Lot => k_is)
    (case hsa_Lot => k_is)
    (case hmk_Lot => k_is)
    (case hkc_Lot => k_is)
    (case hna_Lot_worth => k_is)
    (case hna_Lot_mark => k_is)
#print axioms PySem.Challenge.cw_crestpool_k62_whole_unlike_ones_are_part_holds
