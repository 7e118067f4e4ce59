import PyProof.Rows.All
import Wide.All
import OpenK.AllK
import Wide.FinOn
import HandS.ForMost
import HandS.ForExc
import HandS.Wide
import HandS.IsInst
import HandS.Defaults
import HandS.ExcIs
import HandS.ExcBuiltin
import HandS.Flow
import HandS.Style
import HandS.MakeKwOnly
import HandS.Comp
import HandS.Deep
import HandS.More
import PySem.Challenge.RW_crestpool_k46_what_a_till_paid
set_option Elab.async false
set_option linter.all false
set_option maxRecDepth 100000
set_option maxHeartbeats 4000000
namespace Cr
/-- a fraction's numbers are below 2 ^ n -/
def Sz (n : Nat) (r : Rat) : Prop := r.num.natAbs < 2 ^ n ∧ r.den < 2 ^ n
theorem Sz.mono {n m : Nat} {r : Rat} (h : Sz n r) (k : n ≤ m) : Sz m r :=
  have e : 2 ^ n ≤ 2 ^ m := Nat.pow_le_pow_right (by decide) k
  ⟨Nat.lt_of_lt_of_le h.1 e, Nat.lt_of_lt_of_le h.2 e⟩
theorem lt_two {a n : Nat} (h : a < 2 ^ n) {b m : Nat} (k : b < 2 ^ m) : a * b < 2 ^ (n + m) := by
  rw [Nat.pow_add]; exact Nat.mul_lt_mul'' h k
/-- the numbers of a quotient in lowest terms are no greater -/
theorem divInt_num_le (t b : Int) (hb : b ≠ 0) : (Rat.divInt t b).num.natAbs ≤ t.natAbs := by
  rw [Rat.num_divInt, Int.natAbs_ediv_of_dvd]
  · refine Nat.le_trans (Nat.div_le_self _ _) ?_
    rw [Int.natAbs_mul, Int.natAbs_sign, if_neg hb, Nat.one_mul]
    exact Nat.le_refl _
  · exact Int.dvd_trans (Int.gcd_dvd_right _ _) (Int.dvd_mul_left _ _)
theorem divInt_den_le (t b : Int) (hb : b ≠ 0) : (Rat.divInt t b).den ≤ b.natAbs := by
  rw [Rat.den_divInt, if_neg hb]
  exact Nat.div_le_self _ _
theorem divInt_sz {t b : Int} {n : Nat} (hb : b ≠ 0) (h1 : t.natAbs < 2 ^ n) (h2 : b.natAbs < 2 ^ n) : Sz n (Rat.divInt t b) :=
  ⟨Nat.lt_of_le_of_lt (divInt_num_le t b hb) h1, Nat.lt_of_le_of_lt (divInt_den_le t b hb) h2⟩
theorem rat_add (r s : Rat) : Rat.divInt (r.num * s.den + s.num * r.den) (r.den * s.den) = r + s := by
  have h1 : (r.den : Int) ≠ 0 := by have := r.den_pos; omega
  have h2 : (s.den : Int) ≠ 0 := by have := s.den_pos; omega
  rw [← Rat.divInt_add_divInt _ _ h1 h2, Rat.num_divInt_den, Rat.num_divInt_den]
theorem rat_sub (r s : Rat) : Rat.divInt (r.num * s.den - s.num * r.den) (r.den * s.den) = r - s := by
  have e := rat_add r (-s)
  rw [Rat.neg_num, Rat.neg_den] at e
  rw [Rat.sub_eq_add_neg, ← e, Int.neg_mul, Int.sub_eq_add_neg]
theorem rat_mul (r s : Rat) : Rat.divInt (r.num * s.num) (r.den * s.den) = r * s := by
  rw [← Rat.divInt_mul_divInt, Rat.num_divInt_den, Rat.num_divInt_den]
theorem den_ne (r : Rat) : (r.den : Int) ≠ 0 := by have := r.den_pos; omega
theorem natAbs_lt_mul {a b : Int} {n m : Nat} (h : a.natAbs < 2 ^ n) (k : b.natAbs < 2 ^ m) : (a * b).natAbs < 2 ^ (n + m) := by
  rw [Int.natAbs_mul]; exact lt_two h k
theorem natAbs_lt_add {a b : Int} {n : Nat} (h : a.natAbs < 2 ^ n) (k : b.natAbs < 2 ^ n) : (a + b).natAbs < 2 ^ (n + 1) := by
  have := Int.natAbs_add_le a b
  rw [Nat.pow_succ]; omega
theorem natAbs_lt_sub {a b : Int} {n : Nat} (h : a.natAbs < 2 ^ n) (k : b.natAbs < 2 ^ n) : (a - b).natAbs < 2 ^ (n + 1) := by
  have := Int.natAbs_add_le a (-b)
  rw [Int.natAbs_neg] at this
  rw [Int.sub_eq_add_neg, Nat.pow_succ]; omega
theorem sz0 : Sz 4000 0 := by unfold Sz; exact ⟨Nat.pow_pos (by decide), Nat.one_lt_two_pow (by decide)⟩
theorem Sz.dA {n : Nat} {r : Rat} (h : Sz n r) : (r.den : Int).natAbs < 2 ^ n := by rw [Int.natAbs_natCast]; exact h.2
theorem pw_le {a n m : Nat} (h : a < 2 ^ n) (k : n ≤ m) : a < 2 ^ m := Nat.lt_of_lt_of_le h (Nat.pow_le_pow_right (by decide) k)
theorem Sz.add {n m : Nat} {r s : Rat} (h : Sz n r) (k : Sz m s) : Sz (n + m + 1) (r + s) := by
  rw [← rat_add]
  refine divInt_sz ?_ ?_ ?_
  · exact Int.mul_ne_zero (den_ne r) (den_ne s)
  · refine natAbs_lt_add (natAbs_lt_mul h.1 k.dA) ?_
    rw [Nat.add_comm]
    exact natAbs_lt_mul k.1 h.dA
  · exact pw_le (natAbs_lt_mul h.dA k.dA) (by omega)
theorem Sz.sub {n m : Nat} {r s : Rat} (h : Sz n r) (k : Sz m s) : Sz (n + m + 1) (r - s) := by
  rw [← rat_sub]
  refine divInt_sz ?_ ?_ ?_
  · exact Int.mul_ne_zero (den_ne r) (den_ne s)
  · refine natAbs_lt_sub (natAbs_lt_mul h.1 k.dA) ?_
    rw [Nat.add_comm]
    exact natAbs_lt_mul k.1 h.dA
  · exact pw_le (natAbs_lt_mul h.dA k.dA) (by omega)
theorem Sz.mul {n m : Nat} {r s : Rat} (h : Sz n r) (k : Sz m s) : Sz (n + m) (r * s) := by
  rw [← rat_mul]
  refine divInt_sz ?_ ?_ ?_
  · exact Int.mul_ne_zero (den_ne r) (den_ne s)
  · exact natAbs_lt_mul h.1 k.1
  · exact natAbs_lt_mul h.dA k.dA
theorem Sz.neg {n : Nat} {r : Rat} (h : Sz n r) : Sz n (-r) := by
  unfold Sz; rw [Rat.neg_num, Rat.neg_den, Int.natAbs_neg]; exact h
theorem num_ne {s : Rat} (h : s ≠ 0) : s.num ≠ 0 := fun e => h (Rat.num_eq_zero.mp e)
theorem rat_div (r s : Rat) : Rat.divInt (r.num * s.den) (r.den * s.num) = r / s := by
  rw [Rat.div_def, ← Rat.num_divInt_den s, Rat.inv_divInt, ← Rat.divInt_mul_divInt, Rat.num_divInt_den]
  rw [Rat.num_divInt_den]
theorem Sz.div {n m : Nat} {r s : Rat} (h : Sz n r) (k : Sz m s) (h0 : s ≠ 0) : Sz (n + m) (r / s) := by
  rw [← rat_div]
  refine divInt_sz ?_ ?_ ?_
  · exact Int.mul_ne_zero (den_ne r) (num_ne h0)
  · exact natAbs_lt_mul h.1 k.dA
  · exact natAbs_lt_mul h.dA k.1
/-- what the two lowest-terms loops end with -/
def lowG (t b : Int) : Int := if b < 0 then -((Nat.gcd t.natAbs b.natAbs : Nat) : Int) else ((Nat.gcd t.natAbs b.natAbs : Nat) : Int)
theorem gcd_pos {t b : Int} (hb : b ≠ 0) : 0 < Nat.gcd t.natAbs b.natAbs := Nat.gcd_pos_of_pos_right _ (by omega)
theorem low_num {t b : Int} (hb : b ≠ 0) : t.fdiv (lowG t b) = (Rat.divInt t b).num := by
  have hg := gcd_pos (t := t) hb
  have hd : ((Nat.gcd t.natAbs b.natAbs : Nat) : Int) ∣ t := by
    have := Int.gcd_dvd_left t b
    exact this
  have e : Int.gcd b t = Nat.gcd t.natAbs b.natAbs := by show Nat.gcd b.natAbs t.natAbs = _; exact Nat.gcd_comm _ _
  rw [Rat.num_divInt, e]
  unfold lowG
  obtain ⟨k, hk⟩ := hd
  generalize hgg : Nat.gcd t.natAbs b.natAbs = g at *
  by_cases h : b < 0
  · rw [if_pos h, Int.sign_eq_neg_one_of_neg h, hk]
    rw [Int.fdiv_eq_ediv_of_dvd (by rw [Int.neg_dvd]; exact Int.dvd_mul_right _ _)]
    rw [Int.ediv_neg, Int.mul_ediv_cancel_left _ (by omega)]
    rw [show (-1 : Int) * (↑g * k) = ↑g * (-k) by rw [Int.mul_neg]; omega, Int.mul_ediv_cancel_left _ (by omega)]
  · rw [if_neg h, Int.sign_eq_one_of_pos (by omega), hk]
    rw [Int.fdiv_eq_ediv_of_dvd (Int.dvd_mul_right _ _), Int.one_mul]
theorem low_den {t b : Int} (hb : b ≠ 0) : b.fdiv (lowG t b) = ((Rat.divInt t b).den : Int) := by
  have hg := gcd_pos (t := t) hb
  have hd : ((Nat.gcd t.natAbs b.natAbs : Nat) : Int) ∣ b := by
    have := Int.gcd_dvd_right t b
    exact this
  have e : Int.gcd b t = Nat.gcd t.natAbs b.natAbs := by show Nat.gcd b.natAbs t.natAbs = _; exact Nat.gcd_comm _ _
  rw [Rat.den_divInt, if_neg hb, e]
  unfold lowG
  obtain ⟨k, hk⟩ := hd
  generalize hgg : Nat.gcd t.natAbs b.natAbs = g at *
  have ea : b.natAbs = g * k.natAbs := by rw [hk, Int.natAbs_mul, Int.natAbs_natCast]
  rw [ea, Nat.mul_div_cancel_left _ hg]
  by_cases h : b < 0
  · rw [if_pos h, hk]
    rw [Int.fdiv_eq_ediv_of_dvd (by rw [Int.neg_dvd]; exact Int.dvd_mul_right _ _)]
    rw [Int.ediv_neg, Int.mul_ediv_cancel_left _ (by omega)]
    have : k < 0 := by
      rcases Int.lt_or_le k 0 with q | q
      · exact q
      · exfalso; have := Int.mul_nonneg (show (0 : Int) ≤ g by omega) q; omega
    omega
  · rw [if_neg h, hk]
    rw [Int.fdiv_eq_ediv_of_dvd (Int.dvd_mul_right _ _), Int.mul_ediv_cancel_left _ (by omega)]
    have : 0 ≤ k := by
      rcases Int.lt_or_le k 0 with q | q
      · exfalso
        have := Int.mul_neg_of_pos_of_neg (show (0 : Int) < g by omega) q; omega
      · exact q
    omega
/-- one turn of the loop -/
theorem gcd_turn (a b : Nat) : Nat.gcd b (a % b) = Nat.gcd a b := by
  rw [Nat.gcd_comm a b, Nat.gcd_rec b a, Nat.gcd_comm]
end Cr
namespace Cr
/-- sums of fractions -/
theorem foldl_add (a : Rat) (rs : List Rat) : rs.foldl (· + ·) a = rs.foldl (· + ·) 0 + a := by
  induction rs generalizing a with
  | nil => show a = 0 + a; grind
  | cons r rs ih =>
    rw [List.foldl_cons, List.foldl_cons, ih (a + r), ih (0 + r)]
    grind
theorem foldl_rev (rs : List Rat) : rs.reverse.foldl (· + ·) 0 = rs.foldl (· + ·) 0 := by
  induction rs with
  | nil => rfl
  | cons r rs ih =>
    rw [List.reverse_cons, List.foldl_append, ih, List.foldl_cons, List.foldl_cons, List.foldl_nil, foldl_add (0 + r)]
    grind
theorem foldl_sz {n m : Nat} (rs : List Rat) (h : ∀ r, r ∈ rs → Sz n r) (a : Rat) (ha : Sz m a) : Sz (m + (n + 1) * rs.length) (rs.foldl (· + ·) a) := by
  induction rs generalizing a m with
  | nil => exact ha.mono (by simp)
  | cons r rs ih =>
    rw [List.foldl_cons]
    refine (ih (fun x hx => h x (List.mem_cons_of_mem _ hx)) (a + r) (ha.add (h r List.mem_cons_self))).mono ?_
    rw [List.length_cons, Nat.mul_add]
    omega
end Cr
namespace Cr
theorem divInt_pos {t b : Int} (h : 0 < t) (k : 0 < b) : 0 < Rat.divInt t b := by
  rw [Rat.divInt_eq_div, Rat.div_def]
  exact Rat.mul_pos (by exact_mod_cast h) (Rat.inv_pos.mpr (by exact_mod_cast k))
/-- the fee in a lot -/
def feeR (w m : Rat) (rate : Int) : Rat := if m < w then (w - m) * Rat.divInt rate 10000 else 0
theorem sz1 {n : Nat} (h : 0 < n) : Sz n 0 := by unfold Sz; exact ⟨Nat.pow_pos (by decide), Nat.one_lt_two_pow (by omega)⟩
theorem feeR_sz {n : Nat} {w m : Rat} {rate : Int} (h : Sz n w) (k : Sz n m) (r0 : 0 ≤ rate) (r1 : rate ≤ 10000) : Sz (2 * n + 65) (feeR w m rate) := by
  unfold feeR
  split
  · exact ((h.sub k).mul (divInt_sz (n := 64) (by decide) (by omega) (by omega))).mono (by omega)
  · exact sz1 (by omega)
end Cr

namespace Cr
/-- the fee in a part of a lot -/
theorem feeR_part {w m r : Rat} {i : Int} (h : 0 < r) : feeR (w * r) (m * r) i = feeR w m i * r := by
  unfold feeR
  by_cases c : m < w
  · rw [if_pos c, if_pos (Rat.mul_lt_mul_of_pos_right c h)]
    grind
  · rw [if_neg c, if_neg (fun z => c ((Rat.mul_lt_mul_right h).mp z))]
    grind
theorem cents {i : Int} : Rat.divInt i 10000 + Rat.divInt (10000 - i) 10000 = 1 := by
  rw [Rat.divInt_eq_div, Rat.divInt_eq_div]
  push_cast
  grind
end Cr

namespace Cr
open PySem PySem.Spec PyProof.Rows L2
abbrev St := L2.St

/-! ### rules that take any of several kinds -/
theorem opR_or {X : Cx} {f : Value → Value → Sem Value} {r1 r2 : R2} (h1 : OpR X f r1) (h2 : OpR X f r2) : OpR X f (fun x y H Q => r1 x y H Q ∨ r2 x y H Q) := by
  intro pins s σ H x y v u Q I rx ry h
  rcases h with h | h
  · exact h1 pins s σ H x y v u Q I rx ry h
  · exact h2 pins s σ H x y v u Q I rx ry h
def CDivZ (_ j : Int) : Prop := j ≠ 0 ∧ j.natAbs.log2 < 9000
def CMulZ (i j : Int) : Prop := CMul i j ∨ CMulW i j
def rAddI : R2 := rI0 fun i j => .int (i + j)
def rAddS : R2 := fun x y H Q => ∃ i j, x = .str i ∧ y = .str j ∧ i.length + j.length ≤ sizeLine ∧ Q (.str (i ++ j)) H
def rAddU (K : PySem.W.Frag) : R2 := fun x y H Q => rAddI x y H Q ∨ rAddS x y H Q ∨ rCat x y H Q ∨ rCatT K x y H Q
def rSubU : R2 := rI0 fun i j => .int (i - j)
def rMulI : R2 := rI CMulZ fun i j => .int (i * j)
def rMulU : R2 := fun x y H Q => rMulI x y H Q ∨ rRep x y H Q
def rDivU : R2 := rI CDivZ fun i j => .int (i.fdiv j)
def rModU : R2 := rI (fun _ j => j ≠ 0) fun i j => .int (i.fmod j)
def rPowU : R2 := rI CPow fun i j => .int (i ^ j.toNat)
def rLtI : R2 := rI0 fun i j => .bl (decide (i < j))
def rLeI : R2 := rI0 fun i j => .bl (decide (i ≤ j))
def rGtI : R2 := rI0 fun i j => .bl (decide (j < i))
def rGeI : R2 := rI0 fun i j => .bl (decide (j ≤ i))
def rLenU (K : PySem.W.Frag) : List V → Hp → VK → Prop := fun xs H Q => ∃ x n, xs = [x] ∧ LenV K x H n ∧ Q (.int n) H
def rAbsU : List V → Hp → VK → Prop := fun xs H Q => ∃ i, xs = [.int i] ∧ Q (.int (if i < 0 then -i else i)) H
def rMaxU : List V → Hp → VK → Prop := fun xs H Q => ∃ i j, xs = [.int i, .int j] ∧ Q (.int (if j > i then j else i)) H
def rMinU : List V → Hp → VK → Prop := fun xs H Q => ∃ i j, xs = [.int i, .int j] ∧ Q (.int (if j < i then j else i)) H
def rListU (K : PySem.W.Frag) : List V → Hp → VK → Prop := fun xs H Q => ∃ p ys, xs = [.ref p] ∧ (SqL K H p ys ∨ SqT K H p ys) ∧ ∀ l, H l = none → Q (.ref l) (upd H l (.lst ys))
def rTupU (K : PySem.W.Frag) : List V → Hp → VK → Prop := fun xs H Q => ∃ p ys, xs = [.ref p] ∧ ((SqL K H p ys ∧ ∀ l, H l = none → Q (.ref l) (upd H l (.tup ys))) ∨ (SqT K H p ys ∧ Q (.ref p) H))
def rSlU (K : PySem.W.Frag) : V → Option Int → Option Int → Hp → VK → Prop := fun x lo hi H Q => rSlL K x lo hi H Q ∨ rSlT K x lo hi H Q
def rNegU : V → Hp → VK → Prop := rU fun i => .int (-i)
section
variable {X : Cx}
theorem op_addU : OpR X (binaryOp .Add) (rAddU X.K) := opR_or op_add (opR_or op_add_str (opR_or op_cat op_catT))
theorem op_subU : OpR X (binaryOp .Sub) rSubU := op_sub
theorem op_mulI : OpR X (binaryOp .Mult) rMulI := opI fun _ _ _ _ _ _ _ hc q => mul_int q (hc.elim CMul.ok CMulW.ok)
theorem op_mulU : OpR X (binaryOp .Mult) rMulU := opR_or op_mulI op_rep
theorem op_divU : OpR X (binaryOp .FloorDiv) rDivU := opI fun _ _ _ _ _ _ _ hc q => floordiv_int hc.1 q (.inl (PyProof.noPylong_of_log2 hc.2))
theorem op_modU : OpR X (binaryOp .Mod) rModU := op_modN
theorem op_powU : OpR X (binaryOp .Pow) rPowU := op_pow
theorem op_ltI : OpR X (compareOp .Lt) rLtI := op_lt
theorem op_leI : OpR X (compareOp .LtE) rLeI := op_le
theorem op_gtI : OpR X (compareOp .Gt) rGtI := op_gt
theorem op_geI : OpR X (compareOp .GtE) rGeI := op_ge
theorem call_lenU : CallR X (.builtin "len") (rLenU X.K) := call_len
theorem call_absU : CallR X (.builtin "abs") rAbsU := call_abs
theorem call_maxU (hc : X.calm = true) : CallR X (.builtin "max") rMaxU := call_max2 hc
theorem call_minU (hc : X.calm = true) : CallR X (.builtin "min") rMinU := call_min2 hc
theorem call_listU : CallR X (.type "list") (rListU X.K) := call_list_of
theorem call_tupU : CallR X (.type "tuple") (rTupU X.K) := call_tuple_of
theorem sl_seqU : SlR X (rSlU X.K) := SlR.or sl_list sl_tup
theorem un_negU : UnR X (unaryOp .USub) rNegU := un_neg
end
def tTruU (K : PySem.W.Frag) (ta : TE) : TT := fun σ H Q => ta σ H fun x H' => ∃ k, TruV K x H' k ∧ Q k H'
theorem pt_tru {X : Cx} {a : Expr} {ta : TE} (ha : PE X a ta) (he : ∀ whole, isTrue a X.env whole = (do let v ← whole; standAt a.pos; holding [v] (truthy v)) := by intro _; rfl) : PT X a (tTruU X.K ta) := pt_truth ha he

/-! ### heaps -/
def isT : HO → Bool
  | .tup _ => true
  | .frz _ (.tup _) => true
  | _ => false
/-- tuples stay -/
def KT (H H' : Hp) : Prop := ∀ a o, H a = some o → isT o = true → H' a = some o
theorem KT.refl (H : Hp) : KT H H := fun _ _ h _ => h
theorem KT.trans {H H1 H2 : Hp} (a : KT H H1) (b : KT H1 H2) : KT H H2 := fun x o h t => b x o (a x o h t) t
theorem kt_same {H H' : Hp} (s : Same H H') : KT H H' := fun a o h _ => s a o h
theorem kt_new {H : Hp} {p : Addr} {o : HO} (h : H p = none) : KT H (upd H p o) := fun a u e _ => by rw [upd_ne (ne_of_none e h)]; exact e
theorem kt_mut {H : Hp} {p : Addr} {o o' : HO} (h : H p = some o) (t : isT o = false) : KT H (upd H p o') := fun a u e k => by
  rw [upd_ne (fun z => by subst z; rw [h] at e; cases e; rw [t] at k; cases k)]; exact e
theorem ne_on {H : Hp} {a b : Addr} {o : HO} (h' : H b = none) (h : H a = some o) : a ≠ b := ne_of_none h h'
theorem at_same {H H' : Hp} {a : Addr} {o : HO} (s : Same H H') (h : H a = some o) : H' a = some o := s a o h
theorem free_on {H H' : Hp} {l : Addr} (h : H' l = none) (e : Same H H') : H l = none := e.free h
theorem same_new {H : Hp} {p : Addr} {o : HO} (h : H p = none) : Same H (upd H p o) := fun a u e => by rw [upd_ne (ne_of_none e h)]; exact e
/-- what H0 knows stays where an object that H0 does not know is changed -/
theorem same_mut {H0 H : Hp} {p : Addr} {o : HO} (s : Same H0 H) (h : H0 p = none) : Same H0 (upd H p o) := fun a u e => by rw [upd_ne (ne_of_none e h)]; exact s a u e
/-- all but what stands at b stays; a list stands at b -/
structure But (b : Addr) (H H' : Hp) : Prop where
  oth : ∀ a o, a ≠ b → H a = some o → H' a = some o
  lst : ∃ xs, H b = some (.lst xs)
theorem kt_but {b : Addr} {H H' : Hp} (s : But b H H') : KT H H' := fun a o h t => s.oth a o (fun z => by subst z; obtain ⟨xs, e⟩ := s.lst; rw [e] at h; cases h; cases t) h
theorem sqT_kt {K : PySem.W.Frag} {H H' : Hp} {a : Addr} {xs : List V} (k : KT H H') (h : SqT K H a xs) : SqT K H' a xs := by
  rcases h with (h | ⟨o, h⟩) | h
  · exact .inl (.inl (k _ _ h rfl))
  · exact .inl (.inr ⟨o, k _ _ h rfl⟩)
  · exact .inr h

/-! ### data of tuples, ints, texts, truths, None -/
mutual
inductive Dt (K : PySem.W.Frag) (H : Hp) : V → PyData → Prop
  | non : Dt K H .non .none
  | bl (b : Bool) : Dt K H (.bl b) (.bool b)
  | int (i : Int) : Dt K H (.int i) (.int i)
  | str (x : Str) : Dt K H (.str x) (.str x)
  | tup {a : Addr} {xs : List V} {ds : List PyData} : SqT K H a xs → DtAll K H xs ds → Dt K H (.ref a) (.tuple ds)
inductive DtAll (K : PySem.W.Frag) (H : Hp) : List V → List PyData → Prop
  | nil : DtAll K H [] []
  | cons {v : V} {vs : List V} {d : PyData} {ds : List PyData} : Dt K H v d → DtAll K H vs ds → DtAll K H (v :: vs) (d :: ds)
end
section
variable {K : PySem.W.Frag} {H H' : Hp}
mutual
theorem Dt.mono (k : KT H H') : ∀ {v : V} {d : PyData}, Dt K H v d → Dt K H' v d
  | _, _, .non => .non
  | _, _, .bl b => .bl b
  | _, _, .int i => .int i
  | _, _, .str x => .str x
  | _, _, .tup h a => .tup (sqT_kt k h) (DtAll.mono k a)
theorem DtAll.mono (k : KT H H') : ∀ {vs : List V} {ds : List PyData}, DtAll K H vs ds → DtAll K H' vs ds
  | _, _, .nil => .nil
  | _, _, .cons h a => .cons (Dt.mono k h) (DtAll.mono k a)
end
mutual
theorem Dt.dp : ∀ {v : V} {d : PyData}, Dt K H v d → Dp K H v d
  | _, _, .non => .non
  | _, _, .bl b => .bl b
  | _, _, .int i => .int i
  | _, _, .str x => .str x
  | _, _, .tup h a => .tup h (DtAll.dp a)
theorem DtAll.dp : ∀ {vs : List V} {ds : List PyData}, DtAll K H vs ds → DpAll K H vs ds
  | _, _, .nil => .nil
  | _, _, .cons h a => .cons (Dt.dp h) (DtAll.dp a)
end
theorem Dt.int_eq {v : V} {i : Int} (h : Dt K H v (.int i)) : v = .int i := by cases h; rfl
theorem Dt.bl_eq {v : V} {i : Bool} (h : Dt K H v (.bool i)) : v = .bl i := by cases h; rfl
theorem Dt.str_eq {v : V} {i : Str} (h : Dt K H v (.str i)) : v = .str i := by cases h; rfl
theorem Dt.tup_inv {v : V} {ds : List PyData} (h : Dt K H v (.tuple ds)) : ∃ a xs, v = .ref a ∧ SqT K H a xs ∧ DtAll K H xs ds := by
  cases h with
  | tup h a => exact ⟨_, _, rfl, h, a⟩
theorem DtAll.len {vs : List V} {ds : List PyData} (h : DtAll K H vs ds) : vs.length = ds.length := by
  induction ds generalizing vs with
  | nil => cases h; rfl
  | cons d ds ih => cases h with | cons h a => exact congrArg Nat.succ (ih a)
theorem DtAll.get {vs : List V} {ds : List PyData} (h : DtAll K H vs ds) {i : Nat} {d : PyData} (e : ds[i]? = some d) : ∃ v, vs[i]? = some v ∧ Dt K H v d := by
  induction ds generalizing vs i with
  | nil => cases e
  | cons d' ds ih =>
    cases h with
    | cons h a =>
      cases i with
      | zero => cases e; exact ⟨_, rfl, h⟩
      | succ i => obtain ⟨v, e1, e2⟩ := ih a e; exact ⟨v, e1, e2⟩
theorem DtAll.append {vs ws : List V} {ds es : List PyData} (h : DtAll K H vs ds) (h2 : DtAll K H ws es) : DtAll K H (vs ++ ws) (ds ++ es) := by
  induction ds generalizing vs with
  | nil => cases h; exact h2
  | cons d ds ih => cases h with | cons h a => exact .cons h (ih a)
theorem dt_new {p : Addr} {xs : List V} {ds : List PyData} (h : DtAll K H xs ds) (n : H p = none) : Dt K (upd H p (.tup xs)) (.ref p) (.tuple ds) :=
  .tup (.inl (.inl upd_same)) (h.mono (kt_new n))
/-- a fraction -/
def fr (r : Rat) : PyData := .tuple [.int r.num, .int r.den]
end

/-! ### readings step by step -/
theorem cxK0 {CX : CXT} {P : Program} {w : World} {K : PySem.W.Frag} {mg : Str → Option Value} {base : Heap} {N : List Str} {qual : Str} {scope : Scope} {f : Addr} {cd : Value} {A : Around} {outer : List Env} {s : Shared} {H : Hp} {E : XK} : (cxOf CX P w K mg base N qual scope f cd A outer s H E).nox.K = K := rfl
theorem cxK1 {CX : CXT} {P : Program} {w : World} {K : PySem.W.Frag} {mg : Str → Option Value} {base : Heap} {N : List Str} {qual : Str} {scope : Scope} {f : Addr} {cd : Value} {A : Around} {outer : List Env} {s : Shared} {H : Hp} {E : XK} : (cxOf CX P w K mg base N qual scope f cd A outer s H E).K = K := rfl
section
variable {K : PySem.W.Frag} {σ : St} {H : Hp} {Q : VK} {D : Ends}
theorem s_seq {t u : TS} (h : t { D with nx := u D } σ H) : tSeq t u D σ H := h
theorem s_next (h : D.nx σ H) : tNext D σ H := h
theorem s_brk (h : D.bk σ H) : tBreak D σ H := h
theorem s_cont (h : D.ct σ H) : tCont D σ H := h
theorem s_asg {te : TE} {g : TG} (h : te σ H fun x H1 => g x σ H1 D.nx) : tAsg te g D σ H := h
theorem s_gname {i : Nat} {v : V} {N : St → Hp → Prop} (h : N (σ.set i (some v)) H) : gName i v σ H N := h
theorem s_gsub {to ti : TE} {t : TSet} {v : V} {N : St → Hp → Prop} (h : to σ H fun o H1 => ti σ H1 fun i H2 => t o i v H2 fun H3 => N σ H3) : gSub to ti t v σ H N := h
theorem s_drop {te : TE} (h : te σ H fun _ H1 => D.nx σ H1) : tDrop te D σ H := h
theorem s_ret {te : TE} (h : te σ H D.rt) : tRet te D σ H := h
theorem s_retN (h : D.rt .non H) : tRetN D σ H := h
theorem s_par {i j : Nat} {ta tb : TE} (h : ta σ H fun x H1 => tb σ H1 fun y H2 => D.nx ((σ.set i (some x)).set j (some y)) H2) : tPar i j (tCons ta (tCons tb tNil)) D σ H :=
  (show ta σ H fun x H1 => tb σ H1 fun y H2 => ∃ v w, [x, y] = [v, w] ∧ D.nx ((σ.set i (some v)).set j (some w)) H2 from by
    have e : (fun x H1 => tb σ H1 fun y H2 => ∃ v w, [x, y] = [v, w] ∧ D.nx ((σ.set i (some v)).set j (some w)) H2) = (fun x H1 => tb σ H1 fun y H2 => D.nx ((σ.set i (some x)).set j (some y)) H2) := by
      funext x H1
      have e2 : (fun (y : V) (H2 : Hp) => ∃ v w, [x, y] = [v, w] ∧ D.nx ((σ.set i (some v)).set j (some w)) H2) = (fun y H2 => D.nx ((σ.set i (some x)).set j (some y)) H2) := by
        funext y H2
        refine propext ⟨fun ⟨v, w, e, n⟩ => ?_, fun n => ⟨x, y, rfl, n⟩⟩
        cases e
        exact n
      rw [e2]
    rw [e]
    exact h)
theorem s_if {c : TT} {t u : TS} (h : c σ H fun b H1 => if b = true then t D σ H1 else u D σ H1) : tIfS c t u D σ H := h
theorem s_ifE {c : TT} {ta tb : TE} (h : c σ H fun b H1 => if b = true then ta σ H1 Q else tb σ H1 Q) : tIf c ta tb σ H Q := h
theorem s_itT {A B : Prop} (h : A) : if true = true then A else B := iteT h
theorem s_itF {A B : Prop} (h : B) : if false = true then A else B := iteF h
theorem s_itNT {A B : Prop} (h : B) : if (!true) = true then A else B := iteF h
theorem s_itNF {A B : Prop} (h : A) : if (!false) = true then A else B := iteT h
theorem s_iteD {c A B : Prop} {inst : Decidable c} (h1 : c → A) (h2 : ¬ c → B) : if (@decide c inst) = true then A else B := by
  by_cases h : c
  · rw [decide_eq_true h]; exact iteT (h1 h)
  · rw [decide_eq_false h]; exact iteF (h2 h)
theorem s_iteN {c A B : Prop} {inst : Decidable c} (h1 : ¬ c → A) (h2 : c → B) : if (!@decide c inst) = true then A else B := by
  by_cases h : c
  · rw [decide_eq_true h]; exact iteF (h2 h)
  · rw [decide_eq_false h]; exact iteT (h1 h)
theorem s_iteB {b : Bool} {A B : Prop} (h1 : b = true → A) (h2 : b = false → B) : if b = true then A else B := by
  cases b with
  | true => exact iteT (h1 rfl)
  | false => exact iteF (h2 rfl)
theorem s_var {i : Nat} {v : V} (e : σ[i]? = some (some v)) (h : Q v H) : tVar i σ H Q := ⟨v, e, h⟩
theorem s_v0 {v : V} {σ : St} (h : Q v H) : tVar 0 (some v :: σ) H Q := ⟨v, rfl, h⟩
theorem s_g0 {y : Option V} {v : V} {σ : St} {N : St → Hp → Prop} (h : N (some v :: σ) H) : gName 0 v (y :: σ) H N := h
theorem s_v1 {x0 : Option V} {v : V} {σ : St} (h : Q v H) : tVar 1 (x0 :: some v :: σ) H Q := ⟨v, rfl, h⟩
theorem s_g1 {x0 : Option V} {y : Option V} {v : V} {σ : St} {N : St → Hp → Prop} (h : N (x0 :: some v :: σ) H) : gName 1 v (x0 :: y :: σ) H N := h
theorem s_v2 {x0 x1 : Option V} {v : V} {σ : St} (h : Q v H) : tVar 2 (x0 :: x1 :: some v :: σ) H Q := ⟨v, rfl, h⟩
theorem s_g2 {x0 x1 : Option V} {y : Option V} {v : V} {σ : St} {N : St → Hp → Prop} (h : N (x0 :: x1 :: some v :: σ) H) : gName 2 v (x0 :: x1 :: y :: σ) H N := h
theorem s_v3 {x0 x1 x2 : Option V} {v : V} {σ : St} (h : Q v H) : tVar 3 (x0 :: x1 :: x2 :: some v :: σ) H Q := ⟨v, rfl, h⟩
theorem s_g3 {x0 x1 x2 : Option V} {y : Option V} {v : V} {σ : St} {N : St → Hp → Prop} (h : N (x0 :: x1 :: x2 :: some v :: σ) H) : gName 3 v (x0 :: x1 :: x2 :: y :: σ) H N := h
theorem s_v4 {x0 x1 x2 x3 : Option V} {v : V} {σ : St} (h : Q v H) : tVar 4 (x0 :: x1 :: x2 :: x3 :: some v :: σ) H Q := ⟨v, rfl, h⟩
theorem s_g4 {x0 x1 x2 x3 : Option V} {y : Option V} {v : V} {σ : St} {N : St → Hp → Prop} (h : N (x0 :: x1 :: x2 :: x3 :: some v :: σ) H) : gName 4 v (x0 :: x1 :: x2 :: x3 :: y :: σ) H N := h
theorem s_v5 {x0 x1 x2 x3 x4 : Option V} {v : V} {σ : St} (h : Q v H) : tVar 5 (x0 :: x1 :: x2 :: x3 :: x4 :: some v :: σ) H Q := ⟨v, rfl, h⟩
theorem s_g5 {x0 x1 x2 x3 x4 : Option V} {y : Option V} {v : V} {σ : St} {N : St → Hp → Prop} (h : N (x0 :: x1 :: x2 :: x3 :: x4 :: some v :: σ) H) : gName 5 v (x0 :: x1 :: x2 :: x3 :: x4 :: y :: σ) H N := h
theorem s_v6 {x0 x1 x2 x3 x4 x5 : Option V} {v : V} {σ : St} (h : Q v H) : tVar 6 (x0 :: x1 :: x2 :: x3 :: x4 :: x5 :: some v :: σ) H Q := ⟨v, rfl, h⟩
theorem s_g6 {x0 x1 x2 x3 x4 x5 : Option V} {y : Option V} {v : V} {σ : St} {N : St → Hp → Prop} (h : N (x0 :: x1 :: x2 :: x3 :: x4 :: x5 :: some v :: σ) H) : gName 6 v (x0 :: x1 :: x2 :: x3 :: x4 :: x5 :: y :: σ) H N := h
theorem s_v7 {x0 x1 x2 x3 x4 x5 x6 : Option V} {v : V} {σ : St} (h : Q v H) : tVar 7 (x0 :: x1 :: x2 :: x3 :: x4 :: x5 :: x6 :: some v :: σ) H Q := ⟨v, rfl, h⟩
theorem s_g7 {x0 x1 x2 x3 x4 x5 x6 : Option V} {y : Option V} {v : V} {σ : St} {N : St → Hp → Prop} (h : N (x0 :: x1 :: x2 :: x3 :: x4 :: x5 :: x6 :: some v :: σ) H) : gName 7 v (x0 :: x1 :: x2 :: x3 :: x4 :: x5 :: x6 :: y :: σ) H N := h
theorem s_v8 {x0 x1 x2 x3 x4 x5 x6 x7 : Option V} {v : V} {σ : St} (h : Q v H) : tVar 8 (x0 :: x1 :: x2 :: x3 :: x4 :: x5 :: x6 :: x7 :: some v :: σ) H Q := ⟨v, rfl, h⟩
theorem s_g8 {x0 x1 x2 x3 x4 x5 x6 x7 : Option V} {y : Option V} {v : V} {σ : St} {N : St → Hp → Prop} (h : N (x0 :: x1 :: x2 :: x3 :: x4 :: x5 :: x6 :: x7 :: some v :: σ) H) : gName 8 v (x0 :: x1 :: x2 :: x3 :: x4 :: x5 :: x6 :: x7 :: y :: σ) H N := h
theorem s_v9 {x0 x1 x2 x3 x4 x5 x6 x7 x8 : Option V} {v : V} {σ : St} (h : Q v H) : tVar 9 (x0 :: x1 :: x2 :: x3 :: x4 :: x5 :: x6 :: x7 :: x8 :: some v :: σ) H Q := ⟨v, rfl, h⟩
theorem s_g9 {x0 x1 x2 x3 x4 x5 x6 x7 x8 : Option V} {y : Option V} {v : V} {σ : St} {N : St → Hp → Prop} (h : N (x0 :: x1 :: x2 :: x3 :: x4 :: x5 :: x6 :: x7 :: x8 :: some v :: σ) H) : gName 9 v (x0 :: x1 :: x2 :: x3 :: x4 :: x5 :: x6 :: x7 :: x8 :: y :: σ) H N := h
theorem s_v10 {x0 x1 x2 x3 x4 x5 x6 x7 x8 x9 : Option V} {v : V} {σ : St} (h : Q v H) : tVar 10 (x0 :: x1 :: x2 :: x3 :: x4 :: x5 :: x6 :: x7 :: x8 :: x9 :: some v :: σ) H Q := ⟨v, rfl, h⟩
theorem s_g10 {x0 x1 x2 x3 x4 x5 x6 x7 x8 x9 : Option V} {y : Option V} {v : V} {σ : St} {N : St → Hp → Prop} (h : N (x0 :: x1 :: x2 :: x3 :: x4 :: x5 :: x6 :: x7 :: x8 :: x9 :: some v :: σ) H) : gName 10 v (x0 :: x1 :: x2 :: x3 :: x4 :: x5 :: x6 :: x7 :: x8 :: x9 :: y :: σ) H N := h
theorem s_v11 {x0 x1 x2 x3 x4 x5 x6 x7 x8 x9 x10 : Option V} {v : V} {σ : St} (h : Q v H) : tVar 11 (x0 :: x1 :: x2 :: x3 :: x4 :: x5 :: x6 :: x7 :: x8 :: x9 :: x10 :: some v :: σ) H Q := ⟨v, rfl, h⟩
theorem s_g11 {x0 x1 x2 x3 x4 x5 x6 x7 x8 x9 x10 : Option V} {y : Option V} {v : V} {σ : St} {N : St → Hp → Prop} (h : N (x0 :: x1 :: x2 :: x3 :: x4 :: x5 :: x6 :: x7 :: x8 :: x9 :: x10 :: some v :: σ) H) : gName 11 v (x0 :: x1 :: x2 :: x3 :: x4 :: x5 :: x6 :: x7 :: x8 :: x9 :: x10 :: y :: σ) H N := h
theorem s_v12 {x0 x1 x2 x3 x4 x5 x6 x7 x8 x9 x10 x11 : Option V} {v : V} {σ : St} (h : Q v H) : tVar 12 (x0 :: x1 :: x2 :: x3 :: x4 :: x5 :: x6 :: x7 :: x8 :: x9 :: x10 :: x11 :: some v :: σ) H Q := ⟨v, rfl, h⟩
theorem s_g12 {x0 x1 x2 x3 x4 x5 x6 x7 x8 x9 x10 x11 : Option V} {y : Option V} {v : V} {σ : St} {N : St → Hp → Prop} (h : N (x0 :: x1 :: x2 :: x3 :: x4 :: x5 :: x6 :: x7 :: x8 :: x9 :: x10 :: x11 :: some v :: σ) H) : gName 12 v (x0 :: x1 :: x2 :: x3 :: x4 :: x5 :: x6 :: x7 :: x8 :: x9 :: x10 :: x11 :: y :: σ) H N := h
theorem s_v13 {x0 x1 x2 x3 x4 x5 x6 x7 x8 x9 x10 x11 x12 : Option V} {v : V} {σ : St} (h : Q v H) : tVar 13 (x0 :: x1 :: x2 :: x3 :: x4 :: x5 :: x6 :: x7 :: x8 :: x9 :: x10 :: x11 :: x12 :: some v :: σ) H Q := ⟨v, rfl, h⟩
theorem s_g13 {x0 x1 x2 x3 x4 x5 x6 x7 x8 x9 x10 x11 x12 : Option V} {y : Option V} {v : V} {σ : St} {N : St → Hp → Prop} (h : N (x0 :: x1 :: x2 :: x3 :: x4 :: x5 :: x6 :: x7 :: x8 :: x9 :: x10 :: x11 :: x12 :: some v :: σ) H) : gName 13 v (x0 :: x1 :: x2 :: x3 :: x4 :: x5 :: x6 :: x7 :: x8 :: x9 :: x10 :: x11 :: x12 :: y :: σ) H N := h
theorem s_v14 {x0 x1 x2 x3 x4 x5 x6 x7 x8 x9 x10 x11 x12 x13 : Option V} {v : V} {σ : St} (h : Q v H) : tVar 14 (x0 :: x1 :: x2 :: x3 :: x4 :: x5 :: x6 :: x7 :: x8 :: x9 :: x10 :: x11 :: x12 :: x13 :: some v :: σ) H Q := ⟨v, rfl, h⟩
theorem s_g14 {x0 x1 x2 x3 x4 x5 x6 x7 x8 x9 x10 x11 x12 x13 : Option V} {y : Option V} {v : V} {σ : St} {N : St → Hp → Prop} (h : N (x0 :: x1 :: x2 :: x3 :: x4 :: x5 :: x6 :: x7 :: x8 :: x9 :: x10 :: x11 :: x12 :: x13 :: some v :: σ) H) : gName 14 v (x0 :: x1 :: x2 :: x3 :: x4 :: x5 :: x6 :: x7 :: x8 :: x9 :: x10 :: x11 :: x12 :: x13 :: y :: σ) H N := h
theorem s_v15 {x0 x1 x2 x3 x4 x5 x6 x7 x8 x9 x10 x11 x12 x13 x14 : Option V} {v : V} {σ : St} (h : Q v H) : tVar 15 (x0 :: x1 :: x2 :: x3 :: x4 :: x5 :: x6 :: x7 :: x8 :: x9 :: x10 :: x11 :: x12 :: x13 :: x14 :: some v :: σ) H Q := ⟨v, rfl, h⟩
theorem s_g15 {x0 x1 x2 x3 x4 x5 x6 x7 x8 x9 x10 x11 x12 x13 x14 : Option V} {y : Option V} {v : V} {σ : St} {N : St → Hp → Prop} (h : N (x0 :: x1 :: x2 :: x3 :: x4 :: x5 :: x6 :: x7 :: x8 :: x9 :: x10 :: x11 :: x12 :: x13 :: x14 :: some v :: σ) H) : gName 15 v (x0 :: x1 :: x2 :: x3 :: x4 :: x5 :: x6 :: x7 :: x8 :: x9 :: x10 :: x11 :: x12 :: x13 :: x14 :: y :: σ) H N := h
theorem s_v16 {x0 x1 x2 x3 x4 x5 x6 x7 x8 x9 x10 x11 x12 x13 x14 x15 : Option V} {v : V} {σ : St} (h : Q v H) : tVar 16 (x0 :: x1 :: x2 :: x3 :: x4 :: x5 :: x6 :: x7 :: x8 :: x9 :: x10 :: x11 :: x12 :: x13 :: x14 :: x15 :: some v :: σ) H Q := ⟨v, rfl, h⟩
theorem s_g16 {x0 x1 x2 x3 x4 x5 x6 x7 x8 x9 x10 x11 x12 x13 x14 x15 : Option V} {y : Option V} {v : V} {σ : St} {N : St → Hp → Prop} (h : N (x0 :: x1 :: x2 :: x3 :: x4 :: x5 :: x6 :: x7 :: x8 :: x9 :: x10 :: x11 :: x12 :: x13 :: x14 :: x15 :: some v :: σ) H) : gName 16 v (x0 :: x1 :: x2 :: x3 :: x4 :: x5 :: x6 :: x7 :: x8 :: x9 :: x10 :: x11 :: x12 :: x13 :: x14 :: x15 :: y :: σ) H N := h
theorem s_v17 {x0 x1 x2 x3 x4 x5 x6 x7 x8 x9 x10 x11 x12 x13 x14 x15 x16 : Option V} {v : V} {σ : St} (h : Q v H) : tVar 17 (x0 :: x1 :: x2 :: x3 :: x4 :: x5 :: x6 :: x7 :: x8 :: x9 :: x10 :: x11 :: x12 :: x13 :: x14 :: x15 :: x16 :: some v :: σ) H Q := ⟨v, rfl, h⟩
theorem s_g17 {x0 x1 x2 x3 x4 x5 x6 x7 x8 x9 x10 x11 x12 x13 x14 x15 x16 : Option V} {y : Option V} {v : V} {σ : St} {N : St → Hp → Prop} (h : N (x0 :: x1 :: x2 :: x3 :: x4 :: x5 :: x6 :: x7 :: x8 :: x9 :: x10 :: x11 :: x12 :: x13 :: x14 :: x15 :: x16 :: some v :: σ) H) : gName 17 v (x0 :: x1 :: x2 :: x3 :: x4 :: x5 :: x6 :: x7 :: x8 :: x9 :: x10 :: x11 :: x12 :: x13 :: x14 :: x15 :: x16 :: y :: σ) H N := h
theorem s_c {v : V} (h : Q v H) : tC v σ H Q := h
theorem s_op {r : R2} {ta tb : TE} (h : ta σ H fun x H1 => tb σ H1 fun y H2 => r x y H2 Q) : tOp r ta tb σ H Q := h
theorem s_un {r : V → Hp → VK → Prop} {ta : TE} (h : ta σ H fun x H1 => r x H1 Q) : tUn r ta σ H Q := h
def NewT (xs : List V) (H : Hp) (Q : VK) : Prop := xs.length ≤ sizeLine ∧ ∀ p, H p = none → Q (.ref p) (upd H p (.tup xs))
def NewL (xs : List V) (H : Hp) (Q : VK) : Prop := xs.length ≤ sizeLine ∧ ∀ p, H p = none → Q (.ref p) (upd H p (.lst xs))
theorem s_tup {ta : TA} (h : ta σ H fun xs H1 => NewT xs H1 Q) : tTup ta σ H Q := h
theorem s_lst {ta : TA} (h : ta σ H fun xs H1 => NewL xs H1 Q) : tLst ta σ H Q := h
theorem s_newT {xs : List V} (z : xs.length ≤ sizeLine) (h : ∀ p, H p = none → Q (.ref p) (upd H p (.tup xs))) : NewT xs H Q := ⟨z, h⟩
theorem s_newL {xs : List V} (z : xs.length ≤ sizeLine) (h : ∀ p, H p = none → Q (.ref p) (upd H p (.lst xs))) : NewL xs H Q := ⟨z, h⟩
theorem size_le {xs : List V} (h : xs.length ≤ 1000) : xs.length ≤ sizeLine := Nat.le_of_lt (L2.small1000 h)
theorem size_le2 {n : Nat} (h : n ≤ 1000) : n ≤ sizeLine := Nat.le_of_lt (L2.small1000 h)
-- for
def ForR (J : It) (g : TG) (tb : TS) (D : Ends) (σ : St) (H1 : Hp) : Prop := ∃ W : Nat → Nat → St → Hp → Prop, (∃ m, W 0 m σ H1) ∧ ∀ i m σ H, W i m σ H →
  (J.stop i H ∧ D.nx σ H) ∨ (J.go i H ∧ ∃ N : St → Hp → Prop, (∀ σ' H', N σ' H' → ∃ m', m' < m ∧ W (i + 1) m' σ' H') ∧ ∀ x H', J.yld i H x H' → g x σ H' fun σ2 H2 => tb { D with nx := N, ct := N, bk := D.nx } σ2 H2)
theorem s_for {wi : TI} {g : TG} {tb : TS} (h : wi σ H fun J H1 => ForR J g tb D σ H1) : tFor wi g tb D σ H := h
theorem s_iList {tl : TE} {R : It → Hp → Prop} (h : tl σ H fun x H1 => ∃ a, x = .ref a ∧ (∃ xs, SqL K H1 a xs) ∧ R (Itl K a) H1) : iList K tl σ H R := h
theorem s_iTup {tl : TE} {R : It → Hp → Prop} (h : tl σ H fun x H1 => ∃ a, x = .ref a ∧ (∃ xs, SqT K H1 a xs) ∧ R (Itt K a) H1) : iTup K tl σ H R := h
theorem s_isL {p : Addr} {xs : List V} {N : Addr → Prop} (hs : SqL K H p xs) (h : N p) : ∃ a, V.ref p = V.ref a ∧ (∃ xs, SqL K H a xs) ∧ N a := ⟨p, rfl, ⟨xs, hs⟩, h⟩
theorem s_rng1 {ta : TA} {R : It → Hp → Prop} (h : ta σ H fun vs H1 => ∃ j : Int, vs = [.int j] ∧ -(2 ^ 62) ≤ j ∧ j < 2 ^ 62 ∧ R (Itr 0 j.toNat) H1) : iRng1 ta σ H R := h
theorem s_isR1 {i : Int} {N : Int → Prop} (l1 : -(2 ^ 62) ≤ i) (l2 : i < 2 ^ 62) (h : N i) : ∃ j : Int, [V.int i] = [V.int j] ∧ -(2 ^ 62) ≤ j ∧ j < 2 ^ 62 ∧ N j := ⟨i, rfl, l1, l2, h⟩
theorem f_list {a : Addr} {xs : List V} {g : TG} {tb : TS} (Pv : Nat → St → Hp → Prop) (h0 : Pv 0 σ H) (hl : ∀ i σ H, i ≤ xs.length → Pv i σ H → SqL K H a xs)
    (hs : ∀ i x σ H, xs[i]? = some x → Pv i σ H → g x σ H fun σ2 H2 => tb { D with nx := Pv (i + 1), ct := Pv (i + 1), bk := D.nx } σ2 H2) (hd : ∀ σ H, Pv xs.length σ H → D.nx σ H) : ForR (Itl K a) g tb D σ H := for_list Pv h0 hl hs hd
theorem f_range {lo : Int} {n : Nat} {g : TG} {tb : TS} (Pv : Nat → St → Hp → Prop) (h0 : Pv 0 σ H)
    (hs : ∀ i σ H, i < n → Pv i σ H → g (.int (lo + i)) σ H fun σ2 H2 => tb { D with nx := Pv (i + 1), ct := Pv (i + 1), bk := D.nx } σ2 H2) (hd : ∀ σ H, Pv n σ H → D.nx σ H) : ForR (Itr lo n) g tb D σ H := for_range Pv h0 hs hd
/-- a walk over a list that changes no heap; the slots i, j are the body's -/
theorem f_all2 {a : Addr} {xs : List V} {g : TG} {tb : TS} (Φ : Hp → V → Prop) (i j : Nat) (hs : SqL K H a xs) (hx : ∀ x, x ∈ xs → Φ H x) (hi : ∃ y z, (σ.set i y).set j z = σ)
    (turn : ∀ x y z, Φ H x → g x ((σ.set i y).set j z) H fun σ2 H2 => tb { D with nx := fun σ' H' => (∃ y z, σ' = (σ.set i y).set j z) ∧ H' = H, ct := fun σ' H' => (∃ y z, σ' = (σ.set i y).set j z) ∧ H' = H, bk := D.nx } σ2 H2)
    (fin : ∀ y z, D.nx ((σ.set i y).set j z) H) : ForR (Itl K a) g tb D σ H := by
  refine f_list (xs := xs) (fun _ σ' H' => (∃ y z, σ' = (σ.set i y).set j z) ∧ H' = H) ⟨?_, rfl⟩ ?_ ?_ ?_
  · obtain ⟨y, z, e⟩ := hi
    exact ⟨y, z, e.symm⟩
  · rintro _ _ _ _ ⟨_, rfl⟩
    exact hs
  · rintro n x σ' H' e ⟨⟨y, z, rfl⟩, rfl⟩
    exact turn x y z (hx x (List.mem_of_getElem? e))
  · rintro σ' H' ⟨⟨y, z, rfl⟩, rfl⟩
    exact fin y z
/-- the slots js hold what f tells -/
def sets (σ : St) (js : List Nat) (f : Nat → Option V) : St := js.foldl (fun s j => s.set j (f j)) σ
def Upd (js : List Nat) (σ σ' : St) : Prop := ∃ f, σ' = sets σ js f
theorem i_of {σ' : St} {js : List Nat} (h : σ' = sets σ js (fun j => (σ'[j]?).join)) : Upd js σ σ' := ⟨_, h⟩
/-- a walk over a list: the slots js are the body's, R holds of the heap -/
theorem f_each {a : Addr} {xs : List V} {g : TG} {tb : TS} (js : List Nat) (R : Nat → Hp → Prop) (r0 : R 0 H) (h0 : σ = sets σ js (fun j => (σ[j]?).join)) (hs : ∀ n H', R n H' → SqL K H' a xs)
    (turn : ∀ n x f H1, xs[n]? = some x → R n H1 → g x (sets σ js f) H1 fun σ2 H2 => tb { D with nx := fun σ' H' => Upd js σ σ' ∧ R (n + 1) H', ct := fun σ' H' => Upd js σ σ' ∧ R (n + 1) H', bk := D.nx } σ2 H2)
    (fin : ∀ f H1, R xs.length H1 → D.nx (sets σ js f) H1) : ForR (Itl K a) g tb D σ H := by
  refine f_list (xs := xs) (fun n σ' H' => Upd js σ σ' ∧ R n H') ⟨i_of h0, r0⟩ ?_ ?_ ?_
  · rintro n _ H' _ ⟨_, r⟩
    exact hs n H' r
  · rintro n x σ' H' e ⟨⟨f, rfl⟩, r⟩
    exact turn n x f H' e r
  · rintro σ' H' ⟨⟨f, rfl⟩, r⟩
    exact fin f H' r
/-- the same where the turn lays new things alone -/
theorem f_eachS {a : Addr} {xs : List V} {g : TG} {tb : TS} (Φ : Hp → V → Prop) (js : List Nat) (hs : SqL K H a xs) (h0 : σ = sets σ js (fun j => (σ[j]?).join)) (hx : ∀ x, x ∈ xs → Φ H x)
    (turn : ∀ x f H1, Same H H1 → Φ H x → g x (sets σ js f) H1 fun σ2 H2 => tb { D with nx := fun σ' H' => Upd js σ σ' ∧ Same H H', ct := fun σ' H' => Upd js σ σ' ∧ Same H H', bk := D.nx } σ2 H2)
    (fin : ∀ f H1, Same H H1 → D.nx (sets σ js f) H1) : ForR (Itl K a) g tb D σ H :=
  f_each (xs := xs) js (fun _ H' => Same H H') (Same.refl H) h0 (fun _ _ r => r.seq hs) (fun _ x f H1 e r => turn x f H1 r (hx x (List.mem_of_getElem? e))) fin
theorem r_each {lo : Int} {m : Nat} {g : TG} {tb : TS} (js : List Nat) (R : Nat → Hp → Prop) (r0 : R 0 H) (h0 : σ = sets σ js (fun j => (σ[j]?).join))
    (turn : ∀ n f H1, n < m → R n H1 → g (.int (lo + n)) (sets σ js f) H1 fun σ2 H2 => tb { D with nx := fun σ' H' => Upd js σ σ' ∧ R (n + 1) H', ct := fun σ' H' => Upd js σ σ' ∧ R (n + 1) H', bk := D.nx } σ2 H2)
    (fin : ∀ f H1, R m H1 → D.nx (sets σ js f) H1) : ForR (Itr lo m) g tb D σ H := by
  refine f_range (fun n σ' H' => Upd js σ σ' ∧ R n H') ⟨i_of h0, r0⟩ ?_ ?_
  · rintro n σ' H' e ⟨⟨f, rfl⟩, r⟩
    exact turn n f H' e r
  · rintro σ' H' ⟨⟨f, rfl⟩, r⟩
    exact fin f H' r
theorem s_ixR0 {a : Addr} {v0 : V} {vs : List V} (hs : H a = some (.tup (v0 :: vs))) (h : Q v0 H) : rIx K (.ref a) (.int 0) H Q := .inr (.inl ⟨a, _, 0, _, rfl, rfl, SqT.of hs, atI_nat (j := 0) rfl, h⟩)
theorem s_ixR1 {a : Addr} {v0 v1 : V} {vs : List V} (hs : H a = some (.tup (v0 :: v1 :: vs))) (h : Q v1 H) : rIx K (.ref a) (.int 1) H Q := .inr (.inl ⟨a, _, 1, _, rfl, rfl, SqT.of hs, atI_nat (j := 1) rfl, h⟩)
theorem s_ixR2 {a : Addr} {v0 v1 v2 : V} {vs : List V} (hs : H a = some (.tup (v0 :: v1 :: v2 :: vs))) (h : Q v2 H) : rIx K (.ref a) (.int 2) H Q := .inr (.inl ⟨a, _, 2, _, rfl, rfl, SqT.of hs, atI_nat (j := 2) rfl, h⟩)
theorem s_ixR3 {a : Addr} {v0 v1 v2 v3 : V} {vs : List V} (hs : H a = some (.tup (v0 :: v1 :: v2 :: v3 :: vs))) (h : Q v3 H) : rIx K (.ref a) (.int 3) H Q := .inr (.inl ⟨a, _, 3, _, rfl, rfl, SqT.of hs, atI_nat (j := 3) rfl, h⟩)
theorem s_addT {x y : V} {ds es : List PyData} (hx : Dt K H x (.tuple ds)) (hy : Dt K H y (.tuple es)) (n1 : ds ≠ []) (n2 : es ≠ []) (l : ds.length + es.length ≤ 1000) (h : ∀ v H', Same H H' → Dt K H' v (.tuple (ds ++ es)) → Q v H') : rAddU K x y H Q := by
  obtain ⟨a, xs, rfl, hs, ha⟩ := hx.tup_inv
  obtain ⟨b, ys, rfl, ht, hb⟩ := hy.tup_inv
  have e1 := ha.len
  have e2 := hb.len
  refine .inr (.inr (.inr ⟨a, b, xs, ys, rfl, rfl, hs, ht, fun z => n1 ?_, Nat.le_of_lt (L2.small1000 (by omega)), fun z => absurd ?_ n2, fun _ p hp => h _ _ (same_new hp) (dt_new (ha.append hb) hp)⟩))
  · subst z; exact List.length_eq_zero_iff.mp e1.symm
  · subst z; exact List.length_eq_zero_iff.mp e2.symm
theorem s_addT1 {x y : V} {d : PyData} {es : List PyData} (hx : Dt K H x (.tuple [d])) (hy : Dt K H y (.tuple es)) (n2 : es ≠ []) (l : 1 + es.length ≤ 1000) (h : ∀ v H', Same H H' → Dt K H' v (.tuple (d :: es)) → Q v H') : rAddU K x y H Q := s_addT hx hy (List.cons_ne_nil _ _) n2 l h
/-- a list of data -/
theorem s_addL {a b : Addr} {xs ys : List V} (hx : H a = some (.lst xs)) (hy : H b = some (.lst ys)) (z : xs.length + ys.length ≤ sizeLine) (h : ∀ p, H p = none → Q (.ref p) (upd H p (.lst (xs ++ ys)))) : rAddU K (.ref a) (.ref b) H Q :=
  .inr (.inr (.inl ⟨a, b, xs, ys, rfl, rfl, hx, hy, z, h⟩))
def RevQ (K : PySem.W.Frag) (x : V) (H : Hp) (Q : VK) : Prop := ∃ p xs, x = .ref p ∧ SqL K H p xs ∧ ∀ l, H l = none → Q (.ref l) (upd H l (.lst xs.reverse))
theorem s_revL {te : TE} (h : te σ H fun x H1 => RevQ K x H1 Q) : tRevL K te σ H Q := h
theorem s_isRev {p : Addr} {xs : List V} (hs : SqL K H p xs) (h : ∀ l, H l = none → Q (.ref l) (upd H l (.lst xs.reverse))) : RevQ K (.ref p) H Q := ⟨p, xs, rfl, hs, h⟩
/-- two lists of the same fractions -/
def lay : PyData → Bool := fun d => d.canLay0 && decide (d.depth ≤ 64)
theorem frs_lay : ∀ rs : List Rat, PyData.canLayAll0 (rs.map fr) = true
  | [] => by simp [PyData.canLayAll0]
  | r :: rs => by rw [List.map_cons, PyData.canLayAll0, frs_lay rs]; rfl
theorem frs_depth : ∀ rs : List Rat, PyData.depthAll (rs.map fr) ≤ 2
  | [] => by simp [PyData.depthAll]
  | r :: rs => by
    have h := frs_depth rs
    have h1 : (fr r).depth ≤ 2 := by show PyData.depth (.tuple [.int r.num, .int r.den]) ≤ 2; simp [PyData.depth, PyData.depthAll]
    simp only [List.map_cons, PyData.depthAll]
    omega
theorem sh_frs (rs : List Rat) : SeqAt.shaped (.list (rs.map fr)) = true := by
  have h1 := frs_lay rs
  have h2 := frs_depth rs
  unfold SeqAt.shaped
  rw [Bool.and_eq_true]
  refine ⟨by rw [PyData.canLay0]; exact h1, decide_eq_true (by simp only [PyData.depth]; omega)⟩
theorem s_eqLF {a b : Addr} {vs ws : List V} {rs : List Rat} (ha : SqL K H a vs) (hb : SqL K H b ws) (da : DtAll K H vs (rs.map fr)) (db : DtAll K H ws (rs.map fr)) (h : Q (.bl true) H) : rEqD K (.ref a) (.ref b) H Q :=
  ⟨_, _, .lst ha da.dp, .lst hb db.dp, sh_frs rs, sh_frs rs, by rw [SeqAt.eqv_refl _ (SeqAt.canLay_of_shaped (sh_frs rs))]; exact h⟩
theorem DtAll.rev {vs : List V} {ds : List PyData} (h : DtAll K H vs ds) : DtAll K H vs.reverse ds.reverse := by
  induction ds generalizing vs with
  | nil => cases h; exact .nil
  | cons d ds ih => cases h with | cons h a => rw [List.reverse_cons, List.reverse_cons]; exact (ih a).append (.cons h .nil)
-- slices
theorem s_sl {r : V → Option Int → Option Int → Hp → VK → Prop} {te : TE} {tl th : TO} (h : te σ H fun x H1 => tl σ H1 fun l H2 => th σ H2 fun u H3 => r x l u H3 Q) : tSl r te tl th σ H Q := h
theorem s_noPart {N : Option Int → Hp → Prop} (h : N none H) : tNoPart σ H N := h
theorem s_part {t : TE} {N : Option Int → Hp → Prop} (h : t σ H fun x H1 => ∃ i, x = .int i ∧ N (some i) H1) : tPart t σ H N := h
theorem s_isI {i : Int} {N : Int → Prop} (h : N i) : ∃ j, V.int i = V.int j ∧ N j := ⟨i, rfl, h⟩
theorem s_slL {a : Addr} {xs : List V} {lo hi : Option Int} (hs : SqL K H a xs) (h : ∀ p, H p = none → Q (.ref p) (upd H p (.lst (cutV xs lo hi)))) : rSlU K (.ref a) lo hi H Q := .inl ⟨a, xs, rfl, hs, h⟩
theorem cut_ints (ns : List Int) (lo hi : Option Int) : ∃ ms : List Int, cutV (ns.map V.int) lo hi = ms.map V.int :=
  ⟨(ns.drop (HT.sIx (ns.map V.int).length 0 lo)).take (HT.sIx (ns.map V.int).length (ns.map V.int).length hi - HT.sIx (ns.map V.int).length 0 lo), by unfold cutV; rw [List.map_take, List.map_drop]⟩
theorem s_listL {a : Addr} {xs : List V} (hs : SqL K H a xs) (h : ∀ p, H p = none → Q (.ref p) (upd H p (.lst xs))) : rListU K [.ref a] H Q := ⟨a, xs, rfl, .inl hs, h⟩
/-- some item of a list -/
theorem s_menu {a : Addr} {xs : List V} {i : Int} (hs : SqL K H a xs) (h0 : 0 ≤ i) (h1 : i < xs.length) (h : ∀ v, v ∈ xs → Q v H) : rIx K (.ref a) (.int i) H Q := by
  obtain ⟨j, rfl⟩ : ∃ j : Nat, i = (j : Int) := ⟨i.toNat, by omega⟩
  have hj : j < xs.length := by omega
  exact .inl ⟨a, xs, _, xs[j], rfl, rfl, hs, atI_nat (List.getElem?_eq_getElem hj), h _ (List.getElem_mem hj)⟩
theorem s_menuP {a : Addr} {xs : List V} {i : Int} (Φ : Hp → V → Prop) (hs : SqL K H a xs) (h0 : 0 ≤ i) (h1 : i < xs.length) (hx : ∀ v, v ∈ xs → Φ H v) (h : ∀ v, Φ H v → Q v H) : rIx K (.ref a) (.int i) H Q :=
  s_menu hs h0 h1 fun v hv => h v (hx v hv)
theorem s_menuI {a : Addr} {xs : List V} {i : Int} (lo hi : Int) (hs : SqL K H a xs) (h0 : 0 ≤ i) (h1 : i < xs.length) (hx : ∀ v, v ∈ xs → ∃ z, v = .int z ∧ lo ≤ z ∧ z ≤ hi) (h : ∀ z, lo ≤ z → z ≤ hi → Q (.int z) H) : rIx K (.ref a) (.int i) H Q :=
  s_menu hs h0 h1 fun v hv => by
    obtain ⟨z, rfl, a, b⟩ := hx v hv
    exact h z a b
theorem s_app {to : TE} {t : TA} {r : V → List V → Hp → VK → Prop} {T : String} (h : to σ H fun x H1 => tyV K T x H1 ∧ t σ H1 fun xs H2 => r x xs H2 Q) : tBM K T r to t σ H Q := h
theorem s_tyL {a : Addr} {xs : List V} {N : Prop} (hs : SqL K H a xs) (h : N) : tyV K "list" (.ref a) H ∧ N := ⟨.inl ⟨rfl, xs, hs⟩, h⟩
theorem s_append {a : Addr} {xs : List V} {y : V} (hs : H a = some (.lst xs)) (z : xs.length < sizeLine) (h : Q .non (upd H a (.lst (xs ++ [y])))) : rAppend (.ref a) [y] H Q := ⟨a, xs, y, rfl, rfl, hs, z, h⟩
theorem s_nil {N : List V → Hp → Prop} (h : N [] H) : tNil σ H N := h
theorem s_cons {ta : TE} {tr : TA} {N : List V → Hp → Prop} (h : ta σ H fun x H1 => tr σ H1 fun xs H2 => N (x :: xs) H2) : tCons ta tr σ H N := h
theorem s_cb {r : List V → Hp → VK → Prop} {t : TA} (h : t σ H fun vs H1 => r vs H1 Q) : tCB r t σ H Q := h
theorem s_call {sp : Sp} {dvs : List V} {E : XK} {t : TA} (h : t σ H fun vs H1 => sp (vs ++ dvs) H1 Q E) : tCall sp dvs E t σ H Q := h
theorem s_test {t : TE} {N : Bool → Hp → Prop} (h : t σ H fun x H' => ∃ k, x = .bl k ∧ N k H') : tTest t σ H N := h
theorem s_B {t : TE} {N : Bool → Hp → Prop} (h : t σ H fun x H' => ∃ k, x = .bl k ∧ N k H') : tB t σ H N := h
theorem s_tru {t : TE} {N : Bool → Hp → Prop} (h : t σ H fun x H' => ∃ k, TruV K x H' k ∧ N k H') : tTruU K t σ H N := h
theorem s_isB {k : Bool} {N : Bool → Prop} (h : N k) : ∃ k', V.bl k = V.bl k' ∧ N k' := ⟨k, rfl, h⟩
theorem s_truI {i : Int} {N : Bool → Prop} (h : N (i != 0)) : ∃ k, TruV K (.int i) H k ∧ N k := ⟨_, rfl, h⟩
theorem s_truB {b : Bool} {N : Bool → Prop} (h : N b) : ∃ k, TruV K (.bl b) H k ∧ N k := ⟨_, rfl, h⟩
theorem s_and {t u : TT} {N : Bool → Hp → Prop} (h : t σ H fun c H1 => if c = true then u σ H1 N else N false H1) : tAnd t u σ H N := h
theorem s_or {t u : TT} {N : Bool → Hp → Prop} (h : t σ H fun c H1 => if c = true then N true H1 else u σ H1 N) : tOr t u σ H N := h
theorem s_not {t : TT} {N : Bool → Hp → Prop} (h : t σ H fun c H1 => N (!c) H1) : tNot t σ H N := h
theorem s_andV {ta tb : TE} (h : ta σ H fun x H1 => ∃ c, x = .bl c ∧ if c = true then tb σ H1 Q else Q (.bl false) H1) : tAndV ta tb σ H Q := h
theorem s_orV {ta tb : TE} (h : ta σ H fun x H1 => ∃ c, x = .bl c ∧ if c = true then Q (.bl true) H1 else tb σ H1 Q) : tOrV ta tb σ H Q := h
theorem s_notV {ta : TE} (h : ta σ H fun x H1 => ∃ c, x = .bl c ∧ Q (.bl (!c)) H1) : tNotV ta σ H Q := h
theorem s_chain {r r' : R2} {ta tb tc : TE} (h : ta σ H fun x H1 => tb σ H1 fun y H2 => r x y H2 fun z H3 => ∃ k, z = .bl k ∧ if k = true then tc σ H3 fun w H4 => r' y w H4 Q else Q (.bl false) H3) : tChain r r' ta tb tc σ H Q := by
  first
    | exact h
    | (unfold tChain; exact h)
-- by values
theorem s_addI {i j : Int} (h : Q (.int (i + j)) H) : rAddU K (.int i) (.int j) H Q := .inl ⟨i, j, rfl, rfl, h⟩
theorem s_addS {i j : Str} (l : i.length + j.length ≤ sizeLine) (h : Q (.str (i ++ j)) H) : rAddU K (.str i) (.str j) H Q := .inr (.inl ⟨i, j, rfl, rfl, l, h⟩)
theorem s_subI {i j : Int} (h : Q (.int (i - j)) H) : rSubU (.int i) (.int j) H Q := ⟨i, j, rfl, rfl, h⟩
theorem s_mulI {i j : Int} (c : CMulZ i j) (h : Q (.int (i * j)) H) : rMulU (.int i) (.int j) H Q := .inl ⟨i, j, rfl, rfl, c, h⟩
theorem s_divI {i j : Int} (c : CDivZ i j) (h : Q (.int (i.fdiv j)) H) : rDivU (.int i) (.int j) H Q := ⟨i, j, rfl, rfl, c, h⟩
theorem s_modI {i j : Int} (c : j ≠ 0) (h : Q (.int (i.fmod j)) H) : rModU (.int i) (.int j) H Q := ⟨i, j, rfl, rfl, c, h⟩
theorem s_powI {i j : Int} (c : CPow i j) (h : Q (.int (i ^ j.toNat)) H) : rPowU (.int i) (.int j) H Q := ⟨i, j, rfl, rfl, c, h⟩
theorem s_pow2 (h : Q (.int 100) H) : rPowU (.int 10) (.int 2) H Q := s_powI ⟨by decide, by decide, by decide⟩ (by exact h)
theorem s_pow3 (h : Q (.int 1000) H) : rPowU (.int 10) (.int 3) H Q := s_powI ⟨by decide, by decide, by decide⟩ (by exact h)
theorem s_pow4 (h : Q (.int 10000) H) : rPowU (.int 10) (.int 4) H Q := s_powI ⟨by decide, by decide, by decide⟩ (by exact h)
theorem s_pow5 (h : Q (.int 100000) H) : rPowU (.int 10) (.int 5) H Q := s_powI ⟨by decide, by decide, by decide⟩ (by exact h)
theorem s_pow6 (h : Q (.int 1000000) H) : rPowU (.int 10) (.int 6) H Q := s_powI ⟨by decide, by decide, by decide⟩ (by exact h)
theorem s_pow7 (h : Q (.int 10000000) H) : rPowU (.int 10) (.int 7) H Q := s_powI ⟨by decide, by decide, by decide⟩ (by exact h)
theorem s_pow8 (h : Q (.int 100000000) H) : rPowU (.int 10) (.int 8) H Q := s_powI ⟨by decide, by decide, by decide⟩ (by exact h)
theorem s_pow9 (h : Q (.int 1000000000) H) : rPowU (.int 10) (.int 9) H Q := s_powI ⟨by decide, by decide, by decide⟩ (by exact h)
theorem s_pow10 (h : Q (.int 10000000000) H) : rPowU (.int 10) (.int 10) H Q := s_powI ⟨by decide, by decide, by decide⟩ (by exact h)
theorem s_pow12 (h : Q (.int 1000000000000) H) : rPowU (.int 10) (.int 12) H Q := s_powI ⟨by decide, by decide, by decide⟩ (by exact h)
theorem s_negI {i : Int} (h : Q (.int (-i)) H) : rNegU (.int i) H Q := ⟨i, rfl, h⟩
theorem s_ltI {i j : Int} (h : Q (.bl (decide (i < j))) H) : rLtI (.int i) (.int j) H Q := ⟨i, j, rfl, rfl, h⟩
theorem s_leI {i j : Int} (h : Q (.bl (decide (i ≤ j))) H) : rLeI (.int i) (.int j) H Q := ⟨i, j, rfl, rfl, h⟩
theorem s_gtI {i j : Int} (h : Q (.bl (decide (j < i))) H) : rGtI (.int i) (.int j) H Q := ⟨i, j, rfl, rfl, h⟩
theorem s_geI {i j : Int} (h : Q (.bl (decide (j ≤ i))) H) : rGeI (.int i) (.int j) H Q := ⟨i, j, rfl, rfl, h⟩
theorem eqvI (i j : Int) : PyData.eqv (.int i) (.int j) = decide (i = j) := by
  simp only [PyData.eqv]
  by_cases h : i = j <;> simp [h]
theorem eqvB (i j : Bool) : PyData.eqv (.bool i) (.bool j) = decide (i = j) := by
  cases i <;> cases j <;> (simp only [PyData.eqv]; rfl)
theorem shI (i : Int) : SeqAt.shaped (.int i) = true := rfl
theorem shB (i : Bool) : SeqAt.shaped (.bool i) = true := rfl
theorem s_eqI {i j : Int} (h : Q (.bl (decide (i = j))) H) : rEqD K (.int i) (.int j) H Q := ⟨_, _, .int i, .int j, shI i, shI j, by rw [eqvI]; exact h⟩
theorem s_neI {i j : Int} (h : Q (.bl (!decide (i = j))) H) : rNeD K (.int i) (.int j) H Q := ⟨_, _, .int i, .int j, shI i, shI j, by rw [eqvI]; exact h⟩
theorem s_eqB {i j : Bool} (h : Q (.bl (decide (i = j))) H) : rEqD K (.bl i) (.bl j) H Q := ⟨_, _, .bl i, .bl j, shB i, shB j, by rw [eqvB]; exact h⟩
theorem s_neB {i j : Bool} (h : Q (.bl (!decide (i = j))) H) : rNeD K (.bl i) (.bl j) H Q := ⟨_, _, .bl i, .bl j, shB i, shB j, by rw [eqvB]; exact h⟩
/-- two data -/
theorem s_eqD {x y : V} {d e : PyData} (hx : Dt K H x d) (hy : Dt K H y e) (sd : SeqAt.shaped d = true) (se : SeqAt.shaped e = true) (h : Q (.bl (PyData.eqv d e)) H) : rEqD K x y H Q := ⟨d, e, hx.dp, hy.dp, sd, se, h⟩
theorem s_neD {x y : V} {d e : PyData} (hx : Dt K H x d) (hy : Dt K H y e) (sd : SeqAt.shaped d = true) (se : SeqAt.shaped e = true) (h : Q (.bl (!PyData.eqv d e)) H) : rNeD K x y H Q := ⟨d, e, hx.dp, hy.dp, sd, se, h⟩
theorem shfr (r : Rat) : SeqAt.shaped (fr r) = true := rfl
theorem eqvfr (r s : Rat) : PyData.eqv (fr r) (fr s) = decide (r = s) := by
  have e : PyData.eqv (fr r) (fr s) = ((r.num == s.num) && (((r.den : Int) == (s.den : Int)) && true)) := by simp only [fr, PyData.eqv, PyData.eqvAll]
  rw [e]
  by_cases h : r = s
  · subst h; simp
  · have : ¬ (r.num = s.num ∧ (r.den : Int) = s.den) := fun ⟨a, b⟩ => h (Rat.ext a (by omega))
    rw [decide_eq_false h]
    by_cases h1 : r.num = s.num
    · have h2 : ¬ (r.den : Int) = s.den := fun z => this ⟨h1, z⟩
      rw [beq_eq_false_iff_ne.mpr h2]; simp
    · rw [beq_eq_false_iff_ne.mpr h1]; simp
theorem s_eqF {x y : V} {d e : Rat} (hx : Dt K H x (fr d)) (hy : Dt K H y (fr e)) (h : Q (.bl (decide (d = e))) H) : rEqD K x y H Q := ⟨_, _, hx.dp, hy.dp, shfr _, shfr _, by rw [eqvfr]; exact h⟩
theorem s_neF {x y : V} {d e : Rat} (hx : Dt K H x (fr d)) (hy : Dt K H y (fr e)) (h : Q (.bl (!decide (d = e))) H) : rNeD K x y H Q := ⟨_, _, hx.dp, hy.dp, shfr _, shfr _, by rw [eqvfr]; exact h⟩
theorem s_eqFF {x y : V} {d : Rat} (hx : Dt K H x (fr d)) (hy : Dt K H y (fr d)) (h : Q (.bl true) H) : rEqD K x y H Q := s_eqF hx hy (by rw [decide_eq_true rfl]; exact h)
theorem s_neFF {x y : V} {d : Rat} (hx : Dt K H x (fr d)) (hy : Dt K H y (fr d)) (h : Q (.bl false) H) : rNeD K x y H Q := s_neF hx hy (by rw [decide_eq_true rfl]; exact h)
theorem sh2 (a b : Rat) : SeqAt.shaped (.tuple [fr a, fr b]) = true := rfl
theorem s_eqD2 {x y : V} {a b : Rat} (hx : Dt K H x (.tuple [fr a, fr b])) (hy : Dt K H y (.tuple [fr a, fr b])) (h : Q (.bl true) H) : rEqD K x y H Q := s_eqD hx hy (sh2 a b) (sh2 a b) (by rw [SeqAt.eqv_refl _ (SeqAt.canLay_of_shaped (sh2 a b))]; exact h)
theorem s_neD2 {x y : V} {a b : Rat} (hx : Dt K H x (.tuple [fr a, fr b])) (hy : Dt K H y (.tuple [fr a, fr b])) (h : Q (.bl false) H) : rNeD K x y H Q := s_neD hx hy (sh2 a b) (sh2 a b) (by rw [SeqAt.eqv_refl _ (SeqAt.canLay_of_shaped (sh2 a b))]; exact h)
-- subscripts
theorem atI_of {α : Type} {xs : List α} {i : Nat} {v : α} (h : xs[i]? = some v) : atI xs (i : Int) = some v := atI_nat h
theorem DtAll.at {vs : List V} {ds : List PyData} (h : DtAll K H vs ds) {i : Int} {d : PyData} (e : atI ds i = some d) : ∃ v, atI vs i = some v ∧ Dt K H v d := by
  unfold atI at e ⊢
  rw [h.len]
  cases q : ixN ds.length i with
  | none => rw [q] at e; cases e
  | some j => rw [q] at e; exact h.get e
theorem s_ixT {x : V} {ds : List PyData} {i : Int} {d : PyData} (hx : Dt K H x (.tuple ds)) (e : atI ds i = some d) (h : ∀ v, Dt K H v d → Q v H) : rIx K x (.int i) H Q := by
  obtain ⟨a, xs, rfl, hs, ha⟩ := hx.tup_inv
  obtain ⟨v, e1, e2⟩ := ha.at e
  exact .inr (.inl ⟨a, xs, i, v, rfl, rfl, hs, e1, h v e2⟩)
theorem s_ixTi {x : V} {ds : List PyData} {i : Int} {z : Int} (hx : Dt K H x (.tuple ds)) (e : atI ds i = some (.int z)) (h : Q (.int z) H) : rIx K x (.int i) H Q :=
  s_ixT hx e fun v hv => by rw [hv.int_eq]; exact h
theorem s_ixTs {x : V} {ds : List PyData} {i : Int} {z : Str} (hx : Dt K H x (.tuple ds)) (e : atI ds i = some (.str z)) (h : Q (.str z) H) : rIx K x (.int i) H Q :=
  s_ixT hx e fun v hv => by rw [hv.str_eq]; exact h
theorem s_ixF0 {x : V} {r : Rat} (hx : Dt K H x (fr r)) (h : Q (.int r.num) H) : rIx K x (.int 0) H Q := s_ixTi (i := 0) hx rfl h
theorem s_ixF1 {x : V} {r : Rat} (hx : Dt K H x (fr r)) (h : Q (.int r.den) H) : rIx K x (.int 1) H Q := s_ixTi (i := 1) hx rfl h
theorem s_ixL {a : Addr} {xs : List V} {i : Int} {v : V} (hs : SqL K H a xs) (e : atI xs i = some v) (h : Q v H) : rIx K (.ref a) (.int i) H Q := .inl ⟨a, xs, i, v, rfl, rfl, hs, e, h⟩
theorem s_ixS {z : Str} {i : Int} {c : Nat} (l : z.length ≤ sizeLine) (e : atI z.cps.toList i = some c) (h : Q (.str ⟨#[c]⟩) H) : rIx K (.str z) (.int i) H Q := .inr (.inr ⟨z, i, c, rfl, rfl, l, e, h⟩)
theorem s_setL {a : Addr} {xs : List V} {i : Int} {j : Nat} {v : V} {N : Hp → Prop} (hs : H a = some (.lst xs)) (e : ixN xs.length i = some j) (h : N (upd H a (.lst (xs.set j v)))) : rSetL (.ref a) (.int i) v H N := ⟨a, xs, i, j, rfl, rfl, hs, e, h⟩
theorem s_ixT0 {x : V} {d0 : PyData} {ds : List PyData} (hx : Dt K H x (.tuple (d0 :: ds))) (h : ∀ v, Dt K H v d0 → Q v H) : rIx K x (.int 0) H Q := s_ixT hx (atI_nat (j := 0) rfl) h
theorem s_ixL0 {a : Addr} {v0 : V} {vs : List V} (hs : SqL K H a (v0 :: vs)) (h : Q v0 H) : rIx K (.ref a) (.int 0) H Q := s_ixL hs (atI_nat (j := 0) rfl) h
theorem s_setL0 {a : Addr} {v0 v : V} {vs : List V} {N : Hp → Prop} (hs : H a = some (.lst (v0 :: vs))) (h : N (upd H a (.lst (v :: vs)))) : rSetL (.ref a) (.int 0) v H N := s_setL (j := 0) hs (by show ixN _ ((0 : Nat) : Int) = some 0; unfold ixN; rw [if_pos (by omega), if_pos (by simp only [List.length_cons]; omega)]; rfl) h
theorem s_ixT1 {x : V} {d0 d1 : PyData} {ds : List PyData} (hx : Dt K H x (.tuple (d0 :: d1 :: ds))) (h : ∀ v, Dt K H v d1 → Q v H) : rIx K x (.int 1) H Q := s_ixT hx (atI_nat (j := 1) rfl) h
theorem s_ixL1 {a : Addr} {v0 v1 : V} {vs : List V} (hs : SqL K H a (v0 :: v1 :: vs)) (h : Q v1 H) : rIx K (.ref a) (.int 1) H Q := s_ixL hs (atI_nat (j := 1) rfl) h
theorem s_setL1 {a : Addr} {v0 v1 v : V} {vs : List V} {N : Hp → Prop} (hs : H a = some (.lst (v0 :: v1 :: vs))) (h : N (upd H a (.lst (v0 :: v :: vs)))) : rSetL (.ref a) (.int 1) v H N := s_setL (j := 1) hs (by show ixN _ ((1 : Nat) : Int) = some 1; unfold ixN; rw [if_pos (by omega), if_pos (by simp only [List.length_cons]; omega)]; rfl) h
theorem s_ixT2 {x : V} {d0 d1 d2 : PyData} {ds : List PyData} (hx : Dt K H x (.tuple (d0 :: d1 :: d2 :: ds))) (h : ∀ v, Dt K H v d2 → Q v H) : rIx K x (.int 2) H Q := s_ixT hx (atI_nat (j := 2) rfl) h
theorem s_ixL2 {a : Addr} {v0 v1 v2 : V} {vs : List V} (hs : SqL K H a (v0 :: v1 :: v2 :: vs)) (h : Q v2 H) : rIx K (.ref a) (.int 2) H Q := s_ixL hs (atI_nat (j := 2) rfl) h
theorem s_setL2 {a : Addr} {v0 v1 v2 v : V} {vs : List V} {N : Hp → Prop} (hs : H a = some (.lst (v0 :: v1 :: v2 :: vs))) (h : N (upd H a (.lst (v0 :: v1 :: v :: vs)))) : rSetL (.ref a) (.int 2) v H N := s_setL (j := 2) hs (by show ixN _ ((2 : Nat) : Int) = some 2; unfold ixN; rw [if_pos (by omega), if_pos (by simp only [List.length_cons]; omega)]; rfl) h
theorem s_ixT3 {x : V} {d0 d1 d2 d3 : PyData} {ds : List PyData} (hx : Dt K H x (.tuple (d0 :: d1 :: d2 :: d3 :: ds))) (h : ∀ v, Dt K H v d3 → Q v H) : rIx K x (.int 3) H Q := s_ixT hx (atI_nat (j := 3) rfl) h
theorem s_ixL3 {a : Addr} {v0 v1 v2 v3 : V} {vs : List V} (hs : SqL K H a (v0 :: v1 :: v2 :: v3 :: vs)) (h : Q v3 H) : rIx K (.ref a) (.int 3) H Q := s_ixL hs (atI_nat (j := 3) rfl) h
theorem s_setL3 {a : Addr} {v0 v1 v2 v3 v : V} {vs : List V} {N : Hp → Prop} (hs : H a = some (.lst (v0 :: v1 :: v2 :: v3 :: vs))) (h : N (upd H a (.lst (v0 :: v1 :: v2 :: v :: vs)))) : rSetL (.ref a) (.int 3) v H N := s_setL (j := 3) hs (by show ixN _ ((3 : Nat) : Int) = some 3; unfold ixN; rw [if_pos (by omega), if_pos (by simp only [List.length_cons]; omega)]; rfl) h
theorem s_ixT4 {x : V} {d0 d1 d2 d3 d4 : PyData} {ds : List PyData} (hx : Dt K H x (.tuple (d0 :: d1 :: d2 :: d3 :: d4 :: ds))) (h : ∀ v, Dt K H v d4 → Q v H) : rIx K x (.int 4) H Q := s_ixT hx (atI_nat (j := 4) rfl) h
theorem s_ixL4 {a : Addr} {v0 v1 v2 v3 v4 : V} {vs : List V} (hs : SqL K H a (v0 :: v1 :: v2 :: v3 :: v4 :: vs)) (h : Q v4 H) : rIx K (.ref a) (.int 4) H Q := s_ixL hs (atI_nat (j := 4) rfl) h
theorem s_setL4 {a : Addr} {v0 v1 v2 v3 v4 v : V} {vs : List V} {N : Hp → Prop} (hs : H a = some (.lst (v0 :: v1 :: v2 :: v3 :: v4 :: vs))) (h : N (upd H a (.lst (v0 :: v1 :: v2 :: v3 :: v :: vs)))) : rSetL (.ref a) (.int 4) v H N := s_setL (j := 4) hs (by show ixN _ ((4 : Nat) : Int) = some 4; unfold ixN; rw [if_pos (by omega), if_pos (by simp only [List.length_cons]; omega)]; rfl) h
theorem s_ixT5 {x : V} {d0 d1 d2 d3 d4 d5 : PyData} {ds : List PyData} (hx : Dt K H x (.tuple (d0 :: d1 :: d2 :: d3 :: d4 :: d5 :: ds))) (h : ∀ v, Dt K H v d5 → Q v H) : rIx K x (.int 5) H Q := s_ixT hx (atI_nat (j := 5) rfl) h
theorem s_ixL5 {a : Addr} {v0 v1 v2 v3 v4 v5 : V} {vs : List V} (hs : SqL K H a (v0 :: v1 :: v2 :: v3 :: v4 :: v5 :: vs)) (h : Q v5 H) : rIx K (.ref a) (.int 5) H Q := s_ixL hs (atI_nat (j := 5) rfl) h
theorem s_setL5 {a : Addr} {v0 v1 v2 v3 v4 v5 v : V} {vs : List V} {N : Hp → Prop} (hs : H a = some (.lst (v0 :: v1 :: v2 :: v3 :: v4 :: v5 :: vs))) (h : N (upd H a (.lst (v0 :: v1 :: v2 :: v3 :: v4 :: v :: vs)))) : rSetL (.ref a) (.int 5) v H N := s_setL (j := 5) hs (by show ixN _ ((5 : Nat) : Int) = some 5; unfold ixN; rw [if_pos (by omega), if_pos (by simp only [List.length_cons]; omega)]; rfl) h
-- calls of built-ins
theorem s_lenL {a : Addr} {xs : List V} (hs : SqL K H a xs) (h : Q (.int xs.length) H) : rLenU K [.ref a] H Q := ⟨.ref a, xs.length, rfl, .inl ⟨xs, hs, rfl⟩, h⟩
theorem s_lenT {x : V} {ds : List PyData} (hx : Dt K H x (.tuple ds)) (h : Q (.int ds.length) H) : rLenU K [x] H Q := by
  obtain ⟨a, xs, rfl, hs, ha⟩ := hx.tup_inv
  exact ⟨.ref a, xs.length, rfl, .inr ⟨xs, hs, rfl⟩, by rw [ha.len]; exact h⟩
theorem size1 {a : V} : [a].length ≤ sizeLine := by show 1 ≤ sizeLine; decide
theorem size2 {a b : V} : [a, b].length ≤ sizeLine := by show 2 ≤ sizeLine; decide
theorem size3 {a b c : V} : [a, b, c].length ≤ sizeLine := by show 3 ≤ sizeLine; decide
theorem size4 {a b c d : V} : [a, b, c, d].length ≤ sizeLine := by show 4 ≤ sizeLine; decide
theorem abs_if (i : Int) : (if i < 0 then -i else i) = (i.natAbs : Int) := by
  by_cases h : i < 0
  · rw [if_pos h]; omega
  · rw [if_neg h]; omega
theorem s_abs {i : Int} (h : Q (.int (i.natAbs : Int)) H) : rAbsU [.int i] H Q := ⟨i, rfl, by rw [abs_if]; exact h⟩
theorem lt_dec (r s : Rat) : decide (r.num * (s.den : Int) < s.num * (r.den : Int)) = decide (r < s) := by
  by_cases h : r < s
  · rw [decide_eq_true h, decide_eq_true ((Rat.lt_iff r s).mp h)]
  · rw [decide_eq_false h, decide_eq_false (fun z => h ((Rat.lt_iff r s).mpr z))]
theorem mz_of {i j : Int} {n m : Nat} (h : i.natAbs < 2 ^ n) (k : j.natAbs < 2 ^ m) (h0 : 0 < n) (k0 : 0 < m) (l : n + m ≤ 1000000) : CMulZ i j := .inr (wide_mul h k h0 k0 l)
theorem mz_nd {r s : Rat} (h : Sz 400000 r) (k : Sz 400000 s) : CMulZ r.num s.den := mz_of h.1 k.dA (by decide) (by decide) (by decide)
theorem mz_nn {r s : Rat} (h : Sz 400000 r) (k : Sz 400000 s) : CMulZ r.num s.num := mz_of h.1 k.1 (by decide) (by decide) (by decide)
theorem mz_dd {r s : Rat} (h : Sz 400000 r) (k : Sz 400000 s) : CMulZ r.den s.den := mz_of h.dA k.dA (by decide) (by decide) (by decide)
theorem mz_dn {r s : Rat} (h : Sz 400000 r) (k : Sz 400000 s) : CMulZ r.den s.num := mz_of h.dA k.1 (by decide) (by decide) (by decide)
theorem cz_l {i j : Int} (h : -18446744073709551616 < i) (k : i < 18446744073709551616) : CMulZ i j := .inl (.inl ⟨h, k⟩)
theorem cz_r {i j : Int} (h : -18446744073709551616 < j) (k : j < 18446744073709551616) : CMulZ i j := .inl (.inr ⟨h, k⟩)
theorem dz_of {i j : Int} {n : Nat} (h : j ≠ 0) (k : j.natAbs < 2 ^ n) (h0 : 0 < n) (l : n ≤ 9000) : CDivZ i j := ⟨h, Nat.lt_of_lt_of_le (PySem.Flt.log2_lt_of h0 k) l⟩
theorem dz_sm {i j : Int} (h : 0 < j) (k : j < 18446744073709551616) : CDivZ i j := dz_of (n := 64) (by omega) (by omega) (by decide) (by decide)
theorem s_max {i j : Int} (h : Q (.int (if j > i then j else i)) H) : rMaxU [.int i, .int j] H Q := ⟨i, j, rfl, h⟩
theorem s_min {i j : Int} (h : Q (.int (if j < i then j else i)) H) : rMinU [.int i, .int j] H Q := ⟨i, j, rfl, h⟩
theorem kit_ii : kitB "int" "int" = some true := by decide +kernel
theorem kit_ib : kitB "int" "bool" = some false := by decide +kernel
theorem kit_bi : kitB "bool" "int" = some true := by decide +kernel
theorem kit_bb : kitB "bool" "bool" = some true := by decide +kernel
theorem kit_tt : kitB "tuple" "tuple" = some true := by decide +kernel
theorem s_isII {i : Int} (h : Q (.bl true) H) : rIsi K [.int i, .ty "int"] H Q := ⟨_, _, _, _, true, rfl, .ty _, .base (.int i), kit_ty kit_ii, h⟩
theorem s_isIB {i : Int} (h : Q (.bl false) H) : rIsi K [.int i, .ty "bool"] H Q := ⟨_, _, _, _, false, rfl, .ty _, .base (.int i), kit_ty kit_ib, h⟩
theorem s_isBI {b : Bool} (h : Q (.bl true) H) : rIsi K [.bl b, .ty "int"] H Q := ⟨_, _, _, _, true, rfl, .ty _, .base (.bl b), kit_ty kit_bi, h⟩
theorem s_isBB {b : Bool} (h : Q (.bl true) H) : rIsi K [.bl b, .ty "bool"] H Q := ⟨_, _, _, _, true, rfl, .ty _, .base (.bl b), kit_ty kit_bb, h⟩
theorem Dt.tyT {x : V} {ds : List PyData} (hx : Dt K H x (.tuple ds)) : TyX K H x (.type "tuple") := by
  obtain ⟨a, xs, rfl, hs, _⟩ := hx.tup_inv
  rcases hs with (h | ⟨o, h⟩) | ⟨o, its, n, h, c, _⟩
  · exact .base (.tup h)
  · exact .fTuple h
  · exact .kTuple h c
theorem s_isTT {x : V} {ds : List PyData} (hx : Dt K H x (.tuple ds)) (h : Q (.bl true) H) : rIsi K [x, .ty "tuple"] H Q := ⟨_, _, _, _, true, rfl, .ty _, hx.tyT, kit_ty kit_tt, h⟩
end
/-! ### the law's bag: [the script's numbers, how many are taken, what is left of a great one, the salt] -/
def Bag (H : Hp) (b l : Addr) : Prop := ∃ (ns : List Int) (p r z : Int), H b = some (.lst [.ref l, .int p, .int r, .int z]) ∧ H l = some (.lst (ns.map V.int)) ∧ 0 ≤ p ∧ -(2 ^ 40) < z ∧ z < 2 ^ 40 ∧ l ≠ b
theorem Bag.same {H H' : Hp} {b l : Addr} (s : Same H H') (h : Bag H b l) : Bag H' b l := by
  obtain ⟨ns, p, r, z, h1, h2, h3⟩ := h
  exact ⟨ns, p, r, z, s _ _ h1, s _ _ h2, h3⟩
theorem Bag.upd {H : Hp} {b l q : Addr} {o : HO} (h : Bag H b l) (n1 : q ≠ b) (n2 : q ≠ l) : Bag (upd H q o) b l := by
  obtain ⟨ns, p, r, z, h1, h2, h3⟩ := h
  exact ⟨ns, p, r, z, (upd_ne n1.symm).trans h1, (upd_ne n2.symm).trans h2, h3⟩
theorem Bag.ne1 {H : Hp} {b l q : Addr} (h : Bag H b l) (n : H q = none) : q ≠ b := fun e => by
  obtain ⟨_, _, _, _, h1, _⟩ := h
  rw [e, h1] at n
  cases n
theorem Bag.ne2 {H : Hp} {b l q : Addr} (h : Bag H b l) (n : H q = none) : q ≠ l := fun e => by
  obtain ⟨_, _, _, _, _, h1, _⟩ := h
  rw [e, h1] at n
  cases n
theorem Bag.ne1' {H : Hp} {b l q : Addr} (n : H q = none) (h : Bag H b l) : q ≠ b := h.ne1 n
theorem Bag.ne2' {H : Hp} {b l q : Addr} (n : H q = none) (h : Bag H b l) : q ≠ l := h.ne2 n
theorem Bag.new {H : Hp} {b l q : Addr} {o : HO} (h : Bag H b l) (n : H q = none) : Bag (L2.upd H q o) b l := h.same (same_new n)
theorem but_of {H H' : Hp} {b l : Addr} (h : Bag H b l) (k : ∀ a o, a ≠ b → H a = some o → H' a = some o) : But b H H' := ⟨k, by obtain ⟨_, _, _, _, h1, _⟩ := h; exact ⟨_, h1⟩⟩
theorem But.same {H H1 H2 : Hp} {b : Addr} (s : But b H H1) (t : Same H1 H2) : But b H H2 := ⟨fun a o n h => t _ _ (s.oth a o n h), s.lst⟩
theorem But.trans {H H1 H2 : Hp} {b : Addr} (s : But b H H1) (t : But b H1 H2) : But b H H2 := ⟨fun a o n h => t.oth a o n (s.oth a o n h), s.lst⟩
theorem But.ofSame {H H1 : Hp} {b l : Addr} (h : Bag H b l) (t : Same H H1) : But b H H1 := but_of h fun a o _ e => t a o e
theorem but_mut {H H1 : Hp} {b q : Addr} {o : HO} (s : But b H H1) (n : H q = none) : But b H (upd H1 q o) := ⟨fun a u k h => by rw [upd_ne (ne_of_none h n)]; exact s.oth a u k h, s.lst⟩
theorem But.free {H H1 : Hp} {b q : Addr} (s : But b H H1) (nb : q ≠ b) (h : H1 q = none) : H q = none := by
  cases e : H q with
  | none => rfl
  | some o => rw [s.oth q o nb e] at h; cases h
/-- a def upon data that lays nothing -/
def spV {α : Type} (K : PySem.W.Frag) (arg : α → List PyData) (pre : α → Prop) (res : α → V) : Sp := fun vs H Q _ => ∃ x : α, DtAll K H vs (arg x) ∧ pre x ∧ Q (res x) H
theorem spV.len {α : Type} {K : PySem.W.Frag} {arg : α → List PyData} {pre : α → Prop} {res : α → V} {n : Nat} (hn : ∀ x, (arg x).length = n) {vs : List V} {H : Hp} {Q : VK} {E : XK} (h : spV K arg pre res vs H Q E) : vs.length = n := by
  obtain ⟨x, h, _⟩ := h
  exact h.len.trans (hn x)
theorem da1 {K : PySem.W.Frag} {H : Hp} {vs : List V} {a : PyData} (h : DtAll K H vs [a]) : ∃ x, vs = [x] ∧ Dt K H x a := by
  cases h with | cons h t => cases t; exact ⟨_, rfl, h⟩
theorem da2 {K : PySem.W.Frag} {H : Hp} {vs : List V} {a b : PyData} (h : DtAll K H vs [a, b]) : ∃ x y, vs = [x, y] ∧ Dt K H x a ∧ Dt K H y b := by
  cases h with | cons h t => obtain ⟨y, rfl, k⟩ := da1 t; exact ⟨_, _, rfl, h, k⟩
theorem da3 {K : PySem.W.Frag} {H : Hp} {vs : List V} {a b c : PyData} (h : DtAll K H vs [a, b, c]) : ∃ x y z, vs = [x, y, z] ∧ Dt K H x a ∧ Dt K H y b ∧ Dt K H z c := by
  cases h with | cons h t => obtain ⟨y, z, rfl, k⟩ := da2 t; exact ⟨_, _, _, rfl, h, k⟩
/-- a draw: args behind the bag, what is asked of them, what comes -/
def spB {α : Type} (K : PySem.W.Frag) (arg : α → List PyData) (pre : α → Prop) (post : α → PyData → Prop) : Sp := fun vs H Q _ => ∃ (b l : Addr) (ws : List V) (x : α), vs = .ref b :: ws ∧ Bag H b l ∧ DtAll K H ws (arg x) ∧ pre x ∧
  ∀ v d H', But b H H' → Bag H' b l → post x d → Dt K H' v d → Q v H'
/-- a def upon data -/
def spP {α : Type} (K : PySem.W.Frag) (arg : α → List PyData) (pre : α → Prop) (res : α → PyData) : Sp := fun vs H Q _ => ∃ x : α, DtAll K H vs (arg x) ∧ pre x ∧ ∀ v H', Same H H' → Dt K H' v (res x) → Q v H'
theorem spB.len {α : Type} {K : PySem.W.Frag} {arg : α → List PyData} {pre : α → Prop} {post : α → PyData → Prop} {n : Nat} (hn : ∀ x, (arg x).length = n) {vs : List V} {H : Hp} {Q : VK} {E : XK} (h : spB K arg pre post vs H Q E) : vs.length = n + 1 := by
  obtain ⟨b, l, ws, x, rfl, _, h, _⟩ := h
  exact congrArg Nat.succ (h.len.trans (hn x))
theorem spP.len {α : Type} {K : PySem.W.Frag} {arg : α → List PyData} {pre : α → Prop} {res : α → PyData} {n : Nat} (hn : ∀ x, (arg x).length = n) {vs : List V} {H : Hp} {Q : VK} {E : XK} (h : spP K arg pre res vs H Q E) : vs.length = n := by
  obtain ⟨x, h, _⟩ := h
  exact h.len.trans (hn x)
end Cr

namespace Cr
open PySem PySem.Spec PyProof.Rows L2
/-! ### own error classes without an __init__ of their own -/
structure ExcT (K : PySem.W.Frag) (mg : Str → Option Value) (x : Str) (C : Addr) (bm : List Value) (new : String) : Prop where
  g : mg x = some (.ref C)
  q : PySem.W.excIn K C bm new = true
  k : PySem.W.keepIn K (.ref C) = true
  s : PySem.W.subIn K (.ref C) (.type "BaseException") = some true
  t : PySem.W.typeIn K (.ref C) = some (.type "type")
  hd : PySem.W.hasDictIn K C = true
  self : PySem.W.subIn K (.ref C) (.ref C) = some true
theorem ExcT.te {K : PySem.W.Frag} {mg : Str → Option Value} {x : Str} {C : Addr} {bm : List Value} {new : String} (T : ExcT K mg x C bm new) : PySem.W.exmOne K (.ref C) (.ref C) = some true := PySem.W.exm_ref T.s T.hd T.t T.self
section
variable {X : Cx} {pos : Pos}
/-- C(), an own error without arguments -/
theorem pmk_own0 {C : Addr} {bmB : List Value} {B newId initId : String} {x : Str} {p : Pos} (F : ExcBaseFacts B newId initId bmB) (q : PySem.W.excIn X.K C bmB newId = true) (gC : X.mg x = some (.ref C))
    (kC : PySem.W.keepIn X.K (.ref C) = true) (r : Raises X (.ref C)) (hg : Gl X x) (hdb : (x == ("__debug__" : Str)) = false := by decide) :
    PMk X (.Call (.Name x p) [] [] pos) (fun _ H Q => Q (.ref C) none H) := by
  intro pins s σ H Q I h
  refine wpAny_Call_Name_kw (ld_glob I hg gC ?_ hdb)
  refine PySem.W.callWith_K0 I.kIn kC ?_
  show wpAny _ _ (call (.ref C) []) _ _ _
  obtain ⟨bm, N, nm, qn, bs, hdct, sn, sub, ab, col, dd, k0, k1, k2, k3, k5, mN, hC, hN, hni, T⟩ := exc_obj I.kIn q
  refine wpAny_call_exc_subT F T hC hN hni (fun h' e hm => ?_) (Nat.zero_le _)
  exact mk_of I hm r h (I.hok.gone hm.new)
end
/-! ### calls with keywords -/
theorem kb1 {K : PySem.W.Frag} {x qual : Str} {params : Arguments} {body : List Stmt} {scope : Scope} {dvs : List V} {kws : List (Str × V)} {f : Addr} {fd : FuncData} {ps : List Str} (F : FunD K x qual params body scope dvs kws f fd) (n : Nat) (ks : List Str)
    (g : {α : Type} → List α → List α → List α → List α) (hd : dvs ≠ [])
    (hrel : ∀ {vs ds zs : List V} {us its ws : List Value}, Vals vs us → Vals ds its → Vals zs ws → Vals (g vs ds zs) (g us its ws))
    (h : ∀ (T : Addr) (kV doc pm : Value) (an : Option Addr) (cdv ct : Value) (us its ws : List Value), us.length = n → its.length = dvs.length → ws.length = ks.length →
      ∃ k, bindArgs (PySem.W.fnOf x qual params body scope (.ref T) kV doc pm an cdv ct) ⟨us, ks.zip ws⟩ = seqItems? (.ref T) >>= k ∧ k (some its.toArray) = pure (ps.zip (g us its ws))) :
    ∃ its : List Value, KBn K fd ps n ks (fun us ws => g us its ws) (fun vs zs => g vs dvs zs) := by
  obtain ⟨oc, od, dV, kV, doc, pm, an, cdv, ct, osl, rfl, lk, hcd, hD, hK⟩ := F.ex
  rcases hD with ⟨e, _⟩ | ⟨_, T, o, its, m, rfl, lT, oT, rT⟩
  · exact absurd e hd
  · refine ⟨its, ⟨fun s us ws X l1 l2 => ?_, fun r1 r2 => hrel r1 rT r2⟩⟩
    obtain ⟨k, e1, e2⟩ := h T kV doc pm an cdv ct us its ws l1 rT.length.symm l2
    refine BindsTo.of_looks fun M => ?_
    rw [e1]
    exact looks_items X lT oT (.of_pure e2)
/-- f(k = v, ..) -/
theorem pe_callN0 {X : Cx} {CX : CXT} {k : Nat} {f : Addr} {fd : FuncData} {ps ks : List Str} {sp : Sp} {E : XK} {x : Str} {p pos : Pos} {kws : List Keyword} {tk : TA} {g : List Value → List Value → List Value} {gV : List V → List V → List V}
    (F : FnOk X.prog X.w X.K X.mg X.base CX k f fd ps sp) (hr : Room k X.A) (hg : Gl X x) (hm : X.mg x = some (.ref f)) (hk : PySem.W.keepIn X.K (.ref f) = true) (hb : KBn X.K fd ps 0 ks g gV) (hx : Passes CX X E)
    (hkw : PK X kws tk) (hall : (backToKw pos (keywordEach kws X.env)).all (·.1.isSome) = true := by rfl) (hks : (backToKw pos (keywordEach kws X.env)).filterMap (·.1) = ks := by rfl)
    (hdb : (x == ("__debug__" : Str)) = false := by decide)
    (hpl : ((backTo pos (starEach [] X.env)).any (·.1) || (backToKw pos (keywordEach kws X.env)).any (·.1.isNone)) = false := by rfl) :
    PE X (.Call (.Name x p) [] kws pos) (tCallN 0 ks.length sp gV E tNil tk) := by
  refine ⟨fun pins s σ H Q I h => ?_⟩
  refine wpAny_Call_Name_kw (ld_glob I hg hm ?_ hdb)
  refine PySem.W.callWith_KW0 (h₀ := X.base) I.ok.mod.kin hk hall ?_ hpl
  refine thn (hkw.run pos pins s σ H _ I h) fun ws s2 ⟨zs, H2, I2, rz, l1, l2, q2⟩ => ⟨I2.kIn, ?_⟩
  rw [hks]
  exact run_fnN (us := []) (vs := []) F hr hb hx I2 .nil rz rfl l2 q2
theorem kit_sub {K : PySem.W.Frag} {D : Addr} {n : String} {b : Bool} (m : PySem.W.kitMeta n = true) (e : PySem.W.subIn K (.ref D) (.type n) = some b) : PySem.W.kitOne K (.ref D) (.type n) = some b := by
  show (if (Value.ref D == Value.type n) = true then some true else (if PySem.W.kitMeta n = true then PySem.W.subIn K (.ref D) (.type n) else none)) = some b
  rw [if_neg (by intro h; cases (beq_iff_eq.mp h)), if_pos m]
  exact e
/-- isinstance of the error that the suite holds -/
def rIsX (K : PySem.W.Frag) (D a : Addr) (cls : Value) (d : Option Addr) : List V → Hp → VK → Prop := fun xs H Q => cls = .ref D ∧ d = none ∧ rIsE K D a xs H Q
theorem call_isX {X : Cx} {a D : Addr} {oe : Obj} {pn : List (Addr × Obj)} {cls : Value} {d : Option Addr} (C : ExcC X.K D) (hz : Zc cls d oe) (hf : ∃ vs, oe.data = .fields vs) : CallR (X.suite a ((a, oe) :: pn)) (.builtin "isinstance") (rIsX X.K D a cls d) := by
  intro pins s σ H xs us Q I r h
  obtain ⟨rfl, rfl, h⟩ := h
  exact call_isE C hz hf pins s σ H xs us Q I r h
section
variable {K : PySem.W.Frag} {σ : St} {H : Hp} {Q : VK} {D : Ends}
theorem s_callS {sp : Sp} {E : St → XK} {t : TA} (h : t σ H fun vs H1 => sp vs H1 Q (E σ)) : tCallS sp E t σ H Q := h
theorem s_caught {C : Addr} {ts : Addr → Value → Option Addr → TS} {Wout : WX} {d : Option Addr} (e : PySem.W.exmOne K (.ref C) (.ref C) = some true) (h : ∀ a, H a = none → ts a (.ref C) d D σ H) : wOnly K (.ref C) ts Wout D (.ref C) d σ H :=
  ⟨true, e, fun _ a ha => h a ha, fun z => Bool.noConfusion z⟩
theorem s_callN {n m : Nat} {sp : Sp} {gV : List V → List V → List V} {E : XK} {t tk : TA} (h : t σ H fun vs H1 => tk σ H1 fun zs H2 => vs.length = n ∧ zs.length = m ∧ sp (gV vs zs) H2 Q E) : tCallN n m sp gV E t tk σ H Q := h
theorem s_lens {vs zs : List V} {n m : Nat} {N : Prop} (h1 : vs.length = n) (h2 : zs.length = m) (h : N) : vs.length = n ∧ zs.length = m ∧ N := ⟨h1, h2, h⟩
theorem s_isX {D a : Addr} {n : String} {b : Bool} (e : PySem.W.kitOne K (.ref D) (.type n) = some b) (h : Q (.bl b) H) : rIsX K D a (.ref D) none [.ref a, .ty n] H Q := ⟨rfl, rfl, .ty n, .type n, b, rfl, fun _ r => r, e, h⟩
theorem s_caughtAs {C : Addr} {i : Nat} {ts : Addr → Value → Option Addr → TS} {Wout : WX} {d : Option Addr} (e : PySem.W.exmOne K (.ref C) (.ref C) = some true)
    (h : ∀ a, H a = none → ts a (.ref C) d { nx := fun σ' H' => D.nx (σ'.set i none) H', rt := D.rt, bk := fun σ' H' => D.bk (σ'.set i none) H', ct := fun σ' H' => D.ct (σ'.set i none) H' } (σ.set i (some (.ref a))) H) : wAs K (.ref C) i ts Wout D (.ref C) d σ H :=
  ⟨true, e, fun _ => h, fun z => Bool.noConfusion z⟩
end
/-! ### lots: instances that never change once they are made -/
def isZ : HO → Bool
  | .ins _ _ _ => true
  | o => isT o
def KI (H H' : Hp) : Prop := ∀ a o, H a = some o → isZ o = true → H' a = some o
theorem isZ_T {o : HO} (h : isT o = true) : isZ o = true := by cases o <;> first | exact h | rfl
theorem KI.kt {H H' : Hp} (k : KI H H') : KT H H' := fun a o h t => k a o h (isZ_T t)
theorem ki_same {H H' : Hp} (s : Same H H') : KI H H' := fun a o h _ => s a o h
theorem ki_new {H : Hp} {p : Addr} {o : HO} (h : H p = none) : KI H (upd H p o) := fun a u e _ => by rw [upd_ne (ne_of_none e h)]; exact e
theorem ki_mut {H : Hp} {p : Addr} {o o' : HO} (h : H p = some o) (t : isZ o = false) : KI H (upd H p o') := fun a u e k => by
  rw [upd_ne (fun z => by subst z; rw [h] at e; cases e; rw [t] at k; cases k)]; exact e
theorem ki_but {b : Addr} {H H' : Hp} (s : But b H H') : KI H H' := fun a o h t => s.oth a o (fun z => by subst z; obtain ⟨xs, e⟩ := s.lst; rw [e] at h; cases h; cases t) h
def IsLot (K : PySem.W.Frag) (C : Addr) (H : Hp) (v : V) (w m : Rat) : Prop := ∃ (a dx : Addr) (x y : V), v = .ref a ∧ H a = some (.ins C dx [(("worth" : Str), x), (("mark" : Str), y)]) ∧ Dt K H x (fr w) ∧ Dt K H y (fr m)
section
variable {K : PySem.W.Frag} {C : Addr} {H H' : Hp} {v : V} {w m : Rat} {Q : VK} {σ : St}
theorem IsLot.mono (k : KI H H') (h : IsLot K C H v w m) : IsLot K C H' v w m := by
  obtain ⟨a, dx, x, y, e, h1, h2, h3⟩ := h
  exact ⟨a, dx, x, y, e, k _ _ h1 rfl, h2.mono k.kt, h3.mono k.kt⟩
theorem wm : ¬ (("worth" : Str) = "mark") := by decide +kernel
def FldQ (K : PySem.W.Frag) (x : V) (f : Str) (H : Hp) (Q : VK) : Prop := ∃ a C dx fs v, x = V.ref a ∧ H a = some (.ins C dx fs) ∧ Cls K C ∧ NoAttr K C f ∧ fs.lookup f = some v ∧ Q v H
theorem s_fld {ta : TE} {f : Str} (h : ta σ H fun x H1 => FldQ K x f H1 Q) : tFld K ta f σ H Q := h
theorem s_worth (h : IsLot K C H v w m) (c : Cls K C) (n : NoAttr K C "worth") (q : ∀ x, Dt K H x (fr w) → Q x H) : FldQ K v "worth" H Q := by
  obtain ⟨a, dx, x, y, e, h1, h2, h3⟩ := h
  exact ⟨a, C, dx, _, x, e, h1, c, n, by
    show List.lookup ("worth" : Str) [(("worth" : Str), x), (("mark" : Str), y)] = some x
    rw [List.lookup_cons, show (("worth" : Str) == "worth") = true by decide +kernel], q x h2⟩
theorem s_mark (h : IsLot K C H v w m) (c : Cls K C) (n : NoAttr K C "mark") (q : ∀ x, Dt K H x (fr m) → Q x H) : FldQ K v "mark" H Q := by
  obtain ⟨a, dx, x, y, e, h1, h2, h3⟩ := h
  exact ⟨a, C, dx, _, y, e, h1, c, n, by
    show List.lookup ("mark" : Str) [(("worth" : Str), x), (("mark" : Str), y)] = some y
    rw [List.lookup_cons, show (("mark" : Str) == "worth") = false by decide +kernel]
    rfl, q y h3⟩
def MethQ (C : Addr) (m : Str) (x : V) (H : Hp) (N : Prop) : Prop := ∃ a dx fs, x = V.ref a ∧ H a = some (.ins C dx fs) ∧ fs.lookup m = none ∧ N
theorem s_meth {mn : Str} {sp : Sp} {dvs : List V} {E : XK} {ta : TE} {t : TA} (h : ta σ H fun x H1 => MethQ C mn x H1 (t σ H1 fun vs H2 => sp (x :: (vs ++ dvs)) H2 Q E)) : tMeth C mn sp dvs E ta t σ H Q := h
theorem s_mlot {mn : Str} {N : Prop} (h : IsLot K C H v w m) (e1 : (mn == ("worth" : Str)) = false) (e2 : (mn == ("mark" : Str)) = false) (n : N) : MethQ C mn v H N := by
  obtain ⟨a, dx, x, y, e, h1, _⟩ := h
  exact ⟨a, dx, _, e, h1, by
    rw [List.lookup_cons, e1, List.lookup_cons, e2]
    rfl, n⟩
def MakeQ (C : Addr) (sp : Sp) (dvs : List V) (E : XK) (vs : List V) (H : Hp) (Q : VK) : Prop := ∀ x dx, H x = none → H dx = none → dx ≠ x →
  sp (.ref x :: (vs ++ dvs)) (upd (upd H dx (.own x)) x (.ins C dx [])) (fun v H2 => v = .non ∧ Q (.ref x) H2) E
theorem s_make {sp : Sp} {dvs : List V} {E : XK} {t : TA} (h : t σ H fun vs H1 => MakeQ C sp dvs E vs H1 Q) : tMake C sp dvs E t σ H Q := h
end
end Cr
namespace Cr
open PySem PySem.Spec PyProof.Rows L2
theorem units65 {k : Nat} {A : Around} (r : Room k A) : A.units + 65 < cLine := by have := r.un; omega
/-! ### a cut behind a statement; list comprehensions; more of built-ins -/
inductive A2 {α β : Type} (R : α → β → Prop) : List α → List β → Prop
  | nil : A2 R [] []
  | cons {x : α} {y : β} {xs : List α} {ys : List β} : R x y → A2 R xs ys → A2 R (x :: xs) (y :: ys)
theorem A2.mono {α β : Type} {R S : α → β → Prop} (h : ∀ x y, R x y → S x y) : ∀ {xs : List α} {ys : List β}, A2 R xs ys → A2 S xs ys
  | _, _, .nil => .nil
  | _, _, .cons a b => .cons (h _ _ a) (A2.mono h b)
theorem A2.snoc {α β : Type} {R : α → β → Prop} {x : α} {y : β} (r : R x y) : ∀ {xs : List α} {ys : List β}, A2 R xs ys → A2 R (xs ++ [x]) (ys ++ [y])
  | _, _, .nil => .cons r .nil
  | _, _, .cons a b => .cons a (A2.snoc r b)
theorem A2.len {α β : Type} {R : α → β → Prop} : ∀ {xs : List α} {ys : List β}, A2 R xs ys → xs.length = ys.length
  | _, _, .nil => rfl
  | _, _, .cons _ b => congrArg Nat.succ (A2.len b)
section
variable {K : PySem.W.Frag} {σ : St} {H : Hp} {Q : VK} {D : Ends}
theorem s_cut {t : TS} (js : List Nat) (I : (Nat → Option V) → Hp → Prop) (h : ∀ N' : St → Hp → Prop, (∀ σ' H', σ' = sets σ js (fun j => (σ'[j]?).join) → I (fun j => (σ'[j]?).join) H' → N' σ' H') → t { D with nx := N' } σ H)
    (hN : ∀ f H', I f H' → D.nx (sets σ js f) H') : t D σ H := h D.nx fun σ' H' e i => by rw [e]; exact hN _ H' i
def LcR (J : It) (g : TG) (tt : TT) (te : TE) (vs : List Nat) (σ : St) (H1 : Hp) (Q : VK) : Prop := ∀ D, H1 D = none → ∃ W : Nat → Nat → Hp → Prop, (∃ m, W 0 m (upd H1 D (.lst []))) ∧ ∀ i m H, W i m H →
  (J.stop i H ∧ Q (.ref D) H) ∨ (J.go i H ∧ ∃ Nx : Hp → Prop, (∀ H', Nx H' → ∃ m', m' < m ∧ W (i + 1) m' H') ∧ ∀ x H', J.yld i H x H' → g x (wipe σ vs) H' fun σ2 H2 => wipe σ2 vs = wipe σ vs ∧ tt σ2 H2 fun b H3 =>
    if b = true then te σ2 H3 fun y H4 => ∃ acc, H4 D = some (.lst acc) ∧ acc.length < sizeLine ∧ Nx (upd H4 D (.lst (acc ++ [y]))) else Nx H3)
theorem s_lc {wi : TI} {g : TG} {tt : TT} {te : TE} {vs : List Nat} (h : wi σ H fun J H1 => LcR J g tt te vs σ H1 Q) : tLc wi g tt te vs σ H Q := h
/-- what may happen to the heap at a turn -/
structure Stp (H1 : Hp) (S : Hp → Hp → Prop) : Prop where
  s0 : S H1 H1
  tr : ∀ A B, S H1 A → S A B → S H1 B
  new : ∀ A p o, S H1 A → H1 p = none → S H1 (upd A p o)
  ki : ∀ A B, S A B → KI A B
  keep : ∀ A B p ys, H1 p = none → S H1 A → S A B → A p = some (.lst ys) → B p = some (.lst ys)
theorem stp_same (H1 : Hp) : Stp H1 Same := ⟨Same.refl _, fun _ _ a b => a.trans b, fun _ _ _ a n => same_mut a n, fun _ _ a => ki_same a, fun _ _ _ _ _ _ b e => b _ _ e⟩
def ButB (b l : Addr) : Hp → Hp → Prop := fun A B => But b A B ∧ Bag B b l
theorem stp_but {b l : Addr} {H1 : Hp} (h : Bag H1 b l) : Stp H1 (ButB b l) :=
  ⟨⟨But.ofSame h (Same.refl _), h⟩, fun _ _ a c => ⟨a.1.trans c.1, c.2⟩, fun _ _ _ a n => ⟨but_mut a.1 n, a.2.upd (h.ne1 n) (h.ne2 n)⟩, fun _ _ a => ki_but a.1, fun _ _ _ _ n _ c e => c.1.oth _ _ (h.ne1 n) e⟩
/-- the turns of a list comprehension without a test, over any things that come one by one -/
theorem A2.at {α β : Type} {R : α → β → Prop} : ∀ {xs : List α} {ys : List β}, A2 R xs ys → ∀ {i : Nat} {x : α}, xs[i]? = some x → ∃ y, ys[i]? = some y ∧ R x y
  | _, _, .cons a _, 0, _, e => ⟨_, rfl, by cases e; exact a⟩
  | _, _, .cons _ b, i + 1, _, e => A2.at b (i := i) e
theorem c_core {α : Type} {g : TG} {te : TE} {vs : List Nat} {H1 : Hp} {xs : List V} {zs : List α} {S : Hp → Hp → Prop} (St : Stp H1 S) (P : Hp → V → α → Prop) (R : Hp → α → V → Prop) (pm : ∀ A B x z, KI A B → P A x z → P B x z) (rm : ∀ A B z y, KI A B → R A z y → R B z y)
    (hx : A2 (P H1) xs zs) (hz : xs.length ≤ 1000) {J : It}
    (turn : ∀ x z A (N : V → Hp → Prop), z ∈ zs → P A x z → S H1 A → (∀ y B, S A B → R B z y → N y B) → g x (wipe σ vs) A fun σ2 B => wipe σ2 vs = wipe σ vs ∧ te σ2 B N)
    (fin : ∀ p ys A, S H1 A → H1 p = none → A p = some (.lst ys) → A2 (R A) zs ys → Q (.ref p) A)
    (run : ∀ (D : Addr) (Pv : Nat → Hp → Prop), Pv 0 (upd H1 D (.lst [])) → (∀ i H, Pv i H → S H1 H) →
      (∀ i x H, xs[i]? = some x → Pv i H → g x (wipe σ vs) H fun σ2 H2 => wipe σ2 vs = wipe σ vs ∧ tYes σ2 H2 fun b H3 => if b = true then te σ2 H3 fun y H4 => ∃ acc, H4 D = some (.lst acc) ∧ acc.length < sizeLine ∧ Pv (i + 1) (upd H4 D (.lst (acc ++ [y]))) else Pv (i + 1) H3) →
      (∀ H, Pv xs.length H → Q (.ref D) H) →
      ∃ W : Nat → Nat → Hp → Prop, (∃ m, W 0 m (upd H1 D (.lst []))) ∧ ∀ i m H, W i m H →
      (J.stop i H ∧ Q (.ref D) H) ∨ (J.go i H ∧ ∃ Nx : Hp → Prop, (∀ H', Nx H' → ∃ m', m' < m ∧ W (i + 1) m' H') ∧ ∀ x H', J.yld i H x H' → g x (wipe σ vs) H' fun σ2 H2 => wipe σ2 vs = wipe σ vs ∧ tYes σ2 H2 fun b H3 =>
        if b = true then te σ2 H3 fun y H4 => ∃ acc, H4 D = some (.lst acc) ∧ acc.length < sizeLine ∧ Nx (upd H4 D (.lst (acc ++ [y]))) else Nx H3)) :
    LcR J g tYes te vs σ H1 Q := by
  intro p hp
  have lx := hx.len
  refine run p (fun i A => i ≤ xs.length ∧ S H1 A ∧ ∃ ys, A p = some (.lst ys) ∧ A2 (R A) (zs.take i) ys) ⟨Nat.zero_le _, St.new _ _ _ St.s0 hp, [], upd_same, .nil⟩ (fun i A h => h.2.1) ?_ ?_
  · rintro i x A e ⟨hi, hs, ys, h1, h2⟩
    obtain ⟨z, ez, pz⟩ := hx.at e
    refine turn x z A _ (List.mem_of_getElem? ez) (pm _ _ _ _ (St.ki _ _ hs) pz) hs fun y B sb r => ?_
    have hlt : i < xs.length := (List.getElem?_eq_some_iff.mp e).1
    have e3 := St.keep _ _ _ _ hp hs sb h1
    have hl : ys.length = i := by rw [← h2.len, List.length_take]; omega
    have k : KI B (upd B p (.lst (ys ++ [y]))) := ki_mut e3 rfl
    refine ⟨ys, e3, L2.small1000 (by omega), by omega, St.new _ _ _ (St.tr _ _ hs sb) hp, ys ++ [y], upd_same, ?_⟩
    have et : zs.take (i + 1) = zs.take i ++ [z] := by rw [List.take_add_one, ez]; rfl
    rw [et]
    exact .snoc (rm _ _ _ _ k r) (h2.mono fun u v z => rm _ _ _ _ k (rm _ _ _ _ (St.ki _ _ sb) z))
  · rintro A ⟨_, hs, ys, h1, h2⟩
    rw [lx, List.take_length] at h2
    exact fin p ys A hs hp h1 h2
theorem c_list {α : Type} {a : Addr} {xs : List V} {zs : List α} {g : TG} {te : TE} {vs : List Nat} {S : Hp → Hp → Prop} (St : Stp H S) (P : Hp → V → α → Prop) (R : Hp → α → V → Prop) (pm : ∀ A B x z, KI A B → P A x z → P B x z) (rm : ∀ A B z y, KI A B → R A z y → R B z y)
    (hl : ∀ A, S H A → SqL K A a xs) (hx : A2 (P H) xs zs) (hz : xs.length ≤ 1000)
    (turn : ∀ x z A (N : V → Hp → Prop), z ∈ zs → P A x z → S H A → (∀ y B, S A B → R B z y → N y B) → g x (wipe σ vs) A fun σ2 B => wipe σ2 vs = wipe σ vs ∧ te σ2 B N)
    (fin : ∀ p ys A, S H A → H p = none → A p = some (.lst ys) → A2 (R A) zs ys → Q (.ref p) A) : LcR (Itl K a) g tYes te vs σ H Q :=
  c_core St P R pm rm hx hz turn fin fun _ Pv h0 hS hs hd => lc_list Pv h0 (fun i A _ p => hl A (hS i A p)) hs hd
/-- over a list of these, things of the heap laid alone -/
theorem c_listS {α : Type} {a : Addr} {xs : List V} {zs : List α} {g : TG} {te : TE} {vs : List Nat} (P : Hp → V → α → Prop) (R : Hp → α → V → Prop) (pm : ∀ A B x z, KI A B → P A x z → P B x z) (rm : ∀ A B z y, KI A B → R A z y → R B z y)
    (hs : SqL K H a xs) (hx : A2 (P H) xs zs) (hz : xs.length ≤ 1000)
    (turn : ∀ x z A (N : V → Hp → Prop), z ∈ zs → P A x z → Same H A → (∀ y B, Same A B → R B z y → N y B) → g x (wipe σ vs) A fun σ2 B => wipe σ2 vs = wipe σ vs ∧ te σ2 B N)
    (fin : ∀ p ys A, Same H A → H p = none → A p = some (.lst ys) → A2 (R A) zs ys → Q (.ref p) A) : LcR (Itl K a) g tYes te vs σ H Q :=
  c_list (stp_same H) P R pm rm (fun _ s => s.seq hs) hx hz turn fin
theorem a2_range {lo : Int} (n : Nat) : A2 (fun (x : V) (i : Nat) => x = .int (lo + i)) ((List.range n).map fun (i : Nat) => V.int (lo + i)) (List.range n) := by
  induction n with
  | zero => exact .nil
  | succ n ih => rw [List.range_succ, List.map_append]; exact A2.snoc (R := fun (x : V) (i : Nat) => x = .int (lo + i)) rfl ih
theorem c_range {lo : Int} {n : Nat} {g : TG} {te : TE} {vs : List Nat} {S : Hp → Hp → Prop} (St : Stp H S) (R : Hp → Nat → V → Prop) (rm : ∀ A B z y, KI A B → R A z y → R B z y) (hz : n ≤ 1000)
    (turn : ∀ (i : Nat) A (N : V → Hp → Prop), i < n → S H A → (∀ y B, S A B → R B i y → N y B) → g (.int (lo + i)) (wipe σ vs) A fun σ2 B => wipe σ2 vs = wipe σ vs ∧ te σ2 B N)
    (fin : ∀ p ys A, S H A → H p = none → A p = some (.lst ys) → A2 (R A) (List.range n) ys → Q (.ref p) A) : LcR (Itr lo n) g tYes te vs σ H Q := by
  have hl : ((List.range n).map fun (i : Nat) => V.int (lo + i)).length = n := by rw [List.length_map, List.length_range]
  refine c_core (xs := (List.range n).map fun (i : Nat) => V.int (lo + i)) (zs := List.range n) St (fun _ x i => x = .int (lo + i)) R (fun _ _ _ _ _ h => h) rm (a2_range n) (by omega) (fun x i A N hm e s k => ?_) fin fun _ Pv h0 hS hs hd => lc_range Pv h0 (fun i A hi p => hs i _ A (by rw [List.getElem?_map, List.getElem?_range hi]; rfl) p) (by rw [hl] at hd; exact hd)
  subst e
  exact turn i A N (List.mem_range.mp hm) s k
-- int(x), x is None
def rIntU : List V → Hp → VK → Prop := fun xs H Q => (∃ i, xs = [.int i] ∧ Q (.int i) H) ∨ ∃ k, xs = [.bl k] ∧ Q (.int (if k then 1 else 0)) H
theorem call_intU {X : Cx} : CallR X (.type "int") rIntU := call_int1
theorem s_intB {b : Bool} (h : Q (.int (if b = true then 1 else 0)) H) : rIntU [.bl b] H Q := .inr ⟨b, rfl, h⟩
theorem s_intT (h : Q (.int 1) H) : rIntU [.bl true] H Q := s_intB h
theorem s_intF (h : Q (.int 0) H) : rIntU [.bl false] H Q := s_intB h
theorem s_intBt {c : Prop} {inst : Decidable c} (h0 : c) (h : Q (.int 1) H) : rIntU [.bl (@decide c inst)] H Q := s_intB (by rw [decide_eq_true h0]; exact h)
theorem s_intBf {c : Prop} {inst : Decidable c} (h0 : ¬ c) (h : Q (.int 0) H) : rIntU [.bl (@decide c inst)] H Q := s_intB (by rw [decide_eq_false h0]; exact h)
theorem s_intI {i : Int} (h : Q (.int i) H) : rIntU [.int i] H Q := .inl ⟨i, rfl, h⟩
def rIsU : R2 := fun x y H Q => y = .non ∧ Q (.bl (decide (x = .non))) H
theorem op_isU {X : Cx} : OpR X (compareOp .Is) rIsU := op_isN
def rNotU : R2 := fun x y H Q => y = .non ∧ Q (.bl (!decide (x = .non))) H
theorem op_notU {X : Cx} : OpR X (compareOp .IsNot) rNotU := op_notN
theorem s_isNN (h : Q (.bl true) H) : rIsU .non .non H Q := ⟨rfl, by rw [decide_eq_true rfl]; exact h⟩
theorem s_isRN {a : Addr} (h : Q (.bl false) H) : rIsU (.ref a) .non H Q := ⟨rfl, by rw [decide_eq_false (fun z => by cases z)]; exact h⟩
theorem s_isTN {x : V} {ds : List PyData} (hx : Dt K H x (.tuple ds)) (h : Q (.bl false) H) : rIsU x .non H Q := by
  obtain ⟨a, xs, rfl, _⟩ := hx.tup_inv
  exact s_isRN h
theorem s_isFN {x : V} {r : Rat} (hx : Dt K H x (fr r)) (h : Q (.bl false) H) : rIsU x .non H Q := s_isTN (ds := [.int r.num, .int r.den]) hx h
theorem s_ntNN (h : Q (.bl false) H) : rNotU .non .non H Q := ⟨rfl, by rw [decide_eq_true rfl]; exact h⟩
theorem s_ntRN {a : Addr} (h : Q (.bl true) H) : rNotU (.ref a) .non H Q := ⟨rfl, by rw [decide_eq_false (fun z => by cases z)]; exact h⟩
theorem s_ntTN {x : V} {ds : List PyData} (hx : Dt K H x (.tuple ds)) (h : Q (.bl true) H) : rNotU x .non H Q := by
  obtain ⟨a, xs, rfl, _⟩ := hx.tup_inv
  exact s_ntRN h
theorem s_ntFN {x : V} {r : Rat} (hx : Dt K H x (fr r)) (h : Q (.bl true) H) : rNotU x .non H Q := s_ntTN (ds := [.int r.num, .int r.den]) hx h
theorem s_eqFt {x y : V} {d e : Rat} (hx : Dt K H x (fr d)) (hy : Dt K H y (fr e)) (h0 : d = e) (h : Q (.bl true) H) : rEqD K x y H Q := s_eqF hx hy (by rw [decide_eq_true h0]; exact h)
theorem s_eqFf {x y : V} {d e : Rat} (hx : Dt K H x (fr d)) (hy : Dt K H y (fr e)) (h0 : ¬ d = e) (h : Q (.bl false) H) : rEqD K x y H Q := s_eqF hx hy (by rw [decide_eq_false h0]; exact h)
theorem s_neFt {x y : V} {d e : Rat} (hx : Dt K H x (fr d)) (hy : Dt K H y (fr e)) (h0 : d = e) (h : Q (.bl false) H) : rNeD K x y H Q := s_neF hx hy (by rw [decide_eq_true h0]; exact h)
theorem s_neFf {x y : V} {d e : Rat} (hx : Dt K H x (fr d)) (hy : Dt K H y (fr e)) (h0 : ¬ d = e) (h : Q (.bl true) H) : rNeD K x y H Q := s_neF hx hy (by rw [decide_eq_false h0]; exact h)
theorem s_eqBB {i : Bool} (h : Q (.bl true) H) : rEqD K (.bl i) (.bl i) H Q := s_eqB (by rw [decide_eq_true rfl]; exact h)
theorem s_neBB {i : Bool} (h : Q (.bl false) H) : rNeD K (.bl i) (.bl i) H Q := s_neB (by rw [decide_eq_true rfl]; exact h)
theorem s_neFT (h : Q (.bl true) H) : rNeD K (.bl false) (.bl true) H Q := s_neB h
theorem s_neTF (h : Q (.bl true) H) : rNeD K (.bl true) (.bl false) H Q := s_neB h
theorem s_eqFT (h : Q (.bl false) H) : rEqD K (.bl false) (.bl true) H Q := s_eqB h
theorem s_eqTF (h : Q (.bl false) H) : rEqD K (.bl true) (.bl false) H Q := s_eqB h
theorem dt_zn {p : Addr} (n : H p = none) : Dt K (upd H p (.tup [.int 0, .int 1])) (.ref p) (fr 0) := dt_new (ds := [.int 0, .int 1]) (.cons (.int 0) (.cons (.int 1) .nil)) n
theorem dt_1n {p : Addr} (n : H p = none) : Dt K (upd H p (.tup [.int 1, .int 1])) (.ref p) (fr 1) := dt_new (ds := [.int 1, .int 1]) (.cons (.int 1) (.cons (.int 1) .nil)) n
theorem Dt.non_eq {v : V} (h : Dt K H v .none) : v = .non := by cases h; rfl
theorem s_cutI {c : Bool} {t u : TS} (js : List Nat) (I : (Nat → Option V) → Hp → Prop) (h : ∀ N' : St → Hp → Prop, (∀ σ' H', σ' = sets σ js (fun j => (σ'[j]?).join) → I (fun j => (σ'[j]?).join) H' → N' σ' H') → if c = true then t { D with nx := N' } σ H else u { D with nx := N' } σ H)
    (hN : ∀ f H', I f H' → D.nx (sets σ js f) H') : if c = true then t D σ H else u D σ H := h D.nx fun σ' H' e i => by rw [e]; exact hN _ H' i
theorem s_neNN (h : Q (.bl false) H) : rNeD K .non .non H Q := ⟨_, _, .non, .non, rfl, rfl, by simpa [PyData.eqv] using h⟩
theorem s_eqNN (h : Q (.bl true) H) : rEqD K .non .non H Q := ⟨_, _, .non, .non, rfl, rfl, by simpa [PyData.eqv] using h⟩
theorem eqv2 (a b c d : Rat) : PyData.eqv (.tuple [fr a, fr b]) (.tuple [fr c, fr d]) = decide (a = c ∧ b = d) := by
  have e : PyData.eqv (.tuple [fr a, fr b]) (.tuple [fr c, fr d]) = (PyData.eqv (fr a) (fr c) && (PyData.eqv (fr b) (fr d) && true)) := by simp only [PyData.eqv, PyData.eqvAll]
  rw [e, eqvfr, eqvfr]
  by_cases h1 : a = c <;> by_cases h2 : b = d <;> simp [h1, h2]
theorem s_eqP {x y : V} {a b c d : Rat} (hx : Dt K H x (.tuple [fr a, fr b])) (hy : Dt K H y (.tuple [fr c, fr d])) (h : Q (.bl (decide (a = c ∧ b = d))) H) : rEqD K x y H Q := s_eqD hx hy (sh2 a b) (sh2 c d) (by rw [eqv2]; exact h)
theorem s_neP {x y : V} {a b c d : Rat} (hx : Dt K H x (.tuple [fr a, fr b])) (hy : Dt K H y (.tuple [fr c, fr d])) (h : Q (.bl (!decide (a = c ∧ b = d))) H) : rNeD K x y H Q := s_neD hx hy (sh2 a b) (sh2 c d) (by rw [eqv2]; exact h)
theorem s_eqPf {x y : V} {a b c d : Rat} (hx : Dt K H x (.tuple [fr a, fr b])) (hy : Dt K H y (.tuple [fr c, fr d])) (n : ¬ (a = c ∧ b = d)) (h : Q (.bl false) H) : rEqD K x y H Q := s_eqP hx hy (by rw [decide_eq_false n]; exact h)
theorem s_nePf {x y : V} {a b c d : Rat} (hx : Dt K H x (.tuple [fr a, fr b])) (hy : Dt K H y (.tuple [fr c, fr d])) (n : ¬ (a = c ∧ b = d)) (h : Q (.bl true) H) : rNeD K x y H Q := s_neP hx hy (by rw [decide_eq_false n]; exact h)
/-- l.index(x) -/
theorem s_index {a : Addr} {vs : List V} {ds : List PyData} {y : V} {d : PyData} (j : Nat) {z : PyData} (hs : SqL K H a vs) (ha : DtAll K H vs ds) (hy : Dt K H y d) (sl : SeqAt.shaped (.list ds) = true) (sd : SeqAt.shaped d = true) (e : ds[j]? = some z) (ez : PyData.eqv z d = true)
    (no : ∀ (m : Nat) (z' : PyData), m < j → ds[m]? = some z' → PyData.eqv z' d = false) (h : Q (.int (j : Nat)) H) : rIndexD K (.ref a) [y] H Q :=
  ⟨a, y, d, ds, j, z, rfl, rfl, .lst hs ha.dp, hy.dp, sl, sd, e, ez, no, h⟩
theorem sh22 (a b c d : Rat) : SeqAt.shaped (.list [.tuple [fr a, fr b], .tuple [fr c, fr d]]) = true := rfl
theorem s_idx0 {p : Addr} {v0 v1 y : V} {a b c d : Rat} (hs : SqL K H p [v0, v1]) (h0 : Dt K H v0 (.tuple [fr a, fr b])) (h1 : Dt K H v1 (.tuple [fr c, fr d])) (hy : Dt K H y (.tuple [fr a, fr b])) (h : Q (.int 0) H) : rIndexD K (.ref p) [y] H Q :=
  s_index 0 hs (.cons h0 (.cons h1 .nil)) hy (sh22 a b c d) (sh2 a b) rfl (by rw [eqv2, decide_eq_true ⟨rfl, rfl⟩]) (fun m _ hm _ => absurd hm (Nat.not_lt_zero _)) h
theorem s_idx1 {p : Addr} {v0 v1 y : V} {a b c d : Rat} (hs : SqL K H p [v0, v1]) (h0 : Dt K H v0 (.tuple [fr a, fr b])) (h1 : Dt K H v1 (.tuple [fr c, fr d])) (hy : Dt K H y (.tuple [fr c, fr d])) (n : ¬ (a = c ∧ b = d)) (h : Q (.int 1) H) : rIndexD K (.ref p) [y] H Q :=
  s_index 1 hs (.cons h0 (.cons h1 .nil)) hy (sh22 a b c d) (sh2 c d) rfl (by rw [eqv2, decide_eq_true ⟨rfl, rfl⟩]) (fun m z' hm hz => by
    obtain rfl : m = 0 := by omega
    cases hz
    rw [eqv2, decide_eq_false n]) h
end
end Cr
namespace Cr
open PySem PySem.Spec PyProof.Rows L2
/-! ### tuples of any length taken apart and put together -/
section
variable {K : PySem.W.Frag} {σ : St} {H : Hp} {Q : VK} {D : Ends}
theorem DtAll.take {vs : List V} {ds : List PyData} (h : DtAll K H vs ds) : ∀ n : Nat, DtAll K H (vs.take n) (ds.take n) := by
  induction ds generalizing vs with
  | nil => cases h; intro n; rw [List.take_nil, List.take_nil]; exact .nil
  | cons d ds ih =>
    cases h with
    | cons h a =>
      intro n
      cases n with
      | zero => exact .nil
      | succ n => exact .cons h (ih a n)
theorem DtAll.drop {vs : List V} {ds : List PyData} (h : DtAll K H vs ds) : ∀ n : Nat, DtAll K H (vs.drop n) (ds.drop n) := by
  induction ds generalizing vs with
  | nil => cases h; intro n; rw [List.drop_nil, List.drop_nil]; exact .nil
  | cons d ds ih =>
    cases h with
    | cons h a =>
      intro n
      cases n with
      | zero => exact .cons h a
      | succ n => exact ih a n
theorem s_gtup {n : Nat} {t : TGs} {x : V} {ds : List PyData} {N : St → Hp → Prop} (hx : Dt K H x (.tuple ds)) (e : ds.length = n) (h : ∀ xs, DtAll K H xs ds → t xs σ H N) : gTup K n t x σ H N := by
  obtain ⟨a, xs, rfl, hs, ha⟩ := hx.tup_inv
  exact ⟨a, xs, rfl, hs, ha.len.trans e, h xs ha⟩
theorem s_gcons {t : TG} {u : TGs} {xs : List V} {d : PyData} {ds : List PyData} {N : St → Hp → Prop} (hx : DtAll K H xs (d :: ds)) (h : ∀ v r, Dt K H v d → DtAll K H r ds → t v σ H fun σ' H' => u r σ' H' N) : gCons t u xs σ H N := by
  cases hx with
  | cons a b => exact ⟨_, _, rfl, h _ _ a b⟩
theorem s_gnil {xs : List V} {N : St → Hp → Prop} (hx : DtAll K H xs []) (h : N σ H) : gNil xs σ H N := by
  cases hx
  exact ⟨rfl, h⟩
theorem cut_hi {α : Type} (xs : List α) {hi : Int} (h0 : 0 ≤ hi) : (xs.drop (HT.sIx xs.length 0 none)).take (HT.sIx xs.length xs.length (some hi) - HT.sIx xs.length 0 none) = xs.take hi.toNat := by
  obtain ⟨k, rfl⟩ : ∃ k : Nat, hi = (k : Int) := ⟨hi.toNat, by omega⟩
  rw [HT.sIx_nat, HT.sIx_none, List.drop_zero, Int.toNat_natCast, Nat.sub_zero]
  by_cases h : k ≤ xs.length
  · rw [Nat.min_eq_left h]
  · rw [Nat.min_eq_right (by omega), List.take_length, List.take_of_length_le (by omega)]
theorem cut_lo {α : Type} (xs : List α) {lo : Int} (h0 : 0 ≤ lo) : (xs.drop (HT.sIx xs.length 0 (some lo))).take (HT.sIx xs.length xs.length none - HT.sIx xs.length 0 (some lo)) = xs.drop lo.toNat := by
  obtain ⟨k, rfl⟩ : ∃ k : Nat, lo = (k : Int) := ⟨lo.toNat, by omega⟩
  rw [HT.sIx_nat, HT.sIx_none, Int.toNat_natCast]
  by_cases h : k ≤ xs.length
  · rw [Nat.min_eq_left h, List.take_of_length_le (by rw [List.length_drop]; omega)]
  · rw [Nat.min_eq_right (by omega), List.drop_eq_nil_of_le (Nat.le_refl _), List.drop_eq_nil_of_le (by omega), List.take_nil]
theorem cut_two {α : Type} (xs : List α) {lo hi : Int} (h0 : 0 ≤ lo) (h1 : 0 ≤ hi) : (xs.drop (HT.sIx xs.length 0 (some lo))).take (HT.sIx xs.length xs.length (some hi) - HT.sIx xs.length 0 (some lo)) = (xs.drop lo.toNat).take (hi.toNat - lo.toNat) := by
  obtain ⟨k, rfl⟩ : ∃ k : Nat, lo = (k : Int) := ⟨lo.toNat, by omega⟩
  obtain ⟨j, rfl⟩ : ∃ j : Nat, hi = (j : Int) := ⟨hi.toNat, by omega⟩
  rw [HT.sIx_nat, HT.sIx_nat, Int.toNat_natCast, Int.toNat_natCast]
  by_cases h : k ≤ xs.length
  · rw [Nat.min_eq_left h]
    by_cases g : j ≤ xs.length
    · rw [Nat.min_eq_left g]
    · rw [Nat.min_eq_right (by omega), List.take_of_length_le (by rw [List.length_drop]; omega), List.take_of_length_le (by rw [List.length_drop]; omega)]
  · rw [Nat.min_eq_right (show xs.length ≤ k by omega), List.drop_eq_nil_of_le (Nat.le_refl _), List.drop_eq_nil_of_le (by omega), List.take_nil, List.take_nil]
theorem cutV_hi (xs : List V) {hi : Int} (h0 : 0 ≤ hi) : cutV xs none (some hi) = xs.take hi.toNat := cut_hi xs h0
theorem cutV_lo (xs : List V) {lo : Int} (h0 : 0 ≤ lo) : cutV xs (some lo) none = xs.drop lo.toNat := cut_lo xs h0
theorem cutV_two (xs : List V) {lo hi : Int} (h0 : 0 ≤ lo) (h1 : 0 ≤ hi) : cutV xs (some lo) (some hi) = (xs.drop lo.toNat).take (hi.toNat - lo.toNat) := cut_two xs h0 h1
/-- t[:n], t[n:], t[n:m] of a tuple of data, never the whole -/
theorem s_slThi {x : V} {ds : List PyData} {hi : Int} (hx : Dt K H x (.tuple ds)) (h0 : 0 ≤ hi) (h1 : hi < ds.length) (h : ∀ v H', Same H H' → Dt K H' v (.tuple (ds.take hi.toNat)) → Q v H') : rSlU K x none (some hi) H Q := by
  obtain ⟨a, xs, rfl, hs, ha⟩ := hx.tup_inv
  have e := ha.len
  refine .inr ⟨a, xs, rfl, hs, fun z => ?_, fun p hp => h _ _ (same_new hp) ?_⟩
  · obtain ⟨k, rfl⟩ : ∃ k : Nat, hi = (k : Int) := ⟨hi.toNat, by omega⟩
    have z2 := z.2
    rw [HT.sIx_nat] at z2
    omega
  · rw [cutV_hi xs h0]
    exact dt_new (ha.take _) hp
theorem s_slTlo {x : V} {ds : List PyData} {lo : Int} (hx : Dt K H x (.tuple ds)) (h0 : 0 < lo) (h1 : 0 < ds.length) (h : ∀ v H', Same H H' → Dt K H' v (.tuple (ds.drop lo.toNat)) → Q v H') : rSlU K x (some lo) none H Q := by
  obtain ⟨a, xs, rfl, hs, ha⟩ := hx.tup_inv
  have e := ha.len
  refine .inr ⟨a, xs, rfl, hs, fun z => ?_, fun p hp => h _ _ (same_new hp) ?_⟩
  · obtain ⟨k, rfl⟩ : ∃ k : Nat, lo = (k : Int) := ⟨lo.toNat, by omega⟩
    have z1 := z.1
    rw [HT.sIx_nat] at z1
    omega
  · rw [cutV_lo xs (by omega)]
    exact dt_new (ha.drop _) hp
theorem s_slT2 {x : V} {ds : List PyData} {lo hi : Int} (hx : Dt K H x (.tuple ds)) (h0 : 0 < lo) (h1 : 0 ≤ hi) (h2 : 0 < ds.length) (h : ∀ v H', Same H H' → Dt K H' v (.tuple ((ds.drop lo.toNat).take (hi.toNat - lo.toNat))) → Q v H') : rSlU K x (some lo) (some hi) H Q := by
  obtain ⟨a, xs, rfl, hs, ha⟩ := hx.tup_inv
  have e := ha.len
  refine .inr ⟨a, xs, rfl, hs, fun z => ?_, fun p hp => h _ _ (same_new hp) ?_⟩
  · obtain ⟨k, rfl⟩ : ∃ k : Nat, lo = (k : Int) := ⟨lo.toNat, by omega⟩
    have z1 := z.1
    rw [HT.sIx_nat] at z1
    omega
  · rw [cutV_two xs (by omega) h1]
    exact dt_new ((ha.drop _).take _) hp
/-- tuple(xs), list(t) -/
theorem s_tupL {p : Addr} {ys : List V} {ds : List PyData} (hs : SqL K H p ys) (ha : DtAll K H ys ds) (h : ∀ v H', Same H H' → Dt K H' v (.tuple ds) → Q v H') : rTupU K [.ref p] H Q :=
  ⟨p, ys, rfl, .inl ⟨hs, fun l hl => h _ _ (same_new hl) (dt_new ha hl)⟩⟩
theorem s_tupT {x : V} {ds : List PyData} (hx : Dt K H x (.tuple ds)) (h : Q x H) : rTupU K [x] H Q := by
  obtain ⟨a, xs, rfl, hs, ha⟩ := hx.tup_inv
  exact ⟨a, xs, rfl, .inr ⟨hs, h⟩⟩
theorem s_listT {x : V} {ds : List PyData} (hx : Dt K H x (.tuple ds)) (h : ∀ l ys H', Same H H' → H l = none → H' l = some (.lst ys) → DtAll K H' ys ds → Q (.ref l) H') : rListU K [x] H Q := by
  obtain ⟨a, xs, rfl, hs, ha⟩ := hx.tup_inv
  exact ⟨a, xs, rfl, .inr hs, fun l hl => h l xs _ (same_new hl) hl upd_same (ha.mono (kt_new hl))⟩
theorem s_addTG {x y : V} {ds es : List PyData} (hx : Dt K H x (.tuple ds)) (hy : Dt K H y (.tuple es)) (n1 : ds ≠ []) (l : ds.length + es.length ≤ 1000) (h : ∀ v H', Same H H' → Dt K H' v (.tuple (ds ++ es)) → Q v H') : rAddU K x y H Q := by
  by_cases n2 : es = []
  · subst n2
    have hx2 := hx
    obtain ⟨a, xs, rfl, hs, ha⟩ := hx.tup_inv
    obtain ⟨b, ys, rfl, ht, hb⟩ := hy.tup_inv
    have e1 := ha.len
    have e2 := hb.len
    simp only [List.length_nil] at l e2
    obtain rfl : ys = [] := List.length_eq_zero_iff.mp e2
    refine .inr (.inr (.inr ⟨a, b, xs, [], rfl, rfl, hs, ht, fun z => n1 (by subst z; exact List.length_eq_zero_iff.mp e1.symm), Nat.le_of_lt (L2.small1000 (by simp only [List.length_nil]; omega)), fun _ => h _ _ (Same.refl _) (by rw [List.append_nil]; exact hx2), fun z => absurd rfl z⟩))
  · exact s_addT hx hy n1 n2 l h
theorem s_ixT6 {x : V} {d0 d1 d2 d3 d4 d5 d6 : PyData} {ds : List PyData} (hx : Dt K H x (.tuple (d0 :: d1 :: d2 :: d3 :: d4 :: d5 :: d6 :: ds))) (h : ∀ v, Dt K H v d6 → Q v H) : rIx K x (.int 6) H Q := s_ixT hx (atI_nat (j := 6) rfl) h
theorem s_ixT7 {x : V} {d0 d1 d2 d3 d4 d5 d6 d7 : PyData} {ds : List PyData} (hx : Dt K H x (.tuple (d0 :: d1 :: d2 :: d3 :: d4 :: d5 :: d6 :: d7 :: ds))) (h : ∀ v, Dt K H v d7 → Q v H) : rIx K x (.int 7) H Q := s_ixT hx (atI_nat (j := 7) rfl) h
theorem s_ixT8 {x : V} {d0 d1 d2 d3 d4 d5 d6 d7 d8 : PyData} {ds : List PyData} (hx : Dt K H x (.tuple (d0 :: d1 :: d2 :: d3 :: d4 :: d5 :: d6 :: d7 :: d8 :: ds))) (h : ∀ v, Dt K H v d8 → Q v H) : rIx K x (.int 8) H Q := s_ixT hx (atI_nat (j := 8) rfl) h
theorem s_ixT9 {x : V} {d0 d1 d2 d3 d4 d5 d6 d7 d8 d9 : PyData} {ds : List PyData} (hx : Dt K H x (.tuple (d0 :: d1 :: d2 :: d3 :: d4 :: d5 :: d6 :: d7 :: d8 :: d9 :: ds))) (h : ∀ v, Dt K H v d9 → Q v H) : rIx K x (.int 9) H Q := s_ixT hx (atI_nat (j := 9) rfl) h
theorem s_ixT10 {x : V} {d0 d1 d2 d3 d4 d5 d6 d7 d8 d9 d10 : PyData} {ds : List PyData} (hx : Dt K H x (.tuple (d0 :: d1 :: d2 :: d3 :: d4 :: d5 :: d6 :: d7 :: d8 :: d9 :: d10 :: ds))) (h : ∀ v, Dt K H v d10 → Q v H) : rIx K x (.int 10) H Q := s_ixT hx (atI_nat (j := 10) rfl) h
theorem last10 {α : Type} {a b c d e f g i j k : α} : [a, b, c, d, e, f, g, i, j, k].getLast? = some k := rfl
theorem s_ixTm1 {x : V} {ds : List PyData} {d : PyData} (hx : Dt K H x (.tuple ds)) (e : ds.getLast? = some d) (h : ∀ v, Dt K H v d → Q v H) : rIx K x (.int (-1)) H Q := by
  refine s_ixT hx (i := -1) ?_ h
  have hl : 0 < ds.length := by
    cases ds with
    | nil => cases e
    | cons _ _ => simp
  rw [List.getLast?_eq_getElem?] at e
  unfold atI ixN
  rw [if_neg (by omega)]
  rw [if_pos (by omega)]
  show ds[((-1 : Int) + ds.length).toNat]? = some d
  rw [← e]
  congr 1
  omega
theorem s_truL {p : Addr} {xs : List V} {N : Bool → Prop} (hs : SqL K H p xs) (h : N (!xs.isEmpty)) : ∃ k, TruV K (.ref p) H k ∧ N k := ⟨_, .inl ⟨xs, hs, rfl⟩, h⟩
theorem s_isBb {b : Bool} (h : Q (.bl true) H) : rIsB (.bl b) (.bl b) H Q := ⟨b, b, rfl, rfl, by rw [decide_eq_true rfl]; exact h⟩
theorem s_ntBb {b : Bool} (h : Q (.bl false) H) : rNotB (.bl b) (.bl b) H Q := ⟨b, b, rfl, rfl, by rw [decide_eq_true rfl]; exact h⟩
theorem s_ixLm1 {a : Addr} {xs : List V} {v : V} (hs : SqL K H a xs) (e : xs.getLast? = some v) (h : Q v H) : rIx K (.ref a) (.int (-1)) H Q := by
  refine s_ixL hs (i := -1) ?_ h
  have hl : 0 < xs.length := by
    cases xs with
    | nil => cases e
    | cons _ _ => simp
  rw [List.getLast?_eq_getElem?] at e
  unfold atI ixN
  rw [if_neg (by omega)]
  rw [if_pos (by omega)]
  show xs[((-1 : Int) + xs.length).toNat]? = some v
  rw [← e]
  congr 1
  omega
theorem ixN_nat {n j : Nat} (h : j < n) : ixN n (j : Int) = some j := by
  unfold ixN
  rw [if_pos (by omega), if_pos (by omega)]
  rfl
theorem DtAll.set {vs : List V} {ds : List PyData} {v : V} {d : PyData} (h : DtAll K H vs ds) (hv : Dt K H v d) : ∀ n : Nat, DtAll K H (vs.set n v) (ds.set n d) := by
  induction ds generalizing vs with
  | nil => cases h; intro n; exact .nil
  | cons d ds ih =>
    cases h with
    | cons h a =>
      intro n
      cases n with
      | zero => exact .cons hv a
      | succ n => exact .cons h (ih a n)
theorem s_isBl {a b : Bool} (h : Q (.bl (decide (a = b))) H) : rIsB (.bl a) (.bl b) H Q := ⟨a, b, rfl, rfl, h⟩
theorem s_ntBl {a b : Bool} (h : Q (.bl (!decide (a = b))) H) : rNotB (.bl a) (.bl b) H Q := ⟨a, b, rfl, rfl, h⟩
end
end Cr
namespace Cr
open PySem PySem.Spec PyProof.Rows L2
/-! ### texts: signs, names -/
def sign (c : Nat) : Str := ⟨#[c]⟩
/-- a name: one to twelve small letters -/
def Nm (x : Str) : Prop := 1 ≤ x.cps.size ∧ x.cps.size ≤ 12 ∧ ∀ c, c ∈ x.cps.toList → 97 ≤ c ∧ c ≤ 122
theorem str_app (a b : Str) : a ++ b = ⟨a.cps ++ b.cps⟩ := rfl
theorem join_signs : ∀ cs : List Nat, Txt.join ("" : Str) (cs.map sign) = ⟨cs.toArray⟩ := by
  intro cs
  show Builtin.Str.glued _ _ = _
  rw [StrLaws.glued_eq_join]
  have e : (("" : String) : Str) = ⟨#[]⟩ := by decide +kernel
  rw [e]
  induction cs with
  | nil => rfl
  | cons c cs ih =>
    cases cs with
    | nil => rfl
    | cons d r =>
      show sign c ++ ⟨#[]⟩ ++ Str.join ⟨#[]⟩ (sign d :: r.map sign) = _
      rw [show sign d :: r.map sign = (d :: r).map sign from rfl, ih]
      simp [str_app, sign]
def rJoinU (K : PySem.W.Frag) : V → List V → Hp → VK → Prop := fun x xs H Q => ∃ a p, ∃ ys : List Str, x = .str a ∧ xs = [.ref p] ∧ (SqL K H p (ys.map V.str) ∨ SqT K H p (ys.map V.str)) ∧ (ys.map (·.length)).sum + ys.length * a.length ≤ 16777216 ∧ Q (.str (Txt.join a ys)) H
theorem pe_joinU {X : Cx} {o e : Expr} {to te : TE} {apos pos : Pos} (ho : PE X o to) (he : PE X e te) (hs : starEach [e] X.env = [(false, eval e X.env)] := by rfl) (hbase : attributeBase o "join" X.env (eval o X.env) = eval o X.env := by rfl) (hline : (apos.endLine == pos.line) = true := by rfl) :
    PE X (.Call (.Attribute o "join" apos) [e] [] pos) (tM1 (rJoinU X.K) to te) := pe_join ho he hs hbase hline
theorem small_sum : ∀ ys : List Str, (∀ y, y ∈ ys → y.length ≤ 1000) → (ys.map (·.length)).sum ≤ 1000 * ys.length
  | [], _ => Nat.le_refl _
  | y :: ys, h => by
    have h1 := h y List.mem_cons_self
    have h2 := small_sum ys fun z hz => h z (List.mem_cons_of_mem _ hz)
    rw [List.map_cons, List.sum_cons, List.length_cons]
    omega
theorem abc_list : (("abcdefghijklmnopqrstuvwxyz" : String) : Str).cps.toList = (List.range 26).map (97 + ·) := by decide +kernel
theorem abch_cps : (("abcdefgh" : String) : Str).cps = #[97, 98, 99, 100, 101, 102, 103, 104] := by decide +kernel
def rInsertU : V → List V → Hp → VK → Prop := fun x vs H Q => ∃ (l : Addr) (xs : List V) (i : Int) (y : V), x = .ref l ∧ vs = [.int i, y] ∧ H l = some (.lst xs) ∧ xs.length < sizeLine ∧ 0 ≤ i ∧ i < 2 ^ 63 ∧ Q .non (upd H l (.lst (xs.take i.toNat ++ [y] ++ xs.drop i.toNat)))
theorem mt_insertU {X : Cx} : MtR X "list.insert" rInsertU := mt_insert
def TaQ (x : V) (N : Prop) : Prop := (∃ a, x = V.str a) ∧ N
section
variable {K : PySem.W.Frag} {σ : St} {H : Hp} {Q : VK} {D : Ends}
theorem s_m1 {r : V → List V → Hp → VK → Prop} {to te : TE} (h : to σ H fun x H1 => TaQ x (te σ H1 fun y H2 => r x [y] H2 Q)) : tM1 r to te σ H Q := h
theorem s_isStr {a : Str} {N : Prop} (h : N) : TaQ (.str a) N := ⟨⟨a, rfl⟩, h⟩
theorem s_join {p : Addr} {a : Str} {ys : List Str} (hs : SqL K H p (ys.map V.str)) (hl : (ys.map (·.length)).sum + ys.length * a.length ≤ 16777216) (h : Q (.str (Txt.join a ys)) H) : rJoinU K (.str a) [.ref p] H Q := ⟨a, p, ys, rfl, rfl, .inl hs, hl, h⟩
theorem s_abc {k : Int} (h0 : 0 ≤ k) (h1 : k < 26) (h : ∀ c, 97 ≤ c → c ≤ 122 → Q (.str (sign c)) H) : rIx K (.str ("abcdefghijklmnopqrstuvwxyz" : String)) (.int k) H Q := by
  obtain ⟨j, rfl⟩ : ∃ j : Nat, k = (j : Int) := ⟨k.toNat, by omega⟩
  refine s_ixS (c := 97 + j) (by decide +kernel) (atI_nat ?_) (h _ (by omega) (by omega))
  rw [abc_list, List.getElem?_map, List.getElem?_range (by omega)]
  rfl
theorem eqV_str (x y : Str) : eqV (.str x) (.str y) = decide (x = y) := by
  show (x == y) = _
  by_cases h : x = y
  · subst h; simp
  · rw [decide_eq_false h]; exact beq_eq_false_iff_ne.mpr h
theorem inV_strs (x : Str) : ∀ ys : List Str, inV (.str x) (ys.map V.str) = decide (x ∈ ys)
  | [] => rfl
  | y :: ys => by
    have ih := inV_strs x ys
    unfold inV at ih ⊢
    rw [List.map_cons, List.any_cons, ih, eqV_str]
    by_cases h : y = x
    · subst h; simp
    · rw [decide_eq_false h, Bool.false_or]
      by_cases g : x ∈ ys
      · rw [decide_eq_true g, decide_eq_true (List.mem_cons_of_mem _ g)]
      · rw [decide_eq_false g, decide_eq_false (fun z => (List.mem_cons.mp z).elim (fun e => h e.symm) g)]
theorem flat_strs (ys : List Str) : (ys.map V.str).all flatV = true := by
  rw [List.all_map, List.all_eq_true]
  intro _ _
  rfl
theorem s_inS {p : Addr} {x : Str} {ys : List Str} (hs : SqL K H p (ys.map V.str)) (h : Q (.bl (decide (x ∈ ys))) H) : rIn K false (.str x) (.ref p) H Q :=
  ⟨p, _, rfl, .inl hs, rfl, flat_strs ys, by rw [inV_strs]; exact h⟩
theorem s_ntInS {p : Addr} {x : Str} {ys : List Str} (hs : SqL K H p (ys.map V.str)) (h : Q (.bl (!decide (x ∈ ys))) H) : rIn K true (.str x) (.ref p) H Q :=
  ⟨p, _, rfl, .inl hs, rfl, flat_strs ys, by rw [inV_strs]; exact h⟩
def takeS (x : Str) (n : Nat) : Str := ⟨(x.cps.toList.take n).toArray⟩
def dropS (x : Str) (n : Nat) : Str := ⟨(x.cps.toList.drop n).toArray⟩
theorem s_slShi {x : Str} {hi : Int} (l : x.length ≤ sizeLine) (h0 : 0 ≤ hi) (h : Q (.str (takeS x hi.toNat)) H) : rSlS (.str x) none (some hi) H Q :=
  ⟨x, rfl, l, by
    unfold cutS
    rw [show x.length = x.cps.toList.length from rfl, cut_hi _ h0]
    exact h⟩
theorem s_slSlo {x : Str} {lo : Int} (l : x.length ≤ sizeLine) (h0 : 0 ≤ lo) (h : Q (.str (dropS x lo.toNat)) H) : rSlS (.str x) (some lo) none H Q :=
  ⟨x, rfl, l, by
    unfold cutS
    rw [show x.length = x.cps.toList.length from rfl, cut_lo _ h0]
    exact h⟩
theorem f_str {x : Str} {g : TG} {tb : TS} (Pv : Nat → St → Hp → Prop) (h0 : Pv 0 σ H)
    (hs : ∀ i c σ H, x.cps[i]? = some c → Pv i σ H → g (.str (sign c)) σ H fun σ2 H2 => tb { D with nx := Pv (i + 1), ct := Pv (i + 1), bk := D.nx } σ2 H2) (hd : ∀ σ H, Pv x.cps.size σ H → D.nx σ H) : ForR (Its x) g tb D σ H := by
  refine ⟨fun i m σ' H' => m = x.cps.size - i ∧ i ≤ x.cps.size ∧ Pv i σ' H', ⟨_, rfl, Nat.zero_le _, h0⟩, ?_⟩
  rintro i m σ' H' ⟨rfl, hi, p⟩
  by_cases hlt : i < x.cps.size
  · refine .inr ⟨hlt, Pv (i + 1), fun σ2 H2 p' => ⟨x.cps.size - (i + 1), by omega, rfl, hlt, p'⟩, fun v H2 y => ?_⟩
    obtain ⟨e, c, ec, ev⟩ := y
    subst e ev
    exact hs i c _ _ ec p
  · have e : i = x.cps.size := by omega
    subst e
    exact .inl ⟨Nat.le_refl _, hd _ _ p⟩
theorem s_iStr {te : TE} {R : It → Hp → Prop} (h : te σ H fun v H1 => ∃ x, v = .str x ∧ R (Its x) H1) : iStr te σ H R := h
theorem s_isIts {x : Str} {N : Str → Prop} (h : N x) : ∃ y, V.str x = .str y ∧ N y := ⟨x, rfl, h⟩
end
end Cr
namespace Cr
open PySem PySem.Spec PyProof.Rows L2
/-! ### dicts; fields and methods of small instances -/
def GetA (x : V) (H : Hp) (N : Addr → Prop) : Prop := ∃ a, x = .ref a ∧ IsD H a ∧ N a
def GetB (a : Addr) (y : V) (H : Hp) (N : Option V → Prop) : Prop := ∃ o, DGet H a y o ∧ N o
def PutQ (x y v : V) (H : Hp) (N : Hp → Prop) : Prop := ∃ a H4, x = .ref a ∧ DPut H a y v H4 ∧ N H4
section
variable {K : PySem.W.Frag} {σ : St} {H : Hp} {Q : VK} {D : Ends}
theorem s_dget2 {td ty tx : TE} (h : td σ H fun x H1 => GetA x H1 fun a => ty σ H1 fun y H2 => tx σ H2 fun z H3 => GetB a y H3 fun o => Q (o.getD z) H3) : tDGet2 td ty tx σ H Q := h
theorem s_dput {td ty tv : TE} (h : tv σ H fun v H1 => td σ H1 fun x H2 => ty σ H2 fun y H3 => PutQ x y v H3 fun H4 => D.nx σ H4) : sDPut td ty tv D σ H := h
theorem s_getA {d : Addr} {kvs : List (Key × V)} {N : Addr → Prop} (hd : H d = some (.dK kvs)) (h : N d) : GetA (.ref d) H N := ⟨d, rfl, .inl ⟨kvs, .inl hd⟩, h⟩
theorem s_getBS {d : Addr} {kvs : List (Key × V)} {s : Str} {N : Option V → Prop} (hd : H d = some (.dK kvs)) (h : N (valV kvs (.inr s))) : GetB d (.str s) H N := ⟨_, DGet.k (k := .inr s) hd, h⟩
theorem s_getBI {d : Addr} {kvs : List (Key × V)} {i : Int} {N : Option V → Prop} (hd : H d = some (.dK kvs)) (h : N (valV kvs (.inl i))) : GetB d (.int i) H N := ⟨_, DGet.k (k := .inl i) hd, h⟩
theorem s_putS {d : Addr} {kvs : List (Key × V)} {s : Str} {v : V} {N : Hp → Prop} (hd : H d = some (.dK kvs)) (hl : kvs.length < sizeLine) (h : N (upd H d (.dK (putK kvs (.inr s) v)))) : PutQ (.ref d) (.str s) v H N := ⟨d, _, rfl, DPut.k (k := .inr s) hd hl, h⟩
theorem s_dnewK (h : ∀ p, H p = none → Q (.ref p) (upd H p (.dK []))) : tDNewK σ H Q := h
theorem s_eqII {i : Int} (h : Q (.bl true) H) : rEqD K (.int i) (.int i) H Q := s_eqI (by rw [decide_eq_true rfl]; exact h)
theorem s_neII {i : Int} (h : Q (.bl false) H) : rNeD K (.int i) (.int i) H Q := s_neI (by rw [decide_eq_true rfl]; exact h)
theorem s_fld1 {a : Addr} {C dx : Addr} {f : Str} {v : V} (hx : H a = some (.ins C dx [(f, v)])) (c : Cls K C) (n : NoAttr K C f) (q : Q v H) : FldQ K (.ref a) f H Q :=
  ⟨a, C, dx, _, v, rfl, hx, c, n, by rw [List.lookup_cons, beq_self_eq_true], q⟩
theorem s_meth1 {C a dx : Addr} {f mn : Str} {v : V} {N : Prop} (hx : H a = some (.ins C dx [(f, v)])) (e : (mn == f) = false) (n : N) : MethQ C mn (.ref a) H N :=
  ⟨a, dx, _, rfl, hx, by rw [List.lookup_cons, e]; rfl, n⟩


end
/-- all but what stands at d stays, a dict or a list stands at d -/
structure Oth (d : Addr) (H H' : Hp) : Prop where
  oth : ∀ a o, a ≠ d → H a = some o → H' a = some o
  mu : ∃ o, H d = some o ∧ isZ o = false
theorem ki_oth {d : Addr} {H H' : Hp} (s : Oth d H H') : KI H H' := fun a o h t => s.oth a o (fun z => by
  subst z
  obtain ⟨u, e, k⟩ := s.mu
  rw [e] at h
  cases h
  rw [k] at t
  cases t) h
theorem ne_new {H : Hp} {p q : Addr} {o : HO} (h : upd H p o q = none) : q ≠ p := fun e => by rw [e, upd_same] at h; cases h
theorem free_upd {H : Hp} {p q : Addr} {o : HO} (h : upd H p o q = none) : H q = none := by
  have n := ne_new h
  rw [upd_ne n] at h
  exact h
theorem Oth.bag {d b l : Addr} {H H' : Hp} (s : Oth d H H') (n1 : d ≠ b) (n2 : d ≠ l) (h : Bag H b l) : Bag H' b l := by
  obtain ⟨ns, p, r, z, h1, h2, h3⟩ := h
  exact ⟨ns, p, r, z, s.oth _ _ n1.symm h1, s.oth _ _ n2.symm h2, h3⟩
end Cr

/-! ## short words of the walk: local rows, by keys of our own -/
local macro_rules | `(tactic| walk_at "cr.kt") => `(tactic| with_reducible first
  | with_reducible assumption
  | exact Cr.kt_new (by with_reducible assumption)
  | exact Cr.kt_mut (by with_reducible assumption) rfl
  | exact Cr.kt_same (by with_reducible assumption)
  | exact Cr.kt_but (by with_reducible assumption))
local macro_rules | `(tactic| walk_at "cr.dt") => `(tactic| with_reducible first
  | with_reducible assumption
  | exact Cr.Dt.int _
  | exact Cr.Dt.bl _
  | exact Cr.Dt.str _
  | exact Cr.Dt.non
  | ((with_reducible refine' Cr.dt_new ?z (by with_reducible assumption)); (case z => walk_at "cr.da"))
  | exact Cr.dt_zn (by with_reducible assumption)
  | exact Cr.dt_1n (by with_reducible assumption)
  | (refine' Cr.Dt.mono (Cr.kt_new (by with_reducible assumption)) ?z; (case z => walk_at "cr.dt"))
  | (refine' Cr.Dt.mono (Cr.kt_mut (by with_reducible assumption) rfl) ?z; (case z => walk_at "cr.dt"))
  | (refine' Cr.Dt.mono (Cr.kt_same (by with_reducible assumption)) ?z; (case z => walk_at "cr.dt"))
  | (refine' Cr.Dt.mono (Cr.kt_but (by with_reducible assumption)) ?z; (case z => walk_at "cr.dt"))
  | (refine' Cr.Dt.mono (by with_reducible assumption) ?z; (case z => walk_at "cr.dt"))
  | exact (by with_reducible assumption : ∀ H : L2.Hp, Cr.Dt _ H _ _) _)
local macro_rules | `(tactic| walk_at "cr.da") => `(tactic| with_reducible first
  | exact Cr.DtAll.nil
  | (refine' Cr.DtAll.cons ?z ?w; (case z => walk_at "cr.dt"); (case w => walk_at "cr.da"))
  | with_reducible assumption)
local macro_rules | `(tactic| walk_at "cr.lot") => `(tactic| with_reducible first
  | with_reducible assumption
  | (refine' Cr.IsLot.mono (Cr.ki_new (by with_reducible assumption)) ?z; (case z => walk_at "cr.lot"))
  | (refine' Cr.IsLot.mono (Cr.ki_mut (by with_reducible assumption) rfl) ?z; (case z => walk_at "cr.lot"))
  | (refine' Cr.IsLot.mono (Cr.ki_same (by with_reducible assumption)) ?z; (case z => walk_at "cr.lot"))
  | (refine' Cr.IsLot.mono (Cr.ki_but (by with_reducible assumption)) ?z; (case z => walk_at "cr.lot"))
  | (refine' Cr.IsLot.mono (by with_reducible assumption) ?z; (case z => walk_at "cr.lot")))
/-- all of a list's -/
local macro_rules | `(tactic| walk_at "cr.das") => `(tactic| with_reducible first
  | with_reducible assumption
  | (refine' Cr.DtAll.mono (Cr.kt_new (by with_reducible assumption)) ?z; (case z => walk_at "cr.das"))
  | (refine' Cr.DtAll.mono (Cr.kt_mut (by with_reducible assumption) rfl) ?z; (case z => walk_at "cr.das"))
  | (refine' Cr.DtAll.mono (Cr.kt_same (by with_reducible assumption)) ?z; (case z => walk_at "cr.das"))
  | (refine' Cr.DtAll.mono (Cr.kt_but (by with_reducible assumption)) ?z; (case z => walk_at "cr.das"))
  | (refine' Cr.DtAll.mono (by with_reducible assumption) ?z; (case z => walk_at "cr.das")))
/-- H0 to H -/
local macro_rules | `(tactic| walk_at "cr.sm") => `(tactic| with_reducible first
  | exact L2.Same.refl _
  | with_reducible assumption
  | (refine' L2.Same.trans ?z (Cr.same_new (by with_reducible assumption)); (case z => walk_at "cr.sm"))
  | (refine' L2.Same.trans ?z (by with_reducible assumption); (case z => walk_at "cr.sm"))
  | (refine' Cr.same_mut ?z (by walk_at "cr.fr"); (case z => walk_at "cr.sm")))
/-- H p = none, from a later heap -/
local macro_rules | `(tactic| walk_at "cr.fr") => `(tactic| with_reducible first
  | with_reducible assumption
  | (refine' Cr.free_on (by with_reducible assumption) ?z; (case z => walk_at "cr.sm")))
/-- what stands at an address -/
local macro_rules | `(tactic| walk_at "cr.at") => `(tactic| with_reducible first
  | with_reducible assumption
  | exact L2.upd_same
  | (refine' Eq.trans (L2.upd_ne (by walk_at "cr.ne")) ?z; (case z => walk_at "cr.at"))
  | (refine' Cr.at_same (by with_reducible assumption) ?z; (case z => walk_at "cr.at"))
  | (refine' Cr.But.oth (by with_reducible assumption) _ _ (by walk_at "cr.ne") ?z; (case z => walk_at "cr.at"))
  | (refine' Cr.Oth.oth (by with_reducible assumption) _ _ (by walk_at "cr.ne") ?z; (case z => walk_at "cr.at")))
local macro_rules | `(tactic| walk_at "cr.ne") => `(tactic| with_reducible first
  | with_reducible assumption
  | exact Ne.symm (by with_reducible assumption)
  | (refine' Cr.Bag.ne1' (by with_reducible assumption) ?z; (case z => with_reducible assumption))
  | (refine' Cr.Bag.ne2' (by with_reducible assumption) ?z; (case z => with_reducible assumption))
  | (refine' Ne.symm (Cr.Bag.ne1' (by with_reducible assumption) ?z); (case z => with_reducible assumption))
  | (refine' Ne.symm (Cr.Bag.ne2' (by with_reducible assumption) ?z); (case z => with_reducible assumption))
  | (refine' Cr.Bag.ne1' (by with_reducible assumption) ?z; (case z => walk_at "cr.bag"))
  | (refine' Cr.Bag.ne2' (by with_reducible assumption) ?z; (case z => walk_at "cr.bag"))
  | (refine' Cr.ne_on (by with_reducible assumption) ?z; (case z => walk_at "cr.at"))
  | (refine' Ne.symm (Cr.ne_on (by with_reducible assumption) ?z); (case z => walk_at "cr.at")))
local macro_rules | `(tactic| walk_at "cr.bag") => `(tactic| with_reducible first
  | with_reducible assumption
  | (refine' Cr.Bag.new ?z (by with_reducible assumption); (case z => walk_at "cr.bag"))
  | (refine' Cr.Bag.same (by with_reducible assumption) ?z; (case z => walk_at "cr.bag"))
  | (refine' Cr.Oth.bag (by with_reducible assumption) (by with_reducible assumption) (by with_reducible assumption) ?z; (case z => walk_at "cr.bag"))
  | (refine' Cr.Bag.upd ?z (by walk_at "cr.ne") (by walk_at "cr.ne"); (case z => walk_at "cr.bag")))
/-- all but the bag -/
local macro_rules | `(tactic| walk_at "cr.but") => `(tactic| with_reducible first
  | with_reducible assumption
  | (refine' Cr.But.same ?z (Cr.same_new (by with_reducible assumption)); (case z => walk_at "cr.but"))
  | (refine' Cr.But.trans ?z (by with_reducible assumption); (case z => walk_at "cr.but"))
  | (refine' Cr.But.same ?z (by with_reducible assumption); (case z => walk_at "cr.but"))
  | exact Cr.But.ofSame (by with_reducible assumption) (L2.Same.refl _)
  | (refine' Cr.but_mut ?z (by walk_at "cr.fr"); (case z => walk_at "cr.but")))
local macro_rules | `(tactic| walk_at "cr.size") => `(tactic| first
  | exact Cr.size2
  | exact Cr.size1
  | exact Cr.size3
  | exact Cr.size4
  | exact Cr.size_le (by with_unfolding_all decide)
  | exact Cr.size_le (by simp only [List.length_cons, List.length_nil]; omega))
local macro_rules | `(tactic| walk_at "cr.room") => `(tactic| first
  | with_reducible assumption
  | (refine L2.small1000 ?_; (try simp only [List.length_append, List.length_cons, List.length_nil, List.length_reverse, List.length_map, List.length_take, List.length_drop, List.length_set]); omega)
  | (refine Cr.size_le2 ?_; (try simp only [List.length_append, List.length_cons, List.length_nil, List.length_reverse, List.length_map, List.length_take, List.length_drop, List.length_set]); omega))
local macro_rules | `(tactic| walk_at "cr.lst") => `(tactic| with_reducible first
  | with_reducible assumption
  | (refine' L2.SqL.of ?z; (case z => walk_at "cr.at"))
  | (refine' L2.Same.seq (Cr.same_new (by with_reducible assumption)) ?z; (case z => walk_at "cr.lst"))
  | (refine' L2.Same.seq (by with_reducible assumption) ?z; (case z => walk_at "cr.lst")))
local macro_rules | `(tactic| walk_at "cr.sz") => `(tactic| first
  | with_reducible assumption
  | exact Cr.cz_l (by omega) (by omega)
  | exact Cr.cz_r (by omega) (by omega)
  | exact Cr.mz_nd (by walk_at "cr.z") (by walk_at "cr.z")
  | exact Cr.mz_dn (by walk_at "cr.z") (by walk_at "cr.z")
  | exact Cr.mz_nn (by walk_at "cr.z") (by walk_at "cr.z")
  | exact Cr.mz_dd (by walk_at "cr.z") (by walk_at "cr.z"))
local macro_rules | `(tactic| walk_at "cr.z") => `(tactic| first
  | with_reducible assumption
  | exact Cr.Sz.mono (by walk_at "cr.zz") (by decide))
local macro_rules | `(tactic| walk_at "cr.len") => `(tactic| first | (simp only [List.length_cons, List.length_nil]; omega) | (simp only [List.length_append, List.length_cons, List.length_nil, List.length_reverse, List.length_map, List.length_take, List.length_drop, List.length_set]; omega))
local macro_rules | `(tactic| walk_at "cr.items") => `(tactic| (intro v hv; simp only [List.mem_cons, List.not_mem_nil, or_false] at hv; first
  | (rcases hv with rfl | rfl | rfl | rfl | rfl | rfl <;> exact ⟨_, rfl, by omega, by omega⟩)
  | (rcases hv with rfl | rfl | rfl | rfl | rfl <;> exact ⟨_, rfl, by omega, by omega⟩)
  | (rcases hv with rfl | rfl | rfl | rfl <;> exact ⟨_, rfl, by omega, by omega⟩)
  | (rcases hv with rfl | rfl | rfl <;> exact ⟨_, rfl, by omega, by omega⟩)
  | (rcases hv with rfl | rfl <;> exact ⟨_, rfl, by omega, by omega⟩)))
local macro_rules | `(tactic| walk_at "cr.pw") => `(tactic| first
  | with_reducible assumption
  | exact Cr.pw_le (n := 64) (by omega) (by decide))
local macro_rules | `(tactic| walk_at "cr.zz") => `(tactic| with_reducible first
  | with_reducible assumption
  | exact Cr.divInt_sz (n := 64) (by omega) (by omega) (by omega)
  | (refine' Cr.Sz.add ?zl ?zr; (case zl => walk_at "cr.zz"); (case zr => walk_at "cr.zz"))
  | (refine' Cr.Sz.sub ?zl ?zr; (case zl => walk_at "cr.zz"); (case zr => walk_at "cr.zz"))
  | (refine' Cr.Sz.mul ?zl ?zr; (case zl => walk_at "cr.zz"); (case zr => walk_at "cr.zz"))
  | (refine' Cr.Sz.div ?zl ?zr ?zn; (case zl => walk_at "cr.zz"); (case zr => walk_at "cr.zz"); (case zn => assumption)))
local macro_rules | `(tactic| walk_at "cr.div") => `(tactic| first
  | with_reducible assumption
  | exact Cr.dz_sm (by omega) (by omega))
local macro_rules | `(tactic| walk_at "cr.till") => `(tactic| with_reducible first
  | with_reducible assumption)
/-- one step of a reading -/
local macro_rules | `(tactic| walk_at "cr.s") => `(tactic| with_reducible first
  | refine Cr.s_seq ?_
  | refine Cr.s_asg ?_
  | refine Cr.s_op ?_
  | refine Cr.s_v0 ?_
  | refine Cr.s_g0 ?_
  | refine Cr.s_v1 ?_
  | refine Cr.s_g1 ?_
  | refine Cr.s_v2 ?_
  | refine Cr.s_g2 ?_
  | refine Cr.s_v3 ?_
  | refine Cr.s_g3 ?_
  | refine Cr.s_v4 ?_
  | refine Cr.s_g4 ?_
  | refine Cr.s_v5 ?_
  | refine Cr.s_g5 ?_
  | refine Cr.s_v6 ?_
  | refine Cr.s_g6 ?_
  | refine Cr.s_v7 ?_
  | refine Cr.s_g7 ?_
  | refine Cr.s_v8 ?_
  | refine Cr.s_g8 ?_
  | refine Cr.s_v9 ?_
  | refine Cr.s_g9 ?_
  | refine Cr.s_v10 ?_
  | refine Cr.s_g10 ?_
  | refine Cr.s_v11 ?_
  | refine Cr.s_g11 ?_
  | refine Cr.s_v12 ?_
  | refine Cr.s_g12 ?_
  | refine Cr.s_v13 ?_
  | refine Cr.s_g13 ?_
  | refine Cr.s_v14 ?_
  | refine Cr.s_g14 ?_
  | refine Cr.s_v15 ?_
  | refine Cr.s_g15 ?_
  | refine Cr.s_v16 ?_
  | refine Cr.s_g16 ?_
  | refine Cr.s_v17 ?_
  | refine Cr.s_g17 ?_
  | refine Cr.s_c ?_
  | refine Cr.s_ret ?_
  | refine Cr.s_if ?_
  | refine Cr.s_test ?_
  | refine Cr.s_tru ?_
  | refine Cr.s_B ?_
  | refine Cr.s_isB ?_
  | refine Cr.s_truI ?_
  | refine Cr.s_truB ?_
  | refine Cr.s_call ?_
  | refine Cr.s_callS ?_
  | refine Cr.s_callN ?_
  | (refine' Cr.s_lens ?k1 ?k2 ?_; (case k1 => with_unfolding_all rfl); (case k2 => with_unfolding_all rfl))
  | refine Cr.s_cons ?_
  | refine Cr.s_nil ?_
  | refine Cr.s_cb ?_
  | refine Cr.s_tup ?_
  | refine Cr.s_lst ?_
  | (refine Cr.s_par ?_; (try simp only [List.set_cons_zero, List.set_cons_succ]))
  | refine Cr.s_un ?_
  | refine Cr.s_drop ?_
  | refine Cr.s_next ?_
  | refine Cr.s_brk ?_
  | refine Cr.s_cont ?_
  | refine Cr.s_retN ?_
  | refine Cr.s_ifE ?_
  | refine Cr.s_and ?_
  | refine Cr.s_or ?_
  | refine Cr.s_not ?_
  | refine Cr.s_andV ?_
  | refine Cr.s_orV ?_
  | refine Cr.s_notV ?_
  | refine Cr.s_chain ?_
  | refine Cr.s_itT ?_
  | refine Cr.s_itF ?_
  | refine Cr.s_itNT ?_
  | refine Cr.s_itNF ?_
  | refine Cr.s_gsub ?_
  | refine Cr.s_addI ?_
  | refine Cr.s_subI ?_
  | refine Cr.s_negI ?_
  | refine Cr.s_ltI ?_
  | refine Cr.s_leI ?_
  | refine Cr.s_gtI ?_
  | refine Cr.s_geI ?_
  | refine Cr.s_neII ?_
  | refine Cr.s_eqII ?_
  | refine Cr.s_eqI ?_
  | refine Cr.s_neI ?_
  | refine Cr.s_eqBB ?_
  | refine Cr.s_neBB ?_
  | refine Cr.s_neFT ?_
  | refine Cr.s_neTF ?_
  | refine Cr.s_eqFT ?_
  | refine Cr.s_eqTF ?_
  | refine Cr.s_eqB ?_
  | refine Cr.s_neB ?_
  | refine Cr.s_abs ?_
  | refine Cr.s_max ?_
  | refine Cr.s_min ?_
  | refine Cr.s_isII ?_
  | refine Cr.s_isIB ?_
  | refine Cr.s_isBI ?_
  | refine Cr.s_isBB ?_
  | (refine' Cr.s_isTT ?k1 ?_; (case k1 => with_reducible walk_at "cr.dt"))
  | (refine' Cr.s_ixF0 ?k1 ?_; (case k1 => with_reducible walk_at "cr.dt"))
  | (refine' Cr.s_ixF1 ?k1 ?_; (case k1 => with_reducible walk_at "cr.dt"))
  | (refine' Cr.s_ixT0 ?k1 ?_; (case k1 => with_reducible walk_at "cr.dt"); intro v hv; first | (have ev := Cr.Dt.int_eq hv; subst ev) | (have ev := Cr.Dt.str_eq hv; subst ev) | (have ev := Cr.Dt.bl_eq hv; subst ev) | skip)
  | (refine' Cr.s_ixL0 ?k1 ?_; (case k1 => with_reducible walk_at "cr.lst"))
  | (refine' Cr.s_setL0 ?k1 ?_; (case k1 => with_reducible walk_at "cr.at"))
  | (refine' Cr.s_ixT1 ?k1 ?_; (case k1 => with_reducible walk_at "cr.dt"); intro v hv; first | (have ev := Cr.Dt.int_eq hv; subst ev) | (have ev := Cr.Dt.str_eq hv; subst ev) | (have ev := Cr.Dt.bl_eq hv; subst ev) | skip)
  | (refine' Cr.s_ixL1 ?k1 ?_; (case k1 => with_reducible walk_at "cr.lst"))
  | (refine' Cr.s_setL1 ?k1 ?_; (case k1 => with_reducible walk_at "cr.at"))
  | (refine' Cr.s_ixT2 ?k1 ?_; (case k1 => with_reducible walk_at "cr.dt"); intro v hv; first | (have ev := Cr.Dt.int_eq hv; subst ev) | (have ev := Cr.Dt.str_eq hv; subst ev) | (have ev := Cr.Dt.bl_eq hv; subst ev) | skip)
  | (refine' Cr.s_ixL2 ?k1 ?_; (case k1 => with_reducible walk_at "cr.lst"))
  | (refine' Cr.s_setL2 ?k1 ?_; (case k1 => with_reducible walk_at "cr.at"))
  | (refine' Cr.s_ixT3 ?k1 ?_; (case k1 => with_reducible walk_at "cr.dt"); intro v hv; first | (have ev := Cr.Dt.int_eq hv; subst ev) | (have ev := Cr.Dt.str_eq hv; subst ev) | (have ev := Cr.Dt.bl_eq hv; subst ev) | skip)
  | (refine' Cr.s_ixL3 ?k1 ?_; (case k1 => with_reducible walk_at "cr.lst"))
  | (refine' Cr.s_setL3 ?k1 ?_; (case k1 => with_reducible walk_at "cr.at"))
  | (refine' Cr.s_ixT4 ?k1 ?_; (case k1 => with_reducible walk_at "cr.dt"); intro v hv; first | (have ev := Cr.Dt.int_eq hv; subst ev) | (have ev := Cr.Dt.str_eq hv; subst ev) | (have ev := Cr.Dt.bl_eq hv; subst ev) | skip)
  | (refine' Cr.s_ixL4 ?k1 ?_; (case k1 => with_reducible walk_at "cr.lst"))
  | (refine' Cr.s_setL4 ?k1 ?_; (case k1 => with_reducible walk_at "cr.at"))
  | (refine' Cr.s_ixT5 ?k1 ?_; (case k1 => with_reducible walk_at "cr.dt"); intro v hv; first | (have ev := Cr.Dt.int_eq hv; subst ev) | (have ev := Cr.Dt.str_eq hv; subst ev) | (have ev := Cr.Dt.bl_eq hv; subst ev) | skip)
  | (refine' Cr.s_ixL5 ?k1 ?_; (case k1 => with_reducible walk_at "cr.lst"))
  | (refine' Cr.s_setL5 ?k1 ?_; (case k1 => with_reducible walk_at "cr.at"))
  | (refine' Cr.s_ixR0 ?k1 ?_; (case k1 => with_reducible walk_at "cr.at"))
  | (refine' Cr.s_ixR1 ?k1 ?_; (case k1 => with_reducible walk_at "cr.at"))
  | (refine' Cr.s_ixR2 ?k1 ?_; (case k1 => with_reducible walk_at "cr.at"))
  | (refine' Cr.s_ixR3 ?k1 ?_; (case k1 => with_reducible walk_at "cr.at"))
  | (refine' Cr.s_addT1 ?k1 ?k2 ?k4 ?k5 ?_; (case k1 => with_reducible walk_at "cr.dt"); (case k2 => with_reducible walk_at "cr.dt"); (case k4 => exact List.cons_ne_nil _ _); (case k5 => walk_at "cr.len"); intro v H' hs hd)
  | (refine' Cr.s_addTG ?k1 ?k2 ?k3 ?k5 ?_; (case k1 => with_reducible walk_at "cr.dt"); (case k2 => with_reducible walk_at "cr.dt"); (case k3 => first | with_reducible assumption | exact List.cons_ne_nil _ _); (case k5 => first | with_reducible assumption | walk_at "cr.len"); intro v H' hs hd; (try simp only [List.cons_append, List.nil_append] at hd))
  | (refine' Cr.s_ixL ?k1 ?k2 ?_; (case k1 => with_reducible walk_at "cr.lst"); (case k2 => with_reducible assumption))
  | (refine' Cr.s_setL ?k1 ?k2 ?_; (case k1 => with_reducible walk_at "cr.at"); (case k2 => assumption))
  | (refine' Cr.s_lenT ?k1 ?_; (case k1 => with_reducible walk_at "cr.dt"))
  | (refine' Cr.s_lenL ?k1 ?_; (case k1 => with_reducible walk_at "cr.lst"))
  | (refine' Cr.s_mulI ?k1 ?_; (case k1 => with_reducible walk_at "cr.sz"))
  | (refine' Cr.s_divI ?k1 ?_; (case k1 => with_reducible walk_at "cr.div"))
  | (refine' Cr.s_modI ?k1 ?_; (case k1 => first | with_reducible assumption | omega))
  | refine Cr.s_pow2 ?_
  | refine Cr.s_pow3 ?_
  | refine Cr.s_pow4 ?_
  | refine Cr.s_pow5 ?_
  | refine Cr.s_pow6 ?_
  | refine Cr.s_pow7 ?_
  | refine Cr.s_pow8 ?_
  | refine Cr.s_pow9 ?_
  | refine Cr.s_pow10 ?_
  | refine Cr.s_pow12 ?_
  | (refine' Cr.s_powI ?k1 ?_; (case k1 => with_unfolding_all exact ⟨by decide, by decide, by decide⟩))
  | (refine' Cr.s_eqFF ?k1 ?k2 ?_; (case k1 => with_reducible walk_at "cr.dt"); (case k2 => with_reducible walk_at "cr.dt"))
  | (refine' Cr.s_neFF ?k1 ?k2 ?_; (case k1 => with_reducible walk_at "cr.dt"); (case k2 => with_reducible walk_at "cr.dt"))
  | (refine' Cr.s_eqD2 ?k1 ?k2 ?_; (case k1 => with_reducible walk_at "cr.dt"); (case k2 => with_reducible walk_at "cr.dt"))
  | (refine' Cr.s_neD2 ?k1 ?k2 ?_; (case k1 => with_reducible walk_at "cr.dt"); (case k2 => with_reducible walk_at "cr.dt"))
  | (refine' Cr.s_eqPf ?k1 ?k2 ?k3 ?_; (case k1 => with_reducible walk_at "cr.dt"); (case k2 => with_reducible walk_at "cr.dt"); (case k3 => with_reducible assumption))
  | (refine' Cr.s_nePf ?k1 ?k2 ?k3 ?_; (case k1 => with_reducible walk_at "cr.dt"); (case k2 => with_reducible walk_at "cr.dt"); (case k3 => with_reducible assumption))
  | (refine' Cr.s_gtup ?k1 ?k2 ?_; (case k1 => with_reducible walk_at "cr.dt"); (case k2 => with_unfolding_all rfl); intro xs hxs)
  | (refine' Cr.s_gcons ?k1 ?_; (case k1 => with_reducible walk_at "cr.das"); intro v r hv hr; first | (have ev := Cr.Dt.int_eq hv; subst ev) | (have ev := Cr.Dt.str_eq hv; subst ev) | (have ev := Cr.Dt.bl_eq hv; subst ev) | skip)
  | (refine' Cr.s_gnil ?k1 ?_; (case k1 => with_reducible walk_at "cr.das"))
  | (refine' Cr.s_truL ?k1 ?_; (case k1 => with_reducible walk_at "cr.lst"))
  | refine Cr.s_isBb ?_
  | refine Cr.s_ntBb ?_
  | (refine' Cr.s_ixLm1 ?k1 ?k2 ?_; (case k1 => with_reducible walk_at "cr.lst"); (case k2 => with_reducible assumption))
  | refine Cr.s_isBl ?_
  | refine Cr.s_ntBl ?_
  | (refine' Cr.s_tupL ?k1 ?k2 ?_; (case k1 => with_reducible walk_at "cr.lst"); (case k2 => with_reducible walk_at "cr.das"); intro v H' hs hd)
  | (refine' Cr.s_tupT ?k1 ?_; (case k1 => with_reducible walk_at "cr.dt"))
  | (refine' Cr.s_listT ?k1 ?_; (case k1 => with_reducible walk_at "cr.dt"); intro l ys H' hs nl hl hd)
  | (refine' Cr.s_ixT6 ?k1 ?_; (case k1 => with_reducible walk_at "cr.dt"); intro v hv; first | (have ev := Cr.Dt.int_eq hv; subst ev) | (have ev := Cr.Dt.str_eq hv; subst ev) | (have ev := Cr.Dt.bl_eq hv; subst ev) | skip)
  | (refine' Cr.s_ixT7 ?k1 ?_; (case k1 => with_reducible walk_at "cr.dt"); intro v hv; first | (have ev := Cr.Dt.int_eq hv; subst ev) | (have ev := Cr.Dt.str_eq hv; subst ev) | (have ev := Cr.Dt.bl_eq hv; subst ev) | skip)
  | (refine' Cr.s_ixT8 ?k1 ?_; (case k1 => with_reducible walk_at "cr.dt"); intro v hv; first | (have ev := Cr.Dt.int_eq hv; subst ev) | (have ev := Cr.Dt.str_eq hv; subst ev) | (have ev := Cr.Dt.bl_eq hv; subst ev) | skip)
  | (refine' Cr.s_ixT9 ?k1 ?_; (case k1 => with_reducible walk_at "cr.dt"); intro v hv; first | (have ev := Cr.Dt.int_eq hv; subst ev) | (have ev := Cr.Dt.str_eq hv; subst ev) | (have ev := Cr.Dt.bl_eq hv; subst ev) | skip)
  | (refine' Cr.s_ixT10 ?k1 ?_; (case k1 => with_reducible walk_at "cr.dt"); intro v hv; first | (have ev := Cr.Dt.int_eq hv; subst ev) | (have ev := Cr.Dt.str_eq hv; subst ev) | (have ev := Cr.Dt.bl_eq hv; subst ev) | skip)
  | (refine' Cr.s_ixTm1 ?k1 ?k2 ?_; (case k1 => with_reducible walk_at "cr.dt"); (case k2 => exact Cr.last10); intro v hv; first | (have ev := Cr.Dt.int_eq hv; subst ev) | (have ev := Cr.Dt.str_eq hv; subst ev) | (have ev := Cr.Dt.bl_eq hv; subst ev) | skip)
  | refine Cr.s_m1 ?_
  | refine Cr.s_isStr ?_
  | refine Cr.s_iStr ?_
  | refine Cr.s_isIts ?_
  | (refine' Cr.s_join ?k1 ?k2 ?_; (case k1 => with_reducible walk_at "cr.lst"); (case k2 => with_reducible assumption))
  | (refine' Cr.s_abc ?k1 ?k2 ?_; (case k1 => omega); (case k2 => omega); intro c hc0 hc1)
  | (refine' Cr.s_inS ?k1 ?_; (case k1 => with_reducible walk_at "cr.lst"))
  | (refine' Cr.s_ntInS ?k1 ?_; (case k1 => with_reducible walk_at "cr.lst"))
  | (refine' Cr.s_slShi ?k1 ?k2 ?_; (case k1 => with_reducible assumption); (case k2 => omega))
  | (refine' Cr.s_slSlo ?k1 ?k2 ?_; (case k1 => with_reducible assumption); (case k2 => omega))
  | (refine' Cr.s_addS ?k1 ?_; (case k1 => with_reducible assumption))
  | refine Cr.s_dget2 ?_
  | refine Cr.s_dput ?_
  | (refine' Cr.s_getA ?k1 ?_; (case k1 => with_reducible walk_at "cr.at"))
  | (refine' Cr.s_getBS ?k1 ?_; (case k1 => with_reducible walk_at "cr.at"))
  | (refine' Cr.s_getBI ?k1 ?_; (case k1 => with_reducible walk_at "cr.at"))
  | (refine' Cr.s_putS ?k1 ?k2 ?_; (case k1 => with_reducible walk_at "cr.at"); (case k2 => with_reducible assumption))
  | (refine' Cr.s_fld1 ?k1 ?k2 ?k3 ?_; (case k1 => with_reducible walk_at "cr.at"); (case k2 => with_reducible assumption); (case k3 => with_reducible assumption))
  | (refine' Cr.s_meth1 ?k1 ?k2 ?_; (case k1 => with_reducible walk_at "cr.at"); (case k2 => with_unfolding_all decide +kernel))
  | refine Cr.s_isNN ?_
  | refine Cr.s_ntNN ?_
  | refine Cr.s_neNN ?_
  | refine Cr.s_eqNN ?_
  | refine Cr.s_isRN ?_
  | refine Cr.s_ntRN ?_
  | (refine' Cr.s_isFN ?k1 ?_; (case k1 => with_reducible walk_at "cr.dt"))
  | (refine' Cr.s_ntFN ?k1 ?_; (case k1 => with_reducible walk_at "cr.dt"))
  | (refine' Cr.s_isTN ?k1 ?_; (case k1 => with_reducible walk_at "cr.dt"))
  | (refine' Cr.s_ntTN ?k1 ?_; (case k1 => with_reducible walk_at "cr.dt"))
  | refine Cr.s_lc ?_
  | refine Cr.s_intT ?_
  | refine Cr.s_intF ?_
  | (refine' Cr.s_intBt ?k1 ?_; (case k1 => with_reducible assumption))
  | (refine' Cr.s_intBf ?k1 ?_; (case k1 => with_reducible assumption))
  | refine Cr.s_intB ?_
  | refine Cr.s_intI ?_
  | (refine' Cr.s_eqFt ?k1 ?k2 ?k3 ?_; (case k1 => with_reducible walk_at "cr.dt"); (case k2 => with_reducible walk_at "cr.dt"); (case k3 => with_reducible assumption))
  | (refine' Cr.s_eqFf ?k1 ?k2 ?k3 ?_; (case k1 => with_reducible walk_at "cr.dt"); (case k2 => with_reducible walk_at "cr.dt"); (case k3 => with_reducible assumption))
  | (refine' Cr.s_neFt ?k1 ?k2 ?k3 ?_; (case k1 => with_reducible walk_at "cr.dt"); (case k2 => with_reducible walk_at "cr.dt"); (case k3 => with_reducible assumption))
  | (refine' Cr.s_neFf ?k1 ?k2 ?k3 ?_; (case k1 => with_reducible walk_at "cr.dt"); (case k2 => with_reducible walk_at "cr.dt"); (case k3 => with_reducible assumption))
  | (refine' Cr.s_eqF ?k1 ?k2 ?_; (case k1 => with_reducible walk_at "cr.dt"); (case k2 => with_reducible walk_at "cr.dt"))
  | (refine' Cr.s_neF ?k1 ?k2 ?_; (case k1 => with_reducible walk_at "cr.dt"); (case k2 => with_reducible walk_at "cr.dt"))
  | (refine' Cr.s_newT ?k1 ?_; (case k1 => with_reducible walk_at "cr.size"); intro p hp)
  | (refine' Cr.s_newL ?k1 ?_; (case k1 => with_reducible walk_at "cr.size"); intro p hp)
  | refine Cr.s_for ?_
  | refine Cr.s_iList ?_
  | refine Cr.s_rng1 ?_
  | refine Cr.s_fld ?_
  | refine Cr.s_meth ?_
  | refine Cr.s_make ?_
  | (refine' Cr.s_worth ?k1 ?k2 ?k3 ?_; (case k1 => with_reducible walk_at "cr.lot"); (case k2 => with_reducible assumption); (case k3 => with_reducible assumption); intro x hx)
  | (refine' Cr.s_mark ?k1 ?k2 ?k3 ?_; (case k1 => with_reducible walk_at "cr.lot"); (case k2 => with_reducible assumption); (case k3 => with_reducible assumption); intro x hx)
  | (refine' Cr.s_mlot ?k1 ?k2 ?k3 ?_; (case k1 => with_reducible walk_at "cr.lot"); (case k2 => with_unfolding_all decide +kernel); (case k3 => with_unfolding_all decide +kernel))
  | (refine' Cr.s_append ?k1 ?k2 ?_; (case k1 => with_reducible walk_at "cr.at"); (case k2 => walk_at "cr.room"))
  | (refine' Cr.s_addL ?k1 ?k2 ?k3 ?_; (case k1 => with_reducible walk_at "cr.at"); (case k2 => with_reducible walk_at "cr.at"); (case k3 => walk_at "cr.room"); intro p hp)
  | refine Cr.s_sl ?_
  | refine Cr.s_revL ?_
  | (refine' Cr.s_isRev ?k1 ?_; (case k1 => with_reducible walk_at "cr.lst"); intro p hp)
  | refine Cr.s_noPart ?_
  | refine Cr.s_part ?_
  | refine Cr.s_isI ?_
  | refine Cr.s_app ?_
  | (refine' Cr.s_isL ?k1 ?_; (case k1 => with_reducible walk_at "cr.lst"))
  | (refine' Cr.s_tyL ?k1 ?_; (case k1 => with_reducible walk_at "cr.lst"))
  | (refine' Cr.s_isR1 ?k1 ?k2 ?_; (case k1 => omega); (case k2 => omega))
  | (refine' Cr.s_slL ?k1 ?_; (case k1 => with_reducible walk_at "cr.lst"); intro p hp)
  | (refine' Cr.s_listL ?k1 ?_; (case k1 => with_reducible walk_at "cr.lst"); intro p hp)
  | refine Cr.s_var (by with_unfolding_all rfl) ?_
  | refine Cr.s_gname ?_
  | walk_at "cr.call")
local macro_rules | `(tactic| walk_at "cr.go") => `(tactic| repeat (walk_at "cr.s"))
/-- the slots as a written list -/
local macro_rules | `(tactic| walk_at "cr.n") => `(tactic| (try simp only [Cr.sets, L2.wipe, List.foldl_cons, List.foldl_nil, List.set_cons_zero, List.set_cons_succ]))
local macro_rules | `(tactic| walk_at "cr.k") => `(tactic| ((try simp only [Cr.cxK0, Cr.cxK1]); (try simp only [L2.start, List.map_cons, List.map_nil, List.length_cons, List.length_nil, List.cons_append, List.nil_append, Nat.reduceAdd, Nat.reduceSub, List.reduceReplicate, List.replicate, Nat.zero_add]); walk_at "cr.go"))

namespace Cr
open PySem PySem.Spec PyProof.Rows L2
section

def topS (i : Nat) : Stmt := PySem.Challenge.pw_crestpool_k46_what_a_till_paid.main.body.getD i (.Pass ⟨0, 0, 0, 0⟩)
abbrev s_TillU_initU : Stmt := inClass (topS 4) 0
theorem sc_TillU_initU : FnScope ["self"] ["self"] (defScope s_TillU_initU) := ⟨rfl, rfl, rfl, by decide +kernel, rfl, by decide +kernel, by decide +kernel⟩
abbrev s_floor : Stmt := topS 2
theorem sc_floor : FnScope ["one"] ["one"] (defScope s_floor) := ⟨rfl, rfl, rfl, by decide +kernel, rfl, by decide +kernel, by decide +kernel⟩
abbrev s_Till_paid : Stmt := inClass (topS 4) 2
theorem sc_Till_paid : FnScope ["self", "name"] ["self", "name"] (defScope s_Till_paid) := ⟨rfl, rfl, rfl, by decide +kernel, rfl, by decide +kernel, by decide +kernel⟩
abbrev s_Till_pay : Stmt := inClass (topS 4) 1
theorem sc_Till_pay : FnScope ["self", "name", "due", "more"] ["self", "name", "due"] (defScope s_Till_pay) := ⟨rfl, rfl, rfl, by decide +kernel, rfl, by decide +kernel, by decide +kernel⟩
abbrev s_Till_owed : Stmt := inClass (topS 4) 3
theorem sc_Till_owed : FnScope ["self", "name", "due"] ["self", "name", "due"] (defScope s_Till_owed) := ⟨rfl, rfl, rfl, by decide +kernel, rfl, by decide +kernel, by decide +kernel⟩
abbrev s__law_bag : Stmt := topS 6
theorem sc__law_bag : FnScope ["_law_script", "_law_salt", "_law_cell"] ["_law_script"] (defScope s__law_bag) := ⟨rfl, rfl, rfl, by decide +kernel, rfl, by decide +kernel, by decide +kernel⟩
abbrev s__law_pull : Stmt := topS 7
theorem sc__law_pull : FnScope ["_law_bag_here", "_law_many", "_law_found", "_law_cell"] ["_law_bag_here", "_law_many"] (defScope s__law_pull) := ⟨rfl, rfl, rfl, by decide +kernel, rfl, by decide +kernel, by decide +kernel⟩
abbrev s__law_name : Stmt := topS 8
theorem sc__law_name : FnScope ["_law_bag_here", "_law_size", "_law_k"] ["_law_bag_here"] (defScope s__law_name) := ⟨rfl, rfl, rfl, by decide +kernel, rfl, by decide +kernel, by decide +kernel⟩
abbrev s__law_names : Stmt := topS 9
theorem sc__law_names : FnScope ["_law_bag_here", "_law_many", "_law_found", "_law_k", "_law_name_here", "_law_sign"] ["_law_bag_here", "_law_many"] (defScope s__law_names) := ⟨rfl, rfl, rfl, by decide +kernel, rfl, by decide +kernel, by decide +kernel⟩
abbrev s__law_low : Stmt := topS 10
theorem sc__law_low : FnScope ["_law_upper", "_law_lower", "_law_one", "_law_other", "_law_keep"] ["_law_upper", "_law_lower"] (defScope s__law_low) := ⟨rfl, rfl, rfl, by decide +kernel, rfl, by decide +kernel, by decide +kernel⟩
abbrev s__law_wide : Stmt := topS 11
theorem sc__law_wide : FnScope ["_law_bag_here", "_law_many", "_law_low_here"] ["_law_bag_here", "_law_many"] (defScope s__law_wide) := ⟨rfl, rfl, rfl, by decide +kernel, rfl, by decide +kernel, by decide +kernel⟩
abbrev s__law_whole : Stmt := topS 12
theorem sc__law_whole : FnScope ["_law_found"] ["_law_found"] (defScope s__law_whole) := ⟨rfl, rfl, rfl, by decide +kernel, rfl, by decide +kernel, by decide +kernel⟩
abbrev s_law : Stmt := topS 13
theorem sc_law : FnScope ["_law_script", "_law_bag_here", "_law_names_here", "_law_tills", "_law_sums", "_law_k", "_law_which", "_law_at", "_law_due", "_law_high", "_law_took", "_law_found", "_law_j"] ["_law_script"] (defScope s_law) := ⟨rfl, rfl, rfl, by decide +kernel, rfl, by decide +kernel, by decide +kernel⟩
/-- what the top has left -/
structure Top (K : PySem.W.Frag) (mg : Str → Option Value) where
  n_max : mg "max" = none
  n_list : mg "list" = none
  n_len : mg "len" = none
  n_range : mg "range" = none
  n_abs : mg "abs" = none
  n_bool : mg "bool" = none
  n_int : mg "int" = none
  n_isinstance : mg "isinstance" = none
  f_TillU_initU : Addr
  fd_TillU_initU : FuncData
  F_TillU_initU : Fun K "__init__" "Till.__init__" s_TillU_initU f_TillU_initU fd_TillU_initU
  b_TillU_initU : Binds K fd_TillU_initU ["self"] []
  k_TillU_initU : PySem.W.keepIn K (.ref f_TillU_initU) = true
  f_floor : Addr
  fd_floor : FuncData
  F_floor : Fun K "floor" "floor" s_floor f_floor fd_floor
  b_floor : Binds K fd_floor ["one"] []
  k_floor : PySem.W.keepIn K (.ref f_floor) = true
  g_floor : mg "floor" = some (.ref f_floor)
  f_Till_paid : Addr
  fd_Till_paid : FuncData
  F_Till_paid : Fun K "paid" "Till.paid" s_Till_paid f_Till_paid fd_Till_paid
  b_Till_paid : Binds K fd_Till_paid ["self", "name"] []
  k_Till_paid : PySem.W.keepIn K (.ref f_Till_paid) = true
  f_Till_pay : Addr
  fd_Till_pay : FuncData
  F_Till_pay : Fun K "pay" "Till.pay" s_Till_pay f_Till_pay fd_Till_pay
  b_Till_pay : Binds K fd_Till_pay ["self", "name", "due"] []
  k_Till_pay : PySem.W.keepIn K (.ref f_Till_pay) = true
  f_Till_owed : Addr
  fd_Till_owed : FuncData
  F_Till_owed : Fun K "owed" "Till.owed" s_Till_owed f_Till_owed fd_Till_owed
  b_Till_owed : Binds K fd_Till_owed ["self", "name", "due"] []
  k_Till_owed : PySem.W.keepIn K (.ref f_Till_owed) = true
  f__law_bag : Addr
  fd__law_bag : FuncData
  F__law_bag : Fun K "_law_bag" "_law_bag" s__law_bag f__law_bag fd__law_bag
  b__law_bag : Binds K fd__law_bag ["_law_script"] []
  k__law_bag : PySem.W.keepIn K (.ref f__law_bag) = true
  g__law_bag : mg "_law_bag" = some (.ref f__law_bag)
  f__law_pull : Addr
  fd__law_pull : FuncData
  F__law_pull : Fun K "_law_pull" "_law_pull" s__law_pull f__law_pull fd__law_pull
  b__law_pull : Binds K fd__law_pull ["_law_bag_here", "_law_many"] []
  k__law_pull : PySem.W.keepIn K (.ref f__law_pull) = true
  g__law_pull : mg "_law_pull" = some (.ref f__law_pull)
  f__law_name : Addr
  fd__law_name : FuncData
  F__law_name : Fun K "_law_name" "_law_name" s__law_name f__law_name fd__law_name
  b__law_name : Binds K fd__law_name ["_law_bag_here"] []
  k__law_name : PySem.W.keepIn K (.ref f__law_name) = true
  g__law_name : mg "_law_name" = some (.ref f__law_name)
  f__law_names : Addr
  fd__law_names : FuncData
  F__law_names : Fun K "_law_names" "_law_names" s__law_names f__law_names fd__law_names
  b__law_names : Binds K fd__law_names ["_law_bag_here", "_law_many"] []
  k__law_names : PySem.W.keepIn K (.ref f__law_names) = true
  g__law_names : mg "_law_names" = some (.ref f__law_names)
  f__law_low : Addr
  fd__law_low : FuncData
  F__law_low : Fun K "_law_low" "_law_low" s__law_low f__law_low fd__law_low
  b__law_low : Binds K fd__law_low ["_law_upper", "_law_lower"] []
  k__law_low : PySem.W.keepIn K (.ref f__law_low) = true
  g__law_low : mg "_law_low" = some (.ref f__law_low)
  f__law_wide : Addr
  fd__law_wide : FuncData
  F__law_wide : Fun K "_law_wide" "_law_wide" s__law_wide f__law_wide fd__law_wide
  b__law_wide : Binds K fd__law_wide ["_law_bag_here", "_law_many"] []
  k__law_wide : PySem.W.keepIn K (.ref f__law_wide) = true
  g__law_wide : mg "_law_wide" = some (.ref f__law_wide)
  f__law_whole : Addr
  fd__law_whole : FuncData
  F__law_whole : Fun K "_law_whole" "_law_whole" s__law_whole f__law_whole fd__law_whole
  b__law_whole : Binds K fd__law_whole ["_law_found"] []
  k__law_whole : PySem.W.keepIn K (.ref f__law_whole) = true
  g__law_whole : mg "_law_whole" = some (.ref f__law_whole)
  C_Till : Addr
  c_Till : mg "Till" = some (.ref C_Till)
  cl_Till : Cls K C_Till
  na_Till_sums : NoAttr K C_Till "sums"
  M_Till : Mk K C_Till f_TillU_initU
  m_Till_pay : Meth K C_Till "pay" f_Till_pay
  m_Till_paid : Meth K C_Till "paid" f_Till_paid
  m_Till_owed : Meth K C_Till "owed" f_Till_owed
section
variable {K : PySem.W.Frag} {mg : Str → Option Value}
end
variable {P : Program} {w : World} {K : PySem.W.Frag} {mg : Str → Option Value} {base : Heap}
/-! ### TillU_initU -/
def TillAt (K : PySem.W.Frag) (C : Addr) (H : Hp) (v : V) (d : Addr) (f : Str → Int) (n : Nat) : Prop := ∃ (a dx : Addr) (kvs : List (Key × V)), v = .ref a ∧ H a = some (.ins C dx [(("sums" : Str), .ref d)]) ∧ H d = some (.dK kvs) ∧ kvs.length ≤ n ∧ ∀ s, (valV kvs (.inr s)).getD (.int 0) = .int (f s)
theorem TillAt.mono {K : PySem.W.Frag} {C : Addr} {H H' : Hp} {v : V} {d : Addr} {f : Str → Int} {n : Nat} (k : ∀ a, a ≠ d → ∀ o, isZ o = true → H a = some o → H' a = some o) (kd : ∀ kvs, H d = some (.dK kvs) → H' d = some (.dK kvs)) (h : TillAt K C H v d f n) : TillAt K C H' v d f n := by
  obtain ⟨a, dx, kvs, e, h1, h2, h3⟩ := h
  exact ⟨a, dx, kvs, e, k a (fun z => by rw [z, h2] at h1; cases h1) _ rfl h1, kd _ h2, h3⟩
def sp_TillU_initU (_K : PySem.W.Frag) (C : Addr) : Sp := fun vs H Q _ => ∃ (p dx : Addr), vs = [.ref p] ∧ H p = some (.ins C dx []) ∧ ∀ d H', H d = none → d ≠ p → (∀ b o, b ≠ p → H b = some o → H' b = some o) → H' p = some (.ins C dx [(("sums" : Str), .ref d)]) → H' d = some (.dK []) → Q .non H'
theorem ok_TillU_initU (T : Top K mg) : FnOk P w K mg base CX0 1 T.f_TillU_initU T.fd_TillU_initU ["self"] (sp_TillU_initU K T.C_Till) := by
  have hcl_Till := T.cl_Till
  have hna_Till_sums := T.na_Till_sums
  refine T.F_TillU_initU.ok sc_TillU_initU (fun vs H Q E h => by obtain ⟨p, dx, rfl, _⟩ := h; rfl) (fun cdv A outer s H vs Q E hr h => ?_)
  obtain ⟨p, dx, rfl, hp, q⟩ := h
  refine ⟨_, (pss_one (ps_fld (pv 0) pe_dnewK rfl)), ?_⟩
  intro d hd
  have hdp : d ≠ p := fun e => by rw [e, hp] at hd; cases hd
  refine ⟨.ref p, rfl, p, T.C_Till, dx, [], rfl, (by rw [upd_ne hdp.symm]; exact hp), T.cl_Till, T.na_Till_sums, by show 0 < 1000; decide, ?_⟩
  exact q d _ hd hdp (fun b o hb e => by rw [upd_ne hb, upd_ne (fun z => by rw [z, hd] at e; cases e)]; exact e) upd_same (by rw [upd_ne hdp, upd_same])
theorem u_makeTill {C : Addr} {H : Hp} {Q : VK} {E : XK} (q : ∀ v d H', Same H H' → H d = none → TillAt K C H' v d (fun _ => 0) 0 → Q v H') : MakeQ C (sp_TillU_initU K C) [] E [] H Q := by
  intro p dx np nd ne
  refine ⟨p, dx, rfl, upd_same, fun d H' hd hdp k h1 h2 => ⟨rfl, ?_⟩⟩
  have s : Same H H' := Same.made np nd (fun b o e hb => k b o hb e)
  have nd2 : H d = none := by
    rw [upd_ne hdp] at hd
    by_cases e : d = dx
    · rw [e]; exact nd
    · rw [upd_ne e] at hd; exact hd
  exact q _ d _ s nd2 ⟨p, dx, [], rfl, h1, h2, Nat.le_refl _, fun _ => rfl⟩
local macro_rules | `(tactic| walk_at "cr.call") => `(tactic| ((with_reducible refine' Cr.u_makeTill ?_); intro v d H' hs nd ht))
theorem s_mtill {C : Addr} {H : Hp} {v : V} {d : Addr} {f : Str → Int} {n : Nat} {mn : Str} {N : Prop} (h : TillAt K C H v d f n) (e : (mn == ("sums" : Str)) = false) (q : N) : MethQ C mn v H N := by
  obtain ⟨a, dx, kvs, rfl, h1, _⟩ := h
  exact s_meth1 h1 e q
local macro_rules | `(tactic| walk_at "cr.call") => `(tactic| ((with_reducible refine' Cr.s_mtill ?a ?b ?_); (case a => walk_at "cr.till"); (case b => with_unfolding_all decide +kernel)))

/-! ### floor -/
def sp_floor (K : PySem.W.Frag) : Sp := spV K (fun x : Rat => [fr x]) (fun x => Sz 8000 x) (fun x => .int x.floor)
theorem u_floor {H : Hp} {Q : VK} {E : XK} {vs : List V} {x : V} {r : Rat} (e : vs = [x]) (hx : Dt K H x (fr r)) (z1 : Sz 8000 r) (q : Q (.int r.floor) H) : sp_floor K vs H Q E := by
  subst e
  exact ⟨r, .cons hx .nil, z1, q⟩
theorem floor_eq (r : Rat) : r.num.fdiv (r.den : Int) = r.floor := by
  rw [Rat.floor_def, Int.fdiv_eq_ediv_of_nonneg _ (by omega)]
theorem dz_den {i : Int} {r : Rat} (h : Sz 8000 r) : CDivZ i r.den := dz_of (den_ne r) h.dA (by decide) (by decide)
theorem ok_floor (T : Top K mg) : FnOk P w K mg base CX0 1 T.f_floor T.fd_floor ["one"] (sp_floor K) := by
  have hcl_Till := T.cl_Till
  have hna_Till_sums := T.na_Till_sums
  refine T.F_floor.ok sc_floor (fun vs H Q E h => by obtain ⟨x, h, _⟩ := h; exact h.len) (fun cdv A outer s H vs Q E hr h => ?_)
  obtain ⟨r, hd, z1, q⟩ := h
  obtain ⟨x, rfl, hx⟩ := da1 hd
  dsimp only at hx q z1
  refine ⟨_, (pss_one (ps_ret (pe_op op_divU (pe_ix ix_seq (pv 0) pe_int (fun _ _ => rfl)) (pe_ix ix_seq (pv 0) pe_int (fun _ _ => rfl))))), ?_⟩
  have dz : CDivZ r.num r.den := dz_den z1
  walk_at "cr.k"
  rw [floor_eq]
  exact q
local macro_rules | `(tactic| walk_at "cr.call") => `(tactic| ((with_reducible refine' Cr.u_floor ?e ?a ?c ?_); (case e => with_unfolding_all rfl); (case a => walk_at "cr.dt"); (case c => walk_at "cr.z")))

/-! ### Till_paid -/
def sp_Till_paid (K : PySem.W.Frag) (C : Addr) : Sp := fun vs H Q _ => ∃ (v : V) (s : Str) (d : Addr) (f : Str → Int) (n : Nat), vs = [v, .str s] ∧ TillAt K C H v d f n ∧ Q (.int (f s)) H
theorem u_Till_paid {C : Addr} {H : Hp} {Q : VK} {E : XK} {vs : List V} {v : V} {s : Str} {d : Addr} {f : Str → Int} {n : Nat} (e : vs = [v, .str s]) (ht : TillAt K C H v d f n) (q : Q (.int (f s)) H) : sp_Till_paid K C vs H Q E := ⟨v, s, d, f, n, e, ht, q⟩
theorem ok_Till_paid (T : Top K mg) : FnOk P w K mg base CX0 1 T.f_Till_paid T.fd_Till_paid ["self", "name"] (sp_Till_paid K T.C_Till) := by
  have hcl_Till := T.cl_Till
  have hna_Till_sums := T.na_Till_sums
  refine T.F_Till_paid.ok sc_Till_paid (fun vs H Q E h => by obtain ⟨v, s, d, f, n, rfl, _⟩ := h; rfl) (fun cdv A outer s0 H vs Q E hr h => ?_)
  obtain ⟨v, s, d, f, n, rfl, ⟨a, dx, kvs, rfl, h1, h2, h3, h4⟩, q⟩ := h
  refine ⟨_, (pss_one (ps_ret (pe_dget2 (hu_of hr) (pe_fld (pv 0) rfl) (pv 1) pe_int ⟨rfl, rfl, rfl, rfl⟩))), ?_⟩
  walk_at "cr.k"
  rw [h4]
  exact q
local macro_rules | `(tactic| walk_at "cr.call") => `(tactic| ((with_reducible refine' Cr.u_Till_paid ?e ?a ?_); (case e => with_unfolding_all rfl); (case a => walk_at "cr.till")))

/-! ### Till_pay -/
/-- what a payment adds -/
@[reducible] def moreT (r : Rat) (p : Int) : Int := if r.floor - p > 0 then r.floor - p else 0
def sp_Till_pay (K : PySem.W.Frag) (C : Addr) : Sp := fun vs H Q _ => ∃ (v x : V) (s : Str) (r : Rat) (d : Addr) (f : Str → Int) (n : Nat), vs = [v, .str s, x] ∧ TillAt K C H v d f n ∧ n < 1000 ∧ Dt K H x (fr r) ∧ Sz 8000 r ∧
  ∀ H' g, Oth d H H' → TillAt K C H' v d g (n + 1) → (∀ t, g t = if t = s then f s + moreT r (f s) else f t) → Q (.int (moreT r (f s))) H'
theorem u_Till_pay {C : Addr} {H : Hp} {Q : VK} {E : XK} {vs : List V} {v x : V} {s : Str} {r : Rat} {d : Addr} {f : Str → Int} {n : Nat} (e : vs = [v, .str s, x]) (ht : TillAt K C H v d f n) (l : n < 1000) (hx : Dt K H x (fr r)) (z : Sz 8000 r)
    (q : ∀ H' g, Oth d H H' → TillAt K C H' v d g (n + 1) → (∀ t, g t = if t = s then f s + moreT r (f s) else f t) → Q (.int (moreT r (f s))) H') : sp_Till_pay K C vs H Q E := ⟨v, x, s, r, d, f, n, e, ht, l, hx, z, q⟩
theorem put_len (kvs : List (Key × V)) (k : Key) (v : V) : (putK kvs k v).length ≤ kvs.length + 1 := by
  unfold putK
  split
  · rw [List.length_map]; omega
  · rw [List.length_append]; exact Nat.le_refl _
theorem ok_Till_pay (T : Top K mg) : FnOk P w K mg base CX0 2 T.f_Till_pay T.fd_Till_pay ["self", "name", "due"] (sp_Till_pay K T.C_Till) := by
  have G_floor := ok_floor (P := P) (w := w) (base := base) T
  have G_Till_paid := ok_Till_paid (P := P) (w := w) (base := base) T
  have hcl_Till := T.cl_Till
  have hna_Till_sums := T.na_Till_sums
  refine T.F_Till_pay.ok sc_Till_pay (fun vs H Q E h => by obtain ⟨v, x, s, r, d, f, n, rfl, _⟩ := h; rfl) (fun cdv A outer s0 H vs Q E hr h => ?_)
  obtain ⟨v, x, s, r, d, f, n, rfl, ht, hn, hx, z, q⟩ := h
  have ht' := ht
  obtain ⟨a, dx, kvs, rfl, h1, h2, h3, h4⟩ := ht'
  have hroom : kvs.length < sizeLine := L2.small1000 (by omega)
  refine ⟨_, (pss_cons (ps_set (i := 3) sc_Till_pay.nd rfl (Or.inl rfl) (pe_callB (call_maxU rfl) (by rfl) T.n_max (by decide +kernel) (pa_cons pe_int (pa_cons (pe_op op_subU (pe_call (G_floor) (hr.mono (by decide)) (by rfl) T.g_floor T.k_floor T.b_floor .nil pass0 (pa_cons (pv 2) pa_nil)) (pe_meth (pv 0) T.cl_Till T.m_Till_paid (G_Till_paid) (hr.mono (by decide)) T.b_Till_paid .nil pass0 (pa_cons (pv 1) pa_nil))) pa_nil))))
      (pss_cons (ps_dput (hu_of hr) (pe_fld (pv 0) rfl) (pv 1) (pe_op op_addU (pe_meth (pv 0) T.cl_Till T.m_Till_paid (G_Till_paid) (hr.mono (by decide)) T.b_Till_paid .nil pass0 (pa_cons (pv 1) pa_nil)) (pv 3)) rfl)
      (pss_one (ps_ret (pv 3))))), ?_⟩
  walk_at "cr.k"
  refine q _ (fun t => if t = s then f s + moreT r (f s) else f t) ⟨fun b o hb e => by rw [upd_ne hb]; exact e, ⟨_, h2, rfl⟩⟩ ⟨a, dx, _, rfl, by rw [upd_ne (fun z => by rw [z, h2] at h1; cases h1)]; exact h1, upd_same, Nat.le_trans (put_len _ _ _) (by omega), fun t => ?_⟩ (fun _ => rfl)
  rw [valV_put]
  by_cases h : t = s
  · subst h
    rw [if_pos rfl]
    show _ = V.int (if t = t then _ else _)
    rw [if_pos rfl]
    rfl
  · rw [if_neg (fun z => h (Sum.inr.inj z))]
    show _ = V.int (if t = s then _ else _)
    rw [if_neg h]
    exact h4 t
local macro_rules | `(tactic| walk_at "cr.call") => `(tactic| ((with_reducible refine' Cr.u_Till_pay ?e ?a ?b ?c ?d ?_); (case e => with_unfolding_all rfl); (case a => walk_at "cr.till"); (case b => omega); (case c => walk_at "cr.dt"); (case d => walk_at "cr.z"); intro H' g ho ht hg))

/-! ### Till_owed -/
def sp_Till_owed (K : PySem.W.Frag) (C : Addr) : Sp := fun vs H Q _ => ∃ (v x : V) (s : Str) (r : Rat) (d : Addr) (f : Str → Int) (n : Nat), vs = [v, .str s, x] ∧ TillAt K C H v d f n ∧ Dt K H x (fr r) ∧ Sz 8000 r ∧ Q (.int (if f s - r.floor > 0 then f s - r.floor else 0)) H
theorem u_Till_owed {C : Addr} {H : Hp} {Q : VK} {E : XK} {vs : List V} {v x : V} {s : Str} {r : Rat} {d : Addr} {f : Str → Int} {n : Nat} (e : vs = [v, .str s, x]) (ht : TillAt K C H v d f n) (hx : Dt K H x (fr r)) (z : Sz 8000 r) (q : Q (.int (if f s - r.floor > 0 then f s - r.floor else 0)) H) : sp_Till_owed K C vs H Q E := ⟨v, x, s, r, d, f, n, e, ht, hx, z, q⟩
theorem ok_Till_owed (T : Top K mg) : FnOk P w K mg base CX0 2 T.f_Till_owed T.fd_Till_owed ["self", "name", "due"] (sp_Till_owed K T.C_Till) := by
  have G_floor := ok_floor (P := P) (w := w) (base := base) T
  have G_Till_paid := ok_Till_paid (P := P) (w := w) (base := base) T
  have hcl_Till := T.cl_Till
  have hna_Till_sums := T.na_Till_sums
  refine T.F_Till_owed.ok sc_Till_owed (fun vs H Q E h => by obtain ⟨v, x, s, r, d, f, n, rfl, _⟩ := h; rfl) (fun cdv A outer s0 H vs Q E hr h => ?_)
  obtain ⟨v, x, s, r, d, f, n, rfl, ht, hx, z, q⟩ := h
  have ht' := ht
  obtain ⟨a, dx, kvs, rfl, h1, h2, h3, h4⟩ := ht'
  refine ⟨_, (pss_one (ps_ret (pe_callB (call_maxU rfl) (by rfl) T.n_max (by decide +kernel) (pa_cons pe_int (pa_cons (pe_op op_subU (pe_meth (pv 0) T.cl_Till T.m_Till_paid (G_Till_paid) (hr.mono (by decide)) T.b_Till_paid .nil pass0 (pa_cons (pv 1) pa_nil)) (pe_call (G_floor) (hr.mono (by decide)) (by rfl) T.g_floor T.k_floor T.b_floor .nil pass0 (pa_cons (pv 2) pa_nil))) pa_nil))))), ?_⟩
  walk_at "cr.k"
  exact q
local macro_rules | `(tactic| walk_at "cr.call") => `(tactic| ((with_reducible refine' Cr.u_Till_owed ?e ?a ?b ?c ?_); (case e => with_unfolding_all rfl); (case a => walk_at "cr.till"); (case b => walk_at "cr.dt"); (case c => walk_at "cr.z")))

/-! ### _law_bag -/
def sp__law_bag (K : PySem.W.Frag) : Sp := fun vs H Q _ => ∃ (a : Addr) (ns : List Int), vs = [.ref a] ∧ SqL K H a (ns.map V.int) ∧ ∀ b l H', Same H H' → H b = none → H l = none → Bag H' b l → Q (.ref b) H'
theorem u__law_bag {H : Hp} {Q : VK} {E : XK} {vs : List V} {a : Addr} {ns : List Int} (e : vs = [.ref a]) (h : SqL K H a (ns.map V.int)) (q : ∀ b l H', Same H H' → H b = none → H l = none → Bag H' b l → Q (.ref b) H') : sp__law_bag K vs H Q E := ⟨a, ns, e, h, q⟩
theorem ok__law_bag (T : Top K mg) : FnOk P w K mg base CX0 1 T.f__law_bag T.fd__law_bag ["_law_script"] (sp__law_bag K) := by
  have hcl_Till := T.cl_Till
  have hna_Till_sums := T.na_Till_sums
  refine T.F__law_bag.ok sc__law_bag (fun vs H Q E h => by obtain ⟨a, ns, rfl, _⟩ := h; rfl) (fun cdv A outer s H vs Q E hr h => ?_)
  obtain ⟨a, ns, rfl, hS, q⟩ := h
  refine ⟨_, (pss_cons (ps_set (i := 1) sc__law_bag.nd rfl (Or.inl rfl) pe_int)
      (pss_cons (ps_for PassesOwn.never rfl (pi_list (pe_slice sl_seqU (pv 0) po_none (po_some pe_int))) (pg_name (i := 2) sc__law_bag.nd rfl (Or.inl rfl)) (pss_one (ps_set (i := 1) sc__law_bag.nd rfl (Or.inl rfl) (pe_op op_modU (pe_op op_addU (pe_op op_mulU (pv 1) pe_int) (pv 2)) pe_int))))
      (pss_one (ps_ret (pe_lst (pa_cons (pe_callTy call_listU (by rfl) T.n_list (by decide +kernel) (pa_cons (pe_slice sl_seqU (pv 0) po_none (po_some pe_int)) pa_nil)) (pa_cons pe_int (pa_cons pe_int (pa_cons (pv 1) pa_nil))))))))), ?_⟩
  obtain ⟨ms, hms⟩ := cut_ints ns none (some 63)
  walk_at "cr.k"
  rename_i p hp
  rw [hms]
  refine f_list (xs := ms.map V.int) (fun i σ' H' => ∃ (z : Int) (y : Option V), σ' = [some (.ref a), some (.int z), y] ∧ 0 ≤ z ∧ z < 2147483629 ∧ H' = upd H p (.lst (ms.map V.int))) ⟨7, none, rfl, by decide, by decide, rfl⟩ ?_ ?_ ?_
  · rintro i σ' H' _ ⟨z, y, _, _, _, rfl⟩
    exact SqL.of upd_same
  · rintro i x σ' H' hx ⟨z, y, rfl, h0, h1, rfl⟩
    obtain ⟨c, hc, rfl⟩ : ∃ c, ms[i]? = some c ∧ x = V.int c := by
      rw [List.getElem?_map] at hx
      cases e : ms[i]? with
      | none => rw [e] at hx; cases hx
      | some c => rw [e] at hx; exact ⟨c, rfl, (Option.some.inj hx).symm⟩
    walk_at "cr.go"
    refine ⟨_, _, rfl, ?_, ?_, rfl⟩
    · rw [Int.fmod_eq_emod_of_nonneg _ (by decide)]; exact Int.emod_nonneg _ (by decide)
    · rw [Int.fmod_eq_emod_of_nonneg _ (by decide)]; exact Int.emod_lt_of_pos _ (by decide)
  · rintro σ' H' ⟨z, y, rfl, h0, h1, rfl⟩
    walk_at "cr.go"
    rw [hms]
    rename_i p2 hp2 p3 hp3 p4 hp4
    have n3 : H p3 = none := (same_new hp).free ((same_new hp2).free hp3)
    have n4 : H p4 = none := (same_new hp).free ((same_new hp2).free ((same_new hp3).free hp4))
    refine q p4 p3 _ (by walk_at "cr.sm") n4 n3 ⟨ms, 0, 0, z, upd_same, ?_, by decide, by omega, by omega, ?_⟩
    · rw [upd_ne (ne_of_none (upd_same) hp4), upd_same]
    · exact ne_of_none (upd_same) hp4
local macro_rules | `(tactic| walk_at "cr.call") => `(tactic| ((with_reducible refine' Cr.u__law_bag ?e ?a ?_); (case e => with_unfolding_all rfl); (case a => walk_at "cr.lst"); intro b l H' hs nb nl hB))

/-! ### _law_pull -/
def sp__law_pull (K : PySem.W.Frag) : Sp := fun vs H Q _ => ∃ (b l : Addr) (m : Int), vs = [.ref b, .int m] ∧ Bag H b l ∧ 0 < m ∧ m < 2 ^ 64 ∧ ∀ k H', 0 ≤ k → k < m → But b H H' → Bag H' b l → Q (.int k) H'
theorem u__law_pull {H : Hp} {Q : VK} {E : XK} {vs : List V} {b l : Addr} {m : Int} (e : vs = [.ref b, .int m]) (h : Bag H b l) (h0 : 0 < m) (h1 : m < 2 ^ 64) (q : ∀ k H', 0 ≤ k → k < m → But b H H' → Bag H' b l → Q (.int k) H') : sp__law_pull K vs H Q E := ⟨b, l, m, e, h, h0, h1, q⟩
theorem fmod_in {i m : Int} (h : 0 < m) : 0 ≤ i.fmod m ∧ i.fmod m < m := by
  rw [Int.fmod_eq_emod_of_nonneg _ (by omega)]
  exact ⟨Int.emod_nonneg _ (by omega), Int.emod_lt_of_pos _ h⟩
theorem dz_small {i j : Int} (h : 0 < j) (k : j < 2 ^ 64) : CDivZ i j := dz_of (n := 64) (by omega) (by omega) (by decide) (by decide)
theorem but_upd {H H1 : Hp} {b : Addr} {o : HO} (h : But b H H1) : But b H (upd H1 b o) := ⟨fun a u n e => by rw [upd_ne n]; exact h.oth a u n e, h.lst⟩
theorem ok__law_pull (T : Top K mg) : FnOk P w K mg base CX0 1 T.f__law_pull T.fd__law_pull ["_law_bag_here", "_law_many"] (sp__law_pull K) := by
  have hcl_Till := T.cl_Till
  have hna_Till_sums := T.na_Till_sums
  refine T.F__law_pull.ok sc__law_pull (fun vs H Q E h => by obtain ⟨b, l, m, rfl, _⟩ := h; rfl) (fun cdv A outer s H vs Q E hr h => ?_)
  obtain ⟨b, l, m, rfl, hB, h0, h1, q⟩ := h
  have hB' := hB
  obtain ⟨ns, p, r, z, e1, e2, hp0, hz0, hz1, hlb⟩ := hB
  have dz : ∀ i, CDivZ i m := fun i => dz_small h0 h1
  refine ⟨_, (pss_cons (ps_if (pt_cmpR op_gtI (pe_ix ix_seq (pv 0) pe_int (fun _ _ => rfl)) pe_int (nomark _)) (pss_cons (ps_set (i := 2) sc__law_pull.nd rfl (Or.inl rfl) (pe_op op_modU (pe_ix ix_seq (pv 0) pe_int (fun _ _ => rfl)) (pv 1)))
      (pss_cons (ps_asg (pe_op op_divU (pe_ix ix_seq (pv 0) pe_int (fun _ _ => rfl)) (pv 1)) (pg_sub (pv 0) pe_int set_list))
      (pss_one (ps_ret (pv 2))))) pss_nil)
      (pss_cons (ps_set (i := 3) sc__law_pull.nd rfl (Or.inl rfl) pe_int)
      (pss_cons (ps_if (pt_cmpR op_ltI (pe_ix ix_seq (pv 0) pe_int (fun _ _ => rfl)) (pe_callB call_lenU (by rfl) T.n_len (by decide +kernel) (pa_cons (pe_ix ix_seq (pv 0) pe_int (fun _ _ => rfl)) pa_nil)) (nomark _)) (pss_one (ps_set (i := 3) sc__law_pull.nd rfl (Or.inl rfl) (pe_ix ix_seq (pe_ix ix_seq (pv 0) pe_int (fun _ _ => rfl)) (pe_ix ix_seq (pv 0) pe_int (fun _ _ => rfl)) (fun _ _ => rfl)))) pss_nil)
      (pss_cons (ps_asg (pe_op op_addU (pe_ix ix_seq (pv 0) pe_int (fun _ _ => rfl)) pe_int) (pg_sub (pv 0) pe_int set_list))
      (pss_cons (ps_if (pt_cmpR op_geI (pv 3) (pe_op op_powU pe_int pe_int) (nomark _)) (pss_cons (ps_asg (pe_op op_divU (pv 3) (pv 1)) (pg_sub (pv 0) pe_int set_list))
      (pss_one (ps_ret (pe_op op_modU (pv 3) (pv 1))))) pss_nil)
      (pss_cons (ps_asg (pe_op op_modU (pe_op op_addU (pe_op op_addU (pe_op op_mulU (pe_ix ix_seq (pv 0) pe_int (fun _ _ => rfl)) pe_int) (pe_op op_modU (pv 3) pe_int)) (pe_op op_mulU pe_int (pe_ix ix_seq (pv 0) pe_int (fun _ _ => rfl)))) pe_int) (pg_sub (pv 0) pe_int set_list))
      (pss_cons (ps_asg (pe_op op_modU (pe_op op_addU (pe_op op_mulU (pe_ix ix_seq (pv 0) pe_int (fun _ _ => rfl)) pe_int) pe_int) pe_int) (pg_sub (pv 0) pe_int set_list))
      (pss_one (ps_ret (pe_op op_modU (pe_op op_divU (pe_ix ix_seq (pv 0) pe_int (fun _ _ => rfl)) pe_int) (pv 1))))))))))), ?_⟩
  walk_at "cr.k"
  by_cases hr0 : 0 < r
  · rw [decide_eq_true hr0]
    have d := dz r
    walk_at "cr.go"
    exact q _ _ (fmod_in h0).1 (fmod_in h0).2 (but_upd (but_of hB' fun _ _ _ e => e)) ⟨ns, p, r.fdiv m, z, upd_same, (upd_ne hlb).trans e2, hp0, hz0, hz1, hlb⟩
  · rw [decide_eq_false hr0]
    walk_at "cr.go"
    have tl : ∀ (z' p' r' : Int) (H' : Hp), H' = upd H b (.lst [.ref l, .int p', .int r', .int z']) → 0 ≤ p' → -(2 ^ 40) < z' → z' < 2 ^ 40 → Bag H' b l := fun z' p' r' H' e h1 h2 h3 => by
      subst e
      exact ⟨ns, p', r', z', upd_same, (upd_ne hlb).trans e2, h1, h2, h3, hlb⟩
    have bt : ∀ o : HO, But b H (upd H b o) := fun o => but_upd (but_of hB' fun _ _ _ e => e)
    have zi : ∀ i : Int, -(2 ^ 40) < i.fmod 2147483647 ∧ i.fmod 2147483647 < 2 ^ 40 := fun i => by
      have := fmod_in (i := i) (m := 2147483647) (by decide)
      omega
    have zm : ∀ i : Int, CMulZ (i.fmod 2147483647) 69621 := fun i => by
      have := fmod_in (i := i) (m := 2147483647) (by decide)
      exact .inl (.inl ⟨by omega, by omega⟩)
    have hlen : (ns.map V.int).length = ns.length := List.length_map _
    refine s_iteD (fun hlt => ?_) (fun hlt => ?_)
    · have hlt' : p < ns.length := by have := hlt; omega
      obtain ⟨c, hc⟩ : ∃ c : Int, atI (ns.map V.int) p = some (.int c) := by
        obtain ⟨j, rfl⟩ : ∃ j : Nat, p = (j : Int) := ⟨p.toNat, by omega⟩
        have hj : j < ns.length := by omega
        exact ⟨ns[j], atI_nat (by rw [List.getElem?_map, List.getElem?_eq_getElem hj]; rfl)⟩
      have d := dz c
      walk_at "cr.go"
      refine s_iteD (fun hc => ?_) (fun hc => ?_)
      · walk_at "cr.go"
        simp only [upd_upd]
        exact q _ _ (fmod_in h0).1 (fmod_in h0).2 (bt _) (tl z (p + 1) (c.fdiv m) _ rfl (by omega) hz0 hz1)
      · walk_at "cr.go"
        have zz := zm ((z * 48271 + c.fmod 2147483629 + 17 * (p + 1)))
        walk_at "cr.go"
        have dd : CDivZ ((((z * 48271 + c.fmod 2147483629 + 17 * (p + 1)).fmod 2147483647) * 69621 + 11).fmod 2147483647) 64 := dz_small (by decide) (by decide)
        walk_at "cr.go"
        simp only [upd_upd]
        exact q _ _ (fmod_in h0).1 (fmod_in h0).2 (bt _) (tl _ (p + 1) r _ rfl (by omega) (zi _).1 (zi _).2)
    · have d := dz 0
      walk_at "cr.go"
      refine s_iteD (fun hc => ?_) (fun hc => ?_)
      · walk_at "cr.go"
        simp only [upd_upd]
        exact q _ _ (fmod_in h0).1 (fmod_in h0).2 (bt _) (tl z (p + 1) ((0 : Int).fdiv m) _ rfl (by omega) hz0 hz1)
      · walk_at "cr.go"
        have zz := zm ((z * 48271 + (0 : Int).fmod 2147483629 + 17 * (p + 1)))
        walk_at "cr.go"
        have dd : CDivZ ((((z * 48271 + (0 : Int).fmod 2147483629 + 17 * (p + 1)).fmod 2147483647) * 69621 + 11).fmod 2147483647) 64 := dz_small (by decide) (by decide)
        walk_at "cr.go"
        simp only [upd_upd]
        exact q _ _ (fmod_in h0).1 (fmod_in h0).2 (bt _) (tl _ (p + 1) r _ rfl (by omega) (zi _).1 (zi _).2)
local macro_rules | `(tactic| walk_at "cr.call") => `(tactic| ((with_reducible refine' Cr.u__law_pull ?e ?a ?b ?c ?_); (case e => with_unfolding_all rfl); (case a => walk_at "cr.bag"); (case b => first | assumption | omega | decide); (case c => first | assumption | omega | decide); intro k H' hk0 hk1 hb hB))

/-! ### _law_name -/
def sp__law_name (K : PySem.W.Frag) : Sp := fun vs H Q _ => ∃ (b l : Addr), vs = [.ref b] ∧ Bag H b l ∧ ∀ x H', But b H H' → Bag H' b l → Nm x → Q (.str x) H'
theorem u__law_name {H : Hp} {Q : VK} {E : XK} {vs : List V} {b l : Addr} (e : vs = [.ref b]) (h : Bag H b l) (q : ∀ x H', But b H H' → Bag H' b l → Nm x → Q (.str x) H') : sp__law_name K vs H Q E := ⟨b, l, e, h, q⟩
theorem a2_signs {α : Type} : ∀ {zs : List α} {ys : List V}, A2 (fun _ y => ∃ c, y = V.str (sign c) ∧ 97 ≤ c ∧ c ≤ 122) zs ys → ∃ cs : List Nat, cs.length = zs.length ∧ ys = (cs.map sign).map V.str ∧ ∀ c, c ∈ cs → 97 ≤ c ∧ c ≤ 122
  | _, _, .nil => ⟨[], rfl, rfl, fun _ h => nomatch h⟩
  | _, _, .cons h t => by
    obtain ⟨c, rfl, h2⟩ := h
    obtain ⟨cs, e, d, k⟩ := a2_signs t
    exact ⟨c :: cs, congrArg Nat.succ e, by rw [d]; rfl, fun x hx => by
      rcases List.mem_cons.mp hx with e | e
      · rw [e]; exact h2
      · exact k x e⟩
theorem join_room (cs : List Nat) (h : cs.length ≤ 12) : ((cs.map sign).map (·.length)).sum + (cs.map sign).length * (("" : String) : Str).length ≤ 16777216 := by
  have h1 := small_sum (cs.map sign) fun y hy => by
    obtain ⟨c, _, rfl⟩ := List.mem_map.mp hy
    exact (show 1 ≤ 1000 by decide)
  rw [show (("" : String) : Str).length = 0 by decide +kernel, Nat.mul_zero]
  rw [List.length_map] at h1
  omega
theorem ok__law_name (T : Top K mg) : FnOk P w K mg base CX0 2 T.f__law_name T.fd__law_name ["_law_bag_here"] (sp__law_name K) := by
  have G__law_pull := ok__law_pull (P := P) (w := w) (base := base) T
  have hcl_Till := T.cl_Till
  have hna_Till_sums := T.na_Till_sums
  refine T.F__law_name.ok sc__law_name (fun vs H Q E h => by obtain ⟨b, l, rfl, _⟩ := h; rfl) (fun cdv A outer s H vs Q E hr h => ?_)
  obtain ⟨b, l, rfl, hB, q⟩ := h
  refine ⟨_, (pss_cons (ps_set (i := 1) sc__law_name.nd rfl (Or.inl rfl) (pe_ix ix_seq (pe_lst (pa_cons pe_int (pa_cons pe_int (pa_cons pe_int (pa_cons (pe_op op_addU pe_int (pe_call (G__law_pull) (hr.mono (by decide)) (by rfl) T.g__law_pull T.k__law_pull T.b__law_pull .nil pass0 (pa_cons (pv 0) (pa_cons pe_int pa_nil)))) pa_nil))))) (pe_call (G__law_pull) (hr.mono (by decide)) (by rfl) T.g__law_pull T.k__law_pull T.b__law_pull .nil pass0 (pa_cons (pv 0) (pa_cons pe_int pa_nil))) (fun _ _ => rfl)))
      (pss_one (ps_ret (pe_joinU pe_str (pe_lc (own := [("_law_k", 2)]) (g := gName 2) (tt := tYes) rfl sc__law_name.nd (pi_range1 rfl T.n_range (pa_cons (pv 1) pa_nil)) (blkOk_by (N := ["_law_bag_here", "_law_size", "_law_k"]) (sc := defScope s__law_name) (by decide +kernel)) (fun _ _ _ _ _ => pg_name (i := 2) sc__law_name.nd rfl (Or.inl rfl)) (fun _ _ _ _ _ => pts_nil) (fun _ _ _ _ _ => (pe_ix (show IxR _ (rIx K) from ix_seq) pe_str (pe_call (G__law_pull) (hr.mono (by decide)) (by rfl) T.g__law_pull T.k__law_pull T.b__law_pull .nil pass0 (pa_cons (pv 0) (pa_cons pe_int pa_nil))) (fun _ _ => rfl)))))))), ?_⟩
  walk_at "cr.k"
  refine s_menuI 1 12 (by walk_at "cr.lst") (by assumption) (by walk_at "cr.len") (by walk_at "cr.items") fun t1 t11 t12 => ?_
  walk_at "cr.go"
  rename_i k1 H1 hk10 hk11 hb1 hB1 p1 hp1 k2 H2 hk20 hk21 hb2 hB2
  have hb : But b H H2 := by walk_at "cr.but"
  clear hb1 hb2 hB1 hp1
  refine c_range (stp_but hB2) (fun A i y => ∃ c, y = V.str (sign c) ∧ 97 ≤ c ∧ c ≤ 122) (fun _ _ _ _ k h => h) (by omega) ?_ ?_
  · intro i A N hi hS hN
    obtain ⟨hbA, hBA⟩ := hS
    clear hbA hB2 hb
    walk_at "cr.n"
    walk_at "cr.go"
    refine ⟨rfl, ?_⟩
    walk_at "cr.go"
    exact hN _ _ ⟨by walk_at "cr.but", by walk_at "cr.bag"⟩ ⟨_, rfl, by assumption, by assumption⟩
  · intro p ys A hS hp hy h2
    obtain ⟨hbA, hBA⟩ := hS
    obtain ⟨cs, el, rfl, hc⟩ := a2_signs h2
    rw [List.length_range] at el
    have hroom := join_room cs (by omega)
    walk_at "cr.go"
    rw [join_signs]
    exact q _ _ (by walk_at "cr.but") hBA ⟨by simp; omega, by simp; omega, fun c h => hc c (by simpa using h)⟩
local macro_rules | `(tactic| walk_at "cr.call") => `(tactic| ((with_reducible refine' Cr.u__law_name ?e ?a ?_); (case e => with_unfolding_all rfl); (case a => walk_at "cr.bag"); intro x H' hb hB hn))

/-! ### _law_names -/
def sp__law_names (K : PySem.W.Frag) : Sp := fun vs H Q _ => ∃ (b l : Addr) (m : Int), vs = [.ref b, .int m] ∧ Bag H b l ∧ 0 ≤ m ∧ m ≤ 8 ∧ ∀ p (ys : List Str) H', But b H H' → Bag H' b l → H p = none → H' p = some (.lst (ys.map V.str)) → ys.length = m.toNat → ys.Nodup → (∀ y, y ∈ ys → Nm y) → Q (.ref p) H'
theorem u__law_names {H : Hp} {Q : VK} {E : XK} {vs : List V} {b l : Addr} {m : Int} (e : vs = [.ref b, .int m]) (h : Bag H b l) (m0 : 0 ≤ m) (m1 : m ≤ 8) (q : ∀ p (ys : List Str) H', But b H H' → Bag H' b l → H p = none → H' p = some (.lst (ys.map V.str)) → ys.length = m.toNat → ys.Nodup → (∀ y, y ∈ ys → Nm y) → Q (.ref p) H') : sp__law_names K vs H Q E := ⟨b, l, m, e, h, m0, m1, q⟩
/-- behind i signs: the name is new, or for each of the signs a name that begins so stands -/
def Seen (ys : List Str) (i : Nat) (x : Str) : Prop := x ∉ ys ∨ ∀ j, j < i → ∃ z, z ∈ ys ∧ z.cps[0]? = some (97 + j)
theorem Seen.new {ys : List Str} {x : Str} (h : Seen ys 8 x) (l : ys.length ≤ 7) : x ∉ ys := by
  rcases h with h | h
  · exact h
  · exfalso
    have s : ((List.range 8).map fun j => some (97 + j)) ⊆ ys.map fun z => z.cps[0]? := fun o ho => by
      obtain ⟨j, hj, rfl⟩ := List.mem_map.mp ho
      obtain ⟨z, hz, e⟩ := h j (List.mem_range.mp hj)
      exact List.mem_map.mpr ⟨z, hz, e⟩
    have := List.Nodup.length_le_of_subset (by decide) s
    rw [List.length_map, List.length_map, List.length_range] at this
    omega
theorem Seen.keep {ys : List Str} {i : Nat} {x : Str} (h : x ∉ ys) : Seen ys (i + 1) x := .inl h
theorem abch_at {i c : Nat} (e : (("abcdefgh" : String) : Str).cps[i]? = some c) : i < 8 ∧ c = 97 + i := by
  rw [abch_cps] at e
  match i, e with
  | 0, e => cases e; exact ⟨by decide, rfl⟩
  | 1, e => cases e; exact ⟨by decide, rfl⟩
  | 2, e => cases e; exact ⟨by decide, rfl⟩
  | 3, e => cases e; exact ⟨by decide, rfl⟩
  | 4, e => cases e; exact ⟨by decide, rfl⟩
  | 5, e => cases e; exact ⟨by decide, rfl⟩
  | 6, e => cases e; exact ⟨by decide, rfl⟩
  | 7, e => cases e; exact ⟨by decide, rfl⟩
theorem Nm.push {x : Str} {c : Nat} (h : Nm x) (h0 : 97 ≤ c) (h1 : c ≤ 122) : Nm (takeS (x ++ sign c) 12) := by
  obtain ⟨a, b, d⟩ := h
  have e : (takeS (x ++ sign c) 12).cps.toList = (x.cps.toList ++ [c]).take 12 := by simp [takeS, str_app, sign]
  refine ⟨?_, ?_, fun k hk => ?_⟩
  · rw [← Array.length_toList, e, List.length_take, List.length_append, Array.length_toList]; simp; omega
  · rw [← Array.length_toList, e, List.length_take]; omega
  · rw [e] at hk
    rcases List.mem_append.mp (List.mem_of_mem_take hk) with z | z
    · exact d k z
    · rw [List.mem_singleton] at z; omega
theorem Nm.head {x : Str} {c : Nat} (h : Nm x) (h0 : 97 ≤ c) (h1 : c ≤ 122) : Nm (sign c ++ dropS x 1) ∧ (sign c ++ dropS x 1).cps[0]? = some c := by
  obtain ⟨a, b, d⟩ := h
  have e : (sign c ++ dropS x 1).cps.toList = c :: x.cps.toList.drop 1 := by simp [dropS, str_app, sign]
  refine ⟨⟨?_, ?_, fun k hk => ?_⟩, ?_⟩
  · rw [← Array.length_toList, e, List.length_cons]; omega
  · rw [← Array.length_toList, e, List.length_cons, List.length_drop, Array.length_toList]; omega
  · rw [e] at hk
    rcases List.mem_cons.mp hk with z | z
    · omega
    · exact d k (List.mem_of_mem_drop z)
  · rw [← Array.getElem?_toList, e]; rfl
theorem Nm.len {x : Str} (h : Nm x) : x.length ≤ sizeLine := L2.small1000 (show x.cps.size ≤ 1000 by have := h.2.1; omega) |> Nat.le_of_lt
theorem Nm.len2 {x : Str} {c : Nat} (h : Nm x) : x.length + (sign c).length ≤ sizeLine := Nat.le_of_lt (L2.small1000 (show x.cps.size + 1 ≤ 1000 by have := h.2.1; omega))
theorem Nm.len3 {x : Str} {c : Nat} (h : Nm x) : (sign c).length + (dropS x 1).length ≤ sizeLine := Nat.le_of_lt (L2.small1000 (by
  have e : (dropS x 1).length = x.cps.size - 1 := by show (x.cps.toList.drop 1).toArray.size = _; simp
  rw [e]
  have := h.2.1
  show 1 + _ ≤ 1000
  omega))
theorem Nm.len4 {x : Str} {c : Nat} (h : Nm x) : (x ++ sign c).length ≤ sizeLine := by
  rw [strLen_append]; exact h.len2
theorem ok__law_names (T : Top K mg) : FnOk P w K mg base CX0 3 T.f__law_names T.fd__law_names ["_law_bag_here", "_law_many"] (sp__law_names K) := by
  have G__law_name := ok__law_name (P := P) (w := w) (base := base) T
  have hcl_Till := T.cl_Till
  have hna_Till_sums := T.na_Till_sums
  refine T.F__law_names.ok sc__law_names (fun vs H Q E h => by obtain ⟨b, l, m, rfl, _⟩ := h; rfl) (fun cdv A outer s H vs Q E hr h => ?_)
  obtain ⟨b, l, m, rfl, hB, m0, m1, q⟩ := h
  refine ⟨_, (pss_cons (ps_set (i := 2) sc__law_names.nd rfl (Or.inl rfl) (pe_lst pa_nil))
      (pss_cons (ps_for PassesOwn.never rfl (pi_range1 rfl T.n_range (pa_cons (pv 1) pa_nil)) (pg_name (i := 3) sc__law_names.nd rfl (Or.inl rfl)) (pss_cons (ps_set (i := 4) sc__law_names.nd rfl (Or.inl rfl) (pe_call (G__law_name) (hr.mono (by decide)) (by rfl) T.g__law_name T.k__law_name T.b__law_name .nil pass0 (pa_cons (pv 0) pa_nil)))
      (pss_cons (ps_for PassesOwn.never rfl (pi_str pe_str) (pg_name (i := 5) sc__law_names.nd rfl (Or.inl rfl)) (pss_cons (ps_if (pt_cmpR op_in_seq (pv 4) (pv 2) (by rfl)) (pss_one (ps_set (i := 4) sc__law_names.nd rfl (Or.inl rfl) (pe_slice sl_str (pe_op op_addU (pv 4) (pv 5)) po_none (po_some pe_int)))) pss_nil)
      (pss_one (ps_if (pt_cmpR op_in_seq (pv 4) (pv 2) (by rfl)) (pss_one (ps_set (i := 4) sc__law_names.nd rfl (Or.inl rfl) (pe_op op_addU (pv 5) (pe_slice sl_str (pv 4) (po_some pe_int) po_none)))) pss_nil))))
      (pss_one (ps_expr (pe_bm PySem.F.plainAttrs_list PySem.F.slot_list_append PySem.F.type_list_append mt_append (pv 2) (pa_cons (pv 4) pa_nil)))))))
      (pss_one (ps_ret (pv 2))))), ?_⟩
  walk_at "cr.k"
  rename_i p hp
  have npb : p ≠ b := by walk_at "cr.ne"
  have npl : p ≠ l := by walk_at "cr.ne"
  refine f_range (fun n σ' H' => ∃ (ys : List Str) (y3 y4 y5 : Option V), σ' = [some (.ref b), some (.int m), some (.ref p), y3, y4, y5] ∧ But b H H' ∧ Bag H' b l ∧ H' p = some (.lst (ys.map V.str)) ∧ ys.length = n ∧ ys.Nodup ∧ (∀ y, y ∈ ys → Nm y))
    ⟨[], none, none, none, rfl, by walk_at "cr.but", by walk_at "cr.bag", upd_same, rfl, List.nodup_nil, fun _ h => nomatch h⟩ ?_ ?_
  · rintro n σ' H' hn ⟨ys, y3, y4, y5, rfl, hb, hB', hp', hl, hnd, hnm⟩
    clear hB
    walk_at "cr.go"
    rename_i x0 H2 hb2 hB2 hn0
    have hp2 : H2 p = some (.lst (ys.map V.str)) := by walk_at "cr.at"
    have hb : But b H H2 := by walk_at "cr.but"
    clear hb2 hB' hp'
    refine f_str (fun i σ' H' => ∃ (x : Str) (y5 : Option V), σ' = [some (.ref b), some (.int m), some (.ref p), some (.int (0 + (n : Int))), some (.str x), y5] ∧ H' = H2 ∧ Nm x ∧ Seen ys i x) ⟨x0, _, rfl, rfl, hn0, .inr (fun j hj => absurd hj (Nat.not_lt_zero _))⟩ ?_ ?_
    · rintro i c σ' H' hc ⟨x, y5, rfl, rfl, hx, hse⟩
      obtain ⟨hi8, rfl⟩ := abch_at hc
      have l2 := hx.len2 (c := 97 + i)
      have l4 := hx.len4 (c := 97 + i)
      have hx1 : Nm (takeS (x ++ sign (97 + i)) (Int.toNat 12)) := hx.push (by omega) (by omega)
      have l5 := hx1.len
      have l6 : (sign (97 + i)).length + (dropS (takeS (x ++ sign (97 + i)) (Int.toNat 12)) (Int.toNat 1)).length ≤ sizeLine := hx1.len3
      have hx2 := hx1.head (c := 97 + i) (by omega) (by omega)
      walk_at "cr.go"
      refine s_iteD (fun h => ?_) (fun h => ?_)
      · walk_at "cr.go"
        refine s_iteD (fun h2 => ?_) (fun h2 => ?_)
        · walk_at "cr.go"
          refine ⟨_, _, rfl, rfl, hx2.1, ?_⟩
          by_cases h3 : sign (97 + i) ++ dropS (takeS (x ++ sign (97 + i)) (Int.toNat 12)) (Int.toNat 1) ∈ ys
          · refine .inr fun j hj => ?_
            by_cases hji : j = i
            · rw [hji]; exact ⟨_, h3, hx2.2⟩
            · exact (hse.resolve_left (fun z => z h)) j (by omega)
          · exact .inl h3
        · walk_at "cr.go"
          exact ⟨_, _, rfl, rfl, hx1, .inl h2⟩
      · walk_at "cr.go"
        refine s_iteD (fun h2 => absurd h2 h) (fun _ => ?_)
        walk_at "cr.go"
        exact ⟨_, _, rfl, rfl, hx, .inl h⟩
    · rintro σ' H' ⟨x, y5, rfl, rfl, hx, hse⟩
      rw [abch_cps] at hse
      have hnew : x ∉ ys := Seen.new hse (by omega)
      walk_at "cr.go"
      refine ⟨ys ++ [x], _, _, _, rfl, by walk_at "cr.but", by walk_at "cr.bag", by rw [List.map_append]; exact upd_same, by rw [List.length_append, hl]; rfl, ?_, fun y hy => ?_⟩
      · rw [List.nodup_append]
        exact ⟨hnd, (by simp), fun a ha b hb e => hnew (by rw [List.mem_singleton] at hb; rw [← hb, ← e]; exact ha)⟩
      · rcases List.mem_append.mp hy with h | h
        · exact hnm y h
        · rw [List.mem_singleton] at h; rw [h]; exact hx
  · rintro σ' H' ⟨ys, y3, y4, y5, rfl, hb, hB', hp', hl, hnd, hnm⟩
    walk_at "cr.go"
    exact q p ys _ hb hB' hp hp' hl hnd hnm
local macro_rules | `(tactic| walk_at "cr.call") => `(tactic| ((with_reducible refine' Cr.u__law_names ?e ?a ?b ?c ?_); (case e => with_unfolding_all rfl); (case a => walk_at "cr.bag"); (case b => omega); (case c => omega); intro p ys H' hb hB np hp hl hn hnm))

/-! ### _law_low -/
def sp__law_low (K : PySem.W.Frag) : Sp := spP K (fun x : Int × Int => [.int x.1, .int x.2]) (fun x => x.2 ≠ 0 ∧ x.2.natAbs < 2 ^ 8000) (fun x => fr (Rat.divInt x.1 x.2))
theorem u__law_low {H : Hp} {Q : VK} {E : XK} {vs : List V} {t b : Int} (e : vs = [.int t, .int b]) (z1 : b ≠ 0) (z2 : b.natAbs < 2 ^ 8000) (q : ∀ v H', Same H H' → Dt K H' v (fr (Rat.divInt t b)) → Q v H') : sp__law_low K vs H Q E := by
  subst e
  exact ⟨(t, b), .cons (.int _) (.cons (.int _) .nil), ⟨z1, z2⟩, q⟩
theorem ok__law_low (T : Top K mg) : FnOk P w K mg base CX0 1 T.f__law_low T.fd__law_low ["_law_upper", "_law_lower"] (sp__law_low K) := by
  have hcl_Till := T.cl_Till
  have hna_Till_sums := T.na_Till_sums
  refine T.F__law_low.ok sc__law_low (fun vs H Q E h => by obtain ⟨x, h, _⟩ := h; exact h.len) (fun cdv A outer s H vs Q E hr h => ?_)
  obtain ⟨⟨t, b⟩, hd, ⟨hb, hz⟩, q⟩ := h
  obtain ⟨x, y, rfl, hx, hy⟩ := da2 hd
  cases hx
  cases hy
  dsimp only at q hb hz
  refine ⟨_, (pss_cons (ps_set (i := 2) sc__law_low.nd rfl (Or.inl rfl) (pe_callB call_absU (by rfl) T.n_abs (by decide +kernel) (pa_cons (pv 0) pa_nil)))
      (pss_cons (ps_set (i := 3) sc__law_low.nd rfl (Or.inl rfl) (pe_callB call_absU (by rfl) T.n_abs (by decide +kernel) (pa_cons (pv 1) pa_nil)))
      (pss_cons (ps_while PassesOwn.never (pt_cmpR (op_neD hr.units) (pv 3) pe_int (nomark _)) (pss_cons (ps_set (i := 4) sc__law_low.nd rfl (Or.inl rfl) (pe_op op_modU (pv 2) (pv 3)))
      (pss_cons (ps_set (i := 2) sc__law_low.nd rfl (Or.inl rfl) (pv 3))
      (pss_one (ps_set (i := 3) sc__law_low.nd rfl (Or.inl rfl) (pv 4))))))
      (pss_cons (ps_if (pt_cmpR op_ltI (pv 1) pe_int (nomark _)) (pss_one (ps_set (i := 2) sc__law_low.nd rfl (Or.inl rfl) (pe_un un_negU (pv 2)))) pss_nil)
      (pss_one (ps_ret (pe_tup (pa_cons (pe_op op_divU (pv 0) (pv 2)) (pa_cons (pe_op op_divU (pv 1) (pv 2)) pa_nil))))))))), ?_⟩
  walk_at "cr.k"
  refine ⟨fun m σ' H' => ∃ a : Nat, ∃ y, σ' = [some (.int t), some (.int b), some (.int a), some (.int (m : Nat)), y] ∧ Nat.gcd a m = Nat.gcd t.natAbs b.natAbs ∧ H' = H, ⟨b.natAbs, t.natAbs, none, rfl, rfl, rfl⟩, ?_⟩
  rintro k σ' H' ⟨a, y, rfl, hg, rfl⟩
  walk_at "cr.go"
  by_cases hk : k = 0
  · subst hk
    rw [show (!decide (((0 : Nat) : Int) = 0)) = false by rfl]
    have hg' : a = Nat.gcd t.natAbs b.natAbs := by rw [← hg]; simp
    have gp := gcd_pos (t := t) hb
    have lg : (Nat.gcd t.natAbs b.natAbs) ≤ b.natAbs := Nat.le_of_dvd (by omega) (Nat.gcd_dvd_right _ _)
    walk_at "cr.go"
    have dz : ∀ i : Int, CDivZ i (lowG t b) := fun i => dz_of (n := 8000) (by unfold lowG; split <;> omega) (Nat.lt_of_le_of_lt (by unfold lowG; split <;> omega) hz) (by decide) (by decide)
    by_cases h : b < 0
    · rw [decide_eq_true h]
      have e : -(a : Int) = lowG t b := by rw [lowG, if_pos h, hg']
      walk_at "cr.go"
      rw [e]
      have d1 := dz t
      have d2 := dz b
      walk_at "cr.go"
      rename_i p hp
      rw [low_num hb, low_den hb]
      exact q _ _ (same_new hp) (dt_new (.cons (.int _) (.cons (.int _) .nil)) hp)
    · rw [decide_eq_false h]
      have e : (a : Int) = lowG t b := by rw [lowG, if_neg h, hg']
      walk_at "cr.go"
      rw [e]
      have d1 := dz t
      have d2 := dz b
      walk_at "cr.go"
      rename_i p hp
      rw [low_num hb, low_den hb]
      exact q _ _ (same_new hp) (dt_new (.cons (.int _) (.cons (.int _) .nil)) hp)
  · rw [show (!decide ((k : Int) = 0)) = true by rw [decide_eq_false (by omega)]; rfl]
    refine iteT ⟨fun σ' H' => ∃ m', m' < k ∧ ∃ a : Nat, ∃ y, σ' = [some (.int t), some (.int b), some (.int a), some (.int (m' : Nat)), y] ∧ Nat.gcd a m' = Nat.gcd t.natAbs b.natAbs ∧ H' = _, fun _ _ h => h, ?_⟩
    walk_at "cr.go"
    refine ⟨a % k, Nat.mod_lt _ (by omega), k, some (.int (a % k : Nat)), ?_, (gcd_turn a k).trans hg, rfl⟩
    rw [show ((a : Int).fmod (k : Int)) = ((a % k : Nat) : Int) by rw [Int.fmod_eq_emod_of_nonneg _ (by omega)]; rfl]
    try rfl
local macro_rules | `(tactic| walk_at "cr.call") => `(tactic| ((with_reducible refine' Cr.u__law_low ?e ?a ?b ?_); (case e => with_unfolding_all rfl); (case a => first | assumption | omega); (case b => walk_at "cr.pw"); intro v H' hs hd))

/-! ### _law_wide -/
def sp__law_wide (K : PySem.W.Frag) : Sp := fun vs H Q _ => ∃ (b l : Addr) (m : Int), vs = [.ref b, .int m] ∧ Bag H b l ∧ 0 < m ∧ ∀ k H', 0 ≤ k → k < m → But b H H' → Bag H' b l → Q (.int k) H'
theorem u__law_wide {H : Hp} {Q : VK} {E : XK} {vs : List V} {b l : Addr} {m : Int} (e : vs = [.ref b, .int m]) (h : Bag H b l) (h0 : 0 < m) (q : ∀ k H', 0 ≤ k → k < m → But b H H' → Bag H' b l → Q (.int k) H') : sp__law_wide K vs H Q E := ⟨b, l, m, e, h, h0, q⟩
theorem ok__law_wide (T : Top K mg) : FnOk P w K mg base CX0 2 T.f__law_wide T.fd__law_wide ["_law_bag_here", "_law_many"] (sp__law_wide K) := by
  have G__law_pull := ok__law_pull (P := P) (w := w) (base := base) T
  have hcl_Till := T.cl_Till
  have hna_Till_sums := T.na_Till_sums
  refine T.F__law_wide.ok sc__law_wide (fun vs H Q E h => by obtain ⟨b, l, m, rfl, _⟩ := h; rfl) (fun cdv A outer s H vs Q E hr h => ?_)
  obtain ⟨b, l, m, rfl, hB, h0, q⟩ := h
  refine ⟨_, (pss_cons (ps_set (i := 2) sc__law_wide.nd rfl (Or.inl rfl) (pe_call (G__law_pull) (hr.mono (by decide)) (by rfl) T.g__law_pull T.k__law_pull T.b__law_pull .nil pass0 (pa_cons (pv 0) (pa_cons pe_int pa_nil))))
      (pss_one (ps_ret (pe_op op_modU (pe_op op_addU (pv 2) (pe_op op_mulU pe_int (pe_call (G__law_pull) (hr.mono (by decide)) (by rfl) T.g__law_pull T.k__law_pull T.b__law_pull .nil pass0 (pa_cons (pv 0) (pa_cons pe_int pa_nil))))) (pv 1))))), ?_⟩
  walk_at "cr.k"
  exact q _ _ (fmod_in h0).1 (fmod_in h0).2 (by walk_at "cr.but") (by walk_at "cr.bag")
local macro_rules | `(tactic| walk_at "cr.call") => `(tactic| ((with_reducible refine' Cr.u__law_wide ?e ?a ?b ?_); (case e => with_unfolding_all rfl); (case a => walk_at "cr.bag"); (case b => first | assumption | omega | decide); intro k H' hk0 hk1 hb hB))

/-! ### _law_whole -/
def sp__law_whole (K : PySem.W.Frag) : Sp := fun vs H Q _ => ∃ x : V, vs = [x] ∧ ((∃ i, x = .int i ∧ Q (.bl true) H) ∨ (∃ i, x = .bl i ∧ Q (.bl false) H))
theorem u__law_whole {H : Hp} {Q : VK} {E : XK} {vs : List V} {i : Int} (e : vs = [.int i]) (q : Q (.bl true) H) : sp__law_whole K vs H Q E := ⟨_, e, .inl ⟨i, rfl, q⟩⟩
theorem ok__law_whole (T : Top K mg) : FnOk P w K mg base CX0 1 T.f__law_whole T.fd__law_whole ["_law_found"] (sp__law_whole K) := by
  have hcl_Till := T.cl_Till
  have hna_Till_sums := T.na_Till_sums
  refine T.F__law_whole.ok sc__law_whole (fun vs H Q E h => by obtain ⟨x, rfl, _⟩ := h; rfl) (fun cdv A outer s H vs Q E hr h => ?_)
  obtain ⟨x, rfl, h⟩ := h
  refine ⟨_, (pss_one (ps_ret (pe_and (pe_callB call_isi (by rfl) T.n_isinstance (by decide +kernel) (pa_cons (pv 0) (pa_cons (pe_bltn (v := .ty "int") (by rfl) T.n_int (by decide +kernel) rfl) pa_nil))) (pe_one (pe_not (pe_callB call_isi (by rfl) T.n_isinstance (by decide +kernel) (pa_cons (pv 0) (pa_cons (pe_bltn (v := .ty "bool") (by rfl) T.n_bool (by decide +kernel) rfl) pa_nil)))))))), ?_⟩
  rcases h with ⟨i, rfl, q⟩ | ⟨i, rfl, q⟩
  · walk_at "cr.k"
    exact q
  · walk_at "cr.k"
    exact q
local macro_rules | `(tactic| walk_at "cr.call") => `(tactic| ((with_reducible refine' Cr.u__law_whole ?e ?_); (case e => with_unfolding_all rfl)))

/-! ### law -/
def sp_law (K : PySem.W.Frag) : Sp := fun vs H Q _ => ∃ (a : Addr) (ns : List Int), vs = [.ref a] ∧ SqL K H a (ns.map V.int) ∧ ns.length ≤ 63 ∧ ∀ H', Q (.bl true) H'
structure Apart (b l pn pt ps : Addr) (D S : Nat → Addr) : Prop where
  db : ∀ i, i < 2 → D i ≠ b ∧ D i ≠ l
  sb : ∀ i, i < 2 → S i ≠ b ∧ S i ≠ l ∧ S i ≠ pn ∧ S i ≠ pt ∧ S i ≠ ps
  pb : pn ≠ b ∧ pt ≠ b ∧ ps ≠ b
  dd : D 0 ≠ D 1
  ss : S 0 ≠ S 1
structure Tills (K : PySem.W.Frag) (C : Addr) (ys : List Str) (b l pn pt ps : Addr) (T : Nat → V) (D S : Nat → Addr) (F : Nat → Str → Int) (n : Nat) (H : Hp) : Prop where
  bag : Bag H b l
  nm : H pn = some (.lst (ys.map V.str))
  tl : H pt = some (.lst [T 0, T 1])
  sm : H ps = some (.lst [.ref (S 0), .ref (S 1)])
  till : ∀ i, i < 2 → TillAt K C H (T i) (D i) (F i) n
  row : ∀ i, i < 2 → H (S i) = some (.lst ((ys.map (F i)).map V.int))
  none : F 0 ("" : Str) = 0
section
variable {C : Addr} {ys : List Str} {b l pn pt ps : Addr} {T : Nat → V} {D S : Nat → Addr} {F : Nat → Str → Int} {n : Nat} {H H' : Hp}
theorem TillAt.dict {v : V} {d : Addr} {f : Str → Int} (h : TillAt K C H v d f n) : ∃ kvs, H d = some (.dK kvs) := by
  obtain ⟨_, _, kvs, _, _, h, _⟩ := h
  exact ⟨kvs, h⟩
theorem TillAt.le {v : V} {d : Addr} {f : Str → Int} {m : Nat} (k : n ≤ m) (h : TillAt K C H v d f n) : TillAt K C H v d f m := by
  obtain ⟨a, dx, kvs, e, h1, h2, h3, h4⟩ := h
  exact ⟨a, dx, kvs, e, h1, h2, Nat.le_trans h3 k, h4⟩
theorem Tills.same (s : Same H H') (h : Tills K C ys b l pn pt ps T D S F n H) : Tills K C ys b l pn pt ps T D S F n H' :=
  ⟨h.bag.same s, s _ _ h.nm, s _ _ h.tl, s _ _ h.sm, fun i hi => (h.till i hi).mono (fun a _ o _ e => s a o e) (fun _ e => s _ _ e), fun i hi => s _ _ (h.row i hi), h.none⟩
theorem Tills.but (ap : Apart b l pn pt ps D S) (s : But b H H') (hB : Bag H' b l) (h : Tills K C ys b l pn pt ps T D S F n H) : Tills K C ys b l pn pt ps T D S F n H' :=
  ⟨hB, s.oth _ _ ap.pb.1 h.nm, s.oth _ _ ap.pb.2.1 h.tl, s.oth _ _ ap.pb.2.2 h.sm, fun i hi => (h.till i hi).mono (fun a _ o t e => ki_but s a o e t) (fun _ e => s.oth _ _ (ap.db i hi).1 e), fun i hi => s.oth _ _ (ap.sb i hi).1 (h.row i hi), h.none⟩
theorem map_upd {ys : List Str} (nd : ys.Nodup) {a : Nat} (ha : a < ys.length) {f g : Str → Int} {z : Int} (hg : ∀ t, g t = if t = ys[a] then z else f t) : ((ys.map f).map V.int).set a (.int z) = (ys.map g).map V.int := by
  rw [← List.map_set]
  congr 1
  refine List.ext_getElem (by simp) fun i h1 h2 => ?_
  rw [List.getElem_set, List.getElem_map, List.getElem_map]
  simp only [List.length_set, List.length_map] at h1
  rw [hg]
  by_cases e : a = i
  · subst e
    rw [if_pos rfl, if_pos rfl]
  · rw [if_neg e, if_neg (fun z => e ((List.getElem_inj nd).mp z.symm))]
theorem Tills.pay (ap : Apart b l pn pt ps D S) (h : Tills K C ys b l pn pt ps T D S F n H) {w a : Nat} (hw : w < 2) (ha : a < ys.length) (nd : ys.Nodup) (ne : ys[a] ≠ ("" : Str)) {g : Str → Int} {z : Int} (ho : Oth (D w) H H') (ht : TillAt K C H' (T w) (D w) g (n + 1)) (hg : ∀ t, g t = if t = ys[a] then z else F w t) :
    Tills K C ys b l pn pt ps T D S (fun i => if i = w then g else F i) (n + 1) (upd H' (S w) (.lst (((ys.map (F w)).map V.int).set a (.int z)))) := by
  obtain ⟨kvs, hk⟩ := (h.till w hw).dict
  have ln : ∀ p xs, H p = some (.lst xs) → p ≠ D w := fun p xs e z => by rw [z, hk] at e; cases e
  have st : ∀ p xs, H p = some (.lst xs) → H' p = some (.lst xs) := fun p xs e => ho.oth _ _ (ln p xs e) e
  have sb := ap.sb w hw
  have hrow := st _ _ (h.row w hw)
  have kz : ∀ a o, isZ o = true → H' a = some o → upd H' (S w) (.lst (((ys.map (F w)).map V.int).set a (.int z))) a = some o := fun a o t e => by
    rw [upd_ne (fun z => by rw [z, hrow] at e; cases e; cases t)]; exact e
  refine ⟨(ho.bag (ap.db w hw).1 (ap.db w hw).2 h.bag).upd sb.1 sb.2.1, ?_, ?_, ?_, fun i hi => ?_, fun i hi => ?_, ?_⟩
  · rw [upd_ne sb.2.2.1.symm]; exact st _ _ h.nm
  · rw [upd_ne sb.2.2.2.1.symm]; exact st _ _ h.tl
  · rw [upd_ne sb.2.2.2.2.symm]; exact st _ _ h.sm
  · by_cases e : i = w
    · subst e
      simp only [if_pos]
      refine ht.mono (fun a _ o t e => ?_) (fun kv e => ?_)
      · rw [upd_ne (fun z => by rw [z, hrow] at e; cases e; cases t)]; exact e
      · rw [upd_ne (fun z => by rw [z, hrow] at e; cases e)]; exact e
    · simp only [if_neg e]
      have hdd : D i ≠ D w := by
        have hi2 : i = 0 ∨ i = 1 := by omega
        have hw2 : w = 0 ∨ w = 1 := by omega
        rcases hi2 with rfl | rfl <;> rcases hw2 with rfl | rfl
        · exact absurd rfl e
        · exact ap.dd
        · exact ap.dd.symm
        · exact absurd rfl e
      refine ((h.till i hi).le (Nat.le_succ n)).mono (fun a _ o t e => ?_) (fun kv e => ?_)
      · have e2 := ki_oth ho a o e t
        rw [upd_ne (fun z => by rw [z, hrow] at e2; cases e2; cases t)]; exact e2
      · have e2 := ho.oth _ _ hdd e
        rw [upd_ne (fun z => by rw [z, hrow] at e2; cases e2)]; exact e2
  · by_cases e : i = w
    · subst e
      simp only [if_pos]
      rw [upd_same, map_upd nd ha hg]
    · simp only [if_neg e]
      have hss : S i ≠ S w := by
        have hi2 : i = 0 ∨ i = 1 := by omega
        have hw2 : w = 0 ∨ w = 1 := by omega
        rcases hi2 with rfl | rfl <;> rcases hw2 with rfl | rfl
        · exact absurd rfl e
        · exact ap.ss
        · exact ap.ss.symm
        · exact absurd rfl e
      rw [upd_ne hss]
      exact st _ _ (h.row i hi)
  · by_cases e : 0 = w
    · subst e
      simp only [if_pos]
      rw [hg, if_neg ne.symm]
      exact h.none
    · simp only [if_neg e]
      exact h.none
end
set_option maxHeartbeats 4000000 in
theorem ok_law {f : Addr} {fd : FuncData} (F : Fun K "law" "law" s_law f fd) (T : Top K mg) : FnOk P w K mg base CX0 4 f fd ["_law_script"] (sp_law K) := by
  have G_TillU_initU := ok_TillU_initU (P := P) (w := w) (base := base) T
  have G_Till_paid := ok_Till_paid (P := P) (w := w) (base := base) T
  have G_Till_pay := ok_Till_pay (P := P) (w := w) (base := base) T
  have G_Till_owed := ok_Till_owed (P := P) (w := w) (base := base) T
  have G__law_bag := ok__law_bag (P := P) (w := w) (base := base) T
  have G__law_pull := ok__law_pull (P := P) (w := w) (base := base) T
  have G__law_names := ok__law_names (P := P) (w := w) (base := base) T
  have G__law_low := ok__law_low (P := P) (w := w) (base := base) T
  have G__law_wide := ok__law_wide (P := P) (w := w) (base := base) T
  have G__law_whole := ok__law_whole (P := P) (w := w) (base := base) T
  have hcl_Till := T.cl_Till
  have hna_Till_sums := T.na_Till_sums
  refine F.ok sc_law (fun vs H Q E h => by obtain ⟨a, ns, rfl, _⟩ := h; rfl) (fun cdv A outer s H vs Q E hr h => ?_)
  obtain ⟨a, ns, rfl, hS, _, q⟩ := h
  refine ⟨_, (pss_cons (ps_set (i := 1) sc_law.nd rfl (Or.inl rfl) (pe_call (G__law_bag) (hr.mono (by decide)) (by rfl) T.g__law_bag T.k__law_bag T.b__law_bag .nil pass0 (pa_cons (pv 0) pa_nil)))
      (pss_cons (ps_set (i := 2) sc_law.nd rfl (Or.inl rfl) (pe_call (G__law_names) (hr.mono (by decide)) (by rfl) T.g__law_names T.k__law_names T.b__law_names .nil pass0 (pa_cons (pv 1) (pa_cons pe_int pa_nil))))
      (pss_cons (ps_set (i := 3) sc_law.nd rfl (Or.inl rfl) (pe_lst (pa_cons (pe_make0 T.M_Till (G_TillU_initU) (hr.mono (by decide)) (by rfl) T.c_Till T.b_TillU_initU .nil pass0) (pa_cons (pe_make0 T.M_Till (G_TillU_initU) (hr.mono (by decide)) (by rfl) T.c_Till T.b_TillU_initU .nil pass0) pa_nil))))
      (pss_cons (ps_set (i := 4) sc_law.nd rfl (Or.inl rfl) (pe_lst (pa_cons (pe_lst (pa_cons pe_int (pa_cons pe_int (pa_cons pe_int pa_nil)))) (pa_cons (pe_lst (pa_cons pe_int (pa_cons pe_int (pa_cons pe_int pa_nil)))) pa_nil))))
      (pss_cons (ps_for PassesOwn.never rfl (pi_range1 rfl T.n_range (pa_cons (pe_call (G__law_pull) (hr.mono (by decide)) (by rfl) T.g__law_pull T.k__law_pull T.b__law_pull .nil pass0 (pa_cons (pv 1) (pa_cons pe_int pa_nil))) pa_nil)) (pg_name (i := 5) sc_law.nd rfl (Or.inl rfl)) (pss_cons (ps_set (i := 6) sc_law.nd rfl (Or.inl rfl) (pe_call (G__law_pull) (hr.mono (by decide)) (by rfl) T.g__law_pull T.k__law_pull T.b__law_pull .nil pass0 (pa_cons (pv 1) (pa_cons pe_int pa_nil))))
      (pss_cons (ps_set (i := 7) sc_law.nd rfl (Or.inl rfl) (pe_call (G__law_pull) (hr.mono (by decide)) (by rfl) T.g__law_pull T.k__law_pull T.b__law_pull .nil pass0 (pa_cons (pv 1) (pa_cons pe_int pa_nil))))
      (pss_cons (ps_set (i := 8) sc_law.nd rfl (Or.inl rfl) (pe_call (G__law_low) (hr.mono (by decide)) (by rfl) T.g__law_low T.k__law_low T.b__law_low .nil pass0 (pa_cons (pe_ix ix_seq (pe_lst (pa_cons pe_int (pa_cons (pe_call (G__law_pull) (hr.mono (by decide)) (by rfl) T.g__law_pull T.k__law_pull T.b__law_pull .nil pass0 (pa_cons (pv 1) (pa_cons pe_int pa_nil))) (pa_cons (pe_call (G__law_wide) (hr.mono (by decide)) (by rfl) T.g__law_wide T.k__law_wide T.b__law_wide .nil pass0 (pa_cons (pv 1) (pa_cons (pe_op op_powU pe_int pe_int) pa_nil))) pa_nil)))) (pe_call (G__law_pull) (hr.mono (by decide)) (by rfl) T.g__law_pull T.k__law_pull T.b__law_pull .nil pass0 (pa_cons (pv 1) (pa_cons pe_int pa_nil))) (fun _ _ => rfl)) (pa_cons (pe_op op_addU pe_int (pe_call (G__law_pull) (hr.mono (by decide)) (by rfl) T.g__law_pull T.k__law_pull T.b__law_pull .nil pass0 (pa_cons (pv 1) (pa_cons pe_int pa_nil)))) pa_nil))))
      (pss_cons (ps_set (i := 9) sc_law.nd rfl (Or.inl rfl) (pe_op op_divU (pe_ix ix_seq (pv 8) pe_int (fun _ _ => rfl)) (pe_ix ix_seq (pv 8) pe_int (fun _ _ => rfl))))
      (pss_cons (ps_if (pt_cmpR (op_neD hr.units) (pe_meth (pe_ix ix_seq (pv 3) (pv 6) (fun _ _ => rfl)) T.cl_Till T.m_Till_owed (G_Till_owed) (hr.mono (by decide)) T.b_Till_owed .nil pass0 (pa_cons (pe_ix ix_seq (pv 2) (pv 7) (fun _ _ => rfl)) (pa_cons (pv 8) pa_nil))) (pe_callB (call_maxU rfl) (by rfl) T.n_max (by decide +kernel) (pa_cons pe_int (pa_cons (pe_op op_subU (pe_ix ix_seq (pe_ix ix_seq (pv 4) (pv 6) (fun _ _ => rfl)) (pv 7) (fun _ _ => rfl)) (pv 9)) pa_nil))) (nomark _)) (pss_one (ps_ret pe_bl)) pss_nil)
      (pss_cons (ps_set (i := 10) sc_law.nd rfl (Or.inl rfl) (pe_callB (call_maxU rfl) (by rfl) T.n_max (by decide +kernel) (pa_cons pe_int (pa_cons (pe_op op_subU (pv 9) (pe_ix ix_seq (pe_ix ix_seq (pv 4) (pv 6) (fun _ _ => rfl)) (pv 7) (fun _ _ => rfl))) pa_nil))))
      (pss_cons (ps_set (i := 11) sc_law.nd rfl (Or.inl rfl) (pe_meth (pe_ix ix_seq (pv 3) (pv 6) (fun _ _ => rfl)) T.cl_Till T.m_Till_pay (G_Till_pay) (hr.mono (by decide)) T.b_Till_pay .nil pass0 (pa_cons (pe_ix ix_seq (pv 2) (pv 7) (fun _ _ => rfl)) (pa_cons (pv 8) pa_nil))))
      (pss_cons (ps_asg (pe_op op_addU (pe_ix ix_seq (pe_ix ix_seq (pv 4) (pv 6) (fun _ _ => rfl)) (pv 7) (fun _ _ => rfl)) (pv 10)) (pg_sub (pe_ix ix_seq (pv 4) (pv 6) (fun _ _ => rfl)) (pv 7) set_list))
      (pss_cons (ps_if (PW.pt (pw_or (pt_not (pt_tru (pe_call (G__law_whole) (hr.mono (by decide)) (by rfl) T.g__law_whole T.k__law_whole T.b__law_whole .nil pass0 (pa_cons (pv 11) pa_nil)))) (pw_or1 (pt_cmpR (op_neD hr.units) (pv 11) (pv 10) (nomark _))))) (pss_one (ps_ret pe_bl)) pss_nil)
      (pss_cons (ps_for PassesOwn.never rfl (pi_range1 rfl T.n_range (pa_cons pe_int pa_nil)) (pg_name (i := 12) sc_law.nd rfl (Or.inl rfl)) (pss_one (ps_if (pt_cmpR (op_neD hr.units) (pe_meth (pe_ix ix_seq (pv 3) (pe_op op_modU (pv 12) pe_int) (fun _ _ => rfl)) T.cl_Till T.m_Till_paid (G_Till_paid) (hr.mono (by decide)) T.b_Till_paid .nil pass0 (pa_cons (pe_ix ix_seq (pv 2) (pe_op op_divU (pv 12) pe_int) (fun _ _ => rfl)) pa_nil)) (pe_ix ix_seq (pe_ix ix_seq (pv 4) (pe_op op_modU (pv 12) pe_int) (fun _ _ => rfl)) (pe_op op_divU (pv 12) pe_int) (fun _ _ => rfl)) (nomark _)) (pss_one (ps_ret pe_bl)) pss_nil)))
      (pss_one (ps_if (pt_cmpR (op_neD hr.units) (pe_meth (pe_ix ix_seq (pv 3) (pv 6) (fun _ _ => rfl)) T.cl_Till T.m_Till_owed (G_Till_owed) (hr.mono (by decide)) T.b_Till_owed .nil pass0 (pa_cons (pe_ix ix_seq (pv 2) (pv 7) (fun _ _ => rfl)) (pa_cons (pv 8) pa_nil))) (pe_callB (call_maxU rfl) (by rfl) T.n_max (by decide +kernel) (pa_cons pe_int (pa_cons (pe_op op_subU (pe_ix ix_seq (pe_ix ix_seq (pv 4) (pv 6) (fun _ _ => rfl)) (pv 7) (fun _ _ => rfl)) (pv 9)) pa_nil))) (nomark _)) (pss_one (ps_ret pe_bl)) pss_nil)))))))))))))
      (pss_one (ps_ret (pe_and (pe_cmpR (op_eqD hr.units) (pe_meth (pe_ix ix_seq (pv 3) pe_int (fun _ _ => rfl)) T.cl_Till T.m_Till_paid (G_Till_paid) (hr.mono (by decide)) T.b_Till_paid .nil pass0 (pa_cons pe_str pa_nil)) pe_int (nomark _)) (pe_one (pe_cmpR (op_eqD hr.units) (pe_meth (pe_ix ix_seq (pv 3) pe_int (fun _ _ => rfl)) T.cl_Till T.m_Till_owed (G_Till_owed) (hr.mono (by decide)) T.b_Till_owed .nil pass0 (pa_cons pe_str (pa_cons (pe_tup (pa_cons pe_int (pa_cons pe_int pa_nil))) pa_nil))) pe_int (nomark _))))))))))), ?_⟩
  walk_at "cr.k"
  rename_i b l H1 hs1 nb nl hB1 pn ys H2 hb2 hB2 npn hpn hyl hnd hnm t0 d0 H3 hs3 nd0 ht0 t1 d1 H4 hs4 nd1 ht1 pt hpt s0 hs0 s1 hs1' ps hps kk H5 hkk0 hkk1 hb5 hB5
  have nl3 : ys.length = 3 := hyl
  have hB4 : Bag H4 b l := by walk_at "cr.bag"
  obtain ⟨kv0, hk0⟩ := ht0.dict
  obtain ⟨kv1, hk1⟩ := ht1.dict
  have hk04 : H4 d0 = some (.dK kv0) := by walk_at "cr.at"
  have hpn4 : H4 pn = some (.lst (ys.map V.str)) := hs4 _ _ (hs3 _ _ hpn)
  have a1 := ne_new hps
  have r1 := free_upd hps
  have a2 := ne_new r1
  have r2 := free_upd r1
  have a3 := ne_new r2
  have fps := free_upd r2
  have a4 := ne_new hs1'
  have r3 := free_upd hs1'
  have a5 := ne_new r3
  have fs1 := free_upd r3
  have a6 := ne_new hs0
  have fs0 := free_upd hs0
  clear r1 r2 r3
  have nbps := hB4.ne1 fps
  have nbpt := hB4.ne1 hpt
  have nbs0 := hB4.ne1 fs0
  have nbs1 := hB4.ne1 fs1
  have nls0 := hB4.ne2 fs0
  have nls1 := hB4.ne2 fs1
  have nbpn : pn ≠ b := hB1.ne1 npn
  have npns0 : s0 ≠ pn := (ne_of_none hpn4 fs0).symm
  have npns1 : s1 ≠ pn := (ne_of_none hpn4 fs1).symm
  have npnpt : pt ≠ pn := (ne_of_none hpn4 hpt).symm
  have npnps : ps ≠ pn := (ne_of_none hpn4 fps).symm
  have nbd0 : d0 ≠ b := hB2.ne1 nd0
  have nld0 : d0 ≠ l := hB2.ne2 nd0
  have hB3 : Bag H3 b l := hB2.same hs3
  have nbd1 : d1 ≠ b := hB3.ne1 nd1
  have nld1 : d1 ≠ l := hB3.ne2 nd1
  have nd01 : d0 ≠ d1 := ne_of_none hk0 nd1
  have ap : Apart b l pn pt ps (fun i => if i = 0 then d0 else d1) (fun i => if i = 0 then s0 else s1) := by
    refine ⟨fun i hi => ?_, fun i hi => ?_, ⟨nbpn, nbpt, nbps⟩, nd01, a4.symm⟩
    · by_cases e : i = 0
      · simp only [if_pos e]; exact ⟨nbd0, nld0⟩
      · simp only [if_neg e]; exact ⟨nbd1, nld1⟩
    · by_cases e : i = 0
      · simp only [if_pos e]; exact ⟨nbs0, nls0, npns0, a6, a2.symm⟩
      · simp only [if_neg e]; exact ⟨nbs1, nls1, npns1, a5, a1.symm⟩
  have hT : Tills K T.C_Till ys b l pn pt ps (fun i => if i = 0 then t0 else t1) (fun i => if i = 0 then d0 else d1) (fun i => if i = 0 then s0 else s1) (fun _ _ => 0) 0 H5 := by
    have sm : Same H4 (upd (upd (upd (upd H4 pt (.lst [t0, t1])) s0 (.lst [.int 0, .int 0, .int 0])) s1 (.lst [.int 0, .int 0, .int 0])) ps (.lst [.ref s0, .ref s1])) := by walk_at "cr.sm"
    have ki : ∀ a o, isZ o = true → H4 a = some o → H5 a = some o := fun a o t e => ki_but hb5 a o (sm _ _ e) t
    have e3 : (ys.map (fun _ => (0 : Int))).map V.int = [.int 0, .int 0, .int 0] := by
      match ys, nl3 with
      | [_, _, _], _ => rfl
    have hd : ∀ d kv, d ≠ b → H4 d = some (.dK kv) → H5 d = some (.dK kv) := fun d kv n e => hb5.oth _ _ n (sm _ _ e)
    have ht0 : TillAt K T.C_Till H4 t0 d0 (fun _ => 0) 0 := ht0.mono (fun a _ o _ e => hs4 _ _ e) (fun _ e => hs4 _ _ e)
    have k5 : ∀ p xs, p ≠ b → upd (upd (upd (upd H4 pt (.lst [t0, t1])) s0 (.lst [.int 0, .int 0, .int 0])) s1 (.lst [.int 0, .int 0, .int 0])) ps (.lst [.ref s0, .ref s1]) p = some (.lst xs) → H5 p = some (.lst xs) := fun p xs n e => hb5.oth _ _ n e
    refine ⟨hB5, k5 _ _ nbpn (sm _ _ hpn4), k5 _ _ nbpt ?_, k5 _ _ nbps upd_same, fun i hi => ?_, fun i hi => ?_, rfl⟩
    · rw [upd_ne a3.symm, upd_ne a5.symm, upd_ne a6.symm, upd_same]; rfl
    · by_cases e : i = 0
      · simp only [if_pos e]; exact ht0.mono (fun a _ o t e => ki a o t e) (fun kv e => hd _ _ (ap.db 0 (by decide)).1 e)
      · simp only [if_neg e]; exact ht1.mono (fun a _ o t e => ki a o t e) (fun kv e => hd _ _ (ap.db 1 (by decide)).1 e)
    · rw [e3]
      by_cases e : i = 0
      · simp only [if_pos e]
        refine k5 _ _ nbs0 ?_
        rw [upd_ne a2.symm, upd_ne a4.symm, upd_same]
      · simp only [if_neg e]
        refine k5 _ _ nbs1 ?_
        rw [upd_ne a1.symm, upd_same]
  clear a1 a2 a3 a4 a5 a6 fps fs0 fs1 nbps nbpt nbs0 nbs1 nls0 nls1 nbpn npns0 npns1 npnpt npnps nbd0 nld0 hB3 nbd1 nld1 nd01 hpn4
  clear hs1 nb nl hB1 hb2 hB2 npn hpn hs3 nd0 ht0 hs4 nd1 ht1 hpt hs0 hs1' hps hb5 hB5 hB4 hk0 hk1 hk04
  generalize (fun i => if i = 0 then t0 else t1) = T' at hT
  generalize (fun i => if i = 0 then d0 else d1) = D' at hT ap
  generalize (fun i => if i = 0 then s0 else s1) = S' at hT ap
  refine r_each [5, 6, 7, 8, 9, 10, 11, 12] (fun n H' => ∃ F, Tills K T.C_Till ys b l pn pt ps T' D' S' F n H') ⟨_, hT⟩ rfl ?_ ?_
  · intro n g H6 hn hR
    obtain ⟨F', hT6⟩ := hR
    have hB0 := hT6.bag
    clear hT
    walk_at "cr.n"
    walk_at "cr.go"
    refine s_menuI 0 1000000000 (by walk_at "cr.lst") (by assumption) (by walk_at "cr.len") (by walk_at "cr.items") fun u u0 u1 => ?_
    walk_at "cr.go"
    rename_i w0 G1 hw0 hw1 hb1 hB1 a0 G2 ha0 ha1 hb2 hB2 k3 G3 hk30 hk31 hb3 hB3 k4 G4 hk40 hk41 hb4 hB4 pm hpm k5 G5 hk50 hk51 hb5 hB5 k6 G6 hk60 hk61 hb6 hB6 due G7 hs7 hdue
    have hT7 := ((((((((hT6.but ap hb1 hB1).but ap hb2 hB2).but ap hb3 hB3).but ap hb4 hB4).same (same_new hpm)).but ap hb5 hB5).but ap hb6 hB6).same hs7)
    clear hT6 hB0 hb1 hB1 hb2 hB2 hb3 hB3 hb4 hB4 hpm hb5 hB5 hb6 hB6 hs7
    have zr : Sz 64 (Rat.divInt u (1 + k6)) := divInt_sz (by omega) (by omega) (by omega)
    generalize Rat.divInt u (1 + k6) = r at hdue zr ⊢
    have zr8 : Sz 8000 r := zr.mono (by decide)
    obtain ⟨w, rfl⟩ : ∃ w : Nat, w0 = (w : Int) := ⟨w0.toNat, by omega⟩
    obtain ⟨aa, rfl⟩ : ∃ aa : Nat, a0 = (aa : Int) := ⟨a0.toNat, by omega⟩
    have hw : w < 2 := by omega
    have haa : aa < ys.length := by omega
    have hne : ys[aa] ≠ ("" : Str) := fun z => by
      have h1 := (hnm _ (List.getElem_mem haa)).1
      rw [z] at h1
      exact absurd h1 (by decide +kernel)
    have two : ∀ {α : Type} (f : Nat → α) (i : Nat), i < 2 → atI [f 0, f 1] (i : Int) = some (f i) := fun f i hi => by
      have : i = 0 ∨ i = 1 := by omega
      rcases this with rfl | rfl <;> rfl
    have eT := two T' w hw
    have eS := two (fun i => V.ref (S' i)) w hw
    have eN : atI (ys.map V.str) (aa : Int) = some (.str ys[aa]) := atI_nat (by rw [List.getElem?_map, List.getElem?_eq_getElem haa]; rfl)
    have eRf : ∀ (f : Str → Int) (i : Nat) (hi : i < ys.length), atI ((ys.map f).map V.int) (i : Int) = some (.int (f ys[i])) := fun f i hi => atI_nat (by rw [List.getElem?_map, List.getElem?_map, List.getElem?_eq_getElem hi]; rfl)
    have eR := eRf (F' w) aa haa
    have ixa : ixN ((ys.map (F' w)).map V.int).length (aa : Int) = some aa := ixN_nat (by rw [List.length_map, List.length_map]; exact haa)
    have hnm7 := hT7.nm
    have htl7 := hT7.tl
    have hsm7 := hT7.sm
    have htw7 := hT7.till w hw
    have hrw7 := hT7.row w hw
    obtain ⟨kvw, hkw⟩ := htw7.dict
    have x1 : S' w ≠ D' w := fun z => by rw [z, hkw] at hrw7; cases hrw7
    have x2 : pt ≠ D' w := fun z => by rw [z, hkw] at htl7; cases htl7
    have x3 : ps ≠ D' w := fun z => by rw [z, hkw] at hsm7; cases hsm7
    have x4 : pn ≠ D' w := fun z => by rw [z, hkw] at hnm7; cases hnm7
    clear hkw
    have hcd := dz_den (i := r.num) zr8
    refine s_divI hcd ?_
    rw [floor_eq]
    walk_at "cr.go"
    rename_i H8 g2 ho8 ht8 hg8
    have hT9 := hT7.pay ap hw haa hnd hne ho8 ht8 hg8
    obtain ⟨F2, hF2⟩ : ∃ F2 : Nat → Str → Int, F2 = fun i => if i = w then g2 else F' i := ⟨_, rfl⟩
    rw [← hF2] at hT9
    have hrw8 := ho8.oth _ _ x1 hrw7
    have hdue8 : Dt K (upd H8 (S' w) (.lst (((ys.map (F' w)).map V.int).set aa (.int (F' w ys[aa] + moreT r (F' w ys[aa])))))) due (fr r) := (hdue.mono (ki_oth ho8).kt).mono (kt_mut hrw8 rfl)
    clear hF2 hg8 ht8 ho8 x1 x2 x3 x4 hrw7 htw7 hsm7 htl7 hnm7 hT7 eR ixa
    refine r_each [12] (fun _ H' => Tills K T.C_Till ys b l pn pt ps T' D' S' F2 (n + 1) H' ∧ Dt K H' due (fr r)) ⟨hT9, hdue8⟩ rfl ?_ ?_
    · intro j g3 H9 hj hR9
      obtain ⟨hT9, hdue⟩ := hR9
      have hj2 : j % 2 < 2 := Nat.mod_lt _ (by decide)
      have hj3 : j / 2 < ys.length := by omega
      have hm : ((0 : Int) + (j : Int)).fmod 2 = ((j % 2 : Nat) : Int) := by rw [Int.zero_add, Int.fmod_eq_emod_of_nonneg _ (by decide)]; rfl
      have hd : ((0 : Int) + (j : Int)).fdiv 2 = ((j / 2 : Nat) : Int) := by rw [Int.zero_add, Int.fdiv_eq_ediv_of_nonneg _ (by decide)]; rfl
      have eT2 := two T' (j % 2) hj2
      have eS2 := two (fun i => V.ref (S' i)) (j % 2) hj2
      have eN2 : atI (ys.map V.str) ((j / 2 : Nat) : Int) = some (.str ys[j / 2]) := atI_nat (by rw [List.getElem?_map, List.getElem?_eq_getElem hj3]; rfl)
      have eR2 := eRf (F2 (j % 2)) (j / 2) hj3
      have hnm7 := hT9.nm
      have htl7 := hT9.tl
      have hsm7 := hT9.sm
      have htw7 := hT9.till (j % 2) hj2
      have hrw7 := hT9.row (j % 2) hj2
      walk_at "cr.n"
      walk_at "cr.go"
      simp only [hm]
      walk_at "cr.go"
      simp only [hd]
      walk_at "cr.go"
      simp only [hm]
      walk_at "cr.go"
      simp only [hd]
      walk_at "cr.go"
      exact ⟨i_of rfl, hT9, hdue⟩
    · intro g3 H9 hR9
      obtain ⟨hT9, hdue⟩ := hR9
      have eR := eRf (F2 w) aa haa
      have hnm7 := hT9.nm
      have htl7 := hT9.tl
      have hsm7 := hT9.sm
      have htw7 := hT9.till w hw
      have hrw7 := hT9.row w hw
      walk_at "cr.n"
      walk_at "cr.go"
      exact ⟨i_of rfl, F2, hT9⟩
  · intro g H6 hR
    obtain ⟨F', hT6⟩ := hR
    clear hT
    have hnm7 := hT6.nm
    have htl7 := hT6.tl
    have htw7 := hT6.till 0 (by decide)
    have hno := hT6.none
    walk_at "cr.n"
    walk_at "cr.go"
    rw [hno, decide_eq_true rfl]
    refine s_itT ?_
    walk_at "cr.go"
    rename_i p52 hp52
    have h52 : Dt K (upd H6 p52 (.tup [.int 5, .int 2])) (.ref p52) (fr (Rat.divInt 5 2)) := by
      rw [show fr (Rat.divInt 5 2) = .tuple [.int 5, .int 2] by unfold fr; rw [Rat.num_divInt, Rat.den_divInt]; rfl]
      walk_at "cr.dt"
    have z52 : Sz 8000 (Rat.divInt 5 2) := (divInt_sz (n := 64) (by decide) (by decide) (by decide)).mono (by decide)
    have ht8 : TillAt K T.C_Till (upd H6 p52 (.tup [.int 5, .int 2])) (T' 0) (D' 0) (F' 0) kk.toNat := htw7.mono (fun a _ o _ e => same_new hp52 _ _ e) (fun _ e => same_new hp52 _ _ e)
    have hf : (Rat.divInt 5 2).floor = 2 := by rw [Rat.floor_def, Rat.num_divInt, Rat.den_divInt]; rfl
    walk_at "cr.go"
    rw [hno, hf]
    exact q _

end
theorem all_mk {l : PySem.W.OpenLaw} {w : World} {K : PySem.W.Frag} {h : Heap} {mg : Str → Option Value} {fa : Addr} (X : K.In h) (G : h.Ns mainGlobals mg) (hfa : mg "law" = some (.ref fa))
    {C_Till : Addr}
    {f_TillU_initU : Addr} {od_TillU_initU an_TillU_initU : Option Addr} {sl_TillU_initU : Array (Option Value)} {oc_TillU_initU dc_TillU_initU pm_TillU_initU cd_TillU_initU ct_TillU_initU : Value} {kV_TillU_initU : Value}
    {f_floor : Addr} {od_floor an_floor : Option Addr} {sl_floor : Array (Option Value)} {oc_floor dc_floor pm_floor cd_floor ct_floor : Value} {kV_floor : Value}
    {f_Till_paid : Addr} {od_Till_paid an_Till_paid : Option Addr} {sl_Till_paid : Array (Option Value)} {oc_Till_paid dc_Till_paid pm_Till_paid cd_Till_paid ct_Till_paid : Value} {kV_Till_paid : Value}
    {f_Till_pay : Addr} {od_Till_pay an_Till_pay : Option Addr} {sl_Till_pay : Array (Option Value)} {oc_Till_pay dc_Till_pay pm_Till_pay cd_Till_pay ct_Till_pay : Value} {kV_Till_pay : Value}
    {f_Till_owed : Addr} {od_Till_owed an_Till_owed : Option Addr} {sl_Till_owed : Array (Option Value)} {oc_Till_owed dc_Till_owed pm_Till_owed cd_Till_owed ct_Till_owed : Value} {kV_Till_owed : Value}
    {f__law_bag : Addr} {od__law_bag an__law_bag : Option Addr} {sl__law_bag : Array (Option Value)} {oc__law_bag dc__law_bag pm__law_bag cd__law_bag ct__law_bag : Value} {kV__law_bag : Value}
    {f__law_pull : Addr} {od__law_pull an__law_pull : Option Addr} {sl__law_pull : Array (Option Value)} {oc__law_pull dc__law_pull pm__law_pull cd__law_pull ct__law_pull : Value} {kV__law_pull : Value}
    {f__law_name : Addr} {od__law_name an__law_name : Option Addr} {sl__law_name : Array (Option Value)} {oc__law_name dc__law_name pm__law_name cd__law_name ct__law_name : Value} {kV__law_name : Value}
    {f__law_names : Addr} {od__law_names an__law_names : Option Addr} {sl__law_names : Array (Option Value)} {oc__law_names dc__law_names pm__law_names cd__law_names ct__law_names : Value} {kV__law_names : Value}
    {f__law_low : Addr} {od__law_low an__law_low : Option Addr} {sl__law_low : Array (Option Value)} {oc__law_low dc__law_low pm__law_low cd__law_low ct__law_low : Value} {kV__law_low : Value}
    {f__law_wide : Addr} {od__law_wide an__law_wide : Option Addr} {sl__law_wide : Array (Option Value)} {oc__law_wide dc__law_wide pm__law_wide cd__law_wide ct__law_wide : Value} {kV__law_wide : Value}
    {f__law_whole : Addr} {od__law_whole an__law_whole : Option Addr} {sl__law_whole : Array (Option Value)} {oc__law_whole dc__law_whole pm__law_whole cd__law_whole ct__law_whole : Value} {kV__law_whole : Value}
    {f_law : Addr} {od_law an_law : Option Addr} {sl_law : Array (Option Value)} {oc_law dc_law pm_law cd_law ct_law : Value} {kV_law : Value}
    (haC_Till : PySem.W.nsIn K mainGlobals "Till" = some (some (.ref C_Till)))
    (hn_max : PySem.W.nsIn K mainGlobals "max" = some none)
    (hn_list : PySem.W.nsIn K mainGlobals "list" = some none)
    (hn_len : PySem.W.nsIn K mainGlobals "len" = some none)
    (hn_range : PySem.W.nsIn K mainGlobals "range" = some none)
    (hn_abs : PySem.W.nsIn K mainGlobals "abs" = some none)
    (hn_bool : PySem.W.nsIn K mainGlobals "bool" = some none)
    (hn_int : PySem.W.nsIn K mainGlobals "int" = some none)
    (hn_isinstance : PySem.W.nsIn K mainGlobals "isinstance" = some none)
    (ha_TillU_initU : PySem.W.findIn K (.ref C_Till) "__init__" = some (some (.ref f_TillU_initU)))
    (hi_TillU_initU : PySem.W.isFn K (.ref f_TillU_initU) = true)
    (hl_TillU_initU : K.lookup f_TillU_initU = some ⟨oc_TillU_initU, od_TillU_initU, .func (PySem.W.fnOf "__init__" "Till.__init__" (defArgs s_TillU_initU) (defBody s_TillU_initU) (defScope s_TillU_initU) .none kV_TillU_initU dc_TillU_initU pm_TillU_initU an_TillU_initU cd_TillU_initU ct_TillU_initU), sl_TillU_initU⟩)
    (hc_TillU_initU : PySem.W.codeIn K cd_TillU_initU "Till.__init__" = true)
    (hk_TillU_initU : PySem.W.keepIn K (.ref f_TillU_initU) = true)
    (ha_floor : PySem.W.nsIn K mainGlobals "floor" = some (some (.ref f_floor)))
    (hl_floor : K.lookup f_floor = some ⟨oc_floor, od_floor, .func (PySem.W.fnOf "floor" "floor" (defArgs s_floor) (defBody s_floor) (defScope s_floor) .none kV_floor dc_floor pm_floor an_floor cd_floor ct_floor), sl_floor⟩)
    (hc_floor : PySem.W.codeIn K cd_floor "floor" = true)
    (hk_floor : PySem.W.keepIn K (.ref f_floor) = true)
    (ha_Till_paid : PySem.W.findIn K (.ref C_Till) "paid" = some (some (.ref f_Till_paid)))
    (hi_Till_paid : PySem.W.isFn K (.ref f_Till_paid) = true)
    (hl_Till_paid : K.lookup f_Till_paid = some ⟨oc_Till_paid, od_Till_paid, .func (PySem.W.fnOf "paid" "Till.paid" (defArgs s_Till_paid) (defBody s_Till_paid) (defScope s_Till_paid) .none kV_Till_paid dc_Till_paid pm_Till_paid an_Till_paid cd_Till_paid ct_Till_paid), sl_Till_paid⟩)
    (hc_Till_paid : PySem.W.codeIn K cd_Till_paid "Till.paid" = true)
    (hk_Till_paid : PySem.W.keepIn K (.ref f_Till_paid) = true)
    (ha_Till_pay : PySem.W.findIn K (.ref C_Till) "pay" = some (some (.ref f_Till_pay)))
    (hi_Till_pay : PySem.W.isFn K (.ref f_Till_pay) = true)
    (hl_Till_pay : K.lookup f_Till_pay = some ⟨oc_Till_pay, od_Till_pay, .func (PySem.W.fnOf "pay" "Till.pay" (defArgs s_Till_pay) (defBody s_Till_pay) (defScope s_Till_pay) .none kV_Till_pay dc_Till_pay pm_Till_pay an_Till_pay cd_Till_pay ct_Till_pay), sl_Till_pay⟩)
    (hc_Till_pay : PySem.W.codeIn K cd_Till_pay "Till.pay" = true)
    (hk_Till_pay : PySem.W.keepIn K (.ref f_Till_pay) = true)
    (ha_Till_owed : PySem.W.findIn K (.ref C_Till) "owed" = some (some (.ref f_Till_owed)))
    (hi_Till_owed : PySem.W.isFn K (.ref f_Till_owed) = true)
    (hl_Till_owed : K.lookup f_Till_owed = some ⟨oc_Till_owed, od_Till_owed, .func (PySem.W.fnOf "owed" "Till.owed" (defArgs s_Till_owed) (defBody s_Till_owed) (defScope s_Till_owed) .none kV_Till_owed dc_Till_owed pm_Till_owed an_Till_owed cd_Till_owed ct_Till_owed), sl_Till_owed⟩)
    (hc_Till_owed : PySem.W.codeIn K cd_Till_owed "Till.owed" = true)
    (hk_Till_owed : PySem.W.keepIn K (.ref f_Till_owed) = true)
    (ha__law_bag : PySem.W.nsIn K mainGlobals "_law_bag" = some (some (.ref f__law_bag)))
    (hl__law_bag : K.lookup f__law_bag = some ⟨oc__law_bag, od__law_bag, .func (PySem.W.fnOf "_law_bag" "_law_bag" (defArgs s__law_bag) (defBody s__law_bag) (defScope s__law_bag) .none kV__law_bag dc__law_bag pm__law_bag an__law_bag cd__law_bag ct__law_bag), sl__law_bag⟩)
    (hc__law_bag : PySem.W.codeIn K cd__law_bag "_law_bag" = true)
    (hk__law_bag : PySem.W.keepIn K (.ref f__law_bag) = true)
    (ha__law_pull : PySem.W.nsIn K mainGlobals "_law_pull" = some (some (.ref f__law_pull)))
    (hl__law_pull : K.lookup f__law_pull = some ⟨oc__law_pull, od__law_pull, .func (PySem.W.fnOf "_law_pull" "_law_pull" (defArgs s__law_pull) (defBody s__law_pull) (defScope s__law_pull) .none kV__law_pull dc__law_pull pm__law_pull an__law_pull cd__law_pull ct__law_pull), sl__law_pull⟩)
    (hc__law_pull : PySem.W.codeIn K cd__law_pull "_law_pull" = true)
    (hk__law_pull : PySem.W.keepIn K (.ref f__law_pull) = true)
    (ha__law_name : PySem.W.nsIn K mainGlobals "_law_name" = some (some (.ref f__law_name)))
    (hl__law_name : K.lookup f__law_name = some ⟨oc__law_name, od__law_name, .func (PySem.W.fnOf "_law_name" "_law_name" (defArgs s__law_name) (defBody s__law_name) (defScope s__law_name) .none kV__law_name dc__law_name pm__law_name an__law_name cd__law_name ct__law_name), sl__law_name⟩)
    (hc__law_name : PySem.W.codeIn K cd__law_name "_law_name" = true)
    (hk__law_name : PySem.W.keepIn K (.ref f__law_name) = true)
    (ha__law_names : PySem.W.nsIn K mainGlobals "_law_names" = some (some (.ref f__law_names)))
    (hl__law_names : K.lookup f__law_names = some ⟨oc__law_names, od__law_names, .func (PySem.W.fnOf "_law_names" "_law_names" (defArgs s__law_names) (defBody s__law_names) (defScope s__law_names) .none kV__law_names dc__law_names pm__law_names an__law_names cd__law_names ct__law_names), sl__law_names⟩)
    (hc__law_names : PySem.W.codeIn K cd__law_names "_law_names" = true)
    (hk__law_names : PySem.W.keepIn K (.ref f__law_names) = true)
    (ha__law_low : PySem.W.nsIn K mainGlobals "_law_low" = some (some (.ref f__law_low)))
    (hl__law_low : K.lookup f__law_low = some ⟨oc__law_low, od__law_low, .func (PySem.W.fnOf "_law_low" "_law_low" (defArgs s__law_low) (defBody s__law_low) (defScope s__law_low) .none kV__law_low dc__law_low pm__law_low an__law_low cd__law_low ct__law_low), sl__law_low⟩)
    (hc__law_low : PySem.W.codeIn K cd__law_low "_law_low" = true)
    (hk__law_low : PySem.W.keepIn K (.ref f__law_low) = true)
    (ha__law_wide : PySem.W.nsIn K mainGlobals "_law_wide" = some (some (.ref f__law_wide)))
    (hl__law_wide : K.lookup f__law_wide = some ⟨oc__law_wide, od__law_wide, .func (PySem.W.fnOf "_law_wide" "_law_wide" (defArgs s__law_wide) (defBody s__law_wide) (defScope s__law_wide) .none kV__law_wide dc__law_wide pm__law_wide an__law_wide cd__law_wide ct__law_wide), sl__law_wide⟩)
    (hc__law_wide : PySem.W.codeIn K cd__law_wide "_law_wide" = true)
    (hk__law_wide : PySem.W.keepIn K (.ref f__law_wide) = true)
    (ha__law_whole : PySem.W.nsIn K mainGlobals "_law_whole" = some (some (.ref f__law_whole)))
    (hl__law_whole : K.lookup f__law_whole = some ⟨oc__law_whole, od__law_whole, .func (PySem.W.fnOf "_law_whole" "_law_whole" (defArgs s__law_whole) (defBody s__law_whole) (defScope s__law_whole) .none kV__law_whole dc__law_whole pm__law_whole an__law_whole cd__law_whole ct__law_whole), sl__law_whole⟩)
    (hc__law_whole : PySem.W.codeIn K cd__law_whole "_law_whole" = true)
    (hk__law_whole : PySem.W.keepIn K (.ref f__law_whole) = true)
    (ha_law : PySem.W.nsIn K mainGlobals "law" = some (some (.ref f_law)))
    (hl_law : K.lookup f_law = some ⟨oc_law, od_law, .func (PySem.W.fnOf "law" "law" (defArgs s_law) (defBody s_law) (defScope s_law) .none kV_law dc_law pm_law an_law cd_law ct_law), sl_law⟩)
    (hc_law : PySem.W.codeIn K cd_law "law" = true)
    (hk_law : PySem.W.keepIn K (.ref f_law) = true)
    (hpg_Till : PySem.W.plainGet K C_Till Str.empty = true)
    (hhd_Till : PySem.W.hasDictIn K C_Till = true)
    (hpo_Till : PySem.W.plainOver K C_Till = true)
    (hsa_Till : PySem.W.findIn K (.ref C_Till) "__setattr__" = some (some (.builtin "object.__setattr__")))
    (hmk_Till : PySem.W.makesIn K C_Till = true)
    (hkc_Till : PySem.W.keepIn K (.ref C_Till) = true)
    (hna_Till_sums : PySem.W.findIn K (.ref C_Till) "sums" = some none)
    : ∃ fd : FuncData, (∀ (s : Shared) (v : Value), BindsTo s fd ⟨[v], []⟩ [("_law_script", v)]) ∧ ∀ base : Heap, K.In base → base.Ns mainGlobals mg → FnOk l.prog w K mg base CX0 4 fa fd ["_law_script"] (sp_law K) := by
  have e := hfa.symm.trans (PySem.W.mg_of X G ha_law)
  cases e
  have F := fun_mk (st := s_law) hl_law hc_law hk_law
  have T : Nonempty (Top K mg) := ⟨{
    n_max := PySem.W.mg_none_of X G hn_max,
    n_list := PySem.W.mg_none_of X G hn_list,
    n_len := PySem.W.mg_none_of X G hn_len,
    n_range := PySem.W.mg_none_of X G hn_range,
    n_abs := PySem.W.mg_none_of X G hn_abs,
    n_bool := PySem.W.mg_none_of X G hn_bool,
    n_int := PySem.W.mg_none_of X G hn_int,
    n_isinstance := PySem.W.mg_none_of X G hn_isinstance,
    f_TillU_initU := f_TillU_initU,
    fd_TillU_initU := _,
    F_TillU_initU := fun_mk (st := s_TillU_initU) hl_TillU_initU hc_TillU_initU hk_TillU_initU,
    b_TillU_initU := (fun_mk (st := s_TillU_initU) hl_TillU_initU hc_TillU_initU hk_TillU_initU).binds (ps := ["self"]) fun _ _ _ _ _ _ us hl => match us, hl with | [_], _ => rfl,
    k_TillU_initU := hk_TillU_initU,
    f_floor := f_floor,
    fd_floor := _,
    F_floor := fun_mk (st := s_floor) hl_floor hc_floor hk_floor,
    b_floor := (fun_mk (st := s_floor) hl_floor hc_floor hk_floor).binds (ps := ["one"]) fun _ _ _ _ _ _ us hl => match us, hl with | [_], _ => rfl,
    k_floor := hk_floor,
    g_floor := PySem.W.mg_of X G ha_floor,
    f_Till_paid := f_Till_paid,
    fd_Till_paid := _,
    F_Till_paid := fun_mk (st := s_Till_paid) hl_Till_paid hc_Till_paid hk_Till_paid,
    b_Till_paid := (fun_mk (st := s_Till_paid) hl_Till_paid hc_Till_paid hk_Till_paid).binds (ps := ["self", "name"]) fun _ _ _ _ _ _ us hl => match us, hl with | [_, _], _ => rfl,
    k_Till_paid := hk_Till_paid,
    f_Till_pay := f_Till_pay,
    fd_Till_pay := _,
    F_Till_pay := fun_mk (st := s_Till_pay) hl_Till_pay hc_Till_pay hk_Till_pay,
    b_Till_pay := (fun_mk (st := s_Till_pay) hl_Till_pay hc_Till_pay hk_Till_pay).binds (ps := ["self", "name", "due"]) fun _ _ _ _ _ _ us hl => match us, hl with | [_, _, _], _ => rfl,
    k_Till_pay := hk_Till_pay,
    f_Till_owed := f_Till_owed,
    fd_Till_owed := _,
    F_Till_owed := fun_mk (st := s_Till_owed) hl_Till_owed hc_Till_owed hk_Till_owed,
    b_Till_owed := (fun_mk (st := s_Till_owed) hl_Till_owed hc_Till_owed hk_Till_owed).binds (ps := ["self", "name", "due"]) fun _ _ _ _ _ _ us hl => match us, hl with | [_, _, _], _ => rfl,
    k_Till_owed := hk_Till_owed,
    f__law_bag := f__law_bag,
    fd__law_bag := _,
    F__law_bag := fun_mk (st := s__law_bag) hl__law_bag hc__law_bag hk__law_bag,
    b__law_bag := (fun_mk (st := s__law_bag) hl__law_bag hc__law_bag hk__law_bag).binds (ps := ["_law_script"]) fun _ _ _ _ _ _ us hl => match us, hl with | [_], _ => rfl,
    k__law_bag := hk__law_bag,
    g__law_bag := PySem.W.mg_of X G ha__law_bag,
    f__law_pull := f__law_pull,
    fd__law_pull := _,
    F__law_pull := fun_mk (st := s__law_pull) hl__law_pull hc__law_pull hk__law_pull,
    b__law_pull := (fun_mk (st := s__law_pull) hl__law_pull hc__law_pull hk__law_pull).binds (ps := ["_law_bag_here", "_law_many"]) fun _ _ _ _ _ _ us hl => match us, hl with | [_, _], _ => rfl,
    k__law_pull := hk__law_pull,
    g__law_pull := PySem.W.mg_of X G ha__law_pull,
    f__law_name := f__law_name,
    fd__law_name := _,
    F__law_name := fun_mk (st := s__law_name) hl__law_name hc__law_name hk__law_name,
    b__law_name := (fun_mk (st := s__law_name) hl__law_name hc__law_name hk__law_name).binds (ps := ["_law_bag_here"]) fun _ _ _ _ _ _ us hl => match us, hl with | [_], _ => rfl,
    k__law_name := hk__law_name,
    g__law_name := PySem.W.mg_of X G ha__law_name,
    f__law_names := f__law_names,
    fd__law_names := _,
    F__law_names := fun_mk (st := s__law_names) hl__law_names hc__law_names hk__law_names,
    b__law_names := (fun_mk (st := s__law_names) hl__law_names hc__law_names hk__law_names).binds (ps := ["_law_bag_here", "_law_many"]) fun _ _ _ _ _ _ us hl => match us, hl with | [_, _], _ => rfl,
    k__law_names := hk__law_names,
    g__law_names := PySem.W.mg_of X G ha__law_names,
    f__law_low := f__law_low,
    fd__law_low := _,
    F__law_low := fun_mk (st := s__law_low) hl__law_low hc__law_low hk__law_low,
    b__law_low := (fun_mk (st := s__law_low) hl__law_low hc__law_low hk__law_low).binds (ps := ["_law_upper", "_law_lower"]) fun _ _ _ _ _ _ us hl => match us, hl with | [_, _], _ => rfl,
    k__law_low := hk__law_low,
    g__law_low := PySem.W.mg_of X G ha__law_low,
    f__law_wide := f__law_wide,
    fd__law_wide := _,
    F__law_wide := fun_mk (st := s__law_wide) hl__law_wide hc__law_wide hk__law_wide,
    b__law_wide := (fun_mk (st := s__law_wide) hl__law_wide hc__law_wide hk__law_wide).binds (ps := ["_law_bag_here", "_law_many"]) fun _ _ _ _ _ _ us hl => match us, hl with | [_, _], _ => rfl,
    k__law_wide := hk__law_wide,
    g__law_wide := PySem.W.mg_of X G ha__law_wide,
    f__law_whole := f__law_whole,
    fd__law_whole := _,
    F__law_whole := fun_mk (st := s__law_whole) hl__law_whole hc__law_whole hk__law_whole,
    b__law_whole := (fun_mk (st := s__law_whole) hl__law_whole hc__law_whole hk__law_whole).binds (ps := ["_law_found"]) fun _ _ _ _ _ _ us hl => match us, hl with | [_], _ => rfl,
    k__law_whole := hk__law_whole,
    g__law_whole := PySem.W.mg_of X G ha__law_whole,
    C_Till := C_Till,
    c_Till := PySem.W.mg_of X G haC_Till,
    cl_Till := ⟨hpg_Till, hhd_Till, hpo_Till, hsa_Till⟩,
    na_Till_sums := hna_Till_sums,
    M_Till := ⟨hmk_Till, ha_TillU_initU, hi_TillU_initU, hkc_Till⟩,
    m_Till_pay := ⟨ha_Till_pay, hi_Till_pay, hk_Till_pay⟩,
    m_Till_paid := ⟨ha_Till_paid, hi_Till_paid, hk_Till_paid⟩,
    m_Till_owed := ⟨ha_Till_owed, hi_Till_owed, hk_Till_owed⟩ }⟩
  obtain ⟨T⟩ := T
  exact ⟨_, fun s v => .of_eq rfl, fun base _ _ => ok_law F T⟩
end Cr
open PySem PySem.W PyProof.Rows
set_option maxRecDepth 100000 in
set_option maxHeartbeats 0 in
theorem PySem.Challenge.cw_crestpool_k46_what_a_till_paid_holds : PySem.Challenge.rw_crestpool_k46_what_a_till_paid.Holds := by
  w_on; o_law; k_head; (case hw => w_witness2)
  k_fill
  refine L2.walk_of (l := PySem.Challenge.rw_crestpool_k46_what_a_till_paid) (n := 63) (k := 4) (x := "_law_script") (CX := fun _ => L2.CX0) (sp := fun w => Cr.sp_law _) rfl (by decide) rfl ⟨rfl, by decide, by decide⟩ (fun w h Y => PySem.W.kIn_of Y) ?F (fun _ _ a ns hl _ hS => ⟨a, ns, rfl, hS, hl, fun _ => rfl⟩) (fun _ _ _ _ _ h => h)
  case F =>
    intro w mg fa h KX G hmg
    refine' Cr.all_mk KX G hmg ?haC_Till ?hn_max ?hn_list ?hn_len ?hn_range ?hn_abs ?hn_bool ?hn_int ?hn_isinstance ?ha_TillU_initU ?hi_TillU_initU ?hl_TillU_initU ?hc_TillU_initU ?hk_TillU_initU ?ha_floor ?hl_floor ?hc_floor ?hk_floor ?ha_Till_paid ?hi_Till_paid ?hl_Till_paid ?hc_Till_paid ?hk_Till_paid ?ha_Till_pay ?hi_Till_pay ?hl_Till_pay ?hc_Till_pay ?hk_Till_pay ?ha_Till_owed ?hi_Till_owed ?hl_Till_owed ?hc_Till_owed ?hk_Till_owed ?ha__law_bag ?hl__law_bag ?hc__law_bag ?hk__law_bag ?ha__law_pull ?hl__law_pull ?hc__law_pull ?hk__law_pull ?ha__law_name ?hl__law_name ?hc__law_name ?hk__law_name ?ha__law_names ?hl__law_names ?hc__law_names ?hk__law_names ?ha__law_low ?hl__law_low ?hc__law_low ?hk__law_low ?ha__law_wide ?hl__law_wide ?hc__law_wide ?hk__law_wide ?ha__law_whole ?hl__law_whole ?hc__law_whole ?hk__law_whole ?ha_law ?hl_law ?hc_law ?hk_law ?hpg_Till ?hhd_Till ?hpo_Till ?hsa_Till ?hmk_Till ?hkc_Till ?hna_Till_sums
    (case haC_Till => k_is)
    (case hn_max => k_is)
    (case hn_list => k_is)
    (case hn_len => k_is)
    (case hn_range => k_is)
    (case hn_abs => k_is)
    (case hn_bool => k_is)
    (case hn_int => k_is)
    (case hn_isinstance => k_is)
    (case ha_TillU_initU => k_is)
    (case hi_TillU_initU => k_is)
    (case hl_TillU_initU => k_is)
    (case hc_TillU_initU => k_is)
    (case hk_TillU_initU => k_is)
    (case ha_floor => k_is)
    (case hl_floor => k_is)
    (case hc_floor => k_is)
    (case hk_floor => k_is)
    (case ha_Till_paid => k_is)
    (case hi_Till_paid => k_is)
    (case hl_Till_paid => k_is)
    (case hc_Till_paid => k_is)
    (case hk_Till_paid => k_is)
    (case ha_Till_pay => k_is)
    (case hi_Till_pay => k_is)
    (case hl_Till_pay => k_is)
    (case hc_Till_pay => k_is)
    (case hk_Till_pay => k_is)
    (case ha_Till_owed => k_is)
    (case hi_Till_owed => k_is)
    (case hl_Till_owed => k_is)
    (case hc_Till_owed => k_is)
    (case hk_Till_owed => k_is)
    (case ha__law_bag => k_is)
    (case hl__law_bag => k_is)
    (case hc__law_bag => k_is)
    (case hk__law_bag => k_is)
    (case ha__law_pull => k_is)
    (case hl__law_pull => k_is)
    (case hc__law_pull => k_is)
    (case hk__law_pull => k_is)
    (case ha__law_name => k_is)
    (case hl__law_name => k_is)
    (case hc__law_name => k_is)
    (case hk__law_name => k_is)
    (case ha__law_names => k_is)
    (case hl__law_names => k_is)
    (case hc__law_names => k_is)
    (case hk__law_names => k_is)
    (case ha__law_low => k_is)
    (case hl__law_low => k_is)
    (case hc__law_low => k_is)
    (case hk__law_low => k_is)
    (case ha__law_wide => k_is)
    (case hl__law_wide => k_is)
    (case hc__law_wide => k_is)
    (case hk__law_wide => k_is)
    (case ha__law_whole => k_is)
    (case hl__law_whole => k_is)
    (case hc__law_whole => k_is)
    (case hk__law_whole => k_is)
    (case ha_law => k_is)
    (case hl_law => k_is)
    (case hc_law => k_is)
    (case hk_law => k_is)
    (case hpg_Till => k_is)
    (case hhd_Till => k_is)
    (case hpo_Till => k_is)
    (case hsa_Till => k_is)
    (case hmk_Till => k_is)
    (case hkc_Till => k_is)
    (case hna_Till_sums => k_is)
#print axioms PySem.Challenge.cw_crestpool_k46_what_a_till_paid_holds
