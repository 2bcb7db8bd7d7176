import PyProof.Rows.All
import Wide.All
import OpenK.AllK
import Wide.FinOn
import Lean
import PySem.Challenge.RW_sa0104_01
set_option Elab.async false

/-! part Q1 -/
namespace Mine
def gcI (a b : Int) : Int := (Int.gcd a b : Nat)
/-- what the text divides by -/
def gS (t b : Int) : Int := if b > 0 then gcI t b else 0 - gcI t b

theorem rat_num {t b : Int} (hb : b ≠ 0) : (Rat.divInt t b).num = t.fdiv (gS t b) := by
  rw [Rat.num_divInt, Int.gcd_comm]
  have hg : (0:Int) < (Int.gcd t b : Nat) := by
    have := Int.gcd_pos_of_ne_zero_right t hb; lia
  have hd : ((Int.gcd t b : Nat) : Int) ∣ t := Int.gcd_dvd_left ..
  unfold gS gcI
  by_cases h : 0 < b
  · rw [if_pos h, Int.sign_eq_one_of_pos h, Int.one_mul, Int.fdiv_eq_ediv_of_nonneg _ (by lia)]
  · rw [if_neg h, Int.sign_eq_neg_one_of_neg (by lia)]
    obtain ⟨k, hk⟩ := hd
    generalize hG : ((Int.gcd t b : Nat) : Int) = g at *
    subst hk
    rw [show -1 * (g * k) = g * (-k) by rw [Int.mul_neg]; lia, Int.mul_ediv_cancel_left _ (by lia)]
    rw [show g * k = (0 - g) * (-k) by rw [Int.zero_sub, Int.neg_mul_neg], Int.mul_fdiv_cancel_left _ (by lia)]
theorem rat_den {t b : Int} (hb : b ≠ 0) : ((Rat.divInt t b).den : Int) = b.fdiv (gS t b) := by
  rw [Rat.den_divInt, if_neg hb, Int.gcd_comm]
  have hg : (0:Int) < (Int.gcd t b : Nat) := by
    have := Int.gcd_pos_of_ne_zero_right t hb; lia
  have hd : ((Int.gcd t b : Nat) : Int) ∣ b := Int.gcd_dvd_right ..
  unfold gS gcI
  rw [Int.natCast_ediv]
  by_cases h : 0 < b
  · rw [if_pos h, Int.fdiv_eq_ediv_of_nonneg _ (by lia)]
    congr 1; lia
  · rw [if_neg h]
    obtain ⟨k, hk⟩ := hd
    generalize hG : ((Int.gcd t b : Nat) : Int) = g at *
    rw [show ((b.natAbs : Nat) : Int) = -b by lia]
    subst hk
    rw [show -(g * k) = g * (-k) by rw [Int.mul_neg], Int.mul_ediv_cancel_left _ (by lia)]
    rw [show g * k = (0 - g) * (-k) by rw [Int.zero_sub, Int.neg_mul_neg], Int.mul_fdiv_cancel_left _ (by lia)]

/-- fewer bits than B, above and below -/
def Bt (B : Nat) (q : Rat) : Prop := q.num.natAbs < 2 ^ B ∧ q.den < 2 ^ B
theorem Bt.le {A B : Nat} {q : Rat} (h : Bt A q) (l : A ≤ B) : Bt B q :=
  have := Nat.pow_le_pow_right (n := 2) (by lia) l
  ⟨Nat.lt_of_lt_of_le h.1 this, Nat.lt_of_lt_of_le h.2 this⟩
theorem Bt.divInt {B : Nat} {t b : Int} (hb : b ≠ 0) (h₁ : t.natAbs < 2 ^ B) (h₂ : b.natAbs < 2 ^ B) : Bt B (Rat.divInt t b) := by
  constructor
  · rw [Rat.num_divInt]
    refine Nat.lt_of_le_of_lt ?_ h₁
    rw [Int.natAbs_ediv_of_dvd (Int.dvd_mul_of_dvd_right (Int.gcd_dvd_right ..))]
    refine Nat.le_trans (Nat.div_le_self ..) ?_
    rw [Int.natAbs_mul]
    have : b.sign.natAbs ≤ 1 := by rw [Int.natAbs_sign]; split <;> lia
    exact Nat.le_trans (Nat.mul_le_mul_right _ this) (by lia)
  · rw [Rat.den_divInt, if_neg hb]
    exact Nat.lt_of_le_of_lt (Nat.div_le_self ..) h₂
theorem Bt.zero : Bt 1 0 := by constructor <;> decide
theorem Bt.one : Bt 1 1 := by constructor <;> decide

theorem den_ne (a : Rat) : (a.den : Int) ≠ 0 := by have := a.den_nz; lia
theorem mul_lt_pow {a b A B : Nat} (h₁ : a < 2 ^ A) (h₂ : b < 2 ^ B) : a * b < 2 ^ (A + B) := by
  rw [Nat.pow_add]
  exact Nat.mul_lt_mul'' h₁ h₂

theorem add_divInt (a b : Rat) : a + b = Rat.divInt (a.num * b.den + b.num * a.den) (a.den * b.den) := by
  rw [← Rat.divInt_add_divInt _ _ (den_ne a) (den_ne b), Rat.num_divInt_den, Rat.num_divInt_den]
theorem mul_divInt (a b : Rat) : a * b = Rat.divInt (a.num * b.num) (a.den * b.den) := by
  rw [← Rat.divInt_mul_divInt, Rat.num_divInt_den, Rat.num_divInt_den]
theorem inv_divInt (a : Rat) : a⁻¹ = Rat.divInt a.den a.num := Rat.inv_def a
theorem div_divInt (a b : Rat) : a / b = Rat.divInt (a.num * b.den) (a.den * b.num) := by
  rw [Rat.div_def, Rat.inv_def, ← Rat.divInt_mul_divInt, Rat.num_divInt_den]
theorem num_ne {a : Rat} (h : a ≠ 0) : a.num ≠ 0 := fun e => h (Rat.num_eq_zero.mp e)

theorem Bt.add {A B : Nat} {a b : Rat} (ha : Bt A a) (hb : Bt B b) : Bt (A + B + 1) (a + b) := by
  rw [add_divInt]
  refine .divInt (Int.mul_ne_zero (den_ne a) (den_ne b)) ?_ ?_
  · have h₁ := mul_lt_pow ha.1 hb.2
    have h₂ := mul_lt_pow hb.1 ha.2
    rw [Nat.add_comm B A] at h₂
    refine Nat.lt_of_le_of_lt (Int.natAbs_add_le ..) ?_
    rw [Int.natAbs_mul, Int.natAbs_mul, Int.natAbs_natCast, Int.natAbs_natCast, Nat.pow_succ]
    lia
  · have h₁ := mul_lt_pow ha.2 hb.2
    rw [Int.natAbs_mul, Int.natAbs_natCast, Int.natAbs_natCast, Nat.pow_succ]
    lia
theorem Bt.mul {A B : Nat} {a b : Rat} (ha : Bt A a) (hb : Bt B b) : Bt (A + B) (a * b) := by
  rw [mul_divInt]
  refine .divInt (Int.mul_ne_zero (den_ne a) (den_ne b)) ?_ ?_
  · rw [Int.natAbs_mul]; exact mul_lt_pow ha.1 hb.1
  · rw [Int.natAbs_mul, Int.natAbs_natCast, Int.natAbs_natCast]; exact mul_lt_pow ha.2 hb.2
theorem Bt.inv {A : Nat} {a : Rat} (ha : Bt A a) (h : a ≠ 0) : Bt A a⁻¹ := by
  rw [inv_divInt]
  exact .divInt (num_ne h) (by rw [Int.natAbs_natCast]; exact ha.2) ha.1
theorem Bt.div {A B : Nat} {a b : Rat} (ha : Bt A a) (hb : Bt B b) (h : b ≠ 0) : Bt (A + B) (a / b) := by
  rw [Rat.div_def]; exact ha.mul (hb.inv h)
theorem Bt.neg {A : Nat} {a : Rat} (ha : Bt A a) : Bt A (-a) := by
  constructor
  · rw [Rat.neg_num, Int.natAbs_neg]; exact ha.1
  · rw [Rat.neg_den]; exact ha.2
theorem Bt.int {A : Nat} {i : Int} (hA : A ≠ 0) (h : i.natAbs < 2 ^ A) : Bt A (i : Rat) := by
  constructor
  · rw [Rat.num_intCast]; exact h
  · rw [Rat.den_intCast]; exact Nat.one_lt_two_pow hA
end Mine

/-! part Qb -/
namespace Mine
abbrev Pl := List Rat
def ev : Pl → Rat → Rat
  | [], _ => 0
  | a :: p, x => a + x * ev p x
def xp (x : Rat) : Nat → Rat
  | 0 => 1
  | n + 1 => x * xp x n
def trim : Pl → Pl
  | [] => []
  | q :: r => match trim r with
    | [] => if q = 0 then [] else [q]
    | t :: u => q :: t :: u
def addL : Pl → Pl → Pl
  | [], b => b
  | x :: a, [] => x :: a
  | x :: a, y :: b => (x + y) :: addL a b
def padd (a b : Pl) : Pl := trim (addL a b)
def pneg (p : Pl) : Pl := p.map fun x => -x
def psub (a b : Pl) : Pl := padd a (pneg b)
def pscale (p : Pl) (r : Rat) : Pl := if r = 0 then [] else p.map fun x => x * r
def praise (p : Pl) (k : Nat) : Pl := if p = [] then [] else List.replicate k 0 ++ p
def addAt (f : Pl) (k : Nat) (v : Rat) : Pl := f.set k (f.getD k 0 + v)
def rowAt (f : Pl) (k : Nat) (x : Rat) : Pl → Pl
  | [] => f
  | y :: b => rowAt (addAt f k (x * y)) (k + 1) x b
def mulAt (b : Pl) (f : Pl) (k : Nat) : Pl → Pl
  | [] => f
  | x :: a => mulAt b (rowAt f k x b) (k + 1) a
def pmul (a b : Pl) : Pl := if a = [] ∨ b = [] then [] else mulAt b (List.replicate (a.length + b.length - 1) 0) 0 a
def ppow (p : Pl) : Nat → Pl
  | 0 => [1]
  | n + 1 => pmul (ppow p n) p
def last (p : Pl) : Rat := p.getLastD 0

def Tr (p : Pl) : Prop := p ≠ [] → last p ≠ 0
def BL (B : Nat) (p : Pl) : Prop := ∀ q ∈ p, Bt B q

/-! values -/
@[simp] theorem ev_nil (x : Rat) : ev [] x = 0 := rfl
@[simp] theorem ev_cons (a : Rat) (p : Pl) (x : Rat) : ev (a :: p) x = a + x * ev p x := rfl
theorem ev_trim (p : Pl) (x : Rat) : ev (trim p) x = ev p x := by
  induction p with
  | nil => rfl
  | cons q r ih =>
    unfold trim
    split
    · rename_i h
      rw [h] at ih
      split
      · simp only [ev_nil, ev_cons] at ih ⊢; grind
      · simp only [ev_nil, ev_cons] at ih ⊢; grind
    · rename_i t u h
      rw [h] at ih
      rw [ev_cons, ih, ev_cons]
theorem ev_addL (a b : Pl) (x : Rat) : ev (addL a b) x = ev a x + ev b x := by
  induction a, b using addL.induct with
  | case1 b => simp only [addL, ev_nil]; grind
  | case2 x' a => simp only [addL, ev_nil, ev_cons]; grind
  | case3 x' a y b ih => simp only [addL, ev_cons]; grind
theorem ev_padd (a b : Pl) (x : Rat) : ev (padd a b) x = ev a x + ev b x := by rw [padd, ev_trim, ev_addL]
theorem ev_pneg (p : Pl) (x : Rat) : ev (pneg p) x = - ev p x := by
  unfold pneg
  induction p with
  | nil => simp only [List.map_nil, ev_nil]; grind
  | cons q r ih => simp only [List.map_cons, ev_cons, ih]; grind
theorem ev_psub (a b : Pl) (x : Rat) : ev (psub a b) x = ev a x - ev b x := by rw [psub, ev_padd, ev_pneg]; grind
theorem ev_map_mul (p : Pl) (r x : Rat) : ev (p.map fun x => x * r) x = ev p x * r := by
  induction p with
  | nil => simp only [List.map_nil, ev_nil]; grind
  | cons q s ih => simp only [List.map_cons, ev_cons, ih]; grind
theorem ev_pscale (p : Pl) (r x : Rat) : ev (pscale p r) x = ev p x * r := by
  unfold pscale
  split
  · rename_i h; rw [h, ev_nil]; grind
  · exact ev_map_mul ..
theorem ev_append (p q : Pl) (x : Rat) : ev (p ++ q) x = ev p x + xp x p.length * ev q x := by
  induction p with
  | nil => simp only [List.nil_append, ev_nil, List.length_nil, xp]; grind
  | cons a p ih => simp only [List.cons_append, ev_cons, List.length_cons, xp, ih]; grind
theorem ev_zeros (k : Nat) (x : Rat) : ev (List.replicate k 0) x = 0 := by
  induction k with
  | zero => rfl
  | succ k ih => simp only [List.replicate_succ, ev_cons, ih]; grind
theorem ev_praise (p : Pl) (k : Nat) (x : Rat) : ev (praise p k) x = xp x k * ev p x := by
  unfold praise
  split
  · rename_i h; subst h; simp only [ev_nil]; grind
  · rw [ev_append, ev_zeros, List.length_replicate]; grind
theorem xp_add (x : Rat) (a b : Nat) : xp x (a + b) = xp x a * xp x b := by
  induction a with
  | zero => simp only [Nat.zero_add, xp]; grind
  | succ a ih => rw [Nat.succ_add]; simp only [xp, ih]; grind
theorem ev_set (f : Pl) (k : Nat) (v x : Rat) (h : k < f.length) : ev (f.set k v) x = ev f x + (v - f.getD k 0) * xp x k := by
  induction f generalizing k with
  | nil => simp at h
  | cons a f ih =>
    cases k with
    | zero => simp only [List.set_cons_zero, ev_cons, List.getD_cons_zero, xp]; grind
    | succ k =>
      simp only [List.length_cons] at h
      simp only [List.set_cons_succ, ev_cons, List.getD_cons_succ, xp, ih k (by lia)]; grind
theorem ev_addAt (f : Pl) (k : Nat) (v x : Rat) (h : k < f.length) : ev (addAt f k v) x = ev f x + v * xp x k := by
  unfold addAt
  rw [ev_set _ _ _ _ h]; grind
@[simp] theorem len_addAt (f : Pl) (k : Nat) (v : Rat) : (addAt f k v).length = f.length := by simp [addAt]
@[simp] theorem len_rowAt (f : Pl) (k : Nat) (x : Rat) (b : Pl) : (rowAt f k x b).length = f.length := by
  induction b generalizing f k with
  | nil => rfl
  | cons y b ih => rw [rowAt, ih, len_addAt]
@[simp] theorem len_mulAt (b f : Pl) (k : Nat) (a : Pl) : (mulAt b f k a).length = f.length := by
  induction a generalizing f k with
  | nil => rfl
  | cons y a ih => rw [mulAt, ih, len_rowAt]
theorem ev_rowAt (f : Pl) (k : Nat) (x : Rat) (b : Pl) (z : Rat) (h : k + b.length ≤ f.length) : ev (rowAt f k x b) z = ev f z + x * ev b z * xp z k := by
  induction b generalizing f k with
  | nil => simp only [rowAt, ev_nil]; grind
  | cons y b ih =>
    simp only [List.length_cons] at h
    rw [rowAt, ih _ _ (by rw [len_addAt]; lia), ev_addAt _ _ _ _ (by lia), ev_cons]
    simp only [xp]; grind
theorem ev_mulAt (b f : Pl) (k : Nat) (a : Pl) (z : Rat) (h : k + a.length + b.length ≤ f.length + 1) : ev (mulAt b f k a) z = ev f z + ev a z * ev b z * xp z k := by
  induction a generalizing f k with
  | nil => simp only [mulAt, ev_nil]; grind
  | cons y a ih =>
    simp only [List.length_cons] at h
    rw [mulAt, ih _ _ (by rw [len_rowAt]; lia), ev_rowAt _ _ _ _ _ (by lia), ev_cons]
    simp only [xp]; grind
theorem ev_pmul (a b : Pl) (x : Rat) : ev (pmul a b) x = ev a x * ev b x := by
  unfold pmul
  split
  · rename_i h
    rcases h with h | h <;> subst h <;> simp only [ev_nil] <;> grind
  · rename_i h
    have h₁ : a.length ≠ 0 := fun e => h (.inl (List.length_eq_zero_iff.mp e))
    have h₂ : b.length ≠ 0 := fun e => h (.inr (List.length_eq_zero_iff.mp e))
    rw [ev_mulAt _ _ _ _ _ (by rw [List.length_replicate]; lia), ev_zeros]
    simp only [xp]; grind
theorem ev_ppow (p : Pl) (n : Nat) (x : Rat) : ev (ppow p n) x = xp (ev p x) n := by
  induction n with
  | zero => simp only [ppow, ev_cons, ev_nil, xp]; grind
  | succ n ih => rw [ppow, ev_pmul, ih, xp]; grind
theorem len_pmul {a b : Pl} (ha : a ≠ []) (hb : b ≠ []) : (pmul a b).length = a.length + b.length - 1 := by
  unfold pmul
  rw [if_neg (by simp [ha, hb]), len_mulAt, List.length_replicate]

/-! the last figure -/
theorem last_cons_cons (a b : Rat) (p : Pl) : last (a :: b :: p) = last (b :: p) := rfl
theorem last_append (p : Pl) (a : Rat) : last (p ++ [a]) = a := by simp [last]
theorem last_eq {p : Pl} (h : p ≠ []) : p = p.dropLast ++ [last p] := by
  have := List.dropLast_concat_getLast h
  rw [last, List.getLastD_eq_getLast?, List.getLast?_eq_some_getLast h]
  exact this.symm
theorem ev_last {p : Pl} (h : p ≠ []) (x : Rat) : ev p x = ev p.dropLast x + xp x (p.length - 1) * last p := by
  conv => lhs; rw [last_eq h]
  rw [ev_append, List.length_dropLast]; simp only [ev_cons, ev_nil]; grind
theorem getD_out {p : Pl} {i : Nat} (h : p.length ≤ i) : p.getD i 0 = 0 := by
  rw [List.getD_eq_getElem?_getD, List.getElem?_eq_none h]; rfl
theorem last_mem {p : Pl} (h : p ≠ []) : last p ∈ p := by
  rw [last, List.getLastD_eq_getLast?, List.getLast?_eq_some_getLast h]
  exact List.getLast_mem h
theorem Tr.nil : Tr [] := fun h => absurd rfl h
theorem Tr.trim (p : Pl) : Tr (trim p) := by
  induction p with
  | nil => exact .nil
  | cons q r ih =>
    unfold Mine.trim
    split
    · split
      · exact .nil
      · rename_i h; exact fun _ => h
    · rename_i t u h
      rw [h] at ih
      exact fun _ => ih (by simp)
theorem Tr.padd (a b : Pl) : Tr (padd a b) := .trim _
theorem Tr.psub (a b : Pl) : Tr (psub a b) := .trim _
theorem len_trim (p : Pl) : (trim p).length ≤ p.length := by
  induction p with
  | nil => exact Nat.le_refl _
  | cons q r ih =>
    unfold trim
    split
    · split <;> simp
    · rename_i t u h
      rw [h] at ih
      simp only [List.length_cons] at ih ⊢; lia
theorem len_addL (a b : Pl) : (addL a b).length = max a.length b.length := by
  induction a, b using addL.induct with
  | case1 b => simp [addL]
  | case2 x a => simp [addL]
  | case3 x a y b ih => simp only [addL, List.length_cons, ih]; lia
theorem len_pneg (p : Pl) : (pneg p).length = p.length := by simp [pneg]
theorem len_psub (a b : Pl) : (psub a b).length ≤ max a.length b.length := by
  have := len_trim (addL a (pneg b))
  rw [len_addL, len_pneg] at this
  exact this
theorem Tr.pscale {p : Pl} (h : Tr p) (r : Rat) : Tr (pscale p r) := by
  unfold Mine.pscale
  split
  · exact .nil
  · rename_i hr
    intro hp
    have hp' : p ≠ [] := by rintro rfl; exact hp rfl
    rw [last_eq hp', List.map_append, List.map_cons, List.map_nil, last_append]
    have := h hp'
    grind
theorem len_pscale {p : Pl} {r : Rat} (hr : r ≠ 0) : (pscale p r).length = p.length := by
  unfold pscale; rw [if_neg hr, List.length_map]
theorem len_pscale_le (p : Pl) (r : Rat) : (pscale p r).length ≤ p.length := by
  unfold pscale; split <;> simp
theorem len_praise (p : Pl) (k : Nat) : (praise p k).length ≤ k + p.length := by
  unfold praise; split <;> simp

/-! sizes -/
theorem BL.nil {B : Nat} : BL B [] := fun _ h => nomatch h
theorem BL.le {A B : Nat} {p : Pl} (h : BL A p) (l : A ≤ B) : BL B p := fun q m => (h q m).le l
theorem BL.cons {B : Nat} {a : Rat} {p : Pl} (h : Bt B a) (hp : BL B p) : BL B (a :: p) := by
  intro q m
  rcases List.mem_cons.mp m with e | e
  · rw [e]; exact h
  · exact hp q e
theorem BL.head {B : Nat} {a : Rat} {p : Pl} (h : BL B (a :: p)) : Bt B a := h a (by simp)
theorem BL.tail {B : Nat} {a : Rat} {p : Pl} (h : BL B (a :: p)) : BL B p := fun q m => h q (by simp [m])
theorem BL.append {B : Nat} {p q : Pl} (h : BL B p) (h' : BL B q) : BL B (p ++ q) := by
  intro r m
  rcases List.mem_append.mp m with e | e
  · exact h r e
  · exact h' r e
theorem BL.zeros (k : Nat) : BL 1 (List.replicate k 0) := by
  intro q m
  rw [List.eq_of_mem_replicate m]; exact .zero
theorem BL.trim {B : Nat} {p : Pl} (h : BL B p) : BL B (trim p) := by
  induction p with
  | nil => exact h
  | cons q r ih =>
    have ih := ih h.tail
    unfold Mine.trim
    split
    · split
      · exact .nil
      · exact .cons h.head .nil
    · rename_i t u e
      rw [e] at ih
      exact .cons h.head ih
theorem BL.addL {A B : Nat} {a b : Pl} (ha : BL A a) (hb : BL B b) : BL (A + B + 1) (addL a b) := by
  induction a, b using addL.induct with
  | case1 b => exact hb.le (by lia)
  | case2 x a => exact ha.le (by lia)
  | case3 x a y b ih => exact .cons (ha.head.add hb.head) (ih ha.tail hb.tail)
theorem BL.padd {A B : Nat} {a b : Pl} (ha : BL A a) (hb : BL B b) : BL (A + B + 1) (padd a b) := (ha.addL hb).trim
theorem BL.pneg {A : Nat} {a : Pl} (ha : BL A a) : BL A (pneg a) := by
  intro q m
  obtain ⟨x, hx, rfl⟩ := List.mem_map.mp m
  exact (ha x hx).neg
theorem BL.psub {A B : Nat} {a b : Pl} (ha : BL A a) (hb : BL B b) : BL (A + B + 1) (psub a b) := ha.padd hb.pneg
theorem BL.pscale {A B : Nat} {a : Pl} {r : Rat} (ha : BL A a) (hr : Bt B r) : BL (A + B) (pscale a r) := by
  unfold Mine.pscale
  split
  · exact .nil
  · intro q m
    obtain ⟨x, hx, rfl⟩ := List.mem_map.mp m
    exact (ha x hx).mul hr
theorem BL.praise {A k : Nat} {a : Pl} (ha : BL A a) (hA : 1 ≤ A) : BL A (praise a k) := by
  unfold Mine.praise
  split
  · exact .nil
  · exact ((BL.zeros k).le hA).append ha
theorem BL.set {A k : Nat} {f : Pl} {v : Rat} (h : BL A f) (hv : Bt A v) : BL A (f.set k v) := by
  intro q m
  rcases List.mem_or_eq_of_mem_set m with e | e
  · exact h q e
  · rw [e]; exact hv
theorem BL.getD {A k : Nat} {f : Pl} (h : BL A f) (hA : 1 ≤ A) : Bt A (f.getD k 0) := by
  rw [List.getD_eq_getElem?_getD]
  cases e : f[k]? with
  | none => exact Bt.zero.le hA
  | some v => exact h v (List.mem_of_getElem? e)
theorem BL.addAt {A B k : Nat} {f : Pl} {v : Rat} (h : BL A f) (hA : 1 ≤ A) (hv : Bt B v) : BL (A + B + 1) (addAt f k v) := by
  exact .set (h.le (by lia)) ((h.getD hA).add hv)
theorem BL.rowAt {A B C k : Nat} {f b : Pl} {x : Rat} (h : BL C f) (hC : 1 ≤ C) (hx : Bt A x) (hb : BL B b) : BL (C + b.length * (A + B + 1)) (rowAt f k x b) := by
  induction b generalizing f k C with
  | nil => exact h.le (by simp)
  | cons y b ih =>
    rw [Mine.rowAt]
    refine (ih (h.addAt hC (hx.mul hb.head)) (by lia) hb.tail).le ?_
    rw [List.length_cons, Nat.succ_mul]; lia
theorem BL.mulAt {A B C k : Nat} {f a b : Pl} (h : BL C f) (hC : 1 ≤ C) (ha : BL A a) (hb : BL B b) : BL (C + a.length * (b.length * (A + B + 1))) (mulAt b f k a) := by
  induction a generalizing f k C with
  | nil => exact h.le (by simp)
  | cons y a ih =>
    rw [Mine.mulAt]
    refine (ih (h.rowAt hC ha.head hb) (by lia) ha.tail).le ?_
    rw [List.length_cons, Nat.succ_mul]; lia
theorem BL.pmul {A B : Nat} {a b : Pl} (ha : BL A a) (hb : BL B b) : BL (1 + a.length * (b.length * (A + B + 1))) (pmul a b) := by
  unfold Mine.pmul
  split
  · exact .nil
  · exact (BL.zeros _).mulAt (Nat.le_refl _) ha hb
theorem BL.last {A : Nat} {p : Pl} (h : BL A p) (hp : p ≠ []) : Bt A (last p) := h _ (last_mem hp)
theorem BL.dropLast {A : Nat} {p : Pl} (h : BL A p) : BL A p.dropLast := fun q m => h q (List.dropLast_subset p m)
theorem BL.one : BL 1 [1] := .cons .one .nil

/-! what the values know -/
def syn (k : Rat) : Pl → Pl
  | [] => []
  | b :: r => ev (b :: r) k :: syn k r
theorem len_syn (k : Rat) (p : Pl) : (syn k p).length = p.length := by
  induction p with
  | nil => rfl
  | cons b r ih => simp only [syn, List.length_cons, ih]
theorem ev_syn (k x : Rat) (p : Pl) : x * ev p x - k * ev p k = (x - k) * ev (syn k p) x := by
  induction p with
  | nil => simp only [syn, ev_nil]; grind
  | cons b r ih => simp only [syn, ev_cons] at ih ⊢; grind
theorem zero_syn (k : Rat) (p : Pl) (h : ∀ a ∈ syn k p, a = 0) : ∀ a ∈ p, a = 0 := by
  induction p with
  | nil => exact fun _ m => nomatch m
  | cons b r ih =>
    have h₁ : ev (b :: r) k = 0 := h _ (by simp [syn])
    have h₂ := ih fun a m => h a (by simp [syn, m])
    have h₃ : ev r k = 0 := by
      clear ih h h₁
      induction r with
      | nil => rfl
      | cons c r ih => rw [ev_cons, ih fun a m => h₂ a (by simp [m]), h₂ c (by simp)]; grind
    intro a m
    rcases List.mem_cons.mp m with e | e
    · rw [ev_cons, h₃] at h₁; grind
    · exact h₂ a e
theorem natCast_sub_ne {n N : Nat} (h : N < n) : ((n : Rat) - (N : Rat)) ≠ 0 := by
  have : ((N : Nat) : Rat) < (n : Rat) := by exact_mod_cast h
  grind
theorem zeros_of_ev (p : Pl) (N : Nat) (h : ∀ n : Nat, N ≤ n → ev p (n : Rat) = 0) : ∀ a ∈ p, a = 0 := by
  induction hl : p.length generalizing p N with
  | zero =>
    cases p with
    | nil => exact fun _ m => nomatch m
    | cons a p => simp at hl
  | succ l ih =>
    cases p with
    | nil => exact fun _ m => nomatch m
    | cons a p =>
      simp only [List.length_cons] at hl
      have hs : ∀ b ∈ syn (N : Rat) p, b = 0 := by
        refine ih _ (N + 1) (fun n hn => ?_) (by rw [len_syn]; lia)
        have e := ev_syn (N : Rat) (n : Rat) p
        have h₁ := h n (by lia)
        have h₂ := h N (Nat.le_refl _)
        rw [ev_cons] at h₁ h₂
        have h₃ := natCast_sub_ne (show N < n by lia)
        grind
      have hp := zero_syn _ _ hs
      have h₃ : ev p (N : Rat) = 0 := by
        clear ih h hs hl
        induction p with
        | nil => rfl
        | cons c r ih => rw [ev_cons, ih fun a m => hp a (by simp [m]), hp c (by simp)]; grind
      intro b m
      rcases List.mem_cons.mp m with e | e
      · have := h N (Nat.le_refl _)
        rw [ev_cons, h₃] at this; grind
      · exact hp b e
theorem getD_addL (a b : Pl) (i : Nat) : (addL a b).getD i 0 = a.getD i 0 + b.getD i 0 := by
  induction a, b using addL.induct generalizing i with
  | case1 b => simp only [addL, List.getD_nil]; grind
  | case2 x a => simp only [addL, List.getD_nil]; grind
  | case3 x a y b ih =>
    cases i with
    | zero => simp only [addL, List.getD_cons_zero]
    | succ i => simp only [addL, List.getD_cons_succ, ih]
theorem getD_pneg (b : Pl) (i : Nat) : (pneg b).getD i 0 = - b.getD i 0 := by
  unfold pneg
  rw [List.getD_eq_getElem?_getD, List.getD_eq_getElem?_getD, List.getElem?_map]
  cases b[i]? with
  | none => simp
  | some v => rfl
theorem getD_of_ev {p q : Pl} (h : ∀ x, ev p x = ev q x) (i : Nat) : p.getD i 0 = q.getD i 0 := by
  have hz := zeros_of_ev (addL p (pneg q)) 0 fun n _ => by rw [ev_addL, ev_pneg, h]; grind
  have := getD_addL p (pneg q) i
  rw [getD_pneg] at this
  have h0 : (addL p (pneg q)).getD i 0 = 0 := by
    rw [List.getD_eq_getElem?_getD]
    cases e : (addL p (pneg q))[i]? with
    | none => rfl
    | some v => exact hz v (List.mem_of_getElem? e)
  grind
theorem uniq_len {p q : Pl} (h : ∀ x, ev p x = ev q x) (hl : p.length = q.length) : p = q := by
  refine List.ext_getElem hl fun i h₁ h₂ => ?_
  have := getD_of_ev h i
  simpa [List.getD_eq_getElem?_getD, h₁, h₂] using this
theorem last_getD {p : Pl} (h : p ≠ []) : p.getD (p.length - 1) 0 = last p := by
  rw [last, List.getLastD_eq_getLast?, List.getLast?_eq_getElem?, List.getD_eq_getElem?_getD]
theorem le_of_ev {p q : Pl} (h : ∀ x, ev p x = ev q x) (hp : Tr p) : p.length ≤ q.length := by
  refine Nat.le_of_not_lt fun hl => ?_
  have hn : p ≠ [] := by rintro rfl; simp at hl
  have := getD_of_ev h (p.length - 1)
  rw [last_getD hn, getD_out (by lia)] at this
  exact hp hn this
theorem uniq {p q : Pl} (h : ∀ x, ev p x = ev q x) (hp : Tr p) (hq : Tr q) : p = q :=
  uniq_len h (Nat.le_antisymm (le_of_ev h hp) (le_of_ev (fun x => (h x).symm) hq))
theorem trim_of {p : Pl} (h : Tr p) : trim p = p := uniq (ev_trim p) (.trim p) h
theorem ne_of_ev {p : Pl} {x : Rat} (h : ev p x ≠ 0) : p ≠ [] := by rintro rfl; exact h rfl

/-! the product's last figure -/
def mulR : Pl → Pl → Pl
  | [], _ => []
  | [x], b => b.map fun y => y * x
  | x :: y :: a, b => addL (b.map fun y => y * x) (0 :: mulR (y :: a) b)
theorem ev_mulR (a b : Pl) (x : Rat) : ev (mulR a b) x = ev a x * ev b x := by
  induction a, b using mulR.induct with
  | case1 b => simp only [mulR, ev_nil]; grind
  | case2 y b => simp only [mulR, ev_map_mul, ev_cons, ev_nil]; grind
  | case3 y z a b ih => simp only [mulR, ev_addL, ev_map_mul, ev_cons] at ih ⊢; grind
theorem len_mulR {a b : Pl} (ha : a ≠ []) (hb : b ≠ []) : (mulR a b).length = a.length + b.length - 1 := by
  have hb' : b.length ≠ 0 := fun e => hb (List.length_eq_zero_iff.mp e)
  induction a, b using mulR.induct with
  | case1 b => exact absurd rfl ha
  | case2 y b => simp [mulR]
  | case3 y z a b ih =>
    simp only [mulR, len_addL, List.length_map, List.length_cons, ih (by simp) hb hb'] at *; lia
theorem last_addL {a b : Pl} (h : a.length < b.length) : last (addL a b) = last b := by
  have hb : b ≠ [] := by rintro rfl; simp at h
  have hn : addL a b ≠ [] := by intro e; have := len_addL a b; rw [e, List.length_nil] at this; lia
  rw [← last_getD hn, getD_addL, len_addL, ← last_getD hb, Nat.max_eq_right (by lia), getD_out (p := a) (by lia)]
  grind
theorem last_map_mul {b : Pl} (hb : b ≠ []) (x : Rat) : last (b.map fun y => y * x) = last b * x := by
  rw [last_eq hb, List.map_append, List.map_cons, List.map_nil, last_append, last_append]
theorem last_mulR {a b : Pl} (ha : a ≠ []) (hb : b ≠ []) : last (mulR a b) = last a * last b := by
  have hb' : b.length ≠ 0 := fun e => hb (List.length_eq_zero_iff.mp e)
  induction a, b using mulR.induct with
  | case1 b => exact absurd rfl ha
  | case2 y b => rw [mulR, last_map_mul hb]; simp only [last, List.getLastD_cons, List.getLastD_nil]; grind
  | case3 y z a b ih =>
    have hl := len_mulR (a := z :: a) (by simp) hb
    have hn : mulR (z :: a) b ≠ [] := by intro e; rw [e, List.length_nil, List.length_cons] at hl; lia
    rw [mulR, last_addL (by simp only [List.length_map, List.length_cons, hl]; lia), last_cons_cons, ← ih (by simp) hb hb']
    cases h : mulR (z :: a) b with
    | nil => exact absurd h hn
    | cons => rfl
theorem pmul_eq {a b : Pl} (ha : a ≠ []) (hb : b ≠ []) : pmul a b = mulR a b :=
  uniq_len (fun x => by rw [ev_pmul, ev_mulR]) (by rw [len_pmul ha hb, len_mulR ha hb])
theorem last_pmul {a b : Pl} (ha : a ≠ []) (hb : b ≠ []) : last (pmul a b) = last a * last b := by
  rw [pmul_eq ha hb, last_mulR ha hb]
theorem Tr.pmul {a b : Pl} (ha : Tr a) (hb : Tr b) : Tr (pmul a b) := by
  intro h
  have h₁ : a ≠ [] := by rintro rfl; exact h (by simp [Mine.pmul])
  have h₂ : b ≠ [] := by rintro rfl; exact h (by simp [Mine.pmul])
  rw [last_pmul h₁ h₂]
  have := ha h₁; have := hb h₂; grind
end Mine

/-! part Qs -/
namespace Mine
theorem mul_den (q : Rat) : q * (q.den : Rat) = (q.num : Rat) := by
  have h := (Rat.num_divInt_den q).symm
  rw [Rat.divInt_eq_div] at h
  have e2 : (((q.den : Nat) : Int) : Rat) = (q.den : Rat) := by exact_mod_cast rfl
  rw [e2] at h
  have h0 : (q.den : Rat) ≠ 0 := by
    have := natCast_sub_ne q.den_pos
    intro e; apply this; rw [e]; grind
  generalize (q.den : Rat) = d at *
  generalize (q.num : Rat) = n at *
  subst h; grind
/-- every number is a whole one, R bits at most, over m -/
def CM (m R : Nat) (p : Pl) : Prop := ∀ q ∈ p, ∃ i : Int, i.natAbs < 2 ^ R ∧ q * (m : Rat) = (i : Rat)

theorem bt_of {q : Rat} {m R B : Nat} {i : Int} (h : q * (m : Rat) = (i : Rat)) (hm : 0 < m) (hB : m < 2 ^ B) (hi : i.natAbs < 2 ^ R) (hR : R ≤ B) : Bt B q := by
  have e : q = Rat.divInt i m := by
    rw [Rat.divInt_eq_div]
    have : ((m : Nat) : Rat) ≠ 0 := by
      have := natCast_sub_ne hm
      intro e; apply this; rw [e]; grind
    have e2 : (((m : Nat) : Int) : Rat) = (m : Rat) := by exact_mod_cast rfl
    rw [e2, ← h]; grind
  rw [e]
  exact .divInt (by lia) (Nat.lt_of_lt_of_le hi (Nat.pow_le_pow_right (by decide) hR)) (by simpa using hB)
theorem CM.BL {m R B : Nat} {p : Pl} (h : CM m R p) (hm : 0 < m) (hB : m < 2 ^ B) (hR : R ≤ B) : BL B p := fun q hq => by
  obtain ⟨i, hi, e⟩ := h q hq
  exact bt_of e hm hB hi hR
theorem CM.nil {m R : Nat} : CM m R [] := fun _ h => nomatch h
theorem CM.le {m R S : Nat} {p : Pl} (h : CM m R p) (l : R ≤ S) : CM m S p := fun q hq => by
  obtain ⟨i, hi, e⟩ := h q hq
  exact ⟨i, Nat.lt_of_lt_of_le hi (Nat.pow_le_pow_right (by decide) l), e⟩
theorem CM.cons {m R : Nat} {a : Rat} {p : Pl} {i : Int} (hi : i.natAbs < 2 ^ R) (e : a * (m : Rat) = (i : Rat)) (hp : CM m R p) : CM m R (a :: p) := by
  intro q hq
  rcases List.mem_cons.mp hq with rfl | h
  · exact ⟨i, hi, e⟩
  · exact hp q h
theorem CM.head {m R : Nat} {a : Rat} {p : Pl} (h : CM m R (a :: p)) : ∃ i : Int, i.natAbs < 2 ^ R ∧ a * (m : Rat) = (i : Rat) := h a (by simp)
theorem CM.tail {m R : Nat} {a : Rat} {p : Pl} (h : CM m R (a :: p)) : CM m R p := fun q hq => h q (by simp [hq])
theorem zero_ok (m R : Nat) : ∃ i : Int, i.natAbs < 2 ^ R ∧ (0 : Rat) * (m : Rat) = (i : Rat) := ⟨0, Nat.pow_pos (by decide), by simp⟩
theorem CM.append {m R : Nat} {p q : Pl} (h : CM m R p) (h' : CM m R q) : CM m R (p ++ q) := by
  intro r hr
  rcases List.mem_append.mp hr with e | e
  · exact h r e
  · exact h' r e
theorem CM.zeros {m R : Nat} (k : Nat) : CM m R (List.replicate k 0) := fun q hq => by
  rw [List.eq_of_mem_replicate hq]; exact zero_ok m R
theorem CM.up {m c C R : Nat} {p : Pl} (h : CM m R p) (hc : c < 2 ^ C) : CM (m * c) (R + C) p := fun q hq => by
  obtain ⟨i, hi, e⟩ := h q hq
  refine ⟨i * c, ?_, ?_⟩
  · rw [Int.natAbs_mul, Int.natAbs_natCast]; exact mul_lt_pow hi hc
  · have e1 : ((m * c : Nat) : Rat) = (m : Rat) * (c : Rat) := by exact_mod_cast rfl
    have e2 : ((i * (c : Int) : Int) : Rat) = (i : Rat) * (c : Rat) := by rw [Rat.intCast_mul]; rfl
    rw [e1, e2, ← e]; grind
theorem CM.comm {m c R : Nat} {p : Pl} (h : CM (m * c) R p) : CM (c * m) R p := by rw [Nat.mul_comm]; exact h
theorem CM.trim {m R : Nat} {p : Pl} (h : CM m R p) : CM m R (trim p) := by
  induction p with
  | nil => exact h
  | cons q r ih =>
    have ih := ih h.tail
    unfold Mine.trim
    split
    · split
      · exact .nil
      · intro x hx; rw [List.mem_singleton.mp hx]; exact h.head
    · rename_i t u e
      rw [e] at ih
      intro x hx
      rcases List.mem_cons.mp hx with rfl | hx
      · exact h.head
      · exact ih x hx
theorem add_ok {m R : Nat} {a b : Rat} (ha : ∃ i : Int, i.natAbs < 2 ^ R ∧ a * (m : Rat) = (i : Rat)) (hb : ∃ i : Int, i.natAbs < 2 ^ R ∧ b * (m : Rat) = (i : Rat)) : ∃ i : Int, i.natAbs < 2 ^ (R + 1) ∧ (a + b) * (m : Rat) = (i : Rat) := by
  obtain ⟨i, hi, e⟩ := ha
  obtain ⟨j, hj, f⟩ := hb
  refine ⟨i + j, ?_, ?_⟩
  · have := Int.natAbs_add_le i j
    rw [Nat.pow_succ]; lia
  · rw [Rat.intCast_add, ← e, ← f]; grind
theorem CM.addL {m R : Nat} {a b : Pl} (ha : CM m R a) (hb : CM m R b) : CM m (R + 1) (addL a b) := by
  induction a, b using addL.induct with
  | case1 b => exact hb.le (by lia)
  | case2 x a => exact ha.le (by lia)
  | case3 x a y b ih =>
    intro q hq
    rw [Mine.addL] at hq
    rcases List.mem_cons.mp hq with rfl | hq
    · exact add_ok ha.head hb.head
    · exact ih ha.tail hb.tail q hq
theorem CM.pneg {m R : Nat} {p : Pl} (h : CM m R p) : CM m R (pneg p) := fun q hq => by
  obtain ⟨x, hx, rfl⟩ := List.mem_map.mp hq
  obtain ⟨i, hi, e⟩ := h x hx
  exact ⟨-i, by lia, by rw [Rat.intCast_neg, ← e]; grind⟩
theorem CM.psub {m R : Nat} {a b : Pl} (ha : CM m R a) (hb : CM m R b) : CM m (R + 1) (psub a b) := (ha.addL hb.pneg).trim
theorem CM.praise {m R k : Nat} {a : Pl} (ha : CM m R a) : CM m R (praise a k) := by
  unfold Mine.praise
  split
  · exact .nil
  · exact (CM.zeros k).append ha
theorem CM.pscale {m R c S : Nat} {i : Int} {p : Pl} {r : Rat} (h : CM m R p) (hi : i.natAbs < 2 ^ S) (e : r * (c : Rat) = (i : Rat)) : CM (m * c) (R + S) (pscale p r) := by
  unfold Mine.pscale
  split
  · exact .nil
  · intro q hq
    obtain ⟨x, hx, rfl⟩ := List.mem_map.mp hq
    obtain ⟨j, hj, f⟩ := h x hx
    refine ⟨j * i, ?_, ?_⟩
    · rw [Int.natAbs_mul]; exact mul_lt_pow hj hi
    · have e1 : ((m * c : Nat) : Rat) = (m : Rat) * (c : Rat) := by exact_mod_cast rfl
      rw [e1, Rat.intCast_mul, ← e, ← f]; grind
theorem CM.getD {m R k : Nat} {f : Pl} (h : CM m R f) : ∃ i : Int, i.natAbs < 2 ^ R ∧ f.getD k 0 * (m : Rat) = (i : Rat) := by
  rw [List.getD_eq_getElem?_getD]
  cases e : f[k]? with
  | none => exact zero_ok m R
  | some v => exact h v (List.mem_of_getElem? e)
theorem CM.mem_set {m R k : Nat} {f : Pl} {v : Rat} (h : CM m R f) (hv : ∃ i : Int, i.natAbs < 2 ^ R ∧ v * (m : Rat) = (i : Rat)) : CM m R (f.set k v) := by
  intro q hq
  rcases List.mem_or_eq_of_mem_set hq with e | rfl
  · exact h q e
  · exact hv
theorem mul_ok {m e A B : Nat} {a b : Rat} (ha : ∃ i : Int, i.natAbs < 2 ^ A ∧ a * (m : Rat) = (i : Rat)) (hb : ∃ i : Int, i.natAbs < 2 ^ B ∧ b * (e : Rat) = (i : Rat)) : ∃ i : Int, i.natAbs < 2 ^ (A + B) ∧ (a * b) * ((m * e : Nat) : Rat) = (i : Rat) := by
  obtain ⟨i, hi, e₁⟩ := ha
  obtain ⟨j, hj, f⟩ := hb
  refine ⟨i * j, ?_, ?_⟩
  · rw [Int.natAbs_mul]; exact mul_lt_pow hi hj
  · have e1 : ((m * e : Nat) : Rat) = (m : Rat) * (e : Rat) := by exact_mod_cast rfl
    rw [e1, Rat.intCast_mul, ← e₁, ← f]; grind
/-- the sum stored in one place -/
theorem CM.addAt {m R k : Nat} {f : Pl} {v : Rat} (h : CM m R f) (hv : ∃ i : Int, i.natAbs < 2 ^ R ∧ v * (m : Rat) = (i : Rat)) : CM m (R + 1) (addAt f k v) :=
  (h.le (by lia)).mem_set (add_ok h.getD hv)
theorem CM.rowAt {m R C k n : Nat} {f b : Pl} {x : Rat} (h : CM m C f) (hC : R ≤ C) (hb : ∀ y ∈ b, ∃ i : Int, i.natAbs < 2 ^ R ∧ (x * y) * (m : Rat) = (i : Rat)) (hn : b.length ≤ n) : CM m (C + n) (rowAt f k x b) := by
  induction b generalizing f k C n with
  | nil => exact h.le (by simp)
  | cons y b ih =>
    rw [Mine.rowAt]
    simp only [List.length_cons] at hn
    have hv : ∃ i : Int, i.natAbs < 2 ^ C ∧ (x * y) * (m : Rat) = (i : Rat) := by
      obtain ⟨i, hi, e⟩ := hb y (by simp)
      exact ⟨i, Nat.lt_of_lt_of_le hi (Nat.pow_le_pow_right (by decide) hC), e⟩
    refine (ih (n := n - 1) (h.addAt hv) (by lia) (fun z hz => hb z (by simp [hz])) (by lia)).le (by lia)
theorem CM.mulAt {m e A B C k : Nat} {f a b : Pl} (h : CM (m * e) C f) (hC : A + B ≤ C) (ha : CM m A a) (hb : CM e B b) : CM (m * e) (C + a.length * b.length) (mulAt b f k a) := by
  induction a generalizing f k C with
  | nil => exact h.le (by simp)
  | cons y a ih =>
    rw [Mine.mulAt]
    refine (ih (h.rowAt hC (fun z hz => mul_ok ha.head (hb z hz)) (Nat.le_refl _)) (by lia) ha.tail).le ?_
    rw [List.length_cons, Nat.succ_mul]; lia
theorem CM.pmul {m e A B : Nat} {a b : Pl} (ha : CM m A a) (hb : CM e B b) : CM (m * e) (A + B + a.length * b.length) (pmul a b) := by
  unfold Mine.pmul
  split
  · exact .nil
  · exact (CM.zeros _).mulAt (Nat.le_refl _) ha hb
theorem CM.dropLast {m R : Nat} {p : Pl} (h : CM m R p) : CM m R p.dropLast := fun q hq => h q (List.dropLast_subset p hq)
theorem CM.last {m R : Nat} {p : Pl} (h : CM m R p) (hp : p ≠ []) : ∃ i : Int, i.natAbs < 2 ^ R ∧ Mine.last p * (m : Rat) = (i : Rat) := h _ (last_mem hp)
theorem CM.one : CM 1 1 [1] := .cons (i := 1) (by decide) (by simp) .nil
theorem CM.ints {R : Nat} {p : Pl} (h : ∀ q ∈ p, ∃ i : Int, i.natAbs < 2 ^ R ∧ q = (i : Rat)) : CM 1 R p := fun q hq => by
  obtain ⟨i, hi, e⟩ := h q hq
  exact ⟨i, hi, by rw [e]; grind⟩
/-- any row has one bottom -/
theorem CM.of_BL {B : Nat} {p : Pl} (h : Mine.BL B p) : ∃ m, 0 < m ∧ m < 2 ^ (p.length * B + 1) ∧ CM m (p.length * B + 1 + B) p := by
  induction p with
  | nil => exact ⟨1, by decide, by simp, .nil⟩
  | cons a p ih =>
    obtain ⟨m, h0, h1, h2⟩ := ih h.tail
    have hd := h.head
    refine ⟨m * a.den, Nat.mul_pos h0 a.den_pos, ?_, ?_⟩
    · have := mul_lt_pow h1 hd.2
      rw [List.length_cons, Nat.succ_mul, show p.length * B + B + 1 = p.length * B + 1 + B by lia]
      exact this
    · intro q hq
      rcases List.mem_cons.mp hq with rfl | hq
      · refine ⟨q.num * m, ?_, ?_⟩
        · rw [Int.natAbs_mul, Int.natAbs_natCast, List.length_cons, Nat.succ_mul]
          have := mul_lt_pow hd.1 h1
          exact Nat.lt_of_lt_of_le this (Nat.pow_le_pow_right (by decide) (by lia))
        · have e1 : ((m * q.den : Nat) : Rat) = (m : Rat) * (q.den : Rat) := by exact_mod_cast rfl
          have e2 : ((q.num * (m : Int) : Int) : Rat) = (q.num : Rat) * (m : Rat) := by rw [Rat.intCast_mul]; rfl
          have e3 := mul_den q
          rw [e1, e2, ← e3]; grind
      · obtain ⟨i, hi, e⟩ := (h2.up hd.2) q hq
        exact ⟨i, Nat.lt_of_lt_of_le hi (Nat.pow_le_pow_right (by decide) (by rw [List.length_cons, Nat.succ_mul]; lia)), e⟩
end Mine

/-! part Qc -/
namespace Mine
abbrev LB : Nat := 4400
def dlow (b rest : Pl) : Pl := psub rest.dropLast (praise (pscale b.dropLast (last rest / last b)) (rest.length - b.length))
def divL (b : Pl) : Nat → Pl → Pl → Pl × Pl
  | 0, rest, found => (found, rest)
  | n + 1, rest, found => if b.length ≤ rest.length then divL b n (dlow b rest) (found.set (rest.length - b.length) (last rest / last b)) else (found, rest)
def divA (a b : Pl) : Pl × Pl := divL b (a.length + 1) a (List.replicate (a.length + 1 - b.length) 0)
def pdiv (a b : Pl) : Pl := trim (divA a b).1
def pmod (a b : Pl) : Pl := (divA a b).2
def monic (p : Pl) : Pl := if p = [] then [] else pscale p (last p)⁻¹

theorem len_pos {p : Pl} (h : p ≠ []) : 1 ≤ p.length := by
  cases p with
  | nil => exact absurd rfl h
  | cons => simp
theorem len_dlow {b rest : Pl} (hb : b ≠ []) (h : b.length ≤ rest.length) : (dlow b rest).length + 1 ≤ rest.length := by
  have h₁ := len_psub rest.dropLast (praise (pscale b.dropLast (last rest / last b)) (rest.length - b.length))
  have h₂ := len_praise (pscale b.dropLast (last rest / last b)) (rest.length - b.length)
  have h₃ := len_pscale_le b.dropLast (last rest / last b)
  have h₄ := len_pos hb
  rw [List.length_dropLast] at h₁ h₃
  unfold dlow
  lia
theorem ev_dlow {b rest : Pl} (hb : b ≠ []) (hl : last b ≠ 0) (h : b.length ≤ rest.length) (x : Rat) :
    ev rest x = ev b x * (last rest / last b * xp x (rest.length - b.length)) + ev (dlow b rest) x := by
  have h₄ := len_pos hb
  have hr : rest ≠ [] := by rintro rfl; simp only [List.length_nil] at h; lia
  unfold dlow
  rw [ev_psub, ev_praise, ev_pscale, ev_last hb, ev_last hr, show rest.length - 1 = (rest.length - b.length) + (b.length - 1) by lia, xp_add]
  grind
theorem divL_ev {b : Pl} (hb : b ≠ []) (hl : last b ≠ 0) (n : Nat) (rest found : Pl) (hz : ∀ i, i + b.length ≤ rest.length → found.getD i 0 = 0) (hf : rest.length < found.length + b.length) (x : Rat) :
    ev b x * ev (divL b n rest found).1 x + ev (divL b n rest found).2 x = ev b x * ev found x + ev rest x := by
  induction n generalizing rest found with
  | zero => rfl
  | succ n ih =>
    unfold divL
    split
    · rename_i h
      have hd := len_dlow hb h
      rw [ih _ _ (fun i hi => ?_) (by rw [List.length_set]; lia), ev_set _ _ _ _ (by lia), hz _ (by lia)]
      · have := ev_dlow hb hl h x
        grind
      · rw [List.getD_eq_getElem?_getD, List.getElem?_set_ne (by lia), ← List.getD_eq_getElem?_getD]
        exact hz i (by lia)
    · rfl
theorem divL_len {b : Pl} (hb : b ≠ []) (n : Nat) (rest found : Pl) (h : rest.length ≤ n) : (divL b n rest found).2.length < b.length := by
  induction n generalizing rest found with
  | zero => have := len_pos hb; show rest.length < _; lia
  | succ n ih =>
    unfold divL
    split
    · rename_i hr
      have := len_dlow hb hr
      exact ih _ _ (by lia)
    · rename_i hr; show rest.length < _; lia
theorem divL_tr {b : Pl} (n : Nat) (rest found : Pl) (h : Tr rest) : Tr (divL b n rest found).2 := by
  induction n generalizing rest found with
  | zero => exact h
  | succ n ih =>
    unfold divL
    split
    · exact ih _ _ (Tr.psub _ _)
    · exact h
theorem divL_len1 {b : Pl} (n : Nat) (rest found : Pl) : (divL b n rest found).1.length = found.length := by
  induction n generalizing rest found with
  | zero => rfl
  | succ n ih =>
    unfold divL
    split
    · rw [ih, List.length_set]
    · rfl
theorem div_ev {a b : Pl} (hb : b ≠ []) (hl : last b ≠ 0) (x : Rat) : ev a x = ev b x * ev (pdiv a b) x + ev (pmod a b) x := by
  unfold pdiv pmod divA
  rw [ev_trim, divL_ev hb hl, ev_zeros]
  · grind
  · intro i _
    rw [List.getD_eq_getElem?_getD]
    cases e : (List.replicate (a.length + 1 - b.length) (0 : Rat))[i]? with
    | none => rfl
    | some v => exact List.eq_of_mem_replicate (List.mem_of_getElem? e)
  · rw [List.length_replicate]; lia
theorem len_pmod {a b : Pl} (hb : b ≠ []) : (pmod a b).length < b.length := divL_len hb _ _ _ (by lia)
theorem Tr.pmod {a b : Pl} (h : Tr a) : Tr (pmod a b) := divL_tr _ _ _ h
theorem Tr.pdiv (a b : Pl) : Tr (pdiv a b) := .trim _
theorem len_pdiv (a b : Pl) : (pdiv a b).length ≤ a.length + 1 - b.length := by
  have := len_trim (divA a b).1
  unfold divA at this
  rw [divL_len1, List.length_replicate] at this
  exact this
/-- one answer only -/
theorem div_uniq {a b q r : Pl} (hb : b ≠ []) (hl : last b ≠ 0) (ha : Tr a) (hq : Tr q) (hr : Tr r) (hlen : r.length < b.length) (h : ∀ x, ev a x = ev b x * ev q x + ev r x) : pdiv a b = q ∧ pmod a b = r := by
  have hB : Tr b := fun _ => hl
  have h₀ := div_ev (a := a) hb hl
  by_cases hQ : psub (pdiv a b) q = []
  · have e : ∀ x, ev (pdiv a b) x = ev q x := fun x => by
      have := ev_psub (pdiv a b) q x
      rw [hQ, ev_nil] at this; grind
    refine ⟨uniq e (Tr.pdiv _ _) hq, uniq (fun x => ?_) ha.pmod hr⟩
    have := h x; have := h₀ x; have := e x; grind
  · exfalso
    have e : ∀ x, ev (pmul b (psub (pdiv a b) q)) x = ev (psub r (pmod a b)) x := fun x => by
      rw [ev_pmul, ev_psub, ev_psub]
      have := h x; have := h₀ x; grind
    have h₁ := le_of_ev e (.pmul hB (Tr.psub _ _))
    rw [len_pmul hb hQ] at h₁
    have h₂ := len_psub r (pmod a b)
    have h₃ := len_pmod (a := a) hb
    have h₄ := len_pos hQ
    lia
theorem last_one_ne {h : Pl} (e : last h = 1) : h ≠ [] := by rintro rfl; exact absurd e (by decide)
theorem ev_monic {p : Pl} (h : p ≠ []) (x : Rat) : ev (monic p) x = ev p x * (last p)⁻¹ := by
  unfold monic; rw [if_neg h, ev_pscale]
theorem Tr.monic {p : Pl} (h : Tr p) : Tr (monic p) := by
  unfold Mine.monic; split
  · exact .nil
  · exact h.pscale _
theorem len_monic {p : Pl} (h : Tr p) : (monic p).length = p.length := by
  unfold monic; split
  · rename_i e; rw [e]
  · rename_i e
    have := h e
    exact len_pscale (by grind)
theorem BL.monic {A : Nat} {p : Pl} (h : BL A p) (ht : Tr p) : BL (A + A) (monic p) := by
  unfold Mine.monic; split
  · exact .nil
  · rename_i e
    exact h.pscale ((h.last e).inv (ht e))
theorem monic_nil : monic [] = [] := rfl
/-- p = monic p, scaled back -/
theorem ev_of_monic {p : Pl} (h : Tr p) (x : Rat) : ev p x = ev (monic p) x * last p := by
  by_cases e : p = []
  · subst e; simp only [monic_nil, ev_nil]; grind
  · rw [ev_monic e]; have := h e; grind
theorem monic_eq {p h : Pl} {c : Rat} (hp : Tr p) (hh : last h = 1) (hn : p ≠ []) (e : ∀ x, ev p x = ev h x * c) : monic p = h := by
  have hh' : h ≠ [] := last_one_ne hh
  have hT : Tr h := fun _ => by rw [hh]; decide
  have hc : c ≠ 0 := by
    rintro rfl
    have : p = [] := uniq (fun x => by rw [e, ev_nil]; grind) hp .nil
    exact hn this
  have e₁ : p = pscale h c := uniq (fun x => by rw [e, ev_pscale]) hp (hT.pscale c)
  have e₂ : last p = c := by
    rw [e₁, pscale, if_neg hc, last_map_mul hh', hh]; grind
  refine uniq (fun x => ?_) hp.monic hT
  rw [ev_monic hn, e, e₂]; grind

/-- a constant, by the lengths -/
theorem pair_one {h a k p : Pl} (hh : last h = 1) (ha : Tr a) (h₁ : ∀ x, ev a x = ev h x * ev k x) (h₂ : ∀ x, ev h x = ev p x * ev a x) : a ≠ [] ∧ ∃ c, ∀ x, ev a x = ev h x * c := by
  have hh' := last_one_ne hh
  have hT : Tr h := fun _ => by rw [hh]; decide
  have hn : a ≠ [] := by
    rintro rfl
    exact hh' (uniq (fun x => by rw [h₂, ev_nil]; grind) hT .nil)
  refine ⟨hn, ?_⟩
  have t₁ : a = pmul h (trim k) := uniq (fun x => by rw [h₁, ev_pmul, ev_trim]) ha (.pmul hT (.trim k))
  have t₂ : h = pmul (trim p) a := uniq (fun x => by rw [h₂, ev_pmul, ev_trim]) hT (.pmul (.trim p) ha)
  have k₁ : trim k ≠ [] := by intro e; rw [e] at t₁; exact hn (by rw [t₁]; simp [pmul])
  have k₂ : trim p ≠ [] := by intro e; rw [e] at t₂; exact hh' (by rw [t₂]; simp [pmul])
  have l₁ := len_pmul hh' k₁
  have l₂ := len_pmul k₂ hn
  rw [← t₁] at l₁; rw [← t₂] at l₂
  have := len_pos k₁; have := len_pos k₂; have := len_pos hn; have := len_pos hh'
  have lk : (trim k).length = 1 := by lia
  match hk : trim k, lk with
  | [c], _ =>
    refine ⟨c, fun x => ?_⟩
    rw [h₁, ← ev_trim k, hk, ev_cons, ev_nil]; grind

/-- what the walk of a division wants -/
structure DStep (b rest : Pl) : Prop where
  br : BL LB rest
  bb : BL LB b
  bq : Bt LB (last rest / last b)
  bs : BL LB (pscale b.dropLast (last rest / last b))
def DRun (b : Pl) : Nat → Pl → Prop
  | 0, _ => True
  | n + 1, rest => if b.length ≤ rest.length then DStep b rest ∧ DRun b n (dlow b rest) else True
structure DivOk (a b : Pl) : Prop where
  ne : b ≠ []
  lead : last b ≠ 0
  run : DRun b (a.length + 1) a
  la : a.length ≤ 1000
  lb : b.length ≤ 1000
structure MulOk (a b : Pl) : Prop where
  sz : ∃ m e A B D E, CM m A a ∧ CM e B b ∧ 0 < m ∧ 0 < e ∧ m < 2 ^ D ∧ e < 2 ^ E ∧ A + B + a.length * b.length ≤ LB ∧ D + E ≤ LB
  la : a.length ≤ 1000
  lb : b.length ≤ 1000

theorem cast_mul (m l : Nat) : ((m * l : Nat) : Rat) = (m : Rat) * (l : Rat) := by exact_mod_cast rfl
theorem sign_abs (L : Int) : ((L.natAbs : Nat) : Int) = L.sign * L := by
  rcases Int.lt_trichotomy L 0 with q | q | q
  · rw [Int.sign_eq_neg_one_of_neg q]; lia
  · subst q; rfl
  · rw [Int.sign_eq_one_of_pos q]; lia
theorem CM.dlow {m r e β ε : Nat} {b rest : Pl} (hr : rest ≠ []) (hb : b ≠ []) (hl : Mine.last b ≠ 0) (h₁ : CM m r rest) (h₂ : CM e β b) (he : 0 < e) (hε : e < 2 ^ ε) :
    ∃ l, 0 < l ∧ l < 2 ^ β ∧ CM (m * l) (r + β + 1) (dlow b rest) ∧ (∃ i : Int, i.natAbs < 2 ^ (r + ε) ∧ (Mine.last rest / Mine.last b) * ((m * l : Nat) : Rat) = (i : Rat)) ∧ CM (m * l) (r + β) (Mine.pscale b.dropLast (Mine.last rest / Mine.last b)) := by
  obtain ⟨L, hL, eL⟩ := h₂.last hb
  obtain ⟨T, hT, eT⟩ := h₁.last hr
  have e0 : (e : Rat) ≠ 0 := by
    have := natCast_sub_ne he
    intro q; apply this; rw [q]; grind
  have L0 : L ≠ 0 := by
    rintro rfl
    have : Mine.last b * (e : Rat) = 0 := by rw [eL]; rfl
    grind
  have hσ : ((L.natAbs : Nat) : Rat) = (L.sign : Rat) * (L : Rat) := by
    have h1 := sign_abs L
    have h2 : (((L.natAbs : Nat) : Int) : Rat) = ((L.natAbs : Nat) : Rat) := by exact_mod_cast rfl
    rw [← h2, h1, Rat.intCast_mul]
  have s1 : L.sign.natAbs = 1 := Int.natAbs_sign_of_ne_zero L0
  have sc : CM (m * L.natAbs) (r + β) (Mine.pscale b.dropLast (Mine.last rest / Mine.last b)) := by
    unfold Mine.pscale
    split
    · exact .nil
    · intro q hq
      obtain ⟨x, hx, rfl⟩ := List.mem_map.mp hq
      obtain ⟨j, hj, f⟩ := h₂.dropLast x hx
      refine ⟨T * j * L.sign, ?_, ?_⟩
      · rw [Int.natAbs_mul, Int.natAbs_mul, s1, Nat.mul_one]; exact mul_lt_pow hT hj
      · rw [cast_mul, hσ, Rat.intCast_mul, Rat.intCast_mul, ← f, ← eT, ← eL]; grind
  refine ⟨L.natAbs, by lia, hL, ?_, ⟨T * e * L.sign, ?_, ?_⟩, sc⟩
  · exact (h₁.dropLast.up hL).psub sc.praise
  · rw [Int.natAbs_mul, Int.natAbs_mul, s1, Nat.mul_one, Int.natAbs_natCast]; exact mul_lt_pow hT hε
  · have e2 : ((e : Int) : Rat) = (e : Rat) := by exact_mod_cast rfl
    rw [cast_mul, hσ, Rat.intCast_mul, Rat.intCast_mul, ← eT, ← eL, e2]; grind
/-- the sizes of a division -/
theorem divL_CM {b : Pl} {e β ε : Nat} (hb : b ≠ []) (hl : last b ≠ 0) (h₂ : CM e β b) (he : 0 < e) (hε : e < 2 ^ ε) (K : Nat) (n : Nat) {m r d Q : Nat} {rest found : Pl} (h₁ : CM m r rest) (hm : 0 < m) (hd : m < 2 ^ d) (hK : rest.length + 1 - b.length ≤ K) (hf : BL Q found)
    (z₁ : r + K * (β + 1) + ε + β ≤ Q) (z₂ : d + K * β + β + ε ≤ Q) (hQ : Q ≤ LB) :
    DRun b n rest ∧ BL Q (divL b n rest found).1 ∧ ∃ m', 0 < m' ∧ m' < 2 ^ (d + K * β) ∧ CM m' (r + K * (β + 1)) (divL b n rest found).2 := by
  have h0 := len_pos hb
  have fin : ∃ m', 0 < m' ∧ m' < 2 ^ (d + K * β) ∧ CM m' (r + K * (β + 1)) rest := ⟨m, hm, Nat.lt_of_lt_of_le hd (Nat.pow_le_pow_right (by decide) (by lia)), h₁.le (by lia)⟩
  induction n generalizing rest found m r d K with
  | zero => exact ⟨trivial, hf, fin⟩
  | succ n ih =>
    unfold divL DRun
    by_cases hr : b.length ≤ rest.length
    · rw [if_pos hr, if_pos hr]
      have hn : rest ≠ [] := by rintro rfl; simp only [List.length_nil] at hr; lia
      obtain ⟨K, rfl⟩ : ∃ K', K = K' + 1 := ⟨K - 1, by lia⟩
      rw [Nat.succ_mul] at z₁ z₂
      obtain ⟨l, l0, l1, c₁, ⟨i, hi, ei⟩, c₂⟩ := CM.dlow hn hb hl h₁ h₂ he hε
      have hlen := len_dlow hb hr
      have hml : m * l < 2 ^ (d + β) := mul_lt_pow hd l1
      have hml' : ∀ {B : Nat}, d + β ≤ B → m * l < 2 ^ B := fun h => Nat.lt_of_lt_of_le hml (Nat.pow_le_pow_right (by decide) h)
      have hq : Bt Q (last rest / last b) := bt_of ei (Nat.mul_pos hm l0) (hml' (by lia)) hi (by lia)
      have hm' : ∀ {B : Nat}, d ≤ B → m < 2 ^ B := fun h => Nat.lt_of_lt_of_le hd (Nat.pow_le_pow_right (by decide) h)
      have he' : ∀ {B : Nat}, ε ≤ B → e < 2 ^ B := fun h => Nat.lt_of_lt_of_le hε (Nat.pow_le_pow_right (by decide) h)
      obtain ⟨r₁, r₂, m', m0, m1, r₃⟩ := ih K (rest := Mine.dlow b rest) (found := found.set (rest.length - b.length) (last rest / last b)) c₁ (Nat.mul_pos hm l0) hml (by lia) (hf.set hq) (by lia) (by lia)
        ⟨m * l, Nat.mul_pos hm l0, hml' (by lia), c₁.le (by lia)⟩
      refine ⟨⟨⟨h₁.BL hm (hm' (by lia)) (by lia), h₂.BL he (he' (by lia)) (by lia), hq.le hQ, c₂.BL (Nat.mul_pos hm l0) (hml' (by lia)) (by lia)⟩, r₁⟩, r₂, m', m0, ?_, r₃.le (by rw [Nat.succ_mul]; lia)⟩
      rw [Nat.succ_mul]
      exact Nat.lt_of_lt_of_le m1 (Nat.pow_le_pow_right (by decide) (by lia))
    · rw [if_neg hr, if_neg hr]
      exact ⟨trivial, hf, fin⟩
theorem div_sz {a b : Pl} {m r d e β ε : Nat} (K Q : Nat) (hb : b ≠ []) (hl : last b ≠ 0) (h₁ : CM m r a) (hm : 0 < m) (hd : m < 2 ^ d) (h₂ : CM e β b) (he : 0 < e) (hε : e < 2 ^ ε) (hK : a.length + 1 - b.length ≤ K)
    (z₁ : r + K * (β + 1) + ε + β ≤ Q) (z₂ : d + K * β + β + ε ≤ Q) (hQ : Q ≤ LB) (h1 : 1 ≤ Q) (la : a.length ≤ 1000) (lb : b.length ≤ 1000) :
    DivOk a b ∧ BL Q (pdiv a b) ∧ ∃ m', 0 < m' ∧ m' < 2 ^ (d + K * β) ∧ CM m' (r + K * (β + 1)) (pmod a b) := by
  obtain ⟨r₁, r₂, r₃⟩ := divL_CM hb hl h₂ he hε K (a.length + 1) (found := List.replicate (a.length + 1 - b.length) 0) h₁ hm hd hK ((BL.zeros _).le h1) z₁ z₂ hQ
  exact ⟨⟨hb, hl, r₁, la, lb⟩, r₂.trim, r₃⟩
inductive GcdR : Pl → Pl → Pl → Prop
  | done {a : Pl} : BL LB a → Tr a → a.length ≤ 1000 → GcdR a [] (monic a)
  | step {a b g : Pl} : b ≠ [] → DivOk a b → Tr (pmod a b) → BL LB (pmod a b) → GcdR b (monic (pmod a b)) g → GcdR a b g
theorem gcd_at {h a b : Pl} (hh : last h = 1) (ha : Tr a) (hb : Tr b) (h₁ : ∃ k, ∀ x, ev a x = ev h x * ev k x) (h₂ : ∃ k, ∀ x, ev b x = ev h x * ev k x) (h₃ : ∃ p q, ∀ x, ev h x = ev p x * ev a x + ev q x * ev b x) {g : Pl} (hg : GcdR a b g) : g = h := by
  induction hg with
  | done b₁ t₁ _ =>
    obtain ⟨k, hk⟩ := h₁
    obtain ⟨p, q, e⟩ := h₃
    obtain ⟨n, c, hc⟩ := pair_one hh ha hk (p := p) fun x => by rw [e, ev_nil]; grind
    exact monic_eq ha hh n hc
  | @step a b g hn d t _ r ih =>
    obtain ⟨k, hk⟩ := h₁
    obtain ⟨l, hl⟩ := h₂
    obtain ⟨p, q, e⟩ := h₃
    have de := div_ev (a := a) d.ne d.lead
    have me := ev_of_monic t
    refine ih hb t.monic ⟨l, hl⟩ ?_ ?_
    · by_cases hz : pmod a b = []
      · exact ⟨[], fun x => by rw [hz, monic_nil, ev_nil]; grind⟩
      · refine ⟨pscale (psub k (pmul l (pdiv a b))) (last (pmod a b))⁻¹, fun x => ?_⟩
        rw [ev_monic hz, ev_pscale, ev_psub, ev_pmul]
        have := de x; have := hk x; have := hl x; grind
    · refine ⟨padd (pmul p (pdiv a b)) q, pscale p (last (pmod a b)), fun x => ?_⟩
      rw [ev_padd, ev_pmul, ev_pscale, e]
      have := de x; have := me x; grind
end Mine

/-! part Qd -/
namespace Mine
theorem Tr.one : Tr [1] := fun _ => by decide
theorem last_ne {p : Pl} (h : Tr p) (hn : p ≠ []) : last p ≠ 0 := h hn

structure AddOk (a b : Pl) : Prop where
  ba : BL LB a
  bb : BL LB b
  la : a.length ≤ 1000
  lb : b.length ≤ 1000
abbrev T3 := Pl × Pl × Pl
def extS (one other : T3) : T3 := (pmod one.1 other.1, psub one.2.1 (pmul (pdiv one.1 other.1) other.2.1), psub one.2.2 (pmul (pdiv one.1 other.1) other.2.2))
inductive ExtR : T3 → T3 → T3 → Prop
  | done {one : T3} {u v : Pl} : ExtR one ([], u, v) one
  | step {one other res : T3} : other.1 ≠ [] → DivOk one.1 other.1 → MulOk (pdiv one.1 other.1) other.2.1 → MulOk (pdiv one.1 other.1) other.2.2 →
      AddOk one.2.1 (pmul (pdiv one.1 other.1) other.2.1) → AddOk one.2.2 (pmul (pdiv one.1 other.1) other.2.2) → ExtR other (extS one other) res → ExtR one other res
/-- what the common divisor 1 makes of it -/
theorem ext_at {a b : Pl} {one other res : T3} (h : ExtR one other res) (t₁ : Tr one.1) (t₂ : Tr other.1) (t₃ : Tr one.2.1) (t₄ : Tr other.2.1)
    (e₁ : ∀ x, ev one.1 x = ev one.2.1 x * ev a x + ev one.2.2 x * ev b x) (e₂ : ∀ x, ev other.1 x = ev other.2.1 x * ev a x + ev other.2.2 x * ev b x)
    (e₃ : ∃ p q, ∀ x, 1 = ev p x * ev one.1 x + ev q x * ev other.1 x) :
    ∃ c, c ≠ 0 ∧ res.1 = [c] ∧ Tr res.2.1 ∧ ∀ x, c = ev res.2.1 x * ev a x + ev res.2.2 x * ev b x := by
  induction h with
  | @done one u v =>
    obtain ⟨p, q, e⟩ := e₃
    have hk : ∀ x, ev one.1 x = ev [1] x * ev one.1 x := fun x => by simp only [ev_cons, ev_nil]; grind
    obtain ⟨n, c, hc⟩ := pair_one (h := [1]) rfl t₁ hk (p := p) fun x => by have := e x; simp only [ev_cons, ev_nil] at this ⊢; grind
    have hc0 : c ≠ 0 := by
      rintro rfl
      exact n (uniq (fun x => by rw [hc, ev_nil]; grind) t₁ .nil)
    have h1 : one.1 = [c] := uniq (fun x => by rw [hc]; simp only [ev_cons, ev_nil]; grind) t₁ (fun _ => hc0)
    refine ⟨c, hc0, h1, t₃, fun x => ?_⟩
    rw [← e₁, h1]; simp only [ev_cons, ev_nil]; grind
  | @step one other res hn d m₁ m₂ s₁ s₂ r ih =>
    have de := div_ev (a := one.1) d.ne d.lead
    refine ih t₂ t₁.pmod t₄ (Tr.psub _ _) e₂ (fun x => ?_) ?_
    · show ev (pmod one.1 other.1) x = _
      simp only [extS, ev_psub, ev_pmul]
      have := de x; have := e₁ x; have := e₂ x; grind
    · obtain ⟨p, q, e⟩ := e₃
      refine ⟨padd (pmul p (pdiv one.1 other.1)) q, p, fun x => ?_⟩
      show _ = _ + _ * ev (pmod one.1 other.1) x
      rw [ev_padd, ev_pmul, e x]
      have := de x; grind

/-! the derivative -/
def derL : Nat → Pl → Pl
  | _, [] => []
  | k, x :: p => x * ((k : Int) : Rat) :: derL (k + 1) p
def pder (p : Pl) : Pl := (derL 0 p).drop 1
def dv : Pl → Rat → Rat
  | [], _ => 0
  | _ :: p, x => ev p x + x * dv p x
theorem ev_derL (k : Nat) (p : Pl) (x : Rat) : ev (derL k p) x = k * ev p x + x * dv p x := by
  induction p generalizing k with
  | nil => simp only [derL, ev_nil, dv]; grind
  | cons a p ih =>
    simp only [derL, ev_cons, dv, ih]
    have : (((k : Int)) : Rat) = (k : Rat) := by exact_mod_cast rfl
    rw [this]
    have : ((k + 1 : Nat) : Rat) = (k : Rat) + 1 := by exact_mod_cast rfl
    rw [this]; grind
theorem ev_pder (p : Pl) (x : Rat) : ev (pder p) x = dv p x := by
  unfold pder
  cases p with
  | nil => rfl
  | cons a p =>
    simp only [derL, List.drop_succ_cons, List.drop_zero, ev_derL, dv]; grind
theorem dv_trim (p : Pl) (x : Rat) : dv (trim p) x = dv p x := by
  induction p with
  | nil => rfl
  | cons q r ih =>
    have he := ev_trim r x
    unfold trim
    split
    · rename_i h
      rw [h] at ih he
      simp only [dv, ev_nil] at ih he
      split
      · simp only [dv]; grind
      · simp only [dv, ev_nil]; grind
    · rename_i t u h
      rw [h] at ih he
      simp only [dv, ev_cons] at ih he ⊢; grind
theorem len_derL (k : Nat) (p : Pl) : (derL k p).length = p.length := by
  induction p generalizing k with
  | nil => rfl
  | cons a p ih => simp only [derL, List.length_cons, ih]
theorem len_pder (p : Pl) : (pder p).length ≤ p.length := by simp [pder, len_derL]
theorem BL.derL {A k : Nat} {p : Pl} (h : BL A p) (hk : k + p.length ≤ 1000) : BL (A + 10) (derL k p) := by
  induction p generalizing k with
  | nil => exact .nil
  | cons a p ih =>
    simp only [List.length_cons] at hk
    refine .cons (h.head.mul (.int (by decide) ?_)) (ih h.tail (by lia))
    rw [Int.natAbs_natCast]; lia
theorem BL.pder {A : Nat} {p : Pl} (h : BL A p) (hk : p.length ≤ 1000) : BL (A + 10) (pder p) :=
  fun q m => h.derL (k := 0) (by lia) q (List.mem_of_mem_drop m)

/-! figures to a base -/
inductive DigR (base : Pl) : Pl → List Pl → Prop
  | nil : DigR base [] []
  | cons {p : Pl} {ds : List Pl} : p ≠ [] → DivOk p base → DigR base (pdiv p base) ds → DigR base p (pmod p base :: ds)
inductive ShareR (top bottom wf : Pl) : Pl → Prop
  | one : DivOk bottom wf → (pdiv bottom wf).length = 1 → DivOk top wf → ShareR top bottom wf (pmod top wf)
  | ext {res : T3} : DivOk bottom wf → (pdiv bottom wf).length ≠ 1 → BL LB (pdiv bottom wf) → BL LB wf → ExtR (pdiv bottom wf, [1], []) (wf, [], [1]) res → res.1 ≠ [] → last res.1 ≠ 0 →
      BL LB res.1 → BL LB res.2.1 → BL LB res.2.2 → res.1.length ≤ 1000 → res.2.1.length ≤ 1000 → res.2.2.length ≤ 1000 →
      MulOk top (pscale res.2.1 (last res.1)⁻¹) → DivOk (pmul top (pscale res.2.1 (last res.1)⁻¹)) wf → ShareR top bottom wf (pmod (pmul top (pscale res.2.1 (last res.1)⁻¹)) wf)
abbrev Fg := Pl × Int × Pl
def figs (factor : Pl) (many : Nat) : Nat → List Pl → List Fg
  | _, [] => []
  | k, d :: r => (if d = [] then [] else [(factor, (many : Int) - (k : Int), d)]) ++ figs factor many (k + 1) r
inductive PartR (rest bottom : Pl) : List (Pl × Nat) → List Fg → Prop
  | nil : PartR rest bottom [] []
  | cons {factor above : Pl} {many : Nat} {ds : List Pl} {fs : List (Pl × Nat)} {t : List Fg} : (∀ i, i < many → MulOk (ppow factor i) factor) → many ≤ 1000 → ShareR rest bottom (ppow factor many) above → DigR factor above ds →
      ds.length ≤ 1000 → PartR rest bottom fs t → PartR rest bottom ((factor, many) :: fs) (figs factor many 0 ds ++ t)

inductive FmakeR (top bottom : Pl) : Pl → Pl → Prop
  | low {g : Pl} : bottom ≠ [] → top ≠ [] → GcdR top bottom g → g.length = 1 → last bottom ≠ 0 → BL LB top → BL LB bottom → top.length ≤ 1000 → bottom.length ≤ 1000 →
      FmakeR top bottom (pscale top (last bottom)⁻¹) (pscale bottom (last bottom)⁻¹)
  | red {g : Pl} : bottom ≠ [] → top ≠ [] → GcdR top bottom g → 1 < g.length → g.length ≤ 1000 → DivOk top g → DivOk bottom g → pdiv bottom g ≠ [] → last (pdiv bottom g) ≠ 0 → BL LB (pdiv top g) → BL LB (pdiv bottom g) →
      FmakeR top bottom (pscale (pdiv top g) (last (pdiv bottom g))⁻¹) (pscale (pdiv bottom g) (last (pdiv bottom g))⁻¹)
structure FderR (top bottom t b : Pl) : Prop where
  bt : BL LB top
  bb : BL LB bottom
  lt : top.length ≤ 1000
  lb : bottom.length ≤ 1000
  m₁ : MulOk (pder top) bottom
  m₂ : MulOk top (pder bottom)
  s : AddOk (pmul (pder top) bottom) (pmul top (pder bottom))
  m₃ : MulOk bottom bottom
  f : FmakeR (psub (pmul (pder top) bottom) (pmul top (pder bottom))) (pmul bottom bottom) t b
/-! bounds -/
theorem nm {x y : Int} {X Y : Nat} (hx : x.natAbs ≤ X) (hy : y.natAbs ≤ Y) : (x * y).natAbs ≤ X * Y := by
  rw [Int.natAbs_mul]; exact Nat.mul_le_mul hx hy
theorem ba {x y : Int} {X Y : Nat} (hx : x.natAbs ≤ X) (hy : y.natAbs ≤ Y) : (x + y).natAbs ≤ X + Y := Nat.le_trans (Int.natAbs_add_le ..) (Nat.add_le_add hx hy)
theorem bn {x : Int} {X : Nat} (hx : x.natAbs ≤ X) : (-x).natAbs ≤ X := by rw [Int.natAbs_neg]; exact hx
theorem bs {x y : Int} {X Y : Nat} (hx : x.natAbs ≤ X) (hy : y.natAbs ≤ Y) : (x - y).natAbs ≤ X + Y := by rw [Int.sub_eq_add_neg]; exact ba hx (bn hy)
theorem bl (X : Nat) : ((X : Int)).natAbs ≤ X := Nat.le_refl _
theorem bp {v : Int} {X R : Nat} (h : v.natAbs ≤ X) (e : X < 2 ^ R) : v.natAbs < 2 ^ R := Nat.lt_of_le_of_lt h e
theorem bt {v : Int} {X Y : Nat} (h : v.natAbs ≤ X) (e : X ≤ Y) : v.natAbs ≤ Y := Nat.le_trans h e
theorem bk {c : Int} {k : Nat} (h : 1 ≤ c ∧ c ≤ (k : Int)) : c.natAbs ≤ k := by lia
theorem al0 {P : Int → Prop} : ∀ v ∈ ([] : List Int), P v := fun _ h => nomatch h
theorem alc {P : Int → Prop} {a : Int} {l : List Int} (h : P a) (t : ∀ v ∈ l, P v) : ∀ v ∈ a :: l, P v := fun v hv => (List.mem_cons.mp hv).elim (fun e => e ▸ h) (t v)
theorem dk {d : Int} {m k K : Nat} (h : 0 ≤ d ∧ d < (m : Int)) (e : m ≤ k + K + 1) (e' : k ≤ K) : (d - (k : Int)).natAbs ≤ K := by lia
theorem dq {d : Int} {m : Nat} (h : 0 ≤ d ∧ d < (m : Int)) : 1 ≤ 1 + d ∧ 1 + d ≤ (m : Int) := by lia
end Mine

/-! part Fw1 -/
namespace Mine
open PySem PySem.W PyProof.Rows

/-! partial maps of what stands, and data read out of them -/
abbrev PM := Addr → Option Obj
def Le (G G' : PM) : Prop := ∀ a o, G a = some o → G' a = some o
def Sub (G : PM) (h : Heap) : Prop := ∀ a o, G a = some o → h.get? a = some o
def Kp (h h' : Heap) : Prop := ∀ a o, h.get? a = some o → h'.get? a = some o
def Ext (G : PM) (h h' : Heap) : PM := fun a => if (h.get? a).isSome then G a else h'.get? a

theorem Le.rfl' {G : PM} : Le G G := fun _ _ e => e
theorem Le.trans {G G' G'' : PM} (a : Le G G') (b : Le G' G'') : Le G G'' := fun x o e => b x o (a x o e)
theorem Kp.rfl' {h : Heap} : Kp h h := fun _ _ e => e
theorem Kp.trans {h h' h'' : Heap} (a : Kp h h') (b : Kp h' h'') : Kp h h'' := fun x o e => b x o (a x o e)
theorem Sub.kp {G : PM} {h h' : Heap} (s : Sub G h) (k : Kp h h') : Sub G h' := fun a o e => k a o (s a o e)

theorem Ext.le {G : PM} {h h' : Heap} (s : Sub G h) : Le G (Ext G h h') := fun a o e => by
  unfold Ext; rw [s a o e]; simpa using e
theorem Ext.sub {G : PM} {h h' : Heap} (s : Sub G h) (k : Kp h h') : Sub (Ext G h h') h' := fun a o e => by
  unfold Ext at e
  split at e
  · exact k a o (s a o e)
  · exact e
theorem Ext.live {G : PM} {h h' : Heap} {a : Addr} {o : Obj} (e : h.get? a = some o) : Ext G h h' a = G a := by
  unfold Ext; rw [e]; rfl
theorem Ext.new {G : PM} {h h' : Heap} {a : Addr} (e : h.get? a = none) : Ext G h h' a = h'.get? a := by
  unfold Ext; rw [e]; rfl
theorem Ext.trans {G : PM} {h h₁ h₂ : Heap} (k₁ : Kp h h₁) (k₂ : Kp h₁ h₂) : Le (Ext (Ext G h h₁) h₁ h₂) (Ext G h h₂) := fun a o e => by
  cases e0 : h.get? a with
  | some o₀ => rw [Ext.live (k₁ a o₀ e0), Ext.live e0] at e; rw [Ext.live e0]; exact e
  | none =>
    rw [Ext.new e0]
    cases e1 : h₁.get? a with
    | some o₁ => rw [Ext.live e1, Ext.new e0, e1] at e; cases e; exact k₂ _ _ e1
    | none => rw [Ext.new e1] at e; exact e
/-- more seen, more read -/
theorem Ext.mono {G G' : PM} {h h' : Heap} (l : Le G G') : Le (Ext G h h') (Ext G' h h') := fun a o e => by
  unfold Ext at e ⊢
  split
  · rename_i q; rw [if_pos q] at e; exact l a o e
  · rename_i q; rw [if_neg q] at e; exact e

mutual
inductive Rd (G : PM) : Value → PyData → Prop
  | int (i : Int) (t : Tok) : Rd G (.int i t) (.int i)
  | bool (b : Bool) : Rd G (.bool b) (.bool b)
  | list {a : Addr} {o : Obj} {vs : Array Value} {n : Nat} {xs : List PyData} : G a = some o → o.cls = .type "list" → o.data = .seq vs n → RdAll G vs.toList xs → Rd G (.ref a) (.list xs)
  | tuple {a : Addr} {o : Obj} {vs : Array Value} {n : Nat} {xs : List PyData} : G a = some o → o.cls = .type "tuple" → o.data = .seq vs n → RdAll G vs.toList xs → Rd G (.ref a) (.tuple xs)
inductive RdAll (G : PM) : List Value → List PyData → Prop
  | nil : RdAll G [] []
  | cons {v : Value} {vs : List Value} {d : PyData} {ds : List PyData} : Rd G v d → RdAll G vs ds → RdAll G (v :: vs) (d :: ds)
end
mutual
theorem Rd.mono {G G' : PM} (l : Le G G') : ∀ {v : Value} {d : PyData}, Rd G v d → Rd G' v d
  | _, _, .int i t => .int i t
  | _, _, .bool b => .bool b
  | _, _, .list e c dt r => .list (l _ _ e) c dt (RdAll.mono l r)
  | _, _, .tuple e c dt r => .tuple (l _ _ e) c dt (RdAll.mono l r)
theorem RdAll.mono {G G' : PM} (l : Le G G') : ∀ {vs : List Value} {ds : List PyData}, RdAll G vs ds → RdAll G' vs ds
  | _, _, .nil => .nil
  | _, _, .cons h r => .cons (Rd.mono l h) (RdAll.mono l r)
end
theorem RdAll.length {G : PM} : ∀ {vs : List Value} {ds : List PyData}, RdAll G vs ds → vs.length = ds.length
  | _, _, .nil => rfl
  | _, _, .cons _ r => by rw [List.length_cons, List.length_cons, RdAll.length r]
theorem RdAll.get {G : PM} : ∀ {vs : List Value} {ds : List PyData} {k : Nat} {d : PyData}, RdAll G vs ds → ds[k]? = some d → ∃ v, vs[k]? = some v ∧ Rd G v d
  | _, _, 0, _, .cons h _, e => by cases e; exact ⟨_, rfl, h⟩
  | _, _, k + 1, _, .cons _ r, e => RdAll.get (k := k) r e
theorem RdAll.append {G : PM} {ws : List Value} {es : List PyData} (k : RdAll G ws es) : ∀ {vs : List Value} {ds : List PyData}, RdAll G vs ds → RdAll G (vs ++ ws) (ds ++ es)
  | _, _, .nil => k
  | _, _, .cons h r => .cons h (RdAll.append k r)
theorem RdAll.take {G : PM} : ∀ {vs : List Value} {ds : List PyData} (n : Nat), RdAll G vs ds → RdAll G (vs.take n) (ds.take n)
  | _, _, 0, _ => by simpa using RdAll.nil
  | _, _, _ + 1, .nil => by simpa using RdAll.nil
  | _, _, n + 1, .cons h r => .cons h (RdAll.take n r)
theorem RdAll.drop {G : PM} : ∀ {vs : List Value} {ds : List PyData} (n : Nat), RdAll G vs ds → RdAll G (vs.drop n) (ds.drop n)
  | _, _, 0, r => by simpa using r
  | _, _, _ + 1, .nil => by simpa using RdAll.nil
  | _, _, n + 1, .cons _ r => RdAll.drop n r
theorem RdAll.set {G : PM} {v : Value} {d : PyData} (h : Rd G v d) : ∀ {vs : List Value} {ds : List PyData} (k : Nat), RdAll G vs ds → RdAll G (vs.set k v) (ds.set k d)
  | _, _, 0, .nil => by simpa using RdAll.nil
  | _, _, _ + 1, .nil => by simpa using RdAll.nil
  | _, _, 0, .cons _ r => .cons h r
  | _, _, k + 1, .cons h' r => .cons h' (RdAll.set h k r)
theorem RdAll.replicate {G : PM} {v : Value} {d : PyData} (h : Rd G v d) : ∀ n : Nat, RdAll G (List.replicate n v) (List.replicate n d)
  | 0 => .nil
  | n + 1 => .cons h (RdAll.replicate h n)
theorem RdAll.one {G : PM} {v : Value} {d : PyData} (h : Rd G v d) : RdAll G [v] [d] := .cons h .nil

theorem Rd.listAt {G : PM} {v : Value} {xs : List PyData} (r : Rd G v (.list xs)) : ∃ a o vs n, v = .ref a ∧ G a = some o ∧ o.cls = .type "list" ∧ o.data = .seq vs n ∧ RdAll G vs.toList xs := by
  cases r with
  | list e c d r => exact ⟨_, _, _, _, rfl, e, c, d, r⟩
theorem Rd.tupleAt {G : PM} {v : Value} {xs : List PyData} (r : Rd G v (.tuple xs)) : ∃ a o vs n, v = .ref a ∧ G a = some o ∧ o.cls = .type "tuple" ∧ o.data = .seq vs n ∧ RdAll G vs.toList xs := by
  cases r with
  | tuple e c d r => exact ⟨_, _, _, _, rfl, e, c, d, r⟩
theorem Rd.intAt {G : PM} {v : Value} {i : Int} (r : Rd G v (.int i)) : ∃ t, v = .int i t := by cases r; exact ⟨_, rfl⟩
theorem Rd.boolAt {G : PM} {v : Value} {b : Bool} (r : Rd G v (.bool b)) : v = .bool b := by cases r; rfl

mutual
theorem Rd.reads {G : PM} {h : Heap} (s : Sub G h) : ∀ {v : Value} {d : PyData}, Rd G v d → ∃ as, Reads h v d as
  | _, _, .int i t => ⟨_, .int i t⟩
  | _, _, .bool b => ⟨_, .bool b⟩
  | _, _, .list e c d r => let ⟨_, x⟩ := RdAll.reads s r; ⟨_, .list (s _ _ e) c d x⟩
  | _, _, .tuple e c d r => let ⟨_, x⟩ := RdAll.reads s r; ⟨_, .tuple (s _ _ e) c d x⟩
theorem RdAll.reads {G : PM} {h : Heap} (s : Sub G h) : ∀ {vs : List Value} {ds : List PyData}, RdAll G vs ds → ∃ as, ReadsAll h vs ds as
  | _, _, .nil => ⟨_, .nil⟩
  | _, _, .cons h r => let ⟨_, x⟩ := Rd.reads s h; let ⟨_, y⟩ := RdAll.reads s r; ⟨_, .cons x y⟩
end

/-- the object that a new list or tuple is -/
theorem push_new (h : Heap) (o : Obj) (hf : o.isFreed = false) : (h.push o).get? h.objs.size = some o := Heap.get?_push_size _ hf
theorem size_none (h : Heap) : h.get? h.objs.size = none := by
  cases e : h.get? h.objs.size with
  | none => rfl
  | some o => exact absurd (Heap.lt_size e) (Nat.lt_irrefl _)
theorem push_kp (h : Heap) (o : Obj) : Kp h (h.push o) := fun _ _ e => Heap.get?_push_of_some _ e

end Mine

/-! part Fw2 -/
namespace Mine
open PySem PySem.W PyProof.Rows

theorem kRefl (s : Shared) : Keeps s s := ⟨s.heap, s.toks, rfl, fun _ _ e => e⟩
theorem kTok (s : Shared) (tk : Nat) : Keeps s { s with toks := tk } := ⟨s.heap, tk, rfl, fun _ _ e => e⟩
theorem kKp {s s' : Shared} (k : Keeps s s') : Kp s.heap s'.heap := by
  obtain ⟨h, tk, rfl, x⟩ := k; exact x
theorem kTrans {s s' s'' : Shared} (a : Keeps s s') (b : Keeps s' s'') : Keeps s s'' := by
  obtain ⟨h, tk, rfl, x⟩ := a
  obtain ⟨h', tk', rfl, y⟩ := b
  exact ⟨h', tk', rfl, fun c o e => y c o (x c o e)⟩
theorem kHeap (s : Shared) {h : Heap} (tk : Nat) (k : Kp s.heap h) : Keeps s { s with heap := h, toks := tk } := ⟨h, tk, rfl, k⟩

def bltNames : List Str := ["abs", "max", "len", "list", "range", "enumerate"]
structure Wd (Pg : Program) (mg : Str → Option Value) (h₀ : Heap) : Prop where
  g : h₀.Ns mainGlobals mg
  b : ∃ mb, h₀.Ns builtinsNs mb ∧ ∀ x : Str, x ≠ "__name__" → mb x = bootBuiltins x
  nolimit : h₀.NoLimit
  fn : ∀ d ∈ recsOf Pg, ∃ a o pm code doc, mg d.name = some (.ref a) ∧ h₀.get? a = some o ∧ o.data = .func (Calls.docDef d.name d.params d.body d.scope pm code doc) ∧ h₀.CodeRec code d.name
  lits : ∀ c ∈ wlitsOf Pg, ∃ v, mg c.1 = some v ∧ ReadsLit h₀ v c.2 []
  free : ∀ x ∈ bltNames, mg x = none
/-- what a name of the module holds -/
def fv (mg : Str → Option Value) (x : Str) : Value := (mg x).getD .none
def FnAt (mg : Str → Option Value) (h₀ : Heap) (x : Str) : Prop := ∃ a o fd, mg x = some (.ref a) ∧ h₀.get? a = some o ∧ o.data = .func fd

structure Room (A : Around) (n : Nat) : Prop where
  handled : A.handled = none
  depth : A.depth + n < recursionLimit
  units : A.units + 8 * n + 200 < cLine
theorem Room.le {A : Around} {n m : Nat} (r : Room A n) (h : m ≤ n) : Room A m := ⟨r.handled, by have := r.depth; lia, by have := r.units; lia⟩
theorem Room.deeper {A : Around} {n : Nat} {env : Env} (r : Room A (n + 1)) : Room (A.deeper env) n :=
  ⟨r.handled, by have := r.depth; show A.depth + 1 + n < _; lia, by have := r.units; show A.units + 3 + 8 * n + 200 < _; lia⟩

structure EnvOk (env : Env) : Prop where
  g : env.globals = mainGlobals
  b : env.builtins = builtinsNs
  k : env.scope.kind = .function

abbrev Gam := List (Str × PyData)
abbrev Own := Option (Str × Bool × List PyData)
def Sat (prog : Program) (w : World) (env : Env) (Γ : Gam) (G : PM) (h : Heap) : Prop :=
  ∀ x d, Γ.lookup x = some d → ∃ v, Looks (model prog w) h (loadName env x) v ∧ Rd G v d
def SatO (prog : Program) (w : World) (env : Env) (O : Own) (G : PM) (h : Heap) : Prop :=
  ∀ x b ds, O = some (x, b, ds) → ∃ F vs, Looks (model prog w) h (loadName env x) (.ref F) ∧ h.IsList F vs ∧ RdAll G vs.toList ds

def SatC (env : Env) (Γ : Gam) (G : PM) (h : Heap) : Prop :=
  ∀ x d, Γ.lookup x = some d → env.kindOf x = some .cell → ∃ c v, env.cells.lookup x = some c ∧ h.IsCell c (some v) ∧ Rd G v d

structure Cx (prog : Program) (w : World) (h₀ : Heap) (n : Nat) (sc : Scope) (Γ : Gam) (O : Own) (A : Around) (env : Env) (G : PM) (s : Shared) : Prop where
  room : Room A n
  scope : env.scope = sc
  ok : EnvOk env
  sub : Sub G s.heap
  base : Le h₀.get? G
  sat : Sat prog w env Γ G s.heap
  satO : SatO prog w env O G s.heap
  satC : SatC env Γ G s.heap

section
variable {prog : Program} {w : World} {h₀ : Heap} {n : Nat} {sc : Scope} {Γ : Gam} {O : Own} {A : Around} {env : Env} {G : PM} {s s' : Shared}

theorem Cx.on (c : Cx prog w h₀ n sc Γ O A env G s) (k : Keeps s s') : Cx prog w h₀ n sc Γ O A env (Ext G s.heap s'.heap) s' where
  room := c.room
  scope := c.scope
  ok := c.ok
  sub := Ext.sub c.sub (kKp k)
  base := c.base.trans (Ext.le c.sub)
  sat := fun x d e => let ⟨v, l, r⟩ := c.sat x d e; ⟨v, l.keeps (kKp k), r.mono (Ext.le c.sub)⟩
  satO := fun x b ds e => let ⟨F, vs, l, hF, r⟩ := c.satO x b ds e; ⟨F, vs, l.keeps (kKp k), hF.at (fun o q => kKp k _ o q), r.mono (Ext.le c.sub)⟩
  satC := fun x d e q => let ⟨b, v, hb, hc, r⟩ := c.satC x d e q; ⟨b, v, hb, hc.keeps (kKp k), r.mono (Ext.le c.sub)⟩
end

section
variable (prog : Program) (w : World) (h₀ : Heap) (n : Nat) (sc : Scope) (Γ : Gam) (O : Own)
abbrev Fls : Value → Shared → Prop := fun _ _ => False
def Ev (e : Expr) (d : PyData) : Prop :=
  ∀ A env G s, Cx prog w h₀ n sc Γ O A env G s → wpAny (model prog w) A (eval e env) (fun v s' => Keeps s s' ∧ Rd (Ext G s.heap s'.heap) v d) Fls s
def Tst (e : Expr) (b : Bool) : Prop :=
  ∀ A env G s, Cx prog w h₀ n sc Γ O A env G s → wpAny (model prog w) A (PySem.isTrue e env (eval e env)) (fun c s' => Keeps s s' ∧ c = b) Fls s
def EvL (es : List Expr) (ds : List PyData) : Prop :=
  ∀ pos A env G s, Cx prog w h₀ n sc Γ O A env G s → wpAny (model prog w) A (spliced (backTo pos (starEach es env))) (fun vs s' => Keeps s s' ∧ RdAll (Ext G s.heap s'.heap) vs ds) Fls s
end
section
variable (prog : Program) (w : World) (h₀ : Heap) (n : Nat)
/-- an operation on values -/
def Op2 (o : Operator) (d₁ d₂ d : PyData) : Prop :=
  ∀ A G s v₁ v₂, Room A n → Sub G s.heap → Rd G v₁ d₁ → Rd G v₂ d₂ → wpAny (model prog w) A (binaryOp o v₁ v₂) (fun v s' => Keeps s s' ∧ Rd (Ext G s.heap s'.heap) v d) Fls s
def Cm2 (o : CmpOp) (d₁ d₂ : PyData) (b : Bool) : Prop :=
  ∀ A G s v₁ v₂, Room A n → Sub G s.heap → Rd G v₁ d₁ → Rd G v₂ d₂ → wpAny (model prog w) A (compareOp o v₁ v₂) (fun v s' => Keeps s s' ∧ v = .bool b) Fls s
/-- what a callable gives back -/
def Con (f : Value) (ds : List PyData) (d : PyData) : Prop :=
  ∀ A G s vs, Room A n → Sub G s.heap → Le h₀.get? G → RdAll G vs ds → wpAny (model prog w) A (call f vs) (fun v s' => Keeps s s' ∧ Rd (Ext G s.heap s'.heap) v d) Fls s
end

section
variable {prog : Program} {w : World} {h₀ : Heap} {n : Nat} {sc : Scope} {Γ : Gam} {O : Own}

theorem Con.le {m : Nat} {f : Value} {ds : List PyData} {d : PyData} (c : Con prog w h₀ m f ds d) (h : m ≤ n) : Con prog w h₀ n f ds d :=
  fun A G s vs r => c A G s vs (r.le h)

/-- the later sight, from the first state -/
theorem see {G : PM} {s s₁ s₂ : Shared} {v : Value} {d : PyData} (k₁ : Keeps s s₁) (k₂ : Keeps s₁ s₂) (r : Rd (Ext (Ext G s.heap s₁.heap) s₁.heap s₂.heap) v d) : Rd (Ext G s.heap s₂.heap) v d :=
  r.mono (Ext.trans (kKp k₁) (kKp k₂))
theorem seeAll {G : PM} {s s₁ s₂ : Shared} {v : List Value} {d : List PyData} (k₁ : Keeps s s₁) (k₂ : Keeps s₁ s₂) (r : RdAll (Ext (Ext G s.heap s₁.heap) s₁.heap s₂.heap) v d) : RdAll (Ext G s.heap s₂.heap) v d :=
  r.mono (Ext.trans (kKp k₁) (kKp k₂))
/-- what was seen stays seen -/
theorem stay {G : PM} {s s₁ s₂ : Shared} {v : Value} {d : PyData} (c : Sub G s.heap) (k₁ : Keeps s s₁) (k₂ : Keeps s₁ s₂) (r : Rd (Ext G s.heap s₁.heap) v d) : Rd (Ext (Ext G s.heap s₁.heap) s₁.heap s₂.heap) v d :=
  r.mono (Ext.le (Ext.sub c (kKp k₁)))

theorem Ev.name {x : Str} {pos : Pos} {d : PyData} (h : Γ.lookup x = some d) (hd : (x == ("__debug__" : Str)) = false := by decide) : Ev prog w h₀ n sc Γ O (.Name x pos) d := by
  intro A env G s c
  obtain ⟨v, l, r⟩ := c.sat x d h
  exact wpAny_Name (l.here (by exact ⟨kRefl s, r.mono (Ext.le c.sub)⟩)) hd

theorem Ev.int {i : Int} {k : Nat} {pos : Pos} : Ev prog w h₀ n sc Γ O (.Constant (.int i) k pos) (.int i) := by
  intro A env G s c
  exact wpAny_Constant_int (by exact ⟨kTok s _, .int _ _⟩)

theorem Ev.bin {e₁ e₂ : Expr} {o : Operator} {pos : Pos} {d₁ d₂ d : PyData} (h₁ : Ev prog w h₀ n sc Γ O e₁ d₁) (h₂ : Ev prog w h₀ n sc Γ O e₂ d₂) (op : Op2 prog w n o d₁ d₂ d) : Ev prog w h₀ n sc Γ O (.BinOp e₁ o e₂ pos) d := by
  intro A env G s c
  refine wpAny_BinOp (wpAny_mono (h₁ A env G s c) (fun v₁ s₁ ⟨k₁, r₁⟩ => wpAny_mono (h₂ A env _ s₁ (c.on k₁)) (fun v₂ s₂ ⟨k₂, r₂⟩ => ?_) fun _ _ x => x) fun _ _ x => x)
  have c₂ := (c.on k₁).on k₂
  refine wpAny_mono (op A _ s₂ v₁ v₂ c.room c₂.sub (stay c.sub k₁ k₂ r₁) r₂) (fun v s₃ ⟨k₃, r₃⟩ => ?_) fun _ _ x => x
  exact ⟨kTrans (kTrans k₁ k₂) k₃, see (kTrans k₁ k₂) k₃ (r₃.mono (Ext.mono (Ext.trans (kKp k₁) (kKp k₂))))⟩

theorem Ev.neg {e : Expr} {pos : Pos} {i : Int} (h : Ev prog w h₀ n sc Γ O e (.int i)) : Ev prog w h₀ n sc Γ O (.UnaryOp .USub e pos) (.int (-i)) := by
  intro A env G s c
  refine wpAny_UnaryOp (wpAny_mono (h A env G s c) (fun v s₁ ⟨k₁, r₁⟩ => ?_) fun _ _ x => x)
  obtain ⟨t, rfl⟩ := r₁.intAt
  exact neg_int (by exact ⟨kTrans k₁ (kTok _ _), .int _ _⟩)

theorem Ev.ife {t e₁ e₂ : Expr} {pos : Pos} {b : Bool} {d : PyData} (ht : Tst prog w h₀ n sc Γ O t b) (h : if b then Ev prog w h₀ n sc Γ O e₁ d else Ev prog w h₀ n sc Γ O e₂ d) : Ev prog w h₀ n sc Γ O (.IfExp t e₁ e₂ pos) d := by
  intro A env G s c
  refine wpAny_IfExp (wpAny_mono (ht A env G s c) (fun v s₁ ⟨k₁, r₁⟩ => ?_) fun _ _ x => x)
  subst r₁
  cases v with
  | true => exact wpAny_mono (h A env _ s₁ (c.on k₁)) (fun v s₂ ⟨k₂, r₂⟩ => ⟨kTrans k₁ k₂, see k₁ k₂ r₂⟩) fun _ _ x => x
  | false => exact wpAny_mono (h A env _ s₁ (c.on k₁)) (fun v s₂ ⟨k₂, r₂⟩ => ⟨kTrans k₁ k₂, see k₁ k₂ r₂⟩) fun _ _ x => x

theorem Tst.cmp {e₁ e₂ : Expr} {o : CmpOp} {pos : Pos} {d₁ d₂ : PyData} {b : Bool} (h₁ : Ev prog w h₀ n sc Γ O e₁ d₁) (h₂ : Ev prog w h₀ n sc Γ O e₂ d₂) (op : Cm2 prog w n o d₁ d₂ b) (hm : behindInMarks o e₂ = false := by with_unfolding_all rfl) :
    Tst prog w h₀ n sc Γ O (.Compare e₁ [o] [e₂] pos) b := by
  intro A env G s c
  refine wpAny_isTrue_Compare1 (wpAny_mono (h₁ A env G s c) (fun v₁ s₁ ⟨k₁, r₁⟩ => wpAny_mono (h₂ A env _ s₁ (c.on k₁)) (fun v₂ s₂ ⟨k₂, r₂⟩ => ?_) fun _ _ x => x) fun _ _ x => x) hm
  have c₂ := (c.on k₁).on k₂
  refine wpAny_mono (op A _ s₂ v₁ v₂ c.room c₂.sub (stay c.sub k₁ k₂ r₁) r₂) (fun v s₃ ⟨k₃, r₃⟩ => ?_) fun _ _ x => x
  subst r₃
  exact wpAny_truthy_bool (by exact ⟨kTrans (kTrans k₁ k₂) k₃, rfl⟩)
theorem Ev.cmp {e₁ e₂ : Expr} {o : CmpOp} {pos : Pos} {d₁ d₂ : PyData} {b : Bool} (h₁ : Ev prog w h₀ n sc Γ O e₁ d₁) (h₂ : Ev prog w h₀ n sc Γ O e₂ d₂) (op : Cm2 prog w n o d₁ d₂ b) (hm : behindInMarks o e₂ = false := by with_unfolding_all rfl) :
    Ev prog w h₀ n sc Γ O (.Compare e₁ [o] [e₂] pos) (.bool b) := by
  intro A env G s c
  refine wpAny_Compare1 (wpAny_mono (h₁ A env G s c) (fun v₁ s₁ ⟨k₁, r₁⟩ => wpAny_mono (h₂ A env _ s₁ (c.on k₁)) (fun v₂ s₂ ⟨k₂, r₂⟩ => ?_) fun _ _ x => x) fun _ _ x => x) hm
  have c₂ := (c.on k₁).on k₂
  refine wpAny_mono (op A _ s₂ v₁ v₂ c.room c₂.sub (stay c.sub k₁ k₂ r₁) r₂) (fun v s₃ ⟨k₃, r₃⟩ => ?_) fun _ _ x => x
  subst r₃
  exact ⟨kTrans (kTrans k₁ k₂) k₃, .bool _⟩

/-! the operations -/
theorem Op2.add {i j : Int} : Op2 prog w n .Add (.int i) (.int j) (.int (i + j)) := by
  intro A G s v₁ v₂ _ _ r₁ r₂
  obtain ⟨t, rfl⟩ := r₁.intAt; obtain ⟨u, rfl⟩ := r₂.intAt
  exact add_int (by exact ⟨kTok _ _, .int _ _⟩)
theorem Op2.sub {i j : Int} : Op2 prog w n .Sub (.int i) (.int j) (.int (i - j)) := by
  intro A G s v₁ v₂ _ _ r₁ r₂
  obtain ⟨t, rfl⟩ := r₁.intAt; obtain ⟨u, rfl⟩ := r₂.intAt
  exact sub_int (by exact ⟨kTok _ _, .int _ _⟩)
theorem Op2.mul {i j : Int} (h : IntMulOk i j) : Op2 prog w n .Mult (.int i) (.int j) (.int (i * j)) := by
  intro A G s v₁ v₂ _ _ r₁ r₂
  obtain ⟨t, rfl⟩ := r₁.intAt; obtain ⟨u, rfl⟩ := r₂.intAt
  exact mul_int (by exact ⟨kTok _ _, .int _ _⟩) h
theorem Op2.mod {i j : Int} (h : j ≠ 0) : Op2 prog w n .Mod (.int i) (.int j) (.int (i.fmod j)) := by
  intro A G s v₁ v₂ _ _ r₁ r₂
  obtain ⟨t, rfl⟩ := r₁.intAt; obtain ⟨u, rfl⟩ := r₂.intAt
  exact mod_int' h (by exact ⟨kTok _ _, .int _ _⟩)
theorem Op2.fdiv {i j : Int} (h : j ≠ 0) (hs : Builtin.divisionGoesByPylong i j = false) : Op2 prog w n .FloorDiv (.int i) (.int j) (.int (i.fdiv j)) := by
  intro A G s v₁ v₂ _ _ r₁ r₂
  obtain ⟨t, rfl⟩ := r₁.intAt; obtain ⟨u, rfl⟩ := r₂.intAt
  exact floordiv_int h (by exact ⟨kTok _ _, .int _ _⟩) (.inl hs)
theorem Cm2.eqI {i j : Int} : Cm2 prog w n .Eq (.int i) (.int j) (i == j) := by
  intro A G s v₁ v₂ _ _ r₁ r₂
  obtain ⟨t, rfl⟩ := r₁.intAt; obtain ⟨u, rfl⟩ := r₂.intAt
  exact eq_int (by exact ⟨kRefl _, rfl⟩)
theorem Cm2.neI {i j : Int} : Cm2 prog w n .NotEq (.int i) (.int j) (i != j) := by
  intro A G s v₁ v₂ _ _ r₁ r₂
  obtain ⟨t, rfl⟩ := r₁.intAt; obtain ⟨u, rfl⟩ := r₂.intAt
  exact ne_int (by exact ⟨kRefl _, rfl⟩)
theorem Cm2.ltI {i j : Int} : Cm2 prog w n .Lt (.int i) (.int j) (decide (i < j)) := by
  intro A G s v₁ v₂ _ _ r₁ r₂
  obtain ⟨t, rfl⟩ := r₁.intAt; obtain ⟨u, rfl⟩ := r₂.intAt
  exact lt_int (by exact ⟨kRefl _, rfl⟩)
theorem Cm2.gtI {i j : Int} : Cm2 prog w n .Gt (.int i) (.int j) (decide (j < i)) := by
  intro A G s v₁ v₂ _ _ r₁ r₂
  obtain ⟨t, rfl⟩ := r₁.intAt; obtain ⟨u, rfl⟩ := r₂.intAt
  exact gt_int (by exact ⟨kRefl _, rfl⟩)
theorem Cm2.geI {i j : Int} : Cm2 prog w n .GtE (.int i) (.int j) (decide (j ≤ i)) := by
  intro A G s v₁ v₂ _ _ r₁ r₂
  obtain ⟨t, rfl⟩ := r₁.intAt; obtain ⟨u, rfl⟩ := r₂.intAt
  exact ge_int (by exact ⟨kRefl _, rfl⟩)
theorem Cm2.eqD {x y : PyData} (hx : SeqAt.shaped x = true) (hy : SeqAt.shaped y = true) : Cm2 prog w n .Eq x y (x.eqv y) := by
  intro A G s v₁ v₂ r c r₁ r₂
  obtain ⟨as, q₁⟩ := r₁.reads c
  obtain ⟨bs, q₂⟩ := r₂.reads c
  exact eq_dataH q₁ q₂ hx hy (by have := r.units; lia) (by exact ⟨kRefl _, rfl⟩)
theorem Cm2.neD {x y : PyData} (hx : SeqAt.shaped x = true) (hy : SeqAt.shaped y = true) : Cm2 prog w n .NotEq x y (!(x.eqv y)) := by
  intro A G s v₁ v₂ r c r₁ r₂
  obtain ⟨as, q₁⟩ := r₁.reads c
  obtain ⟨bs, q₂⟩ := r₂.reads c
  exact ne_dataH q₁ q₂ hx hy (by have := r.units; lia) (by exact ⟨kRefl _, rfl⟩)

/-! lists of expressions, displays -/
theorem EvL.nil : EvL prog w h₀ n sc Γ O [] [] := by
  intro pos A env G s c
  exact spliced_none (by exact ⟨kRefl _, .nil⟩)
theorem EvL.cons {e : Expr} {es : List Expr} {d : PyData} {ds : List PyData} (h : Ev prog w h₀ n sc Γ O e d) (hs : EvL prog w h₀ n sc Γ O es ds)
    (he : ∀ env, starEach (e :: es) env = (false, eval e env) :: starEach es env := by intro _; rfl) : EvL prog w h₀ n sc Γ O (e :: es) (d :: ds) := by
  intro pos A env G s c
  refine spliced_more (wpAny_mono (h A env G s c) (fun v s₁ ⟨k₁, r₁⟩ => wpAny_mono (hs pos A env _ s₁ (c.on k₁)) (fun vs s₂ ⟨k₂, r₂⟩ => ?_) fun _ _ x => x) fun _ _ x => x) (he env)
  exact ⟨kTrans k₁ k₂, .cons (see k₁ k₂ (stay c.sub k₁ k₂ r₁)) (seeAll k₁ k₂ r₂)⟩

theorem Rd.newList {G : PM} {s : Shared} {vs : List Value} {ds : List PyData} {tk : Nat} (c : Sub G s.heap) (r : RdAll G vs ds) (k : Nat := 0) :
    Rd (Ext G s.heap ({ s with heap := s.heap.push { cls := .type "list", data := .seq vs.toArray k }, toks := tk } : Shared).heap) (.ref s.heap.objs.size) (.list ds) :=
  .list (o := { cls := .type "list", data := .seq vs.toArray k }) (by rw [Ext.new (size_none _)]; exact push_new _ _ rfl) rfl rfl (by simpa using r.mono (Ext.le c))
theorem Rd.newTuple {G : PM} {s : Shared} {vs : List Value} {ds : List PyData} {tk : Nat} (c : Sub G s.heap) (r : RdAll G vs ds) :
    Rd (Ext G s.heap ({ s with heap := s.heap.push { cls := .type "tuple", data := .seq vs.toArray }, toks := tk } : Shared).heap) (.ref s.heap.objs.size) (.tuple ds) :=
  .tuple (o := { cls := .type "tuple", data := .seq vs.toArray }) (by rw [Ext.new (size_none _)]; exact push_new _ _ rfl) rfl rfl (by simpa using r.mono (Ext.le c))

theorem Ev.tuple {es : List Expr} {k : Nat} {pos : Pos} {ds : List PyData} (h : EvL prog w h₀ n sc Γ O es ds) (hz : ds.length ≤ sizeLine := by simp [sizeLine]) : Ev prog w h₀ n sc Γ O (.Tuple es k pos) (.tuple ds) := by
  intro A env G s c
  refine wpAny_Tuple (wpAny_mono (h pos A env G s c) (fun vs s₁ ⟨k₁, r₁⟩ => ⟨by rw [r₁.length]; exact hz, kTrans k₁ (kHeap s₁ s₁.toks (push_kp _ _)), ?_⟩) fun _ _ x => x)
  exact see k₁ (kHeap s₁ s₁.toks (push_kp _ _)) (Rd.newTuple (c.on k₁).sub r₁)
theorem Ev.list {es : List Expr} {pos : Pos} {ds : List PyData} (h : EvL prog w h₀ n sc Γ O es ds) (hz : ds.length ≤ sizeLine := by simp [sizeLine]) : Ev prog w h₀ n sc Γ O (.List es pos) (.list ds) := by
  intro A env G s c
  refine wpAny_List_spliced (wpAny_mono (h pos A env G s c) (fun vs s₁ ⟨k₁, r₁⟩ => ⟨by rw [r₁.length]; exact hz, kTrans k₁ (kHeap s₁ s₁.toks (push_kp _ _)), ?_⟩) fun _ _ x => x)
  exact see k₁ (kHeap s₁ s₁.toks (push_kp _ _)) (Rd.newList (c.on k₁).sub r₁)

/-! items -/
theorem Ev.item {e i : Expr} {pos : Pos} {xs : List PyData} {k : Int} {d : PyData} (h : Ev prog w h₀ n sc Γ O e (.list xs)) (hi : Ev prog w h₀ n sc Γ O i (.int k)) (h0 : 0 ≤ k) (hk : k < 2 ^ 63) (hx : xs[k.toNat]? = some d)
    (hs : ∀ o u, subscripted i false (.ref o) (.int k u) = operate [.ref o, .int k u] (getItem (.ref o) (.int k u)) := by intro _ _; with_unfolding_all rfl) : Ev prog w h₀ n sc Γ O (.Subscript e i pos) d := by
  intro A env G s c
  refine Subscript_ (wpAny_mono (h A env G s c) (fun v₁ s₁ ⟨k₁, r₁⟩ => wpAny_mono (hi A env _ s₁ (c.on k₁)) (fun v₂ s₂ ⟨k₂, r₂⟩ => ?_) fun _ _ x => x) fun _ _ x => x)
  have c₂ := (c.on k₁).on k₂
  obtain ⟨a, o, vs, m, rfl, ea, hc, hd, rr⟩ := (stay c.sub k₁ k₂ r₁).listAt
  obtain ⟨u, rfl⟩ := r₂.intAt
  obtain ⟨v, hv, rv⟩ := rr.get hx
  refine item_listR (items := vs) ⟨o, c₂.sub _ _ ea, hc, m, hd⟩ h0 hk (by rw [← hv]; simp) (by exact ⟨kTrans k₁ k₂, see k₁ k₂ rv⟩) (hs a u)
theorem Ev.itemO {x : Str} {b : Bool} {ds : List PyData} {p : Pos} {i : Expr} {pos : Pos} {k : Int} {d : PyData} (hi : Ev prog w h₀ n sc Γ (some (x, b, ds)) i (.int k)) (h0 : 0 ≤ k) (hk : k < 2 ^ 63) (hx : ds[k.toNat]? = some d) (hd : (x == ("__debug__" : Str)) = false := by decide)
    (hs : ∀ o u, subscripted i false (.ref o) (.int k u) = operate [.ref o, .int k u] (getItem (.ref o) (.int k u)) := by intro _ _; with_unfolding_all rfl) : Ev prog w h₀ n sc Γ (some (x, b, ds)) (.Subscript (.Name x p) i pos) d := by
  intro A env G s c
  obtain ⟨F, vs, l, hF, r⟩ := c.satO x b ds rfl
  refine Subscript_ (wpAny_Name (l.here ?_) hd)
  refine wpAny_mono (hi A env _ s c) (fun v₂ s₂ ⟨k₂, r₂⟩ => ?_) fun _ _ x => x
  obtain ⟨u, rfl⟩ := r₂.intAt
  obtain ⟨v, hv, rv⟩ := r.get hx
  refine item_listR (items := vs) (hF.at fun o q => kKp k₂ _ o q) h0 hk (by rw [← hv]; simp) (by exact ⟨k₂, rv.mono (Ext.le c.sub)⟩) (hs F u)
theorem Ev.itemN {e i : Expr} {pos : Pos} {xs : List PyData} {k : Int} {d : PyData} (h : Ev prog w h₀ n sc Γ O e (.list xs)) (hi : Ev prog w h₀ n sc Γ O i (.int k)) (h0 : k < 0) (h1 : -(xs.length : Int) ≤ k) (hk : -(2 ^ 63) ≤ k) (hx : xs[(k + xs.length).toNat]? = some d)
    (hs : ∀ o u, subscripted i false (.ref o) (.int k u) = operate [.ref o, .int k u] (getItem (.ref o) (.int k u)) := by intro _ _; with_unfolding_all rfl) : Ev prog w h₀ n sc Γ O (.Subscript e i pos) d := by
  intro A env G s c
  refine Subscript_ (wpAny_mono (h A env G s c) (fun v₁ s₁ ⟨k₁, r₁⟩ => wpAny_mono (hi A env _ s₁ (c.on k₁)) (fun v₂ s₂ ⟨k₂, r₂⟩ => ?_) fun _ _ x => x) fun _ _ x => x)
  have c₂ := (c.on k₁).on k₂
  obtain ⟨a, o, vs, m, rfl, ea, hc, hd, rr⟩ := (stay c.sub k₁ k₂ r₁).listAt
  obtain ⟨u, rfl⟩ := r₂.intAt
  obtain ⟨v, hv, rv⟩ := rr.get hx
  have hsz : vs.size = xs.length := by rw [← rr.length]; simp
  have hl : s₂.heap.IsList a vs := ⟨o, c₂.sub _ _ ea, hc, m, hd⟩
  exact subscriptTail_builtinR hl.typeIs slot_list_getitem.lookup (wpAny_getItem_list_neg (Q := fun r s' => r = v ∧ _) hl h0 (by rw [hsz]; exact h1) hk (by rw [hsz, ← hv]; simp) (by exact ⟨rfl, kTrans k₁ k₂, see k₁ k₂ rv⟩)) (hs a u)
theorem Ev.itemT {e i : Expr} {pos : Pos} {xs : List PyData} {k : Int} {d : PyData} (h : Ev prog w h₀ n sc Γ O e (.tuple xs)) (hi : Ev prog w h₀ n sc Γ O i (.int k)) (h0 : 0 ≤ k) (hk : k < 2 ^ 63) (hx : xs[k.toNat]? = some d)
    (hs : ∀ o u, subscripted i false (.ref o) (.int k u) = operate [.ref o, .int k u] (getItem (.ref o) (.int k u)) := by intro _ _; with_unfolding_all rfl) : Ev prog w h₀ n sc Γ O (.Subscript e i pos) d := by
  intro A env G s c
  refine Subscript_ (wpAny_mono (h A env G s c) (fun v₁ s₁ ⟨k₁, r₁⟩ => wpAny_mono (hi A env _ s₁ (c.on k₁)) (fun v₂ s₂ ⟨k₂, r₂⟩ => ?_) fun _ _ x => x) fun _ _ x => x)
  have c₂ := (c.on k₁).on k₂
  obtain ⟨a, o, vs, m, rfl, ea, hc, hd, rr⟩ := (stay c.sub k₁ k₂ r₁).tupleAt
  obtain ⟨u, rfl⟩ := r₂.intAt
  obtain ⟨v, hv, rv⟩ := rr.get hx
  have hsz : vs.size = xs.length := by rw [← rr.length]; simp
  have hlt : k.toNat < xs.length := by
    rcases Nat.lt_or_ge k.toNat xs.length with q | q
    · exact q
    · rw [List.getElem?_eq_none q] at hx; cases hx
  have hT : IsTup s₂.heap a vs := ⟨o, c₂.sub _ _ ea, hc, m, hd⟩
  exact subscriptTail_builtinR hT.typeIs slot_tuple_getitem.lookup (getItem_tuple (Q := fun r s' => r = v ∧ _) hT (by lia) hk (j := k.toNat) (by unfold seqIndex?; rw [hsz]; simp; lia) (by rw [← hv]; simp) (by exact ⟨rfl, kTrans k₁ k₂, see k₁ k₂ rv⟩)) (hs a u)
end
end Mine

/-! part Fw3 -/
namespace Mine
open PySem PySem.W PyProof.Rows

section
variable {prog : Program} {w : World} {h₀ : Heap} {n : Nat} {sc : Scope} {Γ : Gam} {O : Own} {Pg : Program} {mg : Str → Option Value}

/-! names of the module and built-in ones -/
theorem load_main (W : Wd Pg mg h₀) {env : Env} (ok : EnvOk env) {x : Str} {v : Value} (e : mg x = some v) (hx : env.kindOf x = some .globalImplicit) (hd : (x == ("__debug__" : Str)) = false)
    {A : Around} {G : PM} {s : Shared} (b : Le h₀.get? G) (c : Sub G s.heap) {pos : Pos} {Q : Value → Shared → Prop} {E : Value → Shared → Prop} (h : Q v s) : wpAny (model prog w) A (eval (.Name x pos) env) Q E s := by
  have k : Kp h₀ s.heap := fun a o e => c a o (b a o e)
  exact Calls.Name_function_global ok.k hx (Calls.loadGlobal_global (by rw [ok.g]; exact W.g.keeps k) e h) hd
theorem load_blt (W : Wd Pg mg h₀) {env : Env} (ok : EnvOk env) {x : Str} {v : Value} (e : x ∈ bltNames) (hv : bootBuiltins x = some v) (hn : x ≠ "__name__") (hx : env.kindOf x = some .globalImplicit) (hd : (x == ("__debug__" : Str)) = false)
    {A : Around} {G : PM} {s : Shared} (b : Le h₀.get? G) (c : Sub G s.heap) {pos : Pos} {Q : Value → Shared → Prop} {E : Value → Shared → Prop} (h : Q v s) : wpAny (model prog w) A (eval (.Name x pos) env) Q E s := by
  obtain ⟨mb, hb, hm⟩ := W.b
  have k : Kp h₀ s.heap := fun a o e => c a o (b a o e)
  exact Calls.Name_function_global ok.k hx (Calls.loadGlobal_builtin (by rw [ok.g]; exact W.g.keeps k) (W.free x e) (by rw [ok.b]; exact hb.keeps k) ((hm x hn).trans hv) h) hd

theorem Ev.glob (W : Wd Pg mg h₀) {x : Str} {pos : Pos} {d : PyData} (r : ∃ v, mg x = some v ∧ Rd h₀.get? v d) (hx : sc.names.lookup x = some .globalImplicit) (hd : (x == ("__debug__" : Str)) = false := by decide) :
    Ev prog w h₀ n sc Γ O (.Name x pos) d := by
  intro A env G s c
  obtain ⟨v, e, r⟩ := r
  refine load_main W c.ok e (by unfold Env.kindOf; rw [c.scope]; exact hx) hd c.base c.sub ?_
  exact ⟨kRefl s, r.mono fun a o e => Ext.le c.sub a o (c.base a o e)⟩

/-- a call of a def of the text -/
theorem Ev.call (W : Wd Pg mg h₀) {x : Str} {p pos : Pos} {e : Expr} {es : List Expr} {ds : List PyData} {d : PyData} {m : Nat} (F : FnAt mg h₀ x) (hx : sc.names.lookup x = some .globalImplicit)
    (C : Con prog w h₀ m (fv mg x) ds d) (hs : EvL prog w h₀ n sc Γ O (e :: es) ds) (hm : m ≤ n) (hd : (x == ("__debug__" : Str)) = false := by decide)
    (he : ∀ env, starEach (e :: es) env = (false, eval e env) :: starEach es env := by intro _; rfl) : Ev prog w h₀ n sc Γ O (.Call (.Name x p) (e :: es) [] pos) d := by
  intro A env G s c
  obtain ⟨a, o, fd, en, ho, hf⟩ := F
  have ev : fv mg x = .ref a := by unfold fv; rw [en]; rfl
  rw [ev] at C
  refine Call_ (load_main W c.ok en (by unfold Env.kindOf; rw [c.scope]; exact hx) hd c.base c.sub ?_)
  refine callWith_def hf (wpAny_mono (hs pos A env G s c) (fun vs s₁ ⟨k₁, r₁⟩ => ⟨?_, ?_⟩) fun _ _ x => x) (he env)
  · exact kKp k₁ _ _ (c.sub _ _ (c.base _ _ ho))
  · exact wpAny_mono (C A _ s₁ vs (c.room.le hm) (c.on k₁).sub (c.on k₁).base r₁) (fun v s₂ ⟨k₂, r₂⟩ => ⟨kTrans k₁ k₂, see k₁ k₂ r₂⟩) fun _ _ x => x
theorem Ev.callB (W : Wd Pg mg h₀) {x : Str} {p pos : Pos} {e : Expr} {es : List Expr} {id : String} {ds : List PyData} {d : PyData} (en : x ∈ bltNames) (hv : bootBuiltins x = some (.builtin id)) (hx : sc.names.lookup x = some .globalImplicit)
    (C : Con prog w h₀ n (.builtin id) ds d) (hs : EvL prog w h₀ n sc Γ O (e :: es) ds) (hn : x ≠ "__name__" := by decide) (hd : (x == ("__debug__" : Str)) = false := by decide)
    (he : ∀ env, starEach (e :: es) env = (false, eval e env) :: starEach es env := by intro _; rfl) (hp : ∀ env, (backTo pos (starEach es env)).any (·.1) = false := by intro _; rfl) : Ev prog w h₀ n sc Γ O (.Call (.Name x p) (e :: es) [] pos) d := by
  intro A env G s c
  refine Call_ (load_blt W c.ok en hv hn (by unfold Env.kindOf; rw [c.scope]; exact hx) hd c.base c.sub ?_)
  refine PyProof.Rows.callWith_builtin1 (wpAny_mono (hs pos A env G s c) (fun vs s₁ ⟨k₁, r₁⟩ => ?_) fun _ _ x => x) (he env) (hp env)
  exact wpAny_mono (C A _ s₁ vs c.room (c.on k₁).sub (c.on k₁).base r₁) (fun v s₂ ⟨k₂, r₂⟩ => ⟨kTrans k₁ k₂, see k₁ k₂ r₂⟩) fun _ _ x => x
theorem Ev.callT (W : Wd Pg mg h₀) {x : Str} {p pos : Pos} {e : Expr} {es : List Expr} {T : String} {ds : List PyData} {d : PyData} (en : x ∈ bltNames) (hv : bootBuiltins x = some (.type T)) (hx : sc.names.lookup x = some .globalImplicit)
    (C : Con prog w h₀ n (.type T) ds d) (hs : EvL prog w h₀ n sc Γ O (e :: es) ds) (hn : x ≠ "__name__" := by decide) (hd : (x == ("__debug__" : Str)) = false := by decide)
    (he : ∀ env, starEach (e :: es) env = (false, eval e env) :: starEach es env := by intro _; rfl) (hp : ∀ env, (backTo pos (starEach es env)).any (·.1) = false := by intro _; rfl) : Ev prog w h₀ n sc Γ O (.Call (.Name x p) (e :: es) [] pos) d := by
  intro A env G s c
  refine Call_ (load_blt W c.ok en hv hn (by unfold Env.kindOf; rw [c.scope]; exact hx) hd c.base c.sub ?_)
  refine PyProof.Rows.callWith_type1 (wpAny_mono (hs pos A env G s c) (fun vs s₁ ⟨k₁, r₁⟩ => ?_) fun _ _ x => x) (he env) (hp env)
  exact wpAny_mono (C A _ s₁ vs c.room (c.on k₁).sub (c.on k₁).base r₁) (fun v s₂ ⟨k₂, r₂⟩ => ⟨kTrans k₁ k₂, see k₁ k₂ r₂⟩) fun _ _ x => x

/-! built-ins -/
theorem Con.abs {i : Int} : Con prog w h₀ n (.builtin "abs") [.int i] (.int (if i < 0 then -i else i)) := by
  intro A G s vs _ _ _ r
  cases r with | cons r rr => cases rr; obtain ⟨t, rfl⟩ := r.intAt; exact call_abs_int fun u tk => ⟨kTok _ _, .int _ _⟩
theorem Con.len {xs : List PyData} (h : xs.length < 2 ^ 62) : Con prog w h₀ n (.builtin "len") [.list xs] (.int xs.length) := by
  intro A G s vs _ c _ r
  cases r with
  | cons r rr =>
    cases rr
    obtain ⟨a, o, us, m, rfl, ea, hc, hd, q⟩ := r.listAt
    have e : us.size = xs.length := by rw [← q.length]; simp
    rw [← e]
    refine len_list (items := us) ⟨o, c _ _ ea, hc, m, hd⟩ (by lia) ?_
    exact ⟨kTok _ _, .int _ _⟩
theorem Con.max {i j : Int} : Con prog w h₀ n (.builtin "max") [.int i, .int j] (.int (if j > i then j else i)) := by
  intro A G s vs q _ _ r
  cases r with
  | cons r rr =>
    cases rr with
    | cons r' rr =>
      cases rr
      obtain ⟨t, rfl⟩ := r.intAt; obtain ⟨u, rfl⟩ := r'.intAt
      refine max_two_ints q.handled fun h' tk hk => ⟨⟨h', tk, rfl, hk⟩, ?_⟩
      split
      · exact .int _ _
      · exact .int _ _
theorem Con.list {xs : List PyData} (h : xs.length ≤ sizeLine) : Con prog w h₀ n (.type "list") [.list xs] (.list xs) := by
  intro A G s vs _ c _ r
  cases r with
  | cons r rr =>
    cases rr
    obtain ⟨a, o, us, m, rfl, ea, hc, hd, q⟩ := r.listAt
    have e : us.size = xs.length := by rw [← q.length]; simp
    refine call_list_seq (items := us) (n := m) a (.inl rfl) (c _ _ ea) hc hd (fun h' c' hk hD => ?_) (by rw [e]; exact h)
    exact ⟨⟨h', s.toks, rfl, hk⟩, .list (by rw [Ext.new (size_none _)]; exact hD) rfl rfl (q.mono (Ext.le c))⟩

/-! tests -/
theorem Tst.and {e₁ e₂ : Expr} {pos : Pos} {b₁ b : Bool} (h₁ : Tst prog w h₀ n sc Γ O e₁ b₁) (h₂ : b₁ = true → Tst prog w h₀ n sc Γ O e₂ b) : Tst prog w h₀ n sc Γ O (.BoolOp .And [e₁, e₂] pos) (b₁ && b) := by
  intro A env G s c
  refine isTrue_and (wpAny_mono (h₁ A env G s c) (fun v s₁ ⟨k₁, r₁⟩ => ?_) fun _ _ x => x)
  subst r₁
  cases v with
  | false => exact ⟨k₁, rfl⟩
  | true =>
    refine isTrue_and (wpAny_mono (h₂ rfl A env _ s₁ (c.on k₁)) (fun v s₂ ⟨k₂, r₂⟩ => ?_) fun _ _ x => x)
    subst r₂
    cases v with
    | false => exact ⟨kTrans k₁ k₂, rfl⟩
    | true => exact isTrue_and_nil (by exact ⟨kTrans k₁ k₂, rfl⟩)
theorem Tst.or {e₁ e₂ : Expr} {pos : Pos} {b₁ b : Bool} (h₁ : Tst prog w h₀ n sc Γ O e₁ b₁) (h₂ : b₁ = false → Tst prog w h₀ n sc Γ O e₂ b) : Tst prog w h₀ n sc Γ O (.BoolOp .Or [e₁, e₂] pos) (b₁ || b) := by
  intro A env G s c
  refine isTrue_or (wpAny_mono (h₁ A env G s c) (fun v s₁ ⟨k₁, r₁⟩ => ?_) fun _ _ x => x)
  subst r₁
  cases v with
  | true => exact ⟨k₁, rfl⟩
  | false =>
    refine isTrue_or (wpAny_mono (h₂ rfl A env _ s₁ (c.on k₁)) (fun v s₂ ⟨k₂, r₂⟩ => ?_) fun _ _ x => x)
    subst r₂
    cases v with
    | true => exact ⟨kTrans k₁ k₂, rfl⟩
    | false => exact isTrue_or_nil (by exact ⟨kTrans k₁ k₂, rfl⟩)

/-! slices -/
/-- one end of a slice -/
def EvP (prog : Program) (w : World) (h₀ : Heap) (n : Nat) (sc : Scope) (Γ : Gam) (O : Own) (e : Option Expr) (i : Option Int) : Prop :=
  match e, i with
  | none, none => True
  | some e, some i => Ev prog w h₀ n sc Γ O e (.int i)
  | _, _ => False
theorem EvP.run {e : Option Expr} {i : Option Int} (h : EvP prog w h₀ n sc Γ O e i) {A : Around} {env : Env} {G : PM} {s : Shared} (c : Cx prog w h₀ n sc Γ O A env G s) :
    wpAny (model prog w) A (evalPart e env) (fun v s' => Keeps s s' ∧ IsPart v i) Fls s := by
  cases e with
  | none => cases i with
    | none => rw [evalPart_none]; exact wpAny_pure ⟨kRefl _, .none⟩
    | some i => exact h.elim
  | some e => cases i with
    | none => exact h.elim
    | some i =>
      rw [evalPart_some]
      refine wpAny_mono (h A env G s c) (fun v s' ⟨k, r⟩ => ⟨k, ?_⟩) fun _ _ x => x
      obtain ⟨t, rfl⟩ := r.intAt
      exact .int _ _
theorem tail_slice {A : Around} {E : Value → Shared → Prop} {s : Shared} {value : Expr} {lo up : Option Expr} {p : Pos} {o i : Value} {T id : String} {Q : Value → Shared → Prop} (hT : s.TypeIs o T)
    (hl : typeLookup (.type T) "__getitem__" = pure (some (.builtin id))) (h : wpAny (model prog w) A (getItem o i) Q E s) :
    wpAny (model prog w) A (subscriptTail value (.Slice lo up none p) o i) Q E s := by
  unfold subscriptTail
  refine wpAny_bind ?_
  rw [getitemInPython_of_ne hT.not_modules]
  refine wpAny_bind (wpAny_specialOf hT hl ?_)
  have fin : wpAny (model prog w) A (subscripted (.Slice lo up none p) false o i) (fun r s₃ => wpAny (model prog w) A (letTemporaryGo value o r >>= fun _ => pure r) Q E s₃) E s := by
    rw [show subscripted (.Slice lo up none p) false o i = operate [i, o] (getItem o i) from rfl]
    exact wpAny_operating (wpAny_mono h (fun r s₃ h₃ => wpAny_bind (wpAny_letTemporaryGo (wpAny_pure h₃))) fun _ _ x => x)
  first
    | exact wpAny_pure (wpAny_bind fin)
    | exact wpAny_bind (wpAny_pure (wpAny_bind fin))
    | exact wpAny_bind fin
theorem Ev.slice {e : Expr} {lo up : Option Expr} {p pos : Pos} {xs : List PyData} {i j : Option Int} {a b : Nat} (h : Ev prog w h₀ n sc Γ O e (.list xs)) (hl : EvP prog w h₀ n sc Γ O lo i) (hu : EvP prog w h₀ n sc Γ O up j)
    (hb : sliceBounds i j none xs.length = ((a : Int), (b : Int), 1)) (hz : xs.length ≤ sizeLine) : Ev prog w h₀ n sc Γ O (.Subscript e (.Slice lo up none p) pos) (.list ((xs.drop a).take (b - a))) := by
  intro A env G s c
  refine Subscript_ (wpAny_mono (h A env G s c) (fun v₁ s₁ ⟨k₁, r₁⟩ => ?_) fun _ _ x => x)
  refine wpAny_Slice (wpAny_mono (hl.run (c.on k₁)) (fun vl s₂ ⟨k₂, r₂⟩ => wpAny_mono (hu.run ((c.on k₁).on k₂)) (fun vu s₃ ⟨k₃, r₃⟩ => ?_) fun _ _ x => x) fun _ _ x => x)
  rw [evalPart_none]
  refine wpAny_pure ?_
  have c₃ := ((c.on k₁).on k₂).on k₃
  obtain ⟨l, o, vs, m, rfl, ea, hc, hd, rr⟩ := (stay (c.on k₁).sub k₂ k₃ (stay c.sub k₁ k₂ r₁)).listAt
  have hz' : vs.size = xs.length := by rw [← rr.length]; simp
  have hL : s₃.heap.IsList l vs := ⟨o, c₃.sub _ _ ea, hc, m, hd⟩
  have k := kTrans (kTrans k₁ k₂) k₃
  have rr' : RdAll (Ext G s.heap s₃.heap) vs.toList xs := rr.mono ((Ext.mono (Ext.trans (kKp k₁) (kKp k₂))).trans (Ext.trans (kKp (kTrans k₁ k₂)) (kKp k₃)))
  have hT := Heap.IsList.typeIs (s := { s₃ with heap := s₃.heap.push { cls := .type "slice", data := .fields #[vl, vu, .none] } }) (hL.push _)
  refine tail_slice hT list_getitem_lookup (wpAny_getItem_list_slice (hL.push _) (Heap.IsSliceOf.new ..) r₂ r₃ .none (by simp) ?_ (by rw [hz']; exact hz))
  rw [← hz'] at hb
  rw [kmk_pick_nat _ hb]
  have kp : Kp s₃.heap ((s₃.heap.push { cls := .type "slice", data := .fields #[vl, vu, .none] }).push { cls := .type "list", data := .seq ((vs.toList.drop a).take (b - a)).toArray }) := (push_kp _ _).trans (push_kp _ _)
  refine ⟨kTrans k (kHeap s₃ _ kp), .list (o := { cls := .type "list", data := .seq ((vs.toList.drop a).take (b - a)).toArray }) ?_ rfl rfl ?_⟩
  · have hn : s.heap.get? (s₃.heap.push { cls := .type "slice", data := .fields #[vl, vu, .none] }).objs.size = none := by
      cases q : s.heap.get? (s₃.heap.push { cls := .type "slice", data := .fields #[vl, vu, .none] }).objs.size with
      | none => rfl
      | some o' =>
        have := Heap.lt_size (kKp k _ _ q)
        rw [Heap.size_push] at this
        exact absurd this (Nat.not_lt.mpr (Nat.le_succ _))
    rw [Ext.new hn]
    exact push_new _ _ rfl
  · have := (rr'.drop a).take (b - a)
    exact this.mono (fun x o' e => Ext.trans (kKp k) kp x o' (Ext.le (Ext.sub c.sub (kKp k)) x o' e))
end
end Mine

/-! part Fw4 -/
namespace Mine
open PySem PySem.W PyProof.Rows

def Cut (G : PM) (l : List Addr) : PM := fun a => if a ∈ l then none else G a
theorem Cut.le {G : PM} {l : List Addr} : Le (Cut G l) G := fun a o e => by
  unfold Cut at e; split at e
  · cases e
  · exact e
theorem Cut.off {G : PM} {l : List Addr} {a : Addr} (h : a ∉ l) : Cut G l a = G a := by unfold Cut; rw [if_neg h]
theorem Cut.on {G : PM} {l : List Addr} {a : Addr} (h : a ∈ l) : Cut G l a = none := by unfold Cut; rw [if_pos h]
/-- what was seen ahead of the new ones -/
theorem Cut.keep {G G' : PM} {l : List Addr} {h : Heap} (c : Sub G h) (e : Le G G') (hn : ∀ a ∈ l, h.get? a = none) : Le G (Cut G' l) := fun a o q => by
  rw [Cut.off]
  · exact e a o q
  · intro m
    have := c a o q
    rw [hn a m] at this
    cases this

section
variable {prog : Program} {w : World} {h₀ : Heap} {n : Nat} {sc : Scope} {Γ : Gam} {O : Own} {Pg : Program} {mg : Str → Option Value}

/-- an expression whose worth is a list that nothing else holds -/
def EvF (prog : Program) (w : World) (h₀ : Heap) (n : Nat) (sc : Scope) (Γ : Gam) (O : Own) (e : Expr) (ds : List PyData) : Prop :=
  ∀ A env G s, Cx prog w h₀ n sc Γ O A env G s → wpAny (model prog w) A (eval e env) (fun v s' => Keeps s s' ∧ ∃ F vs j, v = .ref F ∧ s.heap.get? F = none ∧ s'.heap.get? F = some ({ cls := .type "list", data := .seq vs j } : Obj) ∧ RdAll (Cut (Ext G s.heap s'.heap) [F]) vs.toList ds) Fls s

theorem EvF.ev {e : Expr} {ds : List PyData} (h : EvF prog w h₀ n sc Γ O e ds) : Ev prog w h₀ n sc Γ O e (.list ds) := by
  intro A env G s c
  refine wpAny_mono (h A env G s c) (fun v s' ⟨k, F, vs, m, hv, hn, hF, r⟩ => ⟨k, ?_⟩) fun _ _ x => x
  subst hv
  exact .list (by rw [Ext.new hn]; exact hF) rfl rfl (r.mono Cut.le)

theorem EvF.list {es : List Expr} {pos : Pos} {ds : List PyData} (h : EvL prog w h₀ n sc Γ O es ds) (hz : ds.length ≤ sizeLine := by simp [sizeLine]) : EvF prog w h₀ n sc Γ O (.List es pos) ds := by
  intro A env G s c
  refine wpAny_List_spliced (wpAny_mono (h pos A env G s c) (fun vs s₁ ⟨k₁, r₁⟩ => ⟨by rw [r₁.length]; exact hz, kTrans k₁ (kHeap s₁ s₁.toks (push_kp _ _)), ?_⟩) fun _ _ x => x)
  refine ⟨_, vs.toArray, 0, rfl, ?_, push_new _ _ rfl, ?_⟩
  · cases q : s.heap.get? s₁.heap.objs.size with
    | none => rfl
    | some o => have := kKp k₁ _ _ q; rw [size_none] at this; cases this
  · have := r₁.mono (Cut.keep (G' := Ext G s.heap (s₁.heap.push { cls := .type "list", data := .seq vs.toArray })) (l := [s₁.heap.objs.size]) (c.on k₁).sub (fun a o e => Ext.trans (kKp k₁) (push_kp _ _) a o (Ext.le (c.on k₁).sub a o e)) (fun a m => by rw [List.mem_singleton.mp m]; exact size_none _))
    simpa using this

theorem arr1 : ∀ {vs : Array Value}, vs.toList.length = 1 → ∃ v, vs = #[v]
  | ⟨[v]⟩, _ => ⟨v, rfl⟩
/-- the items of one list, many times -/
theorem fold_rep (v : Value) : ∀ (k : Nat) (acc : Array Value), List.foldl (fun x1 x2 => x1 ++ x2) acc (List.replicate k #[v]) = acc ++ (List.replicate k v).toArray
  | 0, acc => by simp
  | k + 1, acc => by
    rw [List.replicate_succ, List.foldl_cons, fold_rep v k, List.replicate_succ]
    apply Array.toList_inj.mp
    simp

theorem EvF.rep {e e₂ : Expr} {p pos : Pos} {d : PyData} {k : Int} (h : EvL prog w h₀ n sc Γ O [e] [d]) (h₂ : Ev prog w h₀ n sc Γ O e₂ (.int k)) (hlo : -(2 ^ 63 : Int) ≤ k) (hz : k ≤ 2 ^ 24) : EvF prog w h₀ n sc Γ O (.BinOp (.List [e] p) .Mult e₂ pos) (List.replicate k.toNat d) := by
  intro A env G s c
  have hL : EvF prog w h₀ n sc Γ O (.List [e] p) [d] := EvF.list h (by simp [sizeLine])
  refine wpAny_BinOp (wpAny_mono (hL A env G s c) (fun v₁ s₁ ⟨k₁, F, vs, m, hv, hn, hF, r₁⟩ => wpAny_mono (h₂ A env _ s₁ (c.on k₁)) (fun v₂ s₂ ⟨k₂, r₂⟩ => ?_) fun _ _ x => x) fun _ _ x => x)
  subst hv
  obtain ⟨t, rfl⟩ := r₂.intAt
  have hF₂ := kKp k₂ _ _ hF
  obtain ⟨v, hv⟩ := arr1 r₁.length
  subst hv
  have kk := kTrans k₁ k₂
  have c₂ := (c.on k₁).on k₂
  have fin : ∀ arr : Array Value, arr = (List.replicate k.toNat v).toArray → (fun (v : Value) (s' : Shared) => Keeps s s' ∧ ∃ F vs j, v = .ref F ∧ s.heap.get? F = none ∧ s'.heap.get? F = some ({ cls := .type "list", data := .seq vs j } : Obj) ∧ RdAll (Cut (Ext G s.heap s'.heap) [F]) vs.toList (List.replicate k.toNat d))
      (.ref s₂.heap.objs.size) { s₂ with heap := s₂.heap.push { cls := .type "list", data := .seq arr } } := by
    intro arr ha
    subst ha
    refine ⟨kTrans kk (kHeap s₂ s₂.toks (push_kp _ _)), _, _, 0, rfl, ?_, push_new _ _ rfl, ?_⟩
    · cases q : s.heap.get? s₂.heap.objs.size with
      | none => rfl
      | some o => have := kKp kk _ _ q; rw [size_none] at this; cases this
    · cases r₁ with
      | cons rv _ =>
        have r₂ : Rd (Ext G s.heap s₂.heap) v d := see k₁ k₂ (stay c.sub k₁ k₂ (rv.mono Cut.le))
        have := (RdAll.replicate r₂ k.toNat).mono (Cut.keep (G' := Ext G s.heap (s₂.heap.push { cls := .type "list", data := .seq (List.replicate k.toNat v).toArray })) (l := [s₂.heap.objs.size]) (Ext.sub c.sub (kKp kk)) (fun a o e => Ext.trans (kKp kk) (push_kp _ _) a o (Ext.le (Ext.sub c.sub (kKp kk)) a o e)) (fun a m => by rw [List.mem_singleton.mp m]; exact size_none _))
        simpa using this
  have hsz : (#[v] : Array Value).size * k.toNat ≤ 2 ^ 24 := by simp; lia
  refine wpAny_binaryOp_repeat_ref (T := "list") (U := "int") (by decide) ⟨_, hF₂, rfl⟩ (fun s' => typeIs_int s' k t) noFill_list_mul PySem.F.fills_int_mul PySem.F.slot_int_rmul repeat_list PySem.F.slot_int_index.lookup
    (call_meets PySem.F.slot_int_rmul (typeIs_int s₂ k t) PySem.F.entry_int_rmul (PySem.F.args_int_rmul_2 _ _) (int___rmul___int_list k t F #[v] m)
      ⟨hF₂, rfl, ⟨_, hF₂, rfl⟩, call_meets PySem.F.slot_list_mul ⟨_, hF₂, rfl⟩ PySem.F.entry_list_mul (PySem.F.args_list_mul_2 _ _)
        (AutoListH.list___mul___list_int_3 F #[v] m k t (by simp [Builtin.List.listFitsIndex]; lia) (by lia) (by simp [Builtin.List.listTooLong, sizeLine]; lia))
        ⟨hF₂, fin _ ?_⟩⟩)
  rw [if_neg (by simp), fold_rep]
  simp

theorem Ev.cat {e₁ e₂ : Expr} {pos : Pos} {xs ys : List PyData} (h₁ : Ev prog w h₀ n sc Γ O e₁ (.list xs)) (h₂ : Ev prog w h₀ n sc Γ O e₂ (.list ys)) (hz : xs.length + ys.length ≤ sizeLine) : Ev prog w h₀ n sc Γ O (.BinOp e₁ .Add e₂ pos) (.list (xs ++ ys)) := by
  refine Ev.bin h₁ h₂ ?_
  intro A G s v₁ v₂ _ c r₁ r₂
  obtain ⟨l, ⟨cls, dd, data, sl⟩, vs, m, rfl, ea, hc, hd, rr⟩ := r₁.listAt
  obtain ⟨b, ⟨cls2, dd2, data2, sl2⟩, ws, m2, rfl, ea2, hc2, hd2, rr2⟩ := r₂.listAt
  simp only at hc hd hc2 hd2
  subst hc hd hc2 hd2
  have ho := c _ _ ea
  have ho2 := c _ _ ea2
  refine concat_meets ⟨_, ho, rfl⟩ ⟨_, ho2, rfl⟩ noFill_list_add seq_list_add PySem.F.slot_list_add PySem.F.entry_list_add (PySem.F.args_list_add_2 _ _) (list_addW l b vs ws m m2 dd dd2 sl sl2 (by have e1 := rr.length; have e2 := rr2.length; simp at e1 e2; lia)) ⟨ho, ho2, ?_⟩
  refine ⟨kHeap s s.toks (push_kp _ _), .list (o := { cls := .type "list", data := .seq (vs ++ ws) }) (by rw [Ext.new (size_none _)]; exact push_new _ _ rfl) rfl rfl ?_⟩
  rw [Array.toList_append]
  exact (RdAll.append rr2 rr).mono (Ext.le c)
end
end Mine

/-! part Fw5 -/
namespace Mine
open PySem PySem.W PyProof.Rows

/-! iteration: what a turn binds -/
structure BindOk (G : PM) (ns : List Str) (ds : List PyData) (m m' : Str → Option Value) : Prop where
  here : ∀ x d, (ns.zip ds).lookup x = some d → ∃ v, m' x = some v ∧ Rd G v d
  rest : ∀ x, x ∉ ns → m' x = m x

structure Itr (prog : Program) (w : World) (A : Around) (I : Addr) (wr : List Addr) (N : Nat) (St : Nat → Heap → Prop) (tg : Expr) (ns : List Str) (bs : Nat → List PyData) (G : PM) : Prop where
  live : ∀ i h, St i h → ∀ b ∈ wr, ∃ o, h.get? b = some o
  frame : ∀ i h h', St i h → (∀ b ∈ wr, ∀ o, h.get? b = some o → h'.get? b = some o) → St i h'
  item : ∀ i env m (s : Shared) (Q : Unit → Shared → Prop) (E : Value → Shared → Prop), i < N → St i s.heap → Sub G s.heap → G env.locals = none → env.locals ∉ wr → EnvOk env → (∀ x ∈ ns, env.kindOf x = some .local) → s.heap.Ns env.locals m →
    (∀ h tk m', St (i + 1) h → BindOk G ns (bs i) m m' → h.Ns env.locals m' → (∀ b o, b ≠ env.locals → b ∉ wr → s.heap.get? b = some o → h.get? b = some o) → Q () { s with heap := h, toks := tk }) →
    wpAny (model prog w) A (pyNext (.ref I)) (fun r s₁ => match r with
      | none => False
      | some v => wpAny (model prog w) A (letOwnedTupleGo tg (.ref I) v) (fun _ s₁' => wpAny (model prog w) A (assign tg env v) Q E s₁') E s₁) E s
  done : ∀ (s : Shared) (Q : Shared → Prop) (E : Value → Shared → Prop), St N s.heap → Sub G s.heap → (∀ h tk, (∀ b o, b ∉ wr → s.heap.get? b = some o → h.get? b = some o) → Q { s with heap := h, toks := tk }) →
    wpAny (model prog w) A (pyNext (.ref I)) (fun r s₁ => match r with
      | none => Q s₁
      | some _ => False) E s
  self : ∀ i (s : Shared) (Q : Value → Shared → Prop) (E : Value → Shared → Prop), St i s.heap → Sub G s.heap → Q (.ref I) s → wpAny (model prog w) A (pyIter (.ref I)) Q E s

/-- the names of a target, bound in their order -/
theorem assign_names {M : Model} {A : Around} {env : Env} {G : PM} {wr : List Addr} (hk : env.scope.kind = .function) (hL : env.locals ∉ wr) (hG : G env.locals = none) :
    ∀ (ps : List (Str × Pos)) (vs : List Value) (ds : List PyData) (s : Shared) (m : Str → Option Value) (Q : Unit → Shared → Prop) (E : Value → Shared → Prop), (ps.map (·.1)).Nodup → ps.length = vs.length → RdAll G vs ds →
      (∀ x ∈ ps.map (·.1), env.kindOf x = some .local) → s.heap.Ns env.locals m →
      (∀ h tk m', BindOk G (ps.map (·.1)) ds m m' → h.Ns env.locals m' → Heap.SameBut env.locals s.heap h → Q () { s with heap := h, toks := tk }) →
      wpAny M A (assignInOrder ((assignEach (ps.map fun q => Expr.Name q.1 q.2) env).map (·.2)) vs) Q E s
  | [], vs, ds, s, m, Q, E, _, hl, r, _, hn, h => by
    cases vs with
    | nil =>
      cases r
      exact wpAny_pure (h s.heap s.toks m ⟨fun x d e => by simp at e, fun _ _ => rfl⟩ hn (.refl ..))
    | cons _ _ => cases hl
  | (x, p) :: ps, vs, ds, s, m, Q, E, nd, hl, r, hx, hn, h => by
    cases vs with
    | nil => cases hl
    | cons v vs =>
      cases r with
      | cons rv rr =>
        rename_i d ds
        show wpAny M A (do holding vs (assign (.Name x p) env v); assignInOrder ((assignEach (ps.map fun q => Expr.Name q.1 q.2) env).map (·.2)) vs) Q E s
        refine wpAny_bind (wpAny_holding (wpAny_assign_Name (wpAny_storeName_local (hx x (by simp)) hn (fun h₁ hn₁ hs₁ => ?_) (by rw [hk]; rfl))))
        have nd' := List.nodup_cons.mp (by simpa using nd : (x :: ps.map (·.1)).Nodup)
        refine assign_names hk hL hG ps vs ds _ _ Q E nd'.2 (by simpa using hl) rr (fun y hy => hx y (by simp at hy ⊢; exact .inr hy)) hn₁ fun h₂ tk m' b hn₂ hs₂ => ?_
        refine h h₂ tk m' ⟨fun y d' e => ?_, fun y hy => ?_⟩ hn₂ (hs₁.trans hs₂)
        · simp only [List.map_cons, List.zip_cons_cons, List.lookup_cons] at e
          by_cases q : y = x
          · subst q
            simp at e
            subst e
            exact ⟨v, by rw [b.rest y nd'.1]; simp, rv⟩
          · have q' : (y == x) = false := by simpa using q
            rw [q'] at e
            exact b.here y d' e
        · have hy' : y ≠ x ∧ y ∉ ps.map (·.1) := by simpa using hy
          rw [b.rest y hy'.2, if_neg hy'.1]

theorem local_ok {env : Env} (ok : EnvOk env) : (env.scope.kind == .class || (env.scope.kind == .module && env.locals != env.globals)) = false := by rw [ok.k]; rfl

section
variable {prog : Program} {w : World} {A : Around}
theorem isList_of {G : PM} {h : Heap} {l : Addr} {o : Obj} {vs : Array Value} {k : Nat} (e : G l = some o) (hc : o.cls = .type "list") (hd : o.data = .seq vs k) (c : Sub G h) : h.IsList l vs := ⟨o, c _ _ e, hc, k, hd⟩

/-- a list's items under one name -/
theorem Itr.list (hh : A.handled = none) {G : PM} {I l : Addr} {o : Obj} {vs : Array Value} {k : Nat} {xs : List PyData} {x : Str} {px : Pos} (e : G l = some o) (hc : o.cls = .type "list") (hd : o.data = .seq vs k) (r : RdAll G vs.toList xs) (hI : l ≠ I) :
    Itr prog w A I [I] xs.length (fun i h => h.IsListIter I l i) (.Name x px) [x] (fun i => [xs.getD i .none]) G where
  live := fun i h ⟨o, ho, _⟩ b hb => ⟨o, by rw [List.mem_singleton.mp hb]; exact ho⟩
  frame := fun i h h' ⟨o, ho, q⟩ hk => ⟨o, hk _ (List.mem_singleton.mpr rfl) _ ho, q⟩
  item := fun i env m s Q E hi st c hG hL ok hn nsp hQ => by
    have hsz : vs.size = xs.length := by rw [← r.length]; simp
    have W := Walks.list (prog := prog) (w := w) hh I l hI vs
    obtain ⟨v, hv, rv⟩ := r.get (k := i) (d := xs.getD i .none) (by rw [List.getD_eq_getElem?_getD, List.getElem?_eq_getElem hi]; rfl)
    refine W.item i s _ E (by rw [hsz]; exact hi) ⟨st, isList_of e hc hd c⟩ fun v' h' tk hP hst hk => ?_
    have hvv : v' = v := by
      have h1 : vs[i]? = some v' := hP
      rw [← Array.getElem?_toList, hv] at h1
      exact (Option.some.inj h1).symm
    subst hvv
    refine wpAny_of_eq (show letOwnedTupleGo (.Name x px) (.ref I) v' = pure () from rfl) (wpAny_assign_Name (wpAny_storeName_local (hn x (by simp)) (nsp.at' fun o e => hk _ o hL e) (fun h₂ hn₂ hs₂ => ?_) (local_ok ok)))
    refine hQ h₂ _ _ (hst.1.extBut hs₂.extBut fun q => hL (by rw [← q]; simp)) ⟨fun y d q => ?_, fun y hy => ?_⟩ hn₂ fun b o hb hw q => hs₂.extBut b o hb (hk b o hw q)
    · simp only [List.zip_cons_cons, List.zip_nil_right, List.lookup_cons, List.lookup_nil] at q
      by_cases hy : y = x
      · subst hy; simp at q; subst q; exact ⟨v', by simp, rv⟩
      · have : (y == x) = false := by simpa using hy
        rw [this] at q; cases q
    · have : y ≠ x := by simpa using hy
      simp [this]
  done := fun s Q E st c hQ => by
    have hsz : vs.size = xs.length := by rw [← r.length]; simp
    have W := Walks.list (prog := prog) (w := w) hh I l hI vs
    exact W.done s _ E (by rw [hsz]; exact ⟨st, isList_of e hc hd c⟩) hQ
  self := fun i s Q E st c hQ => by
    have W := Walks.list (prog := prog) (w := w) hh I l hI vs
    exact W.self i s Q E ⟨st, isList_of e hc hd c⟩ hQ

/-- a range's numbers under one name -/
theorem Itr.range (hh : A.handled = none) {G : PM} {I : Addr} {N : Nat} {x : Str} {px : Pos} :
    Itr prog w A I [I] N (fun i h => IsRangeIter h I (0 + (i : Nat) * 1) ((N : Int) - (i : Nat)) 1) (.Name x px) [x] (fun i => [.int i]) G where
  live := fun i h st b hb => by obtain rfl := List.mem_singleton.mp hb; exact ⟨_, st⟩
  frame := fun i h h' st hk => hk _ (List.mem_singleton.mpr rfl) _ st
  item := fun i env m s Q E hi st c hG hL ok hn nsp hQ => by
    have W := Walks.range (prog := prog) (w := w) hh I 0 1 N
    refine W.item i s _ E hi st fun v' h' tk hP hst hk => ?_
    obtain ⟨t, rfl⟩ := hP
    refine wpAny_of_eq (show letOwnedTupleGo (.Name x px) (.ref I) _ = pure () from rfl) (wpAny_assign_Name (wpAny_storeName_local (hn x (by simp)) (nsp.at' fun o e => hk _ o hL e) (fun h₂ hn₂ hs₂ => ?_) (local_ok ok)))
    refine hQ h₂ _ _ (W.frame _ _ _ hst fun b hb o q => hs₂.extBut b o (fun z => hL (by rw [← z]; exact hb)) q) ⟨fun y d q => ?_, fun y hy => ?_⟩ hn₂ fun b o hb hw q => hs₂.extBut b o hb (hk b o hw q)
    · simp only [List.zip_cons_cons, List.zip_nil_right, List.lookup_cons, List.lookup_nil] at q
      by_cases hy : y = x
      · subst hy
        simp at q; subst q
        refine ⟨_, if_pos rfl, ?_⟩
        have : (0 : Int) + (i : Int) * 1 = i := by lia
        rw [this]
        exact .int _ _
      · have : (y == x) = false := by simpa using hy
        rw [this] at q; cases q
    · have : y ≠ x := by simpa using hy
      simp [this]
  done := fun s Q E st c hQ => (Walks.range (prog := prog) (w := w) hh I 0 1 N).done s _ E st hQ
  self := fun i s Q E st c hQ => (Walks.range (prog := prog) (w := w) hh I 0 1 N).self i s Q E st hQ

/-- the pairs of an enumeration -/
theorem Itr.enum (hh : A.handled = none) {G : PM} {e it l : Addr} {o : Obj} {vs : Array Value} {k kk : Nat} {xs : List PyData} {x y : Str} {px py tp : Pos} (eG : G l = some o) (hc : o.cls = .type "list") (hd : o.data = .seq vs k) (r : RdAll G vs.toList xs)
    (hei : e ≠ it) (hle : l ≠ e) (hli : l ≠ it) (hxy : x ≠ y) :
    Itr prog w A e [e, it] xs.length (fun i h => (∃ old, IsEnum h e it i old) ∧ h.IsListIter it l i) (.Tuple [.Name x px, .Name y py] kk tp) [x, y] (fun i => [.int i, xs.getD i .none]) G where
  live := fun i h st b hb => by
    obtain ⟨⟨old, he⟩, ⟨oi, hoi, _⟩⟩ := st
    rcases List.mem_cons.mp hb with rfl | hb
    · exact ⟨_, he⟩
    · obtain rfl := List.mem_singleton.mp hb; exact ⟨_, hoi⟩
  frame := fun i h h' st hk => by
    obtain ⟨⟨old, he⟩, ⟨oi, hoi, q⟩⟩ := st
    exact ⟨⟨old, hk e (by simp) _ he⟩, ⟨oi, hk it (by simp) _ hoi, q⟩⟩
  item := fun i env m s Q E hi st c hG hL ok hn nsp hQ => by
    have hsz : vs.size = xs.length := by rw [← r.length]; simp
    have W := WalksT.enumerate (prog := prog) (w := w) hh e it l hei hle hli vs
    obtain ⟨v, hv, rv⟩ := r.get (k := i) (d := xs.getD i .none) (by rw [List.getD_eq_getElem?_getD, List.getElem?_eq_getElem hi]; rfl)
    have hLn : env.locals < s.heap.objs.size := nsp.lt
    refine W.item i s _ E (by rw [hsz]; exact hi) ⟨st.1, st.2, isList_of eG hc hd c⟩ fun T vals h₁ tk hP hT ht hmid hk₁ => ?_
    obtain ⟨t, v', hx', rfl⟩ := hP
    have hvv : v' = v := by
      rw [← Array.getElem?_toList, hv] at hx'
      exact (Option.some.inj hx').symm
    subst hvv
    refine W.go _ _ _ i T _ _ E hmid fun h₂ hst₂ hk₂ => ?_
    have hTw := W.apart i T h₁ hmid
    have ht₂ : h₂.IsTuple T #[.int i t, v'] := ht.at fun o q => hk₂ T o hTw q
    refine wpAny_assign_Tuple hh ht₂ rfl rfl fun h₃ hx₃ => ?_
    have k₃ : Kp h₂ h₃ := fun b o q => hx₃ b o (Nat.ne_of_lt (Heap.lt_size q)) q
    have up : ∀ b o, b ∉ [e, it] → s.heap.get? b = some o → h₃.get? b = some o := fun b o hw q => k₃ b o (hk₂ b o hw (hk₁ b o hw q))
    refine assign_names (G := G) (wr := [e, it]) ok.k hL hG [(x, px), (y, py)] [.int i t, v'] [.int i, xs.getD i .none] _ m _ E (by simpa using hxy) rfl (.cons (.int _ _) (.cons rv .nil)) (by simpa using hn) (nsp.at' fun o q => up _ o hL q) fun h₄ tk₄ m' b hn₄ hs₄ => ?_
    refine hQ h₄ tk₄ m' ?_ b hn₄ fun b' o hb hw q => hs₄.extBut b' o hb (up b' o hw q)
    suffices hfr : ∀ b ∈ [e, it, l], ∀ o, h₂.get? b = some o → h₄.get? b = some o by
      have := W.frame (i + 1) h₂ h₄ hst₂ hfr
      exact ⟨this.1, this.2.1⟩
    · intro b' hb' o q
      refine hs₄.extBut b' o ?_ (k₃ b' o q)
      rintro rfl
      rcases List.mem_cons.mp hb' with q' | hb'
      · exact hL (by rw [q']; simp)
      · rcases List.mem_cons.mp hb' with q' | hb'
        · exact hL (by rw [q']; simp)
        · have := List.mem_singleton.mp hb'
          rw [this, eG] at hG; cases hG
  done := fun s Q E st c hQ => by
    have hsz : vs.size = xs.length := by rw [← r.length]; simp
    have W := WalksT.enumerate (prog := prog) (w := w) hh e it l hei hle hli vs
    exact W.done s _ E (by rw [hsz]; exact ⟨st.1, st.2, isList_of eG hc hd c⟩) hQ
  self := fun i s Q E st c hQ => by
    have W := WalksT.enumerate (prog := prog) (w := w) hh e it l hei hle hli vs
    exact W.self i s Q E ⟨st.1, st.2, isList_of eG hc hd c⟩ hQ

/-- a list of tuples, each taken apart -/
theorem Itr.tuples (hh : A.handled = none) {G : PM} {I l : Addr} {o : Obj} {vs : Array Value} {k kk : Nat} {xs : List PyData} {ds : Nat → List PyData} {ps : List (Str × Pos)} {tp : Pos} (e : G l = some o) (hc : o.cls = .type "list") (hd : o.data = .seq vs k) (r : RdAll G vs.toList xs) (hI : l ≠ I)
    (hx : ∀ i, i < xs.length → xs[i]? = some (.tuple (ds i)) ∧ (ds i).length = ps.length) (nd : (ps.map (·.1)).Nodup) :
    Itr prog w A I [I] xs.length (fun i h => h.IsListIter I l i) (.Tuple (ps.map fun q => Expr.Name q.1 q.2) kk tp) (ps.map (·.1)) ds G where
  live := fun i h ⟨o, ho, _⟩ b hb => ⟨o, by rw [List.mem_singleton.mp hb]; exact ho⟩
  frame := fun i h h' ⟨o, ho, q⟩ hk => ⟨o, hk _ (List.mem_singleton.mpr rfl) _ ho, q⟩
  item := fun i env m s Q E hi st c hG hL ok hn nsp hQ => by
    have hsz : vs.size = xs.length := by rw [← r.length]; simp
    have W := Walks.list (prog := prog) (w := w) hh I l hI vs
    obtain ⟨v, hv, rv⟩ := r.get (k := i) (hx i hi).1
    refine W.item i s _ E (by rw [hsz]; exact hi) ⟨st, isList_of e hc hd c⟩ fun v' h₁ tk hP hst hk => ?_
    have hvv : v' = v := by
      have h1 : vs[i]? = some v' := hP
      rw [← Array.getElem?_toList, hv] at h1
      exact (Option.some.inj h1).symm
    subst hvv
    obtain ⟨T, oT, us, kT, rfl, eT, hcT, hdT, rT⟩ := rv.tupleAt
    have hTI : T ∉ [I] := fun q => by
      obtain rfl := List.mem_singleton.mp q
      obtain ⟨oi, hoi, hci, _⟩ := st
      rw [c _ _ eT] at hoi; cases hoi
      rw [hcT] at hci; exact absurd hci (by decide)
    have ht : h₁.IsTuple T us := ⟨oT, hk T oT hTI (c _ _ eT), hcT, kT, hdT⟩
    refine wpAny_letOwnedTupleGo_listiter hst.1 ?_
    have hlen : us.toList.length = ps.length := by rw [rT.length]; exact (hx i hi).2
    have hae : ∀ (qs : List (Str × Pos)), (assignEach (qs.map fun q => Expr.Name q.1 q.2) env).length = qs.length ∧ (assignEach (qs.map fun q => Expr.Name q.1 q.2) env).findIdx? (·.1) = none := by
      intro qs
      induction qs with
      | nil => exact ⟨rfl, rfl⟩
      | cons q qs ih =>
        refine ⟨?_, ?_⟩
        · show ((false, assign (.Name q.1 q.2) env) :: assignEach (qs.map fun q => Expr.Name q.1 q.2) env).length = _
          rw [List.length_cons, ih.1, List.length_cons]
        · show ((false, assign (.Name q.1 q.2) env) :: assignEach (qs.map fun q => Expr.Name q.1 q.2) env).findIdx? (·.1) = none
          rw [List.findIdx?_cons, ih.2]
          rfl
    refine wpAny_assign_Tuple hh ht (by rw [(hae ps).1, ← hlen]; simp) (hae ps).2 fun h₃ hx₃ => ?_
    have k₃ : Kp h₁ h₃ := fun b o q => hx₃ b o (Nat.ne_of_lt (Heap.lt_size q)) q
    refine assign_names (G := G) (wr := [I]) ok.k hL hG ps us.toList (ds i) _ m _ E nd hlen.symm rT hn (nsp.at' fun o q => k₃ _ o (hk _ o hL q)) fun h₄ tk₄ m' b hn₄ hs₄ => ?_
    refine hQ h₄ tk₄ m' ?_ b hn₄ fun b' o hb hw q => hs₄.extBut b' o hb (k₃ b' o (hk b' o hw q))
    obtain ⟨oi, hoi, q⟩ := hst.1
    exact ⟨oi, hs₄.extBut I oi (fun z => hL (by rw [← z]; simp)) (k₃ _ _ hoi), q⟩
  done := fun s Q E st c hQ => by
    have hsz : vs.size = xs.length := by rw [← r.length]; simp
    have W := Walks.list (prog := prog) (w := w) hh I l hI vs
    exact W.done s _ E (by rw [hsz]; exact ⟨st, isList_of e hc hd c⟩) hQ
  self := fun i s Q E st c hQ => by
    have W := Walks.list (prog := prog) (w := w) hh I l hI vs
    exact W.self i s Q E ⟨st, isList_of e hc hd c⟩ hQ
end
end Mine

/-! part Fw6 -/
namespace Mine
open PySem PySem.W PyProof.Rows

section
variable {prog : Program} {w : World} {h₀ : Heap} {n : Nat} {sc : Scope} {Γ : Gam} {O : Own} {Pg : Program} {mg : Str → Option Value}

def Src (prog : Program) (w : World) (h₀ : Heap) (n : Nat) (sc : Scope) (Γ : Gam) (O : Own) (iter tg : Expr) (ns : List Str) (N : Nat) (bs : Nat → List PyData) : Prop :=
  ∀ A env G s, Cx prog w h₀ n sc Γ O A env G s → wpAny (model prog w) A (eval iter env) (fun x s₁ => wpAny (model prog w) A (pyIter x) (fun it s₂ => Keeps s s₂ ∧ ∃ I wr St, it = .ref I ∧ (∀ b ∈ wr, s.heap.get? b = none) ∧ St 0 s₂.heap ∧
    Itr prog w A I wr N St tg ns bs (Cut (Ext G s.heap s₂.heap) wr)) Fls s₁) Fls s

theorem none_back {s s₁ : Shared} (k : Keeps s s₁) {a : Addr} (h : s₁.heap.get? a = none) : s.heap.get? a = none := by
  cases q : s.heap.get? a with
  | none => rfl
  | some o => rw [kKp k a o q] at h; cases h

/-- the sight behind a push, the new ones left out -/
theorem cut_le {G : PM} {s s₁ s₂ : Shared} {wr : List Addr} (c : Sub G s.heap) (k₁ : Keeps s s₁) (k₂ : Keeps s₁ s₂) (hn : ∀ a ∈ wr, s₁.heap.get? a = none) : Le (Ext G s.heap s₁.heap) (Cut (Ext G s.heap s₂.heap) wr) :=
  Cut.keep (Ext.sub c (kKp k₁)) (fun a o e => Ext.trans (kKp k₁) (kKp k₂) a o (Ext.le (Ext.sub c (kKp k₁)) a o e)) hn

theorem Src.list {iter : Expr} {xs : List PyData} {x : Str} {px : Pos} (h : Ev prog w h₀ n sc Γ O iter (.list xs)) : Src prog w h₀ n sc Γ O iter (.Name x px) [x] xs.length (fun i => [xs.getD i .none]) := by
  intro A env G s c
  refine wpAny_mono (h A env G s c) (fun v s₁ ⟨k₁, r₁⟩ => ?_) fun _ _ x => x
  obtain ⟨l, o, vs, k, rfl, e, hc, hd, r⟩ := r₁.listAt
  have c₁ := Ext.sub c.sub (kKp k₁)
  refine wpAny_pyIter_list (isList_of e hc hd c₁) ?_
  have k₂ : Keeps s₁ { s₁ with heap := s₁.heap.push { cls := .type "list_iterator", data := .fields #[.ref l, .int 0 0] } } := kHeap s₁ s₁.toks (push_kp _ _)
  have hn : ∀ a ∈ [s₁.heap.objs.size], s₁.heap.get? a = none := fun a m => by rw [List.mem_singleton.mp m]; exact size_none _
  have le := cut_le c.sub k₁ k₂ hn
  exact ⟨kTrans k₁ k₂, _, [s₁.heap.objs.size], _, rfl, fun b hb => none_back k₁ (hn b hb), ⟨_, push_new _ _ rfl, rfl, rfl⟩,
    Itr.list c.room.handled (le _ _ e) hc hd (r.mono le) (Nat.ne_of_lt (Heap.lt_size (c₁ _ _ e)))⟩

theorem Src.tuples {iter : Expr} {xs : List PyData} {ds : Nat → List PyData} (ps : List (Str × Pos)) {kk : Nat} {tp : Pos} (h : Ev prog w h₀ n sc Γ O iter (.list xs)) (hx : ∀ i, i < xs.length → xs[i]? = some (.tuple (ds i)) ∧ (ds i).length = ps.length)
    (nd : (ps.map (·.1)).Nodup) : Src prog w h₀ n sc Γ O iter (.Tuple (ps.map fun q => Expr.Name q.1 q.2) kk tp) (ps.map (·.1)) xs.length ds := by
  intro A env G s c
  refine wpAny_mono (h A env G s c) (fun v s₁ ⟨k₁, r₁⟩ => ?_) fun _ _ x => x
  obtain ⟨l, o, vs, k, rfl, e, hc, hd, r⟩ := r₁.listAt
  have c₁ := Ext.sub c.sub (kKp k₁)
  refine wpAny_pyIter_list (isList_of e hc hd c₁) ?_
  have k₂ : Keeps s₁ { s₁ with heap := s₁.heap.push { cls := .type "list_iterator", data := .fields #[.ref l, .int 0 0] } } := kHeap s₁ s₁.toks (push_kp _ _)
  have hn : ∀ a ∈ [s₁.heap.objs.size], s₁.heap.get? a = none := fun a m => by rw [List.mem_singleton.mp m]; exact size_none _
  have le := cut_le c.sub k₁ k₂ hn
  exact ⟨kTrans k₁ k₂, _, [s₁.heap.objs.size], _, rfl, fun b hb => none_back k₁ (hn b hb), ⟨_, push_new _ _ rfl, rfl, rfl⟩,
    Itr.tuples c.room.handled (le _ _ e) hc hd (r.mono le) (Nat.ne_of_lt (Heap.lt_size (c₁ _ _ e))) hx nd⟩

theorem Src.range (W : Wd Pg mg h₀) {f : Str} {p pos : Pos} {e : Expr} {N : Nat} {x : Str} {px : Pos} (en : f ∈ bltNames) (hv : bootBuiltins f = some (.type "range")) (hx : sc.names.lookup f = some .globalImplicit)
    (h : Ev prog w h₀ n sc Γ O e (.int N)) (hN : N < 2 ^ 62) (hn : f ≠ "__name__" := by decide) (hd : (f == ("__debug__" : Str)) = false := by decide)
    (he : ∀ env, starEach [e] env = (false, eval e env) :: starEach [] env := by intro _; rfl) : Src prog w h₀ n sc Γ O (.Call (.Name f p) [e] [] pos) (.Name x px) [x] N (fun i => [.int i]) := by
  intro A env G s c
  refine Call_ (load_blt W c.ok en hv hn (by unfold Env.kindOf; rw [c.scope]; exact hx) hd c.base c.sub ?_)
  refine PyProof.Rows.callWith_type1 (wpAny_mono ((EvL.cons h EvL.nil he) pos A env G s c) (fun vs s₁ ⟨k₁, r₁⟩ => ?_) fun _ _ x => x) (he env) rfl
  cases r₁ with
  | cons r rr =>
    cases rr
    obtain ⟨t, rfl⟩ := r.intAt
    refine call_range_1 ?_
    refine wpAny_pyIter_range (IsRange.new ..) (small_one (by decide) (by decide) (by lia) (by lia)) ?_
    have hsz : Builtin.Range.rangeSize 0 (N : Int) 1 = (N : Int) := by rw [rangeSize_one]; split <;> lia
    have kp : Kp s₁.heap ((s₁.heap.push { cls := .type "range", data := .fields #[.int 0 s₁.toks, .int N t, .int 1 (s₁.toks + 1)] }).push { cls := .type "range_iterator", data := .fields #[rawInt 0, rawInt (Builtin.Range.rangeSize 0 N 1), rawInt 1] }) := (push_kp _ _).trans (push_kp _ _)
    refine ⟨kTrans k₁ (kHeap s₁ _ kp), _, [(s₁.heap.push { cls := .type "range", data := .fields #[.int 0 s₁.toks, .int N t, .int 1 (s₁.toks + 1)] }).objs.size], _, rfl, fun b hb => ?_, ?_, Itr.range c.room.handled⟩
    · rw [List.mem_singleton.mp hb]
      cases q : s.heap.get? (s₁.heap.push { cls := .type "range", data := .fields #[.int 0 s₁.toks, .int N t, .int 1 (s₁.toks + 1)] }).objs.size with
      | none => rfl
      | some o =>
        have := Heap.lt_size (kKp k₁ _ _ q)
        rw [Heap.size_push] at this
        exact absurd this (Nat.not_lt.mpr (Nat.le_succ _))
    · have e1 : (0 + ((0 : Nat) : Int) * 1) = 0 := by simp
      have e2 : ((N : Int) - ((0 : Nat) : Int)) = Builtin.Range.rangeSize 0 N 1 := by rw [hsz]; simp
      show IsRangeIter _ _ (0 + ((0 : Nat) : Int) * 1) ((N : Int) - ((0 : Nat) : Int)) 1
      rw [e1, e2]
      exact push_new _ _ rfl

theorem Src.enum (W : Wd Pg mg h₀) {f : Str} {p pos : Pos} {e : Expr} {xs : List PyData} {x y : Str} {px py tp : Pos} {kk : Nat} (en : f ∈ bltNames) (hv : bootBuiltins f = some (.type "enumerate")) (hx : sc.names.lookup f = some .globalImplicit)
    (h : Ev prog w h₀ n sc Γ O e (.list xs)) (hxy : x ≠ y) (hn : f ≠ "__name__" := by decide) (hd : (f == ("__debug__" : Str)) = false := by decide)
    (he : ∀ env, starEach [e] env = (false, eval e env) :: starEach [] env := by intro _; rfl) : Src prog w h₀ n sc Γ O (.Call (.Name f p) [e] [] pos) (.Tuple [.Name x px, .Name y py] kk tp) [x, y] xs.length (fun i => [.int i, xs.getD i .none]) := by
  intro A env G s c
  refine Call_ (load_blt W c.ok en hv hn (by unfold Env.kindOf; rw [c.scope]; exact hx) hd c.base c.sub ?_)
  refine PyProof.Rows.callWith_type1 (wpAny_mono ((EvL.cons h EvL.nil he) pos A env G s c) (fun vs s₁ ⟨k₁, r₁⟩ => ?_) fun _ _ x => x) (he env) rfl
  cases r₁ with
  | cons r rr =>
    cases rr
    obtain ⟨l, o, us, k, rfl, eG, hc, hdd, r⟩ := r.listAt
    have c₁ := Ext.sub c.sub (kKp k₁)
    refine call_enumerate_list (isList_of eG hc hdd c₁) fun h' hen hit hsz hk => ?_
    refine wpAny_pyIter_enum hen ?_
    have k₂ : Keeps s₁ { s₁ with heap := h' } := ⟨h', s₁.toks, rfl, hk⟩
    have hlt := Heap.lt_size (c₁ _ _ eG)
    have hnw : ∀ a ∈ [s₁.heap.objs.size + 1, s₁.heap.objs.size], s₁.heap.get? a = none := fun a m => by
      cases q : s₁.heap.get? a with
      | none => rfl
      | some o' =>
        have h1 := Heap.lt_size q
        rcases List.mem_cons.mp m with rfl | m
        · exact absurd h1 (Nat.not_lt.mpr (Nat.le_succ _))
        · rw [List.mem_singleton.mp m] at h1; exact absurd h1 (Nat.lt_irrefl _)
    have le := cut_le c.sub k₁ k₂ hnw
    exact ⟨kTrans k₁ k₂, _, _, _, rfl, fun b hb => none_back k₁ (hnw b hb), ⟨⟨_, hen⟩, hit⟩,
      Itr.enum c.room.handled (le _ _ eG) hc hdd (r.mono le) (Nat.succ_ne_self _) (Nat.ne_of_lt (Nat.lt_succ_of_lt hlt)) (Nat.ne_of_lt hlt) hxy⟩
end

/-! the closure of a comprehension's block -/
theorem closure_ok {scope : Scope} {env : Env} (h : ∀ x ∈ scope.names, x.2 = .free → ∃ c, env.cells.lookup x.1 = some c) :
    ∃ cl, closureFor scope env = pure cl ∧ ∀ x, (x, NameKind.free) ∈ scope.names → cl.lookup x = env.cells.lookup x := by
  have key : ∀ (names : List (Str × NameKind)) (acc : List (Str × Addr)), (∀ x ∈ names, x.2 = .free → ∃ c, env.cells.lookup x.1 = some c) →
      ∃ cl, (forIn names acc fun (x : Str × NameKind) (r : List (Str × Addr)) => (do
        if (x.2 == NameKind.free) = true then do
          let c ← cellOf env x.1
          pure (ForInStep.yield ((x.1, c) :: r))
        else pure (ForInStep.yield r) : Sem (ForInStep (List (Str × Addr))))) = pure cl ∧
        (∀ x, acc.lookup x = env.cells.lookup x ∨ (x, NameKind.free) ∈ names → cl.lookup x = env.cells.lookup x) := by
    intro names
    induction names with
    | nil => exact fun acc _ => ⟨acc, rfl, fun x hx => hx.elim id fun q => nomatch q⟩
    | cons y ys ih =>
      intro acc hy
      obtain ⟨nm, kd⟩ := y
      by_cases hk : kd = .free
      · subst hk
        obtain ⟨c, hc⟩ := hy (nm, .free) (by simp) rfl
        obtain ⟨cl, e, hcl⟩ := ih ((nm, c) :: acc) fun x hx => hy x (List.mem_cons_of_mem _ hx)
        refine ⟨cl, ?_, fun x hx => hcl x ?_⟩
        · rw [List.forIn_cons]
          simp only [beq_self_eq_true, if_true, cellOf, hc]
          exact e
        · by_cases q : x = nm
          · subst q; left; simp [hc]
          · rcases hx with hx | hx
            · left
              have : (x == nm) = false := by simpa using q
              rw [List.lookup_cons, this]; exact hx
            · rcases List.mem_cons.mp hx with hx | hx
              · cases hx; exact absurd rfl q
              · right; exact hx
      · obtain ⟨cl, e, hcl⟩ := ih acc fun x hx => hy x (List.mem_cons_of_mem _ hx)
        refine ⟨cl, ?_, fun x hx => hcl x ?_⟩
        · rw [List.forIn_cons]
          have : (kd == NameKind.free) = false := by simpa using hk
          simp only [this, Bool.false_eq_true, if_false]
          exact e
        · rcases hx with hx | hx
          · left; exact hx
          · rcases List.mem_cons.mp hx with hx | hx
            · cases hx; exact absurd rfl hk
            · right; exact hx
  obtain ⟨cl, e, hcl⟩ := key scope.names [] h
  refine ⟨cl, ?_, fun x hx => hcl x (.inr hx)⟩
  unfold closureFor
  rw [← bind_pure (pure cl), ← e]
end Mine

/-! part Fw7 -/
namespace Mine
open PySem PySem.W PyProof.Rows

section
variable {prog : Program} {w : World} {A : Around}
theorem compLoop_gen {elt target iter : Expr} {ifs : List Expr} {scope : Scope} {pos : Pos} {it acc : Value} {env : Env} {R : Result → Shared → Prop} {s : Shared} (I : Nat → Shared → Prop)
    (turn : ∀ n s, I n s → wpAny (model prog w) A (pyNext it) (fun r s₁ => match r with
      | none => R (.ok .next) s₁
      | some v => wpAny (model prog w) A (letOwnedTupleGo target it v) (fun _ s₁' => wpAny (model prog w) A (assign target env v) (fun _ s₂ =>
          wpAny (model prog w) A (forIn ifs true fun c r => if r = true then do let ok ← PySem.isTrue c env (eval c env); pure (ForInStep.yield ok) else pure (ForInStep.yield r)) (fun ok s₃ =>
            if ok = true then wpAny (model prog w) A (eval elt env) (fun x s₄ =>
              wpAny (model prog w) A (call (.builtin "list.append") [acc, x]) (fun _ s₅ => ∃ m, m < n ∧ I m s₅) Fls s₄) Fls s₃
            else ∃ m, m < n ∧ I m s₃) Fls s₂) Fls s₁') Fls s₁) Fls s)
    (n : Nat) (h : I n s) : codeAny (model prog w) A (.compLoop (.ListComp elt [⟨target, iter, ifs, 0⟩] scope pos) 0 it acc env) R s := by
  refine codeAny_loop rfl I (fun n s hI => ?_) n h
  show wpAny _ A ((compTurn (.ListComp elt [⟨target, iter, ifs, 0⟩] scope pos) 0 it acc env).onRaise (fun x => do noteFrame x env; theTreesLotGoes x)) _ _ s
  refine wpAny_noted ?_
  rw [compTurn_list]
  refine wpAny_bind (wpAny_standAt (wpAny_bind (wpAny_mono (turn n s hI) (fun r s₁ h₁ => ?_) fun _ _ f => f.elim)))
  cases r with
  | none => exact wpAny_pure h₁
  | some v =>
    refine wpAny_bind (wpAny_mono h₁ (fun _ s₁' h₁' => ?_) fun _ _ f => f.elim)
    refine wpAny_bind (wpAny_mono h₁' (fun _ s₂ h₂ => wpAny_bind (wpAny_mono h₂ (fun ok s₃ h₃ => ?_) fun _ _ f => f.elim)) fun _ _ f => f.elim)
    cases ok with
    | false => exact wpAny_pure ⟨rfl, h₃⟩
    | true =>
      exact wpAny_bind (wpAny_bind (wpAny_mono h₃ (fun x s₄ h₄ => wpAny_bind (wpAny_mono h₄ (fun _ s₅ h₅ => wpAny_pure (wpAny_pure ⟨rfl, h₅⟩)) fun _ _ f => f.elim)) fun _ _ f => f.elim))
end

theorem le_none {G G' : PM} {a : Addr} (l : Le G G') (h : G' a = none) : G a = none := by
  cases q : G a with
  | none => rfl
  | some o => rw [l a o q] at h; cases h
theorem sub_none {G : PM} {h : Heap} {a : Addr} (l : Sub G h) (q : h.get? a = none) : G a = none := by
  cases e : G a with
  | none => rfl
  | some o => rw [l a o e] at q; cases q

def relabelS (scope sc : Scope) : Scope :=
  { scope with names := scope.names.map fun (n, k) => if (k == .free && sc.kind == .function && sc.names.lookup n == some .cell) then (n, .cell) else (n, k) }

theorem relabel_free {sc : Scope} (hk : sc.kind = .function) : ∀ {names : List (Str × NameKind)} {x : Str}, names.lookup x = some .free → sc.names.lookup x = some .cell →
    (names.map fun (n, k) => if (k == NameKind.free && sc.kind == .function && sc.names.lookup n == some .cell) then (n, NameKind.cell) else (n, k)).lookup x = some .cell
  | [], _, h, _ => by cases h
  | (n, k) :: r, x, h, hc => by
    have ih := @relabel_free sc hk r x
    show List.lookup x ((if (k == NameKind.free && sc.kind == .function && sc.names.lookup n == some .cell) = true then (n, NameKind.cell) else (n, k)) :: _) = _
    cases hx : x == n with
    | true =>
      obtain rfl := beq_iff_eq.mp hx
      simp only [List.lookup_cons, hx] at h
      cases h
      rw [if_pos (by simp [hk, hc])]
      simp [List.lookup_cons]
    | false =>
      simp only [List.lookup_cons, hx] at h
      split <;> (simp only [List.lookup_cons, hx]; exact ih h hc)

theorem lookup_zip_mem : ∀ {ns : List Str} {ds : List PyData} {x : Str} {d : PyData}, (ns.zip ds).lookup x = some d → x ∈ ns
  | [], _, _, _, h => by cases h
  | _ :: _, [], _, _, h => by cases h
  | n :: ns, e :: ds, x, d, h => by
    simp only [List.zip_cons_cons, List.lookup_cons] at h
    cases hx : x == n with
    | true => rw [beq_iff_eq.mp hx]; exact List.mem_cons_self
    | false => rw [hx] at h; exact List.mem_cons_of_mem _ (lookup_zip_mem h)

section
variable {prog : Program} {w : World} {h₀ : Heap} {n : Nat} {sc : Scope} {Γ : Gam} {O : Own} {Pg : Program} {mg : Str → Option Value}

def TstL (prog : Program) (w : World) (h₀ : Heap) (n : Nat) (sc : Scope) (Γ : Gam) (O : Own) (ifs : List Expr) (b : Bool) : Prop :=
  ∀ A env G s, Cx prog w h₀ n sc Γ O A env G s →
    wpAny (model prog w) A (forIn ifs true fun c r => if r = true then do let ok ← PySem.isTrue c env (eval c env); pure (ForInStep.yield ok) else pure (ForInStep.yield r)) (fun ok s' => Keeps s s' ∧ ok = b) Fls s
theorem TstL.nil : TstL prog w h₀ n sc Γ O [] true := fun _ _ _ s _ => wpAny_tests_nil ⟨kRefl s, rfl⟩
theorem TstL.one {t : Expr} {b : Bool} (h : Tst prog w h₀ n sc Γ O t b) : TstL prog w h₀ n sc Γ O [t] b := fun A env G s c => wpAny_tests_one (h A env G s c)

structure CI (H : Heap) (St : Nat → Heap → Prop) (wr : List Addr) (D C : Addr) (Gb G : PM) (N : Nat) (p : Nat → Bool) (ds : Nat → PyData) (i : Nat) (h : Heap) (m : Str → Option Value) (ys : List Value) (kk : Nat) (G' : PM) : Prop where
  hi : i ≤ N
  st : St i h
  ns : h.Ns C m
  hD : h.get? D = some ({ cls := .type "list", data := .seq ys.toArray kk } : Obj)
  lb : Le Gb G'
  sb : Sub G' h
  ob : ∀ a o, G' a = some o → (H.get? a).isSome = true → G a = some o
  gC : G' C = none
  gD : G' D = none
  gw : ∀ b ∈ wr, G' b = none
  kp : ∀ b o, H.get? b = some o → h.get? b = some o
  rr : RdAll G' ys (((List.range i).filter p).map ds)
theorem comp_core {elt tg iter : Expr} {ifs : List Expr} {scope : Scope} {pos : Pos} {ns : List Str} {N : Nat} {bs : Nat → List PyData} (Γc : Gam) (p : Nat → Bool) (ds : Nat → PyData)
    (hS : Src prog w h₀ n sc Γ O iter tg ns N bs) (hk : scope.kind = .function) (hcell : ∀ y ∈ scope.names, y.2 ≠ .cell) (hnames : ∀ y ∈ scope.names, y.2 = .local → scope.names.lookup y.1 = some .local)
    (hns : ∀ x ∈ ns, scope.names.lookup x = some .local) (hfree : ∀ y ∈ scope.names, y.2 = .free → sc.names.lookup y.1 = some .cell ∧ (Γ.lookup y.1).isSome = true)
    (hc : ∀ x d, Γc.lookup x = some d → Γ.lookup x = some d ∧ (x, NameKind.free) ∈ scope.names ∧ scope.names.lookup x = some .free)
    (hT : ∀ i, i < N → TstL prog w h₀ n (relabelS scope sc) (ns.zip (bs i) ++ Γc) none ifs (p i))
    (hE : ∀ i, i < N → p i = true → Ev prog w h₀ n (relabelS scope sc) (ns.zip (bs i) ++ Γc) none elt (ds i))
    (hN : N ≤ sizeLine) (hf : ∀ env x, foldedSetIterable iter env x = pure x) {A : Around} {env : Env} {G : PM} {s : Shared} (c : Cx prog w h₀ n sc Γ O A env G s) {pos' : Pos} {use : Option (Value → Sem Unit)} {Q : Value → Shared → Prop}
    (hfin : ∀ D C s' m ys kk, Keeps s s' → s.heap.get? D = none → s.heap.get? C = none → D ≠ C → s'.heap.Ns C m → s'.heap.get? D = some ({ cls := .type "list", data := .seq ys kk } : Obj) → RdAll (Cut (Ext G s.heap s'.heap) [D, C]) ys.toList (((List.range N).filter p).map ds) → compPost (model prog w) A Fls use Q (.ref D) C (.ok .next) s') :
    wpAny (model prog w) A (comprehension (.ListComp elt [⟨tg, iter, ifs, 0⟩] scope pos) scope env pos' (newList []) false (eval iter env) use) Q Fls s := by
  obtain ⟨cl, ecl, hcl⟩ := closure_ok (scope := scope) (env := env) fun y hy hyf => by
    obtain ⟨h1, h2⟩ := hfree y hy hyf
    obtain ⟨d, hd⟩ := Option.isSome_iff_exists.mp h2
    obtain ⟨b, v, hb, _⟩ := c.satC y.1 d hd (by unfold Env.kindOf; rw [c.scope]; exact h1)
    exact ⟨b, hb⟩
  refine wpAny_comprehension_free (use := use) rfl (hf env) ecl hk hnames (wpAny_mono (hS A env G s c) (fun x s₁ h₁ => wpAny_mono h₁ (fun it s₂ h₂ => ?_) fun _ _ e => e) fun _ _ e => e)
  obtain ⟨k₂, I, wr, St, rfl, hwr, hst, IT⟩ := h₂
  have c₂ := c.on k₂
  refine wpAny_newObj_type (wpAny_newFunctionEnv hcell (by intro y hy; simp at hy) (fun h₁ hns₁ hsb₁ => ?_) hk)
  generalize hH : s₂.heap.push { cls := .type "list", dict := none, data := .seq ([] : List Value).toArray } = H at hns₁ hsb₁ ⊢
  have hC : H.objs.size = s₂.heap.objs.size + 1 := by rw [← hH, Heap.size_push]
  have kp₁ : Kp s₂.heap h₁ := fun b o e => hsb₁.extBut b o (by
      have := Heap.lt_size e
      intro q
      rw [q, hC] at this
      exact absurd this (Nat.not_lt.mpr (Nat.le_succ _))) (Heap.get?_push_of_some _ (hH ▸ Heap.get?_push_of_some _ e))
  have hD1 : h₁.get? s₂.heap.objs.size = some ({ cls := .type "list", data := .seq #[] } : Obj) := hsb₁.extBut _ _ (by rw [hC]; exact Nat.ne_of_lt (Nat.lt_succ_self _)) (Heap.get?_push_of_some _ (hH ▸ Heap.get?_push_size _ rfl))
  have hDC : s₂.heap.objs.size ≠ H.objs.size := by rw [hC]; exact Nat.ne_of_lt (Nat.lt_succ_self _)
  have nC : s₂.heap.get? H.objs.size = none := by
    cases q : s₂.heap.get? H.objs.size with
    | none => rfl
    | some o => have := Heap.lt_size q; rw [hC] at this; exact absurd this (Nat.not_lt.mpr (Nat.le_succ _))
  generalize hDD : s₂.heap.objs.size = D at hD1 hDC ⊢
  have nD : s₂.heap.get? D = none := by rw [← hDD]; exact size_none _
  generalize H.objs.size = C at hns₁ hsb₁ hDC nC ⊢
  -- the block's surroundings
  let env' : Env := compEnvC scope cl C env
  let Gb : PM := Cut (Ext G s.heap s₂.heap) wr
  have subGb : Sub Gb s₂.heap := fun a o e => c₂.sub a o (Cut.le a o e)
  have ok' : EnvOk env' := ⟨c.ok.g, c.ok.b, hk⟩
  have sc' : env'.scope = relabelS scope sc := by
    show relabel scope env = _
    unfold relabel relabelS Env.kindOf
    rw [c.scope]
  have hloc : ∀ x ∈ ns, env'.kindOf x = some .local := fun x hx => lookup_relabel_local (hns x hx)
  have kf : sc.kind = .function := by rw [← c.scope]; exact c.ok.k
  have hcap : ∀ x d, Γc.lookup x = some d → env'.kindOf x = some .cell ∧ ∃ b v, env'.cells.lookup x = some b ∧ s.heap.IsCell b (some v) ∧ Rd G v d := fun x d e => by
    obtain ⟨e1, e2, e3⟩ := hc x d e
    have h1 := (hfree _ e2 rfl).1
    obtain ⟨b, v, hb, hce, r⟩ := c.satC x d e1 (by unfold Env.kindOf; rw [c.scope]; exact h1)
    refine ⟨?_, b, v, ?_, hce, r⟩
    · unfold Env.kindOf
      rw [sc']
      exact relabel_free kf e3 h1
    · show cl.lookup x = some b
      rw [hcl x e2, hb]
  have leGb : Le G Gb := Cut.keep c.sub (Ext.le c.sub) hwr
  suffices loop : ∀ s₃ : Shared, s₃ = { s₂ with heap := h₁, toks := s₂.toks + ([] : List (Str × Value)).length } →
      codeAny (model prog w) A (.compLoop (.ListComp elt [⟨tg, iter, ifs, 0⟩] scope pos) 0 (.ref I) (.ref D) env')
        (compPost (model prog w) A Fls use Q (.ref D) C) s₃ by
    exact codeAny_compStart_list (loop _ rfl) (IT.self 0 _ _ _ (IT.frame 0 _ _ hst fun b hb o e => kp₁ b o e) (subGb.kp kp₁) (loop _ rfl))
  rintro s₃ rfl
  have hwn : ∀ b ∈ wr, b ≠ C ∧ b ≠ D := by
    intro b hb
    obtain ⟨o, ho⟩ := IT.live _ _ hst b hb
    exact ⟨fun q => by (rw [q, nC] at ho; cases ho), fun q => by (rw [q, nD] at ho; cases ho)⟩
  refine compLoop_gen (fun j s' => ∃ (h : Heap) (tk : Nat) (m : Str → Option Value) (i : Nat) (ys : List Value) (kk : Nat) (G' : PM), s' = { s₂ with heap := h, toks := tk } ∧ j = N + 1 - i ∧ CI s.heap St wr D C Gb G N p ds i h m ys kk G')
    ?_ (N + 1) ⟨h₁, s₂.toks + ([] : List (Str × Value)).length, fun _ => none, 0, [], 0, Gb, rfl, rfl, ⟨Nat.zero_le _, IT.frame 0 _ _ hst fun b hb o e => kp₁ b o e, ?_, hD1, Le.rfl', subGb.kp kp₁, ?_, ?_, ?_, fun b hb => Cut.on hb, fun b o e => kp₁ b o (kKp k₂ b o e), .nil⟩⟩
  · rintro j s' ⟨h, tk, m, i, ys, kk, G', rfl, rfl, I⟩
    obtain ⟨hi, hst', hn, hD, lb, sb, ob, gC, gD, gw, kp, rr⟩ := I
    have hCw : C ∉ wr := fun q => (hwn C q).1 rfl
    have hDw : D ∉ wr := fun q => (hwn D q).2 rfl
    by_cases hlt : i < N
    · refine wpAny_mono (IT.item i env' m _ (fun _ s₂' => ∃ h₂ tk₂ m₂, s₂' = { s₂ with heap := h₂, toks := tk₂ } ∧ St (i + 1) h₂ ∧ BindOk Gb ns (bs i) m m₂ ∧ h₂.Ns C m₂ ∧ (∀ b o, b ≠ C → b ∉ wr → h.get? b = some o → h₂.get? b = some o)) Fls hlt hst' (fun a o e => sb a o (lb a o e)) (le_none lb gC) hCw ok' hloc hn (fun h₂ tk₂ m₂ a b c d => ⟨h₂, tk₂, m₂, rfl, a, b, c, d⟩)) (fun r s₁' hr => ?_) fun _ _ f => f
      cases r with
      | none => exact hr.elim
      | some v =>
        refine wpAny_mono hr (fun _ _ hr => wpAny_mono hr (fun _ s₄ hr => ?_) fun _ _ f => f) fun _ _ f => f
        obtain ⟨h₂, tk₂, m₂, rfl, st₂, bo, hn₂, up⟩ := hr
        have sb₂ : Sub G' h₂ := fun a o e => up a o (fun q => by rw [q, gC] at e; cases e) (fun q => by rw [gw a q] at e; cases e) (sb a o e)
        have hD₂ : h₂.get? D = some ({ cls := .type "list", data := .seq ys.toArray kk } : Obj) := up D _ hDC hDw hD
        have kp₂ : ∀ b o, s.heap.get? b = some o → h₂.get? b = some o := fun b o e => up b o (fun q => by rw [q, none_back k₂ nC] at e; cases e) (fun q => by rw [hwr b q] at e; cases e) (kp b o e)
        have cx : Cx prog w h₀ n (relabelS scope sc) (ns.zip (bs i) ++ Γc) none A env' G' { s₂ with heap := h₂, toks := tk₂ } := by
          refine ⟨c.room, sc', ok', sb₂, c.base.trans (leGb.trans lb), ?_, (fun x b ds e => nomatch e), ?_⟩
          · intro x d e
            rw [List.lookup_append] at e
            cases q : (ns.zip (bs i)).lookup x with
            | some d' =>
              rw [q] at e; cases e
              obtain ⟨v', hv', rv'⟩ := bo.here x d q
              exact ⟨v', fun A' Q' E' s'' kk' hq => wpAny_loadName_local ok'.k (hloc x (lookup_zip_mem q)) (hn₂.keeps kk') hv' hq, rv'.mono lb⟩
            | none =>
              rw [q] at e
              obtain ⟨hkc, b, v', hb, hce, rv'⟩ := hcap x d e
              exact ⟨v', fun A' Q' E' s'' kk' hq => wpAny_loadName_cell ok'.k hkc hb ((hce.keeps kp₂).keeps kk') hq, rv'.mono (leGb.trans lb)⟩
          · intro x d e hkc
            rw [List.lookup_append] at e
            cases q : (ns.zip (bs i)).lookup x with
            | some d' => rw [hloc x (lookup_zip_mem q)] at hkc; cases hkc
            | none =>
              rw [q] at e
              obtain ⟨_, b, v', hb, hce, rv'⟩ := hcap x d e
              exact ⟨b, v', hb, hce.keeps kp₂, rv'.mono (leGb.trans lb)⟩
        refine wpAny_mono (hT i hlt A env' G' _ cx) (fun ok s₅ ⟨k₅, e₅⟩ => ?_) fun _ _ f => f
        subst e₅
        have kp₅ := kKp k₅
        have nn : ∀ {a : Addr}, a ∈ C :: D :: wr → ∃ o, h₂.get? a = some o := fun {a} ha => by
          rcases List.mem_cons.mp ha with rfl | ha
          · obtain ⟨o, _, _, ho, _⟩ := hn₂; exact ⟨o, ho⟩
          · rcases List.mem_cons.mp ha with rfl | ha
            · exact ⟨_, hD₂⟩
            · exact IT.live _ _ st₂ a ha
        obtain ⟨h₅, tk₅, rfl, kp₅'⟩ := k₅
        have l5 : ∀ {a : Addr}, a ∈ C :: D :: wr → G' a = none → Ext G' h₂ h₅ a = none := fun {a} ha g => by
          obtain ⟨o, ho⟩ := nn ha
          rw [Ext.live ho]; exact g
        have old5 : ∀ a o, Ext G' h₂ h₅ a = some o → (s.heap.get? a).isSome = true → G a = some o := fun a o e q => by
          obtain ⟨o', ho'⟩ := Option.isSome_iff_exists.mp q
          rw [Ext.live (kp₂ a o' ho')] at e
          exact ob a o e q
        cases hp : p i with
        | false =>
          rw [if_neg (by simp)]
          refine ⟨N + 1 - (i + 1), by lia, h₅, tk₅, m₂, i + 1, ys, kk, Ext G' h₂ h₅, rfl, rfl, ⟨hlt, IT.frame _ _ _ st₂ fun b hb o e => kp₅' b o e, hn₂.keeps kp₅', kp₅' _ _ hD₂, lb.trans (Ext.le sb₂), Ext.sub sb₂ kp₅', old5, l5 (by simp) gC, l5 (by simp) gD, fun b hb => l5 (by simp [hb]) (gw b hb), fun b o e => kp₅' b o (kp₂ b o e), ?_⟩⟩
          have : ((List.range (i + 1)).filter p).map ds = ((List.range i).filter p).map ds := by rw [List.range_succ, List.filter_append]; simp [hp]
          rw [this]
          exact rr.mono (Ext.le sb₂)
        | true =>
          rw [if_pos rfl]
          have cx₅ := cx.on ⟨h₅, tk₅, rfl, kp₅'⟩
          refine wpAny_mono (hE i hlt hp A env' _ _ cx₅) (fun y s₆ ⟨k₆, r₆⟩ => ?_) fun _ _ f => f
          obtain ⟨h₆, tk₆, rfl, kp₆⟩ := k₆
          have sb₅ : Sub (Ext G' h₂ h₅) h₅ := Ext.sub sb₂ kp₅'
          have hD₆ : h₆.get? D = some ({ cls := .type "list", data := .seq ys.toArray kk } : Obj) := kp₆ _ _ (kp₅' _ _ hD₂)
          have l6 : ∀ {a : Addr}, a ∈ C :: D :: wr → G' a = none → Ext (Ext G' h₂ h₅) h₅ h₆ a = none := fun {a} ha g => by
            obtain ⟨o, ho⟩ := nn ha
            rw [Ext.live (kp₅' _ _ ho)]; exact l5 ha g
          have hlen : ys.toArray.size ≤ sizeLine := by
            have h1 := rr.length
            have h2 : ((List.range i).filter p).length ≤ (List.range i).length := List.length_filter_le _ _
            simp at h1 h2 ⊢
            lia
          refine wpAny_list_append_plain ⟨kk, hD₆⟩ (fun h₇ ⟨k7, hD₇⟩ hs₇ => ?_) hlen
          have up7 : ∀ b o, b ≠ D → h₆.get? b = some o → h₇.get? b = some o := fun b o hb e => hs₇.extBut b o hb e
          refine ⟨N + 1 - (i + 1), by lia, h₇, tk₆, m₂, i + 1, ys ++ [y], k7, Ext (Ext G' h₂ h₅) h₅ h₆, rfl, rfl, ⟨hlt, ?_, ?_, by rw [hD₇]; simp, lb.trans ((Ext.le sb₂).trans (Ext.le sb₅)), ?_, ?_, l6 (by simp) gC, l6 (by simp) gD, fun b hb => l6 (by simp [hb]) (gw b hb), ?_, ?_⟩⟩
          · exact IT.frame _ _ _ st₂ fun b hb o e => up7 b o (hwn b hb).2 (kp₆ b o (kp₅' b o e))
          · exact ((hn₂.keeps kp₅').keeps kp₆).sameBut hs₇ (Ne.symm hDC)
          · intro a o e
            exact up7 a o (fun q => by rw [q, l6 (by simp) gD] at e; cases e) (Ext.sub sb₅ kp₆ a o e)
          · intro a o e q
            obtain ⟨o', ho'⟩ := Option.isSome_iff_exists.mp q
            rw [Ext.live (kp₅' _ _ (kp₂ a o' ho'))] at e
            exact old5 a o e q
          · intro b o e
            exact up7 b o (fun q => by rw [q, none_back k₂ nD] at e; cases e) (kp₆ b o (kp₅' b o (kp₂ b o e)))
          · have : ((List.range (i + 1)).filter p).map ds = ((List.range i).filter p).map ds ++ [ds i] := by rw [List.range_succ, List.filter_append]; simp [hp]
            rw [this]
            exact RdAll.append (RdAll.one r₆) (rr.mono ((Ext.le sb₂).trans (Ext.le sb₅)))
    · have hin : i = N := by lia
      subst hin
      refine wpAny_mono (IT.done { s₂ with heap := h, toks := tk } (fun s' => ∃ h' tk', s' = { s₂ with heap := h', toks := tk' } ∧ ∀ b o, b ∉ wr → h.get? b = some o → h'.get? b = some o) Fls hst' (fun a o e => sb a o (lb a o e)) fun h' tk' q => ⟨h', tk', rfl, q⟩) (fun r s₄ hr => ?_) fun _ _ f => f
      cases r with
      | some _ => exact hr.elim
      | none =>
        obtain ⟨h', tk', rfl, up⟩ := hr
        have kp'' : ∀ b o, s.heap.get? b = some o → h'.get? b = some o := fun b o e => up b o (fun q => by rw [hwr b q] at e; cases e) (kp b o e)
        have ks : Keeps s { s₂ with heap := h', toks := tk' } := by
          obtain ⟨h2, tk2, rfl, _⟩ := k₂
          exact ⟨h', tk', rfl, kp''⟩
        refine hfin D C _ m ys.toArray kk ks (none_back k₂ nD) (none_back k₂ nC) hDC (hn.at' fun o e => up C o hCw e) (up D _ hDw hD) ?_
        have le : Le G' (Cut (Ext G s.heap h') [D, C]) := fun a o e => by
          have haC : a ≠ C := fun q => by rw [q, gC] at e; cases e
          have haD : a ≠ D := fun q => by rw [q, gD] at e; cases e
          have haw : a ∉ wr := fun q => by rw [gw a q] at e; cases e
          rw [Cut.off (by simp [haD, haC])]
          cases q : s.heap.get? a with
          | some o' => rw [Ext.live q]; exact ob a o e (by rw [q]; rfl)
          | none => rw [Ext.new q]; exact up a o haw (sb a o e)
        simpa using rr.mono le
  · simpa using hns₁
  · intro a o e q
    obtain ⟨o', ho'⟩ := Option.isSome_iff_exists.mp q
    have := Cut.le a o e
    rw [Ext.live ho'] at this
    exact this
  · exact sub_none subGb nC
  · exact sub_none subGb nD
theorem EvF.comp {elt tg iter : Expr} {ifs : List Expr} {scope : Scope} {pos : Pos} {ns : List Str} {N : Nat} {bs : Nat → List PyData} (Γc : Gam) (p : Nat → Bool) (ds : Nat → PyData)
    (hS : Src prog w h₀ n sc Γ O iter tg ns N bs) (hk : scope.kind = .function) (hcell : ∀ y ∈ scope.names, y.2 ≠ .cell) (hnames : ∀ y ∈ scope.names, y.2 = .local → scope.names.lookup y.1 = some .local)
    (hns : ∀ x ∈ ns, scope.names.lookup x = some .local) (hfree : ∀ y ∈ scope.names, y.2 = .free → sc.names.lookup y.1 = some .cell ∧ (Γ.lookup y.1).isSome = true)
    (hc : ∀ x d, Γc.lookup x = some d → Γ.lookup x = some d ∧ (x, NameKind.free) ∈ scope.names ∧ scope.names.lookup x = some .free)
    (hT : ∀ i, i < N → TstL prog w h₀ n (relabelS scope sc) (ns.zip (bs i) ++ Γc) none ifs (p i))
    (hE : ∀ i, i < N → p i = true → Ev prog w h₀ n (relabelS scope sc) (ns.zip (bs i) ++ Γc) none elt (ds i))
    (hN : N ≤ sizeLine) (hf : ∀ env x, foldedSetIterable iter env x = pure x := by intro _ _; rfl) :
    EvF prog w h₀ n sc Γ O (.ListComp elt [⟨tg, iter, ifs, 0⟩] scope pos) (((List.range N).filter p).map ds) := by
  intro A env G s c
  rw [eval_ListComp]
  refine comp_core Γc p ds hS hk hcell hnames hns hfree hc hT hE hN hf c fun D C s' m ys kk k nD nC hDC hn hD r => ?_
  refine ⟨m, hn, fun h'' hs'' => ?_⟩
  have kp'' : Kp s.heap h'' := fun b o e => hs''.extBut b o (fun q => by rw [q, nC] at e; cases e) (kKp k b o e)
  have ks : Keeps s { s' with heap := h'' } := by
    obtain ⟨h2, tk2, rfl, _⟩ := k
    exact ⟨h'', tk2, rfl, kp''⟩
  refine ⟨ks, D, ys, kk, rfl, nD, hs''.extBut D _ hDC hD, r.mono fun a o e => ?_⟩
  have ha : a ∉ [D, C] := fun q => by rw [Cut.on q] at e; cases e
  have haD : a ∉ [D] := fun q => ha (by rw [List.mem_singleton.mp q]; simp)
  have haC : a ≠ C := fun q => ha (by rw [q]; simp)
  rw [Cut.off ha] at e
  rw [Cut.off haD]
  cases q : s.heap.get? a with
  | some o' => rw [Ext.live q] at e ⊢; exact e
  | none => rw [Ext.new q] at e ⊢; exact hs''.extBut a o haC e
end
end Mine

/-! part Fw8 -/
namespace Mine
open PySem PySem.W PyProof.Rows

def OwnObj (b : Bool) (h : Heap) (F : Addr) (vs : Array Value) : Prop := if b then PlainL h F vs else h.IsList F vs
theorem OwnObj.isList {b : Bool} {h : Heap} {F : Addr} {vs : Array Value} (x : OwnObj b h F vs) : h.IsList F vs := by
  cases b with
  | true => exact PlainL.isList x
  | false => exact x
theorem OwnObj.at {b : Bool} {h h' : Heap} {F : Addr} {vs : Array Value} (x : OwnObj b h F vs) (k : ∀ o, h.get? F = some o → h'.get? F = some o) : OwnObj b h' F vs := by
  cases b with
  | true => obtain ⟨o, n, e, r⟩ := x; exact ⟨o, n, k _ e, r⟩
  | false => exact Heap.IsList.at x k

section
variable (prog : Program) (w : World) (h₀ : Heap)

structure St (env : Env) (s₀ : Shared) (G₀ : PM) (Z : PM) (Γ : Gam) (O : Own) (G : PM) (m : Str → Option Value) (s : Shared) : Prop where
  keep : Keeps s₀ s
  ns : s.heap.Ns env.locals m
  sub : Sub G s.heap
  le : Le G₀ G
  old : ∀ a o, G a = some o → (s₀.heap.get? a).isSome = true → G₀ a = some o
  nL : G env.locals = none
  nL₀ : s₀.heap.get? env.locals = none
  gam : ∀ x d, Γ.lookup x = some d → (env.kindOf x = some .local ∧ ∃ v, m x = some v ∧ Rd G v d) ∨ (env.kindOf x = some .cell ∧ ∃ b v o, env.cells.lookup x = some b ∧ G b = some o ∧ o.data = .cell (some v) ∧ Rd G v d)
  own : ∀ x b ds, O = some (x, b, ds) → env.kindOf x = some .local ∧ ∃ F vs, m x = some (.ref F) ∧ OwnObj b s.heap F vs ∧ G F = none ∧ s₀.heap.get? F = none ∧ F ≠ env.locals ∧ Z F = none ∧ RdAll G vs.toList ds
  z : ∀ a o, Z a = some o → s.heap.get? a = some o ∧ G a = none ∧ a ≠ env.locals

def Stt (env : Env) (s₀ : Shared) (G₀ : PM) (Z : PM) (G : PM) (Γ : Gam) (O : Own) (s : Shared) : Prop := ∃ G' m, Le G G' ∧ St env s₀ G₀ Z Γ O G' m s

structure Fx (n : Nat) (sc : Scope) (A : Around) (env : Env) (s₀ : Shared) (G₀ : PM) : Prop where
  room : Room A n
  scope : env.scope = sc
  ok : EnvOk env
  sub : Sub G₀ s₀.heap
  base : Le h₀.get? G₀

inductive Out where
  | next (Γ : Gam) (O : Own)
  | ret (d : PyData)
  | retF (ds : List PyData)

def Ends (env : Env) (s₀ : Shared) (G₀ : PM) (Z : PM) (G : PM) (out : Out) (f : Flow) (s' : Shared) : Prop :=
  match out, f with
  | .next Γ O, .next => Stt env s₀ G₀ Z G Γ O s'
  | .ret d, .ret v => Keeps s₀ s' ∧ Rd (Ext G₀ s₀.heap s'.heap) v d
  | .retF ds, .ret v => Keeps s₀ s' ∧ ∃ F vs, v = .ref F ∧ s₀.heap.get? F = none ∧ s'.heap.IsList F vs ∧ RdAll (Cut (Ext G₀ s₀.heap s'.heap) [F]) vs.toList ds
  | _, _ => False

def Ex (n : Nat) (sc : Scope) (Γ : Gam) (O : Own) (ss : List Stmt) (out : Out) : Prop :=
  ∀ A env s₀ G₀ Z G m s, Fx h₀ n sc A env s₀ G₀ → St env s₀ G₀ Z Γ O G m s → wpAny (model prog w) A (execs ss env) (Ends env s₀ G₀ Z G out) Fls s
def Ex1 (n : Nat) (sc : Scope) (Γ : Gam) (O : Own) (st : Stmt) (out : Out) : Prop :=
  ∀ A env s₀ G₀ Z G m s, Fx h₀ n sc A env s₀ G₀ → St env s₀ G₀ Z Γ O G m s → wpAny (model prog w) A (exec st env) (Ends env s₀ G₀ Z G out) Fls s
/-- a while's turns from here on -/
def WL (n : Nat) (sc : Scope) (test : Expr) (body : List Stmt) (Γ : Gam) (O : Own) (out : Out) : Prop :=
  ∀ A env s₀ G₀ Z G m s, Fx h₀ n sc A env s₀ G₀ → St env s₀ G₀ Z Γ O G m s → codeAny (model prog w) A (.whileLoop test body [] env) (fun r s' => match r with | .ok f => Ends env s₀ G₀ Z G out f s' | .error _ => False) s
end

section
variable {prog : Program} {w : World} {h₀ : Heap} {n : Nat} {sc : Scope} {Γ Γ' : Gam} {O O' : Own} {Pg : Program} {mg : Str → Option Value}
variable {A : Around} {env : Env} {s₀ s s' : Shared} {G₀ Z G : PM} {m : Str → Option Value}

theorem St.cx (t : St env s₀ G₀ Z Γ O G m s) (f : Fx h₀ n sc A env s₀ G₀) : Cx prog w h₀ n sc Γ O A env G s where
  room := f.room
  scope := f.scope
  ok := f.ok
  sub := t.sub
  base := f.base.trans t.le
  sat := fun x d e => by
    rcases t.gam x d e with ⟨hk, v, hm, r⟩ | ⟨hk, b, v, o, hb, ho, hd, r⟩
    · exact ⟨v, fun A' Q E s'' kk hq => wpAny_loadName_local f.ok.k hk (t.ns.keeps kk) hm hq, r⟩
    · exact ⟨v, fun A' Q E s'' kk hq => wpAny_loadName_cell f.ok.k hk hb ⟨o, kk _ _ (t.sub _ _ ho), hd⟩ hq, r⟩
  satO := fun x b ds e => by
    obtain ⟨hk, F, vs, hm, ho, _, _, _, _, r⟩ := t.own x b ds e
    exact ⟨F, vs, fun A' Q E s'' kk hq => wpAny_loadName_local f.ok.k hk (t.ns.keeps kk) hm hq, ho.isList, r⟩
  satC := fun x d e hk => by
    rcases t.gam x d e with ⟨hk', _⟩ | ⟨_, b, v, o, hb, ho, hd, r⟩
    · rw [hk'] at hk; cases hk
    · exact ⟨b, v, hb, ⟨o, t.sub _ _ ho, hd⟩, r⟩

theorem St.on (t : St env s₀ G₀ Z Γ O G m s) (k : Keeps s s') : St env s₀ G₀ Z Γ O (Ext G s.heap s'.heap) m s' where
  keep := kTrans t.keep k
  ns := t.ns.keeps (kKp k)
  sub := Ext.sub t.sub (kKp k)
  le := t.le.trans (Ext.le t.sub)
  old := fun a o e q => by
    obtain ⟨o', ho'⟩ := Option.isSome_iff_exists.mp q
    rw [Ext.live (kKp t.keep _ _ ho')] at e
    exact t.old a o e q
  nL := by
    obtain ⟨o, _, _, ho, _⟩ := t.ns
    rw [Ext.live ho]; exact t.nL
  nL₀ := t.nL₀
  gam := fun x d e => (t.gam x d e).imp (fun ⟨a, v, b, r⟩ => ⟨a, v, b, r.mono (Ext.le t.sub)⟩) fun ⟨a, b, v, o, c, d, e, r⟩ => ⟨a, b, v, o, c, Ext.le t.sub _ _ d, e, r.mono (Ext.le t.sub)⟩
  own := fun x b ds e => by
    obtain ⟨hk, F, vs, hm, ho, gF, h0, hL, hz, r⟩ := t.own x b ds e
    refine ⟨hk, F, vs, hm, ho.at fun o q => kKp k _ _ q, ?_, h0, hL, hz, r.mono (Ext.le t.sub)⟩
    obtain ⟨o, hF, _⟩ := ho.isList
    rw [Ext.live hF]; exact gF
  z := fun a o e => by
    obtain ⟨ha, g, l⟩ := t.z a o e
    exact ⟨kKp k _ _ ha, by rw [Ext.live ha]; exact g, l⟩

/-- the frame's names stored, all else kept -/
theorem St.store (t : St env s₀ G₀ Z Γ O G m s) {h' : Heap} {tk : Nat} {m' : Str → Option Value} {ns : List Str} {ds : List PyData} (hn : h'.Ns env.locals m') (hs : Heap.SameBut env.locals s.heap h') (b : BindOk G ns ds m m') (hl : ns.length = ds.length) (hk : ∀ x ∈ ns, env.kindOf x = some .local)
    (ho : ∀ x b ds, O = some (x, b, ds) → x ∉ ns) : St env s₀ G₀ Z (ns.zip ds ++ Γ) O G m' { s with heap := h', toks := tk } where
  keep := by
    obtain ⟨h, tk', rfl, kp⟩ := t.keep
    exact ⟨h', tk, rfl, fun b o e => hs.extBut b o (fun q => by rw [q, t.nL₀] at e; cases e) (kp b o e)⟩
  ns := hn
  sub := fun a o e => hs.extBut a o (fun q => by rw [q, t.nL] at e; cases e) (t.sub a o e)
  le := t.le
  old := t.old
  nL := t.nL
  nL₀ := t.nL₀
  gam := fun x d e => by
    rw [List.lookup_append] at e
    cases q : (ns.zip ds).lookup x with
    | some d' =>
      rw [q] at e; cases e
      exact .inl ⟨hk x (lookup_zip_mem q), b.here x d q⟩
    | none =>
      rw [q] at e
      have hx : x ∉ ns := by
        intro hx
        have : ∀ (ns : List Str) (ds : List PyData), ns.length = ds.length → x ∈ ns → (ns.zip ds).lookup x ≠ none := by
          intro ns
          induction ns with
          | nil => intro ds _ h; cases h
          | cons y ys ih =>
            intro ds hl h
            cases ds with
            | nil => cases hl
            | cons d ds =>
              simp only [List.zip_cons_cons, List.lookup_cons]
              cases hy : x == y with
              | true => simp
              | false =>
                rcases List.mem_cons.mp h with rfl | h
                · simp at hy
                · exact ih ds (by simpa using hl) h
        exact this ns ds hl hx q
      rcases t.gam x d e with ⟨hk', v, hm, r⟩ | h
      · exact .inl ⟨hk', v, by rw [b.rest x hx]; exact hm, r⟩
      · exact .inr h
  own := fun x bb ds' e => by
    obtain ⟨hk', F, vs, hm, hob, gF, h0, hL, hz, r⟩ := t.own x bb ds' e
    exact ⟨hk', F, vs, by rw [b.rest x (ho x bb ds' e)]; exact hm, hob.at fun o q => hs.extBut F o hL q, gF, h0, hL, hz, r⟩
  z := fun a o e => by
    obtain ⟨ha, g, l⟩ := t.z a o e
    exact ⟨hs.extBut a o l ha, g, l⟩

theorem bind_one {G : PM} {m : Str → Option Value} {x : Str} {v : Value} {d : PyData} (r : Rd G v d) : BindOk G [x] [d] m (fun y => if y = x then some v else m y) where
  here := fun y d' q => by
    simp only [List.zip_cons_cons, List.zip_nil_right, List.lookup_cons, List.lookup_nil] at q
    by_cases hy : y = x
    · subst hy; simp at q; subst q; exact ⟨v, if_pos rfl, r⟩
    · have : (y == x) = false := by simpa using hy
      rw [this] at q; cases q
  rest := fun y hy => by
    have : y ≠ x := by simpa using hy
      
    simp [this]

/-! sequences -/
theorem Ends.le {G' : PM} {out : Out} {f : Flow} (l : Le G G') (e : Ends env s₀ G₀ Z G' out f s) : Ends env s₀ G₀ Z G out f s := by
  cases out with
  | next Γ O =>
    cases f with
    | next => obtain ⟨G₁, m, l₁, t⟩ := e; exact ⟨G₁, m, l.trans l₁, t⟩
    | _ => exact e.elim
  | ret d => cases f with
    | ret v => exact e
    | _ => exact e.elim
  | retF d => cases f with
    | ret v => exact e
    | _ => exact e.elim
theorem Ex.nil : Ex prog w h₀ n sc Γ O [] (.next Γ O) := fun A env s₀ G₀ Z G m s _ t => wpAny_execs_nil ⟨G, m, Le.rfl', t⟩
theorem Ex.cons {st : Stmt} {ss : List Stmt} {out : Out} (h : Ex1 prog w h₀ n sc Γ O st (.next Γ' O')) (hs : Ex prog w h₀ n sc Γ' O' ss out) : Ex prog w h₀ n sc Γ O (st :: ss) out := by
  intro A env s₀ G₀ Z G m s f t
  refine wpAny_execs_cons (wpAny_mono (h A env s₀ G₀ Z G m s f t) (fun fl s' e => ?_) fun _ _ x => x)
  cases fl with
  | next =>
    obtain ⟨G₁, m₁, l₁, t₁⟩ := e
    exact wpAny_mono (hs A env s₀ G₀ Z G₁ m₁ s' f t₁) (fun _ _ e => Ends.le l₁ e) fun _ _ x => x
  | _ => exact e.elim
theorem Ex.ret {st : Stmt} {ss : List Stmt} {d : PyData} (h : Ex1 prog w h₀ n sc Γ O st (.ret d)) : Ex prog w h₀ n sc Γ O (st :: ss) (.ret d) := by
  intro A env s₀ G₀ Z G m s f t
  refine wpAny_execs_cons (wpAny_mono (h A env s₀ G₀ Z G m s f t) (fun fl s' e => ?_) fun _ _ x => x)
  cases fl with
  | ret v => exact e
  | _ => exact e.elim
theorem Ex.retF {st : Stmt} {ss : List Stmt} {d : List PyData} (h : Ex1 prog w h₀ n sc Γ O st (.retF d)) : Ex prog w h₀ n sc Γ O (st :: ss) (.retF d) := by
  intro A env s₀ G₀ Z G m s f t
  refine wpAny_execs_cons (wpAny_mono (h A env s₀ G₀ Z G m s f t) (fun fl s' e => ?_) fun _ _ x => x)
  cases fl with
  | ret v => exact e
  | _ => exact e.elim

def Wk (Γ Γ' : Gam) : Prop := ∀ x d, Γ'.lookup x = some d → Γ.lookup x = some d
theorem St.weak (hw : Wk Γ Γ') (t : St env s₀ G₀ Z Γ O G m s) : St env s₀ G₀ Z Γ' O G m s := { t with gam := fun x d e => t.gam x d (hw x d e) }
theorem Stt.weak (hw : Wk Γ Γ') (t : Stt env s₀ G₀ Z G Γ O s) : Stt env s₀ G₀ Z G Γ' O s := by
  obtain ⟨G', m, l, t⟩ := t
  exact ⟨G', m, l, t.weak hw⟩
theorem Ex.weak {ss : List Stmt} {out : Out} (hw : Wk Γ Γ') (h : Ex prog w h₀ n sc Γ' O ss out) : Ex prog w h₀ n sc Γ O ss out :=
  fun A env s₀ G₀ Z G m s f t => h A env s₀ G₀ Z G m s f (t.weak hw)
theorem Ex1.weak {ss : Stmt} {out : Out} (hw : Wk Γ Γ') (h : Ex1 prog w h₀ n sc Γ' O ss out) : Ex1 prog w h₀ n sc Γ O ss out :=
  fun A env s₀ G₀ Z G m s f t => h A env s₀ G₀ Z G m s f (t.weak hw)
theorem Ends.weak {Γ₁ : Gam} {O₁ : Own} {f : Flow} (hw : Wk Γ₁ Γ') (e : Ends env s₀ G₀ Z G (.next Γ₁ O₁) f s) : Ends env s₀ G₀ Z G (.next Γ' O₁) f s := by
  cases f with
  | next => exact Stt.weak hw e
  | _ => exact e.elim
theorem Ex.weakOut {ss : List Stmt} {Γ₁ : Gam} {O₁ : Own} (hw : Wk Γ₁ Γ') (h : Ex prog w h₀ n sc Γ O ss (.next Γ₁ O₁)) : Ex prog w h₀ n sc Γ O ss (.next Γ' O₁) :=
  fun A env s₀ G₀ Z G m s f t => wpAny_mono (h A env s₀ G₀ Z G m s f t) (fun _ _ e => Ends.weak hw e) fun _ _ x => x

/-- what was held alone becomes a datum -/
theorem St.freeze {x : Str} {b : Bool} {ds : List PyData} (t : St env s₀ G₀ Z Γ (some (x, b, ds)) G m s) : Stt env s₀ G₀ Z G ((x, .list ds) :: Γ) none s := by
  obtain ⟨hk, F, vs, hm, hob, gF, h0, hL, hz, r⟩ := t.own x b ds rfl
  obtain ⟨o, hF, hc, k, hd⟩ := hob.isList
  let G' : PM := fun a => if a = F then some o else G a
  have le : Le G G' := fun a o' e => by
    show (if a = F then some o else G a) = some o'
    rw [if_neg (fun q => by rw [q, gF] at e; cases e)]; exact e
  have hG' : G' F = some o := if_pos rfl
  have off : ∀ a, a ≠ F → G' a = G a := fun a h => if_neg h
  refine ⟨G', m, le, t.keep, t.ns, ?_, t.le.trans le, ?_, ?_, t.nL₀, ?_, fun x b ds e => (nomatch e), ?_⟩
  · intro a o' e
    by_cases q : a = F
    · subst q; rw [hG'] at e; cases e; exact hF
    · rw [off a q] at e; exact t.sub a o' e
  · intro a o' e q
    by_cases q' : a = F
    · subst q'; rw [h0] at q; cases q
    · rw [off a q'] at e; exact t.old a o' e q
  · rw [off _ (Ne.symm hL)]; exact t.nL
  · intro y d e
    rw [List.lookup_cons] at e
    cases hy : y == x with
    | true =>
      rw [hy] at e; cases e
      obtain rfl := beq_iff_eq.mp hy
      exact .inl ⟨hk, _, hm, .list hG' hc hd (r.mono le)⟩
    | false =>
      rw [hy] at e
      exact (t.gam y d e).imp (fun ⟨a, v, b, r⟩ => ⟨a, v, b, r.mono le⟩) fun ⟨a, b, v, o, c, d, e, r⟩ => ⟨a, b, v, o, c, le _ _ d, e, r.mono le⟩
  · intro a o' e
    obtain ⟨ha, g, l⟩ := t.z a o' e
    refine ⟨ha, ?_, l⟩
    rw [off a (fun q => by rw [q, hz] at e; cases e)]; exact g
theorem Ex.freeze {x : Str} {b : Bool} {ds : List PyData} {ss : List Stmt} {out : Out} (h : Ex prog w h₀ n sc ((x, .list ds) :: Γ) none ss out) : Ex prog w h₀ n sc Γ (some (x, b, ds)) ss out :=
  fun A env s₀ G₀ Z G m s f t => by
    obtain ⟨G₁, m₁, l, t₁⟩ := t.freeze
    exact wpAny_mono (h A env s₀ G₀ Z G₁ m₁ s f t₁) (fun _ _ e => Ends.le l e) fun _ _ x => x
theorem Ex1.freeze {x : Str} {b : Bool} {ds : List PyData} {ss : Stmt} {out : Out} (h : Ex1 prog w h₀ n sc ((x, .list ds) :: Γ) none ss out) : Ex1 prog w h₀ n sc Γ (some (x, b, ds)) ss out :=
  fun A env s₀ G₀ Z G m s f t => by
    obtain ⟨G₁, m₁, l, t₁⟩ := t.freeze
    exact wpAny_mono (h A env s₀ G₀ Z G₁ m₁ s f t₁) (fun _ _ e => Ends.le l e) fun _ _ x => x

/-! returns -/
theorem Ex1.ret {e : Expr} {pos : Pos} {d : PyData} (h : Ev prog w h₀ n sc Γ O e d) : Ex1 prog w h₀ n sc Γ O (.Return (some e) pos) (.ret d) := by
  intro A env s₀ G₀ Z G m s f t
  refine wpAny_Return_some (wpAny_mono (h A env G s (t.cx f)) (fun v s' ⟨k, r⟩ => ?_) fun _ _ x => x)
  refine ⟨kTrans t.keep k, r.mono fun a o e => ?_⟩
  have t' := t.on k
  cases q : s₀.heap.get? a with
  | some o' => rw [Ext.live q]; exact t'.old a o e (by rw [q]; rfl)
  | none => rw [Ext.new q]; exact t'.sub a o e
theorem Ex1.retF {x : Str} {b : Bool} {ds : List PyData} {p pos : Pos} (hd : (x == ("__debug__" : Str)) = false := by decide) : Ex1 prog w h₀ n sc Γ (some (x, b, ds)) (.Return (some (.Name x p)) pos) (.retF ds) := by
  intro A env s₀ G₀ Z G m s f t
  obtain ⟨hk, F, vs, hm, hob, gF, h0, hL, hz, r⟩ := t.own x b ds rfl
  refine wpAny_Return_some (wpAny_Name (wpAny_loadName_local f.ok.k hk t.ns hm ?_) hd)
  refine ⟨t.keep, F, vs, rfl, h0, hob.isList, r.mono fun a o e => ?_⟩
  rw [Cut.off (by simp; intro q; rw [q, gF] at e; cases e)]
  cases q : s₀.heap.get? a with
  | some o' => rw [Ext.live q]; exact t.old a o e (by rw [q]; rfl)
  | none => rw [Ext.new q]; exact t.sub a o e

/-! ifs -/
theorem Ex1.iff {t : Expr} {a b : List Stmt} {pos : Pos} {c : Bool} {out : Out} (ht : Tst prog w h₀ n sc Γ O t c) (h : if c then Ex prog w h₀ n sc Γ O a out else Ex prog w h₀ n sc Γ O b out) : Ex1 prog w h₀ n sc Γ O (.If t a b pos) out := by
  intro A env s₀ G₀ Z G m s f tt
  refine wpAny_If (wpAny_mono (ht A env G s (tt.cx f)) (fun v s' ⟨k, r⟩ => ?_) fun _ _ x => x)
  subst r
  cases v with
  | true => exact wpAny_mono (h A env s₀ G₀ Z _ m s' f (tt.on k)) (fun _ _ e => Ends.le (Ext.le tt.sub) e) fun _ _ x => x
  | false => exact wpAny_mono (h A env s₀ G₀ Z _ m s' f (tt.on k)) (fun _ _ e => Ends.le (Ext.le tt.sub) e) fun _ _ x => x

/-! stores of names -/
theorem Ex1.asg {x : Str} {p pos : Pos} {e : Expr} {d : PyData} (h : Ev prog w h₀ n sc Γ O e d) (hx : sc.names.lookup x = some .local) (ho : ∀ y b ds, O = some (y, b, ds) → y ≠ x)
    (hs : ∀ env, swapsWith e (some (.Name x p)) pos.line env = pure false := by intro _; rfl) : Ex1 prog w h₀ n sc Γ O (.Assign [.Name x p] e pos) (.next ((x, d) :: Γ) O) := by
  intro A env s₀ G₀ Z G m s f t
  refine wpAny_Assign_Name (wpAny_mono (h A env G s (t.cx f)) (fun v s' ⟨k, r⟩ => ?_) fun _ _ x => x) (hs env)
  have t' := t.on k
  have hk : env.kindOf x = some .local := by unfold Env.kindOf; rw [f.scope]; exact hx
  refine wpAny_storeName_local hk t'.ns (fun h' hn hsb => ?_) (local_ok f.ok)
  exact ⟨_, _, Ext.le t.sub, t'.store (ns := [x]) (ds := [d]) hn hsb (bind_one r) rfl (fun y hy => by rw [List.mem_singleton.mp hy]; exact hk) fun y b ds e hy => ho y b ds e (List.mem_singleton.mp hy)⟩

theorem Ex1.aug {x : Str} {p pos : Pos} {e : Expr} {o : Operator} {i j k : Int} (hxi : Γ.lookup x = some (.int i)) (h : Ev prog w h₀ n sc Γ O e (.int j)) (hx : sc.names.lookup x = some .local) (ho : ∀ y b ds, O = some (y, b, ds) → y ≠ x)
    (hop : ∀ (A : Around) (s : Shared) (t u : Tok) (Q : Value → Shared → Prop), (∀ v tk, Q (.int k v) { s with toks := tk }) → wpAny (model prog w) A (inplaceOp o (.int i t) (.int j u)) Q Fls s) : Ex1 prog w h₀ n sc Γ O (.AugAssign (.Name x p) o e pos) (.next ((x, .int k) :: Γ) O) := by
  intro A env s₀ G₀ Z G m s f t
  obtain ⟨v, l, r⟩ := (t.cx (prog := prog) (w := w) f).sat x _ hxi
  obtain ⟨tv, rfl⟩ := r.intAt
  refine wpAny_AugAssign_Name (l.here (wpAny_mono (h A env G s (t.cx f)) (fun v s' ⟨kk, r'⟩ => ?_) fun _ _ x => x))
  obtain ⟨u, rfl⟩ := r'.intAt
  refine hop A s' _ _ _ fun vt tk => ?_
  have t' := t.on kk
  have hk : env.kindOf x = some .local := by unfold Env.kindOf; rw [f.scope]; exact hx
  refine wpAny_storeName_local hk t'.ns (fun h' hn hsb => ?_) (local_ok f.ok)
  have := t'.store (tk := tk + 1) (ns := [x]) (ds := [.int k]) hn hsb (bind_one (.int k vt)) rfl (fun y hy => by rw [List.mem_singleton.mp hy]; exact hk) fun y b ds e hy => ho y b ds e (List.mem_singleton.mp hy)
  exact ⟨_, _, Ext.le t.sub, this⟩
end
end Mine

/-! part Fw9 -/
namespace Mine
open PySem PySem.W PyProof.Rows

section
variable {prog : Program} {w : World} {h₀ : Heap} {n : Nat} {sc : Scope} {Γ Γ' : Gam} {O O' : Own} {Pg : Program} {mg : Str → Option Value}

/-! a list held alone -/
theorem St.grab {env : Env} {s₀ s : Shared} {G₀ Z G : PM} {m m' : Str → Option Value} {h' : Heap} {tk : Nat} {x : Str} {F : Addr} {vs : Array Value} {k : Nat} {ds : List PyData} (t : St env s₀ G₀ Z Γ none G m s) (hn : h'.Ns env.locals m') (hs : Heap.SameBut env.locals s.heap h')
    (hm : m' x = some (.ref F)) (hr : ∀ y, y ≠ x → m' y = m y) (hx : env.kindOf x = some .local) (hF : s.heap.get? F = some ({ cls := .type "list", data := .seq vs k } : Obj)) (gF : G F = none) (h0 : s₀.heap.get? F = none) (hz : Z F = none) (hL : F ≠ env.locals) (r : RdAll G vs.toList ds) (hg : Γ.lookup x = none) :
    St env s₀ G₀ Z Γ (some (x, true, ds)) G m' { s with heap := h', toks := tk } where
  keep := by
    obtain ⟨h, tk', rfl, kp⟩ := t.keep
    exact ⟨h', tk, rfl, fun b o e => hs.extBut b o (fun q => by rw [q, t.nL₀] at e; cases e) (kp b o e)⟩
  ns := hn
  sub := fun a o e => hs.extBut a o (fun q => by rw [q, t.nL] at e; cases e) (t.sub a o e)
  le := t.le
  old := t.old
  nL := t.nL
  nL₀ := t.nL₀
  gam := fun y d e => by
    have hy : y ≠ x := fun q => by rw [q, hg] at e; cases e
    exact (t.gam y d e).imp (fun ⟨a, v, b, r⟩ => ⟨a, v, by rw [hr y hy]; exact b, r⟩) id
  own := fun y b ds' e => by
    cases e
    exact ⟨hx, F, vs, hm, ⟨_, k, hs.extBut F _ hL hF, rfl, rfl, rfl⟩, gF, h0, hL, hz, r⟩
  z := fun a o e => by
    obtain ⟨ha, g, l⟩ := t.z a o e
    exact ⟨hs.extBut a o l ha, g, l⟩

/-- a fresh list taken out of the sight -/
theorem St.cut {env : Env} {s₀ s s' : Shared} {G₀ Z G : PM} {m : Str → Option Value} {F : Addr} (t : St env s₀ G₀ Z Γ none G m s) (k : Keeps s s') (hF : s.heap.get? F = none) : St env s₀ G₀ Z Γ none (Cut (Ext G s.heap s'.heap) [F]) m s' := by
  have t' := t.on k
  have le : Le G (Cut (Ext G s.heap s'.heap) [F]) := Cut.keep t.sub (Ext.le t.sub) fun a h => by rw [List.mem_singleton.mp h]; exact hF
  exact { t' with
    sub := fun a o e => t'.sub a o (Cut.le a o e)
    le := t.le.trans le
    old := fun a o e => t'.old a o (Cut.le a o e)
    nL := le_none Cut.le t'.nL
    gam := fun x d e => (t.gam x d e).imp (fun ⟨a, v, b, r⟩ => ⟨a, v, b, r.mono le⟩) fun ⟨a, b, v, o, c, d, e, r⟩ => ⟨a, b, v, o, c, le _ _ d, e, r.mono le⟩
    own := fun x b ds e => nomatch e
    z := fun a o e => by
      obtain ⟨h1, h2, h3⟩ := t'.z a o e
      exact ⟨h1, le_none Cut.le h2, h3⟩ }

theorem Ex1.asgF {x : Str} {p pos : Pos} {e : Expr} {ds : List PyData} (h : EvF prog w h₀ n sc Γ none e ds) (hx : sc.names.lookup x = some .local) (hg : Γ.lookup x = none)
    (hs : ∀ env, swapsWith e (some (.Name x p)) pos.line env = pure false := by intro _; rfl) : Ex1 prog w h₀ n sc Γ none (.Assign [.Name x p] e pos) (.next Γ (some (x, true, ds))) := by
  intro A env s₀ G₀ Z G m s f t
  refine wpAny_Assign_Name (wpAny_mono (h A env G s (t.cx f)) (fun v s' ⟨k, F, vs, kk, hv, hF0, hF, r⟩ => ?_) fun _ _ x => x) (hs env)
  subst hv
  have t' := t.cut k hF0
  have hk : env.kindOf x = some .local := by unfold Env.kindOf; rw [f.scope]; exact hx
  have hFL : F ≠ env.locals := fun q => by
    obtain ⟨o, _, _, ho, _⟩ := t.ns
    rw [← q, hF0] at ho; cases ho
  have hz : Z F = none := by
    cases q : Z F with
    | none => rfl
    | some o => have := (t.z F o q).1; rw [hF0] at this; cases this
  refine wpAny_storeName_local hk t'.ns (fun h' hn hsb => ?_) (local_ok f.ok)
  exact ⟨_, _, Cut.keep t.sub (Ext.le t.sub) (fun a h => by rw [List.mem_singleton.mp h]; exact hF0), t'.grab hn hsb (if_pos rfl) (fun y hy => if_neg hy) hk hF (Cut.on (by simp)) (none_back t.keep hF0) hz hFL r hg⟩

/-! an item stored, an item appended -/
theorem St.turn {env : Env} {s₀ s : Shared} {G₀ Z G : PM} {m : Str → Option Value} {h' : Heap} {tk : Nat} {x : Str} {b b' : Bool} {F : Addr} {ws : Array Value} {ds ds' : List PyData} (t : St env s₀ G₀ Z Γ (some (x, b, ds)) G m s) (hm : m x = some (.ref F)) (hs : Heap.SameBut F s.heap h')
    (gF : G F = none) (h0 : s₀.heap.get? F = none) (hL : F ≠ env.locals) (hz : Z F = none) (ho : OwnObj b' h' F ws) (r : RdAll G ws.toList ds') : St env s₀ G₀ Z Γ (some (x, b', ds')) G m { s with heap := h', toks := tk } where
  keep := by
    obtain ⟨h, tk', rfl, kp⟩ := t.keep
    exact ⟨h', tk, rfl, fun b o e => hs.extBut b o (fun q => by rw [q, h0] at e; cases e) (kp b o e)⟩
  ns := t.ns.sameBut hs (Ne.symm hL)
  sub := fun a o e => hs.extBut a o (fun q => by rw [q, gF] at e; cases e) (t.sub a o e)
  le := t.le
  old := t.old
  nL := t.nL
  nL₀ := t.nL₀
  gam := t.gam
  own := fun y bb ds'' e => by
    cases e
    exact ⟨(t.own x b ds rfl).1, F, ws, hm, ho, gF, h0, hL, hz, r⟩
  z := fun a o e => by
    obtain ⟨ha, g, l⟩ := t.z a o e
    exact ⟨hs.extBut a o (fun q => by rw [q, hz] at e; cases e) ha, g, l⟩

theorem Ex1.put {x : Str} {b : Bool} {ds : List PyData} {p p' pos : Pos} {i e : Expr} {k : Int} {d : PyData} (he : Ev prog w h₀ n sc Γ (some (x, b, ds)) e d) (hi : Ev prog w h₀ n sc Γ (some (x, b, ds)) i (.int k)) (h0 : 0 ≤ k) (hk : k < ds.length) (hz : ds.length ≤ 2 ^ 62)
    (hd : (x == ("__debug__" : Str)) = false := by decide) (hs : ∀ env, swapsWith e (some (.Subscript (.Name x p) i p')) pos.line env = pure false := by intro _; rfl) :
    Ex1 prog w h₀ n sc Γ (some (x, b, ds)) (.Assign [.Subscript (.Name x p) i p'] e pos) (.next Γ (some (x, false, ds.set k.toNat d))) := by
  intro A env s₀ G₀ Z G m s f t
  refine wpAny_Assign_Subscript (wpAny_mono (he A env G s (t.cx f)) (fun v s₁ ⟨k₁, r₁⟩ => ?_) fun _ _ x => x) (hs env)
  have t₁ := t.on k₁
  obtain ⟨hkx, F, vs, hm, hob, gF, h00, hL, hZ, r⟩ := t₁.own x b ds rfl
  refine wpAny_Name (wpAny_loadName_local f.ok.k hkx t₁.ns hm ?_) hd
  refine wpAny_mono (hi A env _ s₁ (t₁.cx f)) (fun iv s₂ ⟨k₂, r₂⟩ => ?_) fun _ _ x => x
  obtain ⟨u, rfl⟩ := r₂.intAt
  have t₂ := t₁.on k₂
  have hF₂ : s₂.heap.IsList F vs := hob.isList.at fun o q => kKp k₂ _ o q
  have hsz : vs.size = ds.length := by rw [← r.length]; simp
  refine wpAny_setItem_list hF₂ h0 (by lia) (by rw [hsz]; exact hk) fun h' hl' hsb => ?_
  have gF₂ : Ext (Ext G s.heap s₁.heap) s₁.heap s₂.heap F = none := by
    obtain ⟨o, hF, _⟩ := hob.isList
    rw [Ext.live hF]; exact gF
  have rr : RdAll (Ext (Ext G s.heap s₁.heap) s₁.heap s₂.heap) (vs.setIfInBounds k.toNat v).toList (ds.set k.toNat d) := by
    rw [Array.toList_setIfInBounds]
    exact RdAll.set (r₁.mono (Ext.le t₁.sub)) _ (r.mono (Ext.le t₁.sub))
  exact ⟨_, m, (Ext.le t.sub).trans (Ext.le t₁.sub), t₂.turn (tk := s₂.toks) hm hsb gF₂ h00 hL hZ (b' := false) hl' rr⟩

theorem Ex1.app {x : Str} {ds : List PyData} {p ap pos spos : Pos} {e : Expr} {d : PyData} (he : Ev prog w h₀ n sc Γ (some (x, true, ds)) e d) (hz : ds.length ≤ sizeLine)
    (hi : ∀ env : Env, env.scope = sc → interactive env = false := by (intro _ h; unfold interactive; rw [h]; rfl)) (hd : (x == ("__debug__" : Str)) = false := by decide)
    (hs : ∀ env, swapsWith (.Call (.Attribute (.Name x p) "append" ap) [e] [] pos) none spos.line env = pure false := by intro _; rfl)
    (hbase : ∀ env, attributeBase (.Name x p) "append" env (eval (.Name x p) env) = eval (.Name x p) env := by intro _; rfl)
    (hfew : ∀ env, ((backTo pos (starEach [e] env)).all (fun x => !x.1) && (backToKw pos (keywordEach [] env)).all (fun x => x.1.isSome) && decide (([e] : List Expr).length + ([] : List Keyword).length + (if ([] : List Keyword).isEmpty then 0 else 1) < 30)) = true := by intro _; rfl)
    (hline : (ap.endLine == pos.line) = true := by rfl) (htrees : ∀ env, backTo pos (starEach [e] env) = [(false, eval e env)] := by intro _; rfl) :
    Ex1 prog w h₀ n sc Γ (some (x, true, ds)) (.Expr (.Call (.Attribute (.Name x p) "append" ap) [e] [] pos) spos) (.next Γ (some (x, true, ds ++ [d]))) := by
  intro A env s₀ G₀ Z G m s f t
  refine wpAny_Expr ?_ (hi env f.scope) (hs env)
  refine wpAny_Call_append (hbase env) (hfew env) hline (htrees env) ?_
  obtain ⟨hkx, F, vs, hm, hob, gF, h00, hL, hZ, r⟩ := t.own x true ds rfl
  refine wpAny_Name (wpAny_loadName_local f.ok.k hkx t.ns hm ?_) hd
  refine ⟨F, vs, rfl, hob, ?_⟩
  refine wpAny_mono (he A env _ s (t.cx f)) (fun v s₁ ⟨k₁, r₁⟩ => ?_) fun _ _ x => x
  have t₁ := t.on k₁
  have hob₁ : OwnObj true s₁.heap F vs := hob.at fun o q => kKp k₁ _ o q
  have hsz : vs.size ≤ sizeLine := by have := r.length; simp at this; lia
  refine list_append_plainL hob₁ (fun h' hl' hsb => ?_) hsz
  have gF₁ : Ext G s.heap s₁.heap F = none := by
    obtain ⟨o, hF, _⟩ := hob.isList
    rw [Ext.live hF]; exact gF
  have rr : RdAll (Ext G s.heap s₁.heap) (vs.push v).toList (ds ++ [d]) := by
    rw [Array.toList_push]
    exact RdAll.append (RdAll.one r₁) (r.mono (Ext.le t.sub))
  exact ⟨_, m, Ext.le t.sub, t₁.turn (tk := s₁.toks) hm hsb gF₁ h00 hL hZ (b' := true) hl' rr⟩
end
end Mine

/-! part Fw10 -/
namespace Mine
open PySem PySem.W PyProof.Rows

section
variable {prog : Program} {w : World} {h₀ : Heap} {n : Nat} {sc : Scope} {Γ Γ' : Gam} {O O' : Own} {Pg : Program} {mg : Str → Option Value}

theorem nodup_rev {l : List Str} (h : l.Nodup) : l.reverse.Nodup := by
  unfold List.Nodup at h ⊢
  rw [List.pairwise_reverse]
  exact h.imp fun a => Ne.symm a

/-- names bound one after the other, as a swap binds them -/
theorem bind_names {M : Model} {A : Around} {env : Env} {G : PM} (hk : env.scope.kind = .function) :
    ∀ (ns : List Str) (vs : List Value) (ds : List PyData) (s : Shared) (m : Str → Option Value) (Q : Unit → Shared → Prop) (E : Value → Shared → Prop), ns.Nodup → ns.length = vs.length → RdAll G vs ds →
      (∀ x ∈ ns, env.kindOf x = some .local) → s.heap.Ns env.locals m →
      (∀ h tk m', BindOk G ns ds m m' → h.Ns env.locals m' → Heap.SameBut env.locals s.heap h → Q () { s with heap := h, toks := tk }) →
      wpAny M A (assignInOrder (ns.map fun n => bindName env n) vs) Q E s
  | [], vs, ds, s, m, Q, E, _, hl, r, _, hn, h => by
    cases vs with
    | nil =>
      cases r
      exact wpAny_pure (h s.heap s.toks m ⟨fun x d e => by simp at e, fun _ _ => rfl⟩ hn (.refl ..))
    | cons _ _ => cases hl
  | x :: ps, vs, ds, s, m, Q, E, nd, hl, r, hx, hn, h => by
    cases vs with
    | nil => cases hl
    | cons v vs =>
      cases r with
      | cons rv rr =>
        rename_i d ds
        show wpAny M A (do holding vs (bindName env x v); assignInOrder (ps.map fun n => bindName env n) vs) Q E s
        refine wpAny_bind (wpAny_holding (bindName_ (wpAny_storeName_local (hx x (by simp)) hn (fun h₁ hn₁ hs₁ => ?_) (by rw [hk]; rfl))))
        have nd' := List.nodup_cons.mp nd
        refine bind_names hk ps vs ds _ _ Q E nd'.2 (by simpa using hl) rr (fun y hy => hx y (by simp [hy])) hn₁ fun h₂ tk m' b hn₂ hs₂ => ?_
        refine h h₂ tk m' ⟨fun y d' e => ?_, fun y hy => ?_⟩ hn₂ (hs₁.trans hs₂)
        · simp only [List.zip_cons_cons, List.lookup_cons] at e
          by_cases q : y = x
          · subst q
            simp at e
            subst e
            exact ⟨v, by rw [b.rest y nd'.1]; simp, rv⟩
          · have q' : (y == x) = false := by simpa using q
            rw [q'] at e
            exact b.here y d' e
        · have hy' : y ≠ x ∧ y ∉ ps := by simpa using hy
          rw [b.rest y hy'.2, if_neg hy'.1]

/-- a tuple taken apart: x, y = f(..) -/
theorem Ex1.unp (ps : List (Str × Pos)) {kk : Nat} {tp pos : Pos} {e : Expr} {ds : List PyData} (h : Ev prog w h₀ n sc Γ O e (.tuple ds)) (hl : ps.length = ds.length) (nd : (ps.map (·.1)).Nodup) (hx : ∀ x ∈ ps.map (·.1), sc.names.lookup x = some .local) (ho : ∀ y b ds, O = some (y, b, ds) → y ∉ ps.map (·.1))
    (hs : ∀ env, swapsWithSole [.Tuple (ps.map fun q => Expr.Name q.1 q.2) kk tp] e pos.line env = pure false := by intro _; rfl) (hw : ∀ env, env.scope = sc → swappedStores [.Tuple (ps.map fun q => Expr.Name q.1 q.2) kk tp] e env = pure none) :
    Ex1 prog w h₀ n sc Γ O (.Assign [.Tuple (ps.map fun q => Expr.Name q.1 q.2) kk tp] e pos) (.next ((ps.map (·.1)).zip ds ++ Γ) O) := by
  intro A env s₀ G₀ Z G m s f t
  refine Assign_Tuple (wpAny_mono (h A env G s (t.cx f)) (fun v s₁ ⟨k, r⟩ => ?_) fun _ _ x => x) (hs env) (hw env f.scope)
  have t₁ := t.on k
  obtain ⟨T, o, us, kT, rfl, eT, hc, hd, rr⟩ := r.tupleAt
  have hkk : ∀ x ∈ ps.map (·.1), env.kindOf x = some .local := fun x q => by unfold Env.kindOf; rw [f.scope]; exact hx x q
  have hae : ∀ (qs : List (Str × Pos)), (assignEach (qs.map fun q => Expr.Name q.1 q.2) env).length = qs.length ∧ (assignEach (qs.map fun q => Expr.Name q.1 q.2) env).findIdx? (·.1) = none := by
    intro qs
    induction qs with
    | nil => exact ⟨rfl, rfl⟩
    | cons q qs ih =>
      refine ⟨?_, ?_⟩
      · show ((false, assign (.Name q.1 q.2) env) :: assignEach (qs.map fun q => Expr.Name q.1 q.2) env).length = _
        rw [List.length_cons, ih.1, List.length_cons]
      · show ((false, assign (.Name q.1 q.2) env) :: assignEach (qs.map fun q => Expr.Name q.1 q.2) env).findIdx? (·.1) = none
        rw [List.findIdx?_cons, ih.2]
        rfl
  have hlen : us.toList.length = ps.length := by rw [rr.length]; exact hl.symm
  refine wpAny_assign_Tuple f.room.handled (t := T) (items := us) ⟨o, t₁.sub _ _ eT, hc, kT, hd⟩ (by rw [(hae ps).1, ← hlen]; simp) (hae ps).2 fun h₃ hx₃ => ?_
  have k₃ : Kp s₁.heap h₃ := fun b o q => hx₃ b o (Nat.ne_of_lt (Heap.lt_size q)) q
  have t₃ := t₁.on (kHeap s₁ s₁.toks k₃)
  refine assign_names (G := Ext (Ext G s.heap s₁.heap) s₁.heap h₃) (wr := []) f.ok.k (by simp) t₃.nL ps us.toList ds _ m _ Fls nd hlen.symm (rr.mono (Ext.le t₁.sub)) hkk t₃.ns fun h₄ tk₄ m' b hn₄ hs₄ => ?_
  exact ⟨_, m', (Ext.le t.sub).trans (Ext.le t₁.sub), t₃.store hn₄ hs₄ b (by simpa using hl) hkk fun y bb d e => ho y bb d e⟩

/-- x, y = a, b without the tuple -/
theorem Ex1.swap (ps : List (Str × Pos)) {kk k2 : Nat} {tp vp pos : Pos} {es : List Expr} {ds : List PyData} (h : EvL prog w h₀ n sc Γ O es ds) (hl : ps.length = ds.length) (nd : (ps.map (·.1)).Nodup) (hx : ∀ x ∈ ps.map (·.1), sc.names.lookup x = some .local) (ho : ∀ y b ds, O = some (y, b, ds) → y ∉ ps.map (·.1)) (hz : ds.length ≤ sizeLine)
    (hs : ∀ env, swapsWithSole [.Tuple (ps.map fun q => Expr.Name q.1 q.2) kk tp] (.Tuple es k2 vp) pos.line env = pure false := by intro _; rfl) (hw : ∀ env, env.scope = sc → swappedStores [.Tuple (ps.map fun q => Expr.Name q.1 q.2) kk tp] (.Tuple es k2 vp) env = pure (some (ps.map (·.1)))) :
    Ex1 prog w h₀ n sc Γ O (.Assign [.Tuple (ps.map fun q => Expr.Name q.1 q.2) kk tp] (.Tuple es k2 vp) pos) (.next ((ps.map (·.1)).reverse.zip ds.reverse ++ Γ) O) := by
  intro A env s₀ G₀ Z G m s f t
  refine Assign_Tuple_swapped (names := ps.map (·.1)) (wpAny_mono (Ev.tuple (k := k2) (pos := vp) h hz A env G s (t.cx f)) (fun v s₁ ⟨k, r⟩ => ?_) fun _ _ x => x) (hs env) (hw env f.scope)
  have t₁ := t.on k
  obtain ⟨T, o, us, kT, rfl, eT, hc, hd, rr⟩ := r.tupleAt
  have hkk : ∀ x ∈ ps.map (·.1), env.kindOf x = some .local := fun x q => by unfold Env.kindOf; rw [f.scope]; exact hx x q
  have hlen : us.size = (ps.map (·.1)).length := by have := rr.length; simp at this ⊢; lia
  rw [← hlen]
  refine unpackItems_tuple f.room.handled (t := T) (items := us) ⟨o, t₁.sub _ _ eT, hc, kT, hd⟩ fun h₃ hx₃ => ?_
  have k₃ : Kp s₁.heap h₃ := fun b o q => hx₃ b o (Nat.ne_of_lt (Heap.lt_size q)) q
  have t₃ := t₁.on (kHeap s₁ s₁.toks k₃)
  have rev : ∀ {G : PM} {vs : List Value} {ds : List PyData}, RdAll G vs ds → RdAll G vs.reverse ds.reverse := by
    intro G vs ds r
    induction vs generalizing ds with
    | nil => cases r; exact .nil
    | cons v vs ih =>
      cases r with
      | cons h r => rw [List.reverse_cons, List.reverse_cons]; exact RdAll.append (RdAll.one h) (ih r)
  refine bind_names (G := Ext (Ext G s.heap s₁.heap) s₁.heap h₃) f.ok.k (ps.map (·.1)).reverse us.toList.reverse ds.reverse _ m _ Fls (nodup_rev nd) (by simpa using hlen.symm) (rev (rr.mono (Ext.le t₁.sub))) (fun x q => hkk x (List.mem_reverse.mp q)) t₃.ns fun h₄ tk₄ m' b hn₄ hs₄ => ?_
  exact ⟨_, m', (Ext.le t.sub).trans (Ext.le t₁.sub), t₃.store hn₄ hs₄ b (by simpa using hl) (fun x q => hkk x (List.mem_reverse.mp q)) fun y bb d e q => ho y bb d e (List.mem_reverse.mp q)⟩

/-! whiles -/
theorem WL.done {test : Expr} {body : List Stmt} (ht : Tst prog w h₀ n sc Γ O test false) : WL prog w h₀ n sc test body Γ O (.next Γ O) := by
  intro A env s₀ G₀ Z G m s f t
  refine codeAny_whileLoop (fun k s' => k = 0 ∧ s' = s) (fun k s' ⟨_, e⟩ => ?_) 0 ⟨rfl, rfl⟩
  subst e
  refine wpAny_mono (ht A env G s' (t.cx f)) (fun c s₂ ⟨k, e⟩ => ?_) fun _ _ x => x.elim
  subst e
  exact wpAny_execs_nil ⟨_, m, Ext.le t.sub, t.on k⟩
theorem WL.step {test : Expr} {body : List Stmt} {out : Out} (ht : Tst prog w h₀ n sc Γ O test true) (hb : Ex prog w h₀ n sc Γ O body (.next Γ' O')) (hr : WL prog w h₀ n sc test body Γ' O' out) : WL prog w h₀ n sc test body Γ O out := by
  intro A env s₀ G₀ Z G m s f t
  refine codeAny_loop' rfl (fun k s' => k = 0 ∧ s' = s) (fun k s' ⟨_, e⟩ => ?_) 0 ⟨rfl, rfl⟩
  subst e
  show wpAny _ A ((whileTurn test body [] env).onRaise (fun x => do noteFrame x env; theTreesLotGoes x)) _ _ s'
  refine wpAny_noted ?_
  simp only [whileTurn]
  refine wpAny_bind (wpAny_mono (ht A env G s' (t.cx f)) (fun c s₂ ⟨k, e⟩ => ?_) fun _ _ x => x.elim)
  subst e
  refine wpAny_bind (wpAny_mono (hb A env s₀ G₀ Z _ m s₂ f (t.on k)) (fun fl s₃ e => ?_) fun _ _ x => x.elim)
  cases fl with
  | next =>
    obtain ⟨G₁, m₁, l₁, t₁⟩ := e
    refine wpAny_pure (.inr ⟨rfl, codeAny_mono (hr A env s₀ G₀ Z G₁ m₁ s₃ f t₁) fun r s₄ e => ?_⟩)
    cases r with
    | ok f => exact Ends.le ((Ext.le t.sub).trans l₁) e
    | error _ => exact e
  | _ => exact e.elim
theorem WL.weak {test : Expr} {body : List Stmt} {out : Out} (hw : Wk Γ Γ') (h : WL prog w h₀ n sc test body Γ' O out) : WL prog w h₀ n sc test body Γ O out :=
  fun A env s₀ G₀ Z G m s f t => h A env s₀ G₀ Z G m s f (t.weak hw)
theorem Ex1.whl {test : Expr} {body : List Stmt} {pos : Pos} {out : Out} (h : WL prog w h₀ n sc test body Γ O out) : Ex1 prog w h₀ n sc Γ O (.While test body [] pos) out := by
  intro A env s₀ G₀ Z G m s f t
  refine wpAny_While (codeAny_mono (h A env s₀ G₀ Z G m s f t) fun r s' e => ?_)
  cases r with
  | ok f => exact e
  | error _ => exact e.elim

/-! fors -/
def Zw (Z : PM) (wr : List Addr) (h : Heap) : PM := fun a => if a ∈ wr then h.get? a else Z a

theorem zip_none {x : Str} : ∀ {ns : List Str} {ds : List PyData}, ns.length = ds.length → x ∈ ns → (ns.zip ds).lookup x ≠ none
  | [], _, _, h => nomatch h
  | _ :: _, [], hl, _ => nomatch hl
  | y :: ys, d :: ds, hl, h => by
    simp only [List.zip_cons_cons, List.lookup_cons]
    cases hy : x == y with
    | true => simp
    | false =>
      rcases List.mem_cons.mp h with rfl | h
      · simp at hy
      · exact zip_none (by simpa using hl) h

/-- a turn's start or a loop's end: the iterators move, the turn's names are bound -/
theorem St.tick {env : Env} {s₀ s : Shared} {G₀ Z G Gb : PM} {m m' : Str → Option Value} {wr : List Addr} {h : Heap} {tk : Nat} {ns : List Str} {ds : List PyData} (t : St env s₀ G₀ (Zw Z wr s.heap) Γ O G m s) (lb : Le Gb G) (gw : ∀ b ∈ wr, G b = none) (h0w : ∀ b ∈ wr, s₀.heap.get? b = none) (hLw : env.locals ∉ wr)
    (hkk : ∀ x ∈ ns, env.kindOf x = some .local) (hl : ns.length = ds.length) (bo : BindOk Gb ns ds m m') (hn : h.Ns env.locals m') (up : ∀ b o, b ≠ env.locals → b ∉ wr → s.heap.get? b = some o → h.get? b = some o) (ho : ∀ y b ds, O = some (y, b, ds) → y ∉ ns) :
    St env s₀ G₀ (Zw Z wr h) (ns.zip ds ++ Γ) O G m' { s with heap := h, toks := tk } ∧ (∀ y b ds, O = some (y, b, ds) → ∃ F vs, m' y = some (.ref F) ∧ OwnObj b h F vs ∧ G F = none ∧ s₀.heap.get? F = none ∧ F ≠ env.locals ∧ F ∉ wr ∧ Z F = none ∧ RdAll G vs.toList ds) := by
  have hown : ∀ y b ds, O = some (y, b, ds) → ∃ F vs, m' y = some (.ref F) ∧ OwnObj b h F vs ∧ G F = none ∧ s₀.heap.get? F = none ∧ F ≠ env.locals ∧ F ∉ wr ∧ Z F = none ∧ RdAll G vs.toList ds := by
    intro y b ds' e
    obtain ⟨hk', F, vs, hm, hob, gF, h0, hL, hz, r⟩ := t.own y b ds' e
    have hFw : F ∉ wr := fun q => by
      obtain ⟨oF, hoF, _⟩ := hob.isList
      have : (if F ∈ wr then s.heap.get? F else Z F) = none := hz
      rw [if_pos q, hoF] at this; cases this
    have hzF : Z F = none := by
      have : (if F ∈ wr then s.heap.get? F else Z F) = none := hz
      rwa [if_neg hFw] at this
    exact ⟨F, vs, by rw [bo.rest y (ho y b ds' e)]; exact hm, hob.at fun o q => up F o hL hFw q, gF, h0, hL, hFw, hzF, r⟩
  refine ⟨⟨?_, hn, ?_, t.le, t.old, t.nL, t.nL₀, ?_, ?_, ?_⟩, hown⟩
  · obtain ⟨h', tk', rfl, kp⟩ := t.keep
    exact ⟨h, tk, rfl, fun b o e => up b o (fun q => by rw [q, t.nL₀] at e; cases e) (fun q => by rw [h0w b q] at e; cases e) (kp b o e)⟩
  · intro a o e
    exact up a o (fun q => by rw [q, t.nL] at e; cases e) (fun q => by rw [gw a q] at e; cases e) (t.sub a o e)
  · intro x d e
    rw [List.lookup_append] at e
    cases q : (ns.zip ds).lookup x with
    | some d' =>
      rw [q] at e; cases e
      obtain ⟨v', hv', r'⟩ := bo.here x d q
      exact .inl ⟨hkk x (lookup_zip_mem q), v', hv', r'.mono lb⟩
    | none =>
      rw [q] at e
      have hx : x ∉ ns := fun hx => zip_none hl hx q
      rcases t.gam x d e with ⟨hk', v', hm, r⟩ | h
      · exact .inl ⟨hk', v', by rw [bo.rest x hx]; exact hm, r⟩
      · exact .inr h
  · intro y b ds' e
    obtain ⟨F, vs, hm, hob, gF, h0, hL, hFw, hz, r⟩ := hown y b ds' e
    refine ⟨(t.own y b ds' e).1, F, vs, hm, hob, gF, h0, hL, ?_, r⟩
    show (if F ∈ wr then h.get? F else Z F) = none
    rw [if_neg hFw]; exact hz
  · intro a o e
    have e : (if a ∈ wr then h.get? a else Z a) = some o := e
    by_cases q : a ∈ wr
    · rw [if_pos q] at e
      exact ⟨e, gw a q, fun z => hLw (z ▸ q)⟩
    · rw [if_neg q] at e
      obtain ⟨h1, h2, h3⟩ := t.z a o (show (if a ∈ wr then s.heap.get? a else Z a) = some o by rw [if_neg q]; exact e)
      exact ⟨up a o h3 q h1, h2, h3⟩

theorem Ex1.for {iter tg : Expr} {body : List Stmt} {pos : Pos} {ns : List Str} {N : Nat} {bs : Nat → List PyData} (J : Nat → Gam × Own) (hS : Src prog w h₀ n sc Γ O iter tg ns N bs) (hw : Wk Γ (J 0).1) (hO : O = (J 0).2) (hn : ∀ x ∈ ns, sc.names.lookup x = some .local) (hlen : ∀ i, i < N → ns.length = (bs i).length)
    (ho : ∀ i, i ≤ N → ∀ y b ds, (J i).2 = some (y, b, ds) → y ∉ ns)
    (hb : ∀ i, i < N → Ex prog w h₀ n sc (ns.zip (bs i) ++ (J i).1) (J i).2 body (.next (J (i + 1)).1 (J (i + 1)).2)) (hf : ∀ env x, foldedSetIterable iter env x = pure x := by intro _ _; rfl) :
    Ex1 prog w h₀ n sc Γ O (.For tg iter body [] pos) (.next (J N).1 (J N).2) := by
  intro A env s₀ G₀ Z G m s f t
  refine wpAny_For (wpAny_mono (hS A env G s (t.cx f)) (fun x s₁ h₁ => wpAny_mono h₁ (fun it s₂ h₂ => ?_) fun _ _ e => e) fun _ _ e => e) (hf env)
  obtain ⟨k₂, I, wr, Sti, rfl, hwr, hst, IT⟩ := h₂
  have hkk : ∀ x ∈ ns, env.kindOf x = some .local := fun x q => by unfold Env.kindOf; rw [f.scope]; exact hn x q
  let Gb : PM := Cut (Ext G s.heap s₂.heap) wr
  have t₂ := t.on k₂
  have leG : Le G Gb := Cut.keep t.sub (Ext.le t.sub) hwr
  have gbw : ∀ b ∈ wr, Gb b = none := fun b hb => Cut.on hb
  have hLw : env.locals ∉ wr := fun q => by
    obtain ⟨o, _, _, ho', _⟩ := t.ns
    rw [hwr _ q] at ho'; cases ho'
  have hZw : ∀ b ∈ wr, Z b = none := fun b hb => by
    cases q : Z b with
    | none => rfl
    | some o => have := (t.z b o q).1; rw [hwr b hb] at this; cases this
  have h0w : ∀ b ∈ wr, s₀.heap.get? b = none := fun b hb => none_back t.keep (hwr b hb)
  have st₀ : St env s₀ G₀ (Zw Z wr s₂.heap) (J 0).1 (J 0).2 Gb m s₂ := by
    refine { t₂ with sub := fun a o e => t₂.sub a o (Cut.le a o e), le := t.le.trans leG, old := fun a o e => t₂.old a o (Cut.le a o e), nL := le_none Cut.le t₂.nL, gam := ?_, own := ?_, z := ?_ }
    · intro x d e
      exact (t.gam x d (hw x d e)).imp (fun ⟨a, v, b, r⟩ => ⟨a, v, b, r.mono leG⟩) fun ⟨a, b, v, o, c, d, e, r⟩ => ⟨a, b, v, o, c, leG _ _ d, e, r.mono leG⟩
    · intro x b ds e
      obtain ⟨hk, F, vs, hm, hob, gF, h0, hL, hz, r⟩ := t.own x b ds (hO.trans e)
      have hFl : ∃ o, s.heap.get? F = some o := by obtain ⟨o, hF, _⟩ := hob.isList; exact ⟨o, hF⟩
      obtain ⟨oF, hoF⟩ := hFl
      have hFw : F ∉ wr := fun q => by rw [hwr F q] at hoF; cases hoF
      refine ⟨hk, F, vs, hm, hob.at fun o q => kKp k₂ _ o q, ?_, h0, hL, ?_, r.mono leG⟩
      · show Cut (Ext G s.heap s₂.heap) wr F = none
        rw [Cut.off hFw, Ext.live hoF]; exact gF
      · show (if F ∈ wr then s₂.heap.get? F else Z F) = none
        rw [if_neg hFw]; exact hz
    · intro a o e
      have e : (if a ∈ wr then s₂.heap.get? a else Z a) = some o := e
      by_cases q : a ∈ wr
      · rw [if_pos q] at e
        exact ⟨e, gbw a q, fun z => hLw (z ▸ q)⟩
      · rw [if_neg q] at e
        obtain ⟨h1, h2, h3⟩ := t₂.z a o e
        exact ⟨h1, le_none Cut.le h2, h3⟩
  refine codeAny_mono (codeAny_forLoop_any (R := fun r s' => match r with | .ok fl => Ends env s₀ G₀ Z G (.next (J N).1 (J N).2) fl s' | .error _ => False)
    (fun j s' => ∃ i G' m', i ≤ N ∧ j = N + 1 - i ∧ Sti i s'.heap ∧ Le Gb G' ∧ (∀ b ∈ wr, G' b = none) ∧ St env s₀ G₀ (Zw Z wr s'.heap) (J i).1 (J i).2 G' m' s') ?_ (N + 1) ⟨0, Gb, m, Nat.zero_le _, rfl, hst, Le.rfl', gbw, st₀⟩) ?_
  · rintro j s' ⟨i, G', m', hi, rfl, hst', lb, gw, tt⟩
    by_cases hlt : i < N
    · refine wpAny_mono (IT.item i env m' s' (fun _ s₃ => ∃ h tk m₃, s₃ = { s' with heap := h, toks := tk } ∧ Sti (i + 1) h ∧ BindOk Gb ns (bs i) m' m₃ ∧ h.Ns env.locals m₃ ∧ (∀ b o, b ≠ env.locals → b ∉ wr → s'.heap.get? b = some o → h.get? b = some o)) Fls hlt hst' (fun a o e => tt.sub a o (lb a o e)) (le_none lb tt.nL) hLw f.ok hkk tt.ns (fun h tk m₃ a b c d => ⟨h, tk, m₃, rfl, a, b, c, d⟩)) (fun r s₁' hr => ?_) fun _ _ x => x.elim
      cases r with
      | none => exact hr.elim
      | some v =>
        refine wpAny_mono hr (fun _ _ hr => wpAny_mono hr (fun _ s₃ hr => ?_) fun _ _ x => x.elim) fun _ _ x => x.elim
        obtain ⟨h, tk, m₃, rfl, st₃, bo, hn₃, up⟩ := hr
        have t₃ := (tt.tick (tk := tk) lb gw h0w hLw hkk (hlen i hlt) bo hn₃ up (ho i hi)).1
        refine wpAny_mono (hb i hlt A env s₀ G₀ _ G' m₃ _ f t₃) (fun fl s₄ e => ?_) fun _ _ x => x.elim
        cases fl with
        | next =>
          obtain ⟨G₄, m₄, l₄, t₄⟩ := e
          have same : ∀ b ∈ wr, ∀ o, h.get? b = some o → s₄.heap.get? b = some o ∧ G₄ b = none := fun b hb o q => by
            obtain ⟨h1, h2, _⟩ := t₄.z b o (show (if b ∈ wr then h.get? b else Z b) = some o by rw [if_pos hb]; exact q)
            exact ⟨h1, h2⟩
          have g4w : ∀ b ∈ wr, G₄ b = none := fun b hb => by
            obtain ⟨o, q⟩ := IT.live _ _ st₃ b hb
            exact (same b hb o q).2
          have hz : Zw Z wr h = Zw Z wr s₄.heap := by
            funext a
            show (if a ∈ wr then h.get? a else Z a) = (if a ∈ wr then s₄.heap.get? a else Z a)
            by_cases q : a ∈ wr
            · rw [if_pos q, if_pos q]
              obtain ⟨o, e⟩ := IT.live _ _ st₃ a q
              rw [e, (same a q o e).1]
            · rw [if_neg q, if_neg q]
          rw [hz] at t₄
          exact ⟨N + 1 - (i + 1), by lia, i + 1, G₄, m₄, hlt, rfl, IT.frame _ _ _ st₃ fun b hb o e => (same b hb o e).1, lb.trans l₄, g4w, t₄⟩
        | _ => exact e.elim
    · have hin : i = N := by lia
      subst hin
      refine wpAny_mono (IT.done s' (fun s₃ => ∃ h tk, s₃ = { s' with heap := h, toks := tk } ∧ ∀ b o, b ∉ wr → s'.heap.get? b = some o → h.get? b = some o) Fls hst' (fun a o e => tt.sub a o (lb a o e)) fun h tk q => ⟨h, tk, rfl, q⟩) (fun r s₃ hr => ?_) fun _ _ x => x.elim
      cases r with
      | some _ => exact hr.elim
      | none =>
        obtain ⟨h, tk, rfl, up⟩ := hr
        refine wpAny_execs_nil ?_
        obtain ⟨t₃, own₃⟩ := tt.tick (tk := tk) (ns := []) (ds := []) lb gw h0w hLw (fun x hx => nomatch hx) rfl ⟨fun x d e => (nomatch e), fun _ _ => rfl⟩ (tt.ns.at' fun o e => up _ o hLw e) (fun b o _ hb e => up b o hb e) (fun _ _ _ _ hx => nomatch hx)
        refine ⟨G', m', leG.trans lb, { t₃ with own := fun y b ds e => ?_, z := fun a o e => ?_ }⟩
        · obtain ⟨F, vs, a1, a2, a3, a4, a5, a6, a7, a8⟩ := own₃ y b ds e
          exact ⟨(t₃.own y b ds e).1, F, vs, a1, a2, a3, a4, a5, a7, a8⟩
        · have q : a ∉ wr := fun q => by rw [hZw a q] at e; cases e
          exact t₃.z a o (show (if a ∈ wr then h.get? a else Z a) = some o by rw [if_neg q]; exact e)
  · intro r s' e
    cases r with
    | ok fl => exact e
    | error _ => exact e.elim

/-! a def -/
theorem binds_get {kind : Str → Option NameKind} {G : PM} : ∀ (ns : List Str) (vs : List Value) (ds : List PyData) (m : Str → Option Value), ns.Nodup → ns.length = vs.length → RdAll G vs ds →
    (∀ x, x ∉ ns → bindL kind (ns.zip vs) m x = m x ∧ bindC kind (ns.zip vs) m x = m x) ∧
    (∀ x d, (ns.zip ds).lookup x = some d → (kind x = some .local → ∃ v, bindL kind (ns.zip vs) m x = some v ∧ Rd G v d) ∧ (kind x ≠ some .local → ∃ v, bindC kind (ns.zip vs) m x = some v ∧ Rd G v d))
  | [], vs, ds, m, _, hl, r => by
    exact ⟨fun x _ => ⟨rfl, rfl⟩, fun x d e => by simp at e⟩
  | y :: ns, [], ds, m, _, hl, r => by simp at hl
  | y :: ns, v :: vs, ds, m, nd, hl, r => by
    cases r with
    | cons rv rr =>
      rename_i d ds
      have nd' := List.nodup_cons.mp nd
      have hl' : ns.length = vs.length := by simpa using hl
      obtain ⟨l1, l2⟩ := binds_get (kind := kind) ns vs ds (if kind y = some .local then fun z => if z = y then some v else m z else m) nd'.2 hl' rr
      obtain ⟨c1, c2⟩ := binds_get (kind := kind) ns vs ds (if kind y = some .local then m else fun z => if z = y then some v else m z) nd'.2 hl' rr
      refine ⟨fun x hx => ?_, fun x d' e => ?_⟩
      · have hx' : x ≠ y ∧ x ∉ ns := by simpa using hx
        refine ⟨?_, ?_⟩
        · show bindL kind (ns.zip vs) _ x = m x
          rw [(l1 x hx'.2).1]
          split
          · exact if_neg hx'.1
          · rfl
        · show bindC kind (ns.zip vs) _ x = m x
          rw [(c1 x hx'.2).2]
          split
          · rfl
          · exact if_neg hx'.1
      · simp only [List.zip_cons_cons, List.lookup_cons] at e
        by_cases q : x = y
        · subst q
          simp at e
          subst e
          refine ⟨fun hk => ⟨v, ?_, rv⟩, fun hk => ⟨v, ?_, rv⟩⟩
          · show bindL kind (ns.zip vs) _ x = some v
            rw [(l1 x nd'.1).1, if_pos hk]
            simp
          · show bindC kind (ns.zip vs) _ x = some v
            rw [(c1 x nd'.1).2, if_neg hk]
            simp
        · have q' : (x == y) = false := by simpa using q
          rw [q'] at e
          exact ⟨(l2 x d' e).1, (c2 x d' e).2⟩

theorem con_of (W : Wd Pg mg h₀) {f : Addr} {o : Obj} {fd : FuncData} {body : List Stmt} {ds : List PyData} (names : List Str) (out : Out) (ho : h₀.get? f = some o) (hf : o.data = .func fd) (hbody : fd.body = .stmts body) (hcd : h₀.CodeRec fd.code fd.qualname) (hclo : fd.closure = []) (hg : fd.globals = mainGlobals) (hbl : fd.builtins = builtinsNs)
    (hb : ∀ vs : List Value, vs.length = names.length → bindArgs fd ⟨vs, []⟩ = pure (names.zip vs)) (nd : names.Nodup) (hl : names.length = ds.length)
    (hk : ∀ x ∈ names, fd.scope.names.lookup x = some .local ∨ fd.scope.names.lookup x = some .cell) (hco : fd.scope.isCoroutine = false) (hgen : fd.scope.isGenerator = false) (hkf : fd.scope.kind = .function)
    (h : Ex prog w h₀ n fd.scope (names.zip ds) none body out) {A : Around} {G : PM} {s : Shared} {vs : List Value} (room : Room A (n + 1)) (c : Sub G s.heap) (b : Le h₀.get? G) (r : RdAll G vs ds) {Q : Value → Shared → Prop}
    (hQ : ∀ Z env G' v s', Ends env s G Z G' out (.ret v) s' → Q v s') (hnext : ∀ Γ O, out ≠ .next Γ O) : wpAny (model prog w) A (call (.ref f) vs) Q Fls s := by
  have k₀ : Kp h₀ s.heap := fun a o e => c a o (b a o e)
  have hlv : names.length = vs.length := by rw [hl, r.length]
  have kx : ∀ n', ∀ x ∈ names.zip vs, fd.scope.names.lookup x.1 = some .local ∨ (fd.scope.names.lookup x.1 = some .cell ∧ ((cellsFrom n' fd.scope.names []).lookup x.1).isSome = true) := kindsX (by
    rw [List.all_eq_true]
    intro x hx
    have := hk x.1 (List.of_mem_zip hx).1
    rcases this with q | q <;> simp [q])
  refine wpAny_call (codeAny_call_cells (fd := fd) (by have := room.depth; lia) (k₀ _ _ ho) hf (W.nolimit.keeps k₀) (hcd.keeps k₀) hbody (hb vs hlv.symm) hclo (kx _) (fun s₁ X => ?_) hco hgen hkf)
  have k₁ : Keeps s s₁ := by
    obtain ⟨h', tk, e, kp⟩ := X.done
    exact ⟨h', tk, e, kp⟩
  let L := s.heap.objs.size
  let env := callEnvC fd L f
  have c₁ := Ext.sub c (kKp k₁)
  have hL0 : ∀ a ∈ [L], s.heap.get? a = none := fun a ha => by rw [List.mem_singleton.mp ha]; exact size_none _
  have le : Le G (Cut (Ext G s.heap s₁.heap) [L]) := Cut.keep c (Ext.le c) hL0
  obtain ⟨bg1, bg2⟩ := binds_get (kind := env.kindOf) names vs ds (fun _ => none) nd hlv r
  have t : St env s G (fun _ => none) (names.zip ds) none (Cut (Ext G s.heap s₁.heap) [L]) (bindL env.kindOf (names.zip vs) fun _ => none) s₁ := by
    refine ⟨k₁, X.toInCall.ns, fun a o e => c₁ a o (Cut.le a o e), le, fun a o e q => ?_, Cut.on (show env.locals ∈ [L] from List.mem_singleton.mpr rfl), size_none _, fun x d e => ?_, fun x b ds e => (nomatch e), fun a o e => (nomatch e)⟩
    · have e' := Cut.le a o e
      obtain ⟨o', ho'⟩ := Option.isSome_iff_exists.mp q
      rwa [Ext.live ho'] at e'
    · obtain ⟨e1, e2⟩ := bg2 x d e
      have hxn : x ∈ names := lookup_zip_mem e
      rcases hk x hxn with q | q
      · obtain ⟨v, hv, rv⟩ := e1 q
        exact .inl ⟨q, v, hv, rv.mono le⟩
      · obtain ⟨v, hv, rv⟩ := e2 (by show fd.scope.names.lookup x ≠ _; rw [q]; decide)
        obtain ⟨v', hx'⟩ : ∃ v', (x, v') ∈ names.zip vs := by
          have : ∀ (ns : List Str) (vs : List Value), ns.length = vs.length → x ∈ ns → ∃ v', (x, v') ∈ ns.zip vs := by
            intro ns
            induction ns with
            | nil => intro vs _ h; cases h
            | cons y ys ih =>
              intro vs hl h
              cases vs with
              | nil => cases hl
              | cons v vs =>
                rcases List.mem_cons.mp h with rfl | h
                · exact ⟨v, by simp⟩
                · obtain ⟨v', h'⟩ := ih vs (by simpa using hl) h
                  exact ⟨v', by simp [h']⟩
          exact this names vs hlv hxn
        have hc := (kx (L + 1) _ hx').resolve_left (fun z => by
          have z' : fd.scope.names.lookup x = some .local := z
          rw [q] at z'; cases z')
        obtain ⟨cc, hcc⟩ := Option.isSome_iff_exists.mp hc.2
        obtain ⟨oc, hoc, hdc⟩ := X.cell x cc hcc
        have hab := X.above x cc (mem_of_lookup hcc)
        have hLc : L < cc := hab
        refine .inr ⟨q, cc, v, oc, hcc, ?_, by rw [hdc]; exact congrArg _ hv, rv.mono le⟩
        rw [Cut.off (by rw [List.mem_singleton]; exact Nat.ne_of_gt hLc), Ext.new]
        · exact hoc
        · cases q' : s.heap.get? cc with
          | none => rfl
          | some o' => exact absurd (Heap.lt_size q') (Nat.not_lt.mpr (Nat.le_of_lt hLc))
  refine wpAny_mono (h (A.deeper env) env s G (fun _ => none) _ _ s₁ ⟨room.deeper, rfl, ⟨hg, hbl, hkf⟩, c, b⟩ t) (fun fl s' e => ?_) fun _ _ x => x.elim
  cases fl with
  | ret v => exact hQ _ _ _ v s' e
  | next =>
    cases out with
    | next Γ O => exact absurd rfl (hnext Γ O)
    | _ => exact e.elim
  | _ => cases out <;> exact e.elim
end
end Mine

/-! part Fw11 -/
namespace Mine
open PySem PySem.W PyProof.Rows

section
variable {prog : Program} {w : World} {h₀ : Heap} {n : Nat} {sc : Scope} {Γ Γ' : Gam} {O O' : Own} {Pg : Program} {mg : Str → Option Value}

theorem WL.weakOut {test : Expr} {body : List Stmt} {Γ₁ : Gam} {O₁ : Own} (hw : Wk Γ₁ Γ') (h : WL prog w h₀ n sc test body Γ O (.next Γ₁ O₁)) : WL prog w h₀ n sc test body Γ O (.next Γ' O₁) :=
  fun A env s₀ G₀ Z G m s f t => codeAny_mono (h A env s₀ G₀ Z G m s f t) fun r s' e => by
    cases r with
    | ok f => exact Ends.weak hw e
    | error _ => exact e.elim

theorem Wk.nil : Wk Γ [] := fun _ _ e => nomatch e
theorem Wk.cons {x : Str} {d : PyData} (h : Γ.lookup x = some d) (r : Wk Γ Γ') : Wk Γ ((x, d) :: Γ') := fun y e q => by
  rw [List.lookup_cons] at q
  cases hy : y == x with
  | true => rw [hy] at q; cases q; rw [beq_iff_eq.mp hy]; exact h
  | false => rw [hy] at q; exact r y e q
theorem Wk.refl : Wk Γ Γ := fun _ _ e => e
theorem Wk.trans {Γ₂ : Gam} (a : Wk Γ Γ') (b : Wk Γ' Γ₂) : Wk Γ Γ₂ := fun x d e => a x d (b x d e)

theorem ml1 {P : List Value → Prop} (h : ∀ a, P [a]) : ∀ vs : List Value, vs.length = 1 → P vs
  | [a], _ => h a
theorem ml2 {P : List Value → Prop} (h : ∀ a b, P [a, b]) : ∀ vs : List Value, vs.length = 2 → P vs
  | [a, b], _ => h a b
theorem ml3 {P : List Value → Prop} (h : ∀ a b c, P [a, b, c]) : ∀ vs : List Value, vs.length = 3 → P vs
  | [a, b, c], _ => h a b c
/-- what a def must be to be taken -/
structure DefAt (Pg : Program) (x : Str) (names : List Str) (body : List Stmt) (sc : Scope) : Prop where
  of : ∃ d, d ∈ recsOf Pg ∧ d.name = x ∧ d.body = body ∧ d.scope = sc ∧ (∀ (pm code doc : Value) (vs : List Value), vs.length = names.length → bindArgs (Calls.docDef d.name d.params d.body d.scope pm code doc) ⟨vs, []⟩ = pure (names.zip vs)) ∧
    names.Nodup ∧ (∀ x ∈ names, sc.names.lookup x = some .local ∨ sc.names.lookup x = some .cell) ∧ sc.isCoroutine = false ∧ sc.isGenerator = false ∧ sc.kind = .function
theorem fnAt (W : Wd Pg mg h₀) (i : Nat) {d : DefRec} (h : (recsOf Pg)[i]? = some d) : FnAt mg h₀ d.name := by
  obtain ⟨a, o, pm, code, doc, e1, e2, e3, _⟩ := W.fn d (List.mem_of_getElem? h)
  exact ⟨a, o, _, e1, e2, e3⟩
theorem Con.def (W : Wd Pg mg h₀) {x : Str} {names : List Str} {body : List Stmt} {ds : List PyData} {d : PyData} (D : DefAt Pg x names body sc) (hl : names.length = ds.length) (h : Ex prog w h₀ n sc (names.zip ds) none body (.ret d)) : Con prog w h₀ (n + 1) (fv mg x) ds d := by
  obtain ⟨r, hr, rfl, rfl, rfl, hba, nd, hk, hco, hgen, hkf⟩ := D.of
  obtain ⟨a, o, pm, code, doc, e1, e2, e3, e4⟩ := W.fn r hr
  have ev : fv mg r.name = .ref a := by unfold fv; rw [e1]; rfl
  rw [ev]
  intro A G s vs room c b rr
  exact con_of W names (.ret d) e2 e3 rfl e4 rfl rfl rfl (hba pm code doc) nd hl hk hco hgen hkf h room c b rr (fun Z env G' v s' e => e) (fun _ _ q => nomatch q)

/-- a def whose answer nothing else holds -/
def ConF (prog : Program) (w : World) (h₀ : Heap) (n : Nat) (f : Value) (ds : List PyData) (rs : List PyData) : Prop :=
  ∀ A G s vs, Room A n → Sub G s.heap → Le h₀.get? G → RdAll G vs ds → wpAny (model prog w) A (call f vs) (fun v s' => Keeps s s' ∧ ∃ F vs, v = .ref F ∧ s.heap.get? F = none ∧ s'.heap.IsList F vs ∧ RdAll (Cut (Ext G s.heap s'.heap) [F]) vs.toList rs) Fls s
theorem ConF.def (W : Wd Pg mg h₀) {x : Str} {names : List Str} {body : List Stmt} {ds : List PyData} {rs : List PyData} (D : DefAt Pg x names body sc) (hl : names.length = ds.length) (h : Ex prog w h₀ n sc (names.zip ds) none body (.retF rs)) : ConF prog w h₀ (n + 1) (fv mg x) ds rs := by
  obtain ⟨r, hr, rfl, rfl, rfl, hba, nd, hk, hco, hgen, hkf⟩ := D.of
  obtain ⟨a, o, pm, code, doc, e1, e2, e3, e4⟩ := W.fn r hr
  have ev : fv mg r.name = .ref a := by unfold fv; rw [e1]; rfl
  rw [ev]
  intro A G s vs room c b rr
  exact con_of W names (.retF rs) e2 e3 rfl e4 rfl rfl rfl (hba pm code doc) nd hl hk hco hgen hkf h room c b rr (fun Z env G' v s' e => e) (fun _ _ q => nomatch q)
theorem ConF.con {f : Value} {ds rs : List PyData} (h : ConF prog w h₀ n f ds rs) : Con prog w h₀ n f ds (.list rs) := by
  intro A G s vs room c b r
  refine wpAny_mono (h A G s vs room c b r) (fun v s' ⟨k, F, us, hv, hn, ⟨o, hF, hc, kk, hd⟩, r⟩ => ⟨k, ?_⟩) fun _ _ x => x
  subst hv
  exact .list (by rw [Ext.new hn]; exact hF) hc hd (r.mono Cut.le)
end
end Mine

/-! part Fw12 -/
namespace Mine
open PySem PySem.W PyProof.Rows

section
variable {prog : Program} {w : World} {h₀ : Heap} {n : Nat} {sc : Scope} {Γ Γ' : Gam} {O O' : Own} {Pg : Program} {mg : Str → Option Value}

/-- the plainness of what is held forgotten -/
theorem St.dim {env : Env} {s₀ s : Shared} {G₀ Z G : PM} {m : Str → Option Value} {x : Str} {b : Bool} {ds : List PyData} (t : St env s₀ G₀ Z Γ (some (x, b, ds)) G m s) : St env s₀ G₀ Z Γ (some (x, false, ds)) G m s :=
  have o : ∀ y c ds', some (x, false, ds) = some (y, c, ds') → env.kindOf y = some .local ∧ ∃ F vs, m y = some (.ref F) ∧ OwnObj c s.heap F vs ∧ G F = none ∧ s₀.heap.get? F = none ∧ F ≠ env.locals ∧ Z F = none ∧ RdAll G vs.toList ds' := by
    intro y c ds' e
    cases e
    obtain ⟨hk, F, vs, hm, hob, r⟩ := t.own x b ds rfl
    exact ⟨hk, F, vs, hm, hob.isList, r⟩
  { t with own := o }
theorem Ex.dim {x : Str} {b : Bool} {ds : List PyData} {ss : List Stmt} {out : Out} (h : Ex prog w h₀ n sc Γ (some (x, false, ds)) ss out) : Ex prog w h₀ n sc Γ (some (x, b, ds)) ss out :=
  fun A env s₀ G₀ Z G m s f t => h A env s₀ G₀ Z G m s f t.dim

theorem St.grabO {b : Bool} {env : Env} {s₀ s : Shared} {G₀ Z G : PM} {m m' : Str → Option Value} {h' : Heap} {tk : Nat} {x : Str} {F : Addr} {vs : Array Value} {ds : List PyData} (t : St env s₀ G₀ Z Γ none G m s) (hn : h'.Ns env.locals m') (hs : Heap.SameBut env.locals s.heap h')
    (hm : m' x = some (.ref F)) (hr : ∀ y, y ≠ x → m' y = m y) (hx : env.kindOf x = some .local) (hF : OwnObj b s.heap F vs) (gF : G F = none) (h0 : s₀.heap.get? F = none) (hz : Z F = none) (hL : F ≠ env.locals) (r : RdAll G vs.toList ds) (hg : Γ.lookup x = none) :
    St env s₀ G₀ Z Γ (some (x, b, ds)) G m' { s with heap := h', toks := tk } where
  keep := by
    obtain ⟨h, tk', rfl, kp⟩ := t.keep
    exact ⟨h', tk, rfl, fun b o e => hs.extBut b o (fun q => by rw [q, t.nL₀] at e; cases e) (kp b o e)⟩
  ns := hn
  sub := fun a o e => hs.extBut a o (fun q => by rw [q, t.nL] at e; cases e) (t.sub a o e)
  le := t.le
  old := t.old
  nL := t.nL
  nL₀ := t.nL₀
  gam := fun y d e => by
    have hy : y ≠ x := fun q => by rw [q, hg] at e; cases e
    exact (t.gam y d e).imp (fun ⟨a, v, b, r⟩ => ⟨a, v, by rw [hr y hy]; exact b, r⟩) id
  own := fun y c ds' e => by
    cases e
    exact ⟨hx, F, vs, hm, hF.at fun o q => hs.extBut F o hL q, gF, h0, hL, hz, r⟩
  z := fun a o e => by
    obtain ⟨ha, g, l⟩ := t.z a o e
    exact ⟨hs.extBut a o l ha, g, l⟩

/-- a call's answer that nothing else holds -/
def EvO (prog : Program) (w : World) (h₀ : Heap) (n : Nat) (sc : Scope) (Γ : Gam) (O : Own) (e : Expr) (ds : List PyData) : Prop :=
  ∀ A env G s, Cx prog w h₀ n sc Γ O A env G s → wpAny (model prog w) A (eval e env) (fun v s' => Keeps s s' ∧ ∃ F vs, v = .ref F ∧ s.heap.get? F = none ∧ s'.heap.IsList F vs ∧ RdAll (Cut (Ext G s.heap s'.heap) [F]) vs.toList ds) Fls s
theorem EvO.call (W : Wd Pg mg h₀) {x : Str} {p pos : Pos} {e : Expr} {es : List Expr} {ds rs : List PyData} {m : Nat} (F : FnAt mg h₀ x) (hx : sc.names.lookup x = some .globalImplicit)
    (C : ConF prog w h₀ m (fv mg x) ds rs) (hs : EvL prog w h₀ n sc Γ O (e :: es) ds) (hm : m ≤ n) (hd : (x == ("__debug__" : Str)) = false := by decide)
    (he : ∀ env, starEach (e :: es) env = (false, eval e env) :: starEach es env := by intro _; rfl) : EvO prog w h₀ n sc Γ O (.Call (.Name x p) (e :: es) [] pos) rs := by
  intro A env G s c
  obtain ⟨a, o, fd, en, ho, hf⟩ := F
  have ev : fv mg x = .ref a := by unfold fv; rw [en]; rfl
  rw [ev] at C
  refine Call_ (load_main W c.ok en (by unfold Env.kindOf; rw [c.scope]; exact hx) hd c.base c.sub ?_)
  refine callWith_def hf (wpAny_mono (hs pos A env G s c) (fun vs s₁ ⟨k₁, r₁⟩ => ⟨?_, ?_⟩) fun _ _ x => x) (he env)
  · exact kKp k₁ _ _ (c.sub _ _ (c.base _ _ ho))
  · refine wpAny_mono (C A _ s₁ vs (c.room.le hm) (c.on k₁).sub (c.on k₁).base r₁) (fun v s₂ ⟨k₂, F, us, hv, hn, hL, r₂⟩ => ⟨kTrans k₁ k₂, F, us, hv, none_back k₁ hn, hL, r₂.mono fun a o e => ?_⟩) fun _ _ x => x
    have hF : a ∉ [F] := fun q => by rw [Cut.on q] at e; cases e
    rw [Cut.off hF] at e ⊢
    exact Ext.trans (kKp k₁) (kKp k₂) a o e
theorem Ex1.asgO {x : Str} {p pos : Pos} {e : Expr} {ds : List PyData} (h : EvO prog w h₀ n sc Γ none e ds) (hx : sc.names.lookup x = some .local) (hg : Γ.lookup x = none)
    (hs : ∀ env, swapsWith e (some (.Name x p)) pos.line env = pure false := by intro _; rfl) : Ex1 prog w h₀ n sc Γ none (.Assign [.Name x p] e pos) (.next Γ (some (x, false, ds))) := by
  intro A env s₀ G₀ Z G m s f t
  refine wpAny_Assign_Name (wpAny_mono (h A env G s (t.cx f)) (fun v s' ⟨k, F, vs, hv, hF0, hF, r⟩ => ?_) fun _ _ x => x) (hs env)
  subst hv
  have t' := t.cut k hF0
  have hk : env.kindOf x = some .local := by unfold Env.kindOf; rw [f.scope]; exact hx
  have hFL : F ≠ env.locals := fun q => by
    obtain ⟨o, _, _, ho, _⟩ := t.ns
    rw [← q, hF0] at ho; cases ho
  have hz : Z F = none := by
    cases q : Z F with
    | none => rfl
    | some o => have := (t.z F o q).1; rw [hF0] at this; cases this
  refine wpAny_storeName_local hk t'.ns (fun h' hn hsb => ?_) (local_ok f.ok)
  exact ⟨_, _, Cut.keep t.sub (Ext.le t.sub) (fun a h => by rw [List.mem_singleton.mp h]; exact hF0), t'.grabO (b := false) hn hsb (if_pos rfl) (fun y hy => if_neg hy) hk hF (Cut.on (by simp)) (none_back t.keep hF0) hz hFL r hg⟩

/-- x, y = a, b where b is a fresh list -/
theorem Ex1.swapF {x y : Str} {px py : Pos} {kk k2 : Nat} {tp vp pos : Pos} {e₁ e₂ : Expr} {d : PyData} {ds : List PyData} (h₁ : Ev prog w h₀ n sc Γ none e₁ d) (h₂ : EvF prog w h₀ n sc Γ none e₂ ds) (hx : sc.names.lookup x = some .local) (hy : sc.names.lookup y = some .local) (hxy : x ≠ y) (hg : Γ.lookup y = none)
    (he : ∀ env, starEach [e₁, e₂] env = (false, eval e₁ env) :: starEach [e₂] env := by intro _; rfl) (he' : ∀ env, starEach [e₂] env = (false, eval e₂ env) :: starEach [] env := by intro _; rfl)
    (hs : ∀ env, swapsWithSole [.Tuple [.Name x px, .Name y py] kk tp] (.Tuple [e₁, e₂] k2 vp) pos.line env = pure false := by intro _; rfl) (hw : ∀ env, env.scope = sc → swappedStores [.Tuple [.Name x px, .Name y py] kk tp] (.Tuple [e₁, e₂] k2 vp) env = pure (some [x, y])) :
    Ex1 prog w h₀ n sc Γ none (.Assign [.Tuple [.Name x px, .Name y py] kk tp] (.Tuple [e₁, e₂] k2 vp) pos) (.next ((x, d) :: Γ) (some (y, true, ds))) := by
  intro A env s₀ G₀ Z G m s f t
  have hkx : env.kindOf x = some .local := by unfold Env.kindOf; rw [f.scope]; exact hx
  have hky : env.kindOf y = some .local := by unfold Env.kindOf; rw [f.scope]; exact hy
  refine Assign_Tuple_swapped (names := [x, y]) (wpAny_Tuple (spliced_more (wpAny_mono (h₁ A env G s (t.cx f)) (fun v₁ s₁ ⟨k₁, r₁⟩ => spliced_more (wpAny_mono (h₂ A env _ s₁ ((t.cx f).on k₁)) (fun v₂ s₂ ⟨k₂, F, vs, kF, hv, hF0, hF, r₂⟩ => spliced_none ⟨by simp [sizeLine], ?_⟩) fun _ _ x => x) (he' env)) fun _ _ x => x) (he env))) (hs env) (hw env f.scope)
  subst hv
  have hF0' : s.heap.get? F = none := none_back k₁ hF0
  have k₁₂ := kTrans k₁ k₂
  have t₂ := t.cut k₁₂ hF0'
  have l₁ : Le (Ext G s.heap s₁.heap) (Cut (Ext G s.heap s₂.heap) [F]) := Cut.keep ((t.cx (prog := prog) (w := w) f).on k₁).sub (fun a o e => Ext.trans (kKp k₁) (kKp k₂) a o (Ext.le ((t.cx (prog := prog) (w := w) f).on k₁).sub a o e)) (fun a h => by rw [List.mem_singleton.mp h]; exact hF0)
  have r₁' := r₁.mono l₁
  have r₂' : RdAll (Cut (Ext G s.heap s₂.heap) [F]) vs.toList ds := r₂.mono fun a o e => by
    have hF : a ∉ [F] := fun q => by rw [Cut.on q] at e; cases e
    rw [Cut.off hF] at e ⊢
    exact Ext.trans (kKp k₁) (kKp k₂) a o e
  generalize hG₂ : Cut (Ext G s.heap s₂.heap) [F] = G₂ at *
  have gF₂ : G₂ F = none := by rw [← hG₂]; exact Cut.on (by simp)
  have le₂ : Le G G₂ := by rw [← hG₂]; exact Cut.keep t.sub (Ext.le t.sub) (fun a h => by rw [List.mem_singleton.mp h]; exact hF0')
  refine unpackItems_tuple (items := #[v₁, .ref F]) f.room.handled ⟨_, push_new _ _ rfl, rfl, _, rfl⟩ fun h₃ hx₃ => ?_
  have k₃ : Kp s₂.heap h₃ := fun b o q => hx₃ b o (Nat.ne_of_lt (Nat.lt_of_lt_of_le (Heap.lt_size q) (by rw [Heap.size_push]; exact Nat.le_succ _))) (push_kp _ _ b o q)
  have t₃ := t₂.on (kHeap s₂ s₂.toks k₃)
  have hF₃ := k₃ _ _ hF
  have gF₃ : Ext G₂ s₂.heap h₃ F = none := by rw [Ext.live hF]; exact gF₂
  have hFL : F ≠ env.locals := fun q => by
    obtain ⟨o, _, _, ho, _⟩ := t.ns
    rw [← q, hF0'] at ho; cases ho
  have hz : Z F = none := by
    cases q : Z F with
    | none => rfl
    | some o => have := (t.z F o q).1; rw [hF0'] at this; cases this
  show wpAny _ A (do holding [v₁] (bindName env y (.ref F)); assignInOrder [bindName env x] [v₁]) _ _ _
  refine wpAny_bind (wpAny_holding (bindName_ (wpAny_storeName_local hky t₃.ns (fun h₄ hn₄ hs₄ => ?_) (local_ok f.ok))))
  have t₄ := t₃.grab (tk := s₂.toks) hn₄ hs₄ (if_pos rfl) (fun z hz => if_neg hz) hky hF₃ gF₃ (none_back t.keep hF0') hz hFL (r₂'.mono (Ext.le t₂.sub)) hg
  show wpAny _ A (do holding [] (bindName env x v₁); assignInOrder [] []) _ _ _
  refine wpAny_bind (wpAny_holding (bindName_ (wpAny_storeName_local hkx t₄.ns (fun h₅ hn₅ hs₅ => ?_) (local_ok f.ok))))
  refine wpAny_pure ?_
  exact ⟨Ext G₂ s₂.heap h₃, _, le₂.trans (Ext.le t₂.sub), t₄.store (ns := [x]) (ds := [d]) hn₅ hs₅ (bind_one (r₁'.mono (Ext.le t₂.sub))) rfl (fun z hz => by rw [List.mem_singleton.mp hz]; exact hkx) fun z b ds' e hz => by cases e; exact hxy (List.mem_singleton.mp hz).symm⟩

/-! x = [ .. for .. ] -/
theorem St.off {env : Env} {s₀ s : Shared} {G₀ Z G : PM} {m : Str → Option Value} {C : Addr} {h' : Heap} (t : St env s₀ G₀ Z Γ none G m s) (hs : Heap.SameBut C s.heap h') (gC : G C = none) (hCL : C ≠ env.locals) (h0 : s₀.heap.get? C = none) (hz : Z C = none) : St env s₀ G₀ Z Γ none G m { s with heap := h' } where
  keep := by
    obtain ⟨h, tk', rfl, kp⟩ := t.keep
    exact ⟨h', tk', rfl, fun b o e => hs.extBut b o (fun q => by rw [q, h0] at e; cases e) (kp b o e)⟩
  ns := t.ns.sameBut hs (Ne.symm hCL)
  sub := fun a o e => hs.extBut a o (fun q => by rw [q, gC] at e; cases e) (t.sub a o e)
  le := t.le
  old := t.old
  nL := t.nL
  nL₀ := t.nL₀
  gam := t.gam
  own := fun y b ds e => nomatch e
  z := fun a o e => by
    obtain ⟨ha, g, l⟩ := t.z a o e
    exact ⟨hs.extBut a o (fun q => by rw [q, hz] at e; cases e) ha, g, l⟩
theorem Ex1.asgComp {x : Str} {px spos : Pos} {elt tg iter : Expr} {ifs : List Expr} {scope : Scope} {pos : Pos} {ns : List Str} {N : Nat} {bs : Nat → List PyData} (Γc : Gam) (p : Nat → Bool) (ds : Nat → PyData)
    (hS : Src prog w h₀ n sc Γ none iter tg ns N bs) (hk : scope.kind = .function) (hcell : ∀ y ∈ scope.names, y.2 ≠ .cell) (hnames : ∀ y ∈ scope.names, y.2 = .local → scope.names.lookup y.1 = some .local)
    (hns : ∀ x ∈ ns, scope.names.lookup x = some .local) (hfree : ∀ y ∈ scope.names, y.2 = .free → sc.names.lookup y.1 = some .cell ∧ (Γ.lookup y.1).isSome = true)
    (hc : ∀ x d, Γc.lookup x = some d → Γ.lookup x = some d ∧ (x, NameKind.free) ∈ scope.names ∧ scope.names.lookup x = some .free)
    (hT : ∀ i, i < N → TstL prog w h₀ n (relabelS scope sc) (ns.zip (bs i) ++ Γc) none ifs (p i))
    (hE : ∀ i, i < N → p i = true → Ev prog w h₀ n (relabelS scope sc) (ns.zip (bs i) ++ Γc) none elt (ds i))
    (hN : N ≤ sizeLine) (hx : sc.names.lookup x = some .local) (hs : ∀ env, env.scope = sc → swapsWith (.ListComp elt [⟨tg, iter, ifs, 0⟩] scope pos) (some (.Name x px)) spos.line env = pure true) (hf : ∀ env x, foldedSetIterable iter env x = pure x := by intro _ _; rfl) :
    Ex1 prog w h₀ n sc Γ none (.Assign [.Name x px] (.ListComp elt [⟨tg, iter, ifs, 0⟩] scope pos) spos) (.next ((x, .list (((List.range N).filter p).map ds)) :: Γ) none) := by
  intro A env s₀ G₀ Z G m s f t
  have hkx : env.kindOf x = some .local := by unfold Env.kindOf; rw [f.scope]; exact hx
  rw [exec_Assign_Name_used _ _ _ _ (hs env f.scope)]
  refine wpAny_bind (wpAny_standAt (wpAny_bind ?_))
  show wpAny _ A (do let _ ← comprehension (.ListComp elt [⟨tg, iter, ifs, 0⟩] scope pos) scope env _ (newList []) false (eval iter env) (some (assign (.Name x px) env))) _ _ s
  refine wpAny_bind (wpAny_mono (comp_core (use := some (assign (.Name x px) env)) (Q := fun _ s' => Ends env s₀ G₀ Z G (.next ((x, .list (((List.range N).filter p).map ds)) :: Γ) none) .next s') Γc p ds hS hk hcell hnames hns hfree hc hT hE hN hf (t.cx f) (fun D C s' mC ys kk k nD nC hDC hn hD r => ?_)) (fun _ s' hq => wpAny_pure (wpAny_pure hq)) fun _ _ x => x)
  have t₁ := t.cut k nC
  have le₁ : Le G (Cut (Ext G s.heap s'.heap) [C]) := Cut.keep t.sub (Ext.le t.sub) fun a h => by rw [List.mem_singleton.mp h]; exact nC
  have gC : Cut (Ext G s.heap s'.heap) [C] C = none := Cut.on (by simp)
  have hCL : C ≠ env.locals := fun q => by
    obtain ⟨o, _, _, ho, _⟩ := t.ns
    rw [← q, nC] at ho; cases ho
  have hz : Z C = none := by
    cases q : Z C with
    | none => rfl
    | some o => have := (t.z C o q).1; rw [nC] at this; cases this
  have rD : Rd (Cut (Ext G s.heap s'.heap) [C]) (.ref D) (.list (((List.range N).filter p).map ds)) := by
    refine .list (o := { cls := .type "list", data := .seq ys kk }) ?_ rfl rfl (r.mono fun a o e => ?_)
    · rw [Cut.off (by simp [hDC]), Ext.new nD]; exact hD
    · have ha : a ∉ [D, C] := fun q => by rw [Cut.on q] at e; cases e
      rw [Cut.off ha] at e
      rw [Cut.off (fun q => ha (by rw [List.mem_singleton.mp q]; simp))]
      exact e
  refine wpAny_assign_Name (wpAny_storeName_local hkx t₁.ns (fun h₂ hn₂ hs₂ => ?_) (local_ok f.ok))
  have t₂ := t₁.store (tk := s'.toks + 1) (ns := [x]) (ds := [.list (((List.range N).filter p).map ds)]) hn₂ hs₂ (bind_one rD) rfl (fun y hy => by rw [List.mem_singleton.mp hy]; exact hkx) (fun y b ds e => nomatch e)
  exact ⟨mC, hn.sameBut hs₂ hCL, fun h' hs' => ⟨_, _, le₁, t₂.off hs' gC hCL (none_back t.keep nC) hz⟩⟩
end
end Mine

/-! part Hd -/
namespace Mine
open PySem PySem.W PyProof.Rows
/-! the head: the boot is the library's; what the top leaves is seen by one look of the kernel, through the library's quick twins of topRun, treeTable and openSeen -/
noncomputable abbrev P0 : Program := PySem.Challenge.pw_sa0104_01
noncomputable def cut (l : List Stmt) (a n : Nat) (r : List Stmt) : List Stmt := (l.drop a).take n ++ r
noncomputable def vb (l : List Stmt) : List Stmt := cut l 1 1 (cut l 3 1 (cut l 5 8 (cut l 14 15 (cut l 30 3 (cut l 34 3 (l.drop 38))))))
noncomputable def vw : Program := { P0 with main := { P0.main with body := vb P0.main.body } }
noncomputable abbrev rw0 : RowW := PySem.Challenge.rw_sa0104_01.row.toRowW
noncomputable abbrev lo0 : List Str := [Str.ofString "F0"]
noncomputable abbrev Xt0 (s : Shared) : Bool := xlAt vw [] s && recOk (RowW.records rw0) s
theorem left_of {p q : Program} {loose : List Str} {Xt : Shared → Bool} {α : Type} {Yf : Shared → α} {Ya : World → α} {N M K : Nat} {H : Params → Heap} {gs : Array GenState} {d : Drawn} {k m₀ : Nat} {ann : Option Value}
    (op : ∀ w : World, (fencedOpening treeTable p w N).map (fun s => (s.heap, s.gens, s.drawn, s.toks)) = some (H w.params, gs, d, k))
    (z1 : ∀ w : World, ((H w.params).isNs mainGlobals && gs.size == 0) = true) (z2 : ∀ w : World, (H w.params).objs.size = m₀) (z3 : ∀ w : World, (H w.params).nsMap mainGlobals "__annotations__" = ann) (hN : M + K = N)
    (go : ∀ (w : World) (os : OsState), (Fast.tw14082659384304107361 Fast.tw14364793385576792824 p w m₀ ann M ⟨H w.params, gs, d, k, os⟩ (topStub p)).map
      (fun s => (staticsOk (importedModules p.main.body) (H w.params) s.heap && namesBound p s.heap && gensDone s && laidKept (H w.params) s.heap, Fast.tw4187177175401517315 q loose (importedModules p.main.body) Xt true s, Yf s)) = some (true, openGood q loose, Ya w)) :
    LeftO p q loose Xt Yf Ya N := fun w => by
  obtain ⟨⟨h, g', d', k', os⟩, e, e'⟩ := Option.map_eq_some_iff.mp (op w)
  obtain ⟨rfl, rfl, rfl, rfl⟩ : h = H w.params ∧ g' = gs ∧ d' = d ∧ k' = k := by simpa only [Prod.mk.injEq] using e'
  obtain ⟨s, hs, hv⟩ := Option.map_eq_some_iff.mp (go w os)
  rw [← Fast.te14082659384304107361, ← Fast.te14364793385576792824] at hs
  rw [← Fast.te4187177175401517315] at hv
  obtain ⟨v1, v2⟩ := Prod.mk.inj hv
  have r := topRun_mono K _ _ _ _ hs
  rw [hN] at r
  have t : topFrom treeTable p w N ⟨H w.params, g', d', k', os⟩ = some s := by
    unfold topFrom
    dsimp only
    rw [z1, z2, z3, r]
    show (match staticsOk (importedModules p.main.body) (H w.params) s.heap && namesBound p s.heap && gensDone s && laidKept (H w.params) s.heap with | true => some s | false => none) = _
    rw [v1]
  unfold openEnds
  rw [e]
  show (topFrom treeTable p w N _).map _ = _
  rw [t]
  exact congrArg some v2
section
set_option maxRecDepth 100000
set_option maxHeartbeats 8000000
theorem bo1 : opening P0 = plainProg P0.main.scope.names := Eq.refl (opening P0)
theorem bo2 (s : Shared) : fenceModules? P0 s = some s := Eq.refl (fenceModules? P0 s)
theorem sz1 (w : World) : ((boot_heap w.params).isNs mainGlobals && (Array.mk [] : Array GenState).size == 0) = true := by kernel_rfl
theorem sz2 (w : World) : (boot_heap w.params).objs.size = 11 := by kernel_rfl
theorem sz3 (w : World) : (boot_heap w.params).nsMap mainGlobals "__annotations__" = some (.ref 6) := by kernel_rfl
theorem seen0 (w : World) (os : OsState) : (Fast.tw14082659384304107361 Fast.tw14364793385576792824 P0 w 11 (some (.ref 6)) 1300 ⟨boot_heap w.params, Array.mk [], boot_drawn, boot_toks, os⟩ (topStub P0)).map
    (fun s => (staticsOk (importedModules P0.main.body) (boot_heap w.params) s.heap && namesBound P0 s.heap && gensDone s && laidKept (boot_heap w.params) s.heap, Fast.tw4187177175401517315 vw lo0 (importedModules P0.main.body) Xt0 true s, Hook.obs Hook.none s)) = some (true, openGood vw lo0, Hook.val Hook.none w) := by kernel_rfl
end
theorem left : LeftO P0 vw lo0 Xt0 (Hook.obs Hook.none) (Hook.val Hook.none) 2682 := left_of (K := 1382) (boot_open bo1 rfl bo2) sz1 sz2 sz3 rfl seen0
end Mine

/-! part G1 -/
namespace Mine
open PySem PySem.W PyProof.Rows
set_option maxRecDepth 100000
noncomputable abbrev PP : Program := vw

def rD (q : Rat) : PyData := .tuple [.int q.num, .int q.den]
def pD (p : Pl) : PyData := .list (p.map rD)
section
variable {prog : Program} {w : World} {h₀ : Heap} {mg : Str → Option Value}
theorem recAt {p : Program} (i : Nat) {x : Str} {a₁ a b₁ b a₃ a₄ a₅ a₆ a₇ a₈ pos sc} (h : p.main.body[i]? = some (.FunctionDef x a₁ b₁ a₃ a₄ a₅ a₆ a₇ a₈ pos)) (hd : p.theDef x = some (a, b, sc)) (h1 : a.defaults = []) (h2 : kwLiteralsOf? a.kwonlyargs a.kw_defaults = some []) : (⟨x, a, b, sc, pos⟩ : DefRec) ∈ recsOf p :=
  List.mem_filterMap.mpr ⟨_, List.mem_of_getElem? h, by dsimp only; rw [hd]; dsimp only; rw [h1, h2]⟩
theorem fnN (W : Wd PP mg h₀) {d : DefRec} (h : d ∈ recsOf PP) : FnAt mg h₀ d.name := by
  obtain ⟨a, o, pm, code, doc, e1, e2, e3, _⟩ := W.fn d h
  exact ⟨a, o, _, e1, e2, e3⟩
theorem fn_gcd (W : Wd PP mg h₀) : FnAt mg h₀ "gcd" := fnN W (recAt 1 rfl rfl rfl rfl)
theorem fn_rat (W : Wd PP mg h₀) : FnAt mg h₀ "rat" := fnN W (recAt 4 rfl rfl rfl rfl)
theorem fn_radd (W : Wd PP mg h₀) : FnAt mg h₀ "radd" := fnN W (recAt 5 rfl rfl rfl rfl)
theorem fn_rmul (W : Wd PP mg h₀) : FnAt mg h₀ "rmul" := fnN W (recAt 6 rfl rfl rfl rfl)
theorem fn_rdiv (W : Wd PP mg h₀) : FnAt mg h₀ "rdiv" := fnN W (recAt 7 rfl rfl rfl rfl)
theorem fn_rneg (W : Wd PP mg h₀) : FnAt mg h₀ "rneg" := fnN W (recAt 8 rfl rfl rfl rfl)
theorem fn_rinv (W : Wd PP mg h₀) : FnAt mg h₀ "rinv" := fnN W (recAt 9 rfl rfl rfl rfl)
theorem fn_qtrim (W : Wd PP mg h₀) : FnAt mg h₀ "qtrim" := fnN W (recAt 10 rfl rfl rfl rfl)
theorem fn_qdegree (W : Wd PP mg h₀) : FnAt mg h₀ "qdegree" := fnN W (recAt 11 rfl rfl rfl rfl)
theorem fn_qlead (W : Wd PP mg h₀) : FnAt mg h₀ "qlead" := fnN W (recAt 12 rfl rfl rfl rfl)
theorem fn_qadd (W : Wd PP mg h₀) : FnAt mg h₀ "qadd" := fnN W (recAt 13 rfl rfl rfl rfl)
theorem fn_qneg (W : Wd PP mg h₀) : FnAt mg h₀ "qneg" := fnN W (recAt 14 rfl rfl rfl rfl)
theorem fn_qsub (W : Wd PP mg h₀) : FnAt mg h₀ "qsub" := fnN W (recAt 15 rfl rfl rfl rfl)
theorem fn_qscale (W : Wd PP mg h₀) : FnAt mg h₀ "qscale" := fnN W (recAt 16 rfl rfl rfl rfl)
theorem fn_qraise (W : Wd PP mg h₀) : FnAt mg h₀ "qraise" := fnN W (recAt 17 rfl rfl rfl rfl)
theorem fn_qmul (W : Wd PP mg h₀) : FnAt mg h₀ "qmul" := fnN W (recAt 18 rfl rfl rfl rfl)
theorem fn_qpower (W : Wd PP mg h₀) : FnAt mg h₀ "qpower" := fnN W (recAt 19 rfl rfl rfl rfl)
theorem fn_qdivmod (W : Wd PP mg h₀) : FnAt mg h₀ "qdivmod" := fnN W (recAt 20 rfl rfl rfl rfl)
theorem fn_qmonic (W : Wd PP mg h₀) : FnAt mg h₀ "qmonic" := fnN W (recAt 21 rfl rfl rfl rfl)
theorem fn_qgcd (W : Wd PP mg h₀) : FnAt mg h₀ "qgcd" := fnN W (recAt 22 rfl rfl rfl rfl)
theorem fn_qext (W : Wd PP mg h₀) : FnAt mg h₀ "qextended" := fnN W (recAt 23 rfl rfl rfl rfl)
theorem fn_qderive (W : Wd PP mg h₀) : FnAt mg h₀ "qderive" := fnN W (recAt 24 rfl rfl rfl rfl)
theorem fn_digits (W : Wd PP mg h₀) : FnAt mg h₀ "digits_of" := fnN W (recAt 25 rfl rfl rfl rfl)
theorem fn_share (W : Wd PP mg h₀) : FnAt mg h₀ "share_of" := fnN W (recAt 26 rfl rfl rfl rfl)
theorem fn_partial (W : Wd PP mg h₀) : FnAt mg h₀ "partial_by" := fnN W (recAt 27 rfl rfl rfl rfl)
theorem fn_fmake (W : Wd PP mg h₀) : FnAt mg h₀ "fmake" := fnN W (recAt 29 rfl rfl rfl rfl)
theorem fn_fderive (W : Wd PP mg h₀) : FnAt mg h₀ "fderive" := fnN W (recAt 30 rfl rfl rfl rfl)
theorem fn_drawn (W : Wd PP mg h₀) : FnAt mg h₀ "_law_drawn" := fnN W (recAt 31 rfl rfl rfl rfl)
theorem fn_times (W : Wd PP mg h₀) : FnAt mg h₀ "_law_times" := fnN W (recAt 32 rfl rfl rfl rfl)
theorem fn_ratios (W : Wd PP mg h₀) : FnAt mg h₀ "_law_ratios" := fnN W (recAt 33 rfl rfl rfl rfl)
theorem ri {h : Heap} {v : Value} {as : List Addr} {a : Int} (r : ReadsW [] (fun _ => none) h v (.int a) as) : ∃ t, v = .int a t := by cases r; exact ⟨_, rfl⟩
theorem ra2 {h : Heap} {vs : List Value} {as : List Addr} {a b : Int} (r : ReadsAllW [] (fun _ => none) h vs [.int a, .int b] as) : ∃ t u, vs = [.int a t, .int b u] := by
  cases r with
  | cons r1 r => cases r with
    | cons r2 r =>
      cases r
      obtain ⟨t, rfl⟩ := ri r1
      obtain ⟨u, rfl⟩ := ri r2
      exact ⟨_, _, rfl⟩
theorem gl_of (W : Wd PP mg h₀) (i : Nat) {x : Str} {a b : Int} (h : (wlitsOf PP)[i]? = some (x, .tuple [.int a, .int b])) : ∃ v, mg x = some v ∧ Rd h₀.get? v (.tuple [.int a, .int b]) := by
  obtain ⟨v, e, r⟩ := W.lits _ (List.mem_of_getElem? h)
  refine ⟨v, e, ?_⟩
  cases r with
  | tuple h1 h2 h3 r =>
    obtain ⟨t, u, e⟩ := ra2 r
    exact .tuple h1 h2 h3 (e ▸ .cons (.int _ _) (.cons (.int _ _) .nil))
theorem gl_R0 (W : Wd PP mg h₀) : ∃ v, mg "R0" = some v ∧ Rd h₀.get? v (rD 0) := gl_of W 0 rfl
theorem gl_R1 (W : Wd PP mg h₀) : ∃ v, mg "R1" = some v ∧ Rd h₀.get? v (rD 1) := gl_of W 1 rfl


theorem con_gcd (W : Wd PP mg h₀) (a b : Int) : Con prog w h₀ 1 (fv mg "gcd") [.int a, .int b] (.int (gcI a b)) := by
  refine Con.def W (names := ["a", "b"]) ⟨_, recAt 1 rfl rfl rfl rfl, rfl, rfl, rfl, (fun _ _ _ => ml2 fun _ _ => rfl), by decide, by decide, rfl, rfl, rfl⟩ rfl ?_
  refine Ex.cons (Ex1.swap [(_, _), (_, _)] (ds := [.int (a.natAbs : Int), .int (b.natAbs : Int)]) ?e rfl (by decide) (by decide) (fun _ _ _ h => nomatch h) (Nat.le_of_ble_eq_true rfl) ?_ ?_) ?_
  case e =>
    refine EvL.cons ?_ (EvL.cons ?_ EvL.nil)
    · have : ((a.natAbs : Int)) = if a < 0 then -a else a := by lia
      rw [this]
      exact Ev.callB W (by decide) rfl rfl Con.abs (EvL.cons (Ev.name rfl) EvL.nil)
    · have : ((b.natAbs : Int)) = if b < 0 then -b else b := by lia
      rw [this]
      exact Ev.callB W (by decide) rfl rfl Con.abs (EvL.cons (Ev.name rfl) EvL.nil)
  · intro _; rfl
  · rintro ⟨_, _, _, _, _, _, _, _, _⟩ rfl; rfl
  refine Ex.cons (Γ' := [("a", .int (gcI a b))]) (O' := none) (Ex1.whl ?_) (Ex.ret (Ex1.ret (Ev.name rfl)))
  refine WL.weak (Γ' := [("a", .int (a.natAbs : Int)), ("b", .int (b.natAbs : Int))]) ?_ ?_
  · exact Wk.cons rfl (Wk.cons rfl Wk.nil)
  have hg : gcI a b = ((Nat.gcd a.natAbs b.natAbs : Nat) : Int) := rfl
  rw [hg]
  generalize a.natAbs = x
  generalize b.natAbs = y
  induction y using Nat.strongRecOn generalizing x with
  | _ y ih =>
    by_cases hy : y = 0
    · subst hy
      rw [Nat.gcd_zero_right]
      refine WL.weakOut (Wk.cons rfl Wk.nil) (WL.done ?_)
      exact Tst.cmp (Ev.name rfl) Ev.int Cm2.neI
    · refine WL.step (Γ' := [("b", .int ((x % y : Nat) : Int)), ("a", .int (y : Int)), ("a", .int (x : Int)), ("b", .int (y : Int))]) (O' := none) ?_ ?_ ?_
      · have : true = ((y : Int) != 0) := by simp [hy]
        rw [this]
        exact Tst.cmp (Ev.name rfl) Ev.int Cm2.neI
      · refine Ex.cons (Ex1.swap [(_, _), (_, _)] (ds := [.int (y : Int), .int ((x % y : Nat) : Int)]) ?e rfl (by decide) (by decide) (fun _ _ _ h => nomatch h) (Nat.le_of_ble_eq_true rfl) ?_ ?_) Ex.nil
        case e =>
          have e1 : ((x % y : Nat) : Int) = Int.fmod (x : Int) (y : Int) := by
            rw [Int.fmod_eq_emod_of_nonneg _ (by lia)]; rfl
          rw [e1]
          exact EvL.cons (Ev.name rfl) (EvL.cons (Ev.bin (Ev.name rfl) (Ev.name rfl) (Op2.mod (by lia))) EvL.nil)
        · intro _; rfl
        · rintro ⟨_, _, _, _, _, _, _, _, _⟩ rfl; rfl
      · rw [Nat.gcd_comm x y, Nat.gcd_rec y x, Nat.gcd_comm (x % y) y]
        exact WL.weak (Wk.cons rfl (Wk.cons rfl Wk.nil)) (ih _ (Nat.mod_lt _ (by lia)) y)

theorem gS_ne {t b : Int} (hb : b ≠ 0) : gS t b ≠ 0 := by
  have := Int.gcd_pos_of_ne_zero_right t hb
  unfold gS gcI
  split <;> lia
theorem gS_le {t b : Int} (hb : b ≠ 0) : (gS t b).natAbs ≤ b.natAbs := by
  have : Int.gcd t b ≤ b.natAbs := Nat.gcd_le_right _ (by lia)
  unfold gS gcI
  split <;> lia
theorem no_pylong {x y : Int} (h : y.natAbs < 2 ^ 9000) : Builtin.divisionGoesByPylong x y = false := by
  unfold Builtin.divisionGoesByPylong
  have : (if y == 0 then 0 else y.natAbs.log2 / 30 + 1) ≤ 300 := by
    split
    · lia
    · rename_i hy
      have hy' : y.natAbs ≠ 0 := by
        intro e
        exact hy (by rw [Int.natAbs_eq_zero.mp e]; rfl)
      have := (Nat.log2_lt hy').mpr h
      lia
  simp only [Bool.and_eq_false_iff]
  left
  simpa using this
theorem con_rat (W : Wd PP mg h₀) {t b : Int} (hb : b ≠ 0) (h : b.natAbs < 2 ^ 9000) : Con prog w h₀ 2 (fv mg "rat") [.int t, .int b] (rD (Rat.divInt t b)) := by
  refine Con.def W (names := ["top", "bottom"]) ⟨_, recAt 4 rfl rfl rfl rfl, rfl, rfl, rfl, (fun _ _ _ => ml2 fun _ _ => rfl), by decide, by decide, rfl, rfl, rfl⟩ rfl ?_
  refine Ex.cons (Ex1.iff (c := false) ?_ Ex.nil) ?_
  · have : false = (b == 0) := by simpa using hb
    rw [this]
    exact Tst.cmp (Ev.name rfl) Ev.int Cm2.eqI
  refine Ex.cons (Ex1.asg (d := .int (gS t b)) ?_ rfl (fun _ _ _ h => nomatch h)) ?_
  · refine Ev.ife (b := decide (0 < b)) (Tst.cmp (Ev.name rfl) Ev.int Cm2.gtI) ?_
    by_cases hp : 0 < b
    · rw [if_pos (decide_eq_true hp)]
      rw [show gS t b = gcI t b from if_pos hp]
      exact Ev.call W (fn_gcd W) rfl (con_gcd W t b) (EvL.cons (Ev.name rfl) (EvL.cons (Ev.name rfl) EvL.nil)) (by decide)
    · rw [if_neg (by simpa using hp)]
      rw [show gS t b = 0 - gcI t b from if_neg hp]
      exact Ev.bin Ev.int (Ev.call W (fn_gcd W) rfl (con_gcd W t b) (EvL.cons (Ev.name rfl) (EvL.cons (Ev.name rfl) EvL.nil)) (by decide)) Op2.sub
  refine Ex.ret (Ex1.ret ?_)
  unfold rD
  rw [rat_num hb, rat_den hb]
  have hl : (gS t b).natAbs < 2 ^ 9000 := Nat.lt_of_le_of_lt (gS_le hb) h
  refine Ev.tuple (EvL.cons ?_ (EvL.cons ?_ EvL.nil))
  · exact Ev.bin (Ev.name rfl) (Ev.name rfl) (Op2.fdiv (gS_ne hb) (no_pylong hl))
  · exact Ev.bin (Ev.name rfl) (Ev.name rfl) (Op2.fdiv (gS_ne hb) (no_pylong hl))
end
end Mine

/-! part G2 -/
namespace Mine
open PySem PySem.W PyProof.Rows
set_option maxRecDepth 100000

theorem imo {a b : Int} (ha : a.natAbs < 2 ^ LB) (hb : b.natAbs < 2 ^ LB) : IntMulOk a b :=
  IntMulOk.of_le (m := 4400) (n := 4400) (intBits_le_iff.mpr ha) (intBits_le_iff.mpr hb) (by decide)
theorem Bt.n {q : Rat} (h : Bt LB q) : q.num.natAbs < 2 ^ LB := h.1
theorem Bt.d {q : Rat} (h : Bt LB q) : (q.den : Int).natAbs < 2 ^ LB := by rw [Int.natAbs_natCast]; exact h.2
theorem mul9 {a b : Int} (ha : a.natAbs < 2 ^ LB) (hb : b.natAbs < 2 ^ LB) : (a * b).natAbs < 2 ^ 9000 := by
  rw [Int.natAbs_mul]
  exact Nat.lt_of_lt_of_le (mul_lt_pow ha hb) (Nat.pow_le_pow_right (by decide) (by decide))
theorem lb9 {a : Int} (ha : a.natAbs < 2 ^ LB) : a.natAbs < 2 ^ 9000 := Nat.lt_of_lt_of_le ha (Nat.pow_le_pow_right (by decide) (by decide))
section
variable {prog : Program} {w : World} {h₀ : Heap} {mg : Str → Option Value}

theorem con_radd (W : Wd PP mg h₀) {a b : Rat} (ha : Bt LB a) (hb : Bt LB b) : Con prog w h₀ 3 (fv mg "radd") [rD a, rD b] (rD (a + b)) := by
  rw [add_divInt a b]
  refine Con.def W (names := ["a", "b"]) ⟨_, recAt 5 rfl rfl rfl rfl, rfl, rfl, rfl, (fun _ _ _ => ml2 fun _ _ => rfl), by decide, by decide, rfl, rfl, rfl⟩ rfl ?_
  exact Ex.ret (Ex1.ret (Ev.call W (fn_rat W) rfl (con_rat W (Int.mul_ne_zero (den_ne a) (den_ne b)) (mul9 ha.d hb.d)) (EvL.cons (Ev.bin (Ev.bin (Ev.itemT (Ev.name rfl) Ev.int (by decide) (by decide) rfl) (Ev.itemT (Ev.name rfl) Ev.int (by decide) (by decide) rfl) (Op2.mul (imo ha.n hb.d))) (Ev.bin (Ev.itemT (Ev.name rfl) Ev.int (by decide) (by decide) rfl) (Ev.itemT (Ev.name rfl) Ev.int (by decide) (by decide) rfl) (Op2.mul (imo hb.n ha.d))) Op2.add) (EvL.cons (Ev.bin (Ev.itemT (Ev.name rfl) Ev.int (by decide) (by decide) rfl) (Ev.itemT (Ev.name rfl) Ev.int (by decide) (by decide) rfl) (Op2.mul (imo ha.d hb.d))) EvL.nil)) (by decide)))
theorem con_rmul (W : Wd PP mg h₀) {a b : Rat} (ha : Bt LB a) (hb : Bt LB b) : Con prog w h₀ 3 (fv mg "rmul") [rD a, rD b] (rD (a * b)) := by
  rw [mul_divInt a b]
  refine Con.def W (names := ["a", "b"]) ⟨_, recAt 6 rfl rfl rfl rfl, rfl, rfl, rfl, (fun _ _ _ => ml2 fun _ _ => rfl), by decide, by decide, rfl, rfl, rfl⟩ rfl ?_
  exact Ex.ret (Ex1.ret (Ev.call W (fn_rat W) rfl (con_rat W (Int.mul_ne_zero (den_ne a) (den_ne b)) (mul9 ha.d hb.d)) (EvL.cons (Ev.bin (Ev.itemT (Ev.name rfl) Ev.int (by decide) (by decide) rfl) (Ev.itemT (Ev.name rfl) Ev.int (by decide) (by decide) rfl) (Op2.mul (imo ha.n hb.n))) (EvL.cons (Ev.bin (Ev.itemT (Ev.name rfl) Ev.int (by decide) (by decide) rfl) (Ev.itemT (Ev.name rfl) Ev.int (by decide) (by decide) rfl) (Op2.mul (imo ha.d hb.d))) EvL.nil)) (by decide)))
theorem con_rdiv (W : Wd PP mg h₀) {a b : Rat} (ha : Bt LB a) (hb : Bt LB b) (h0 : b ≠ 0) : Con prog w h₀ 3 (fv mg "rdiv") [rD a, rD b] (rD (a / b)) := by
  rw [div_divInt a b]
  refine Con.def W (names := ["a", "b"]) ⟨_, recAt 7 rfl rfl rfl rfl, rfl, rfl, rfl, (fun _ _ _ => ml2 fun _ _ => rfl), by decide, by decide, rfl, rfl, rfl⟩ rfl ?_
  exact Ex.ret (Ex1.ret (Ev.call W (fn_rat W) rfl (con_rat W (Int.mul_ne_zero (den_ne a) (num_ne h0)) (mul9 ha.d hb.n)) (EvL.cons (Ev.bin (Ev.itemT (Ev.name rfl) Ev.int (by decide) (by decide) rfl) (Ev.itemT (Ev.name rfl) Ev.int (by decide) (by decide) rfl) (Op2.mul (imo ha.n hb.d))) (EvL.cons (Ev.bin (Ev.itemT (Ev.name rfl) Ev.int (by decide) (by decide) rfl) (Ev.itemT (Ev.name rfl) Ev.int (by decide) (by decide) rfl) (Op2.mul (imo ha.d hb.n))) EvL.nil)) (by decide)))
theorem con_rneg (W : Wd PP mg h₀) (a : Rat) : Con prog w h₀ 3 (fv mg "rneg") [rD a] (rD (-a)) := by
  have e : rD (-a) = .tuple [.int (0 - a.num), .int a.den] := by
    unfold rD; rw [Rat.neg_num, Rat.neg_den, Int.zero_sub]
  rw [e]
  refine Con.def W (names := ["a"]) ⟨_, recAt 8 rfl rfl rfl rfl, rfl, rfl, rfl, (fun _ _ _ => ml1 fun _ => rfl), by decide, by decide, rfl, rfl, rfl⟩ rfl ?_
  exact Ex.ret (Ex1.ret (Ev.tuple (EvL.cons (Ev.bin Ev.int (Ev.itemT (Ev.name rfl) Ev.int (by decide) (by decide) rfl) Op2.sub) (EvL.cons (Ev.itemT (Ev.name rfl) Ev.int (by decide) (by decide) rfl) EvL.nil)) (Nat.le_of_ble_eq_true rfl)))
theorem con_rinv (W : Wd PP mg h₀) {a : Rat} (ha : Bt LB a) (h0 : a ≠ 0) : Con prog w h₀ 3 (fv mg "rinv") [rD a] (rD a⁻¹) := by
  rw [inv_divInt a]
  refine Con.def W (names := ["a"]) ⟨_, recAt 9 rfl rfl rfl rfl, rfl, rfl, rfl, (fun _ _ _ => ml1 fun _ => rfl), by decide, by decide, rfl, rfl, rfl⟩ rfl ?_
  exact Ex.ret (Ex1.ret (Ev.call W (fn_rat W) rfl (con_rat W (num_ne h0) (lb9 ha.n)) (EvL.cons (Ev.itemT (Ev.name rfl) Ev.int (by decide) (by decide) rfl) (EvL.cons (Ev.itemT (Ev.name rfl) Ev.int (by decide) (by decide) rfl) EvL.nil)) (by decide)))
end
end Mine

/-! part G3 -/
namespace Mine
open PySem PySem.W PyProof.Rows
set_option maxRecDepth 100000

theorem clip_up {n l : Nat} (h : n ≤ l) : clipAt l (n : Int) = n := by
  unfold clipAt
  rw [if_neg (Int.not_lt.mpr (Int.natCast_nonneg n)), Int.min_eq_left (Int.ofNat_le.mpr h), Int.max_eq_right (Int.natCast_nonneg n), Int.toNat_natCast]
theorem clip_init : ∀ {l : Nat}, clipAt l (-1) = l - 1
  | 0 => rfl
  | l + 1 => by
    have e : (-1 : Int) + ((l + 1 : Nat) : Int) = (l : Int) := by rw [Int.natCast_succ, Int.add_comm, Int.add_neg_cancel_right]
    unfold clipAt
    rw [if_pos (by decide), e, Int.min_eq_left (Int.ofNat_le.mpr (Nat.le_succ l)), Int.max_eq_right (Int.natCast_nonneg l), Int.toNat_natCast]; rfl
theorem clip_tail : ∀ {l : Nat}, clipAt l 1 = min 1 l
  | 0 => rfl
  | l + 1 => (clip_up (n := 1) (l := l + 1) (Nat.le_add_left 1 l)).trans (Nat.min_eq_left (Nat.le_add_left 1 l)).symm
theorem sb_up {n l : Nat} (h : n ≤ l) : sliceBounds none (some (n : Int)) none l = (((0 : Nat) : Int), ((n : Nat) : Int), 1) := by
  rw [sliceBounds_plain]; show (_, ((clipAt l n : Nat) : Int), _) = _; rw [clip_up h]; rfl
theorem sb_init {l : Nat} : sliceBounds none (some (-1)) none l = (((0 : Nat) : Int), ((l - 1 : Nat) : Int), 1) := by
  rw [sliceBounds_plain]; show (_, ((clipAt l (-1) : Nat) : Int), _) = _; rw [clip_init]; rfl
theorem sb_tail {l : Nat} : sliceBounds (some 1) none none l = (((min 1 l : Nat) : Int), ((l : Nat) : Int), 1) := by
  rw [sliceBounds_plain]; show (((clipAt l 1 : Nat) : Int), _, _) = _; rw [clip_tail]; rfl
theorem ev_allzero {p : Pl} (h : ∀ i, p.getD i 0 = 0) (x : Rat) : ev p x = 0 := by
  induction p with
  | nil => rfl
  | cons a p ih =>
    have h0 := h 0
    rw [List.getD_cons_zero] at h0
    rw [ev_cons, ih fun i => by have := h (i + 1); rwa [List.getD_cons_succ] at this, h0]; grind
theorem trim_take {p : Pl} {n : Nat} (hn : n ≤ p.length) (hz : ∀ i, n ≤ i → p.getD i 0 = 0) (hl : n = 0 ∨ p.getD (n - 1) 0 ≠ 0) : trim p = p.take n := by
  refine uniq (fun x => ?_) (.trim p) fun h => ?_
  · rw [ev_trim]
    have e := ev_append (p.take n) (p.drop n) x
    rw [List.take_append_drop] at e
    have := ev_allzero (p := p.drop n) (fun i => by
      have := hz (n + i) (by lia)
      rw [List.getD_eq_getElem?_getD] at this ⊢
      rwa [List.getElem?_drop]) x
    rw [e, this]; grind
  · have h0 : (p.take n).length = n := by rw [List.length_take]; lia
    have h1 := len_pos h
    rw [← last_getD h, h0]
    have := hl.resolve_left (by lia)
    rw [List.getD_eq_getElem?_getD] at this ⊢
    rwa [List.getElem?_take_of_lt (by lia)]
theorem pD_get {p : Pl} {i : Nat} (h : i < p.length) : (p.map rD)[i]? = some (rD (p.getD i 0)) := by
  rw [List.getElem?_map, List.getD_eq_getElem?_getD, List.getElem?_eq_getElem h]; rfl
theorem getD_lt {α : Type} {l : List α} {i : Nat} {d : α} (h : i < l.length) : l[i]? = some (l.getD i d) := by
  rw [List.getD_eq_getElem?_getD, List.getElem?_eq_getElem h]; rfl
section
variable {prog : Program} {w : World} {h₀ : Heap} {mg : Str → Option Value}

theorem Tst.to {n : Nat} {sc : Scope} {Γ : Gam} {O : Own} {e : Expr} {b c : Bool} (h : Tst prog w h₀ n sc Γ O e b) (q : b = c) : Tst prog w h₀ n sc Γ O e c := q ▸ h
theorem Ev.to {n : Nat} {sc : Scope} {Γ : Gam} {O : Own} {e : Expr} {b c : PyData} (h : Ev prog w h₀ n sc Γ O e b) (q : b = c) : Ev prog w h₀ n sc Γ O e c := q ▸ h
theorem con_len {p : Pl} {n : Nat} (h : p.length ≤ 5000) : Con prog w h₀ n (.builtin "len") [pD p] (.int p.length) := by
  have := Con.len (prog := prog) (w := w) (h₀ := h₀) (n := n) (xs := p.map rD) (by rw [List.length_map]; lia)
  rwa [List.length_map] at this
theorem con_qtrim (W : Wd PP mg h₀) {p : Pl} (hp : p.length ≤ 4000) : Con prog w h₀ 1 (fv mg "qtrim") [pD p] (pD (trim p)) := by
  refine Con.def W (names := ["row"]) ⟨_, recAt 10 rfl rfl rfl rfl, rfl, rfl, rfl, (fun _ _ _ => ml1 fun _ => rfl), by decide, by decide, rfl, rfl, rfl⟩ rfl ?_
  refine Ex.cons (Ex1.asg (d := .int p.length) (Ev.callB W (by decide) rfl rfl (con_len (by lia)) (EvL.cons (Ev.name rfl) EvL.nil)) rfl (fun _ _ _ h => nomatch h)) ?_
  refine Ex.cons (Γ' := [("size", .int (trim p).length), ("row", pD p)]) (O' := none) (Ex1.whl (WL.weak (Γ' := [("size", .int p.length), ("row", pD p)]) (Wk.cons rfl (Wk.cons rfl Wk.nil)) ?_)) (Ex.ret (Ex1.ret ?_))
  · have hz : ∀ i, p.length ≤ i → p.getD i 0 = 0 := fun i hi => getD_out hi
    obtain ⟨n, hn⟩ : ∃ n, n = p.length := ⟨_, rfl⟩
    have hle : n ≤ p.length := by lia
    rw [← hn] at hz ⊢
    clear hn
    induction n with
    | zero =>
      have e := trim_take (Nat.zero_le _) hz (.inl rfl)
      have e' : (trim p).length = 0 := by rw [e]; rfl
      rw [e']
      exact WL.done (Tst.and (b₁ := false) (b := false) (Tst.cmp (Ev.name rfl) Ev.int Cm2.gtI) (fun h => nomatch h))
    | succ n ih =>
      by_cases h0 : p.getD n 0 = 0
      · refine WL.step (Γ' := [("size", .int n), ("size", .int (n + 1 : Nat)), ("row", pD p)]) (O' := none) (Tst.to (Tst.and (Tst.cmp (Ev.name rfl) Ev.int Cm2.gtI) fun _ => (Tst.cmp (Ev.itemT (Ev.item (k := ((n + 1 : Nat) : Int) - 1) (Ev.name rfl) (Ev.bin (Ev.name rfl) Ev.int Op2.sub) (by lia) (by lia) (d := rD (p.getD n 0)) (by rw [show (((n + 1 : Nat) : Int) - 1).toNat = n by lia]; exact pD_get hle)) Ev.int (by decide) (by decide) rfl) Ev.int Cm2.eqI)) (by rw [h0]; simp)) ?_ (WL.weak (Wk.cons rfl (Wk.cons rfl Wk.nil)) (ih (fun i hi => ?_) (by lia)))
        · have e2 : (n : Int) = ((n + 1 : Nat) : Int) - 1 := by lia
          exact Ex.cons (Ex1.aug rfl Ev.int rfl (fun _ _ _ h => nomatch h) fun A s t u Q hQ => isub_int (by rw [← e2]; exact hQ _ _)) Ex.nil
        · rcases Nat.lt_or_ge n i with q | q
          · exact hz i q
          · rw [show i = n by lia]; exact h0
      · have e := trim_take hle hz (.inr h0)
        have e' : (trim p).length = n + 1 := by rw [e, List.length_take]; lia
        rw [e']
        refine WL.done (Tst.to (Tst.and (Tst.cmp (Ev.name rfl) Ev.int Cm2.gtI) fun _ => (Tst.cmp (Ev.itemT (Ev.item (k := ((n + 1 : Nat) : Int) - 1) (Ev.name rfl) (Ev.bin (Ev.name rfl) Ev.int Op2.sub) (by lia) (by lia) (d := rD (p.getD n 0)) (by rw [show (((n + 1 : Nat) : Int) - 1).toNat = n by lia]; exact pD_get hle)) Ev.int (by decide) (by decide) rfl) Ev.int Cm2.eqI)) ?_)
        have := num_ne h0
        simpa using this
  · obtain ⟨k, hk, e⟩ : ∃ k, k = (trim p).length ∧ trim p = p.take k := by
      obtain ⟨k, h1, h2, h3⟩ : ∃ k, k ≤ p.length ∧ (∀ i, k ≤ i → p.getD i 0 = 0) ∧ (k = 0 ∨ p.getD (k - 1) 0 ≠ 0) := ⟨(trim p).length, len_trim p, fun i hi => by
        rw [← getD_of_ev (ev_trim p)]; exact getD_out hi, by
          by_cases h : trim p = []
          · left; rw [h]; rfl
          · right; rw [← getD_of_ev (ev_trim p), last_getD h]; exact Tr.trim p h⟩
      have := trim_take h1 h2 h3
      exact ⟨k, by rw [this, List.length_take]; lia, this⟩
    have hk' : k ≤ p.length := hk ▸ len_trim p
    have ee : pD (trim p) = .list (((p.map rD).drop 0).take (k - 0)) := by
      unfold pD; rw [e, List.drop_zero, Nat.sub_zero, List.map_take]
    rw [ee, ← hk]
    exact (Ev.callT W (by decide) rfl rfl (Con.list (by rw [List.length_take, List.length_drop, List.length_map]; unfold sizeLine; lia)) (EvL.cons (Ev.slice (lo := none) (i := none) (j := some (k : Int)) (Ev.name rfl) trivial (Ev.name rfl) (sb_up (by rw [List.length_map]; exact hk')) (by rw [List.length_map]; unfold sizeLine; lia)) EvL.nil))
end
end Mine

/-! part G4 -/
namespace Mine
open PySem PySem.W PyProof.Rows
set_option maxRecDepth 100000

def Cap (Γ Γc : Gam) (names : List (Str × NameKind)) : Prop := ∀ x d, Γc.lookup x = some d → Γ.lookup x = some d ∧ (x, NameKind.free) ∈ names ∧ names.lookup x = some .free
theorem Cap.nil {Γ : Gam} {names : List (Str × NameKind)} : Cap Γ [] names := fun _ _ e => nomatch e
theorem Cap.cons {Γ Γc : Gam} {names : List (Str × NameKind)} {x : Str} {d : PyData} (h1 : Γ.lookup x = some d) (h2 : (x, NameKind.free) ∈ names) (h3 : names.lookup x = some .free) (r : Cap Γ Γc names) : Cap Γ ((x, d) :: Γc) names := fun y e q => by
  rw [List.lookup_cons] at q
  cases hy : y == x with
  | true => rw [hy] at q; cases q; rw [beq_iff_eq.mp hy]; exact ⟨h1, h2, h3⟩
  | false => rw [hy] at q; exact r y e q
theorem free_of {sc : Scope} {Γ : Gam} {names : List (Str × NameKind)} (h : (names.all fun y => !(y.2 == .free) || (sc.names.lookup y.1 == some .cell && (Γ.lookup y.1).isSome)) = true) : ∀ y ∈ names, y.2 = .free → sc.names.lookup y.1 = some .cell ∧ (Γ.lookup y.1).isSome = true := by
  intro y hy hf
  have := List.all_eq_true.mp h y hy
  rw [hf] at this
  simpa using this
theorem gD {p : Pl} {i : Nat} (h : i < p.length) : (p.map rD).getD i .none = rD (p.getD i 0) := by
  rw [List.getD_eq_getElem?_getD, pD_get h]; rfl
theorem comp_eq {p : Pl} {N : Nat} {ds : Nat → PyData} (hl : p.length = N) (h : ∀ i, i < N → ds i = rD (p.getD i 0)) : PyData.list (((List.range N).filter fun _ => true).map ds) = pD p := by
  unfold pD
  congr 1
  rw [List.filter_eq_self.mpr (by simp)]
  subst hl
  refine List.ext_getElem (by simp) fun i h1 h2 => ?_
  simp only [List.length_map, List.length_range] at h1
  rw [List.getElem_map, List.getElem_range, h i h1, List.getElem_map]
  congr 1
  rw [List.getD_eq_getElem?_getD, List.getElem?_eq_getElem h1]; rfl
theorem rD0 : rD 0 = .tuple [.int 0, .int 1] := rfl
theorem rD1 : rD 1 = .tuple [.int 1, .int 1] := rfl
section
variable {prog : Program} {w : World} {h₀ : Heap} {mg : Str → Option Value}

theorem con_qdegree (W : Wd PP mg h₀) {p : Pl} (hp : p.length ≤ 4000) : Con prog w h₀ 1 (fv mg "qdegree") [pD p] (.int ((p.length : Int) - 1)) := by
  refine Con.def W (names := ["p"]) ⟨_, recAt 11 rfl rfl rfl rfl, rfl, rfl, rfl, (fun _ _ _ => ml1 fun _ => rfl), by decide, by decide, rfl, rfl, rfl⟩ rfl ?_
  exact Ex.ret (Ex1.ret (Ev.bin (Ev.callB W (by decide) rfl rfl (con_len (by lia)) (EvL.cons (Ev.name rfl) EvL.nil)) Ev.int Op2.sub))
theorem if_of {c : Bool} {P Q : Prop} (h : c = true → P) (h' : c = false → Q) : if c then P else Q := by
  cases c
  · exact h' rfl
  · exact h rfl
theorem con_qlead (W : Wd PP mg h₀) {p : Pl} (hp : p.length ≤ 4000) : Con prog w h₀ 1 (fv mg "qlead") [pD p] (rD (last p)) := by
  refine Con.def W (names := ["p"]) ⟨_, recAt 12 rfl rfl rfl rfl, rfl, rfl, rfl, (fun _ _ _ => ml1 fun _ => rfl), by decide, by decide, rfl, rfl, rfl⟩ rfl ?_
  refine Ex.ret (Ex1.ret (Ev.ife (b := decide ((0 : Int) < p.length)) (Tst.cmp (Ev.callB W (by decide) rfl rfl (con_len (by lia)) (EvL.cons (Ev.name rfl) EvL.nil)) Ev.int Cm2.gtI) (if_of (fun h => ?_) fun h => ?_)))
  · have h := of_decide_eq_true h
    have hn : p ≠ [] := by rintro rfl; simp at h
    refine Ev.itemN (Ev.name rfl) (Ev.neg Ev.int) (by decide) ?_ (by decide) ?_
    · rw [List.length_map]; lia
    · rw [List.length_map, ← last_getD hn, show (-1 + (p.length : Int)).toNat = p.length - 1 by lia]
      exact pD_get (by lia)
  · have h := of_decide_eq_false h
    have hn : p = [] := by
      cases p with
      | nil => rfl
      | cons => simp at h
    subst hn
    exact Ev.glob W (gl_R0 W) rfl
theorem con_qadd (W : Wd PP mg h₀) {a b : Pl} (h : AddOk a b) : Con prog w h₀ 4 (fv mg "qadd") [pD a, pD b] (pD (padd a b)) := by
  have ha := h.la; have hb := h.lb
  refine Con.def W (names := ["a", "b"]) ⟨_, recAt 13 rfl rfl rfl rfl, rfl, rfl, rfl, (fun _ _ _ => ml2 fun _ _ => rfl), by decide, by decide, rfl, rfl, rfl⟩ rfl ?_
  refine Ex.cons (Ex1.asg (d := .int (max a.length b.length : Nat)) (Ev.to (Ev.callB W (by decide) rfl rfl Con.max (EvL.cons (Ev.callB W (by decide) rfl rfl (con_len (by lia)) (EvL.cons (Ev.name rfl) EvL.nil)) (EvL.cons (Ev.callB W (by decide) rfl rfl (con_len (by lia)) (EvL.cons (Ev.name rfl) EvL.nil)) EvL.nil))) (by congr 1; split <;> lia)) rfl (fun _ _ _ h => nomatch h)) ?_
  refine Ex.ret (Ex1.ret (Ev.call W (fn_qtrim W) rfl (con_qtrim W (p := addL a b) (by rw [len_addL]; lia)) (EvL.cons (Ev.to (EvF.ev (EvF.comp [("a", pD a), ("b", pD b)] (fun _ => true) (fun i => rD (a.getD i 0 + b.getD i 0)) (Src.range W (by decide) rfl rfl (Ev.name rfl) (by lia)) rfl (by decide) (by decide) (by decide) (free_of rfl) (Cap.cons rfl (by decide) rfl (Cap.cons rfl (by decide) rfl Cap.nil)) ?hT ?hE ?hN)) (comp_eq (len_addL a b) fun i _ => by rw [getD_addL])) EvL.nil) (by decide)))
  case hT => exact fun _ _ => TstL.nil
  case hN => unfold sizeLine; lia
  case hE =>
    intro i hi _
    have ga : Bt LB (a.getD i 0) := h.ba.getD (by decide)
    have gb : Bt LB (b.getD i 0) := h.bb.getD (by decide)
    refine (Ev.call W (fn_radd W) rfl (con_radd W ga gb) (EvL.cons ?_ (EvL.cons ?_ EvL.nil)) (by decide))
    · refine Ev.ife (b := decide ((i : Int) < a.length)) (Tst.cmp (Ev.name rfl) (Ev.callB W (by decide) rfl rfl (con_len (by lia)) (EvL.cons (Ev.name rfl) EvL.nil)) Cm2.ltI) (if_of (fun h => ?_) fun h => ?_)
      · have h := of_decide_eq_true h
        exact Ev.item (Ev.name rfl) (Ev.name rfl) (by lia) (by lia) (by rw [Int.toNat_natCast]; exact pD_get (by lia))
      · have h := of_decide_eq_false h
        rw [getD_out (by lia)]
        exact Ev.glob W (gl_R0 W) rfl
    · refine Ev.ife (b := decide ((i : Int) < b.length)) (Tst.cmp (Ev.name rfl) (Ev.callB W (by decide) rfl rfl (con_len (by lia)) (EvL.cons (Ev.name rfl) EvL.nil)) Cm2.ltI) (if_of (fun h => ?_) fun h => ?_)
      · have h := of_decide_eq_true h
        exact Ev.item (Ev.name rfl) (Ev.name rfl) (by lia) (by lia) (by rw [Int.toNat_natCast]; exact pD_get (by lia))
      · have h := of_decide_eq_false h
        rw [getD_out (by lia)]
        exact Ev.glob W (gl_R0 W) rfl
theorem con_qneg (W : Wd PP mg h₀) {p : Pl} (hp : p.length ≤ 4000) : Con prog w h₀ 4 (fv mg "qneg") [pD p] (pD (pneg p)) := by
  refine Con.def W (names := ["p"]) ⟨_, recAt 14 rfl rfl rfl rfl, rfl, rfl, rfl, (fun _ _ _ => ml1 fun _ => rfl), by decide, by decide, rfl, rfl, rfl⟩ rfl ?_
  refine Ex.ret (Ex1.ret (Ev.to (EvF.ev (EvF.comp [] (fun _ => true) (fun i => rD (-(p.getD i 0))) (Src.list (Ev.name rfl)) rfl (by decide) (by decide) (by decide) (free_of rfl) Cap.nil ?hT ?hE ?hN)) (comp_eq (by rw [len_pneg, List.length_map]) fun i _ => by rw [getD_pneg])))
  case hT => exact fun _ _ => TstL.nil
  case hN => rw [List.length_map]; unfold sizeLine; lia
  case hE =>
    intro i hi _
    rw [List.length_map] at hi
    exact (Ev.call W (fn_rneg W) rfl (con_rneg W _) (EvL.cons (Ev.to (Ev.name rfl) (gD hi)) EvL.nil) (by decide))
theorem con_qsub (W : Wd PP mg h₀) {a b : Pl} (h : AddOk a b) : Con prog w h₀ 5 (fv mg "qsub") [pD a, pD b] (pD (psub a b)) := by
  have ha := h.la; have hb := h.lb
  refine Con.def W (names := ["a", "b"]) ⟨_, recAt 15 rfl rfl rfl rfl, rfl, rfl, rfl, (fun _ _ _ => ml2 fun _ _ => rfl), by decide, by decide, rfl, rfl, rfl⟩ rfl ?_
  exact Ex.ret (Ex1.ret (Ev.call W (fn_qadd W) rfl (con_qadd W ⟨h.ba, h.bb.pneg, ha, by rw [len_pneg]; exact hb⟩) (EvL.cons (Ev.name rfl) (EvL.cons (Ev.call W (fn_qneg W) rfl (con_qneg W (by lia)) (EvL.cons (Ev.name rfl) EvL.nil) (by decide)) EvL.nil)) (by decide)))
theorem con_qscale (W : Wd PP mg h₀) {p : Pl} {r : Rat} (bp : BL LB p) (hp : p.length ≤ 4000) (hr : Bt LB r) : Con prog w h₀ 4 (fv mg "qscale") [pD p, rD r] (pD (pscale p r)) := by
  refine Con.def W (names := ["p", "r"]) ⟨_, recAt 16 rfl rfl rfl rfl, rfl, rfl, rfl, (fun _ _ _ => ml2 fun _ _ => rfl), by decide, by decide, rfl, rfl, rfl⟩ rfl ?_
  refine Ex.ret (Ex1.ret (Ev.ife (b := r.num != 0) (Tst.cmp (Ev.itemT (Ev.name rfl) Ev.int (by decide) (by decide) rfl) Ev.int Cm2.neI) (if_of (fun h => ?_) fun h => ?_)))
  · have hr0 : r ≠ 0 := by rintro rfl; simp at h
    refine Ev.to (EvF.ev (EvF.comp [("r", rD r)] (fun _ => true) (fun i => rD (p.getD i 0 * r)) (Src.list (Ev.name rfl)) rfl (by decide) (by decide) (by decide) (free_of rfl) (Cap.cons rfl (by decide) rfl Cap.nil) ?hT ?hE ?hN)) (comp_eq (by rw [len_pscale hr0, List.length_map]) fun i hi => ?_)
    case hT => exact fun _ _ => TstL.nil
    case hN => rw [List.length_map]; unfold sizeLine; lia
    case hE =>
      intro i hi _
      rw [List.length_map] at hi
      exact (Ev.call W (fn_rmul W) rfl (con_rmul W (bp.getD (by decide)) hr) (EvL.cons (Ev.to (Ev.name rfl) (gD hi)) (EvL.cons (Ev.name rfl) EvL.nil)) (by decide))
    rw [List.length_map] at hi
    unfold pscale
    rw [if_neg hr0, List.getD_eq_getElem?_getD, List.getD_eq_getElem?_getD, List.getElem?_map, List.getElem?_eq_getElem hi]; rfl
  · have hr0 : r = 0 := Rat.num_eq_zero.mp (by simpa using h)
    have e : pscale p r = [] := by unfold pscale; rw [if_pos hr0]
    rw [e]
    exact Ev.list EvL.nil (Nat.le_of_ble_eq_true rfl)
end
end Mine

/-! part G5 -/
namespace Mine
open PySem PySem.W PyProof.Rows
set_option maxRecDepth 100000

theorem rowAt_take (f : Pl) (k : Nat) (x : Rat) (b : Pl) (j : Nat) (hj : j < b.length) : rowAt f k x (b.take (j + 1)) = addAt (rowAt f k x (b.take j)) (k + j) (x * b.getD j 0) := by
  induction b generalizing f k j with
  | nil => simp at hj
  | cons y b ih =>
    cases j with
    | zero => simp [rowAt]
    | succ j =>
      simp only [List.length_cons] at hj
      rw [List.take_succ_cons, rowAt, ih _ _ _ (by lia), List.take_succ_cons, rowAt, List.getD_cons_succ, show k + 1 + j = k + (j + 1) by lia]
theorem mulAt_take (b f : Pl) (k : Nat) (a : Pl) (i : Nat) (hi : i < a.length) : mulAt b f k (a.take (i + 1)) = rowAt (mulAt b f k (a.take i)) (k + i) (a.getD i 0) b := by
  induction a generalizing f k i with
  | nil => simp at hi
  | cons y a ih =>
    cases i with
    | zero => simp [mulAt]
    | succ i =>
      simp only [List.length_cons] at hi
      rw [List.take_succ_cons, mulAt, ih _ _ _ (by lia), List.take_succ_cons, mulAt, List.getD_cons_succ, show k + 1 + i = k + (i + 1) by lia]
theorem MulOk.bl {a b : Pl} (h : MulOk a b) : (∀ i, Bt LB (a.getD i 0)) ∧ (∀ j, Bt LB (b.getD j 0)) ∧ (∀ i j, Bt LB (a.getD i 0 * b.getD j 0)) ∧
    ∀ i j, i < a.length → j ≤ b.length → BL LB (rowAt (mulAt b (List.replicate (a.length + b.length - 1) 0) 0 (a.take i)) i (a.getD i 0) (b.take j)) := by
  obtain ⟨m, e, A, B, D, E, ha, hb, m0, e0, mD, eE, h1, h2⟩ := h.sz
  have hm : ∀ {B : Nat}, D ≤ B → m < 2 ^ B := fun h => Nat.lt_of_lt_of_le mD (Nat.pow_le_pow_right (by decide) h)
  have he : ∀ {B : Nat}, E ≤ B → e < 2 ^ B := fun h => Nat.lt_of_lt_of_le eE (Nat.pow_le_pow_right (by decide) h)
  have hme : m * e < 2 ^ LB := Nat.lt_of_lt_of_le (mul_lt_pow mD eE) (Nat.pow_le_pow_right (by decide) h2)
  refine ⟨fun i => (ha.BL m0 (hm (by lia)) (by lia)).getD (by decide), fun j => (hb.BL e0 (he (by lia)) (by lia)).getD (by decide), fun i j => ?_, fun i j hi hj => ?_⟩
  · obtain ⟨z, hz, ez⟩ := mul_ok (ha.getD (k := i)) (hb.getD (k := j))
    exact bt_of ez (Nat.mul_pos m0 e0) hme hz (by lia)
  · have hz : CM (m * e) (A + B) (List.replicate (a.length + b.length - 1) 0) := CM.zeros _
    have c₁ := hz.mulAt (k := 0) (Nat.le_refl _) (a := a.take i) (fun q hq => ha q (List.mem_of_mem_take hq)) hb
    have c₂ := c₁.rowAt (k := i) (x := a.getD i 0) (b := b.take j) (R := A + B) (n := b.length) (by lia) (fun y hy => mul_ok ha.getD (hb y (List.mem_of_mem_take hy))) (by rw [List.length_take]; lia)
    refine c₂.BL (Nat.mul_pos m0 e0) hme ?_
    have : (a.take i).length * b.length + b.length ≤ a.length * b.length := by
      rw [← Nat.succ_mul]
      exact Nat.mul_le_mul_right _ (by rw [List.length_take]; lia)
    lia
section
variable {prog : Program} {w : World} {h₀ : Heap} {mg : Str → Option Value}

theorem Ex1.forE {n : Nat} {sc : Scope} {Γ Γ' : Gam} {O O' : Own} {iter tg : Expr} {body : List Stmt} {pos : Pos} {ns : List Str} {N : Nat} {bs : Nat → List PyData} (J : Nat → Gam × Own) (hS : Src prog w h₀ n sc Γ O iter tg ns N bs) (hw : Wk Γ (J 0).1) (hO : O = (J 0).2) (hn : ∀ x ∈ ns, sc.names.lookup x = some .local) (hlen : ∀ i, i < N → ns.length = (bs i).length)
    (ho : ∀ i, i ≤ N → ∀ y b ds, (J i).2 = some (y, b, ds) → y ∉ ns)
    (hb : ∀ i, i < N → Ex prog w h₀ n sc (ns.zip (bs i) ++ (J i).1) (J i).2 body (.next (J (i + 1)).1 (J (i + 1)).2)) (h1 : (J N).1 = Γ') (h2 : (J N).2 = O') (hf : ∀ env x, foldedSetIterable iter env x = pure x := by intro _ _; rfl) :
    Ex1 prog w h₀ n sc Γ O (.For tg iter body [] pos) (.next Γ' O') := by
  subst h1 h2
  exact Ex1.for J hS hw hO hn hlen ho hb hf
theorem con_qraise (W : Wd PP mg h₀) {p : Pl} {k : Nat} (hp : p.length ≤ 4000) (hk : k ≤ 4000) : Con prog w h₀ 2 (fv mg "qraise") [pD p, .int k] (pD (praise p k)) := by
  refine Con.def W (names := ["p", "many"]) ⟨_, recAt 17 rfl rfl rfl rfl, rfl, rfl, rfl, (fun _ _ _ => ml2 fun _ _ => rfl), by decide, by decide, rfl, rfl, rfl⟩ rfl ?_
  refine Ex.ret (Ex1.ret (Ev.ife (b := decide ((0 : Int) < p.length)) (Tst.cmp (Ev.callB W (by decide) rfl rfl (con_len (by lia)) (EvL.cons (Ev.name rfl) EvL.nil)) Ev.int Cm2.gtI) (if_of (fun h => ?_) fun h => ?_)))
  · have h := of_decide_eq_true h
    have hn : p ≠ [] := by rintro rfl; simp at h
    have e : pD (praise p k) = .list (List.replicate (k : Int).toNat (rD 0) ++ p.map rD) := by
      unfold pD praise; rw [if_neg hn, List.map_append, List.map_replicate, Int.toNat_natCast]
    rw [e]
    exact Ev.cat (EvF.ev (EvF.rep (EvL.cons (Ev.glob W (gl_R0 W) rfl) EvL.nil) (Ev.name rfl) (by lia) (by lia))) (Ev.callT W (by decide) rfl rfl (Con.list (by rw [List.length_map]; unfold sizeLine; lia)) (EvL.cons (Ev.name rfl) EvL.nil)) (by rw [List.length_replicate, List.length_map]; unfold sizeLine; lia)
  · have h := of_decide_eq_false h
    have hn : p = [] := by
      cases p with
      | nil => rfl
      | cons => simp at h
    subst hn
    exact Ev.list EvL.nil (Nat.le_of_ble_eq_true rfl)
theorem con_qmul (W : Wd PP mg h₀) {a b : Pl} (h : MulOk a b) : Con prog w h₀ 4 (fv mg "qmul") [pD a, pD b] (pD (pmul a b)) := by
  have ha := h.la; have hb := h.lb
  obtain ⟨o1, o2, o3, o4⟩ := h.bl
  refine Con.def W (names := ["a", "b"]) ⟨_, recAt 18 rfl rfl rfl rfl, rfl, rfl, rfl, (fun _ _ _ => ml2 fun _ _ => rfl), by decide, by decide, rfl, rfl, rfl⟩ rfl ?_
  by_cases hn : a = [] ∨ b = []
  · have e : pmul a b = [] := by unfold pmul; rw [if_pos hn]
    rw [e]
    refine Ex.ret (Ex1.iff (c := true) (Tst.to (Tst.or (Tst.cmp (Ev.callB W (by decide) rfl rfl (con_len (by lia)) (EvL.cons (Ev.name rfl) EvL.nil)) Ev.int Cm2.eqI) fun _ => (Tst.cmp (Ev.callB W (by decide) rfl rfl (con_len (by lia)) (EvL.cons (Ev.name rfl) EvL.nil)) Ev.int Cm2.eqI)) ?_) (Ex.ret (Ex1.ret (Ev.list EvL.nil (Nat.le_of_ble_eq_true rfl)))))
    rcases hn with rfl | rfl <;> simp
  have hn1 : a ≠ [] := fun e => hn (.inl e)
  have hn2 : b ≠ [] := fun e => hn (.inr e)
  have l1 := len_pos hn1
  have l2 := len_pos hn2
  refine Ex.cons (Ex1.iff (c := false) (Tst.to (Tst.or (Tst.cmp (Ev.callB W (by decide) rfl rfl (con_len (by lia)) (EvL.cons (Ev.name rfl) EvL.nil)) Ev.int Cm2.eqI) fun _ => (Tst.cmp (Ev.callB W (by decide) rfl rfl (con_len (by lia)) (EvL.cons (Ev.name rfl) EvL.nil)) Ev.int Cm2.eqI)) ?_) Ex.nil) ?_
  · simp [hn1, hn2]
  refine Ex.cons (Ex1.asgF (EvF.rep (EvL.cons (Ev.glob W (gl_R0 W) rfl) EvL.nil) (Ev.bin (Ev.bin (Ev.callB W (by decide) rfl rfl (con_len (by lia)) (EvL.cons (Ev.name rfl) EvL.nil)) (Ev.callB W (by decide) rfl rfl (con_len (by lia)) (EvL.cons (Ev.name rfl) EvL.nil)) Op2.add) Ev.int Op2.sub) (by lia) (by lia)) rfl rfl) (Ex.dim ?_)
  let z : Pl := List.replicate (a.length + b.length - 1) 0
  have hz : List.replicate ((a.length : Int) + b.length - 1).toNat (rD 0) = z.map rD := by
    show _ = (List.replicate _ _).map rD
    rw [List.map_replicate]; congr 1; lia
  rw [hz]
  have hzl : z.length = a.length + b.length - 1 := List.length_replicate
  refine Ex.cons (Γ' := [("a", pD a), ("b", pD b)]) (O' := some ("found", false, (mulAt b z 0 a).map rD)) ?_ (Ex.freeze (Ex.ret (Ex1.ret (Ev.to (Ev.name rfl) ?_))))
  · refine Ex1.forE (fun i => ([("a", pD a), ("b", pD b)], some ("found", false, (mulAt b z 0 (a.take i)).map rD)))
      (Src.enum (xs := a.map rD) W (by decide) rfl rfl (Ev.name rfl) (by decide)) Wk.refl rfl (by decide) (fun _ _ => rfl) (fun i hi y c ds e => by cases e; decide) (fun i hi => ?_) rfl (by rw [List.length_map, List.take_length])
    rw [List.length_map] at hi
    refine Ex.weakOut (Γ₁ := [("one", .int i), ("left", (a.map rD).getD i .none), ("a", pD a), ("b", pD b)]) (Wk.cons rfl (Wk.cons rfl Wk.nil)) (Ex.cons ?_ Ex.nil)
    refine Ex1.forE (fun j => ([("one", .int i), ("left", (a.map rD).getD i .none), ("a", pD a), ("b", pD b)], some ("found", false, (rowAt (mulAt b z 0 (a.take i)) i (a.getD i 0) (b.take j)).map rD)))
      (Src.enum (xs := b.map rD) W (by decide) rfl rfl (Ev.name rfl) (by decide)) Wk.refl rfl (by decide) (fun _ _ => rfl) (fun i hi y c ds e => by cases e; decide) (fun j hj => ?_) rfl (by
        have e := mulAt_take b z 0 a i hi
        rw [Nat.zero_add] at e
        rw [List.length_map, List.take_length]
        exact congrArg (fun q : Pl => some (_, false, q.map rD)) e.symm)
    rw [List.length_map] at hj
    have hlen : (rowAt (mulAt b z 0 (a.take i)) i (a.getD i 0) (b.take j)).length = a.length + b.length - 1 := by rw [len_rowAt, len_mulAt, hzl]
    have e : (rowAt (mulAt b z 0 (a.take i)) i (a.getD i 0) (b.take (j + 1))).map rD = ((rowAt (mulAt b z 0 (a.take i)) i (a.getD i 0) (b.take j)).map rD).set ((i : Int) + j).toNat (rD ((rowAt (mulAt b z 0 (a.take i)) i (a.getD i 0) (b.take j)).getD (i + j) 0 + a.getD i 0 * b.getD j 0)) := by
      rw [rowAt_take _ _ _ _ _ hj, addAt, List.map_set, show ((i : Int) + j).toNat = i + j from rfl]
    rw [e]
    refine Ex.weakOut (Γ₁ := [("other", .int j), ("right", (b.map rD).getD j .none), ("one", .int i), ("left", (a.map rD).getD i .none), ("a", pD a), ("b", pD b)]) (Wk.cons rfl (Wk.cons rfl (Wk.cons rfl (Wk.cons rfl Wk.nil)))) (Ex.cons (Ex1.put ?_ (Ev.bin (Ev.name rfl) (Ev.name rfl) Op2.add) (by lia) (by rw [List.length_map, hlen]; lia) (by rw [List.length_map, hlen]; lia)) Ex.nil)
    exact (Ev.call W (fn_radd W) rfl (con_radd W ((o4 i j hi (by lia)).getD (by decide)) (o3 i j)) (EvL.cons (Ev.itemO (Ev.bin (Ev.name rfl) (Ev.name rfl) Op2.add) (by lia) (by lia) (by rw [show ((i : Int) + j).toNat = i + j from rfl]; exact pD_get (by rw [hlen]; lia))) (EvL.cons (Ev.call W (fn_rmul W) rfl (con_rmul W (o1 i) (o2 j)) (EvL.cons (Ev.to (Ev.name rfl) (gD hi)) (EvL.cons (Ev.to (Ev.name rfl) (gD hj)) EvL.nil)) (by decide)) EvL.nil)) (by decide))
  · unfold pD pmul
    rw [if_neg hn]
end
end Mine

/-! part G6 -/
namespace Mine
open PySem PySem.W PyProof.Rows
set_option maxRecDepth 100000
section
variable {prog : Program} {w : World} {h₀ : Heap} {mg : Str → Option Value}

theorem Ev.lastI {n : Nat} {sc : Scope} {Γ : Gam} {O : Own} {e : Expr} {k : Nat} {p1 p2 pos : Pos} {p : Pl} (h : Ev prog w h₀ n sc Γ O e (pD p)) (hn : p ≠ []) : Ev prog w h₀ n sc Γ O (.Subscript e (.UnaryOp .USub (.Constant (.int 1) k p1) p2) pos) (rD (last p)) := by
  have := len_pos hn
  refine Ev.itemN h (Ev.neg Ev.int) (by decide) ?_ (by decide) ?_
  · rw [List.length_map]; lia
  · rw [List.length_map, ← last_getD hn, show (-1 + (p.length : Int)).toNat = p.length - 1 by lia]
    exact pD_get (by lia)
theorem Ev.initI {n : Nat} {sc : Scope} {Γ : Gam} {O : Own} {e : Expr} {k : Nat} {p1 p2 p3 pos : Pos} {p : Pl} (h : Ev prog w h₀ n sc Γ O e (pD p)) (hp : p.length ≤ 4000) : Ev prog w h₀ n sc Γ O (.Subscript e (.Slice none (some (.UnaryOp .USub (.Constant (.int 1) k p1) p2)) none p3) pos) (pD p.dropLast) := by
  have e : pD p.dropLast = .list (((p.map rD).drop 0).take (p.length - 1 - 0)) := by
    unfold pD; rw [List.drop_zero, Nat.sub_zero, ← List.map_take, List.dropLast_eq_take]
  rw [e]
  exact Ev.slice (lo := none) (i := none) (j := some (-1)) h trivial (Ev.neg Ev.int) (by rw [List.length_map]; exact sb_init) (by rw [List.length_map]; unfold sizeLine; lia)
theorem con_qmonic (W : Wd PP mg h₀) {p : Pl} (bp : BL LB p) (tp : Tr p) (hp : p.length ≤ 4000) : Con prog w h₀ 5 (fv mg "qmonic") [pD p] (pD (monic p)) := by
  refine Con.def W (names := ["p"]) ⟨_, recAt 21 rfl rfl rfl rfl, rfl, rfl, rfl, (fun _ _ _ => ml1 fun _ => rfl), by decide, by decide, rfl, rfl, rfl⟩ rfl ?_
  refine Ex.ret (Ex1.ret (Ev.ife (b := decide ((0 : Int) < p.length)) (Tst.cmp (Ev.callB W (by decide) rfl rfl (con_len (by lia)) (EvL.cons (Ev.name rfl) EvL.nil)) Ev.int Cm2.gtI) (if_of (fun h => ?_) fun h => ?_)))
  · have h := of_decide_eq_true h
    have hn : p ≠ [] := by rintro rfl; simp at h
    have e : monic p = pscale p (last p)⁻¹ := by unfold monic; rw [if_neg hn]
    rw [e]
    exact (Ev.call W (fn_qscale W) rfl (con_qscale W bp hp ((bp.last hn).inv (tp hn))) (EvL.cons (Ev.name rfl) (EvL.cons (Ev.call W (fn_rinv W) rfl (con_rinv W (bp.last hn) (tp hn)) (EvL.cons (Ev.lastI (Ev.name rfl) hn) EvL.nil) (by decide)) EvL.nil)) (by decide))
  · have h := of_decide_eq_false h
    have hn : p = [] := by
      cases p with
      | nil => rfl
      | cons => simp at h
    subst hn
    exact Ev.list EvL.nil (Nat.le_of_ble_eq_true rfl)
theorem con_qpower (W : Wd PP mg h₀) {p : Pl} {n : Nat} (h : ∀ i, i < n → MulOk (ppow p i) p) (hn : n ≤ 1000) : Con prog w h₀ 5 (fv mg "qpower") [pD p, .int n] (pD (ppow p n)) := by
  refine Con.def W (names := ["p", "many"]) ⟨_, recAt 19 rfl rfl rfl rfl, rfl, rfl, rfl, (fun _ _ _ => ml2 fun _ _ => rfl), by decide, by decide, rfl, rfl, rfl⟩ rfl ?_
  refine Ex.cons (Ex1.asg (d := pD [1]) (Ev.list (EvL.cons (Ev.glob W (gl_R1 W) rfl) EvL.nil) (Nat.le_of_ble_eq_true rfl)) rfl (fun _ _ _ h => nomatch h)) ?_
  refine Ex.cons (Γ' := [("found", pD (ppow p n)), ("p", pD p), ("many", .int n)]) (O' := none) ?_ (Ex.ret (Ex1.ret (Ev.name rfl)))
  refine Ex1.forE (fun i => ([("found", pD (ppow p i)), ("p", pD p), ("many", .int n)], none)) (Src.range W (by decide) rfl rfl (Ev.name rfl) (by lia)) Wk.refl rfl (by decide) (fun _ _ => rfl) (fun i hi y c ds e => nomatch e) (fun i hi => ?_) rfl rfl
  refine Ex.weakOut (Γ₁ := [("found", pD (ppow p (i + 1))), ("turn", .int i), ("found", pD (ppow p i)), ("p", pD p), ("many", .int n)]) (Wk.cons rfl (Wk.cons rfl (Wk.cons rfl Wk.nil))) (Ex.cons (Ex1.asg ?_ rfl (fun _ _ _ h => nomatch h)) Ex.nil)
  exact (Ev.call W (fn_qmul W) rfl (con_qmul W (h i hi)) (EvL.cons (Ev.name rfl) (EvL.cons (Ev.name rfl) EvL.nil)) (by decide))
theorem con_qdivmod (W : Wd PP mg h₀) {a b : Pl} (h : DivOk a b) : Con prog w h₀ 6 (fv mg "qdivmod") [pD a, pD b] (.tuple [pD (pdiv a b), pD (pmod a b)]) := by
  have ha := h.la; have hb := h.lb
  have l2 := len_pos h.ne
  refine Con.def W (names := ["a", "b"]) ⟨_, recAt 20 rfl rfl rfl rfl, rfl, rfl, rfl, (fun _ _ _ => ml2 fun _ _ => rfl), by decide, by decide, rfl, rfl, rfl⟩ rfl ?_
  refine Ex.cons (Ex1.iff (c := false) (Tst.to (Tst.cmp (Ev.callB W (by decide) rfl rfl (con_len (by lia)) (EvL.cons (Ev.name rfl) EvL.nil)) Ev.int Cm2.eqI) ?_) Ex.nil) ?_
  · have := h.ne; simpa using this
  refine Ex.cons (Ex1.swapF (d := pD a) (ds := (List.replicate (a.length + 1 - b.length) (0 : Rat)).map rD) (Ev.callT W (by decide) rfl rfl (Con.list (by rw [List.length_map]; unfold sizeLine; lia)) (EvL.cons (Ev.name rfl) EvL.nil)) ?_ rfl rfl (by decide) rfl (hs := fun _ => rfl) (hw := by rintro ⟨_, _, _, _, _, _, _, _, _⟩ rfl; rfl)) (Ex.dim ?_)
  · have e : (List.replicate (a.length + 1 - b.length) (0 : Rat)).map rD = List.replicate (if ((a.length : Int) - b.length + 1) > 0 then ((a.length : Int) - b.length + 1) else 0).toNat (rD 0) := by
      rw [List.map_replicate]; congr 1; split <;> lia
    rw [e]
    exact EvF.rep (EvL.cons (Ev.glob W (gl_R0 W) rfl) EvL.nil) (Ev.callB W (by decide) rfl rfl Con.max (EvL.cons Ev.int (EvL.cons (Ev.bin (Ev.bin (Ev.callB W (by decide) rfl rfl (con_len (by lia)) (EvL.cons (Ev.name rfl) EvL.nil)) (Ev.callB W (by decide) rfl rfl (con_len (by lia)) (EvL.cons (Ev.name rfl) EvL.nil)) Op2.sub) Ev.int Op2.add) EvL.nil))) (by split <;> lia) (by split <;> lia)
  refine Ex.cons (Γ' := [("rest", pD (divA a b).2), ("a", pD a), ("b", pD b)]) (O' := some ("found", false, (divA a b).1.map rD)) (Ex1.whl ?_) (Ex.freeze (Ex.ret (Ex1.ret ?_)))
  · have h2 : a.length < (List.replicate (a.length + 1 - b.length) (0 : Rat)).length + b.length := by rw [List.length_replicate]; lia
    have h3 : (List.replicate (a.length + 1 - b.length) (0 : Rat)).length ≤ 1001 := by rw [List.length_replicate]; lia
    refine (fun (main : ∀ (n : Nat) (rest found : Pl), rest.length ≤ n → rest.length < found.length + b.length → found.length ≤ 1001 → rest.length ≤ 1000 → DRun b n rest →
      WL prog w h₀ 5 _ _ _ [("rest", pD rest), ("a", pD a), ("b", pD b)] (some ("found", false, found.map rD)) (.next [("rest", pD (divL b n rest found).2), ("a", pD a), ("b", pD b)] (some ("found", false, (divL b n rest found).1.map rD)))) =>
        main (a.length + 1) a _ (by lia) h2 h3 ha h.run) ?_
    intro n
    induction n with
    | zero =>
      intro rest found e1 e2 e3 e4 hr
      exact WL.done (Tst.to (Tst.cmp (Ev.callB W (by decide) rfl rfl (con_len (by lia)) (EvL.cons (Ev.name rfl) EvL.nil)) (Ev.callB W (by decide) rfl rfl (con_len (by lia)) (EvL.cons (Ev.name rfl) EvL.nil)) Cm2.geI) (decide_eq_false (by lia)))
    | succ n ih =>
      intro rest found e1 e2 e3 e4 hr
      unfold DRun at hr
      unfold divL
      by_cases hl : b.length ≤ rest.length
      · rw [if_pos hl] at hr ⊢
        obtain ⟨hs, hr⟩ := hr
        have hn : rest ≠ [] := by rintro rfl; simp only [List.length_nil] at hl; lia
        have hd := len_dlow h.ne hl
        refine WL.step (Γ' := [("rest", pD (dlow b rest)), ("lower", pD (dlow b rest)), ("power", .int ((rest.length : Int) - b.length)), ("number", rD (last rest / last b)), ("rest", pD rest), ("a", pD a), ("b", pD b)]) (O' := some ("found", false, (found.set (rest.length - b.length) (last rest / last b)).map rD))
          (Tst.to (Tst.cmp (Ev.callB W (by decide) rfl rfl (con_len (by lia)) (EvL.cons (Ev.name rfl) EvL.nil)) (Ev.callB W (by decide) rfl rfl (con_len (by lia)) (EvL.cons (Ev.name rfl) EvL.nil)) Cm2.geI) (decide_eq_true (by lia))) ?_ (WL.weak (Wk.cons rfl (Wk.cons rfl (Wk.cons rfl Wk.nil))) (ih _ _ (by lia) (by rw [List.length_set]; lia) (by rw [List.length_set]; lia) (by lia) hr))
        refine Ex.cons (Ex1.swap [(_, _), (_, _)] (ds := [rD (last rest / last b), .int ((rest.length : Int) - b.length)]) (EvL.cons (Ev.call W (fn_rdiv W) rfl (con_rdiv W (hs.br.last hn) (hs.bb.last h.ne) h.lead) (EvL.cons (Ev.lastI (Ev.name rfl) hn) (EvL.cons (Ev.lastI (Ev.name rfl) h.ne) EvL.nil)) (by decide)) (EvL.cons (Ev.bin (Ev.callB W (by decide) rfl rfl (con_len (by lia)) (EvL.cons (Ev.name rfl) EvL.nil)) (Ev.callB W (by decide) rfl rfl (con_len (by lia)) (EvL.cons (Ev.name rfl) EvL.nil)) Op2.sub) EvL.nil)) rfl (by decide) (by decide) (fun y b ds e => by cases e; decide) (Nat.le_of_ble_eq_true rfl) (fun _ => rfl) (by rintro ⟨_, _, _, _, _, _, _, _, _⟩ rfl; rfl)) ?_
        have ep : ((rest.length : Int) - b.length).toNat = rest.length - b.length := by lia
        have es : (found.set (rest.length - b.length) (last rest / last b)).map rD = (found.map rD).set ((rest.length : Int) - b.length).toNat (rD (last rest / last b)) := by rw [List.map_set, ep]
        rw [es]
        refine Ex.cons (Ex1.put (Ev.name rfl) (Ev.name rfl) (by lia) (by rw [List.length_map]; lia) (by rw [List.length_map]; lia)) ?_
        have el : ((rest.length : Int) - b.length) = ((rest.length - b.length : Nat) : Int) := by lia
        rw [el]
        have lp := len_praise (pscale b.dropLast (last rest / last b)) (rest.length - b.length)
        have ls := len_pscale_le b.dropLast (last rest / last b)
        have lr : rest.dropLast.length = rest.length - 1 := List.length_dropLast
        have lb : b.dropLast.length = b.length - 1 := List.length_dropLast
        refine Ex.cons (Ex1.asg (d := pD (dlow b rest)) (Ev.call W (fn_qsub W) rfl (con_qsub W ⟨hs.br.dropLast, hs.bs.praise (by decide), by lia, by lia⟩) (EvL.cons (Ev.initI (Ev.name rfl) (by lia)) (EvL.cons (Ev.call W (fn_qraise W) rfl (con_qraise W (by lia) (by lia)) (EvL.cons (Ev.call W (fn_qscale W) rfl (con_qscale W hs.bb.dropLast (by lia) hs.bq) (EvL.cons (Ev.initI (Ev.name rfl) (by lia)) (EvL.cons (Ev.name rfl) EvL.nil)) (by decide)) (EvL.cons (Ev.name rfl) EvL.nil)) (by decide)) EvL.nil)) (by decide)) rfl (fun y b ds e => by cases e; decide)) (Ex.cons (Ex1.asg (Ev.name rfl) rfl (fun y b ds e => by cases e; decide)) Ex.nil)
      · rw [if_neg hl]
        exact WL.done (Tst.to (Tst.cmp (Ev.callB W (by decide) rfl rfl (con_len (by lia)) (EvL.cons (Ev.name rfl) EvL.nil)) (Ev.callB W (by decide) rfl rfl (con_len (by lia)) (EvL.cons (Ev.name rfl) EvL.nil)) Cm2.geI) (decide_eq_false (by lia)))
  · exact (Ev.tuple (EvL.cons (Ev.call W (fn_qtrim W) rfl (con_qtrim W (by unfold divA; rw [divL_len1, List.length_replicate]; lia)) (EvL.cons (Ev.name rfl) EvL.nil) (by decide)) (EvL.cons (Ev.name rfl) EvL.nil)) (Nat.le_of_ble_eq_true rfl))
end
end Mine

/-! part G7 -/
namespace Mine
open PySem PySem.W PyProof.Rows
set_option maxRecDepth 100000

inductive GcdE : Pl → Pl → Pl → Prop
  | done {a : Pl} : a.length ≤ 1000 → GcdE a [] a
  | step {a b c : Pl} : b ≠ [] → DivOk a b → Tr (pmod a b) → BL LB (pmod a b) → GcdE b (monic (pmod a b)) c → GcdE a b c
theorem GcdR.e {a b g : Pl} (h : GcdR a b g) : ∃ c, GcdE a b c ∧ g = monic c ∧ BL LB c ∧ Tr c ∧ c.length ≤ 1000 := by
  induction h with
  | done h1 h2 h3 => exact ⟨_, .done h3, rfl, h1, h2, h3⟩
  | step h1 h2 h3 h4 _ ih =>
    obtain ⟨c, e, r⟩ := ih
    exact ⟨c, .step h1 h2 h3 h4 e, r⟩
def t3D (t : T3) : PyData := .tuple [pD t.1, pD t.2.1, pD t.2.2]
theorem rD_int (i : Int) : rD (i : Rat) = .tuple [.int i, .int 1] := by
  unfold rD; rw [Rat.num_intCast, Rat.den_intCast]; rfl
theorem getD_derL (k : Nat) (p : Pl) (i : Nat) : (derL k p).getD i 0 = p.getD i 0 * (((k + i : Nat) : Int) : Rat) := by
  induction p generalizing k i with
  | nil => simp only [derL, List.getD_nil]; grind
  | cons x p ih =>
    cases i with
    | zero => simp only [derL, List.getD_cons_zero, Nat.add_zero]
    | succ i => simp only [derL, List.getD_cons_succ, ih]; rw [show k + 1 + i = k + (i + 1) by lia]
section
variable {prog : Program} {w : World} {h₀ : Heap} {mg : Str → Option Value}

theorem con_qgcd (W : Wd PP mg h₀) {a b g : Pl} (h : GcdR a b g) : Con prog w h₀ 7 (fv mg "qgcd") [pD a, pD b] (pD g) := by
  obtain ⟨c, he, rfl, bc, tc, lc⟩ := h.e
  refine Con.def W (names := ["a", "b"]) ⟨_, recAt 22 rfl rfl rfl rfl, rfl, rfl, rfl, (fun _ _ _ => ml2 fun _ _ => rfl), by decide, by decide, rfl, rfl, rfl⟩ rfl ?_
  refine Ex.cons (Γ' := [("a", pD c)]) (O' := none) (Ex1.whl ?_) (Ex.ret (Ex1.ret (Ev.call W (fn_qmonic W) rfl (con_qmonic W bc tc (by lia)) (EvL.cons (Ev.name rfl) EvL.nil) (by decide))))
  refine WL.weak (Γ' := [("a", pD a), ("b", pD b)]) Wk.refl ?_
  clear h
  induction he with
  | done l =>
    exact WL.weakOut (Wk.cons rfl Wk.nil) (WL.done (Tst.to (Tst.cmp (Ev.callB W (by decide) rfl rfl (con_len (p := []) (by simp)) (EvL.cons (Ev.name rfl) EvL.nil)) Ev.int Cm2.gtI) rfl))
  | @step a b c hn hd ht hb _ ih =>
    have lb := hd.lb
    have l0 := len_pos hn
    refine WL.step (Γ' := [("b", pD (monic (pmod a b))), ("a", pD b), ("a", pD a), ("b", pD b)]) (O' := none) (Tst.to (Tst.cmp (Ev.callB W (by decide) rfl rfl (con_len (by lia)) (EvL.cons (Ev.name rfl) EvL.nil)) Ev.int Cm2.gtI) (decide_eq_true (by lia))) ?_ (WL.weak (Wk.cons rfl (Wk.cons rfl Wk.nil)) (ih bc tc lc))
    have := len_pmod (a := a) hn
    exact Ex.cons (Ex1.swap [(_, _), (_, _)] (ds := [pD b, pD (monic (pmod a b))]) (EvL.cons (Ev.name rfl) (EvL.cons (Ev.call W (fn_qmonic W) rfl (con_qmonic W hb ht (by lia)) (EvL.cons (Ev.itemT (Ev.call W (fn_qdivmod W) rfl (con_qdivmod W hd) (EvL.cons (Ev.name rfl) (EvL.cons (Ev.name rfl) EvL.nil)) (by decide)) Ev.int (by decide) (by decide) rfl) EvL.nil) (by decide)) EvL.nil)) rfl (by decide) (by decide) (fun _ _ _ h => nomatch h) (Nat.le_of_ble_eq_true rfl) (fun _ => rfl) (by rintro ⟨_, _, _, _, _, _, _, _, _⟩ rfl; rfl)) Ex.nil
theorem con_qext (W : Wd PP mg h₀) {a b : Pl} {res : T3} (h : ExtR (a, [1], []) (b, [], [1]) res) (ba : a.length ≤ 1000) (bb : b.length ≤ 1000) (hn : res.1 ≠ []) (hl : last res.1 ≠ 0) (b1 : BL LB res.1) (b2 : BL LB res.2.1) (b3 : BL LB res.2.2) (l1 : res.1.length ≤ 1000) (l2 : res.2.1.length ≤ 1000) (l3 : res.2.2.length ≤ 1000) :
    Con prog w h₀ 7 (fv mg "qextended") [pD a, pD b] (.tuple [pD (pscale res.1 (last res.1)⁻¹), pD (pscale res.2.1 (last res.1)⁻¹), pD (pscale res.2.2 (last res.1)⁻¹)]) := by
  refine Con.def W (names := ["a", "b"]) ⟨_, recAt 23 rfl rfl rfl rfl, rfl, rfl, rfl, (fun _ _ _ => ml2 fun _ _ => rfl), by decide, by decide, rfl, rfl, rfl⟩ rfl ?_
  have e1 : pD [1] = .list [rD 1] := rfl
  refine Ex.cons (Ex1.swap [(_, _), (_, _)] (ds := [t3D (a, [1], []), t3D (b, [], [1])]) (EvL.cons (Ev.tuple (EvL.cons (Ev.callT W (by decide) rfl rfl (Con.list (xs := a.map rD) (by rw [List.length_map]; unfold sizeLine; lia)) (EvL.cons (Ev.name rfl) EvL.nil)) (EvL.cons (Ev.list (EvL.cons (Ev.glob W (gl_R1 W) rfl) EvL.nil) (Nat.le_of_ble_eq_true rfl)) (EvL.cons (Ev.list EvL.nil (Nat.le_of_ble_eq_true rfl)) EvL.nil))) (Nat.le_of_ble_eq_true rfl)) (EvL.cons (Ev.tuple (EvL.cons (Ev.callT W (by decide) rfl rfl (Con.list (xs := b.map rD) (by rw [List.length_map]; unfold sizeLine; lia)) (EvL.cons (Ev.name rfl) EvL.nil)) (EvL.cons (Ev.list EvL.nil (Nat.le_of_ble_eq_true rfl)) (EvL.cons (Ev.list (EvL.cons (Ev.glob W (gl_R1 W) rfl) EvL.nil) (Nat.le_of_ble_eq_true rfl)) EvL.nil))) (Nat.le_of_ble_eq_true rfl)) EvL.nil)) rfl (by decide) (by decide) (fun _ _ _ h => nomatch h) (Nat.le_of_ble_eq_true rfl) (fun _ => rfl) (by rintro ⟨_, _, _, _, _, _, _, _, _⟩ rfl; rfl)) ?_
  refine Ex.cons (Γ' := [("one", t3D res)]) (O' := none) (Ex1.whl (WL.weak (Γ' := [("one", t3D (a, [1], [])), ("other", t3D (b, [], [1]))]) (Wk.cons rfl (Wk.cons rfl Wk.nil)) ?_)) ?_
  · have lo : (b, ([] : Pl), ([1] : Pl)).1.length ≤ 1000 := bb
    revert lo
    generalize (a, ([1] : Pl), ([] : Pl)) = one at h ⊢
    generalize (b, ([] : Pl), ([1] : Pl)) = other at h ⊢
    clear hn hl b1 b2 b3 l1 l2 l3 e1
    induction h with
    | @done one u v =>
      intro _
      exact WL.weakOut (Wk.cons rfl Wk.nil) (WL.done (Tst.to (Tst.cmp (Ev.callB W (by decide) rfl rfl (con_len (p := []) (by simp)) (EvL.cons (Ev.itemT (Ev.name rfl) Ev.int (by decide) (by decide) rfl) EvL.nil)) Ev.int Cm2.gtI) rfl))
    | @step one other res hn hd m1 m2 s1 s2 _ ih =>
      intro lo
      have l0 := len_pos hn
      have := len_pmod (a := one.1) hn
      refine WL.step (Γ' := [("other", t3D (extS one other)), ("one", t3D other), ("right", pD (extS one other).2.2), ("left", pD (extS one other).2.1), ("quotient", pD (pdiv one.1 other.1)), ("rest", pD (pmod one.1 other.1)), ("one", t3D one), ("other", t3D other)]) (O' := none) (Tst.to (Tst.cmp (Ev.callB W (by decide) rfl rfl (con_len (p := other.1) (by lia)) (EvL.cons (Ev.itemT (Ev.name rfl) Ev.int (by decide) (by decide) rfl) EvL.nil)) Ev.int Cm2.gtI) (decide_eq_true (by lia))) ?_ (WL.weak (Wk.cons rfl (Wk.cons rfl Wk.nil)) (ih (by show (pmod one.1 other.1).length ≤ 1000; lia)))
      refine Ex.cons (Ex1.unp [(_, _), (_, _)] (Ev.call W (fn_qdivmod W) rfl (con_qdivmod W hd) (EvL.cons (Ev.itemT (Ev.name rfl) Ev.int (by decide) (by decide) rfl) (EvL.cons (Ev.itemT (Ev.name rfl) Ev.int (by decide) (by decide) rfl) EvL.nil)) (by decide)) rfl (by decide) (by decide) (fun _ _ _ h => nomatch h) (fun _ => rfl) (by rintro ⟨_, _, _, _, _, _, _, _, _⟩ rfl; rfl)) ?_
      refine Ex.cons (Ex1.asg (d := pD (extS one other).2.1) (Ev.call W (fn_qsub W) rfl (con_qsub W s1) (EvL.cons (Ev.itemT (Ev.name rfl) Ev.int (by decide) (by decide) rfl) (EvL.cons (Ev.call W (fn_qmul W) rfl (con_qmul W m1) (EvL.cons (Ev.name rfl) (EvL.cons (Ev.itemT (Ev.name rfl) Ev.int (by decide) (by decide) rfl) EvL.nil)) (by decide)) EvL.nil)) (by decide)) rfl (fun _ _ _ h => nomatch h)) ?_
      refine Ex.cons (Ex1.asg (d := pD (extS one other).2.2) (Ev.call W (fn_qsub W) rfl (con_qsub W s2) (EvL.cons (Ev.itemT (Ev.name rfl) Ev.int (by decide) (by decide) rfl) (EvL.cons (Ev.call W (fn_qmul W) rfl (con_qmul W m2) (EvL.cons (Ev.name rfl) (EvL.cons (Ev.itemT (Ev.name rfl) Ev.int (by decide) (by decide) rfl) EvL.nil)) (by decide)) EvL.nil)) (by decide)) rfl (fun _ _ _ h => nomatch h)) ?_
      exact Ex.cons (Ex1.swap [(_, _), (_, _)] (ds := [t3D other, t3D (extS one other)]) (EvL.cons (Ev.name rfl) (EvL.cons (Ev.tuple (EvL.cons (Ev.name rfl) (EvL.cons (Ev.name rfl) (EvL.cons (Ev.name rfl) EvL.nil))) (Nat.le_of_ble_eq_true rfl)) EvL.nil)) rfl (by decide) (by decide) (fun _ _ _ h => nomatch h) (Nat.le_of_ble_eq_true rfl) (fun _ => rfl) (by rintro ⟨_, _, _, _, _, _, _, _, _⟩ rfl; rfl)) Ex.nil
  · have l0 := len_pos hn
    refine Ex.cons (Ex1.iff (c := false) (Tst.to (Tst.cmp (Ev.callB W (by decide) rfl rfl (con_len (p := res.1) (by lia)) (EvL.cons (Ev.itemT (Ev.name rfl) Ev.int (by decide) (by decide) rfl) EvL.nil)) Ev.int Cm2.eqI) ?_) Ex.nil) ?_
    · have : ((res.1.length : Int)) ≠ 0 := by lia
      simpa using hn
    refine Ex.cons (Ex1.asg (d := rD (last res.1)⁻¹) (Ev.call W (fn_rinv W) rfl (con_rinv W (b1.last hn) hl) (EvL.cons (Ev.lastI (p := res.1) (Ev.itemT (Ev.name rfl) Ev.int (by decide) (by decide) rfl) hn) EvL.nil) (by decide)) rfl (fun _ _ _ h => nomatch h)) ?_
    have hb := (b1.last hn).inv hl
    exact Ex.ret (Ex1.ret (Ev.tuple (EvL.cons (Ev.call W (fn_qscale W) rfl (con_qscale W b1 (by lia) hb) (EvL.cons (Ev.itemT (Ev.name rfl) Ev.int (by decide) (by decide) rfl) (EvL.cons (Ev.name rfl) EvL.nil)) (by decide)) (EvL.cons (Ev.call W (fn_qscale W) rfl (con_qscale W b2 (by lia) hb) (EvL.cons (Ev.itemT (Ev.name rfl) Ev.int (by decide) (by decide) rfl) (EvL.cons (Ev.name rfl) EvL.nil)) (by decide)) (EvL.cons (Ev.call W (fn_qscale W) rfl (con_qscale W b3 (by lia) hb) (EvL.cons (Ev.itemT (Ev.name rfl) Ev.int (by decide) (by decide) rfl) (EvL.cons (Ev.name rfl) EvL.nil)) (by decide)) EvL.nil))) (Nat.le_of_ble_eq_true rfl)))
theorem con_qderive (W : Wd PP mg h₀) {p : Pl} (bp : BL LB p) (hp : p.length ≤ 1000) : Con prog w h₀ 4 (fv mg "qderive") [pD p] (pD (pder p)) := by
  refine Con.def W (names := ["p"]) ⟨_, recAt 24 rfl rfl rfl rfl, rfl, rfl, rfl, (fun _ _ _ => ml1 fun _ => rfl), by decide, by decide, rfl, rfl, rfl⟩ rfl ?_
  have e : pD (pder p) = .list ((((derL 0 p).map rD).drop (min 1 (derL 0 p).length)).take ((derL 0 p).length - min 1 (derL 0 p).length)) := by
    unfold pD pder
    congr 1
    rw [List.map_drop]
    cases derL 0 p with
    | nil => rfl
    | cons x r => simp; exact (List.take_of_length_le (by simp)).symm
  rw [e]
  refine Ex.ret (Ex1.ret (Ev.slice (xs := (derL 0 p).map rD) (i := some 1) (j := none) (Ev.to (c := pD (derL 0 p)) (EvF.ev (EvF.comp [] (fun _ => true) (fun i => rD ((derL 0 p).getD i 0)) (Src.enum W (by decide) rfl rfl (Ev.name rfl) (by decide)) rfl (by decide) (by decide) (by decide) (free_of rfl) Cap.nil ?hT ?hE ?hN)) (comp_eq (by rw [len_derL, List.length_map]) fun i _ => rfl)) Ev.int trivial (by rw [List.length_map]; exact sb_tail) (by rw [List.length_map, len_derL]; unfold sizeLine; lia)))
  case hT => exact fun _ _ => TstL.nil
  case hN => rw [List.length_map]; unfold sizeLine; lia
  case hE =>
    intro i hi _
    rw [List.length_map] at hi
    rw [getD_derL, Nat.zero_add]
    exact (Ev.call W (fn_rmul W) rfl (con_rmul W (bp.getD (by decide)) (.int (by decide) (Nat.lt_of_lt_of_le (m := 2 ^ 10) (by rw [Int.natAbs_natCast]; lia) (Nat.pow_le_pow_right (by decide) (by decide))))) (EvL.cons (Ev.to (Ev.name rfl) (gD hi)) (EvL.cons (Ev.to (Ev.tuple (EvL.cons (Ev.name rfl) (EvL.cons Ev.int EvL.nil)) (Nat.le_of_ble_eq_true rfl)) (rD_int _).symm) EvL.nil)) (by decide))
end
end Mine

/-! part G8 -/
namespace Mine
open PySem PySem.W PyProof.Rows
set_option maxRecDepth 100000

structure Shape (k : Nat) (d : PyData) : Prop where
  lay : d.canLay0 = true
  dep : d.depth ≤ k
theorem Shape.shaped {k : Nat} {d : PyData} (h : Shape k d) (hk : k ≤ 64 := by decide) : SeqAt.shaped d = true := by
  unfold SeqAt.shaped
  rw [h.lay, decide_eq_true (Nat.le_trans h.dep hk)]; rfl
theorem sh_all {k : Nat} : ∀ {xs : List PyData}, (∀ d ∈ xs, Shape k d) → PyData.canLayAll0 xs = true ∧ PyData.depthAll xs ≤ k
  | [], _ => ⟨by simp [PyData.canLayAll0], by simp [PyData.depthAll]⟩
  | x :: xs, h => by
    have h1 := h x (by simp)
    have h2 := sh_all (xs := xs) fun d hd => h d (by simp [hd])
    have := h1.dep
    exact ⟨by simp [PyData.canLayAll0, h1.lay, h2.1], by simp only [PyData.depthAll]; lia⟩
theorem sh_list {k : Nat} {xs : List PyData} (h : ∀ d ∈ xs, Shape k d) : Shape (k + 1) (.list xs) :=
  ⟨by simp [PyData.canLay0, (sh_all h).1], by have := (sh_all h).2; simp only [PyData.depth]; lia⟩
theorem sh_tuple {k : Nat} {xs : List PyData} (h : ∀ d ∈ xs, Shape k d) : Shape (k + 1) (.tuple xs) :=
  ⟨by simp [PyData.canLay0, (sh_all h).1], by have := (sh_all h).2; simp only [PyData.depth]; lia⟩
theorem sh_int {i : Int} : Shape 1 (.int i) := ⟨by simp [PyData.canLay0], by simp [PyData.depth]⟩
theorem Shape.le {k l : Nat} {d : PyData} (h : Shape k d) (e : k ≤ l) : Shape l d := ⟨h.lay, Nat.le_trans h.dep e⟩
theorem sh_rD (q : Rat) : Shape 2 (rD q) := sh_tuple fun d h => by
  rcases List.mem_cons.mp h with rfl | h
  · exact sh_int
  · rw [List.mem_singleton.mp h]; exact sh_int
theorem sh_pD (p : Pl) : Shape 3 (pD p) := sh_list fun d h => by
  obtain ⟨q, _, rfl⟩ := List.mem_map.mp h
  exact sh_rD q
theorem sh_nil : Shape 1 (.list []) := sh_list (k := 0) fun d h => nomatch h
theorem eqv_nil (p : Pl) : (pD p).eqv (.list []) = decide (p = []) := by
  cases p <;> simp [pD, PyData.eqv, PyData.eqvAll]
def fgD (x : Fg) : PyData := .tuple [pD x.1, .int x.2.1, pD x.2.2]
def facD (x : Pl × Nat) : PyData := .tuple [pD x.1, .int x.2]
theorem figs_take (factor : Pl) (many k : Nat) (ds : List Pl) (j : Nat) (hj : j < ds.length) : figs factor many k (ds.take (j + 1)) = figs factor many k (ds.take j) ++ (if ds.getD j [] = [] then [] else [(factor, (many : Int) - ((k + j : Nat) : Int), ds.getD j [])]) := by
  induction ds generalizing k j with
  | nil => simp at hj
  | cons d ds ih =>
    cases j with
    | zero => simp [figs]
    | succ j =>
      simp only [List.length_cons] at hj
      rw [List.take_succ_cons, figs, ih _ _ (by lia), List.take_succ_cons, figs, List.getD_cons_succ, show k + 1 + j = k + (j + 1) by lia, List.append_assoc]
theorem PartR.segs {rest bottom : Pl} {fs : List (Pl × Nat)} {t : List Fg} (h : PartR rest bottom fs t) : ∃ segs : List (List Fg), segs.length = fs.length ∧ t = segs.flatten ∧
    ∀ i, i < fs.length → ∃ above ds, (∀ k, k < (fs.getD i ([], 0)).2 → MulOk (ppow (fs.getD i ([], 0)).1 k) (fs.getD i ([], 0)).1) ∧ (fs.getD i ([], 0)).2 ≤ 1000 ∧ ShareR rest bottom (ppow (fs.getD i ([], 0)).1 (fs.getD i ([], 0)).2) above ∧
      DigR (fs.getD i ([], 0)).1 above ds ∧ ds.length ≤ 1000 ∧ segs.getD i [] = figs (fs.getD i ([], 0)).1 (fs.getD i ([], 0)).2 0 ds := by
  induction h with
  | nil => exact ⟨[], rfl, rfl, fun i hi => absurd hi (by simp)⟩
  | @cons factor above many ds fs t h1 h2 h3 h4 h5 _ ih =>
    obtain ⟨segs, e1, e2, e3⟩ := ih
    refine ⟨figs factor many 0 ds :: segs, by simp [e1], by simp [e2], fun i hi => ?_⟩
    cases i with
    | zero => exact ⟨above, ds, h1, h2, h3, h4, h5, rfl⟩
    | succ i =>
      simp only [List.length_cons] at hi
      exact e3 i (by lia)
theorem take_flat {α : Type} (l : List (List α)) (i : Nat) (h : i < l.length) : (l.take (i + 1)).flatten = (l.take i).flatten ++ l.getD i [] := by
  rw [List.take_succ_eq_append_getElem h, List.flatten_append, List.getD_eq_getElem?_getD, List.getElem?_eq_getElem h]
  simp
section
variable {prog : Program} {w : World} {h₀ : Heap} {mg : Str → Option Value}

theorem con_digits (W : Wd PP mg h₀) {p base : Pl} {ds : List Pl} (h : DigR base p ds) (hl : ds.length ≤ 1000) : Con prog w h₀ 7 (fv mg "digits_of") [pD p, pD base] (.list (ds.map pD)) := by
  refine Con.def W (names := ["p", "base"]) ⟨_, recAt 25 rfl rfl rfl rfl, rfl, rfl, rfl, (fun _ _ _ => ml2 fun _ _ => rfl), by decide, by decide, rfl, rfl, rfl⟩ rfl ?_
  refine Ex.cons (Ex1.asgF (EvF.list EvL.nil (Nat.le_of_ble_eq_true rfl)) rfl rfl) ?_
  refine Ex.cons (Γ' := []) (O' := some ("found", true, ds.map pD)) (Ex1.whl (WL.weak (Γ' := [("p", pD p), ("base", pD base)]) Wk.refl ?_)) (Ex.freeze (Ex.ret (Ex1.ret (Ev.name rfl))))
  refine (fun (main : ∀ acc : List Pl, acc.length + ds.length ≤ 1000 → WL prog w h₀ 6 _ _ _ [("p", pD p), ("base", pD base)] (some ("found", true, acc.map pD)) (.next [] (some ("found", true, (acc ++ ds).map pD)))) => main [] (by simpa using hl)) ?_
  clear hl
  induction h with
  | nil =>
    intro acc _
    rw [List.append_nil]
    exact WL.weakOut Wk.nil (WL.done (Tst.to (Tst.cmp (Ev.name rfl) (Ev.list EvL.nil (Nat.le_of_ble_eq_true rfl)) (Cm2.neD (sh_pD _).shaped sh_nil.shaped)) (by rw [eqv_nil]; rfl)))
  | @cons p ds hn hd _ ih =>
    intro acc hl
    simp only [List.length_cons] at hl
    have e : acc ++ pmod p base :: ds = (acc ++ [pmod p base]) ++ ds := by simp
    rw [e]
    refine WL.step (Γ' := [("p", pD (pdiv p base)), ("rest", pD (pmod p base)), ("p", pD p), ("base", pD base)]) (O' := some ("found", true, (acc ++ [pmod p base]).map pD)) (Tst.to (Tst.cmp (Ev.name rfl) (Ev.list EvL.nil (Nat.le_of_ble_eq_true rfl)) (Cm2.neD (sh_pD _).shaped sh_nil.shaped)) (by rw [eqv_nil, decide_eq_false hn]; rfl)) ?_ (WL.weak (Wk.cons rfl (Wk.cons rfl Wk.nil)) (ih _ (by simp; lia)))
    refine Ex.cons (Ex1.unp [(_, _), (_, _)] (Ev.call W (fn_qdivmod W) rfl (con_qdivmod W hd) (EvL.cons (Ev.name rfl) (EvL.cons (Ev.name rfl) EvL.nil)) (by decide)) rfl (by decide) (by decide) (fun y b ds e => by cases e; decide) (fun _ => rfl) (by rintro ⟨_, _, _, _, _, _, _, _, _⟩ rfl; rfl)) ?_
    rw [List.map_append]
    exact Ex.cons (Ex1.app (Ev.name rfl) (by rw [List.length_map]; unfold sizeLine; lia)) Ex.nil
theorem con_share (W : Wd PP mg h₀) {top bottom wf r : Pl} (h : ShareR top bottom wf r) : Con prog w h₀ 8 (fv mg "share_of") [pD top, pD bottom, pD wf] (pD r) := by
  refine Con.def W (names := ["top", "bottom", "whole_factor"]) ⟨_, recAt 26 rfl rfl rfl rfl, rfl, rfl, rfl, (fun _ _ _ => ml3 fun _ _ _ => rfl), by decide, by decide, rfl, rfl, rfl⟩ rfl ?_
  cases h with
  | one h1 h2 h3 =>
    refine Ex.cons (Ex1.asg (d := pD (pdiv bottom wf)) (Ev.itemT (Ev.call W (fn_qdivmod W) rfl (con_qdivmod W h1) (EvL.cons (Ev.name rfl) (EvL.cons (Ev.name rfl) EvL.nil)) (by decide)) Ev.int (by decide) (by decide) rfl) rfl (fun _ _ _ h => nomatch h)) ?_
    exact Ex.ret (Ex1.iff (c := true) (Tst.to (Tst.cmp (Ev.call W (fn_qdegree W) rfl (con_qdegree W (p := pdiv bottom wf) (by lia)) (EvL.cons (Ev.name rfl) EvL.nil) (by decide)) Ev.int Cm2.eqI) (by rw [h2]; rfl)) (Ex.ret (Ex1.ret (Ev.itemT (Ev.call W (fn_qdivmod W) rfl (con_qdivmod W h3) (EvL.cons (Ev.name rfl) (EvL.cons (Ev.name rfl) EvL.nil)) (by decide)) Ev.int (by decide) (by decide) rfl))))
  | @ext res h1 h2 b0 b1 h3 h4 h5 b2 b3 b4 l2 l3 l4 m d =>
    have := len_pdiv bottom wf
    have := h1.la
    have := h1.lb
    have := len_pos h1.ne
    refine Ex.cons (Ex1.asg (d := pD (pdiv bottom wf)) (Ev.itemT (Ev.call W (fn_qdivmod W) rfl (con_qdivmod W h1) (EvL.cons (Ev.name rfl) (EvL.cons (Ev.name rfl) EvL.nil)) (by decide)) Ev.int (by decide) (by decide) rfl) rfl (fun _ _ _ h => nomatch h)) ?_
    refine Ex.cons (Ex1.iff (c := false) (Tst.to (Tst.cmp (Ev.call W (fn_qdegree W) rfl (con_qdegree W (p := pdiv bottom wf) (by lia)) (EvL.cons (Ev.name rfl) EvL.nil) (by decide)) Ev.int Cm2.eqI) ?_) Ex.nil) ?_
    · have : ((pdiv bottom wf).length : Int) - 1 ≠ 0 := by lia
      simpa using this
    refine Ex.cons (Ex1.unp [(_, _), (_, _), (_, _)] (Ev.call W (fn_qext W) rfl (con_qext W h3 (by lia) (by lia) h4 h5 b2 b3 b4 l2 l3 l4) (EvL.cons (Ev.name rfl) (EvL.cons (Ev.name rfl) EvL.nil)) (by decide)) rfl (by decide) (by decide) (fun _ _ _ h => nomatch h) (fun _ => rfl) (by rintro ⟨_, _, _, _, _, _, _, _, _⟩ rfl; rfl)) ?_
    exact Ex.ret (Ex1.ret (Ev.itemT (Ev.call W (fn_qdivmod W) rfl (con_qdivmod W d) (EvL.cons (Ev.call W (fn_qmul W) rfl (con_qmul W m) (EvL.cons (Ev.name rfl) (EvL.cons (Ev.name rfl) EvL.nil)) (by decide)) (EvL.cons (Ev.name rfl) EvL.nil)) (by decide)) Ev.int (by decide) (by decide) rfl))
end
end Mine

/-! part G9 -/
namespace Mine
open PySem PySem.W PyProof.Rows
set_option maxRecDepth 100000

theorem figs_len (factor : Pl) (many k : Nat) (ds : List Pl) : (figs factor many k ds).length ≤ ds.length := by
  induction ds generalizing k with
  | nil => exact Nat.le_refl _
  | cons d ds ih =>
    rw [figs, List.length_append, List.length_cons]
    have := ih (k + 1)
    split <;> simp <;> lia
theorem flat_take_len {α : Type} (l : List (List α)) (i : Nat) : (l.take i).flatten.length ≤ l.flatten.length := by
  conv => rhs; rw [← List.take_append_drop i l, List.flatten_append, List.length_append]
  lia
theorem pDs_getD {ds : List Pl} {i : Nat} (h : i < ds.length) : (ds.map pD).getD i .none = pD (ds.getD i []) := by
  rw [List.getD_eq_getElem?_getD, List.getElem?_map, List.getD_eq_getElem?_getD, List.getElem?_eq_getElem h]; rfl
theorem facs_get {fs : List (Pl × Nat)} {i : Nat} (h : i < fs.length) : (fs.map facD)[i]? = some (.tuple [pD (fs.getD i ([], 0)).1, .int (fs.getD i ([], 0)).2]) := by
  rw [List.getElem?_map, List.getD_eq_getElem?_getD, List.getElem?_eq_getElem h]; rfl
section
variable {prog : Program} {w : World} {h₀ : Heap} {mg : Str → Option Value}

theorem Ex1.weakOut {n : Nat} {sc : Scope} {Γ Γ' : Gam} {O : Own} {ss : Stmt} {Γ₁ : Gam} {O₁ : Own} (hw : Wk Γ₁ Γ') (h : Ex1 prog w h₀ n sc Γ O ss (.next Γ₁ O₁)) : Ex1 prog w h₀ n sc Γ O ss (.next Γ' O₁) :=
  fun A env s₀ G₀ Z G m s f t => wpAny_mono (h A env s₀ G₀ Z G m s f t) (fun _ _ e => Ends.weak hw e) fun _ _ x => x
theorem con_partial (W : Wd PP mg h₀) {top bottom : Pl} {fs : List (Pl × Nat)} {t : List Fg} (hd : DivOk top bottom) (h : PartR (pmod top bottom) bottom fs t) (hf : fs.length ≤ 1000) (ht : t.length ≤ 1000) :
    Con prog w h₀ 9 (fv mg "partial_by") [.tuple [pD top, pD bottom], .list (fs.map facD)] (.tuple [pD (pdiv top bottom), .list (t.map fgD)]) := by
  obtain ⟨segs, e1, rfl, e3⟩ := h.segs
  refine Con.def W (names := ["f", "factors"]) ⟨_, recAt 27 rfl rfl rfl rfl, rfl, rfl, rfl, (fun _ _ _ => ml2 fun _ _ => rfl), by decide, by decide, rfl, rfl, rfl⟩ rfl ?_
  refine Ex.cons (Ex1.unp [(_, _), (_, _)] (Ev.call W (fn_qdivmod W) rfl (con_qdivmod W hd) (EvL.cons (Ev.itemT (Ev.name rfl) Ev.int (by decide) (by decide) rfl) (EvL.cons (Ev.itemT (Ev.name rfl) Ev.int (by decide) (by decide) rfl) EvL.nil)) (by decide)) rfl (by decide) (by decide) (fun _ _ _ h => nomatch h) (fun _ => rfl) (by rintro ⟨_, _, _, _, _, _, _, _, _⟩ rfl; rfl)) ?_
  refine Ex.cons (Ex1.asgF (EvF.list EvL.nil (Nat.le_of_ble_eq_true rfl)) rfl rfl) ?_
  refine Ex.cons (Γ' := [("whole", pD (pdiv top bottom))]) (O' := some ("found", true, (segs.flatten).map fgD)) ?_ (Ex.freeze (Ex.ret (Ex1.ret (Ev.tuple (EvL.cons (Ev.name rfl) (EvL.cons (Ev.name rfl) EvL.nil)) (Nat.le_of_ble_eq_true rfl)))))
  refine (fun (main : Ex1 prog w h₀ 8 _ _ _ _ (.next [("rest", pD (pmod top bottom)), ("f", .tuple [pD top, pD bottom]), ("whole", pD (pdiv top bottom))] (some ("found", true, (segs.flatten).map fgD)))) => Ex1.weakOut (Wk.cons rfl Wk.nil) main) ?_
  refine Ex1.forE (fun i => ([("rest", pD (pmod top bottom)), ("f", .tuple [pD top, pD bottom]), ("whole", pD (pdiv top bottom))], some ("found", true, ((segs.take i).flatten).map fgD)))
    (Src.tuples (xs := fs.map facD) (ds := fun i => [pD (fs.getD i ([], 0)).1, .int (fs.getD i ([], 0)).2]) [(_, _), (_, _)] (Ev.name rfl) (fun i hi => ⟨facs_get (by simpa using hi), rfl⟩) (by decide)) (Wk.cons rfl (Wk.cons rfl (Wk.cons rfl Wk.nil))) rfl (by decide) (fun _ _ => rfl) (fun i hi y c ds e => by cases e; decide) (fun i hi => ?_) rfl (by rw [List.length_map, ← e1, List.take_length])
  rw [List.length_map] at hi
  obtain ⟨above, ds, m1, m2, m3, m4, m5, m6⟩ := e3 i hi
  have lt := flat_take_len segs i
  rw [take_flat segs i (by lia), m6]
  generalize (fs.getD i ([], 0)).1 = factor at *
  generalize (fs.getD i ([], 0)).2 = many at *
  generalize (segs.take i).flatten = acc at *
  refine Ex.weakOut (Γ₁ := [("above", pD above), ("factor", pD factor), ("many", .int many), ("rest", pD (pmod top bottom)), ("f", .tuple [pD top, pD bottom]), ("whole", pD (pdiv top bottom))]) (Wk.cons rfl (Wk.cons rfl (Wk.cons rfl Wk.nil))) ?_
  refine Ex.cons (Ex1.asg (d := pD above) (Ev.call W (fn_share W) rfl (con_share W m3) (EvL.cons (Ev.name rfl) (EvL.cons (Ev.itemT (Ev.name rfl) Ev.int (by decide) (by decide) rfl) (EvL.cons (Ev.call W (fn_qpower W) rfl (con_qpower W m1 m2) (EvL.cons (Ev.name rfl) (EvL.cons (Ev.name rfl) EvL.nil)) (by decide)) EvL.nil))) (by decide)) rfl (fun y b ds e => by cases e; decide)) (Ex.cons ?_ Ex.nil)
  refine Ex1.forE (fun j => ([("above", pD above), ("factor", pD factor), ("many", .int many), ("rest", pD (pmod top bottom)), ("f", .tuple [pD top, pD bottom]), ("whole", pD (pdiv top bottom))], some ("found", true, (acc ++ figs factor many 0 (ds.take j)).map fgD)))
    (Src.enum (xs := ds.map pD) W (by decide) rfl rfl (Ev.call W (fn_digits W) rfl (con_digits W m4 m5) (EvL.cons (Ev.name rfl) (EvL.cons (Ev.name rfl) EvL.nil)) (by decide)) (by decide)) Wk.refl (by rw [List.take_zero]; simp [figs]) (by decide) (fun _ _ => rfl) (fun i hi y c ds e => by cases e; decide) (fun j hj => ?_) rfl (by rw [List.length_map, List.take_length])
  rw [List.length_map] at hj
  have fl := figs_len factor many 0 (ds.take j)
  rw [List.length_take] at fl
  rw [figs_take _ _ _ _ _ hj]
  have eg := pDs_getD hj
  refine Ex.weakOut (Γ₁ := [("place", .int j), ("figure", (ds.map pD).getD j .none), ("above", pD above), ("factor", pD factor), ("many", .int many), ("rest", pD (pmod top bottom)), ("f", .tuple [pD top, pD bottom]), ("whole", pD (pdiv top bottom))]) (Wk.cons rfl (Wk.cons rfl (Wk.cons rfl (Wk.cons rfl (Wk.cons rfl (Wk.cons rfl Wk.nil)))))) (Ex.cons ?_ Ex.nil)
  show Ex1 prog w h₀ 8 _ [("place", .int j), ("figure", (ds.map pD).getD j .none), ("above", pD above), ("factor", pD factor), ("many", .int many), ("rest", pD (pmod top bottom)), ("f", .tuple [pD top, pD bottom]), ("whole", pD (pdiv top bottom))] _ _ _
  rw [eg]
  generalize ds.getD j [] = figure
  by_cases hfig : figure = []
  · rw [if_pos hfig, List.append_nil]
    refine Ex1.iff (c := false) (Tst.to (Tst.cmp (Ev.name rfl) (Ev.list EvL.nil (Nat.le_of_ble_eq_true rfl)) (Cm2.neD (sh_pD _).shaped sh_nil.shaped)) (by rw [eqv_nil, decide_eq_true hfig]; rfl)) Ex.nil
  · rw [if_neg hfig, ← List.append_assoc, List.map_append (l₁ := acc ++ _)]
    refine Ex1.iff (c := true) (Tst.to (Tst.cmp (Ev.name rfl) (Ev.list EvL.nil (Nat.le_of_ble_eq_true rfl)) (Cm2.neD (sh_pD _).shaped sh_nil.shaped)) (by rw [eqv_nil, decide_eq_false hfig]; rfl)) (Ex.cons (Ex1.app (d := fgD (factor, (many : Int) - ((0 + j : Nat) : Int), figure)) ?_ (by rw [List.length_map, List.length_append]; unfold sizeLine; lia)) Ex.nil)
    rw [Nat.zero_add]
    exact (Ev.tuple (EvL.cons (Ev.name rfl) (EvL.cons (Ev.bin (Ev.name rfl) (Ev.name rfl) Op2.sub) (EvL.cons (Ev.name rfl) EvL.nil))) (Nat.le_of_ble_eq_true rfl))
theorem con_fmake (W : Wd PP mg h₀) {top bottom t b : Pl} (h : FmakeR top bottom t b) : Con prog w h₀ 8 (fv mg "fmake") [pD top, pD bottom] (.tuple [pD t, pD b]) := by
  refine Con.def W (names := ["top", "bottom"]) ⟨_, recAt 29 rfl rfl rfl rfl, rfl, rfl, rfl, (fun _ _ _ => ml2 fun _ _ => rfl), by decide, by decide, rfl, rfl, rfl⟩ rfl ?_
  cases h with
  | @low g hb ht hg h1 hl bt bb lt lb =>
    refine Ex.cons (Ex1.iff (c := false) (Tst.to (Tst.cmp (Ev.name rfl) (Ev.list EvL.nil (Nat.le_of_ble_eq_true rfl)) (Cm2.eqD (sh_pD _).shaped sh_nil.shaped)) (by rw [eqv_nil, decide_eq_false hb])) Ex.nil) ?_
    refine Ex.cons (Ex1.iff (c := false) (Tst.to (Tst.cmp (Ev.name rfl) (Ev.list EvL.nil (Nat.le_of_ble_eq_true rfl)) (Cm2.eqD (sh_pD _).shaped sh_nil.shaped)) (by rw [eqv_nil, decide_eq_false ht])) Ex.nil) ?_
    refine Ex.cons (Ex1.asg (d := pD g) (Ev.call W (fn_qgcd W) rfl (con_qgcd W hg) (EvL.cons (Ev.name rfl) (EvL.cons (Ev.name rfl) EvL.nil)) (by decide)) rfl (fun _ _ _ h => nomatch h)) ?_
    refine Ex.cons (Ex1.iff (c := false) (Tst.to (Tst.cmp (Ev.call W (fn_qdegree W) rfl (con_qdegree W (p := g) (by lia)) (EvL.cons (Ev.name rfl) EvL.nil) (by decide)) Ev.int Cm2.gtI) (decide_eq_false (by lia))) Ex.nil) ?_
    have hs := (bb.last hb).inv hl
    refine Ex.cons (Ex1.asg (d := rD (last bottom)⁻¹) (Ev.call W (fn_rinv W) rfl (con_rinv W (bb.last hb) hl) (EvL.cons (Ev.call W (fn_qlead W) rfl (con_qlead W (by lia)) (EvL.cons (Ev.name rfl) EvL.nil) (by decide)) EvL.nil) (by decide)) rfl (fun _ _ _ h => nomatch h)) ?_
    exact Ex.ret (Ex1.ret (Ev.tuple (EvL.cons (Ev.call W (fn_qscale W) rfl (con_qscale W bt (by lia) hs) (EvL.cons (Ev.name rfl) (EvL.cons (Ev.name rfl) EvL.nil)) (by decide)) (EvL.cons (Ev.call W (fn_qscale W) rfl (con_qscale W bb (by lia) hs) (EvL.cons (Ev.name rfl) (EvL.cons (Ev.name rfl) EvL.nil)) (by decide)) EvL.nil)) (Nat.le_of_ble_eq_true rfl)))
  | @red g hb ht hg h1 lg d1 d2 hn hl bt bb =>
    have l1 := len_pdiv top g
    have l2 := len_pdiv bottom g
    have := d1.la; have := d2.la
    refine Ex.cons (Ex1.iff (c := false) (Tst.to (Tst.cmp (Ev.name rfl) (Ev.list EvL.nil (Nat.le_of_ble_eq_true rfl)) (Cm2.eqD (sh_pD _).shaped sh_nil.shaped)) (by rw [eqv_nil, decide_eq_false hb])) Ex.nil) ?_
    refine Ex.cons (Ex1.iff (c := false) (Tst.to (Tst.cmp (Ev.name rfl) (Ev.list EvL.nil (Nat.le_of_ble_eq_true rfl)) (Cm2.eqD (sh_pD _).shaped sh_nil.shaped)) (by rw [eqv_nil, decide_eq_false ht])) Ex.nil) ?_
    refine Ex.cons (Ex1.asg (d := pD g) (Ev.call W (fn_qgcd W) rfl (con_qgcd W hg) (EvL.cons (Ev.name rfl) (EvL.cons (Ev.name rfl) EvL.nil)) (by decide)) rfl (fun _ _ _ h => nomatch h)) ?_
    refine Ex.cons (Γ' := [("top", pD (pdiv top g)), ("bottom", pD (pdiv bottom g))]) (O' := none) (Ex1.iff (c := true) (Tst.to (Tst.cmp (Ev.call W (fn_qdegree W) rfl (con_qdegree W (p := g) (by lia)) (EvL.cons (Ev.name rfl) EvL.nil) (by decide)) Ev.int Cm2.gtI) (decide_eq_true (by lia))) (Ex.weakOut (Γ₁ := [("bottom", pD (pdiv bottom g)), ("top", pD (pdiv top g)), ("common", pD g), ("top", pD top), ("bottom", pD bottom)]) (Wk.cons rfl (Wk.cons rfl Wk.nil)) (Ex.cons (Ex1.swap [(_, _), (_, _)] (ds := [pD (pdiv top g), pD (pdiv bottom g)]) (EvL.cons (Ev.itemT (Ev.call W (fn_qdivmod W) rfl (con_qdivmod W d1) (EvL.cons (Ev.name rfl) (EvL.cons (Ev.name rfl) EvL.nil)) (by decide)) Ev.int (by decide) (by decide) rfl) (EvL.cons (Ev.itemT (Ev.call W (fn_qdivmod W) rfl (con_qdivmod W d2) (EvL.cons (Ev.name rfl) (EvL.cons (Ev.name rfl) EvL.nil)) (by decide)) Ev.int (by decide) (by decide) rfl) EvL.nil)) rfl (by decide) (by decide) (fun _ _ _ h => nomatch h) (Nat.le_of_ble_eq_true rfl) (fun _ => rfl) (by rintro ⟨_, _, _, _, _, _, _, _, _⟩ rfl; rfl)) Ex.nil))) ?_
    have hs := (bb.last hn).inv hl
    refine Ex.cons (Ex1.asg (d := rD (last (pdiv bottom g))⁻¹) (Ev.call W (fn_rinv W) rfl (con_rinv W (bb.last hn) hl) (EvL.cons (Ev.call W (fn_qlead W) rfl (con_qlead W (p := pdiv bottom g) (by lia)) (EvL.cons (Ev.name rfl) EvL.nil) (by decide)) EvL.nil) (by decide)) rfl (fun _ _ _ h => nomatch h)) ?_
    exact Ex.ret (Ex1.ret (Ev.tuple (EvL.cons (Ev.call W (fn_qscale W) rfl (con_qscale W bt (by lia) hs) (EvL.cons (Ev.name rfl) (EvL.cons (Ev.name rfl) EvL.nil)) (by decide)) (EvL.cons (Ev.call W (fn_qscale W) rfl (con_qscale W bb (by lia) hs) (EvL.cons (Ev.name rfl) (EvL.cons (Ev.name rfl) EvL.nil)) (by decide)) EvL.nil)) (Nat.le_of_ble_eq_true rfl)))
theorem con_fderive (W : Wd PP mg h₀) {top bottom t b : Pl} (h : FderR top bottom t b) : Con prog w h₀ 9 (fv mg "fderive") [.tuple [pD top, pD bottom]] (.tuple [pD t, pD b]) := by
  refine Con.def W (names := ["f"]) ⟨_, recAt 30 rfl rfl rfl rfl, rfl, rfl, rfl, (fun _ _ _ => ml1 fun _ => rfl), by decide, by decide, rfl, rfl, rfl⟩ rfl ?_
  refine Ex.cons (Ex1.unp [(_, _), (_, _)] (Ev.name rfl) rfl (by decide) (by decide) (fun _ _ _ h => nomatch h) (fun _ => rfl) (by rintro ⟨_, _, _, _, _, _, _, _, _⟩ rfl; rfl)) ?_
  exact Ex.ret (Ex1.ret (Ev.call W (fn_fmake W) rfl (con_fmake W h.f) (EvL.cons (Ev.call W (fn_qsub W) rfl (con_qsub W h.s) (EvL.cons (Ev.call W (fn_qmul W) rfl (con_qmul W h.m₁) (EvL.cons (Ev.call W (fn_qderive W) rfl (con_qderive W h.bt h.lt) (EvL.cons (Ev.name rfl) EvL.nil) (by decide)) (EvL.cons (Ev.name rfl) EvL.nil)) (by decide)) (EvL.cons (Ev.call W (fn_qmul W) rfl (con_qmul W h.m₂) (EvL.cons (Ev.name rfl) (EvL.cons (Ev.call W (fn_qderive W) rfl (con_qderive W h.bb h.lb) (EvL.cons (Ev.name rfl) EvL.nil) (by decide)) EvL.nil)) (by decide)) EvL.nil)) (by decide)) (EvL.cons (Ev.call W (fn_qmul W) rfl (con_qmul W h.m₃) (EvL.cons (Ev.name rfl) (EvL.cons (Ev.name rfl) EvL.nil)) (by decide)) EvL.nil)) (by decide)))
end
end Mine

/-! part G10 -/
namespace Mine
open PySem PySem.W PyProof.Rows
set_option maxRecDepth 100000

def iD (r : List Int) : PyData := .list (r.map .int)
def drawn (ns : List Int) (at_ : Nat) (m : Int) : Int := (if at_ < ns.length then ns.getD at_ 0 else 3 * (at_ : Int) + 2).fmod m
def iaddAt (f : List Int) (k : Nat) (v : Int) : List Int := f.set k (f.getD k 0 + v)
def irowAt (f : List Int) (k : Nat) (x : Int) : List Int → List Int
  | [] => f
  | y :: b => irowAt (iaddAt f k (x * y)) (k + 1) x b
def imulAt (b : List Int) (f : List Int) (k : Nat) : List Int → List Int
  | [] => f
  | x :: a => imulAt b (irowAt f k x b) (k + 1) a
def itimes (a b : List Int) : List Int := imulAt b (List.replicate (a.length + b.length - 1) 0) 0 a
def itrim : List Int → List Int
  | [] => []
  | q :: r => match itrim r with
    | [] => if q = 0 then [] else [q]
    | t :: u => q :: t :: u
def rats (r : List Int) : Pl := List.map (fun (i : Int) => (i : Rat)) r
def lr (r : List Int) : Pl := rats (itrim r)
@[simp] theorem len_iaddAt (f : List Int) (k : Nat) (v : Int) : (iaddAt f k v).length = f.length := by simp [iaddAt]
@[simp] theorem len_irowAt (f : List Int) (k : Nat) (x : Int) (b : List Int) : (irowAt f k x b).length = f.length := by
  induction b generalizing f k with
  | nil => rfl
  | cons y b ih => rw [irowAt, ih, len_iaddAt]
@[simp] theorem len_imulAt (b f : List Int) (k : Nat) (a : List Int) : (imulAt b f k a).length = f.length := by
  induction a generalizing f k with
  | nil => rfl
  | cons y a ih => rw [imulAt, ih, len_irowAt]
theorem irowAt_take (f : List Int) (k : Nat) (x : Int) (b : List Int) (j : Nat) (hj : j < b.length) : irowAt f k x (b.take (j + 1)) = iaddAt (irowAt f k x (b.take j)) (k + j) (x * b.getD j 0) := by
  induction b generalizing f k j with
  | nil => simp at hj
  | cons y b ih =>
    cases j with
    | zero => simp [irowAt]
    | succ j =>
      simp only [List.length_cons] at hj
      rw [List.take_succ_cons, irowAt, ih _ _ _ (by lia), List.take_succ_cons, irowAt, List.getD_cons_succ, show k + 1 + j = k + (j + 1) by lia]
theorem imulAt_take (b f : List Int) (k : Nat) (a : List Int) (i : Nat) (hi : i < a.length) : imulAt b f k (a.take (i + 1)) = irowAt (imulAt b f k (a.take i)) (k + i) (a.getD i 0) b := by
  induction a generalizing f k i with
  | nil => simp at hi
  | cons y a ih =>
    cases i with
    | zero => simp [imulAt]
    | succ i =>
      simp only [List.length_cons] at hi
      rw [List.take_succ_cons, imulAt, ih _ _ _ (by lia), List.take_succ_cons, imulAt, List.getD_cons_succ, show k + 1 + i = k + (i + 1) by lia]
theorem iD_get {p : List Int} {i : Nat} (h : i < p.length) : (p.map PyData.int)[i]? = some (.int (p.getD i 0)) := by
  rw [List.getElem?_map, List.getD_eq_getElem?_getD, List.getElem?_eq_getElem h]; rfl
theorem iD_getD {p : List Int} {i : Nat} (h : i < p.length) : (p.map PyData.int).getD i .none = .int (p.getD i 0) := by
  rw [List.getD_eq_getElem?_getD, iD_get h]; rfl
theorem sh_iD (p : List Int) : Shape 2 (iD p) := sh_list fun d h => by
  obtain ⟨q, _, rfl⟩ := List.mem_map.mp h
  exact sh_int
theorem eqv_inil (p : List Int) : (iD p).eqv (.list []) = decide (p = []) := by
  cases p <;> simp [iD, PyData.eqv, PyData.eqvAll]
theorem itrim_snoc (r : List Int) (x : Int) : itrim (r ++ [x]) = if x = 0 then itrim r else r ++ [x] := by
  induction r with
  | nil => simp only [List.nil_append, itrim]
  | cons y r ih =>
    rw [List.cons_append, itrim, ih]
    by_cases hx : x = 0
    · rw [if_pos hx, if_pos hx, itrim]
    · rw [if_neg hx, if_neg hx]
      cases r <;> simp
section
variable {prog : Program} {w : World} {h₀ : Heap} {mg : Str → Option Value}

theorem con_leni {p : List Int} {n : Nat} (h : p.length ≤ 5000) : Con prog w h₀ n (.builtin "len") [iD p] (.int p.length) := by
  have := Con.len (prog := prog) (w := w) (h₀ := h₀) (n := n) (xs := p.map PyData.int) (by rw [List.length_map]; lia)
  rwa [List.length_map] at this
theorem con_drawn (W : Wd PP mg h₀) {ns : List Int} {k : Nat} {m : Int} (hn : ns.length ≤ 4000) (hk : k ≤ 100) (hm : m ≠ 0) : Con prog w h₀ 1 (fv mg "_law_drawn") [iD ns, .int k, .int m] (.int (drawn ns k m)) := by
  refine Con.def W (names := ["script", "at", "many"]) ⟨_, recAt 31 rfl rfl rfl rfl, rfl, rfl, rfl, (fun _ _ _ => ml3 fun _ _ _ => rfl), by decide, by decide, rfl, rfl, rfl⟩ rfl ?_
  refine Ex.ret (Ex1.ret (Ev.bin (Ev.ife (d := .int (if k < ns.length then ns.getD k 0 else 3 * (k : Int) + 2)) (b := decide ((k : Int) < ns.length)) (Tst.cmp (Ev.name rfl) (Ev.callB W (by decide) rfl rfl (con_leni (by lia)) (EvL.cons (Ev.name rfl) EvL.nil)) Cm2.ltI) (if_of (fun h => ?_) fun h => ?_)) (Ev.name rfl) (Op2.mod hm)))
  · have h := of_decide_eq_true h
    rw [if_pos (by lia)]
    exact Ev.item (Ev.name rfl) (Ev.name rfl) (by lia) (by lia) (by rw [Int.toNat_natCast]; exact iD_get (by lia))
  · have h := of_decide_eq_false h
    rw [if_neg (by lia)]
    exact (Ev.bin (Ev.bin Ev.int (Ev.name rfl) (Op2.mul (IntMulOk.of_left (by decide)))) Ev.int Op2.add)
theorem con_times (W : Wd PP mg h₀) {a b : List Int} (ha : a.length ≤ 1000) (hb : b.length ≤ 1000) (hn1 : a ≠ []) (hn2 : b ≠ []) (hs : ∀ x ∈ a, x.natAbs < 2 ^ LB) (hs' : ∀ x ∈ b, x.natAbs < 2 ^ LB) : ConF prog w h₀ 1 (fv mg "_law_times") [iD a, iD b] ((itimes a b).map .int) := by
  have l1 : 1 ≤ a.length := List.length_pos_iff.mpr hn1
  have l2 : 1 ≤ b.length := List.length_pos_iff.mpr hn2
  refine ConF.def W (names := ["a", "b"]) ⟨_, recAt 32 rfl rfl rfl rfl, rfl, rfl, rfl, (fun _ _ _ => ml2 fun _ _ => rfl), by decide, by decide, rfl, rfl, rfl⟩ rfl ?_
  refine Ex.cons (Ex1.asgF (EvF.rep (EvL.cons Ev.int EvL.nil) (Ev.bin (Ev.bin (Ev.callB W (by decide) rfl rfl (con_leni (by lia)) (EvL.cons (Ev.name rfl) EvL.nil)) (Ev.callB W (by decide) rfl rfl (con_leni (by lia)) (EvL.cons (Ev.name rfl) EvL.nil)) Op2.add) Ev.int Op2.sub) (by lia) (by lia)) rfl rfl) (Ex.dim ?_)
  let z : List Int := List.replicate (a.length + b.length - 1) 0
  have hz : List.replicate ((a.length : Int) + b.length - 1).toNat (PyData.int 0) = z.map .int := by
    show _ = (List.replicate _ _).map PyData.int
    rw [List.map_replicate]; congr 1; lia
  rw [hz]
  have hzl : z.length = a.length + b.length - 1 := List.length_replicate
  refine Ex.cons (Γ' := [("a", iD a), ("b", iD b)]) (O' := some ("row", false, (imulAt b z 0 a).map .int)) ?_ (Ex.retF Ex1.retF)
  refine Ex1.forE (fun i => ([("a", iD a), ("b", iD b)], some ("row", false, (imulAt b z 0 (a.take i)).map .int)))
    (Src.enum (xs := a.map .int) W (by decide) rfl rfl (Ev.name rfl) (by decide)) Wk.refl rfl (by decide) (fun _ _ => rfl) (fun i hi y c ds e => by cases e; decide) (fun i hi => ?_) rfl (by rw [List.length_map, List.take_length])
  rw [List.length_map] at hi
  refine Ex.weakOut (Γ₁ := [("one", .int i), ("left", (a.map .int).getD i .none), ("a", iD a), ("b", iD b)]) (Wk.cons rfl (Wk.cons rfl Wk.nil)) (Ex.cons ?_ Ex.nil)
  refine Ex1.forE (fun j => ([("one", .int i), ("left", (a.map .int).getD i .none), ("a", iD a), ("b", iD b)], some ("row", false, (irowAt (imulAt b z 0 (a.take i)) i (a.getD i 0) (b.take j)).map .int)))
    (Src.enum (xs := b.map .int) W (by decide) rfl rfl (Ev.name rfl) (by decide)) Wk.refl rfl (by decide) (fun _ _ => rfl) (fun i hi y c ds e => by cases e; decide) (fun j hj => ?_) rfl (by
      have e := imulAt_take b z 0 a i hi
      rw [Nat.zero_add] at e
      rw [List.length_map, List.take_length]
      exact congrArg (fun q : List Int => some (_, false, q.map PyData.int)) e.symm)
  rw [List.length_map] at hj
  have hlen : (irowAt (imulAt b z 0 (a.take i)) i (a.getD i 0) (b.take j)).length = a.length + b.length - 1 := by rw [len_irowAt, len_imulAt, hzl]
  have e : (irowAt (imulAt b z 0 (a.take i)) i (a.getD i 0) (b.take (j + 1))).map PyData.int = ((irowAt (imulAt b z 0 (a.take i)) i (a.getD i 0) (b.take j)).map PyData.int).set ((i : Int) + j).toNat (.int ((irowAt (imulAt b z 0 (a.take i)) i (a.getD i 0) (b.take j)).getD (i + j) 0 + a.getD i 0 * b.getD j 0)) := by
    rw [irowAt_take _ _ _ _ _ hj, iaddAt, List.map_set, show ((i : Int) + j).toNat = i + j from rfl]
  rw [e]
  have ga : (a.getD i 0).natAbs < 2 ^ LB := by
    rw [List.getD_eq_getElem?_getD, List.getElem?_eq_getElem hi]; exact hs _ (List.getElem_mem hi)
  have gb : (b.getD j 0).natAbs < 2 ^ LB := by
    rw [List.getD_eq_getElem?_getD, List.getElem?_eq_getElem hj]; exact hs' _ (List.getElem_mem hj)
  refine Ex.weakOut (Γ₁ := [("other", .int j), ("right", (b.map .int).getD j .none), ("one", .int i), ("left", (a.map .int).getD i .none), ("a", iD a), ("b", iD b)]) (Wk.cons rfl (Wk.cons rfl (Wk.cons rfl (Wk.cons rfl Wk.nil)))) (Ex.cons (Ex1.put ?_ (Ev.bin (Ev.name rfl) (Ev.name rfl) Op2.add) (by lia) (by rw [List.length_map, hlen]; lia) (by rw [List.length_map, hlen]; lia)) Ex.nil)
  exact (Ev.bin (Ev.itemO (Ev.bin (Ev.name rfl) (Ev.name rfl) Op2.add) (by lia) (by lia) (by rw [show ((i : Int) + j).toNat = i + j from rfl]; exact iD_get (by rw [hlen]; lia))) (Ev.bin (Ev.to (Ev.name rfl) (iD_getD hi)) (Ev.to (Ev.name rfl) (iD_getD hj)) (Op2.mul (imo ga gb))) Op2.add)
theorem con_ratios (W : Wd PP mg h₀) {r : List Int} (hr : r.length ≤ 1000) : Con prog w h₀ 1 (fv mg "_law_ratios") [iD r] (pD (lr r)) := by
  refine Con.def W (names := ["row"]) ⟨_, recAt 33 rfl rfl rfl rfl, rfl, rfl, rfl, (fun _ _ _ => ml1 fun _ => rfl), by decide, by decide, rfl, rfl, rfl⟩ rfl ?_
  refine Ex.cons (Γ' := [("row", iD (itrim r))]) (O' := none) (Ex1.whl (WL.weak (Γ' := [("row", iD r)]) Wk.refl ?_)) (Ex.ret (Ex1.ret ?_))
  · obtain ⟨q, rfl⟩ : ∃ q : List Int, r = q.reverse := ⟨r.reverse, by simp⟩
    induction q with
    | nil => exact WL.done (Tst.and (b₁ := false) (b := false) (Tst.to (Tst.cmp (Ev.name rfl) (Ev.list EvL.nil (Nat.le_of_ble_eq_true rfl)) (Cm2.neD (sh_iD []).shaped sh_nil.shaped)) (by rw [eqv_inil]; rfl)) (fun h => nomatch h))
    | cons x q ih =>
      rw [List.reverse_cons] at hr ⊢
      rw [List.length_append, List.length_singleton] at hr
      generalize q.reverse = r at *
      have hne : r ++ [x] ≠ [] := by simp
      have hlen : ((r ++ [x]).map PyData.int).length = r.length + 1 := by simp
      rw [itrim_snoc]
      by_cases hx : x = 0
      · rw [if_pos hx]
        refine WL.step (Γ' := [("row", iD r), ("row", iD (r ++ [x]))]) (O' := none) (Tst.to (Tst.and (Tst.cmp (Ev.name rfl) (Ev.list EvL.nil (Nat.le_of_ble_eq_true rfl)) (Cm2.neD (sh_iD (r ++ [x])).shaped sh_nil.shaped)) fun _ => (Tst.cmp (Ev.itemN (xs := (r ++ [x]).map PyData.int) (d := .int x) (Ev.name rfl) (Ev.neg Ev.int) (by decide) (by rw [hlen]; lia) (by decide) (by rw [hlen, show (-1 + ((r.length + 1 : Nat) : Int)).toNat = r.length by lia]; simp)) Ev.int Cm2.eqI)) (by rw [eqv_inil, decide_eq_false hne, hx]; rfl)) (Ex.cons (Ex1.asg ?_ rfl (fun _ _ _ h => nomatch h)) Ex.nil) (WL.weak (Wk.cons rfl Wk.nil) (ih (by lia)))
        have e : iD r = .list ((((r ++ [x]).map PyData.int).drop 0).take (r.length - 0)) := by
          unfold iD; rw [List.drop_zero, Nat.sub_zero, List.map_append, List.take_append_of_le_length (by simp), List.take_of_length_le (by simp)]
        rw [e]
        exact Ev.slice (lo := none) (i := none) (j := some (-1)) (Ev.name rfl) trivial (Ev.neg Ev.int) (by rw [hlen]; exact sb_init) (by rw [hlen]; unfold sizeLine; lia)
      · rw [if_neg hx]
        exact WL.done (Tst.to (Tst.and (Tst.cmp (Ev.name rfl) (Ev.list EvL.nil (Nat.le_of_ble_eq_true rfl)) (Cm2.neD (sh_iD (r ++ [x])).shaped sh_nil.shaped)) fun _ => (Tst.cmp (Ev.itemN (xs := (r ++ [x]).map PyData.int) (d := .int x) (Ev.name rfl) (Ev.neg Ev.int) (by decide) (by rw [hlen]; lia) (by decide) (by rw [hlen, show (-1 + ((r.length + 1 : Nat) : Int)).toNat = r.length by lia]; simp)) Ev.int Cm2.eqI)) (by rw [eqv_inil, decide_eq_false hne]; simpa using hx))
  · have hl : (itrim r).length ≤ r.length := by
      clear hr
      induction r with
      | nil => exact Nat.le_refl _
      | cons q r ih =>
        unfold itrim
        split
        · split <;> simp
        · rename_i t u h
          rw [h] at ih
          simp only [List.length_cons] at ih ⊢; lia
    unfold lr
    generalize itrim r = q at hl
    refine Ev.to (EvF.ev (EvF.comp [] (fun _ => true) (fun i => rD ((rats q).getD i 0)) (Src.list (Ev.name rfl)) rfl (by decide) (by decide) (by decide) (free_of rfl) Cap.nil ?hT ?hE ?hN)) (comp_eq (by simp [rats]) fun i _ => rfl)
    case hT => exact fun _ _ => TstL.nil
    case hN => rw [List.length_map]; unfold sizeLine; lia
    case hE =>
      intro i hi _
      rw [List.length_map] at hi
      have e : (rats q).getD i 0 = ((q.getD i 0 : Int) : Rat) := by
        unfold rats
        rw [List.getD_eq_getElem?_getD, List.getElem?_map, List.getD_eq_getElem?_getD, List.getElem?_eq_getElem hi]; rfl
      rw [e]
      exact Ev.to (Ev.tuple (EvL.cons (Ev.to (Ev.name rfl) (iD_getD hi)) (EvL.cons Ev.int EvL.nil)) (Nat.le_of_ble_eq_true rfl)) (rD_int _).symm
end
end Mine

/-! part G11 -/
namespace Mine
open PySem PySem.W PyProof.Rows
set_option maxRecDepth 100000

structure LawIn where
  above : List Int
  below : List Int
  fs : List (List Int × Nat)
  due : List (List Int × Nat × List Int)
def lawIn0 (r d c e : Int) : LawIn := ⟨[c * (0 - r - d) + e * (0 - r), c + e], itimes [0 - r, 1] [0 - r - d, 1], [([0 - r, 1], 2), ([0 - r - d, 1], 2)], [([0 - r, 1], 2, [0 - c]), ([0 - r - d, 1], 2, [0 - e])]⟩
def lawIn1 (r c e : Int) : LawIn := ⟨[c - e * r, e], itimes [0 - r, 1] [0 - r, 1], [([0 - r, 1], 3)], [([0 - r, 1], 3, [-2 * c]), ([0 - r, 1], 2, [0 - e])]⟩
def lawIn2 (r d c e : Int) : LawIn := ⟨[c, e], [r * r + d, 0 - 2 * r, 1], [([r * r + d, 0 - 2 * r, 1], 2)], [([r * r + d, 0 - 2 * r, 1], 2, [2 * e * (r * r + d) - c * (0 - 2 * r), e * (0 - 2 * r) - 2 * c]), ([r * r + d, 0 - 2 * r, 1], 1, [0 - e])]⟩
def lawIn (r d form c e : Int) : LawIn := if form = 0 then lawIn0 r d c (if e ≠ 0 then e else 4) else if form = 1 then lawIn1 r c e else lawIn2 r d c e
def iaddAll (f : List Int) (k : Nat) : List Int → List Int
  | [] => f
  | y :: b => iaddAll (iaddAt f k y) (k + 1) b
theorem len_iaddAll (f : List Int) (k : Nat) (b : List Int) : (iaddAll f k b).length = f.length := by
  induction b generalizing f k with
  | nil => rfl
  | cons y b ih => rw [iaddAll, ih, len_iaddAt]
theorem iaddAll_take (f : List Int) (k : Nat) (b : List Int) (j : Nat) (hj : j < b.length) : iaddAll f k (b.take (j + 1)) = iaddAt (iaddAll f k (b.take j)) (k + j) (b.getD j 0) := by
  induction b generalizing f k j with
  | nil => simp at hj
  | cons y b ih =>
    cases j with
    | zero => simp [iaddAll]
    | succ j =>
      simp only [List.length_cons] at hj
      rw [List.take_succ_cons, iaddAll, ih _ _ _ (by lia), List.take_succ_cons, iaddAll, List.getD_cons_succ, show k + 1 + j = k + (j + 1) by lia]
def topI (w0 w1 : Int) (x : LawIn) : List Int := iaddAll (itimes [w0, w1] x.below) 0 x.above
def ifD (f : List Int × Nat) : PyData := .tuple [iD f.1, .int f.2]
def idD (f : List Int × Nat × List Int) : PyData := .tuple [iD f.1, .int f.2.1, iD f.2.2]
def dueQ (x : LawIn) : List Fg := x.due.map fun f => (lr f.1, (f.2.1 : Int), lr f.2.2)
structure LawGood (w0 w1 : Int) (x : LawIn) (t b : Pl) (fg : List Fg) : Prop where
  la : x.above.length ≤ x.below.length + 1
  lb : x.below ≠ []
  lb' : x.below.length ≤ 100
  sb : ∀ v ∈ x.below, v.natAbs < 2 ^ LB
  sw : w0.natAbs < 2 ^ LB ∧ w1.natAbs < 2 ^ LB
  nf : x.fs.length ≤ 100
  nf' : ∀ f ∈ x.fs, f.1.length ≤ 100
  nd : x.due.length ≤ 100
  nd' : ∀ f ∈ x.due, f.1.length ≤ 100 ∧ f.2.2.length ≤ 100
  fd : FderR (lr (topI w0 w1 x)) (lr x.below) t b
  dv : DivOk t b
  pr : PartR (pmod t b) b (x.fs.map fun f => (lr f.1, f.2)) fg
  lf : fg.length ≤ 1000
  an : pdiv t b = lr [w1]
  af : fg = (dueQ x).filter fun f => decide (f.2.2 ≠ [])
theorem imL {a b : Int} (h : a.natAbs < 1000000) : IntMulOk a b := .of_left (intBits_le_iff.mpr (by lia))
theorem imB {a b : Int} {X : Nat} (h : a.natAbs ≤ X) (e : X < 1000000) : IntMulOk a b := imL (Nat.lt_of_le_of_lt h e)
theorem sm_lb {x : Int} (h : x.natAbs < 2 ^ 20) : x.natAbs < 2 ^ LB := Nat.lt_of_lt_of_le h (Nat.pow_le_pow_right (by decide) (by decide))
theorem comp_eqG {L : List PyData} {N : Nat} {ds : Nat → PyData} (hl : L.length = N) (h : ∀ i, i < N → ds i = L.getD i .none) : PyData.list (((List.range N).filter fun _ => true).map ds) = .list L := by
  congr 1
  rw [List.filter_eq_self.mpr (by simp)]
  subst hl
  refine List.ext_getElem (by simp) fun i h1 h2 => ?_
  simp only [List.length_map, List.length_range] at h1
  rw [List.getElem_map, List.getElem_range, h i h1, List.getD_eq_getElem?_getD, List.getElem?_eq_getElem h1]; rfl
theorem range_filter {α : Type} (L : List α) (d : α) (q : α → Bool) : ((List.range L.length).filter fun i => q (L.getD i d)).map (fun i => L.getD i d) = L.filter q := by
  have e : L = (List.range L.length).map fun i => L.getD i d := by
    refine List.ext_getElem (by simp) fun i h1 h2 => ?_
    rw [List.getElem_map, List.getElem_range, List.getD_eq_getElem?_getD, List.getElem?_eq_getElem h1]; rfl
  conv => rhs; rw [e, List.filter_map]
  rfl
theorem get_map {α : Type} {g : α → PyData} {L : List α} {i : Nat} (d : α) (h : i < L.length) : (L.map g)[i]? = some (g (L.getD i d)) := by
  rw [List.getElem?_map, List.getD_eq_getElem?_getD, List.getElem?_eq_getElem h]; rfl
theorem getD_map {α : Type} {g : α → PyData} {L : List α} {i : Nat} (d : α) (h : i < L.length) : (L.map g).getD i .none = g (L.getD i d) := by
  rw [List.getD_eq_getElem?_getD, get_map d h]; rfl
theorem sh_fgD (x : Fg) : Shape 4 (fgD x) := sh_tuple fun d h => by
  rcases List.mem_cons.mp h with rfl | h
  · exact sh_pD _
  · rcases List.mem_cons.mp h with rfl | h
    · exact sh_int.le (by decide)
    · rw [List.mem_singleton.mp h]; exact sh_pD _
theorem sh_told (p : Pl) (l : List Fg) : Shape 6 (.tuple [pD p, .list (l.map fgD)]) := sh_tuple fun d h => by
  rcases List.mem_cons.mp h with rfl | h
  · exact (sh_pD _).le (by decide)
  · rw [List.mem_singleton.mp h]
    exact sh_list fun d h => by
      obtain ⟨q, _, rfl⟩ := List.mem_map.mp h
      exact sh_fgD q
theorem fmod_rng (x : Int) {m : Int} (h : 0 < m) : 0 ≤ x.fmod m ∧ x.fmod m < m := by
  rw [Int.fmod_eq_emod_of_nonneg _ (by lia)]
  exact ⟨Int.emod_nonneg _ (by lia), Int.emod_lt_of_pos _ h⟩
section
variable {prog : Program} {w : World} {h₀ : Heap} {mg : Str → Option Value}

set_option maxHeartbeats 4000000 in
theorem law_ex (W : Wd PP mg h₀) {ns : List Int} (hn : ns.length ≤ 4000)
    (H : ∃ t b fg, LawGood (drawn ns 3 5 - 2) (drawn ns 4 5 - 2) (lawIn (drawn ns 0 15 - 7) (1 + drawn ns 1 6) (drawn ns 2 3) (1 + drawn ns 5 4) (drawn ns 6 7 - 3)) t b fg) :
    ∃ body sc, (∃ d, (recsOf PP)[30]? = some d ∧ d.body = body ∧ d.scope = sc) ∧ Ex prog w h₀ 10 sc [("script", iD ns)] none body (.ret (.bool true)) := by
  refine ⟨_, _, ⟨_, rfl, rfl, rfl⟩, ?_⟩
  refine Ex.cons (Ex1.swap [(_, _), (_, _), (_, _)] (ds := [.int (drawn ns 0 15 - 7), .int (1 + drawn ns 1 6), .int (drawn ns 2 3)]) (EvL.cons (Ev.bin (Ev.call W (fn_drawn W) rfl (con_drawn W (ns := ns) (k := 0) (m := 15) (by lia) (by decide) (by decide)) (EvL.cons (Ev.name rfl) (EvL.cons Ev.int (EvL.cons Ev.int EvL.nil))) (by decide)) Ev.int Op2.sub) (EvL.cons (Ev.bin Ev.int (Ev.call W (fn_drawn W) rfl (con_drawn W (ns := ns) (k := 1) (m := 6) (by lia) (by decide) (by decide)) (EvL.cons (Ev.name rfl) (EvL.cons Ev.int (EvL.cons Ev.int EvL.nil))) (by decide)) Op2.add) (EvL.cons (Ev.call W (fn_drawn W) rfl (con_drawn W (ns := ns) (k := 2) (m := 3) (by lia) (by decide) (by decide)) (EvL.cons (Ev.name rfl) (EvL.cons Ev.int (EvL.cons Ev.int EvL.nil))) (by decide)) EvL.nil))) rfl (by decide) (by decide) (fun _ _ _ h => nomatch h) (Nat.le_of_ble_eq_true rfl) (fun _ => rfl) (by rintro ⟨_, _, _, _, _, _, _, _, _⟩ rfl; rfl)) ?_
  refine Ex.cons (Ex1.asg (d := iD [drawn ns 3 5 - 2, drawn ns 4 5 - 2]) (Ev.list (EvL.cons (Ev.bin (Ev.call W (fn_drawn W) rfl (con_drawn W (ns := ns) (k := 3) (m := 5) (by lia) (by decide) (by decide)) (EvL.cons (Ev.name rfl) (EvL.cons Ev.int (EvL.cons Ev.int EvL.nil))) (by decide)) Ev.int Op2.sub) (EvL.cons (Ev.bin (Ev.call W (fn_drawn W) rfl (con_drawn W (ns := ns) (k := 4) (m := 5) (by lia) (by decide) (by decide)) (EvL.cons (Ev.name rfl) (EvL.cons Ev.int (EvL.cons Ev.int EvL.nil))) (by decide)) Ev.int Op2.sub) EvL.nil)) (Nat.le_of_ble_eq_true rfl)) rfl (fun _ _ _ h => nomatch h)) ?_
  refine Ex.cons (Ex1.swap [(_, _), (_, _)] (ds := [.int (1 + drawn ns 5 4), .int (drawn ns 6 7 - 3)]) (EvL.cons (Ev.bin Ev.int (Ev.call W (fn_drawn W) rfl (con_drawn W (ns := ns) (k := 5) (m := 4) (by lia) (by decide) (by decide)) (EvL.cons (Ev.name rfl) (EvL.cons Ev.int (EvL.cons Ev.int EvL.nil))) (by decide)) Op2.add) (EvL.cons (Ev.bin (Ev.call W (fn_drawn W) rfl (con_drawn W (ns := ns) (k := 6) (m := 7) (by lia) (by decide) (by decide)) (EvL.cons (Ev.name rfl) (EvL.cons Ev.int (EvL.cons Ev.int EvL.nil))) (by decide)) Ev.int Op2.sub) EvL.nil)) rfl (by decide) (by decide) (fun _ _ _ h => nomatch h) (Nat.le_of_ble_eq_true rfl) (fun _ => rfl) (by rintro ⟨_, _, _, _, _, _, _, _, _⟩ rfl; rfl)) ?_
  have b0 : ∀ k (m : Int), 0 < m → 0 ≤ drawn ns k m ∧ drawn ns k m < m := fun k m h => fmod_rng _ h
  have r0 := b0 0 15 (by decide); have r1 := b0 1 6 (by decide); have r2 := b0 2 3 (by decide); have r3 := b0 3 5 (by decide); have r4 := b0 4 5 (by decide); have r5 := b0 5 4 (by decide); have r6 := b0 6 7 (by decide)
  clear b0
  generalize drawn ns 0 15 = d0 at *
  generalize drawn ns 1 6 = d1 at *
  generalize drawn ns 2 3 = form at *
  generalize drawn ns 3 5 = d3 at *
  generalize drawn ns 4 5 = d4 at *
  generalize drawn ns 5 4 = d5 at *
  generalize drawn ns 6 7 = d6 at *
  obtain ⟨r, hr⟩ : ∃ r, r = d0 - 7 := ⟨_, rfl⟩
  obtain ⟨d, hd⟩ : ∃ d, d = 1 + d1 := ⟨_, rfl⟩
  obtain ⟨w0, hw0⟩ : ∃ r, r = d3 - 2 := ⟨_, rfl⟩
  obtain ⟨w1, hw1⟩ : ∃ r, r = d4 - 2 := ⟨_, rfl⟩
  obtain ⟨c, hc⟩ : ∃ r, r = 1 + d5 := ⟨_, rfl⟩
  obtain ⟨e, he⟩ : ∃ r, r = d6 - 3 := ⟨_, rfl⟩
  have kr : r.natAbs ≤ 7 := hr ▸ dk (k := 7) (K := 7) r0 (by decide) (by decide)
  have kd : d.natAbs ≤ 6 := hd ▸ bk (dq (m := 6) r1)
  have kc : c.natAbs ≤ 4 := hc ▸ bk (dq (m := 4) r5)
  have ke : e.natAbs ≤ 3 := he ▸ dk (k := 3) (K := 3) r6 (by decide) (by decide)
  rw [← hr, ← hd, ← hw0, ← hw1, ← hc, ← he] at H ⊢
  refine Ex.weak (Γ' := [("r", .int r), ("d", .int d), ("form", .int form), ("whole", iD [w0, w1]), ("c", .int c), ("e", .int e)]) (Wk.cons rfl (Wk.cons rfl (Wk.cons rfl (Wk.cons rfl (Wk.cons rfl (Wk.cons rfl Wk.nil)))))) ?_
  refine Ex.cons (Ex1.swap [(_, _), (_, _), (_, _)] (ds := [iD [0 - r, 1], iD [0 - r - d, 1], iD [r * r + d, 0 - 2 * r, 1]]) (EvL.cons (Ev.list (EvL.cons (Ev.bin Ev.int (Ev.name rfl) Op2.sub) (EvL.cons Ev.int EvL.nil)) (Nat.le_of_ble_eq_true rfl)) (EvL.cons (Ev.list (EvL.cons (Ev.bin (Ev.bin Ev.int (Ev.name rfl) Op2.sub) (Ev.name rfl) Op2.sub) (EvL.cons Ev.int EvL.nil)) (Nat.le_of_ble_eq_true rfl)) (EvL.cons (Ev.list (EvL.cons (Ev.bin (Ev.bin (Ev.name rfl) (Ev.name rfl) (Op2.mul (imB kr (by decide)))) (Ev.name rfl) Op2.add) (EvL.cons (Ev.bin Ev.int (Ev.bin Ev.int (Ev.name rfl) (Op2.mul (imB (bl 2) (by decide)))) Op2.sub) (EvL.cons Ev.int EvL.nil))) (Nat.le_of_ble_eq_true rfl)) EvL.nil))) rfl (by decide) (by decide) (fun _ _ _ h => nomatch h) (Nat.le_of_ble_eq_true rfl) (fun _ => rfl) (by rintro ⟨_, _, _, _, _, _, _, _, _⟩ rfl; rfl)) ?_
  refine Ex.weak (Γ' := [("r", .int r), ("form", .int form), ("whole", iD [w0, w1]), ("c", .int c), ("e", .int e), ("line", iD [0 - r, 1]), ("second", iD [0 - r - d, 1]), ("square", iD [r * r + d, 0 - 2 * r, 1])]) (Wk.cons rfl (Wk.cons rfl (Wk.cons rfl (Wk.cons rfl (Wk.cons rfl (Wk.cons rfl (Wk.cons rfl (Wk.cons rfl Wk.nil)))))))) ?_
  obtain ⟨t, b, fg, g⟩ := H
  refine Ex.cons (Γ' := [("above", iD (lawIn r d form c e).above), ("below", iD (lawIn r d form c e).below), ("factors", .list ((lawIn r d form c e).fs.map ifD)), ("due", .list ((lawIn r d form c e).due.map idD)), ("whole", iD [w0, w1])]) (O' := none) ?_ ?_
  · by_cases h0 : form = 0
    · have ex : lawIn r d form c e = lawIn0 r d c (if e ≠ 0 then e else 4) := by unfold lawIn; rw [if_pos h0]
      rw [ex]
      have he' : (if e ≠ 0 then e else 4).natAbs < 100 := by split; exact Nat.lt_of_le_of_lt ke (by decide); decide
      refine Ex1.iff (c := true) (Tst.to (Tst.cmp (Ev.name rfl) Ev.int Cm2.eqI) (by rw [h0]; rfl)) ?_
      refine Ex.cons (Ex1.asg (d := .int (if e ≠ 0 then e else 4)) (Ev.ife (b := e != 0) (Tst.cmp (Ev.name rfl) Ev.int Cm2.neI) (if_of (fun h => by rw [if_pos (by simpa using h)]; exact (Ev.name rfl)) fun h => by rw [if_neg (by simpa using h)]; exact Ev.int)) rfl (fun _ _ _ h => nomatch h)) ?_
      generalize (if e ≠ 0 then e else 4) = e' at he' ⊢
      refine Ex.cons (Ex1.swap [(_, _), (_, _)] (ds := [iD (lawIn0 r d c e').above, iD (lawIn0 r d c e').below]) (EvL.cons (Ev.list (EvL.cons (Ev.bin (Ev.bin (Ev.name rfl) (Ev.item (Ev.name rfl) Ev.int (by decide) (by decide) rfl) (Op2.mul (imB kc (by decide)))) (Ev.bin (Ev.name rfl) (Ev.item (Ev.name rfl) Ev.int (by decide) (by decide) rfl) (Op2.mul (imL (Nat.lt_trans he' (by decide))))) Op2.add) (EvL.cons (Ev.bin (Ev.name rfl) (Ev.name rfl) Op2.add) EvL.nil)) (Nat.le_of_ble_eq_true rfl)) (EvL.cons (Ev.call W (fn_times W) rfl (ConF.con (con_times W (by simp) (by simp) (by simp) (by simp) (alc (sm_lb (bp (bs (bl 0) kr) (by decide))) (alc (sm_lb (by decide)) al0)) (alc (sm_lb (bp (bs (bs (bl 0) kr) kd) (by decide))) (alc (sm_lb (by decide)) al0)))) (EvL.cons (Ev.name rfl) (EvL.cons (Ev.name rfl) EvL.nil)) (by decide)) EvL.nil)) rfl (by decide) (by decide) (fun _ _ _ h => nomatch h) (Nat.le_of_ble_eq_true rfl) (fun _ => rfl) (by rintro ⟨_, _, _, _, _, _, _, _, _⟩ rfl; rfl)) ?_
      refine Ex.cons (Ex1.asg (d := .list ((lawIn0 r d c e').fs.map ifD)) (Ev.list (EvL.cons (Ev.tuple (EvL.cons (Ev.name rfl) (EvL.cons Ev.int EvL.nil)) (Nat.le_of_ble_eq_true rfl)) (EvL.cons (Ev.tuple (EvL.cons (Ev.name rfl) (EvL.cons Ev.int EvL.nil)) (Nat.le_of_ble_eq_true rfl)) EvL.nil)) (Nat.le_of_ble_eq_true rfl)) rfl (fun _ _ _ h => nomatch h)) ?_
      refine Ex.weakOut ?wk (Ex.cons (Ex1.asg (d := .list ((lawIn0 r d c e').due.map idD)) (Ev.list (EvL.cons (Ev.tuple (EvL.cons (Ev.name rfl) (EvL.cons Ev.int (EvL.cons (Ev.list (EvL.cons (Ev.bin Ev.int (Ev.name rfl) Op2.sub) EvL.nil) (Nat.le_of_ble_eq_true rfl)) EvL.nil))) (Nat.le_of_ble_eq_true rfl)) (EvL.cons (Ev.tuple (EvL.cons (Ev.name rfl) (EvL.cons Ev.int (EvL.cons (Ev.list (EvL.cons (Ev.bin Ev.int (Ev.name rfl) Op2.sub) EvL.nil) (Nat.le_of_ble_eq_true rfl)) EvL.nil))) (Nat.le_of_ble_eq_true rfl)) EvL.nil)) (Nat.le_of_ble_eq_true rfl)) rfl (fun _ _ _ h => nomatch h)) Ex.nil)
      exact Wk.cons rfl (Wk.cons rfl (Wk.cons rfl (Wk.cons rfl (Wk.cons rfl Wk.nil))))
    refine Ex1.iff (c := false) (Tst.to (Tst.cmp (Ev.name rfl) Ev.int Cm2.eqI) (by simpa using h0)) (Ex.cons ?_ Ex.nil)
    by_cases h1 : form = 1
    · have ex : lawIn r d form c e = lawIn1 r c e := by unfold lawIn; rw [if_neg h0, if_pos h1]
      rw [ex]
      refine Ex1.iff (c := true) (Tst.to (Tst.cmp (Ev.name rfl) Ev.int Cm2.eqI) (by rw [h1]; rfl)) ?_
      refine Ex.cons (Ex1.swap [(_, _), (_, _)] (ds := [iD (lawIn1 r c e).above, iD (lawIn1 r c e).below]) (EvL.cons (Ev.list (EvL.cons (Ev.bin (Ev.name rfl) (Ev.bin (Ev.name rfl) (Ev.name rfl) (Op2.mul (imB ke (by decide)))) Op2.sub) (EvL.cons (Ev.name rfl) EvL.nil)) (Nat.le_of_ble_eq_true rfl)) (EvL.cons (Ev.call W (fn_times W) rfl (ConF.con (con_times W (by simp) (by simp) (by simp) (by simp) (alc (sm_lb (bp (bs (bl 0) kr) (by decide))) (alc (sm_lb (by decide)) al0)) (alc (sm_lb (bp (bs (bl 0) kr) (by decide))) (alc (sm_lb (by decide)) al0)))) (EvL.cons (Ev.name rfl) (EvL.cons (Ev.name rfl) EvL.nil)) (by decide)) EvL.nil)) rfl (by decide) (by decide) (fun _ _ _ h => nomatch h) (Nat.le_of_ble_eq_true rfl) (fun _ => rfl) (by rintro ⟨_, _, _, _, _, _, _, _, _⟩ rfl; rfl)) ?_
      refine Ex.cons (Ex1.asg (d := .list ((lawIn1 r c e).fs.map ifD)) (Ev.list (EvL.cons (Ev.tuple (EvL.cons (Ev.name rfl) (EvL.cons Ev.int EvL.nil)) (Nat.le_of_ble_eq_true rfl)) EvL.nil) (Nat.le_of_ble_eq_true rfl)) rfl (fun _ _ _ h => nomatch h)) ?_
      refine Ex.weakOut ?wk1 (Ex.cons (Ex1.asg (d := .list ((lawIn1 r c e).due.map idD)) (Ev.list (EvL.cons (Ev.tuple (EvL.cons (Ev.name rfl) (EvL.cons Ev.int (EvL.cons (Ev.list (EvL.cons (Ev.bin (Ev.neg Ev.int) (Ev.name rfl) (Op2.mul (imB (bn (bl 2)) (by decide)))) EvL.nil) (Nat.le_of_ble_eq_true rfl)) EvL.nil))) (Nat.le_of_ble_eq_true rfl)) (EvL.cons (Ev.tuple (EvL.cons (Ev.name rfl) (EvL.cons Ev.int (EvL.cons (Ev.list (EvL.cons (Ev.bin Ev.int (Ev.name rfl) Op2.sub) EvL.nil) (Nat.le_of_ble_eq_true rfl)) EvL.nil))) (Nat.le_of_ble_eq_true rfl)) EvL.nil)) (Nat.le_of_ble_eq_true rfl)) rfl (fun _ _ _ h => nomatch h)) Ex.nil)
      exact Wk.cons rfl (Wk.cons rfl (Wk.cons rfl (Wk.cons rfl (Wk.cons rfl Wk.nil))))
    · have ex : lawIn r d form c e = lawIn2 r d c e := by unfold lawIn; rw [if_neg h0, if_neg h1]
      rw [ex]
      refine Ex1.iff (c := false) (Tst.to (Tst.cmp (Ev.name rfl) Ev.int Cm2.eqI) (by simpa using h1)) ?_
      refine Ex.cons (Ex1.swap [(_, _), (_, _)] (ds := [iD (lawIn2 r d c e).above, iD (lawIn2 r d c e).below]) (EvL.cons (Ev.list (EvL.cons (Ev.name rfl) (EvL.cons (Ev.name rfl) EvL.nil)) (Nat.le_of_ble_eq_true rfl)) (EvL.cons (Ev.name rfl) EvL.nil)) rfl (by decide) (by decide) (fun _ _ _ h => nomatch h) (Nat.le_of_ble_eq_true rfl) (fun _ => rfl) (by rintro ⟨_, _, _, _, _, _, _, _, _⟩ rfl; rfl)) ?_
      refine Ex.cons (Ex1.asg (d := .list ((lawIn2 r d c e).fs.map ifD)) (Ev.list (EvL.cons (Ev.tuple (EvL.cons (Ev.name rfl) (EvL.cons Ev.int EvL.nil)) (Nat.le_of_ble_eq_true rfl)) EvL.nil) (Nat.le_of_ble_eq_true rfl)) rfl (fun _ _ _ h => nomatch h)) ?_
      refine Ex.weakOut ?wk2 (Ex.cons (Ex1.asg (d := .list ((lawIn2 r d c e).due.map idD)) (Ev.list (EvL.cons (Ev.tuple (EvL.cons (Ev.name rfl) (EvL.cons Ev.int (EvL.cons (Ev.list (EvL.cons (Ev.bin (Ev.bin (Ev.bin Ev.int (Ev.name rfl) (Op2.mul (imB (bl 2) (by decide)))) (Ev.item (Ev.name rfl) Ev.int (by decide) (by decide) rfl) (Op2.mul (imB (nm (bl 2) ke) (by decide)))) (Ev.bin (Ev.name rfl) (Ev.item (Ev.name rfl) Ev.int (by decide) (by decide) rfl) (Op2.mul (imB kc (by decide)))) Op2.sub) (EvL.cons (Ev.bin (Ev.bin (Ev.name rfl) (Ev.item (Ev.name rfl) Ev.int (by decide) (by decide) rfl) (Op2.mul (imB ke (by decide)))) (Ev.bin Ev.int (Ev.name rfl) (Op2.mul (imB (bl 2) (by decide)))) Op2.sub) EvL.nil)) (Nat.le_of_ble_eq_true rfl)) EvL.nil))) (Nat.le_of_ble_eq_true rfl)) (EvL.cons (Ev.tuple (EvL.cons (Ev.name rfl) (EvL.cons Ev.int (EvL.cons (Ev.list (EvL.cons (Ev.bin Ev.int (Ev.name rfl) Op2.sub) EvL.nil) (Nat.le_of_ble_eq_true rfl)) EvL.nil))) (Nat.le_of_ble_eq_true rfl)) EvL.nil)) (Nat.le_of_ble_eq_true rfl)) rfl (fun _ _ _ h => nomatch h)) Ex.nil)
      exact Wk.cons rfl (Wk.cons rfl (Wk.cons rfl (Wk.cons rfl (Wk.cons rfl Wk.nil))))
  generalize lawIn r d form c e = x at *
  have l1 : 1 ≤ x.below.length := List.length_pos_iff.mpr g.lb
  have l2 := g.lb'
  have l3 := g.la
  refine Ex.cons (Ex1.asgO (EvO.call W (fn_times W) rfl (con_times W (a := [w0, w1]) (b := x.below) (by simp) (by lia) (by simp) g.lb (by intro x hx; simp only [List.mem_cons, List.not_mem_nil, or_false] at hx; rcases hx with rfl | rfl; exact g.sw.1; exact g.sw.2) g.sb) (EvL.cons (Ev.name rfl) (EvL.cons (Ev.name rfl) EvL.nil)) (by decide)) rfl rfl) ?_
  obtain ⟨z, hz⟩ : ∃ z, z = itimes [w0, w1] x.below := ⟨_, rfl⟩
  have zl : z.length = x.below.length + 1 := by rw [hz]; unfold itimes; rw [len_imulAt, List.length_replicate]; simp; lia
  have et : topI w0 w1 x = iaddAll z 0 x.above := by rw [hz]; rfl
  have tl : (topI w0 w1 x).length = x.below.length + 1 := by rw [et, len_iaddAll, zl]
  rw [← hz]
  refine Ex.cons (Γ' := [("above", iD x.above), ("below", iD x.below), ("factors", .list (x.fs.map ifD)), ("due", .list (x.due.map idD)), ("whole", iD [w0, w1])]) (O' := some ("top", false, (topI w0 w1 x).map .int)) ?_ (Ex.freeze ?_)
  · rw [et]
    refine Ex1.forE (fun i => ([("above", iD x.above), ("below", iD x.below), ("factors", .list (x.fs.map ifD)), ("due", .list (x.due.map idD)), ("whole", iD [w0, w1])], some ("top", false, (iaddAll z 0 (x.above.take i)).map .int)))
      (Src.enum (xs := x.above.map .int) W (by decide) rfl rfl (Ev.name rfl) (by decide)) Wk.refl rfl (by decide) (fun _ _ => rfl) (fun i hi y c ds e => by cases e; decide) (fun i hi => ?_) rfl (by rw [List.length_map, List.take_length])
    rw [List.length_map] at hi
    have hl : (iaddAll z 0 (x.above.take i)).length = x.below.length + 1 := by rw [len_iaddAll, zl]
    have e : (iaddAll z 0 (x.above.take (i + 1))).map PyData.int = ((iaddAll z 0 (x.above.take i)).map PyData.int).set (i : Int).toNat (.int ((iaddAll z 0 (x.above.take i)).getD i 0 + x.above.getD i 0)) := by
      rw [iaddAll_take _ _ _ _ hi, iaddAt, List.map_set, Int.toNat_natCast, Nat.zero_add]
    rw [e]
    refine Ex.weakOut (Γ₁ := [("at", .int i), ("number", (x.above.map .int).getD i .none), ("above", iD x.above), ("below", iD x.below), ("factors", .list (x.fs.map ifD)), ("due", .list (x.due.map idD)), ("whole", iD [w0, w1])]) (Wk.cons rfl (Wk.cons rfl (Wk.cons rfl (Wk.cons rfl (Wk.cons rfl Wk.nil))))) (Ex.cons (Ex1.put ?_ (Ev.name rfl) (by lia) (by rw [List.length_map, hl]; lia) (by rw [List.length_map, hl]; lia)) Ex.nil)
    exact (Ev.bin (Ev.itemO (Ev.name rfl) (by lia) (by lia) (by rw [Int.toNat_natCast]; exact iD_get (by rw [hl]; lia))) (Ev.to (Ev.name rfl) (iD_getD hi)) Op2.add)
  refine Ex.cons (Ex1.asg (d := .tuple [pD t, pD b]) (Ev.call W (fn_fderive W) rfl (con_fderive W g.fd) (EvL.cons (Ev.tuple (EvL.cons (Ev.call W (fn_ratios W) rfl (con_ratios W (r := topI w0 w1 x) (by lia)) (EvL.cons (Ev.name rfl) EvL.nil) (by decide)) (EvL.cons (Ev.call W (fn_ratios W) rfl (con_ratios W (by lia)) (EvL.cons (Ev.name rfl) EvL.nil) (by decide)) EvL.nil)) (Nat.le_of_ble_eq_true rfl)) EvL.nil) (by decide)) rfl (fun _ _ _ h => nomatch h)) ?_
  refine Ex.weak (Γ' := [("slope", .tuple [pD t, pD b]), ("factors", .list (x.fs.map ifD)), ("due", .list (x.due.map idD)), ("whole", iD [w0, w1])]) (Wk.cons rfl (Wk.cons rfl (Wk.cons rfl (Wk.cons rfl Wk.nil)))) ?_
  have nf := g.nf
  have ndl := g.nd
  refine Ex.cons (Ex1.asg (d := .tuple [pD (pdiv t b), .list (fg.map fgD)]) (Ev.call W (fn_partial W) rfl (con_partial W g.dv g.pr (by rw [List.length_map]; lia) g.lf) (EvL.cons (Ev.name rfl) (EvL.cons (Ev.to (EvF.ev (EvF.comp [] (fun _ => true) (fun i => facD (lr (x.fs.getD i ([], 0)).1, (x.fs.getD i ([], 0)).2)) (Src.tuples (xs := x.fs.map ifD) (ds := fun i => [iD (x.fs.getD i ([], 0)).1, .int (x.fs.getD i ([], 0)).2]) [(_, _), (_, _)] (Ev.name rfl) (fun i hi => ⟨get_map ([], 0) (by simpa using hi), rfl⟩) (by decide)) rfl (by decide) (by decide) (by decide) (free_of rfl) Cap.nil ?hT ?hE ?hN)) (comp_eqG (by simp) fun i hi => ?hQ)) EvL.nil)) (by decide)) rfl (fun _ _ _ h => nomatch h)) ?_
  case hT => exact fun _ _ => TstL.nil
  case hN => rw [List.length_map]; unfold sizeLine; lia
  case hQ =>
    rw [List.length_map] at hi
    rw [List.map_map, getD_map ([], 0) hi]; rfl
  case hE =>
    intro i hi _
    rw [List.length_map] at hi
    have := g.nf' (x.fs.getD i ([], 0)) (by rw [List.getD_eq_getElem?_getD, List.getElem?_eq_getElem hi]; exact List.getElem_mem hi)
    exact (Ev.tuple (EvL.cons (Ev.call W (fn_ratios W) rfl (con_ratios W (by lia)) (EvL.cons (Ev.name rfl) EvL.nil) (by decide)) (EvL.cons (Ev.name rfl) EvL.nil)) (Nat.le_of_ble_eq_true rfl))
  refine Ex.weak (Γ' := [("told", .tuple [pD (pdiv t b), .list (fg.map fgD)]), ("due", .list (x.due.map idD)), ("whole", iD [w0, w1])]) (Wk.cons rfl (Wk.cons rfl (Wk.cons rfl Wk.nil))) ?_
  refine Ex.cons (Ex1.asgComp [] (fun _ => true) (fun i => fgD (lr (x.due.getD i ([], 0, [])).1, ((x.due.getD i ([], 0, [])).2.1 : Int), lr (x.due.getD i ([], 0, [])).2.2)) (Src.tuples (xs := x.due.map idD) (ds := fun i => [iD (x.due.getD i ([], 0, [])).1, .int (x.due.getD i ([], 0, [])).2.1, iD (x.due.getD i ([], 0, [])).2.2]) [(_, _), (_, _), (_, _)] (Ev.name rfl) (fun i hi => ⟨get_map ([], 0, []) (by simpa using hi), rfl⟩) (by decide)) rfl (by decide) (by decide) (by decide) (free_of rfl) Cap.nil (fun _ _ => TstL.nil) (fun i hi _ => ?_) (by rw [List.length_map]; unfold sizeLine; lia) rfl (by rintro ⟨_, _, _, _, _, _, _, _, _⟩ rfl; rfl)) ?_
  · rw [List.length_map] at hi
    have := g.nd' (x.due.getD i ([], 0, [])) (by rw [List.getD_eq_getElem?_getD, List.getElem?_eq_getElem hi]; exact List.getElem_mem hi)
    exact (Ev.tuple (EvL.cons (Ev.call W (fn_ratios W) rfl (con_ratios W (by lia)) (EvL.cons (Ev.name rfl) EvL.nil) (by decide)) (EvL.cons (Ev.name rfl) (EvL.cons (Ev.call W (fn_ratios W) rfl (con_ratios W (by lia)) (EvL.cons (Ev.name rfl) EvL.nil) (by decide)) EvL.nil))) (Nat.le_of_ble_eq_true rfl))
  have ed : PyData.list (((List.range (x.due.map idD).length).filter fun _ => true).map (fun i => fgD (lr (x.due.getD i ([], 0, [])).1, ((x.due.getD i ([], 0, [])).2.1 : Int), lr (x.due.getD i ([], 0, [])).2.2))) = .list ((dueQ x).map fgD) := comp_eqG (by simp [dueQ]) fun i hi => by
    rw [List.length_map] at hi
    unfold dueQ
    rw [List.map_map, getD_map ([], 0, []) hi]; rfl
  rw [ed]
  refine Ex.weak (Γ' := [("due", .list ((dueQ x).map fgD)), ("told", .tuple [pD (pdiv t b), .list (fg.map fgD)]), ("whole", iD [w0, w1])]) (Wk.cons rfl (Wk.cons rfl (Wk.cons rfl Wk.nil))) ?_
  have ql : (dueQ x).length = x.due.length := by simp [dueQ]
  have sh := sh_told (pdiv t b) fg
  have ea := g.an
  have ef := g.af
  generalize dueQ x = Q at *
  have fin : PyData.tuple [pD (pdiv t b), .list (fg.map fgD)] = .tuple [pD (lr [w1]), .list (((List.range (Q.map fgD).length).filter fun i => decide ((Q.getD i ([], 0, [])).2.2 ≠ [])).map fun i => fgD (Q.getD i ([], 0, [])))] := by
    rw [ea, ef, ← range_filter Q ([], 0, []), List.length_map, List.map_map]; rfl
  refine Ex.ret (Ex1.ret (Ev.to (Ev.cmp (Ev.name rfl) (Ev.to (Ev.tuple (ds := [pD (lr [w1]), .list (((List.range (Q.map fgD).length).filter fun i => decide ((Q.getD i ([], 0, [])).2.2 ≠ [])).map fun i => fgD (Q.getD i ([], 0, [])))]) (EvL.cons ?_ (EvL.cons ?_ EvL.nil)) (Nat.le_of_ble_eq_true rfl)) fin.symm) (Cm2.eqD sh.shaped sh.shaped)) (congrArg PyData.bool (SeqAt.eqv_refl _ sh.lay))))
  · exact (Ev.call W (fn_ratios W) rfl (con_ratios W (by simp)) (EvL.cons (Ev.to (Ev.slice (xs := [.int w0, .int w1]) (i := some 1) (j := none) (a := min 1 2) (b := 2) (Ev.name rfl) Ev.int trivial sb_tail (Nat.le_of_ble_eq_true rfl)) rfl) EvL.nil) (by decide))
  · refine EvF.ev (EvF.comp [] (fun i => decide ((Q.getD i ([], 0, [])).2.2 ≠ [])) (fun i => fgD (Q.getD i ([], 0, []))) (Src.list (xs := Q.map fgD) (Ev.name rfl)) rfl (by decide) (by decide) (by decide) (free_of rfl) Cap.nil (fun i hi => TstL.one ?_) (fun i hi _ => ?_) (by rw [List.length_map]; unfold sizeLine; lia))
    · rw [List.length_map] at hi
      have e := getD_map (g := fgD) ([], 0, []) hi
      refine Tst.to (Tst.cmp (Ev.itemT (xs := [pD (Q.getD i ([], 0, [])).1, .int (Q.getD i ([], 0, [])).2.1, pD (Q.getD i ([], 0, [])).2.2]) (Ev.to (Ev.name rfl) e) Ev.int (by decide) (by decide) rfl) (Ev.list EvL.nil (Nat.le_of_ble_eq_true rfl)) (Cm2.neD (sh_pD _).shaped sh_nil.shaped)) ?_
      rw [eqv_nil]; simp
    · rw [List.length_map] at hi
      exact Ev.to (Ev.name rfl) (getD_map (g := fgD) ([], 0, []) hi)
end
end Mine

/-! part L1 -/
namespace Mine
/-! rows of whole numbers -/
theorem pow_le_two {a b : Nat} (h : a ≤ b) : 2 ^ a ≤ 2 ^ b := Nat.pow_le_pow_right (by decide) h
theorem lt_pow_le {n a b : Nat} (h : n < 2 ^ a) (e : a ≤ b) : n < 2 ^ b := Nat.lt_of_lt_of_le h (pow_le_two e)
theorem ic_eq_zero {i : Int} : ((i : Int) : Rat) = 0 ↔ i = 0 := by
  constructor
  · intro h
    have := congrArg Rat.num h
    rwa [Rat.num_intCast] at this
  · rintro rfl; rfl
theorem lr_eq (r : List Int) : lr r = trim (rats r) := by
  induction r with
  | nil => rfl
  | cons q r ih =>
    show rats (itrim (q :: r)) = trim ((q : Rat) :: rats r)
    unfold trim
    rw [← ih]
    unfold itrim lr
    cases h : itrim r with
    | nil =>
      simp only [rats, List.map_nil]
      by_cases hq : q = 0
      · rw [if_pos hq, if_pos (ic_eq_zero.mpr hq)]; rfl
      · rw [if_neg hq, if_neg (fun e => hq (ic_eq_zero.mp e))]; rfl
    | cons t u => rfl
theorem tr_lr (r : List Int) : Tr (lr r) := by rw [lr_eq]; exact .trim _
theorem ev_lr (r : List Int) (x : Rat) : ev (lr r) x = ev (rats r) x := by rw [lr_eq, ev_trim]
theorem dv_lr (r : List Int) (x : Rat) : dv (lr r) x = dv (rats r) x := by rw [lr_eq, dv_trim]
theorem len_lr (r : List Int) : (lr r).length ≤ r.length := by
  rw [lr_eq]
  have := len_trim (rats r)
  simpa [rats] using this
theorem cm_rats {R : Nat} {r : List Int} (h : ∀ v ∈ r, v.natAbs < 2 ^ R) : CM 1 R (rats r) := .ints fun q hq => by
  obtain ⟨i, hi, rfl⟩ := List.mem_map.mp hq
  exact ⟨i, h i hi, rfl⟩
theorem cm_lr {R : Nat} {r : List Int} (h : ∀ v ∈ r, v.natAbs < 2 ^ R) : CM 1 R (lr r) := by
  rw [lr_eq]; exact (cm_rats h).trim
/-- a row that needs no trimming -/
theorem lr_full (r : List Int) (i : Int) (hi : i ≠ 0) : lr (r ++ [i]) = rats (r ++ [i]) := by
  rw [lr, itrim_snoc, if_neg hi]
theorem CM.BL1 {R : Nat} {p : Pl} (h : CM 1 R p) (hR : R ≤ LB) (h1 : 1 ≤ R := by decide) : Mine.BL LB p := h.BL (by decide) (lt_pow_le (a := 1) (by decide) (by decide)) hR
/-! sizes for rows of whole numbers -/
theorem divOk_int {a b : Pl} (ha : CM 1 100 a) (hb : CM 1 60 b) (hn : b ≠ []) (hl : last b ≠ 0) (la : a.length ≤ 10) (lb : b.length ≤ 10) : DivOk a b :=
  (div_sz (d := 1) (ε := 1) 10 1000 hn hl ha (by decide) (by decide) hb (by decide) (by decide) (by have := len_pos hn; lia) (by decide) (by decide) (by decide) (by decide) (by lia) (by lia)).1
theorem mulOk_int {a b : Pl} (ha : CM 1 100 a) (hb : CM 1 100 b) (la : a.length ≤ 10) (lb : b.length ≤ 10) : MulOk a b := by
  refine ⟨⟨1, 1, 100, 100, 1, 1, ha, hb, by decide, by decide, by decide, by decide, ?_, by decide⟩, by lia, by lia⟩
  have : a.length * b.length ≤ 10 * 10 := Nat.mul_le_mul la lb
  show 100 + 100 + a.length * b.length ≤ 4400
  lia
theorem CM.bl {m R D : Nat} {p : Pl} (h : CM m R p) (hm : 0 < m) (hD : m < 2 ^ D) (h1 : R ≤ LB) (h2 : D ≤ LB) : Mine.BL LB p := h.BL hm (lt_pow_le hD h2) h1
/-- the monic row's bottom is the old lead -/
theorem CM.monic {m R : Nat} {p : Pl} (h : CM m R p) (hm : 0 < m) (ht : Tr p) (hR : 1 ≤ R) : ∃ l, 0 < l ∧ l < 2 ^ R ∧ CM l R (monic p) := by
  by_cases hp : p = []
  · subst hp
    exact ⟨1, by decide, lt_pow_le (a := 1) (by decide) hR, .nil⟩
  · obtain ⟨T, hT, eT⟩ := h.last hp
    have hl := ht hp
    have m0 : (m : Rat) ≠ 0 := by
      have := natCast_sub_ne hm
      intro q; apply this; rw [q]; grind
    have T0 : T ≠ 0 := by
      rintro rfl
      have : Mine.last p * (m : Rat) = 0 := by rw [eT]; rfl
      grind
    have hσ : ((T.natAbs : Nat) : Rat) = (T.sign : Rat) * (T : Rat) := by
      have h1 := sign_abs T
      have h2 : (((T.natAbs : Nat) : Int) : Rat) = ((T.natAbs : Nat) : Rat) := by exact_mod_cast rfl
      rw [← h2, h1, Rat.intCast_mul]
    have s1 : T.sign.natAbs = 1 := Int.natAbs_sign_of_ne_zero T0
    refine ⟨T.natAbs, by lia, hT, ?_⟩
    unfold Mine.monic
    rw [if_neg hp]
    unfold Mine.pscale
    split
    · exact .nil
    · intro q hq
      obtain ⟨x, hx, rfl⟩ := List.mem_map.mp hq
      obtain ⟨j, hj, f⟩ := h x hx
      refine ⟨j * T.sign, ?_, ?_⟩
      · rw [Int.natAbs_mul, s1, Nat.mul_one]; exact hj
      · rw [hσ, Rat.intCast_mul, ← f, ← eT]; grind
/-- one turn of the common divisor's loop -/
theorem gcd_step {a b : Pl} {m r e β : Nat} (K : Nat) (ta : Tr a) (tb : Tr b) (ha : CM m r a) (hm : 0 < m) (hm' : m < 2 ^ r) (hb : CM e β b) (he : 0 < e) (he' : e < 2 ^ β) (la : a.length ≤ 10) (lb : b.length ≤ 10) (hK : b ≠ [] → a.length + 1 - b.length ≤ K)
    (z : r + K * (β + 1) + β + β ≤ LB) (h1 : 1 ≤ r)
    (next : ∀ b', Tr b' → (∃ l, 0 < l ∧ l < 2 ^ (r + K * (β + 1)) ∧ CM l (r + K * (β + 1)) b') → b'.length + 1 ≤ b.length → ∃ g, GcdR b b' g) : ∃ g, GcdR a b g := by
  by_cases hn : b = []
  · subst hn
    exact ⟨_, .done (ha.bl hm hm' (by lia) (by lia)) ta (by lia)⟩
  · have kb : K * (β + 1) = K * β + K := by rw [Nat.mul_add, Nat.mul_one]
    obtain ⟨d, _, m', m0, m1, c⟩ := div_sz K LB hn (tb hn) ha hm hm' hb he he' (hK hn) (by lia) (by lia) (Nat.le_refl _) (by decide) (by lia) (by lia)
    have tm : Tr (pmod a b) := ta.pmod
    have ll := len_pmod (a := a) hn
    obtain ⟨g, hg⟩ := next (monic (pmod a b)) tm.monic (c.monic m0 tm (by lia)) (by rw [len_monic tm]; lia)
    exact ⟨g, .step hn d tm (c.bl m0 m1 (by lia) (by lia)) hg⟩
theorem gcd_ex {a b : Pl} {e : Nat} (ta : Tr a) (tb : Tr b) (ha : CM 1 16 a) (hb : CM e 16 b) (he : 0 < e) (he' : e < 2 ^ 16) (la : a.length ≤ 5) (lb : b.length ≤ 3) : ∃ g, GcdR a b g := by
  refine gcd_step 5 ta tb ha (by decide) (by decide) hb he he' (by lia) (by lia) (fun h => by have := len_pos h; lia) (by decide) (by decide) fun b₁ t₁ ⟨l₁, p₁, q₁, c₁⟩ n₁ => ?_
  refine gcd_step 3 tb t₁ hb he he' c₁ p₁ q₁ (by lia) (by lia) (fun h => by have := len_pos h; lia) (by decide) (by decide) fun b₂ t₂ ⟨l₂, p₂, q₂, c₂⟩ n₂ => ?_
  refine gcd_step 2 t₁ t₂ c₁ p₁ q₁ c₂ p₂ q₂ (by lia) (by lia) (fun h => by have := len_pos h; lia) (by decide) (by decide) fun b₃ t₃ ⟨l₃, p₃, q₃, c₃⟩ n₃ => ?_
  exact gcd_step 0 t₂ t₃ c₂ p₂ q₂ c₃ p₃ q₃ (by lia) (by lia) (fun h => by have := len_pos h; lia) (by decide) (by decide) fun b₄ t₄ h₄ n₄ => by lia
end Mine

/-! part L2 -/
namespace Mine
/-- the sizes of a cofactor -/
structure CF (S l : Nat) (p : Pl) : Prop where
  cm : ∃ f, 0 < f ∧ f < 2 ^ S ∧ CM f S p
  len : p.length ≤ l
theorem CF.le {S S' l l' : Nat} {p : Pl} (h : CF S l p) (e : S ≤ S') (e' : l ≤ l') : CF S' l' p := by
  obtain ⟨⟨f, a, b, c⟩, d⟩ := h
  exact ⟨⟨f, a, lt_pow_le b e, c.le e⟩, by lia⟩
theorem CF.bl {S l : Nat} {p : Pl} (h : CF S l p) (e : S ≤ LB) : BL LB p := by
  obtain ⟨⟨f, a, b, c⟩, d⟩ := h
  exact c.bl a b e e
theorem cf_one : CF 1 1 [1] := ⟨⟨1, by decide, by decide, .one⟩, by decide⟩
theorem cf_nil : CF 1 1 [] := ⟨⟨1, by decide, by decide, .nil⟩, by decide⟩
theorem cf_next {q s t : Pl} {Q K S S' l l' : Nat} (hq : BL Q q) (hk : q.length ≤ K) (hs : CF S' l' s) (ht : CF S l t) (hl : l ≤ 100) (hl' : l' ≤ 100) (hK : K ≤ 100) (z : (K + 1) * Q + S + S' + K * l + 3 ≤ LB) :
    MulOk q t ∧ AddOk s (pmul q t) ∧ CF ((K + 1) * Q + S + S' + K * l + 3) (max l' (K + l)) (psub s (pmul q t)) := by
  obtain ⟨m, m0, m1, cq⟩ := CM.of_BL hq
  obtain ⟨⟨f, f0, f1, ct⟩, lt⟩ := ht
  obtain ⟨⟨f', f0', f1', cs⟩, ls⟩ := hs
  have e1 : q.length * Q ≤ K * Q := Nat.mul_le_mul_right _ hk
  have e2 : q.length * t.length ≤ K * l := Nat.mul_le_mul hk lt
  have e3 : (K + 1) * Q = K * Q + Q := by rw [Nat.add_mul, Nat.one_mul]
  have m1' : m < 2 ^ (K * Q + 1) := lt_pow_le m1 (by lia)
  have cp := cq.pmul ct
  have hmf : m * f < 2 ^ (K * Q + 1 + S) := mul_lt_pow m1' f1
  have lp : (pmul q t).length ≤ K + l := by
    by_cases h : q = [] ∨ t = []
    · unfold pmul; rw [if_pos h]; simp
    · rw [len_pmul (fun e => h (.inl e)) (fun e => h (.inr e))]; lia
  refine ⟨⟨⟨m, f, _, _, _, _, cq, ct, m0, f0, m1', f1, ?_, ?_⟩, by lia, by lia⟩, ⟨cs.bl f0' f1' (by lia) (by lia), cp.bl (Nat.mul_pos m0 f0) hmf (by lia) (by lia), by lia, by lia⟩, ⟨⟨f' * (m * f), Nat.mul_pos f0' (Nat.mul_pos m0 f0), ?_, ?_⟩, ?_⟩⟩
  · lia
  · lia
  · exact lt_pow_le (mul_lt_pow f1' hmf) (by lia)
  · have a1 := cs.up hmf
    have a2 := (cp.up f1').comm
    exact ((a1.le (S := (K + 1) * Q + S + S' + K * l + 2) (by lia)).psub (a2.le (by lia))).le (by lia)
  · have := len_psub s (pmul q t)
    lia
theorem ext_step {A B s1 s2 t1 t2 : Pl} {m e : Nat} (P : T3 → Prop) (K Q S' S l' l r d β ε : Nat) (tA : Tr A) (tB : Tr B) (hA : CM m r A) (m0 : 0 < m) (m1 : m < 2 ^ d) (hB : CM e β B) (e0 : 0 < e) (e1 : e < 2 ^ ε) (la : A.length ≤ 10) (lb : B.length ≤ 10)
    (hK : B ≠ [] → A.length + 1 - B.length ≤ K) (z₁ : r + K * (β + 1) + ε + β ≤ Q) (z₂ : d + K * β + β + ε ≤ Q) (hQ : 1 ≤ Q) (hs1 : CF S' l' s1) (hs2 : CF S' l' s2) (ht1 : CF S l t1) (ht2 : CF S l t2) (hl : l ≤ 100) (hl' : l' ≤ 100) (hK' : K ≤ 100) (zz : (K + 1) * Q + S + S' + K * l + 3 ≤ LB)
    (done : P (A, s1, s2))
    (next : ∀ C u1 u2, Tr C → (∃ m, 0 < m ∧ m < 2 ^ (d + K * β) ∧ CM m (r + K * (β + 1)) C) → CF ((K + 1) * Q + S + S' + K * l + 3) (max l' (K + l)) u1 → CF ((K + 1) * Q + S + S' + K * l + 3) (max l' (K + l)) u2 → C.length + 1 ≤ B.length → ∃ res, ExtR (B, t1, t2) (C, u1, u2) res ∧ P res) :
    ∃ res, ExtR (A, s1, s2) (B, t1, t2) res ∧ P res := by
  by_cases hn : B = []
  · subst hn
    exact ⟨_, .done, done⟩
  · have e3 : (K + 1) * Q = K * Q + Q := by rw [Nat.add_mul, Nat.one_mul]
    obtain ⟨dv, bq, c⟩ := div_sz K Q hn (tB hn) hA m0 m1 hB e0 e1 (hK hn) z₁ z₂ (by lia) hQ (by lia) (by lia)
    have lq := len_pdiv A B
    have lm := len_pmod (a := A) hn
    have hk := hK hn
    obtain ⟨a1, a2, a3⟩ := cf_next bq (K := K) (by lia) hs1 ht1 hl hl' hK' zz
    obtain ⟨b1, b2, b3⟩ := cf_next bq (K := K) (by lia) hs2 ht2 hl hl' hK' zz
    obtain ⟨res, hr, hp⟩ := next (pmod A B) _ _ tA.pmod c a3 b3 (by lia)
    exact ⟨res, .step hn dv a1 b1 a2 b2 hr, hp⟩
def ExtSz (res : T3) : Prop := (∃ m, 0 < m ∧ m < 2 ^ 100 ∧ CM m 100 res.1) ∧ res.1.length ≤ 10 ∧ CF 1700 10 res.2.1 ∧ CF 1700 10 res.2.2
theorem ext_ex {a b : Pl} (ta : Tr a) (tb : Tr b) (ha : CM 1 10 a) (hb : CM 1 10 b) (la : a.length ≤ 3) (lb : b.length = 3) : ∃ res, ExtR (a, [1], []) (b, [], [1]) res ∧ ExtSz res := by
  refine ext_step ExtSz 1 32 1 1 1 1 10 1 10 1 ta tb ha (by decide) (by decide) hb (by decide) (by decide) (by lia) (by lia) (fun _ => by lia) (by decide) (by decide) (by decide) cf_one cf_nil cf_nil cf_one (by decide) (by decide) (by decide) (by decide)
    ⟨⟨1, by decide, by decide, ha.le (by decide)⟩, by simp only; lia, cf_one.le (by decide) (by decide), cf_nil.le (by decide) (by decide)⟩ fun C u1 u2 tC ⟨m, m0, m1, hC⟩ c1 c2 lC => ?_
  refine ext_step ExtSz 3 108 1 70 1 2 10 1 21 11 tb tC hb (by decide) (by decide) hC m0 m1 (by lia) (by lia) (fun h => by have := len_pos h; lia) (by decide) (by decide) (by decide) cf_nil cf_one (c1.le (by decide) (by decide)) (c2.le (by decide) (by decide)) (by decide) (by decide) (by decide) (by decide)
    ⟨⟨1, by decide, by decide, hb.le (by decide)⟩, by simp only; lia, cf_nil.le (by decide) (by decide), cf_one.le (by decide) (by decide)⟩ fun D v1 v2 tD ⟨n, n0, n1, hD⟩ d1 d2 lD => ?_
  refine ext_step ExtSz 2 315 70 520 2 5 21 11 76 64 tC tD hC m0 m1 hD n0 n1 (by lia) (by lia) (fun h => by have := len_pos h; lia) (by decide) (by decide) (by decide) (c1.le (by decide) (by decide)) (c2.le (by decide) (by decide)) (d1.le (by decide) (by decide)) (d2.le (by decide) (by decide)) (by decide) (by decide) (by decide) (by decide)
    ⟨⟨m, m0, lt_pow_le m1 (by decide), hC.le (by decide)⟩, by simp only; lia, c1.le (by decide) (by decide), c2.le (by decide) (by decide)⟩ fun E w1 w2 tE hE e1 e2 lE => ?_
  have : E = [] := List.length_eq_zero_iff.mp (by lia)
  subst this
  exact ⟨_, .done, ⟨n, n0, lt_pow_le n1 (by decide), hD.le (by decide)⟩, by simp only; lia, d1.le (by decide) (by decide), d2.le (by decide) (by decide)⟩
end Mine

/-! part L3 -/
namespace Mine
theorem CM.pmul1 {A B : Nat} {a b : Pl} (ha : CM 1 A a) (hb : CM 1 B b) : CM 1 (A + B + a.length * b.length) (Mine.pmul a b) := ha.pmul hb
theorem CM.derL1 {A k : Nat} {p : Pl} (h : CM 1 A p) (hk : k + p.length ≤ 1000) : CM 1 (A + 10) (derL k p) := by
  induction p generalizing k with
  | nil => exact .nil
  | cons a p ih =>
    simp only [List.length_cons] at hk
    obtain ⟨i, hi, e⟩ := h.head
    refine .cons (i := i * (k : Int)) ?_ ?_ (ih h.tail (by lia))
    · rw [Int.natAbs_mul, Int.natAbs_natCast]; exact mul_lt_pow hi (by lia)
    · rw [Rat.intCast_mul, ← e]; grind
theorem CM.pder1 {A : Nat} {p : Pl} (h : CM 1 A p) (hk : p.length ≤ 1000) : CM 1 (A + 10) (pder p) :=
  fun q m => h.derL1 (k := 0) (by lia) q (List.mem_of_mem_drop m)
theorem pscale_one (p : Pl) : pscale p 1 = p := by
  unfold pscale
  rw [if_neg (by decide)]
  have : (fun x : Rat => x * 1) = id := by funext x; show x * 1 = x; grind
  rw [this, List.map_id]
theorem rats_cons (i : Int) (r : List Int) : rats (i :: r) = (i : Rat) :: rats r := rfl
theorem rats_nil : rats [] = [] := rfl
theorem last_rats1 (i : Int) : last (rats [i]) = (i : Rat) := rfl
theorem cast_one : ((1 : Int) : Rat) = 1 := rfl
theorem cast_two : ((2 : Int) : Rat) = 2 := rfl
theorem cast_zero : ((0 : Int) : Rat) = 0 := rfl
/-- the setting: a quadratic bottom, a top of degree three at most -/
structure Par (b0 b1 a0 a1 w0 w1 : Int) : Prop where
  b0 : b0.natAbs ≤ 100
  b1 : b1.natAbs ≤ 30
  a0 : a0.natAbs ≤ 100
  a1 : a1.natAbs ≤ 10
  w0 : w0.natAbs ≤ 2
  w1 : w1.natAbs ≤ 2
def belP (b0 b1 : Int) : Pl := lr [b0, b1, 1]
def topP (b0 b1 a0 a1 w0 w1 : Int) : Pl := lr [0 + w0 * b0 + a0, 0 + w0 * b1 + w1 * b0 + a1, 0 + w0 * 1 + w1 * b1, 0 + w1 * 1]
def N0 (b0 b1 a0 a1 : Int) : Pl := lr [a1 * b0 - a0 * b1, -2 * a0, -a1]
def bbP (b0 b1 : Int) : Pl := rats [b0 * b0, 2 * b0 * b1, b1 * b1 + 2 * b0, 2 * b1, 1]
def NP (b0 b1 a0 a1 w0 w1 : Int) : Pl := psub (pmul (pder (topP b0 b1 a0 a1 w0 w1)) (belP b0 b1)) (pmul (topP b0 b1 a0 a1 w0 w1) (pder (belP b0 b1)))
section
variable {b0 b1 a0 a1 w0 w1 : Int}
theorem ev_bel (x : Rat) : ev (belP b0 b1) x = b0 + b1 * x + x * x := by
  unfold belP
  rw [ev_lr]
  simp only [rats_cons, rats_nil, ev_cons, ev_nil, cast_one]; grind
theorem dv_bel (x : Rat) : dv (belP b0 b1) x = b1 + 2 * x := by
  unfold belP
  rw [dv_lr]
  simp only [rats_cons, rats_nil, dv, ev_cons, ev_nil, cast_one]; grind
theorem ev_top (x : Rat) : ev (topP b0 b1 a0 a1 w0 w1) x = (w0 + w1 * x) * (b0 + b1 * x + x * x) + (a0 + a1 * x) := by
  unfold topP
  rw [ev_lr]
  simp only [rats_cons, rats_nil, ev_cons, ev_nil, Rat.intCast_add, Rat.intCast_mul, cast_one, cast_zero]; grind
theorem dv_top (x : Rat) : dv (topP b0 b1 a0 a1 w0 w1) x = w1 * (b0 + b1 * x + x * x) + (w0 + w1 * x) * (b1 + 2 * x) + a1 := by
  unfold topP
  rw [dv_lr]
  simp only [rats_cons, rats_nil, dv, ev_cons, ev_nil, Rat.intCast_add, Rat.intCast_mul, cast_one, cast_zero]; grind
theorem ev_N (x : Rat) : ev (NP b0 b1 a0 a1 w0 w1) x = w1 * ((b0 + b1 * x + x * x) * (b0 + b1 * x + x * x)) + (a1 * (b0 + b1 * x + x * x) - (a0 + a1 * x) * (b1 + 2 * x)) := by
  unfold NP
  rw [ev_psub, ev_pmul, ev_pmul, ev_pder, ev_pder, ev_bel, dv_bel, ev_top, dv_top]; grind
theorem ev_N0 (x : Rat) : ev (N0 b0 b1 a0 a1) x = a1 * (b0 + b1 * x + x * x) - (a0 + a1 * x) * (b1 + 2 * x) := by
  unfold N0
  rw [ev_lr]
  simp only [rats_cons, rats_nil, ev_cons, ev_nil, Rat.intCast_sub, Rat.intCast_neg, Rat.intCast_mul, cast_one, cast_two]; grind
theorem ev_bb (x : Rat) : ev (bbP b0 b1) x = (b0 + b1 * x + x * x) * (b0 + b1 * x + x * x) := by
  unfold bbP
  simp only [rats_cons, rats_nil, ev_cons, ev_nil, Rat.intCast_add, Rat.intCast_mul, cast_one, cast_two]; grind
theorem last_bb : last (bbP b0 b1) = 1 := rfl
theorem tr_bb : Tr (bbP b0 b1) := fun _ => by rw [last_bb]; decide
theorem ne_bb : bbP b0 b1 ≠ [] := by simp [bbP, rats]
theorem len_bb : (bbP b0 b1).length = 5 := rfl
theorem bel_eq : belP b0 b1 = rats [b0, b1, 1] := lr_full [b0, b1] 1 (by decide)
theorem len_bel : (belP b0 b1).length = 3 := by rw [bel_eq]; rfl
theorem tr_bel : Tr (belP b0 b1) := tr_lr _
theorem bb_eq : pmul (belP b0 b1) (belP b0 b1) = bbP b0 b1 := uniq (fun x => by rw [ev_pmul, ev_bel, ev_bb]) (tr_bel.pmul tr_bel) tr_bb
theorem ev_w (x : Rat) : ev (lr [w1]) x = w1 := by
  rw [ev_lr]; simp only [rats_cons, rats_nil, ev_cons, ev_nil]; grind
theorem len_top : (topP b0 b1 a0 a1 w0 w1).length ≤ 4 := len_lr _
theorem len_N0 : (N0 b0 b1 a0 a1).length ≤ 3 := len_lr _
theorem tr_N : Tr (NP b0 b1 a0 a1 w0 w1) := Tr.psub _ _
theorem tr_N0 : Tr (N0 b0 b1 a0 a1) := tr_lr _
theorem len_N : (NP b0 b1 a0 a1 w0 w1).length ≤ 7 := by
  have h := len_psub (pmul (pder (topP b0 b1 a0 a1 w0 w1)) (belP b0 b1)) (pmul (topP b0 b1 a0 a1 w0 w1) (pder (belP b0 b1)))
  have lm : ∀ {a b : Pl}, a.length ≤ 4 → b.length ≤ 3 → (pmul a b).length ≤ 7 := fun {a b} h h' => by
    by_cases e : a = [] ∨ b = []
    · unfold pmul; rw [if_pos e]; simp
    · rw [len_pmul (fun q => e (.inl q)) (fun q => e (.inr q))]; lia
  have h1 := lm (Nat.le_trans (len_pder (topP b0 b1 a0 a1 w0 w1)) len_top) (b := belP b0 b1) (by rw [len_bel]; decide)
  have h2 := lm (len_top (b0 := b0) (b1 := b1) (a0 := a0) (a1 := a1) (w0 := w0) (w1 := w1)) (b := pder (belP b0 b1)) (Nat.le_trans (len_pder _) (by rw [len_bel]; decide))
  unfold NP
  lia
theorem divN : pdiv (NP b0 b1 a0 a1 w0 w1) (bbP b0 b1) = lr [w1] ∧ pmod (NP b0 b1 a0 a1 w0 w1) (bbP b0 b1) = N0 b0 b1 a0 a1 := by
  refine div_uniq ne_bb (by rw [last_bb]; decide) tr_N (tr_lr _) tr_N0 (by rw [len_bb]; have := len_N0 (b0 := b0) (b1 := b1) (a0 := a0) (a1 := a1); lia) fun x => ?_
  rw [ev_N, ev_bb, ev_w, ev_N0]; grind
theorem ne_N (h0 : N0 b0 b1 a0 a1 ≠ []) : NP b0 b1 a0 a1 w0 w1 ≠ [] := by
  intro e
  have h1 := (divN (b0 := b0) (b1 := b1) (a0 := a0) (a1 := a1) (w0 := w0) (w1 := w1)).2
  rw [e] at h1
  have h2 := (div_uniq (a := []) (b := bbP b0 b1) (q := []) (r := []) ne_bb (by rw [last_bb]; decide) .nil .nil .nil (by rw [len_bb]; decide) fun x => by simp only [ev_nil]; grind).2
  exact h0 (h1.symm.trans h2)
variable (P : Par b0 b1 a0 a1 w0 w1)
include P
theorem cm_bel : CM 1 8 (belP b0 b1) := cm_lr (alc (bp P.b0 (by decide)) (alc (bp P.b1 (by decide)) (alc (by decide) al0)))
theorem cm_top : CM 1 10 (topP b0 b1 a0 a1 w0 w1) := cm_lr
  (alc (bp (ba (ba (bl 0) (nm P.w0 P.b0)) P.a0) (by decide)) (alc (bp (ba (ba (ba (bl 0) (nm P.w0 P.b1)) (nm P.w1 P.b0)) P.a1) (by decide)) (alc (bp (ba (ba (bl 0) (nm P.w0 (bl 1))) (nm P.w1 P.b1)) (by decide)) (alc (bp (ba (bl 0) (nm P.w1 (bl 1))) (by decide)) al0))))
theorem cm_N0 : CM 1 13 (N0 b0 b1 a0 a1) := cm_lr
  (alc (bp (bs (nm P.a1 P.b0) (nm P.a0 P.b1)) (by decide)) (alc (bp (nm (bn (bl 2)) P.a0) (by decide)) (alc (bp (bn P.a1) (by decide)) al0)))
theorem cm_bb : CM 1 16 (bbP b0 b1) := cm_rats
  (alc (bp (nm P.b0 P.b0) (by decide)) (alc (bp (nm (nm (bl 2) P.b0) P.b1) (by decide)) (alc (bp (ba (nm P.b1 P.b1) (nm (bl 2) P.b0)) (by decide)) (alc (bp (nm (bl 2) P.b1) (by decide)) (alc (by decide) al0)))))
theorem cm_N : CM 1 100 (NP b0 b1 a0 a1 w0 w1) := by
  have l1 := len_top (b0 := b0) (b1 := b1) (a0 := a0) (a1 := a1) (w0 := w0) (w1 := w1)
  have l2 := len_bel (b0 := b0) (b1 := b1)
  have l3 := len_pder (topP b0 b1 a0 a1 w0 w1)
  have l4 := len_pder (belP b0 b1)
  have c1 := ((cm_top P).pder1 (by lia)).pmul1 (cm_bel P)
  have c2 := (cm_top P).pmul1 ((cm_bel P).pder1 (by lia))
  have m1 : (pder (topP b0 b1 a0 a1 w0 w1)).length * (belP b0 b1).length ≤ 4 * 3 := Nat.mul_le_mul (by lia) (by lia)
  have m2 : (topP b0 b1 a0 a1 w0 w1).length * (pder (belP b0 b1)).length ≤ 4 * 3 := Nat.mul_le_mul (by lia) (by lia)
  exact ((c1.le (S := 99) (by lia)).psub (c2.le (by lia)))
theorem divOk_N : DivOk (NP b0 b1 a0 a1 w0 w1) (bbP b0 b1) :=
  divOk_int (cm_N P) ((cm_bb P).le (by decide)) ne_bb (by rw [last_bb]; decide) (by have := len_N (b0 := b0) (b1 := b1) (a0 := a0) (a1 := a1) (w0 := w0) (w1 := w1); lia) (by rw [len_bb]; decide)
theorem gcd_N : ∃ g, GcdR (NP b0 b1 a0 a1 w0 w1) (bbP b0 b1) g := by
  obtain ⟨l, p, q, c⟩ := (cm_N0 P).monic (by decide) tr_N0 (by decide)
  obtain ⟨g, hg⟩ := gcd_ex tr_bb tr_N0.monic (cm_bb P) (c.le (S := 16) (by decide)) p (lt_pow_le q (by decide)) (by rw [len_bb]; decide) (by rw [len_monic tr_N0]; exact len_N0)
  refine ⟨g, .step ne_bb (divOk_N P) ?_ ?_ ?_⟩
  · rw [divN.2]; exact tr_N0
  · rw [divN.2]; exact (cm_N0 P).BL1 (by decide)
  · rw [divN.2]; exact hg
theorem fder_of {t b : Pl} (h : FmakeR (NP b0 b1 a0 a1 w0 w1) (bbP b0 b1) t b) : FderR (topP b0 b1 a0 a1 w0 w1) (belP b0 b1) t b := by
  have l1 := len_top (b0 := b0) (b1 := b1) (a0 := a0) (a1 := a1) (w0 := w0) (w1 := w1)
  have l2 := len_bel (b0 := b0) (b1 := b1)
  have l3 := len_pder (topP b0 b1 a0 a1 w0 w1)
  have l4 := len_pder (belP b0 b1)
  have d1 := (cm_top P).pder1 (by lia)
  have d2 := (cm_bel P).pder1 (by lia)
  have c1 := d1.pmul1 (cm_bel P)
  have c2 := (cm_top P).pmul1 d2
  have m1 : (pder (topP b0 b1 a0 a1 w0 w1)).length * (belP b0 b1).length ≤ 4 * 3 := Nat.mul_le_mul (by lia) (by lia)
  have m2 : (topP b0 b1 a0 a1 w0 w1).length * (pder (belP b0 b1)).length ≤ 4 * 3 := Nat.mul_le_mul (by lia) (by lia)
  have lm : ∀ {a b : Pl}, a.length ≤ 4 → b.length ≤ 3 → (pmul a b).length ≤ 7 := fun {a b} h h' => by
    by_cases e : a = [] ∨ b = []
    · unfold pmul; rw [if_pos e]; simp
    · rw [len_pmul (fun q => e (.inl q)) (fun q => e (.inr q))]; lia
  exact {
    bt := (cm_top P).BL1 (by decide)
    bb := (cm_bel P).BL1 (by decide)
    lt := by lia
    lb := by lia
    m₁ := mulOk_int (d1.le (by decide)) ((cm_bel P).le (by decide)) (by lia) (by lia)
    m₂ := mulOk_int ((cm_top P).le (by decide)) (d2.le (by decide)) (by lia) (by lia)
    s := ⟨(c1.le (S := 100) (by lia)).BL1 (by decide), (c2.le (S := 100) (by lia)).BL1 (by decide), by have := lm (a := pder (topP b0 b1 a0 a1 w0 w1)) (b := belP b0 b1) (by lia) (by lia); lia, by have := lm (a := topP b0 b1 a0 a1 w0 w1) (b := pder (belP b0 b1)) (by lia) (by lia); lia⟩
    m₃ := mulOk_int ((cm_bel P).le (by decide)) ((cm_bel P).le (by decide)) (by lia) (by lia)
    f := by rw [bb_eq]; exact h }
/-- coprime: nothing is cut away -/
theorem fmake_low (h0 : N0 b0 b1 a0 a1 ≠ []) (hz : ∃ p q : Pl, ∀ x, 1 = ev p x * ev (N0 b0 b1 a0 a1) x + ev q x * ev (bbP b0 b1) x) : FmakeR (NP b0 b1 a0 a1 w0 w1) (bbP b0 b1) (NP b0 b1 a0 a1 w0 w1) (bbP b0 b1) := by
  obtain ⟨g, hg⟩ := gcd_N P
  obtain ⟨p, q, e⟩ := hz
  have e1 : ∀ x, ev [1] x = 1 := fun x => by simp only [ev_cons, ev_nil]; grind
  have hg1 : g = [1] := gcd_at (h := [1]) rfl tr_N tr_bb ⟨NP b0 b1 a0 a1 w0 w1, fun x => by rw [e1]; grind⟩ ⟨bbP b0 b1, fun x => by rw [e1]; grind⟩ ⟨p, psub q (pmul p (lr [w1])), fun x => by
    rw [e1, ev_psub, ev_pmul, ev_w]
    have h1 := div_ev (a := NP b0 b1 a0 a1 w0 w1) (b := bbP b0 b1) ne_bb (by rw [last_bb]; decide) x
    rw [divN.1, divN.2, ev_w] at h1
    rw [h1]
    have := e x; grind⟩ hg
  subst hg1
  have := FmakeR.low (top := NP b0 b1 a0 a1 w0 w1) (bottom := bbP b0 b1) ne_bb (ne_N h0) hg rfl (by rw [last_bb]; decide) ((cm_N P).BL1 (by decide)) ((cm_bb P).BL1 (by decide)) (by have := len_N (b0 := b0) (b1 := b1) (a0 := a0) (a1 := a1) (w0 := w0) (w1 := w1); lia) (by rw [len_bb]; decide)
  have hi : ((1 : Rat))⁻¹ = 1 := by grind
  rw [last_bb, hi, pscale_one, pscale_one] at this
  exact this
end
end Mine

/-! part L4 -/
namespace Mine
theorem lr_ne {r : List Int} {v : Int} (h : v ∈ r) (hv : v ≠ 0) : lr r ≠ [] := by
  intro e
  have hz := zeros_of_ev (rats r) 0 fun n _ => by rw [← ev_lr, e, ev_nil]
  have := hz (v : Rat) (List.mem_map.mpr ⟨v, h, rfl⟩)
  exact hv (ic_eq_zero.mp this)
theorem lr_zero : lr [0] = [] := by rw [lr_eq]; rfl
theorem ppow_one {p : Pl} (h : Tr p) : ppow p 1 = p := by
  refine uniq (fun x => ?_) (Tr.pmul (a := [1]) Tr.one h) h
  rw [ev_ppow, xp, xp]; grind
theorem dig_one {base p : Pl} (hn : base ≠ []) (hl : last base ≠ 0) (hp : p ≠ []) (tp : Tr p) (hlen : p.length < base.length) (d : DivOk p base) : DigR base p [p] := by
  obtain ⟨e1, e2⟩ := div_uniq (a := p) (b := base) (q := []) (r := p) hn hl tp .nil tp hlen fun x => by simp only [ev_nil]; grind
  have := DigR.cons (base := base) (p := p) (ds := []) hp d (by rw [e1]; exact .nil)
  rwa [e2] at this
theorem dig_two {base p q r : Pl} (hn : base ≠ []) (hl : last base ≠ 0) (hp : p ≠ []) (tp : Tr p) (hq : q ≠ []) (tq : Tr q) (tr : Tr r) (lq : q.length < base.length) (lr : r.length < base.length) (e : ∀ x, ev p x = ev base x * ev q x + ev r x) (d : DivOk p base) (d' : DivOk q base) : DigR base p [r, q] := by
  obtain ⟨e1, e2⟩ := div_uniq (a := p) (b := base) (q := q) (r := r) hn hl tp tq tr lr e
  have := DigR.cons (base := base) (p := p) (ds := [q]) hp d (by rw [e1]; exact dig_one hn hl hq tq lq d')
  rwa [e2] at this
theorem figs_two (p f1 f2 : Pl) (m : Nat) : figs p m 0 [f1, f2] = ([(p, (m : Int), f1), (p, (m : Int) - 1, f2)] : List Fg).filter fun f => decide (f.2.2 ≠ []) := by
  unfold figs figs figs
  by_cases h1 : f1 = [] <;> by_cases h2 : f2 = [] <;> simp [h1, h2]
theorem figs_one (p f1 : Pl) (m : Nat) (i : Int) : figs p m 0 [f1] = ([(p, (m : Int), f1), (p, i, [])] : List Fg).filter fun f => decide (f.2.2 ≠ []) := by
  unfold figs figs
  by_cases h1 : f1 = [] <;> simp [h1]
theorem share_one {rest bottom : Pl} (d1 : DivOk bottom bottom) (tb : Tr bottom) (d2 : DivOk rest bottom) (tr : Tr rest) (hl : rest.length < bottom.length) : ShareR rest bottom bottom rest := by
  obtain ⟨e1, _⟩ := div_uniq (a := bottom) (b := bottom) (q := [1]) (r := []) d1.ne d1.lead tb Tr.one .nil (by have := len_pos d1.ne; rw [List.length_nil]; lia) fun x => by simp only [ev_cons, ev_nil]; grind
  obtain ⟨_, e2⟩ := div_uniq (a := rest) (b := bottom) (q := []) (r := rest) d1.ne d1.lead tr .nil tr hl fun x => by simp only [ev_nil]; grind
  have := ShareR.one (top := rest) (bottom := bottom) (wf := bottom) d1 (by rw [e1]; rfl) d2
  rwa [e2] at this
theorem cm_lr1 {R : Nat} {i : Int} (h : i.natAbs < 2 ^ R) : CM 1 R (lr [i]) := cm_lr fun v hv => by rw [List.mem_singleton.mp hv]; exact h
theorem ev_lr1 (i : Int) (x : Rat) : ev (lr [i]) x = i := by rw [ev_lr]; simp only [rats_cons, rats_nil, ev_cons, ev_nil]; grind
theorem ev_lr2 (i j : Int) (x : Rat) : ev (lr [i, j]) x = i + j * x := by rw [ev_lr]; simp only [rats_cons, rats_nil, ev_cons, ev_nil]; grind
theorem par2 {r d c e w0 w1 : Int} (hr : r.natAbs ≤ 7) (hd : 1 ≤ d ∧ d ≤ 6) (hc : 1 ≤ c ∧ c ≤ 4) (he : e.natAbs ≤ 4) (hw0 : w0.natAbs ≤ 2) (hw1 : w1.natAbs ≤ 2) : Par (r * r + d) (0 - 2 * r) c e w0 w1 := by
  exact ⟨bt (ba (nm hr hr) (bk hd)) (by decide), bt (bs (bl 0) (nm (bl 2) hr)) (by decide), bt (bk hc) (by decide), bt he (by decide), hw0, hw1⟩
theorem top_eq (w0 w1 b0 b1 a0 a1 : Int) (fs : List (List Int × Nat)) (due : List (List Int × Nat × List Int)) : lr (topI w0 w1 ⟨[a0, a1], [b0, b1, 1], fs, due⟩) = topP b0 b1 a0 a1 w0 w1 := rfl
theorem sq_nn (a : Int) : 0 ≤ a * a := by
  rcases Int.le_total 0 a with h | h
  · exact Int.mul_nonneg h h
  · have := Int.mul_nonneg (show 0 ≤ -a by lia) (show 0 ≤ -a by lia)
    rwa [Int.neg_mul_neg] at this
theorem last_bel {b0 b1 : Int} : last (belP b0 b1) = 1 := by rw [bel_eq]; rfl
theorem len_lr1 (i : Int) : (lr [i]).length ≤ 1 := len_lr [i]
theorem bez2 {r d c e : Int} (hd : 1 ≤ d) (hc : 1 ≤ c) : ∃ p q : Pl, ∀ x, 1 = ev p x * ev (N0 (r * r + d) (0 - 2 * r) c e) x + ev q x * ev (bbP (r * r + d) (0 - 2 * r)) x := by
  have hR : 4 * d * (e * e * d + (c + e * r) * (c + e * r)) ≠ 0 := by
    have h1 : 0 ≤ e * e := sq_nn e
    have h2 : 0 ≤ (c + e * r) * (c + e * r) := sq_nn _
    have h3 : 0 ≤ e * e * d := Int.mul_nonneg h1 (by lia)
    have h4 : 0 < e * e * d + (c + e * r) * (c + e * r) := by
      by_cases he : e = 0
      · subst he
        have : 0 < c * c := Int.mul_pos (by lia) (by lia)
        simp; lia
      · have h5 : 0 < e * e := by
          rcases Int.lt_or_gt_of_ne he with q | q
          · exact Int.mul_pos_of_neg_of_neg q q
          · exact Int.mul_pos q q
        have := Int.mul_pos h5 (show 0 < d by lia)
        lia
    exact Int.ne_of_gt (Int.mul_pos (by lia) h4)
  generalize hRR : 4 * d * (e * e * d + (c + e * r) * (c + e * r)) = R at hR
  have hRq : (R : Rat) ≠ 0 := fun q => hR (ic_eq_zero.mp q)
  have hRe : (R : Rat) = 4 * d * (e * e * d + (c + e * r) * (c + e * r)) := by
    rw [← hRR]
    simp only [Rat.intCast_add, Rat.intCast_mul]; rfl
  obtain ⟨ρ, hρ⟩ : ∃ ρ : Rat, ρ * R = 1 := ⟨(R : Rat)⁻¹, by grind⟩
  let k : Rat := c + e * r
  let tb : Pl := [2 * (e * d - k * r), 2 * k]
  let u : Pl := padd [4 * k * k] (pscale tb e)
  refine ⟨pscale (pmul tb (psub [2 * R] (pmul tb (N0 (r * r + d) (0 - 2 * r) c e)))) (ρ * ρ), pscale (pmul u u) (ρ * ρ), fun x => ?_⟩
  rw [ev_pscale, ev_pscale, ev_pmul, ev_psub, ev_pmul, ev_pmul, ev_padd, ev_pscale, ev_bb, ev_N0]
  simp only [tb, k, ev_cons, ev_nil, Rat.intCast_add, Rat.intCast_sub, Rat.intCast_mul, cast_zero, cast_two]
  generalize (c : Rat) = c at *
  generalize (e : Rat) = e at *
  generalize (r : Rat) = r at *
  generalize (d : Rat) = d at *
  generalize (R : Rat) = R at *
  have key : (2 * (e * d - (c + e * r) * r) + x * (2 * (c + e * r) + x * 0)) * (e * (r * r + d + (0 - 2 * r) * x + x * x) - (c + e * x) * (0 - 2 * r + 2 * x)) = R - (r * r + d + (0 - 2 * r) * x + x * x) * (4 * (c + e * r) * (c + e * r) + x * 0 + (2 * (e * d - (c + e * r) * r) + x * (2 * (c + e * r) + x * 0)) * e) := by
    rw [hRe]; grind
  generalize (2 * (e * d - (c + e * r) * r) + x * (2 * (c + e * r) + x * 0)) = T at *
  generalize (e * (r * r + d + (0 - 2 * r) * x + x * x) - (c + e * x) * (0 - 2 * r + 2 * x)) = M at *
  generalize (4 * (c + e * r) * (c + e * r) + x * 0 + T * e) = U at *
  generalize (r * r + d + (0 - 2 * r) * x + x * x) = Q at *
  have h1 : T * (2 * R + x * 0 - T * M) * (ρ * ρ) * M + U * U * (ρ * ρ) * (Q * Q) = (ρ * ρ) * ((T * M) * (2 * R - T * M) + U * U * (Q * Q)) := by grind
  rw [h1, key]
  have h2 : (ρ * ρ) * ((R - Q * U) * (2 * R - (R - Q * U)) + U * U * (Q * Q)) = (ρ * R) * (ρ * R) := by grind
  rw [h2, hρ]; grind
theorem good2 {r d c e w0 w1 : Int} (hr : r.natAbs ≤ 7) (hd : 1 ≤ d ∧ d ≤ 6) (hc : 1 ≤ c ∧ c ≤ 4) (he : e.natAbs ≤ 4) (hw0 : w0.natAbs ≤ 2) (hw1 : w1.natAbs ≤ 2) :
    ∃ t b fg, LawGood w0 w1 (lawIn2 r d c e) t b fg := by
  have P := par2 (w0 := w0) (w1 := w1) hr hd hc he hw0 hw1
  have h0 : N0 (r * r + d) (0 - 2 * r) c e ≠ [] := lr_ne (v := -2 * c) (by simp) (by lia)
  obtain ⟨f1, hf1⟩ : ∃ f, f = lr [2 * e * (r * r + d) - c * (0 - 2 * r), e * (0 - 2 * r) - 2 * c] := ⟨_, rfl⟩
  have tf1 : Tr f1 := hf1 ▸ tr_lr _
  have lf1 : f1.length ≤ 2 := by rw [hf1]; exact len_lr _
  have ef1 : ∀ x, ev f1 x = (2 * e * (r * r + d) - c * (0 - 2 * r)) + (e * (0 - 2 * r) - 2 * c) * x := fun x => by
    rw [hf1, ev_lr2]
    simp only [Rat.intCast_add, Rat.intCast_sub, Rat.intCast_mul, cast_zero, cast_two]
  have dN : DivOk (N0 (r * r + d) (0 - 2 * r) c e) (belP (r * r + d) (0 - 2 * r)) := divOk_int ((cm_N0 P).le (by decide)) ((cm_bel P).le (by decide)) (by intro q; have := len_bel (b0 := r * r + d) (b1 := 0 - 2 * r); rw [q] at this; simp at this) (by rw [last_bel]; decide) (by have := len_N0 (b0 := r * r + d) (b1 := 0 - 2 * r) (a0 := c) (a1 := e); lia) (by rw [len_bel]; decide)
  have dig : ∃ ds, DigR (belP (r * r + d) (0 - 2 * r)) (N0 (r * r + d) (0 - 2 * r) c e) ds ∧ ds.length ≤ 2 ∧ figs (belP (r * r + d) (0 - 2 * r)) 2 0 ds = ([(belP (r * r + d) (0 - 2 * r), ((2 : Nat) : Int), f1), (belP (r * r + d) (0 - 2 * r), ((2 : Nat) : Int) - 1, lr [0 - e])] : List Fg).filter fun f => decide (f.2.2 ≠ []) := by
    by_cases he0 : e = 0
    · have e1 : N0 (r * r + d) (0 - 2 * r) c e = f1 := uniq (fun x => by
        rw [ev_N0, ef1, he0]
        simp only [Rat.intCast_add, Rat.intCast_sub, Rat.intCast_mul, cast_zero, cast_two]; grind) tr_N0 tf1
      refine ⟨[f1], ?_, Nat.le_of_ble_eq_true rfl, ?_⟩
      · rw [e1] at dN h0 ⊢
        exact dig_one dN.ne dN.lead h0 tf1 (by rw [len_bel]; lia) dN
      · have e0 : lr [0 - e] = [] := by rw [he0]; exact lr_zero
        rw [figs_one _ _ _ (((2 : Nat) : Int) - 1), e0]
    · have hq : lr [0 - e] ≠ [] := lr_ne (v := 0 - e) (by simp) (by lia)
      refine ⟨[f1, lr [0 - e]], ?_, Nat.le_of_ble_eq_true rfl, figs_two _ _ _ _⟩
      refine dig_two dN.ne dN.lead h0 tr_N0 hq (tr_lr _) tf1 ?_ ?_ (fun x => ?_) dN ?_
      · rw [len_bel]; have := len_lr1 (0 - e); lia
      · rw [len_bel]; lia
      · rw [ev_N0, ev_bel, ev_lr1, ef1]
        simp only [Rat.intCast_add, Rat.intCast_sub, Rat.intCast_mul, cast_zero, cast_two]; grind
      · exact divOk_int (cm_lr1 (R := 100) (bp (bs (bl 0) he) (by decide))) ((cm_bel P).le (by decide)) dN.ne dN.lead (by have := len_lr1 (0 - e); lia) (by rw [len_bel]; decide)
  obtain ⟨ds, hds, lds, efig⟩ := dig
  have ep : ppow (belP (r * r + d) (0 - 2 * r)) 2 = bbP (r * r + d) (0 - 2 * r) := by
    rw [ppow, ppow_one tr_bel, bb_eq]
  have dbb : DivOk (bbP (r * r + d) (0 - 2 * r)) (bbP (r * r + d) (0 - 2 * r)) := divOk_int ((cm_bb P).le (by decide)) ((cm_bb P).le (by decide)) ne_bb (by rw [last_bb]; decide) (by rw [len_bb]; decide) (by rw [len_bb]; decide)
  have dNb : DivOk (N0 (r * r + d) (0 - 2 * r) c e) (bbP (r * r + d) (0 - 2 * r)) := divOk_int ((cm_N0 P).le (by decide)) ((cm_bb P).le (by decide)) ne_bb (by rw [last_bb]; decide) (by have := len_N0 (b0 := r * r + d) (b1 := 0 - 2 * r) (a0 := c) (a1 := e); lia) (by rw [len_bb]; decide)
  have hsq := nm hr hr
  refine ⟨_, _, figs (belP (r * r + d) (0 - 2 * r)) 2 0 ds ++ [], {
    la := Nat.le_of_ble_eq_true rfl
    lb := by simp [lawIn2]
    lb' := by simp [lawIn2]
    sb := fun v hv => by
      simp only [lawIn2, List.mem_cons, List.not_mem_nil, or_false] at hv
      rcases hv with rfl | rfl | rfl
      · exact sm_lb (bp P.b0 (by decide))
      · exact sm_lb (bp P.b1 (by decide))
      · exact sm_lb (by decide)
    sw := ⟨sm_lb (bp hw0 (by decide)), sm_lb (bp hw1 (by decide))⟩
    nf := by simp [lawIn2]
    nf' := fun f hf => by
      simp only [lawIn2, List.mem_cons, List.not_mem_nil, or_false] at hf
      subst hf; simp
    nd := by simp [lawIn2]
    nd' := fun f hf => by
      simp only [lawIn2, List.mem_cons, List.not_mem_nil, or_false] at hf
      rcases hf with rfl | rfl <;> simp
    fd := fder_of P (fmake_low P h0 (bez2 hd.1 hc.1))
    dv := divOk_N P
    pr := ?pr
    lf := by rw [List.append_nil]; have := figs_len (belP (r * r + d) (0 - 2 * r)) 2 0 ds; lia
    an := divN.1
    af := ?af }⟩
  case pr =>
    rw [divN.2]
    refine PartR.cons (factor := belP (r * r + d) (0 - 2 * r)) (many := 2) (above := N0 (r * r + d) (0 - 2 * r) c e) (fun i hi => ?_) (by decide) ?_ hds (by lia) .nil
    · match i, hi with
      | 0, _ => exact mulOk_int (CM.one.le (by decide)) ((cm_bel P).le (by decide)) (Nat.le_of_ble_eq_true rfl) (by rw [len_bel]; decide)
      | 1, _ => rw [ppow_one tr_bel]; exact mulOk_int ((cm_bel P).le (by decide)) ((cm_bel P).le (by decide)) (by rw [len_bel]; decide) (by rw [len_bel]; decide)
    · rw [ep]
      exact share_one dbb tr_bb dNb tr_N0 (by rw [len_bb]; have := len_N0 (b0 := r * r + d) (b1 := 0 - 2 * r) (a0 := c) (a1 := e); lia)
  case af =>
    rw [List.append_nil, efig, hf1]; rfl
end Mine

/-! part L5 -/
namespace Mine
def lin (i : Int) : Pl := lr [i, 1]
theorem lin_eq (i : Int) : lin i = rats [i, 1] := lr_full [i] 1 (by decide)
theorem last_lin (i : Int) : last (lin i) = 1 := by rw [lin_eq]; rfl
theorem len_lin (i : Int) : (lin i).length = 2 := by rw [lin_eq]; rfl
theorem tr_lin (i : Int) : Tr (lin i) := tr_lr _
theorem ne_lin (i : Int) : lin i ≠ [] := by rw [lin_eq]; simp [rats]
theorem ev_lin (i : Int) (x : Rat) : ev (lin i) x = i + x := by
  unfold lin; rw [ev_lr2, cast_one]; grind
theorem cm_lin {i : Int} (h : i.natAbs < 2 ^ 6) : CM 1 6 (lin i) := cm_lr (alc h (alc (by decide) al0))
def l3P (r : Int) : Pl := rats [-(r * r * r), 3 * (r * r), -3 * r, 1]
def KP (r c e w1 : Int) : Pl := lr [w1 * (-(r * r * r)) - 2 * c + e * r, w1 * (3 * (r * r)) - e, w1 * (-3 * r), w1]
def R1P (r c e : Int) : Pl := lr [-2 * c + e * r, -e]
theorem ev_l3 (r : Int) (x : Rat) : ev (l3P r) x = (x - r) * (x - r) * (x - r) := by
  unfold l3P
  simp only [rats_cons, rats_nil, ev_cons, ev_nil, Rat.intCast_neg, Rat.intCast_mul, cast_one]
  have : ((3 : Int) : Rat) = 3 := rfl
  rw [this]; grind
theorem last_l3 (r : Int) : last (l3P r) = 1 := rfl
theorem tr_l3 (r : Int) : Tr (l3P r) := fun _ => by rw [last_l3]; decide
theorem ne_l3 (r : Int) : l3P r ≠ [] := by simp [l3P, rats]
theorem len_l3 (r : Int) : (l3P r).length = 4 := rfl
theorem ev_K (r c e w1 : Int) (x : Rat) : ev (KP r c e w1) x = w1 * ((x - r) * (x - r) * (x - r)) - 2 * c - e * (x - r) := by
  unfold KP
  rw [ev_lr]
  simp only [rats_cons, rats_nil, ev_cons, ev_nil, Rat.intCast_add, Rat.intCast_sub, Rat.intCast_neg, Rat.intCast_mul, cast_two]
  have : ((3 : Int) : Rat) = 3 := rfl
  rw [this]; grind
theorem ev_R1 (r c e : Int) (x : Rat) : ev (R1P r c e) x = -2 * c - e * (x - r) := by
  unfold R1P
  rw [ev_lr2]
  simp only [Rat.intCast_add, Rat.intCast_neg, Rat.intCast_mul, cast_two]; grind
theorem cm_l3 {r : Int} (hr : r.natAbs ≤ 7) : CM 1 11 (l3P r) := cm_rats
  (alc (bp (bn (nm (nm hr hr) hr)) (by decide)) (alc (bp (nm (bl 3) (nm hr hr)) (by decide)) (alc (bp (nm (bn (bl 3)) hr) (by decide)) (alc (by decide) al0))))
theorem cm_K {r c e w1 : Int} (hr : r.natAbs ≤ 7) (hc : 1 ≤ c ∧ c ≤ 4) (he : e.natAbs ≤ 4) (hw1 : w1.natAbs ≤ 2) : CM 1 12 (KP r c e w1) := cm_lr
  (alc (bp (ba (bs (nm hw1 (bn (nm (nm hr hr) hr))) (nm (bl 2) (bk hc))) (nm he hr)) (by decide)) (alc (bp (bs (nm hw1 (nm (bl 3) (nm hr hr))) he) (by decide)) (alc (bp (nm hw1 (nm (bn (bl 3)) hr)) (by decide)) (alc (bp hw1 (by decide)) al0))))
theorem cm_R1 {r c e : Int} (hr : r.natAbs ≤ 7) (hc : 1 ≤ c ∧ c ≤ 4) (he : e.natAbs ≤ 4) : CM 1 12 (R1P r c e) := cm_lr
  (alc (bp (ba (nm (bn (bl 2)) (bk hc)) (nm he hr)) (by decide)) (alc (bp (bn he) (by decide)) al0))
theorem par1 {r c e w0 w1 : Int} (hr : r.natAbs ≤ 7) (hc : 1 ≤ c ∧ c ≤ 4) (he : e.natAbs ≤ 4) (hw0 : w0.natAbs ≤ 2) (hw1 : w1.natAbs ≤ 2) : Par (0 + (0 - r) * (0 - r)) (0 + (0 - r) * 1 + 1 * (0 - r)) (c - e * r) e w0 w1 :=
  have h := bs (bl 0) hr
  ⟨bt (ba (bl 0) (nm h h)) (by decide), bt (ba (ba (bl 0) (nm h (bl 1))) (nm (bl 1) h)) (by decide), bt (bs (bk hc) (nm he hr)) (by decide), bt he (by decide), hw0, hw1⟩
theorem good1 {r c e w0 w1 : Int} (hr : r.natAbs ≤ 7) (hc : 1 ≤ c ∧ c ≤ 4) (he : e.natAbs ≤ 4) (hw0 : w0.natAbs ≤ 2) (hw1 : w1.natAbs ≤ 2) :
    ∃ t b fg, LawGood w0 w1 (lawIn1 r c e) t b fg := by
  have P := par1 (w0 := w0) (w1 := w1) hr hc he hw0 hw1
  have hx : lawIn1 r c e = ⟨[c - e * r, e], [0 + (0 - r) * (0 - r), 0 + (0 - r) * 1 + 1 * (0 - r), 1], [([0 - r, 1], 3)], [([0 - r, 1], 3, [-2 * c]), ([0 - r, 1], 2, [0 - e])]⟩ := rfl
  rw [hx]
  have e0 : ((0 + (0 - r) * (0 - r) : Int) : Rat) = r * r := by
    simp only [Rat.intCast_add, Rat.intCast_sub, Rat.intCast_mul, cast_zero]; grind
  have e1 : ((0 + (0 - r) * 1 + 1 * (0 - r) : Int) : Rat) = -2 * r := by
    simp only [Rat.intCast_add, Rat.intCast_sub, Rat.intCast_mul, cast_zero, cast_one]; grind
  have e2 : ((c - e * r : Int) : Rat) = c - e * r := by
    simp only [Rat.intCast_sub, Rat.intCast_mul]
  generalize (0 + (0 - r) * (0 - r) : Int) = b0 at *
  generalize (0 + (0 - r) * 1 + 1 * (0 - r) : Int) = b1 at *
  generalize (c - e * r : Int) = a0 at *
  have c0 : (c : Rat) ≠ 0 := fun q => by have := ic_eq_zero.mp q; lia
  have er : ∀ x : Rat, ev (lin (0 - r)) x = x - r := fun x => by
    rw [ev_lin, Rat.intCast_sub, cast_zero]; grind
  have h0 : N0 b0 b1 a0 e ≠ [] := by
    intro q
    have h1 : ev (N0 b0 b1 a0 e) ((r : Rat) + 1) = 0 := by rw [q, ev_nil]
    have h2 : ev (N0 b0 b1 a0 e) ((r : Rat) + 2) = 0 := by rw [q, ev_nil]
    rw [ev_N0, e0, e1, e2] at h1 h2
    grind
  have cl := cm_lin (i := 0 - r) (bp (bs (bl 0) hr) (by decide))
  have dNL : DivOk (NP b0 b1 a0 e w0 w1) (lin (0 - r)) := divOk_int (cm_N P) (cl.le (by decide)) (ne_lin _) (by rw [last_lin]; decide) (by have := len_N (b0 := b0) (b1 := b1) (a0 := a0) (a1 := e) (w0 := w0) (w1 := w1); lia) (by rw [len_lin]; decide)
  have dBL : DivOk (bbP b0 b1) (lin (0 - r)) := divOk_int ((cm_bb P).le (by decide)) (cl.le (by decide)) (ne_lin _) (by rw [last_lin]; decide) (by rw [len_bb]; decide) (by rw [len_lin]; decide)
  have lK : (KP r c e w1).length ≤ 4 := len_lr _
  have uN : pdiv (NP b0 b1 a0 e w0 w1) (lin (0 - r)) = KP r c e w1 := (div_uniq (q := KP r c e w1) (r := []) (ne_lin _) (by rw [last_lin]; decide) tr_N (tr_lr _) .nil (by rw [len_lin]; decide) fun x => by
    rw [ev_N, er, ev_K, ev_nil, e0, e1, e2]; grind).1
  have uB : pdiv (bbP b0 b1) (lin (0 - r)) = l3P r := (div_uniq (q := l3P r) (r := []) (ne_lin _) (by rw [last_lin]; decide) tr_bb (tr_l3 r) .nil (by rw [len_lin]; decide) fun x => by
    rw [ev_bb, er, ev_l3, ev_nil, e0, e1]; grind).1
  have fm : FmakeR (NP b0 b1 a0 e w0 w1) (bbP b0 b1) (KP r c e w1) (l3P r) := by
    obtain ⟨g, hg⟩ := gcd_N P
    obtain ⟨κ, hκ⟩ : ∃ κ : Rat, κ * (8 * c * c * c) = 1 := ⟨((8 * c * c * c : Rat))⁻¹, by
      have : (8 * c * c * c : Rat) ≠ 0 := by grind
      grind⟩
    have hg1 : g = lin (0 - r) := gcd_at (h := lin (0 - r)) (last_lin _) tr_N tr_bb ⟨KP r c e w1, fun x => by rw [ev_N, er, ev_K, e0, e1, e2]; grind⟩ ⟨l3P r, fun x => by rw [ev_bb, er, ev_l3, e0, e1]; grind⟩
      ⟨pscale (padd (psub [4 * c * c] (pscale (lin (0 - r)) (2 * c * e))) (pscale (pmul (lin (0 - r)) (lin (0 - r))) (e * e))) (-κ),
       psub [-(e * e * e) * κ] (pscale (pscale (padd (psub [4 * c * c] (pscale (lin (0 - r)) (2 * c * e))) (pscale (pmul (lin (0 - r)) (lin (0 - r))) (e * e))) (-κ)) w1), fun x => by
        simp only [ev_psub, ev_pscale, ev_padd, ev_pmul, ev_N, ev_bb, er, e0, e1, e2, ev_cons, ev_nil]
        generalize (c : Rat) = c at *
        generalize (e : Rat) = e at *
        generalize (w1 : Rat) = w at *
        obtain ⟨y, hy⟩ : ∃ y : Rat, y = x - r := ⟨_, rfl⟩
        have hx : x = y + r := by rw [hy]; grind
        subst hx
        generalize (r : Rat) = r at *
        have k1 : y + r - r = y := by grind
        have k2 : r * r + -2 * r * (y + r) + (y + r) * (y + r) = y * y := by grind
        rw [k1, k2]
        have k3 : (c - e * r + e * (y + r)) * (-2 * r + 2 * (y + r)) = 2 * c * y + 2 * e * y * y := by grind
        rw [k3]
        have k4 : y = y * (κ * (8 * c * c * c)) := by rw [hκ]; grind
        grind⟩ hg
    subst hg1
    have := FmakeR.red (top := NP b0 b1 a0 e w0 w1) (bottom := bbP b0 b1) ne_bb (ne_N h0) hg (by rw [len_lin]; decide) (by rw [len_lin]; decide) dNL dBL (by rw [uB]; exact ne_l3 r) (by rw [uB, last_l3]; decide) (by rw [uN]; exact (cm_K hr hc he hw1).BL1 (by decide)) (by rw [uB]; exact (cm_l3 hr).BL1 (by decide))
    have hi : ((1 : Rat))⁻¹ = 1 := by grind
    rw [uN, uB, last_l3, hi, pscale_one, pscale_one] at this
    exact this
  have tR : Tr (R1P r c e) := tr_lr _
  have lR : (R1P r c e).length ≤ 2 := len_lr _
  obtain ⟨uK1, uK2⟩ := div_uniq (a := KP r c e w1) (b := l3P r) (q := lr [w1]) (r := R1P r c e) (ne_l3 r) (by rw [last_l3]; decide) (tr_lr _) (tr_lr _) tR (by rw [len_l3]; lia) fun x => by
    rw [ev_K, ev_l3, ev_w, ev_R1]; grind
  have dK : DivOk (KP r c e w1) (l3P r) := divOk_int ((cm_K hr hc he hw1).le (by decide)) ((cm_l3 hr).le (by decide)) (ne_l3 r) (by rw [last_l3]; decide) (by lia) (by rw [len_l3]; decide)
  have dR3 : DivOk (R1P r c e) (l3P r) := divOk_int ((cm_R1 hr hc he).le (by decide)) ((cm_l3 hr).le (by decide)) (ne_l3 r) (by rw [last_l3]; decide) (by lia) (by rw [len_l3]; decide)
  have d33 : DivOk (l3P r) (l3P r) := divOk_int ((cm_l3 hr).le (by decide)) ((cm_l3 hr).le (by decide)) (ne_l3 r) (by rw [last_l3]; decide) (by rw [len_l3]; decide) (by rw [len_l3]; decide)
  have dRL : DivOk (R1P r c e) (lin (0 - r)) := divOk_int ((cm_R1 hr hc he).le (by decide)) (cl.le (by decide)) (ne_lin _) (by rw [last_lin]; decide) (by lia) (by rw [len_lin]; decide)
  have hf1 : lr [-2 * c] ≠ [] := lr_ne (v := -2 * c) (by simp) (by lia)
  have dig : ∃ ds, DigR (lin (0 - r)) (R1P r c e) ds ∧ ds.length ≤ 2 ∧ figs (lin (0 - r)) 3 0 ds = ([(lin (0 - r), ((3 : Nat) : Int), lr [-2 * c]), (lin (0 - r), ((3 : Nat) : Int) - 1, lr [0 - e])] : List Fg).filter fun f => decide (f.2.2 ≠ []) := by
    by_cases he0 : e = 0
    · have e1 : R1P r c e = lr [-2 * c] := uniq (fun x => by
        rw [ev_R1, ev_lr1, he0]
        simp only [Rat.intCast_mul, cast_zero]
        have : ((-2 : Int) : Rat) = -2 := rfl
        rw [this]; grind) tR (tr_lr _)
      refine ⟨[lr [-2 * c]], ?_, Nat.le_of_ble_eq_true rfl, ?_⟩
      · rw [e1] at dRL ⊢
        exact dig_one dRL.ne dRL.lead hf1 (tr_lr _) (by rw [len_lin]; have := len_lr1 (-2 * c); lia) dRL
      · have e0 : lr [0 - e] = [] := by rw [he0]; exact lr_zero
        rw [figs_one _ _ _ (((3 : Nat) : Int) - 1), e0]
    · have hq : lr [0 - e] ≠ [] := lr_ne (v := 0 - e) (by simp) (by lia)
      have hR : R1P r c e ≠ [] := lr_ne (v := -e) (by simp) (by lia)
      refine ⟨[lr [-2 * c], lr [0 - e]], ?_, Nat.le_of_ble_eq_true rfl, figs_two _ _ _ _⟩
      refine dig_two dRL.ne dRL.lead hR tR hq (tr_lr _) (tr_lr _) ?_ ?_ (fun x => ?_) dRL ?_
      · rw [len_lin]; have := len_lr1 (0 - e); lia
      · rw [len_lin]; have := len_lr1 (-2 * c); lia
      · rw [ev_R1, er, ev_lr1, ev_lr1]
        simp only [Rat.intCast_sub, Rat.intCast_mul, cast_zero]
        have : ((-2 : Int) : Rat) = -2 := rfl
        rw [this]; grind
      · exact divOk_int (cm_lr1 (R := 100) (bp (bs (bl 0) he) (by decide))) (cl.le (by decide)) dRL.ne dRL.lead (by have := len_lr1 (0 - e); lia) (by rw [len_lin]; decide)
  obtain ⟨ds, hds, lds, efig⟩ := dig
  have p1 : ppow (lin (0 - r)) 1 = lin (0 - r) := ppow_one (tr_lin _)
  have p2 : ppow (lin (0 - r)) 2 = pmul (lin (0 - r)) (lin (0 - r)) := by rw [ppow, p1]
  have p3 : ppow (lin (0 - r)) 3 = l3P r := uniq (fun x => by
    rw [ev_ppow, er, ev_l3, xp, xp, xp, xp]; grind) (Tr.pmul (by rw [p2]; exact (tr_lin _).pmul (tr_lin _)) (tr_lin _)) (tr_l3 r)
  have l2 : (pmul (lin (0 - r)) (lin (0 - r))).length = 3 := by rw [len_pmul (ne_lin _) (ne_lin _), len_lin]
  refine ⟨_, _, figs (lin (0 - r)) 3 0 ds ++ [], {
    la := Nat.le_of_ble_eq_true rfl
    lb := by simp
    lb' := by simp
    sb := fun v hv => by
      simp only [List.mem_cons, List.not_mem_nil, or_false] at hv
      rcases hv with rfl | rfl | rfl
      · exact sm_lb (bp P.b0 (by decide))
      · exact sm_lb (bp P.b1 (by decide))
      · exact sm_lb (by decide)
    sw := ⟨sm_lb (bp hw0 (by decide)), sm_lb (bp hw1 (by decide))⟩
    nf := by simp
    nf' := fun f hf => by
      simp only [List.mem_cons, List.not_mem_nil, or_false] at hf
      subst hf; simp
    nd := by simp
    nd' := fun f hf => by
      simp only [List.mem_cons, List.not_mem_nil, or_false] at hf
      rcases hf with rfl | rfl <;> simp
    fd := fder_of P fm
    dv := dK
    pr := ?pr
    lf := by rw [List.append_nil]; have := figs_len (lin (0 - r)) 3 0 ds; lia
    an := uK1
    af := ?af }⟩
  case pr =>
    rw [uK2]
    refine PartR.cons (factor := lin (0 - r)) (many := 3) (above := R1P r c e) (fun i hi => ?_) (by decide) ?_ hds (by lia) .nil
    · match i, hi with
      | 0, _ => exact mulOk_int (CM.one.le (by decide)) (cl.le (by decide)) (Nat.le_of_ble_eq_true rfl) (by rw [len_lin]; decide)
      | 1, _ => rw [p1]; exact mulOk_int (cl.le (by decide)) (cl.le (by decide)) (by rw [len_lin]; decide) (by rw [len_lin]; decide)
      | 2, _ =>
        rw [p2]
        have := cl.pmul1 cl
        rw [len_lin] at this
        exact mulOk_int (this.le (by decide)) (cl.le (by decide)) (by rw [l2]; decide) (by rw [len_lin]; decide)
    · rw [p3]
      exact share_one d33 (tr_l3 r) dR3 tR (by rw [len_l3]; lia)
  case af =>
    rw [List.append_nil, efig]; rfl
end Mine

/-! part L6 -/
namespace Mine
def sqP (i : Int) : Pl := rats [i * i, 2 * i, 1]
theorem ev_sq (i : Int) (x : Rat) : ev (sqP i) x = (i + x) * (i + x) := by
  unfold sqP
  simp only [rats_cons, rats_nil, ev_cons, ev_nil, Rat.intCast_mul, cast_one, cast_two]; grind
theorem last_sq (i : Int) : last (sqP i) = 1 := rfl
theorem tr_sq (i : Int) : Tr (sqP i) := fun _ => by rw [last_sq]; decide
theorem ne_sq (i : Int) : sqP i ≠ [] := by simp [sqP, rats]
theorem len_sq (i : Int) : (sqP i).length = 3 := rfl
theorem cm_sq {i : Int} (h : i.natAbs ≤ 13) : CM 1 10 (sqP i) := cm_rats (alc (bp (nm h h) (by decide)) (alc (bp (nm (bl 2) h) (by decide)) (alc (by decide) al0)))
theorem pow_sq (i : Int) : ppow (lin i) 2 = sqP i := by
  rw [ppow, ppow_one (tr_lin _)]
  exact uniq (fun x => by rw [ev_pmul, ev_lin, ev_sq]) ((tr_lin _).pmul (tr_lin _)) (tr_sq _)
theorem share_ext {N bb : Pl} {i j k l : Int} (hi : i.natAbs ≤ 13) (hj : j.natAbs ≤ 13) (tN : Tr N) (cN : CM 1 13 N) (lN : N.length ≤ 3) (tb : Tr bb) (cb : CM 1 16 bb) (lb : bb.length = 5) (eb : ∀ x, ev bb x = ev (sqP i) x * ev (sqP j) x)
    (bz : ∃ p q : Pl, ∀ x, 1 = ev p x * ev (sqP i) x + ev q x * ev (sqP j) x) (eN : ∀ x, ev N x = -k * ev (sqP i) x - l * ev (sqP j) x) : ShareR N bb (sqP j) (lr [0 - k]) := by
  have cA := cm_sq hi; have cB := cm_sq hj
  have hl : last (sqP j) ≠ 0 := by rw [last_sq]; decide
  obtain ⟨u1, _⟩ := div_uniq (a := bb) (b := sqP j) (q := sqP i) (r := []) (ne_sq j) hl tb (tr_sq i) .nil (by rw [len_sq]; decide) fun x => by rw [eb, ev_nil]; grind
  have d1 : DivOk bb (sqP j) := divOk_int (cb.le (by decide)) (cB.le (by decide)) (ne_sq j) hl (by lia) (by rw [len_sq]; decide)
  obtain ⟨res, hE, ⟨m, m0, m1, cm1⟩, l1, c2, c3⟩ := ext_ex (tr_sq i) (tr_sq j) cA cB (by rw [len_sq]; decide) (len_sq j)
  obtain ⟨v, v0, er, t2, ee⟩ := ext_at (a := sqP i) (b := sqP j) hE (tr_sq i) (tr_sq j) Tr.one .nil (fun x => by simp only [ev_cons, ev_nil]; grind) (fun x => by simp only [ev_cons, ev_nil]; grind) bz
  have lv : last res.1 = v := by rw [er]; rfl
  have hz : v * v⁻¹ = 1 := by grind
  -- the size of the inverse
  obtain ⟨w, hw, ew⟩ : ∃ w : Int, w.natAbs < 2 ^ 100 ∧ v * (m : Rat) = (w : Rat) := cm1 v (by rw [er]; simp)
  have m0' : (m : Rat) ≠ 0 := by
    have := natCast_sub_ne m0
    intro q; apply this; rw [q]; grind
  have w0 : w ≠ 0 := by
    rintro rfl
    have : v * (m : Rat) = 0 := by rw [ew]; rfl
    grind
  have hσ : ((w.natAbs : Nat) : Rat) = (w.sign : Rat) * (w : Rat) := by
    have h1 := sign_abs w
    have h2 : (((w.natAbs : Nat) : Int) : Rat) = ((w.natAbs : Nat) : Rat) := by exact_mod_cast rfl
    rw [← h2, h1, Rat.intCast_mul]
  have s1 : w.sign.natAbs = 1 := Int.natAbs_sign_of_ne_zero w0
  obtain ⟨⟨f, f0, f1, cf⟩, lf⟩ := c2
  have ct : CM (f * w.natAbs) (1700 + 100) (pscale res.2.1 (last res.1)⁻¹) := by
    refine cf.pscale (i := w.sign * (m : Int)) ?_ ?_
    · rw [Int.natAbs_mul, s1, Nat.one_mul, Int.natAbs_natCast]; exact m1
    · have e2 : ((m : Int) : Rat) = (m : Rat) := by exact_mod_cast rfl
      rw [lv, hσ, Rat.intCast_mul, e2, ← ew]; grind
  have fw0 : 0 < f * w.natAbs := Nat.mul_pos f0 (by lia)
  have fw1 : f * w.natAbs < 2 ^ (1700 + 100) := mul_lt_pow f1 hw
  have lt := len_pscale_le res.2.1 (last res.1)⁻¹
  have lm : N.length * (pscale res.2.1 (last res.1)⁻¹).length ≤ 3 * 10 := Nat.mul_le_mul lN (by lia)
  have M : MulOk N (pscale res.2.1 (last res.1)⁻¹) := ⟨⟨1, f * w.natAbs, 13, 1800, 1, 1800, cN, ct, by decide, fw0, by decide, fw1, by show 13 + 1800 + _ ≤ 4400; lia, by decide⟩, by lia, by lia⟩
  have cp := cN.pmul ct
  have lp : (pmul N (pscale res.2.1 (last res.1)⁻¹)).length ≤ 13 := by
    by_cases h : N = [] ∨ pscale res.2.1 (last res.1)⁻¹ = []
    · unfold pmul; rw [if_pos h]; simp
    · rw [len_pmul (fun e => h (.inl e)) (fun e => h (.inr e))]; lia
  have D : DivOk (pmul N (pscale res.2.1 (last res.1)⁻¹)) (sqP j) :=
    (div_sz (d := 1800) (ε := 1) 14 3000 (ne_sq j) hl (cp.le (S := 1850) (by lia)) (by rw [Nat.one_mul]; exact fw0) (by rw [Nat.one_mul]; exact fw1) cB (by decide) (by decide) (by rw [len_sq]; lia) (by decide) (by decide) (by decide) (by decide) (by lia) (by rw [len_sq]; decide)).1
  have S := ShareR.ext (top := N) (bottom := bb) (wf := sqP j) (res := res) d1 (by rw [u1, len_sq]; decide) (by rw [u1]; exact cA.BL1 (by decide)) (cB.BL1 (by decide)) (by rw [u1]; exact hE) (by rw [er]; simp) (by rw [lv]; exact v0)
    (cm1.bl m0 m1 (by decide) (by decide)) (CF.bl ⟨⟨f, f0, f1, cf⟩, lf⟩ (by decide)) (c3.bl (by decide)) (by lia) (by lia) (by have := c3.len; lia) M D
  have tt : Tr (pscale res.2.1 (last res.1)⁻¹) := t2.pscale _
  obtain ⟨_, u2⟩ := div_uniq (a := pmul N (pscale res.2.1 (last res.1)⁻¹)) (b := sqP j) (q := psub (pscale (pscale res.2.2 v⁻¹) k) (pscale (pscale res.2.1 v⁻¹) l)) (r := lr [0 - k]) (ne_sq j) hl (tN.pmul tt) (Tr.psub _ _) (tr_lr _) (by rw [len_sq]; have := len_lr1 (0 - k); lia) fun x => by
    rw [lv, ev_pmul, ev_psub, ev_pscale, ev_pscale, ev_pscale, ev_pscale, ev_lr1, eN, Rat.intCast_sub, cast_zero]
    have h1 := ee x
    have h2 : 1 = (ev res.2.1 x * v⁻¹) * ev (sqP i) x + (ev res.2.2 x * v⁻¹) * ev (sqP j) x := by
      have : v⁻¹ * v = (ev res.2.1 x * v⁻¹) * ev (sqP i) x + (ev res.2.2 x * v⁻¹) * ev (sqP j) x := by
        conv => lhs; rw [h1]
        grind
      rw [← this]; grind
    rw [ev_pscale]
    generalize ev res.2.1 x * v⁻¹ = T at *
    generalize ev res.2.2 x * v⁻¹ = V at *
    generalize ev (sqP i) x = A at *
    generalize ev (sqP j) x = B at *
    clear ee eN h1
    grind
  rwa [u2] at S
end Mine

/-! part L7 -/
namespace Mine
theorem par0 {r d c e w0 w1 : Int} (hr : r.natAbs ≤ 7) (hd : 1 ≤ d ∧ d ≤ 6) (hc : 1 ≤ c ∧ c ≤ 4) (he : e.natAbs ≤ 4) (hw0 : w0.natAbs ≤ 2) (hw1 : w1.natAbs ≤ 2) :
    Par (0 + (0 - r) * (0 - r - d)) (0 + (0 - r) * 1 + 1 * (0 - r - d)) (c * (0 - r - d) + e * (0 - r)) (c + e) w0 w1 := by
  have h1 := bs (bl 0) hr
  have h2 := bs h1 (bk hd)
  exact ⟨bt (ba (bl 0) (nm h1 h2)) (by decide), bt (ba (ba (bl 0) (nm h1 (bl 1))) (nm (bl 1) h2)) (by decide), bt (ba (nm (bk hc) h2) (nm he h1)) (by decide), bt (ba (bk hc) he) (by decide), hw0, hw1⟩
theorem good0 {r d c e w0 w1 : Int} (hr : r.natAbs ≤ 7) (hd : 1 ≤ d ∧ d ≤ 6) (hc : 1 ≤ c ∧ c ≤ 4) (he : e.natAbs ≤ 4) (he0 : e ≠ 0) (hw0 : w0.natAbs ≤ 2) (hw1 : w1.natAbs ≤ 2) :
    ∃ t b fg, LawGood w0 w1 (lawIn0 r d c e) t b fg := by
  have P := par0 (w0 := w0) (w1 := w1) hr hd hc he hw0 hw1
  have hx : lawIn0 r d c e = ⟨[c * (0 - r - d) + e * (0 - r), c + e], [0 + (0 - r) * (0 - r - d), 0 + (0 - r) * 1 + 1 * (0 - r - d), 1], [([0 - r, 1], 2), ([0 - r - d, 1], 2)], [([0 - r, 1], 2, [0 - c]), ([0 - r - d, 1], 2, [0 - e])]⟩ := rfl
  rw [hx]
  have e0 : ((0 + (0 - r) * (0 - r - d) : Int) : Rat) = r * (r + d) := by
    simp only [Rat.intCast_add, Rat.intCast_sub, Rat.intCast_mul, cast_zero]; grind
  have e1 : ((0 + (0 - r) * 1 + 1 * (0 - r - d) : Int) : Rat) = -2 * r - d := by
    simp only [Rat.intCast_add, Rat.intCast_sub, Rat.intCast_mul, cast_zero, cast_one]; grind
  have e2 : ((c * (0 - r - d) + e * (0 - r) : Int) : Rat) = -(c * (r + d)) - e * r := by
    simp only [Rat.intCast_add, Rat.intCast_sub, Rat.intCast_mul, cast_zero]; grind
  have e3 : ((c + e : Int) : Rat) = c + e := Rat.intCast_add ..
  generalize (0 + (0 - r) * (0 - r - d) : Int) = b0 at *
  generalize (0 + (0 - r) * 1 + 1 * (0 - r - d) : Int) = b1 at *
  generalize (c * (0 - r - d) + e * (0 - r) : Int) = a0 at *
  generalize ha1 : (c + e : Int) = a1 at *
  have c0 : (c : Rat) ≠ 0 := fun q => by have := ic_eq_zero.mp q; lia
  have d0 : (d : Rat) ≠ 0 := fun q => by have := ic_eq_zero.mp q; lia
  have ee0 : (e : Rat) ≠ 0 := fun q => he0 (ic_eq_zero.mp q)
  have eL : ∀ x : Rat, ev (sqP (0 - r)) x = (x - r) * (x - r) := fun x => by
    rw [ev_sq, Rat.intCast_sub, cast_zero]; grind
  have eS : ∀ x : Rat, ev (sqP (0 - r - d)) x = (x - r - d) * (x - r - d) := fun x => by
    rw [ev_sq, Rat.intCast_sub, Rat.intCast_sub, cast_zero]; grind
  have evL : ∀ x : Rat, ev (lin (0 - r)) x = x - r := fun x => by
    rw [ev_lin, Rat.intCast_sub, cast_zero]; grind
  have evS : ∀ x : Rat, ev (lin (0 - r - d)) x = x - r - d := fun x => by
    rw [ev_lin, Rat.intCast_sub, Rat.intCast_sub, cast_zero]; grind
  have eN : ∀ x : Rat, ev (N0 b0 b1 a0 a1) x = -c * ((x - r - d) * (x - r - d)) - e * ((x - r) * (x - r)) := fun x => by
    rw [ev_N0, e0, e1, e2, e3]; grind
  have eB : ∀ x : Rat, ev (bbP b0 b1) x = ((x - r) * (x - r)) * ((x - r - d) * (x - r - d)) := fun x => by
    rw [ev_bb, e0, e1]; grind
  have h0 : N0 b0 b1 a0 a1 ≠ [] := by
    intro q
    have h1 : ev (N0 b0 b1 a0 a1) (r : Rat) = 0 := by rw [q, ev_nil]
    rw [eN] at h1
    have : c * (d * d) = (0 : Rat) := by grind
    have h2 : (d : Rat) * d ≠ 0 := by grind
    grind
  -- the two squares are coprime
  obtain ⟨δ, hδ⟩ : ∃ δ : Rat, δ * (d * d * d) = 1 := ⟨((d * d * d : Rat))⁻¹, by
    have : (d * d * d : Rat) ≠ 0 := by
      have h2 : (d : Rat) * d ≠ 0 := by grind
      grind
    grind⟩
  obtain ⟨al, hal⟩ : ∃ p : Pl, ∀ x : Rat, ev p x = (-2 * (x - r) + 3 * d) * δ := ⟨[(2 * r + 3 * d) * δ, -2 * δ], fun x => by
    simp only [ev_cons, ev_nil]; grind⟩
  obtain ⟨be, hbe⟩ : ∃ p : Pl, ∀ x : Rat, ev p x = (2 * (x - r) + d) * δ := ⟨[(-2 * r + d) * δ, 2 * δ], fun x => by
    simp only [ev_cons, ev_nil]; grind⟩
  have key : ∀ x : Rat, 1 = (-2 * (x - r) + 3 * d) * δ * ((x - r) * (x - r)) + (2 * (x - r) + d) * δ * ((x - r - d) * (x - r - d)) := fun x => by
    rw [← hδ]; grind
  have bz : ∃ p q : Pl, ∀ x, 1 = ev p x * ev (N0 b0 b1 a0 a1) x + ev q x * ev (bbP b0 b1) x := by
    refine ⟨psub (pscale (pmul (pmul be be) (sqP (0 - r - d))) (-((c : Rat)⁻¹))) (pscale (pmul (pmul al al) (sqP (0 - r))) ((e : Rat)⁻¹)),
      psub (pscale (pmul al be) 2) (padd (pscale (pmul be be) (e * (c : Rat)⁻¹)) (pscale (pmul al al) (c * (e : Rat)⁻¹))), fun x => ?_⟩
    rw [ev_psub, ev_pscale, ev_pscale, ev_pmul, ev_pmul, ev_pmul, ev_pmul, ev_psub, ev_padd, ev_pscale, ev_pscale, ev_pscale, ev_pmul, ev_pmul, ev_pmul, hal, hbe, eN, eB, eL, eS]
    have k := key x
    have hc1 : (c : Rat) * (c : Rat)⁻¹ = 1 := by grind
    have he1 : (e : Rat) * (e : Rat)⁻¹ = 1 := by grind
    generalize (-2 * (x - r) + 3 * d) * δ = A at *
    generalize (2 * (x - r) + d) * δ = B at *
    generalize (x - r) * (x - r) = L at *
    generalize (x - r - d) * (x - r - d) = S at *
    generalize (c : Rat)⁻¹ = ci at *
    generalize (e : Rat)⁻¹ = ei at *
    generalize (c : Rat) = c at *
    generalize (e : Rat) = e at *
    clear eN eB eL eS evL evS hal hbe key hδ e0 e1 e2 e3
    have k2 : 1 = (A * L + B * S) * (A * L + B * S) := by rw [← k]; grind
    have k3 : (B * B * S * -ci - A * A * L * ei) * (-c * S - e * L) = (c * ci) * (B * B * S * S) + (e * ei) * (A * A * L * L) + (e * ci) * (B * B * S * L) + (c * ei) * (A * A * L * S) := by grind
    rw [k3, hc1, he1]
    grind
  have cb := cm_bb P
  have cn := cm_N0 P
  have hcl : ∀ x : Rat, ev (N0 b0 b1 a0 a1) x = -c * ev (sqP (0 - r - d)) x - e * ev (sqP (0 - r)) x := fun x => by rw [eN, eL, eS]
  have hcr : ∀ x : Rat, ev (N0 b0 b1 a0 a1) x = -e * ev (sqP (0 - r)) x - c * ev (sqP (0 - r - d)) x := fun x => by rw [eN, eL, eS]; grind
  have s1 : ShareR (N0 b0 b1 a0 a1) (bbP b0 b1) (sqP (0 - r)) (lr [0 - c]) := share_ext (i := 0 - r - d) (j := 0 - r) (k := c) (l := e) (bs (bs (bl 0) hr) (bk hd)) (bt (bs (bl 0) hr) (by decide)) tr_N0 cn len_N0 tr_bb cb len_bb (fun x => by rw [eB, eL, eS]; grind)
    ⟨be, al, fun x => by rw [hbe, hal, eL, eS]; have := key x; grind⟩ hcl
  have s2 : ShareR (N0 b0 b1 a0 a1) (bbP b0 b1) (sqP (0 - r - d)) (lr [0 - e]) := share_ext (i := 0 - r) (j := 0 - r - d) (k := e) (l := c) (bt (bs (bl 0) hr) (by decide)) (bs (bs (bl 0) hr) (bk hd)) tr_N0 cn len_N0 tr_bb cb len_bb (fun x => by rw [eB, eL, eS])
    ⟨al, be, fun x => by rw [hbe, hal, eL, eS]; have := key x; grind⟩ hcr
  have hf1 : lr [0 - c] ≠ [] := lr_ne (v := 0 - c) (by simp) (by lia)
  have hf2 : lr [0 - e] ≠ [] := lr_ne (v := 0 - e) (by simp) (by lia)
  have cl1 := cm_lin (i := 0 - r) (bp (bs (bl 0) hr) (by decide))
  have cl2 := cm_lin (i := 0 - r - d) (bp (bs (bs (bl 0) hr) (bk hd)) (by decide))
  have mk : ∀ {i j : Int}, CM 1 6 (lin i) → j.natAbs ≤ 4 → lr [0 - j] ≠ [] → DigR (lin i) (lr [0 - j]) [lr [0 - j]] := fun {i j} cl hj hf =>
    dig_one (ne_lin i) (by rw [last_lin]; decide) hf (tr_lr _) (by rw [len_lin]; have := len_lr1 (0 - j); lia) (divOk_int (cm_lr1 (R := 100) (bp (bs (bl 0) hj) (by decide))) (cl.le (by decide)) (ne_lin i) (by rw [last_lin]; decide) (by have := len_lr1 (0 - j); lia) (by rw [len_lin]; decide))
  have mo : ∀ {i : Int}, CM 1 6 (lin i) → ∀ k, k < 2 → MulOk (ppow (lin i) k) (lin i) := fun {i} cl k hk => by
    match k, hk with
    | 0, _ => exact mulOk_int (CM.one.le (by decide)) (cl.le (by decide)) (Nat.le_of_ble_eq_true rfl) (by rw [len_lin]; decide)
    | 1, _ => rw [ppow_one (tr_lin _)]; exact mulOk_int (cl.le (by decide)) (cl.le (by decide)) (by rw [len_lin]; decide) (by rw [len_lin]; decide)
  refine ⟨_, _, figs (lin (0 - r)) 2 0 [lr [0 - c]] ++ (figs (lin (0 - r - d)) 2 0 [lr [0 - e]] ++ []), {
    la := Nat.le_of_ble_eq_true rfl
    lb := by simp
    lb' := by simp
    sb := fun v hv => by
      simp only [List.mem_cons, List.not_mem_nil, or_false] at hv
      rcases hv with rfl | rfl | rfl
      · exact sm_lb (bp P.b0 (by decide))
      · exact sm_lb (bp P.b1 (by decide))
      · exact sm_lb (by decide)
    sw := ⟨sm_lb (bp hw0 (by decide)), sm_lb (bp hw1 (by decide))⟩
    nf := by simp
    nf' := fun f hf => by
      simp only [List.mem_cons, List.not_mem_nil, or_false] at hf
      rcases hf with rfl | rfl <;> simp
    nd := by simp
    nd' := fun f hf => by
      simp only [List.mem_cons, List.not_mem_nil, or_false] at hf
      rcases hf with rfl | rfl <;> simp
    fd := fder_of P (fmake_low P h0 bz)
    dv := divOk_N P
    pr := ?pr
    lf := by
      have := figs_len (lin (0 - r)) 2 0 [lr [0 - c]]
      have := figs_len (lin (0 - r - d)) 2 0 [lr [0 - e]]
      simp only [List.length_append, List.length_cons, List.length_nil] at *
      lia
    an := divN.1
    af := ?af }⟩
  case pr =>
    rw [divN.2]
    refine PartR.cons (factor := lin (0 - r)) (many := 2) (above := lr [0 - c]) (mo cl1) (by decide) (by rw [pow_sq]; exact s1) (mk cl1 (bk hc) hf1) (Nat.le_of_ble_eq_true rfl) ?_
    exact PartR.cons (factor := lin (0 - r - d)) (many := 2) (above := lr [0 - e]) (mo cl2) (by decide) (by rw [pow_sq]; exact s2) (mk cl2 he hf2) (Nat.le_of_ble_eq_true rfl) .nil
  case af =>
    show _ = ([(lin (0 - r), ((2 : Nat) : Int), lr [0 - c]), (lin (0 - r - d), ((2 : Nat) : Int), lr [0 - e])] : List Fg).filter fun f => decide (f.2.2 ≠ [])
    simp only [figs, if_neg hf1, if_neg hf2, List.filter_cons, List.filter_nil, ne_eq, hf1, hf2, not_false_eq_true, decide_true, if_true]
    rfl
theorem law_good (ns : List Int) : ∃ t b fg, LawGood (drawn ns 3 5 - 2) (drawn ns 4 5 - 2) (lawIn (drawn ns 0 15 - 7) (1 + drawn ns 1 6) (drawn ns 2 3) (1 + drawn ns 5 4) (drawn ns 6 7 - 3)) t b fg := by
  have b0 : ∀ k (m : Int), 0 < m → 0 ≤ drawn ns k m ∧ drawn ns k m < m := fun k m h => fmod_rng _ h
  have r0 := b0 0 15 (by decide); have r1 := b0 1 6 (by decide); have r2 := b0 2 3 (by decide); have r3 := b0 3 5 (by decide); have r4 := b0 4 5 (by decide); have r5 := b0 5 4 (by decide); have r6 := b0 6 7 (by decide)
  have kr := dk (k := 7) (K := 7) r0 (by decide) (by decide)
  have k3 := dk (k := 2) (K := 2) r3 (by decide) (by decide)
  have k4 := dk (k := 2) (K := 2) r4 (by decide) (by decide)
  have k6 : (drawn ns 6 7 - 3).natAbs ≤ 4 := bt (dk (k := 3) (K := 3) r6 (by decide) (by decide)) (by decide)
  have kd := dq (m := 6) r1
  have kc := dq (m := 4) r5
  unfold lawIn
  by_cases h0 : drawn ns 2 3 = 0
  · rw [if_pos h0]
    by_cases he : drawn ns 6 7 - 3 = 0
    · rw [if_neg (by simpa using he)]
      exact good0 kr kd kc (by decide) (by decide) k3 k4
    · rw [if_pos he]
      exact good0 kr kd kc k6 he k3 k4
  · rw [if_neg h0]
    by_cases h1 : drawn ns 2 3 = 1
    · rw [if_pos h1]
      exact good1 kr kc k6 k3 k4
    · rw [if_neg h1]
      exact good2 kr kd kc k6 k3 k4
end Mine

/-! part J0 -/
namespace Mine
open PySem PySem.W PyProof.Rows
set_option maxRecDepth 100000
theorem rd_ints {G : PM} {vs : List Value} {ns : List Int} (h : IntsAre vs ns) : RdAll G vs (ns.map .int) := by
  induction h with
  | nil => exact .nil
  | cons n t _ ih => exact .cons (.int n t) ih
theorem room0 (env : Env) : Room (callerA.deeper env) 10 := ⟨rfl, by show 1 + claimMargin + 1 + 10 < recursionLimit; decide, by show 4 + 3 + 8 * 10 + 200 < cLine; decide⟩
theorem law_run {prog : Program} {w : World} {s₁ : Shared} {h₁ : Heap} {tk : Nat} {mg mb : Str → Option Value} {loose : List Str} {mean : ExcName → Option Value} {d : DefRec} {body : List Stmt} {env : Env} {A : Around} {l : Addr} {vs : List Value} {ns : List Int}
    (T : Top PP loose mean mg mb s₁.heap) (TW : TopW PP mg s₁.heap) (hfree : ∀ x ∈ bltNames, x ∉ startupNames ∧ x ∉ loose ∧ x ∉ (recsOf PP).map (·.name) ∧ x ∉ (litsOf PP).map (·.1) ∧ x ∉ (clssOf PP loose).map (·.name))
    (hL : s₁.heap.IsList l vs.toArray) (hI : IntsAre vs ns) (hn : ¬ ((63 : Int) < (ns.length : Int)))
    (H : ∃ t b fg, LawGood (drawn ns 3 5 - 2) (drawn ns 4 5 - 2) (lawIn (drawn ns 0 15 - 7) (1 + drawn ns 1 6) (drawn ns 2 3) (1 + drawn ns 5 4) (drawn ns 6 7 - 3)) t b fg)
    (hd : (recsOf PP)[30]? = some d) (hb : d.body = body) (hsc : env.scope = d.scope) (hg : env.globals = mainGlobals) (hbl : env.builtins = builtinsNs) (hk : env.scope.kind = .function) (hlo : env.locals = s₁.heap.objs.size) (hkx : env.kindOf "script" = some .local)
    (room : Room A 10) (F : Fr s₁.heap env.locals h₁ (fun x => List.lookup x [(("script" : Str), Value.ref l)])) :
    wpAny (model prog w) A (execs body env) (fun f s' => f = .ret (.bool true) ∧ Keeps s₁ s') Fls { s₁ with heap := h₁, toks := tk } := by
  have W : Wd PP mg s₁.heap := ⟨T.g, ⟨mb, T.b, T.builtins⟩, T.nolimit, T.fn, TW.lits, fun x hx => by
    obtain ⟨h1, h2, h3, h4, h5⟩ := hfree x hx
    exact T.free x h1 h2 h3 h4 h5⟩
  obtain ⟨body', sc, ⟨d', e1, e2, e4⟩, ex⟩ := law_ex (prog := prog) (w := w) W (by lia) H
  obtain rfl : d = d' := Option.some.inj (hd.symm.trans e1)
  subst hb e2
  obtain ⟨ol, hol, hcl, k, hdl⟩ := hL
  have st : St env s₁ s₁.heap.get? (fun _ => none) [("script", iD ns)] none s₁.heap.get? (fun x => List.lookup x [(("script" : Str), Value.ref l)]) { s₁ with heap := h₁, toks := tk } := by
    refine ⟨⟨h₁, tk, rfl, F.keep⟩, F.ns, F.keep, Le.rfl', fun a o e _ => e, by rw [hlo]; exact size_none _, by rw [hlo]; exact size_none _, fun x d e => .inl ?_, (fun x b ds e => nomatch e), (fun a o e => nomatch e)⟩
    rw [List.lookup_cons] at e
    cases hx : x == ("script" : Str) with
    | false => rw [hx] at e; cases e
    | true =>
      rw [hx] at e; cases e
      obtain rfl := beq_iff_eq.mp hx
      exact ⟨hkx, .ref l, by simp [List.lookup_cons], .list hol hcl hdl (by simpa using rd_ints hI)⟩
  refine wpAny_mono (ex A env s₁ s₁.heap.get? (fun _ => none) _ _ _ ⟨room, hsc.trans e4, ⟨hg, hbl, hk⟩, fun _ _ e => e, fun _ _ e => e⟩ st) (fun f s' e => ?_) fun _ _ x => x
  cases f with
  | ret v =>
    obtain ⟨kk, r⟩ := e
    cases r
    exact ⟨rfl, kk⟩
  | _ => exact e.elim
end Mine

open PySem PySem.W PyProof.Rows
set_option maxRecDepth 100000 in
set_option maxHeartbeats 8000000 in
theorem PySem.Challenge.cw_sa0104_01_holds : PySem.Challenge.rw_sa0104_01.Holds := by
  w_on
  o_law
  refine holds_open (q := Mine.vw) (loose := [Str.ofString "F0"]) (Xt := fun s => xlAt Mine.vw [] s && recOk (RowW.records Mine.rw0) s) (XP := XL Mine.vw []) (Yf := Hook.obs Hook.none) (Ya := Hook.val Hook.none) (YP := Hook.says Hook.none) (N := 2682) Mine.left (Hook.of Hook.none) (Hook.keeps Hook.none) (fun s e => xl_of s (Bool.and_eq_true_iff.mp e).1) XL.keeps (by rfl) (by rfl) (by rfl) (fun s e => recFacts_of (Bool.and_eq_true_iff.mp e).2) (by rfl) (by first | assumption | decide +kernel) (by decide +kernel) ⟨rfl, rfl, rfl, rfl, rfl, by decide +kernel⟩ ?hw ?hc
  case hw => w_witness2
  case hc =>
    intro w s₀ s₁ mg mb G Y fa o pm cd doc dV kV ho hd hcd hD hmg hg args vals as hpre hlay hrd hwl hlo
    k_behind G ho hd hcd hD hmg hpre hlay hrd hwl hlo cd
    all_goals try k_fold
    rename Top _ _ _ _ _ _ => TT
    rename TopW _ _ _ => TTW
    rename Heap.IsList _ _ _ => HL
    rename IntsAre _ _ => HI
    rename Fr _ _ _ _ => FF
    rename ¬ (_ < _) => HN
    rename _ = #[] => HG
    refine wpAny_mono (Mine.law_run TT TTW (by decide +kernel) HL HI HN (Mine.law_good _) rfl rfl rfl rfl rfl rfl rfl rfl (Mine.room0 _) FF) (fun f s' h => ?_) fun _ _ x => x.elim
    obtain ⟨rfl, kk⟩ := h
    obtain ⟨h', tk, rfl, kp⟩ := kk
    refine ⟨.inl ⟨_, _, [], rfl, raisesW_false ?_, .bool true, ?_, unshared_nil⟩, kp, rfl, HG⟩
    · wrow_none_raised
    · wrow_post
