import PyProof.Rows.All
import Wide.All
import OpenK.AllK
import Wide.FinOn
import HandS.ForMost
import HandS.Wide
import HandS.IsInst
import HandS.Deep
import HandS.Style
import PySem.Challenge.RW_faultworks_k54_whole_costs_by_age
set_option Elab.async false
set_option linter.all false
set_option maxRecDepth 100000
set_option maxHeartbeats 8000000
/-! The plain mathematics of law k54: ratios as core rationals, gcd by remainders, costs by age. -/
namespace Fw
/-! ### the reduced ratio as the program makes it -/
/-- the sign that `reduced` gives to the divisor -/
def comm (a b : Int) : Int := if b < 0 then -(Int.gcd a b : Int) else (Int.gcd a b : Int)
theorem gcd_pos' {a b : Int} (hb : b ≠ 0) : 0 < Int.gcd a b := Int.gcd_pos_of_ne_zero_right a hb
theorem fdiv_exact {a c : Int} (hc : c ≠ 0) (h : c ∣ a) : Int.fdiv a c = a / c := by
  obtain ⟨k, rfl⟩ := h
  rw [Int.mul_fdiv_cancel_left _ hc, Int.mul_ediv_cancel_left _ hc]
theorem comm_ne {a b : Int} (hb : b ≠ 0) : comm a b ≠ 0 := by
  have h := gcd_pos' (a := a) hb
  unfold comm
  split <;> omega
theorem comm_dvd_left (a b : Int) : comm a b ∣ a := by
  unfold comm
  split
  · exact (Int.neg_dvd).mpr (Int.gcd_dvd_left ..)
  · exact Int.gcd_dvd_left ..
theorem comm_dvd_right (a b : Int) : comm a b ∣ b := by
  unfold comm
  split
  · exact (Int.neg_dvd).mpr (Int.gcd_dvd_right ..)
  · exact Int.gcd_dvd_right ..
theorem red_num {a b : Int} (hb : b ≠ 0) : a / comm a b = (Rat.divInt a b).num := by
  rw [Rat.num_divInt, Int.gcd_comm b a]
  unfold comm
  by_cases h : b < 0
  · rw [if_pos h, Int.sign_eq_neg_one_of_neg h, Int.ediv_neg, Int.neg_mul, Int.one_mul, Int.neg_ediv_of_dvd (Int.gcd_dvd_left ..)]
  · rw [if_neg h, Int.sign_eq_one_of_pos (by omega), Int.one_mul]
theorem red_den {a b : Int} (hb : b ≠ 0) : b / comm a b = ((Rat.divInt a b).den : Int) := by
  rw [Rat.den_divInt, if_neg hb, Int.gcd_comm b a]
  unfold comm
  by_cases h : b < 0
  · rw [if_pos h, Int.ediv_neg, Int.natCast_ediv, Int.ofNat_natAbs_of_nonpos (by omega), Int.neg_ediv_of_dvd (Int.gcd_dvd_right ..)]
  · rw [if_neg h, Int.natCast_ediv, Int.natAbs_of_nonneg (by omega)]
/-! ### sums, differences, products, quotients -/
theorem den_pos (r : Rat) : (0 : Int) < (r.den : Int) := by
  have := r.den_nz
  omega
theorem den_ne (r : Rat) : (r.den : Int) ≠ 0 := by
  have := den_pos r
  omega
theorem dd_ne (a b : Rat) : (a.den : Int) * (b.den : Int) ≠ 0 := Int.mul_ne_zero (den_ne a) (den_ne b)
theorem mk_add (a b : Rat) : Rat.divInt (a.num * b.den + b.num * a.den) (a.den * b.den) = a + b := by
  rw [Rat.add_def', ← Rat.divInt_ofNat, Int.natCast_mul]
theorem mk_sub (a b : Rat) : Rat.divInt (a.num * b.den - b.num * a.den) (a.den * b.den) = a - b := by
  rw [Rat.sub_def', ← Rat.divInt_ofNat, Int.natCast_mul]
theorem mk_mul (a b : Rat) : Rat.divInt (a.num * b.num) (a.den * b.den) = a * b := by
  rw [Rat.mul_def', ← Rat.divInt_ofNat, Int.natCast_mul]
theorem mk_div (a b : Rat) : Rat.divInt (a.num * b.den) (a.den * b.num) = a / b := by
  rw [Rat.div_def, Rat.inv_def]
  conv => rhs; lhs; rw [← Rat.num_divInt_den a]
  rw [Rat.divInt_mul_divInt]
theorem num_ne {b : Rat} (h : b ≠ 0) : b.num ≠ 0 := fun e => h (Rat.num_eq_zero.mp e)
theorem dn_ne {a b : Rat} (h : b ≠ 0) : (a.den : Int) * b.num ≠ 0 := Int.mul_ne_zero (den_ne a) (num_ne h)
/-! ### sizes -/
/-- both parts of a ratio are below 2 ^ n -/
structure Sz (n : Nat) (r : Rat) : Prop where
  num : r.num.natAbs < 2 ^ n
  den : r.den < 2 ^ n
theorem Sz.den' {n : Nat} {r : Rat} (h : Sz n r) : ((r.den : Nat) : Int).natAbs < 2 ^ n := by
  rw [Int.natAbs_natCast]
  exact h.den
theorem Sz.mono {n m : Nat} {r : Rat} (h : Sz n r) (l : n ≤ m) : Sz m r :=
  ⟨Nat.lt_of_lt_of_le h.num (Nat.pow_le_pow_right (by decide) l), Nat.lt_of_lt_of_le h.den (Nat.pow_le_pow_right (by decide) l)⟩
theorem natAbs_ediv_le (a : Int) (n : Nat) (h : (n : Int) ∣ a) : (a / (n : Int)).natAbs ≤ a.natAbs := by
  rw [Int.natAbs_ediv_of_dvd h]
  exact Nat.div_le_self _ _
theorem Sz.divInt {n : Nat} {a b : Int} (ha : a.natAbs < 2 ^ n) (hb : b.natAbs < 2 ^ n) (h0 : b ≠ 0) : Sz n (Rat.divInt a b) := by
  have h1 : (1 : Nat) < 2 ^ n := by
    have : 0 < b.natAbs := Int.natAbs_pos.mpr h0
    omega
  constructor
  · rw [← red_num h0]
    refine Nat.lt_of_le_of_lt ?_ ha
    rw [Int.natAbs_ediv_of_dvd (comm_dvd_left a b)]
    exact Nat.div_le_self _ _
  · rw [Rat.den_divInt, if_neg h0]
    exact Nat.lt_of_le_of_lt (Nat.div_le_self _ _) hb
theorem mul_lt {i j : Int} {a b : Nat} (ha : i.natAbs < 2 ^ a) (hb : j.natAbs < 2 ^ b) : (i * j).natAbs < 2 ^ (a + b) := by
  rw [Int.natAbs_mul, Nat.pow_add]
  exact Nat.mul_lt_mul'' ha hb
theorem add_lt {i j : Int} {a : Nat} (ha : i.natAbs < 2 ^ a) (hb : j.natAbs < 2 ^ a) : (i + j).natAbs < 2 ^ (a + 1) := by
  rw [Nat.pow_succ]
  omega
theorem sub_lt {i j : Int} {a : Nat} (ha : i.natAbs < 2 ^ a) (hb : j.natAbs < 2 ^ a) : (i - j).natAbs < 2 ^ (a + 1) := by
  rw [Nat.pow_succ]
  omega
theorem up {i : Int} {a b : Nat} (ha : i.natAbs < 2 ^ a) (h : a ≤ b) : i.natAbs < 2 ^ b := Nat.lt_of_lt_of_le ha (Nat.pow_le_pow_right (by decide) h)
theorem Sz.dd {n m : Nat} {a b : Rat} (ha : Sz n a) (hb : Sz m b) : ((a.den : Int) * (b.den : Int)).natAbs < 2 ^ (n + m) := mul_lt ha.den' hb.den'
theorem Sz.addN {n m : Nat} {a b : Rat} (ha : Sz n a) (hb : Sz m b) : (a.num * b.den + b.num * a.den).natAbs < 2 ^ (n + m + 1) :=
  add_lt (mul_lt ha.num hb.den') (Nat.add_comm m n ▸ mul_lt hb.num ha.den')
theorem Sz.subN {n m : Nat} {a b : Rat} (ha : Sz n a) (hb : Sz m b) : (a.num * b.den - b.num * a.den).natAbs < 2 ^ (n + m + 1) :=
  sub_lt (mul_lt ha.num hb.den') (Nat.add_comm m n ▸ mul_lt hb.num ha.den')
theorem Sz.add {n m : Nat} {a b : Rat} (ha : Sz n a) (hb : Sz m b) : Sz (n + m + 1) (a + b) := by
  rw [← mk_add]
  exact .divInt (ha.addN hb) (up (ha.dd hb) (Nat.le_succ _)) (dd_ne a b)
theorem Sz.sub {n m : Nat} {a b : Rat} (ha : Sz n a) (hb : Sz m b) : Sz (n + m + 1) (a - b) := by
  rw [← mk_sub]
  exact .divInt (ha.subN hb) (up (ha.dd hb) (Nat.le_succ _)) (dd_ne a b)
theorem Sz.mul {n m : Nat} {a b : Rat} (ha : Sz n a) (hb : Sz m b) : Sz (n + m) (a * b) := by
  rw [← mk_mul]
  exact .divInt (mul_lt ha.num hb.num) (ha.dd hb) (dd_ne a b)
theorem Sz.div {n m : Nat} {a b : Rat} (ha : Sz n a) (hb : Sz m b) (h : b ≠ 0) : Sz (n + m) (a / b) := by
  rw [← mk_div]
  exact .divInt (mul_lt ha.num hb.den') (mul_lt ha.den' hb.num) (dn_ne h)
theorem Sz.neg {n : Nat} {a : Rat} (ha : Sz n a) : Sz n (-a) := ⟨by rw [Rat.neg_num, Int.natAbs_neg]; exact ha.num, by rw [Rat.neg_den]; exact ha.den⟩
theorem Sz.zero : Sz 1 (0 : Rat) := ⟨by decide, by decide⟩
theorem Sz.one : Sz 1 (1 : Rat) := ⟨by decide, by decide⟩
theorem Sz.nat {n : Nat} {k : Nat} (h : k < 2 ^ n) (h0 : 0 < n) : Sz n (k : Rat) := ⟨by rw [Rat.num_natCast, Int.natAbs_natCast]; exact h, by rw [Rat.den_natCast]; exact Nat.one_lt_two_pow (by omega)⟩
/-! ### gcd by remainders -/
theorem gcd_step {a b : Int} (ha : 0 ≤ a) (hb : 0 < b) : Int.gcd b (Int.fmod a b) = Int.gcd a b := by
  obtain ⟨n, rfl⟩ := Int.eq_ofNat_of_zero_le ha
  obtain ⟨m, rfl⟩ := Int.eq_ofNat_of_zero_le (Int.le_of_lt hb)
  rw [Int.fmod_eq_emod_of_nonneg _ (by omega), ← Int.natCast_emod]
  show Nat.gcd m (n % m) = Nat.gcd n m
  rw [Nat.gcd_comm n m, Nat.gcd_rec m n, Nat.gcd_comm]
theorem fmod_lt {a b : Int} (hb : 0 < b) : 0 ≤ Int.fmod a b ∧ Int.fmod a b < b := by
  rw [Int.fmod_eq_emod_of_nonneg _ (by omega)]
  exact ⟨Int.emod_nonneg _ (by omega), Int.emod_lt_of_pos _ hb⟩
theorem gcd_abs (a b : Int) : Int.gcd (if a < 0 then -a else a) (if b < 0 then -b else b) = Int.gcd a b := by
  have e : ∀ x : Int, (if x < 0 then -x else x).natAbs = x.natAbs := fun x => by
    split <;> simp
  unfold Int.gcd
  rw [e, e]
theorem gcd_zero {a : Int} (h : 0 ≤ a) : (Int.gcd a 0 : Int) = a := by
  rw [Int.gcd_zero_right]
  exact Int.natAbs_of_nonneg h
theorem gcd_num_den (r : Rat) : Int.gcd r.num r.den = 1 := by
  have h := r.reduced
  unfold Int.gcd
  rw [Int.natAbs_natCast]
  exact h
end Fw
/-! The plain law: lives, costs by age, the least cost. -/
namespace Fw
def at' (S : List Rat) (k : Nat) : Rat := S.getD k 0
def psum (S : List Rat) : Nat → Rat
  | 0 => 0
  | k + 1 => psum S k + at' S k
theorem at_get {S : List Rat} {k : Nat} {r : Rat} (h : S[k]? = some r) : at' S k = r := by
  unfold at'
  rw [List.getD_eq_getElem?_getD, h]
  rfl
theorem get_at {S : List Rat} {k : Nat} (h : k < S.length) : S[k]? = some (at' S k) := by
  unfold at'
  rw [List.getD_eq_getElem?_getD, List.getElem?_eq_getElem h]
  rfl
theorem psum_szg {S : List Rat} (h : ∀ r ∈ S, Sz 30 r) : ∀ {k : Nat}, k ≤ S.length → Sz (1 + 31 * k) (psum S k)
  | 0, _ => Sz.zero
  | k + 1, hk => ((psum_szg h (by omega)).add (h _ (List.mem_of_getElem? (get_at (show k < S.length by omega))))).mono (by omega)
/-- a life that is not ended yet -/
structure Pre (L : List Rat) : Prop where
  first : L[0]? = some 1
  pos : ∀ r ∈ L, 0 < r
  mono : ∀ (k : Nat) (a b : Rat), L[k]? = some a → L[k + 1]? = some b → b ≤ a
  sz : ∀ r ∈ L, Sz (4 * L.length) r
theorem Pre.one : Pre [1] where
  first := rfl
  pos := fun r h => by
    rw [List.mem_singleton] at h
    rw [h]
    decide
  mono := fun k a b _ h => by simp at h
  sz := fun r h => by
    rw [List.mem_singleton] at h
    rw [h]
    exact Sz.one.mono (by decide)
theorem mul_le_self {a q : Rat} (ha : 0 < a) (hq : q ≤ 1) : a * q ≤ a := by
  have h := Rat.mul_le_mul_of_nonneg_left hq (Rat.le_of_lt ha)
  rwa [Rat.mul_one] at h
theorem Pre.step {L : List Rat} (h : Pre L) {a q : Rat} (ha : L[L.length - 1]? = some a) (hq : 0 < q) (hq1 : q ≤ 1) (hs : Sz 4 q) : Pre (L ++ [a * q]) where
  first := by
    have := h.first
    have hl : 0 < L.length := by
      cases L with
      | nil => simp at this
      | cons => simp
    rw [List.getElem?_append_left hl]
    exact this
  pos := fun r hr => by
    rcases List.mem_append.mp hr with h1 | h1
    · exact h.pos r h1
    · rw [List.mem_singleton.mp h1]
      exact Rat.mul_pos (h.pos a (List.mem_of_getElem? ha)) hq
  mono := fun k x y hx hy => by
    by_cases hk : k + 1 < L.length
    · rw [List.getElem?_append_left hk] at hy
      rw [List.getElem?_append_left (by omega)] at hx
      exact h.mono k x y hx hy
    · have h2 : k + 1 < (L ++ [a * q]).length := (List.getElem?_eq_some_iff.mp hy).1
      rw [List.length_append, List.length_singleton] at h2
      have e : k + 1 = L.length := by omega
      rw [List.getElem?_append_right (by omega), e, Nat.sub_self] at hy
      have ey : a * q = y := Option.some.inj hy
      rw [List.getElem?_append_left (by omega), show k = L.length - 1 by omega, ha] at hx
      have ex : a = x := Option.some.inj hx
      rw [← ey, ← ex]
      exact mul_le_self (h.pos a (List.mem_of_getElem? ha)) hq1
  sz := fun r hr => by
    rw [List.length_append, List.length_singleton]
    rcases List.mem_append.mp hr with h1 | h1
    · exact (h.sz r h1).mono (by omega)
    · rw [List.mem_singleton.mp h1]
      exact ((h.sz a (List.mem_of_getElem? ha)).mul hs).mono (by omega)
/-- a life -/
structure Life (S : List Rat) : Prop where
  two : 2 ≤ S.length
  eight : S.length ≤ 8
  first : S[0]? = some 1
  last : S[S.length - 1]? = some 0
  pos : ∀ (k : Nat) (r : Rat), k + 1 < S.length → S[k]? = some r → 0 < r
  mono : ∀ (k : Nat) (a b : Rat), S[k]? = some a → S[k + 1]? = some b → b ≤ a
  sz : ∀ r ∈ S, Sz 30 r
theorem Pre.life {L : List Rat} (h : Pre L) (h7 : L.length ≤ 7) : Life (L ++ [0]) := by
  have hl : 0 < L.length := by
    have := h.first
    cases L with
    | nil => simp at this
    | cons => simp
  constructor
  · rw [List.length_append, List.length_singleton]
    omega
  · rw [List.length_append, List.length_singleton]
    omega
  · rw [List.getElem?_append_left hl]
    exact h.first
  · rw [List.length_append, List.length_singleton, Nat.add_sub_cancel, List.getElem?_append_right (Nat.le_refl _), Nat.sub_self]
    rfl
  · intro k r hk e
    rw [List.length_append, List.length_singleton] at hk
    rw [List.getElem?_append_left (by omega)] at e
    exact h.pos r (List.mem_of_getElem? e)
  · intro k a b ea eb
    have h2 : k + 1 < (L ++ [(0 : Rat)]).length := (List.getElem?_eq_some_iff.mp eb).1
    rw [List.length_append, List.length_singleton] at h2
    rw [List.getElem?_append_left (by omega)] at ea
    by_cases hk : k + 1 < L.length
    · rw [List.getElem?_append_left hk] at eb
      exact h.mono k a b ea eb
    · rw [List.getElem?_append_right (by omega), show k + 1 - L.length = 0 by omega] at eb
      have e0 : (0 : Rat) = b := Option.some.inj eb
      rw [← e0]
      exact Rat.le_of_lt (h.pos a (List.mem_of_getElem? ea))
  · intro r hr
    rcases List.mem_append.mp hr with h1 | h1
    · exact (h.sz r h1).mono (by omega)
    · rw [List.mem_singleton.mp h1]
      exact Sz.zero.mono (by decide)
namespace Life
variable {S : List Rat} (h : Life S)
include h
theorem first' : at' S 0 = 1 := at_get h.first
theorem last' : at' S (S.length - 1) = 0 := at_get h.last
theorem pos' {k : Nat} (hk : k + 1 < S.length) : 0 < at' S k := h.pos k _ hk (get_at (by omega))
theorem nonneg {k : Nat} (hk : k < S.length) : 0 ≤ at' S k := by
  by_cases e : k + 1 < S.length
  · exact Rat.le_of_lt (h.pos' e)
  · rw [show k = S.length - 1 by omega, h.last']
    exact Rat.le_refl
theorem le_one : ∀ {k : Nat}, k < S.length → at' S k ≤ 1
  | 0, _ => by rw [h.first']; exact Rat.le_refl
  | k + 1, hk => Rat.le_trans (h.mono k _ _ (get_at (by omega)) (get_at hk)) (le_one (by omega))
theorem sz' {k : Nat} (hk : k < S.length) : Sz 30 (at' S k) := h.sz _ (List.mem_of_getElem? (get_at hk))
theorem mem_nonneg {r : Rat} (hr : r ∈ S) : 0 ≤ r := by
  obtain ⟨k, hk⟩ := List.getElem?_of_mem hr
  rw [← at_get hk]
  exact h.nonneg (List.getElem?_eq_some_iff.mp hk).1
theorem mem_le_one {r : Rat} (hr : r ∈ S) : r ≤ 1 := by
  obtain ⟨k, hk⟩ := List.getElem?_of_mem hr
  rw [← at_get hk]
  exact h.le_one (List.getElem?_eq_some_iff.mp hk).1
theorem psum_sz : ∀ {k : Nat}, k ≤ S.length → Sz (1 + 31 * k) (psum S k)
  | 0, _ => Sz.zero
  | k + 1, hk => ((psum_sz (by omega)).add (h.sz' (show k < S.length by omega))).mono (by omega)
theorem psum_pos : ∀ {k : Nat}, k + 1 < S.length → 0 < psum S (k + 1)
  | 0, _ => by
    show 0 < 0 + at' S 0
    rw [h.first', Rat.zero_add]
    decide
  | k + 1, hk => by
    have a := psum_pos (k := k) (by omega)
    have b := h.pos' (k := k + 1) hk
    show 0 < psum S (k + 1) + at' S (k + 1)
    grind
theorem psum_mono {a : Nat} : ∀ {b : Nat}, a ≤ b → b ≤ S.length → psum S a ≤ psum S b
  | 0, hb, _ => by
    rw [show a = 0 by omega]
    exact Rat.le_refl
  | b + 1, hb, hl => by
    by_cases e : a = b + 1
    · rw [e]
      exact Rat.le_refl
    · have i := psum_mono (a := a) (b := b) (by omega) (by omega)
      have j := h.nonneg (k := b) (by omega)
      show psum S a ≤ psum S b + at' S b
      grind
theorem psum_pos' {k : Nat} (h0 : 1 ≤ k) (hk : k < S.length) : 0 < psum S k := by
  obtain ⟨j, rfl⟩ : ∃ j, k = j + 1 := ⟨k - 1, by omega⟩
  exact h.psum_pos hk
end Life
theorem at_take {S : List Rat} {n k : Nat} (h : k < n) : at' (S.take n) k = at' S k := by
  unfold at'
  rw [List.getD_eq_getElem?_getD, List.getD_eq_getElem?_getD, List.getElem?_take_of_lt h]
theorem psum_take {S : List Rat} {n : Nat} : ∀ {k : Nat}, k ≤ n → psum (S.take n) k = psum S k
  | 0, _ => rfl
  | k + 1, h => by
    show psum (S.take n) k + at' (S.take n) k = psum S k + at' S k
    rw [psum_take (show k ≤ n by omega), at_take (show k < n by omega)]
/-! ### costs -/
/-- the mean cost of a step at an age -/
def cost (S : List Rat) (pl fl : Rat) (a : Nat) : Rat := (fl * (1 - at' S a) + pl * at' S a) / psum S a
theorem cost_sz {S : List Rat} (h : Life S) {pl fl : Rat} (hp : Sz 5 pl) (hf : Sz 5 fl) {a : Nat} (h0 : 1 ≤ a) (ha : a < S.length) : Sz 400 (cost S pl fl a) := by
  have h8 := h.eight
  have s := h.sz' ha
  have p := h.psum_sz (k := a) (by omega)
  have ne : psum S a ≠ 0 := Rat.ne_of_gt (h.psum_pos' h0 ha)
  exact (((hf.mul (Sz.one.sub s)).add (hp.mul s)).div p ne).mono (by omega)
/-- the law's own running sums: after t steps -/
def runC (S : List Rat) (pl fl : Rat) (a t : Nat) : Rat := pl * at' S a + fl * (1 - at' S t)
def runS (S : List Rat) (t : Nat) : Rat := psum S t - (t : Rat) * at' S t
theorem runC_zero {S : List Rat} (h : Life S) (pl fl : Rat) (a : Nat) : runC S pl fl a 0 = pl * at' S a := by
  unfold runC
  rw [h.first']
  grind
theorem runS_zero (S : List Rat) : runS S 0 = 0 := by
  unfold runS
  show (0 : Rat) - ((0 : Nat) : Rat) * _ = 0
  rw [show ((0 : Nat) : Rat) = 0 from rfl]
  grind
theorem runC_step (S : List Rat) (pl fl : Rat) (a t : Nat) : runC S pl fl a t + fl * (at' S t + -(at' S (t + 1))) = runC S pl fl a (t + 1) := by
  unfold runC
  grind
theorem runS_step (S : List Rat) (t : Nat) : runS S t + ((t + 1 : Nat) : Rat) * (at' S t + -(at' S (t + 1))) = runS S (t + 1) := by
  unfold runS
  rw [show psum S (t + 1) = psum S t + at' S t from rfl, Rat.natCast_add]
  rw [show ((1 : Nat) : Rat) = 1 from rfl]
  grind
theorem runS_end (S : List Rat) (a : Nat) : runS S a + (a : Rat) * at' S a = psum S a := by
  unfold runS
  grind
theorem run_cost (S : List Rat) (pl fl : Rat) (a : Nat) : runC S pl fl a a / psum S a = cost S pl fl a := by
  unfold runC cost
  rw [Rat.add_comm]
/-! ### the least -/
/-- b has the least cost of 1 .. n, and of these it is the least -/
structure Best (c : Nat → Rat) (n b : Nat) : Prop where
  lo : 1 ≤ b
  hi : b ≤ n
  le : ∀ j, 1 ≤ j → j ≤ n → c b ≤ c j
  lt : ∀ j, 1 ≤ j → j < b → c b < c j
theorem Best.one (c : Nat → Rat) : Best c 1 1 := ⟨Nat.le_refl _, Nat.le_refl _, fun j a b => by rw [show j = 1 by omega]; exact Rat.le_refl, fun j a b => by omega⟩
theorem Best.take {c : Nat → Rat} {n b : Nat} (h : Best c n b) (e : c (n + 1) < c b) : Best c (n + 1) (n + 1) where
  lo := by omega
  hi := Nat.le_refl _
  le := fun j a z => by
    by_cases hj : j = n + 1
    · rw [hj]
      exact Rat.le_refl
    · exact Rat.le_trans (Rat.le_of_lt e) (h.le j a (by omega))
  lt := fun j a z => by
    have := h.le j a (by omega)
    grind
theorem Best.keep {c : Nat → Rat} {n b : Nat} (h : Best c n b) (e : ¬ c (n + 1) < c b) : Best c (n + 1) b where
  lo := h.lo
  hi := Nat.le_succ_of_le h.hi
  le := fun j a z => by
    by_cases hj : j = n + 1
    · rw [hj]
      exact Rat.not_lt.mp e
    · exact h.le j a (by omega)
  lt := h.lt
/-- the law's list of the best, its first -/
def isGood (c : Nat → Rat) (n : Nat) (k : Nat) : Bool := decide (∀ j, j < n → ¬ c (j + 1) < c (k + 1))
theorem good_head {c : Nat → Rat} {n b : Nat} (h : Best c n b) : ((List.range n).filter (isGood c n))[0]? = some (b - 1) := by
  have h1 := h.lo
  have h2 := h.hi
  rw [← List.head?_eq_getElem?, List.head?_filter, List.find?_range_eq_some]
  refine ⟨?_, List.mem_range.mpr (by omega), fun j hj => ?_⟩
  · refine decide_eq_true fun j hj => ?_
    rw [show b - 1 + 1 = b by omega]
    exact Rat.not_lt.mpr (h.le _ (by omega) (by omega))
  · have hf : isGood c n j = false := by
      refine decide_eq_false fun z => z (b - 1) (by omega) ?_
      rw [show b - 1 + 1 = b by omega]
      exact h.lt _ (by omega) (by omega)
    rw [hf]
    rfl
/-- never early if failing is no dearer -/
theorem last_least {S : List Rat} (h : Life S) {pl fl : Rat} (hf : 0 ≤ fl) (hpf : ¬ pl < fl) {b : Nat} (hb : Best (cost S pl fl) (S.length - 1) b) : cost S pl fl b = cost S pl fl (S.length - 1) := by
  have h2 := h.two
  have hlo := hb.lo
  have hhi := hb.hi
  refine Rat.le_antisymm (hb.le _ (by omega) (Nat.le_refl _)) ?_
  rw [← Rat.not_lt]
  intro z
  have pb := h.psum_pos' hlo (by omega)
  have pn := h.psum_pos' (k := S.length - 1) (by omega) (by omega)
  have pm := h.psum_mono hhi (by omega)
  have sb := h.nonneg (k := b) (by omega)
  unfold cost at z
  rw [h.last', Rat.div_lt_iff pb, show fl * (1 - 0) + pl * 0 = fl by grind] at z
  have e : fl / psum S (S.length - 1) * psum S b ≤ fl / psum S (S.length - 1) * psum S (S.length - 1) := by
    refine Rat.mul_le_mul_of_nonneg_left pm ?_
    rw [Rat.div_def]
    exact Rat.mul_nonneg hf (Rat.le_of_lt (Rat.inv_pos.mpr pn))
  rw [Rat.div_mul_cancel (Rat.ne_of_gt pn)] at e
  have hp : fl ≤ pl := Rat.not_lt.mp hpf
  have m := Rat.mul_le_mul_of_nonneg_right hp sb
  grind
/-! ### draws -/
theorem factor_ok {b t : Int} (h0 : 0 ≤ t) (h1 : t < b) (h10 : b ≤ 10) : 0 < Rat.divInt (b - t) b ∧ Rat.divInt (b - t) b ≤ 1 ∧ Sz 4 (Rat.divInt (b - t) b) := by
  have hb : (0 : Rat) < (b : Rat) := Rat.intCast_pos.mpr (by omega)
  refine ⟨?_, ?_, Sz.divInt (by omega) (by omega) (by omega)⟩
  · rw [Rat.divInt_eq_div, Rat.lt_div_iff hb, Rat.zero_mul]
    exact Rat.intCast_pos.mpr (by omega)
  · rw [← Rat.not_lt, Rat.divInt_eq_div, Rat.lt_div_iff hb, Rat.one_mul, Rat.not_lt]
    exact Rat.intCast_le_intCast.mpr (by omega)
theorem half_ok {t : Int} (h0 : 0 ≤ t) (h1 : t < 12) : 0 ≤ Rat.divInt t 2 ∧ Sz 5 (Rat.divInt t 2) :=
  ⟨Rat.divInt_nonneg h0 (by decide), Sz.divInt (by omega) (by decide) (by decide)⟩
/-! ### what the tests of a life ask -/
theorem le_one_iff {r : Rat} (h : r ≤ 1) : r.num ≤ (r.den : Int) := by
  have h1 := (Rat.le_iff r 1).mp h
  rw [Rat.one_den, Rat.one_num] at h1
  omega
theorem nonneg_num {r : Rat} (h : 0 ≤ r) : 0 ≤ r.num := Rat.num_nonneg.mpr h
end Fw
namespace Fw
open PySem PySem.Spec PyProof.Rows L2
/-! ### the text by places -/
def topS (i : Nat) : Stmt := PySem.Challenge.pw_faultworks_k54_whole_costs_by_age.main.body.getD i (.Pass ⟨0, 0, 0, 0⟩)
abbrev sIsIn : Stmt := topS 6
abbrev sGcd : Stmt := topS 7
abbrev sRed : Stmt := topS 8
abbrev sPlus : Stmt := topS 9
abbrev sMinus : Stmt := topS 10
abbrev sTimes : Stmt := topS 11
abbrev sOver : Stmt := topS 12
abbrev sBelow : Stmt := topS 13
abbrev sIsRat : Stmt := topS 14
abbrev sIsCh : Stmt := topS 18
abbrev sTot : Stmt := topS 19
abbrev sIsLife : Stmt := topS 22
abbrev sNeedLife : Stmt := topS 23
abbrev sNeedCost : Stmt := topS 25
abbrev sCostAt : Stmt := topS 26
abbrev sAgeCost : Stmt := topS 27
abbrev sBest : Stmt := topS 28
abbrev lTaken : Stmt := topS 30
abbrev lPick : Stmt := topS 31
abbrev lGcd : Stmt := topS 32
abbrev lRed : Stmt := topS 33
abbrev lTimes : Stmt := topS 34
abbrev lLife : Stmt := topS 35
abbrev lPlus : Stmt := topS 36
abbrev lOver : Stmt := topS 37
abbrev lAlike : Stmt := topS 38
abbrev lLess : Stmt := topS 39
abbrev lLaw : Stmt := topS 40
/-- the built-in names that no statement of the top takes -/
structure Bi (mg : Str → Option Value) : Prop where
  isi : mg "isinstance" = none
  int : mg "int" = none
  bool : mg "bool" = none
  abs : mg "abs" = none
  tup : mg "tuple" = none
  len : mg "len" = none
  ran : mg "range" = none
  srt : mg "sorted" = none
  lst : mg "list" = none
  str : mg "str" = none
/-! ### ratios in the heap -/
def rt (r : Rat) : HO := .tup [.int r.num, .int (r.den : Int)]
abbrev RT (K : PySem.W.Frag) (H : Hp) (p : Addr) (r : Rat) : Prop := SqT K H p [.int r.num, .int (r.den : Int)]
theorem RT.of {K : PySem.W.Frag} {H : Hp} {p : Addr} {r : Rat} (h : H p = some (rt r)) : RT K H p r := SqT.of h
theorem RT.new {K : PySem.W.Frag} {H : Hp} {p : Addr} {r : Rat} : RT K (upd H p (rt r)) p r := SqT.of upd_same
theorem same_upd {H : Hp} {p : Addr} {o : HO} (h : H p = none) : Same H (upd H p o) := fun b x e => by
  rw [upd_ne (ne_of_none e h)]
  exact e
theorem stup {K : PySem.W.Frag} {H H' : Hp} {a : Addr} {xs : List V} (e : Same H H') (h : SqT K H a xs) : SqT K H' a xs := by
  rcases h with (h | ⟨o, h⟩) | h
  · exact .inl (.inl (e _ _ h))
  · exact .inl (.inr ⟨o, e _ _ h⟩)
  · exact .inr h
theorem tyx_tup {K : PySem.W.Frag} {H : Hp} {a : Addr} {xs : List V} (h : SqT K H a xs) : TyX K H (.ref a) (.type "tuple") := by
  rcases h with (h | ⟨o, h⟩) | ⟨o, its, n, hk, hc, _⟩
  · exact .base (.tup h)
  · exact .fTuple h
  · exact .kTuple hk hc
theorem at0 {x y : V} : atI [x, y] 0 = some x := atI_nat (j := 0) rfl
theorem at1 {x y : V} : atI [x, y] 1 = some y := atI_nat (j := 1) rfl
/-! ### a callee with all that a call asks -/
structure Cl (P : Program) (w : World) (K : PySem.W.Frag) (mg : Str → Option Value) (base : Heap) (k : Nat) (x : Str) (f : Addr) (fd : FuncData) (ps : List Str) (sp : Sp) : Prop where
  ok : FnOk P w K mg base CX0 k f fd ps sp
  mg : mg x = some (.ref f)
  kp : PySem.W.keepIn K (.ref f) = true
  bd : Binds K fd ps []
theorem Cl.mono {P : Program} {w : World} {K : PySem.W.Frag} {mg : Str → Option Value} {base : Heap} {j k : Nat} {x : Str} {f : Addr} {fd : FuncData} {ps : List Str} {sp : Sp} (C : Cl P w K mg base j x f fd ps sp) (h : j ≤ k) : Cl P w K mg base k x f fd ps sp := ⟨C.ok.mono h, C.mg, C.kp, C.bd⟩
/-! ### the module's constants -/
structure Cn (K : PySem.W.Frag) (mg : Str → Option Value) (aZ aO : Addr) : Prop where
  mz : mg "ZERO" = some (.ref aZ)
  mo : mg "ONE" = some (.ref aO)
  z : ∀ H, RT K H aZ 0
  o : ∀ H, RT K H aO 1
  mi : ∃ t, mg "MOST_ITEMS" = some (.int 13 t)
/-! ### a row of ratios -/
structure LT (K : PySem.W.Frag) (H : Hp) (xs : List V) (rs : List Rat) : Prop where
  len : xs.length = rs.length
  ix : ∀ (i : Nat) (r : Rat), rs[i]? = some r → ∃ p, xs[i]? = some (.ref p) ∧ RT K H p r
theorem LT.same {K : PySem.W.Frag} {H H' : Hp} {xs : List V} {rs : List Rat} (h : LT K H xs rs) (e : Same H H') : LT K H' xs rs :=
  ⟨h.len, fun i r hr => let ⟨p, h1, h2⟩ := h.ix i r hr; ⟨p, h1, stup e h2⟩⟩
theorem LT.take {K : PySem.W.Frag} {H : Hp} {xs : List V} {rs : List Rat} (h : LT K H xs rs) (n : Nat) : LT K H (xs.take n) (rs.take n) := by
  refine ⟨by rw [List.length_take, List.length_take, h.len], fun i r hr => ?_⟩
  have hi : i < n := by
    have := (List.getElem?_eq_some_iff.mp hr).1
    rw [List.length_take] at this
    omega
  rw [List.getElem?_take_of_lt hi] at hr
  obtain ⟨p, h1, h2⟩ := h.ix i r hr
  exact ⟨p, by rw [List.getElem?_take_of_lt hi]; exact h1, h2⟩
theorem LT.append {K : PySem.W.Frag} {H : Hp} {xs : List V} {rs : List Rat} (h : LT K H xs rs) {p : Addr} {q : Rat} (hq : RT K H p q) : LT K H (xs ++ [.ref p]) (rs ++ [q]) := by
  refine ⟨by rw [List.length_append, List.length_append, h.len]; rfl, fun i r hr => ?_⟩
  by_cases hi : i < rs.length
  · rw [List.getElem?_append_left hi] at hr
    obtain ⟨p, h1, h2⟩ := h.ix i r hr
    exact ⟨p, by rw [List.getElem?_append_left (by rw [h.len]; exact hi)]; exact h1, h2⟩
  · have hl := (List.getElem?_eq_some_iff.mp hr).1
    rw [List.length_append, List.length_singleton] at hl
    have e : i = rs.length := by omega
    subst e
    rw [List.getElem?_append_right (Nat.le_refl _), Nat.sub_self] at hr
    have er : q = r := Option.some.inj hr
    subst er
    exact ⟨p, by rw [← h.len, List.getElem?_append_right (Nat.le_refl _), Nat.sub_self]; rfl, hq⟩
theorem LT.nil {K : PySem.W.Frag} {H : Hp} : LT K H [] [] := ⟨rfl, fun i r h => by simp at h⟩
theorem LT.back {K : PySem.W.Frag} {H : Hp} {xs : List V} {rs : List Rat} (h : LT K H xs rs) {i : Nat} {x : V} (hx : xs[i]? = some x) : ∃ p r, x = .ref p ∧ rs[i]? = some r ∧ RT K H p r := by
  have hl := (List.getElem?_eq_some_iff.mp hx).1
  rw [h.len] at hl
  obtain ⟨p, h1, h2⟩ := h.ix i rs[i] (List.getElem?_eq_getElem hl)
  rw [hx] at h1
  exact ⟨p, rs[i], Option.some.inj h1, List.getElem?_eq_getElem hl, h2⟩
/-- a life stands at l -/
structure LifeAt (K : PySem.W.Frag) (H : Hp) (l : Addr) (S : List Rat) : Prop where
  ex : ∃ xs, SqT K H l xs ∧ LT K H xs S
theorem LifeAt.same {K : PySem.W.Frag} {H H' : Hp} {l : Addr} {S : List Rat} (h : LifeAt K H l S) (e : Same H H') : LifeAt K H' l S := by
  obtain ⟨xs, h1, h2⟩ := h.ex
  exact ⟨xs, stup e h1, h2.same e⟩
/-! ### slices -/
theorem cut_take {xs : List V} {a : Nat} (h : a ≤ xs.length) : cutV xs none (some (a : Int)) = xs.take a := by
  unfold cutV
  rw [HT.sIx_none, HT.sIx_nat, List.drop_zero, Nat.min_eq_left h, Nat.sub_zero]
theorem cut_m1 {n d : Nat} (h : 0 < n) : HT.sIx n d (some (-1)) = n - 1 := by
  show (if (-1 : Int) < 0 then ((-1 : Int) + (n : Int)).toNat else min (-1 : Int).toNat n) = n - 1
  rw [if_pos (by decide)]
  omega
theorem cut_last {xs : List V} (h : 0 < xs.length) : cutV xs none (some (-1)) = xs.take (xs.length - 1) := by
  unfold cutV
  rw [HT.sIx_none, List.drop_zero, Nat.sub_zero, cut_m1 h]
theorem at_m1 {xs : List V} {v : V} (h : 0 < xs.length) (hv : xs[xs.length - 1]? = some v) : atI xs (-1) = some v := by
  have e : xs = xs.take (xs.length - 1) ++ [v] := by
    have hl := List.take_append_getLast xs (by intro z; subst z; exact absurd h (by decide))
    have : xs.getLast (by intro z; subst z; exact absurd h (by decide)) = v := by
      rw [List.getLast_eq_getElem]
      exact (List.getElem?_eq_some_iff.mp hv).2
    rw [this] at hl
    exact hl.symm
  rw [e]
  exact atI_last _ _
/-! ### ratios as data -/
def dr (r : Rat) : PyData := .tuple [.int r.num, .int (r.den : Int)]
theorem dp_rat {K : PySem.W.Frag} {H : Hp} {p : Addr} {r : Rat} (h : RT K H p r) : Dp K H (.ref p) (dr r) := .tup h (.cons (.int _) (.cons (.int _) .nil))
theorem dr_lay (r : Rat) : (dr r).canLay0 = true := by simp [dr, PyData.canLay0, PyData.canLayAll0]
theorem dr_depth (r : Rat) : (dr r).depth = 1 := by simp [dr, PyData.depth, PyData.depthAll]
theorem dr_shaped (r : Rat) : SeqAt.shaped (dr r) = true := by
  have h := dr_depth r
  show ((dr r).canLay0 && decide ((dr r).depth ≤ 64)) = true
  rw [Bool.and_eq_true]
  exact ⟨dr_lay r, decide_eq_true (by omega)⟩
theorem drs_lay : ∀ rs : List Rat, PyData.canLayAll0 (rs.map dr) = true
  | [] => by simp [PyData.canLayAll0]
  | r :: rs => by simp [PyData.canLayAll0, dr_lay r, drs_lay rs]
theorem drs_depth : ∀ rs : List Rat, PyData.depthAll (rs.map dr) ≤ 1
  | [] => by simp [PyData.depthAll]
  | r :: rs => by
    have h1 := drs_depth rs
    have h2 := dr_depth r
    simp only [List.map_cons, PyData.depthAll]
    omega
theorem drs_shaped (rs : List Rat) : SeqAt.shaped (.tuple (rs.map dr)) = true := by
  have h1 := drs_depth rs
  have h2 : PyData.depth (.tuple (rs.map dr)) ≤ 64 := by
    simp only [PyData.depth]
    omega
  show (PyData.canLay0 (.tuple (rs.map dr)) && decide (PyData.depth (.tuple (rs.map dr)) ≤ 64)) = true
  rw [Bool.and_eq_true]
  exact ⟨by simp only [PyData.canLay0]; exact drs_lay rs, decide_eq_true h2⟩
theorem eqv_rat (a b : Rat) : PyData.eqv (dr a) (dr b) = decide (a = b) := by
  have e : PyData.eqv (dr a) (dr b) = ((a.num == b.num) && (((a.den : Int) == (b.den : Int)) && true)) := by simp only [dr, PyData.eqv, PyData.eqvAll]
  rw [e, Bool.and_true]
  by_cases h : a = b
  · subst h
    simp
  · rw [decide_eq_false h]
    by_cases h1 : a.num = b.num
    · have h2 : ¬ (a.den : Int) = (b.den : Int) := fun z => h (Rat.ext h1 (by omega))
      rw [beq_eq_false_iff_ne.mpr h2, Bool.and_false]
    · rw [beq_eq_false_iff_ne.mpr h1, Bool.false_and]
theorem eqv_nil : PyData.eqv (.list []) (.list []) = true := by simp only [PyData.eqv, PyData.eqvAll]
theorem nil_shaped : SeqAt.shaped (.list []) = true := by decide +kernel
theorem dpAll_rats {K : PySem.W.Frag} {H : Hp} : ∀ {xs : List V} {rs : List Rat}, LT K H xs rs → DpAll K H xs (rs.map dr)
  | [], [], _ => .nil
  | [], _ :: _, h => by cases h.len
  | _ :: _, [], h => by cases h.len
  | x :: xs, r :: rs, h => by
    obtain ⟨p, e, hp⟩ := h.ix 0 r rfl
    have ex : x = .ref p := Option.some.inj e
    subst ex
    refine .cons (dp_rat hp) (dpAll_rats ⟨by have := h.len; simpa using this, fun i q hq => ?_⟩)
    exact h.ix (i + 1) q hq
/-- x in a tuple of data -/
def rInT (K : PySem.W.Frag) : R2 := fun x y H Q => ∃ d ds, Dp K H x d ∧ Dp K H y (.tuple ds) ∧ SeqAt.shaped d = true ∧ SeqAt.shaped (.tuple ds) = true ∧ Q (.bl (ds.any fun z => PyData.eqv z d)) H
theorem op_inT {X : Cx} (hu : X.A.units + 65 < cLine) : OpR X (compareOp .In) (rInT X.K) := by
  intro pins s σ H x y v u Q I rx ry h
  obtain ⟨d, ds, hd, he, sd, se, q⟩ := h
  obtain ⟨as, r1⟩ := Dp.reads I d x v hd rx
  obtain ⟨bs, r2⟩ := Dp.reads I (.tuple ds) y u he ry
  exact SeqAt.in_tuple_reads r2 r1 (SeqAt.canLay_of_shaped se) (SeqAt.canLay_of_shaped sd) (room_in_shaped sd hu) ⟨.bl _, H, I, rfl, q⟩
theorem hu65 {A : Around} {k : Nat} (hr : Room k A) : A.units + 65 < cLine := by have := hr.un; omega
/-! ### one object may change -/
def Keep (r : Addr) (H H' : Hp) : Prop := ∀ b o, b ≠ r → H b = some o → H' b = some o
theorem Keep.upd {r : Addr} {H : Hp} {o : HO} : Keep r H (upd H r o) := fun b u hb e => by
  rw [upd_ne hb]
  exact e
theorem Keep.refl {r : Addr} {H : Hp} : Keep r H H := fun _ _ _ e => e
theorem Keep.trans {r : Addr} {H H1 H2 : Hp} (a : Keep r H H1) (b : Keep r H1 H2) : Keep r H H2 := fun c o hc e => b c o hc (a c o hc e)
theorem Keep.of {r : Addr} {H H' : Hp} (e : Same H H') : Keep r H H' := fun b o _ h => e b o h
theorem Keep.same {r : Addr} {H0 H H' : Hp} (k : Keep r H H') (e : Same H0 H) (n : H0 r = none) : Same H0 H' := fun b o h => k b o (ne_of_none h n) (e b o h)
theorem Keep.tup {K : PySem.W.Frag} {r : Addr} {H H' : Hp} {ys : List V} {p : Addr} {xs : List V} (k : Keep r H H') (hr : H r = some (.lst ys)) (h : SqT K H p xs) : SqT K H' p xs := by
  rcases h with (h | ⟨o, h⟩) | h
  · exact .inl (.inl (k _ _ (ne_of h hr (by intro z; cases z)) h))
  · exact .inl (.inr ⟨o, k _ _ (ne_of h hr (by intro z; cases z)) h⟩)
  · exact .inr h
theorem Keep.row {K : PySem.W.Frag} {r : Addr} {H H' : Hp} {ys : List V} {xs : List V} {rs : List Rat} (k : Keep r H H') (hr : H r = some (.lst ys)) (h : LT K H xs rs) : LT K H' xs rs :=
  ⟨h.len, fun i q hq => let ⟨p, h1, h2⟩ := h.ix i q hq; ⟨p, h1, k.tup hr h2⟩⟩
theorem Keep.life {K : PySem.W.Frag} {r : Addr} {H H' : Hp} {ys : List V} {l : Addr} {S : List Rat} (k : Keep r H H') (hr : H r = some (.lst ys)) (h : LifeAt K H l S) : LifeAt K H' l S :=
  let ⟨xs, h1, h2⟩ := h.ex; ⟨xs, k.tup hr h1, k.row hr h2⟩
theorem Keep.seq {K : PySem.W.Frag} {r : Addr} {H H' : Hp} {a : Addr} {xs : List V} (k : Keep r H H') (hn : a ≠ r) (h : SqL K H a xs) : SqL K H' a xs := by
  rcases h with (h | ⟨o, h⟩) | h
  · exact .inl (.inl (k _ _ hn h))
  · exact .inl (.inr ⟨o, k _ _ hn h⟩)
  · exact .inr h
/-- the law's row of draws stands at r, the script at a -/
structure RowAt (K : PySem.W.Frag) (H : Hp) (r a : Addr) (ns : List Int) : Prop where
  ex : ∃ p s z : Int, H r = some (.lst [.ref a, .int p, .int s, .int z]) ∧ 0 ≤ p ∧ 0 ≤ s ∧ s < 2147483647
  sc : SqL K H a (ns.map V.int)
  ne : a ≠ r ∨ ∀ H', SqL K H' a (ns.map V.int)
theorem RowAt.keep {K : PySem.W.Frag} {H H' : Hp} {r a : Addr} {ns : List Int} (h : RowAt K H r a ns) (k : Keep r H H') : SqL K H' a (ns.map V.int) := by
  rcases h.ne with n | n
  · exact k.seq n h.sc
  · exact n _
theorem RowAt.same {K : PySem.W.Frag} {H H' : Hp} {r a : Addr} {ns : List Int} (h : RowAt K H r a ns) (e : Same H H') : RowAt K H' r a ns :=
  let ⟨p, s, z, h1, h2⟩ := h.ex; ⟨⟨p, s, z, e _ _ h1, h2⟩, e.seq h.sc, h.ne⟩
theorem RowAt.put {K : PySem.W.Frag} {H H' : Hp} {r a : Addr} {ns : List Int} (h : RowAt K H r a ns) (k : Keep r H H') {p s z : Int} (e : H' r = some (.lst [.ref a, .int p, .int s, .int z])) (hp : 0 ≤ p) (h0 : 0 ≤ s) (h1 : s < 2147483647) : RowAt K H' r a ns :=
  ⟨⟨p, s, z, e, hp, h0, h1⟩, h.keep k, h.ne⟩
theorem Keep.put {r x : Addr} {H H' : Hp} {o : HO} (k : Keep r H H') (n : H x = none) : Keep r H (L2.upd H' x o) := fun b u hb e => by
  rw [upd_ne (ne_of_none e n)]
  exact k b u hb e
theorem Keep.free {r x : Addr} {H H' : Hp} (k : Keep r H H') (n : H' x = none) (hx : x ≠ r) : H x = none := by
  cases e : H x with
  | none => rfl
  | some o =>
    rw [k x o hx e] at n
    cases n
theorem seq_or {K : PySem.W.Frag} {H : Hp} {a x : Addr} {xs : List V} (h : SqL K H a xs) (n : H x = none) : a ≠ x ∨ ∀ H', SqL K H' a xs := by
  rcases h with (h | ⟨o, h⟩) | h
  · exact .inl (ne_of_none h n)
  · exact .inl (ne_of_none h n)
  · exact .inr fun _ => .inr h
theorem RowAt.store {K : PySem.W.Frag} {H : Hp} {r a x : Addr} {ns : List Int} {o : HO} (h : RowAt K H r a ns) (hx : x ≠ r) (ho : a ≠ x ∨ ∀ H', SqL K H' a (ns.map V.int)) : RowAt K (L2.upd H x o) r a ns := by
  obtain ⟨p, s, z, h1, h2⟩ := h.ex
  refine ⟨⟨p, s, z, by rw [upd_ne hx.symm]; exact h1, h2⟩, ?_, h.ne⟩
  rcases ho with ho | ho
  · exact Keep.seq (Keep.upd (r := x) (H := H) (o := o)) ho h.sc
  · exact ho _
theorem same_put {H H' : Hp} {x : Addr} {o : HO} (e : Same H H') (n : H x = none) : Same H (L2.upd H' x o) := fun b u h => by
  rw [upd_ne (ne_of_none h n)]
  exact e b u h
theorem lists_shaped (rs : List Rat) : SeqAt.shaped (.list (rs.map dr)) = true := by
  have h1 := drs_depth rs
  have h2 : PyData.depth (.list (rs.map dr)) ≤ 64 := by
    simp only [PyData.depth]
    omega
  show (PyData.canLay0 (.list (rs.map dr)) && decide (PyData.depth (.list (rs.map dr)) ≤ 64)) = true
  rw [Bool.and_eq_true]
  exact ⟨by simp only [PyData.canLay0]; exact drs_lay rs, decide_eq_true h2⟩
theorem eqv_empty (rs : List Rat) : PyData.eqv (.list (rs.map dr)) (.list []) = decide (rs = []) := by
  cases rs with
  | nil => simp [PyData.eqv, PyData.eqvAll]
  | cons r rs => simp [PyData.eqv, PyData.eqvAll]
end Fw
namespace Fw
open PySem PySem.Spec PyProof.Rows L2
/-! ### promises of the numbers' defs -/
def spGcd : Sp := fun vs H Q _ => ∃ a b : Int, vs = [.int a, .int b] ∧ Q (.int (Int.gcd a b : Int)) H
def spRed : Sp := fun vs H Q _ => ∃ (a b : Int) (n : Nat), vs = [.int a, .int b] ∧ 0 < b ∧ a.natAbs < 2 ^ n ∧ b.natAbs < 2 ^ n ∧ n ≤ 8500 ∧
  ∀ p, H p = none → Q (.ref p) (upd H p (rt (Rat.divInt a b)))
def spBin (f : Rat → Rat → Rat) (c : Rat → Prop) (K : PySem.W.Frag) : Sp := fun vs H Q _ => ∃ (p q : Addr) (a b : Rat) (n m : Nat), vs = [.ref p, .ref q] ∧ RT K H p a ∧ RT K H q b ∧ Sz n a ∧ Sz m b ∧ n + m ≤ 8000 ∧ c b ∧
  ∀ p', H p' = none → Q (.ref p') (upd H p' (rt (f a b)))
def spLess (K : PySem.W.Frag) : Sp := fun vs H Q _ => ∃ (p q : Addr) (a b : Rat) (n m : Nat), vs = [.ref p, .ref q] ∧ RT K H p a ∧ RT K H q b ∧ Sz n a ∧ Sz m b ∧ n + m ≤ 8000 ∧ Q (.bl (decide (a < b))) H
theorem comm_pos {a b : Int} (h : 0 < b) : comm a b = (Int.gcd a b : Int) := by
  unfold comm
  rw [if_neg (by omega)]
theorem gcd_lt {a b : Int} {n : Nat} (h : 0 < b) (hb : b.natAbs < 2 ^ n) : ((Int.gcd a b : Nat) : Int).natAbs < 2 ^ n := by
  rw [Int.natAbs_natCast]
  refine Nat.lt_of_le_of_lt (Int.gcd_le_natAbs_right a (by omega)) hb
theorem gcd_ok {a b : Int} {n : Nat} (h : 0 < b) (hb : b.natAbs < 2 ^ n) (hn : n ≤ 8500) : CDivW a (Int.gcd a b : Int) ∧ CDivW b (Int.gcd a b : Int) := by
  have h1 := gcd_pos' (a := a) (b := b) (by omega)
  have h0 : 0 < n := by
    rcases Nat.eq_zero_or_pos n with e | e
    · subst e
      omega
    · exact e
  exact ⟨wide_div (by omega) (gcd_lt h hb) h0 (by omega), wide_div (by omega) (gcd_lt h hb) h0 (by omega)⟩
theorem szp {n : Nat} {r : Rat} (h : Sz n r) : 0 < n := by
  rcases Nat.eq_zero_or_pos n with e | e
  · subst e
    have := h.den
    have := r.den_nz
    omega
  · exact e
theorem mulok {i j : Int} {a b : Nat} (ha : i.natAbs < 2 ^ a) (hb : j.natAbs < 2 ^ b) (h0 : 0 < a) (h1 : 0 < b) (h : a + b ≤ 8000) : CMulW i j := wide_mul ha hb h0 h1 (by omega)
section
variable {P : Program} {w : World} {K : PySem.W.Frag} {mg : Str → Option Value} {base : Heap}
theorem num_pos {b : Rat} (h : 0 < b) : 0 < b.num := by
  have h1 : 0 ≤ b.num := Rat.num_nonneg.mpr (Rat.le_of_lt h)
  have h2 : b.num ≠ 0 := num_ne (Rat.ne_of_gt h)
  omega
theorem scG : FnScope ["one", "other"] ["one", "other"] (defScope sGcd) := ⟨rfl, rfl, rfl, by decide +kernel, rfl, by decide +kernel, by decide +kernel⟩
theorem ok_gcd {k : Nat} {f : Addr} {fd : FuncData} (F : Fun K "gcd" "gcd" sGcd f fd) (B : Bi mg) : FnOk P w K mg base CX0 (k + 1) f fd ["one", "other"] spGcd := by
  refine F.ok scG (fun vs H Q E h => ?_) (fun cdv A outer s H vs Q E hr h => ?_)
  · obtain ⟨a, b, rfl, _⟩ := h
    rfl
  · obtain ⟨a, b, rfl, q⟩ := h
    refine ⟨_, pss_cons (ps_par (i := 0) (j := 1) rfl scG.nd rfl rfl (by decide) rfl rfl
        (pa_cons (pe_callB call_abs (by rfl) B.abs (by decide +kernel) (pa_cons (pv 0) pa_nil)) (pa_cons (pe_callB call_abs (by rfl) B.abs (by decide +kernel) (pa_cons (pv 1) pa_nil)) pa_nil)) (by rfl))
      (pss_cons (ps_while PassesOwn.never (pt_cmpR op_ne (pv 1) pe_int (nomark _))
        (pss_one (ps_par (i := 0) (j := 1) rfl scG.nd rfl rfl (by decide) rfl rfl (pa_cons (pv 1) (pa_cons (pe_op op_modN (pv 0) (pv 1)) pa_nil)) (by rfl))))
      (pss_one (ps_ret (pv 0)))), ?_⟩
    refine ⟨_, rfl, a, rfl, _, rfl, b, rfl, _, _, rfl, ?_⟩
    refine while_by (fun σ H' => ∃ x y : Int, σ = [some (.int x), some (.int y)] ∧ H' = H ∧ 0 ≤ x ∧ 0 ≤ y ∧ Int.gcd x y = Int.gcd a b) (fun σ _ => match σ with | [_, some (V.int y)] => y.toNat | _ => 0)
      ⟨_, _, rfl, rfl, by split <;> omega, by split <;> omega, gcd_abs a b⟩ ?_ (fun σ H Q Q' hm ⟨v, e, sc, k, ek, z⟩ => ⟨v, e, sc, k, ek, hm _ _ z⟩)
    rintro σ H' ⟨x, y, rfl, rfl, hx, hy0, hg⟩
    refine ⟨_, rfl, rfl, _, rfl, ?_⟩
    refine ite2 (fun e => ?_) (fun e => ?_)
    · have hy : y ≠ 0 := fun z => by
        subst z
        exact absurd e (by decide)
      refine ⟨_, rfl, _, rfl, _, rfl, _, _, rfl, rfl, hy, _, _, rfl, ?_⟩
      have hb : 0 < y := by omega
      have hm := fmod_lt (a := x) hb
      refine ⟨⟨y, Int.fmod x y, rfl, rfl, hy0, hm.1, by rw [gcd_step hx hb, hg]⟩, ?_⟩
      show (Int.fmod x y).toNat < y.toNat
      omega
    · have hy : y = 0 := by
        by_cases z : y = 0
        · exact z
        · exact absurd (by rw [decide_eq_false (fun t => z (V.int.inj t))]; rfl) e
      subst hy
      refine ⟨_, rfl, ?_⟩
      rw [← hg, gcd_zero hx] at q
      exact q
theorem lscG : FnScope ["_law_one", "_law_other"] ["_law_one", "_law_other"] (defScope lGcd) := ⟨rfl, rfl, rfl, by decide +kernel, rfl, by decide +kernel, by decide +kernel⟩
theorem lok_gcd {k : Nat} {f : Addr} {fd : FuncData} (F : Fun K "_law_gcd" "_law_gcd" lGcd f fd) (B : Bi mg) : FnOk P w K mg base CX0 (k + 1) f fd ["_law_one", "_law_other"] spGcd := by
  refine F.ok lscG (fun vs H Q E h => ?_) (fun cdv A outer s H vs Q E hr h => ?_)
  · obtain ⟨a, b, rfl, _⟩ := h
    rfl
  · obtain ⟨a, b, rfl, q⟩ := h
    refine ⟨_, pss_cons (ps_par (i := 0) (j := 1) rfl lscG.nd rfl rfl (by decide) rfl rfl
        (pa_cons (pe_callB call_abs (by rfl) B.abs (by decide +kernel) (pa_cons (pv 0) pa_nil)) (pa_cons (pe_callB call_abs (by rfl) B.abs (by decide +kernel) (pa_cons (pv 1) pa_nil)) pa_nil)) (by rfl))
      (pss_cons (ps_while PassesOwn.never (pt_cmpR op_ne (pv 1) pe_int (nomark _))
        (pss_one (ps_par (i := 0) (j := 1) rfl lscG.nd rfl rfl (by decide) rfl rfl (pa_cons (pv 1) (pa_cons (pe_op op_modN (pe_callTy call_int1 (by rfl) B.int (by decide +kernel) (pa_cons (pv 0) pa_nil)) (pv 1)) pa_nil)) (by rfl))))
      (pss_one (ps_ret (pv 0)))), ?_⟩
    refine ⟨_, rfl, a, rfl, _, rfl, b, rfl, _, _, rfl, ?_⟩
    refine while_by (fun σ H' => ∃ x y : Int, σ = [some (.int x), some (.int y)] ∧ H' = H ∧ 0 ≤ x ∧ 0 ≤ y ∧ Int.gcd x y = Int.gcd a b) (fun σ _ => match σ with | [_, some (V.int y)] => y.toNat | _ => 0)
      ⟨_, _, rfl, rfl, by split <;> omega, by split <;> omega, gcd_abs a b⟩ ?_ (fun σ H Q Q' hm ⟨v, e, sc, k, ek, z⟩ => ⟨v, e, sc, k, ek, hm _ _ z⟩)
    rintro σ H' ⟨x, y, rfl, rfl, hx, hy0, hg⟩
    refine ⟨_, rfl, rfl, _, rfl, ?_⟩
    refine ite2 (fun e => ?_) (fun e => ?_)
    · have hy : y ≠ 0 := fun z => by
        subst z
        exact absurd e (by decide)
      refine ⟨_, rfl, _, rfl, .inl ⟨_, rfl, _, rfl, _, _, rfl, rfl, hy, _, _, rfl, ?_⟩⟩
      have hb : 0 < y := by omega
      have hm := fmod_lt (a := x) hb
      refine ⟨⟨y, Int.fmod x y, rfl, rfl, hy0, hm.1, by rw [gcd_step hx hb, hg]⟩, ?_⟩
      show (Int.fmod x y).toNat < y.toNat
      omega
    · have hy : y = 0 := by
        by_cases z : y = 0
        · exact z
        · exact absurd (by rw [decide_eq_false (fun t => z (V.int.inj t))]; rfl) e
      subst hy
      refine ⟨_, rfl, ?_⟩
      rw [← hg, gcd_zero hx] at q
      exact q
theorem scR : FnScope ["numerator", "denominator", "common"] ["numerator", "denominator"] (defScope sRed) := ⟨rfl, rfl, rfl, by decide +kernel, rfl, by decide +kernel, by decide +kernel⟩
theorem ok_red {k : Nat} {f g : Addr} {fd fdG : FuncData} (F : Fun K "reduced" "reduced" sRed f fd) {gs : List Str} (G : FnOk P w K mg base CX0 k g fdG gs spGcd) (mgG : mg "gcd" = some (.ref g)) (kp : PySem.W.keepIn K (.ref g) = true) (bG : Binds K fdG gs []) :
    FnOk P w K mg base CX0 (k + 1) f fd ["numerator", "denominator"] spRed := by
  refine F.ok scR (fun vs H Q E h => ?_) (fun cdv A outer s H vs Q E hr h => ?_)
  · obtain ⟨a, b, n, rfl, _⟩ := h
    rfl
  · obtain ⟨a, b, n, rfl, hb, ha2, hb2, hn, q⟩ := h
    have hd := gcd_ok (a := a) hb hb2 hn
    refine ⟨_, pss_cons (ps_set (i := 2) scR.nd rfl (.inl rfl) (pe_call G hr (by rfl) mgG kp bG .nil pass0 (pa_cons (pv 0) (pa_cons (pv 1) pa_nil))))
      (pss_cons (ps_if (pt_cmpR op_lt (pv 1) pe_int (nomark _)) pss_never pss_nil)
      (pss_one (ps_ret (pe_tup (pa_cons (pe_op op_fdivW (pv 0) (pv 2)) (pa_cons (pe_op op_fdivW (pv 1) (pv 2)) pa_nil)))))), ?_⟩
    refine ⟨_, rfl, _, rfl, a, b, rfl, ?_⟩
    refine ⟨_, rfl, _, _, rfl, rfl, _, rfl, ?_⟩
    rw [decide_eq_false (show ¬ b < 0 by omega)]
    refine iteF ?_
    refine ⟨_, rfl, _, rfl, _, _, rfl, rfl, hd.1, _, rfl, _, rfl, _, _, rfl, rfl, hd.2, (by show 2 ≤ sizeLine; decide), fun p hp => ?_⟩
    have e1 := red_num (a := a) (b := b) (by omega)
    have e2 := red_den (a := a) (b := b) (by omega)
    rw [comm_pos hb] at e1 e2
    have q1 := q p hp
    unfold rt at q1
    rw [← e1, ← e2] at q1
    exact q1
theorem lscR : FnScope ["_law_numerator", "_law_denominator", "_law_common"] ["_law_numerator", "_law_denominator"] (defScope lRed) := ⟨rfl, rfl, rfl, by decide +kernel, rfl, by decide +kernel, by decide +kernel⟩
theorem lok_red {k : Nat} {f g : Addr} {fd fdG : FuncData} (F : Fun K "_law_ratio" "_law_ratio" lRed f fd) {gs : List Str} (G : FnOk P w K mg base CX0 k g fdG gs spGcd) (mgG : mg "_law_gcd" = some (.ref g)) (kp : PySem.W.keepIn K (.ref g) = true) (bG : Binds K fdG gs []) :
    FnOk P w K mg base CX0 (k + 1) f fd ["_law_numerator", "_law_denominator"] spRed := by
  refine F.ok lscR (fun vs H Q E h => ?_) (fun cdv A outer s H vs Q E hr h => ?_)
  · obtain ⟨a, b, n, rfl, _⟩ := h
    rfl
  · obtain ⟨a, b, n, rfl, hb, ha2, hb2, hn, q⟩ := h
    have hd := gcd_ok (a := a) hb hb2 hn
    refine ⟨_, pss_cons (ps_set (i := 2) lscR.nd rfl (.inl rfl) (pe_call G hr (by rfl) mgG kp bG .nil pass0 (pa_cons (pv 0) (pa_cons (pv 1) pa_nil))))
      (pss_cons (ps_set (i := 2) lscR.nd rfl (.inl rfl) (pe_ifExp (pt_cmpR op_lt (pv 1) pe_int (nomark _)) (pe_op op_sub pe_int (pv 2)) (pv 2)))
      (pss_one (ps_ret (pe_tup (pa_cons (pe_op op_fdivW (pv 0) (pv 2)) (pa_cons (pe_op op_fdivW (pv 1) (pv 2)) pa_nil)))))), ?_⟩
    refine ⟨_, rfl, _, rfl, a, b, rfl, ?_⟩
    refine ⟨_, rfl, _, _, rfl, rfl, _, rfl, ?_⟩
    rw [decide_eq_false (show ¬ b < 0 by omega)]
    refine iteF ?_
    refine ⟨_, rfl, ?_⟩
    refine ⟨_, rfl, _, rfl, _, _, rfl, rfl, hd.1, _, rfl, _, rfl, _, _, rfl, rfl, hd.2, (by show 2 ≤ sizeLine; decide), fun p hp => ?_⟩
    have e1 := red_num (a := a) (b := b) (by omega)
    have e2 := red_den (a := a) (b := b) (by omega)
    rw [comm_pos hb] at e1 e2
    have q1 := q p hp
    unfold rt at q1
    rw [← e1, ← e2] at q1
    exact q1
theorem sc_plus : FnScope ["one", "other"] ["one", "other"] (defScope sPlus) := ⟨rfl, rfl, rfl, by decide +kernel, rfl, by decide +kernel, by decide +kernel⟩
theorem ok_plus {k : Nat} {f g : Addr} {fd fdG : FuncData} (F : Fun K "plus" "plus" sPlus f fd) {gs : List Str} (G : FnOk P w K mg base CX0 k g fdG gs spRed) (mgG : mg "reduced" = some (.ref g)) (kp : PySem.W.keepIn K (.ref g) = true) (bG : Binds K fdG gs []) :
    FnOk P w K mg base CX0 (k + 1) f fd ["one", "other"] (spBin (· + ·) (fun _ => True) K) := by
  refine F.ok sc_plus (fun vs H Q E h => ?_) (fun cdv A outer s H vs Q E hr h => ?_)
  · obtain ⟨p, q, a, b, n, m, rfl, _⟩ := h
    rfl
  · obtain ⟨p, q, a, b, n, m, rfl, hp, hq, ha, hb, hnm, hc, z⟩ := h
    have sa := szp ha
    have sb := szp hb
    refine ⟨_, pss_one (ps_ret (pe_call G hr (by rfl) mgG kp bG .nil pass0 (pa_cons (pe_op op_add (pe_op op_mulW (pe_ix ix_tup (pv 0) pe_int (fun _ _ => rfl)) (pe_ix ix_tup (pv 1) pe_int (fun _ _ => rfl))) (pe_op op_mulW (pe_ix ix_tup (pv 1) pe_int (fun _ _ => rfl)) (pe_ix ix_tup (pv 0) pe_int (fun _ _ => rfl)))) (pa_cons (pe_op op_mulW (pe_ix ix_tup (pv 0) pe_int (fun _ _ => rfl)) (pe_ix ix_tup (pv 1) pe_int (fun _ _ => rfl))) pa_nil)))), ?_⟩
    refine ⟨_, rfl, _, _, 0, _, rfl, rfl, hp, at0, _, rfl, _, _, 1, _, rfl, rfl, hq, at1, _, _, rfl, rfl, mulok ha.num hb.den' sa sb (by omega), _, rfl, _, _, 0, _, rfl, rfl, hq, at0, _, rfl, _, _, 1, _, rfl, rfl, hp, at1, _, _, rfl, rfl, mulok hb.num ha.den' sb sa (by omega), _, _, rfl, rfl, _, rfl, _, _, 1, _, rfl, rfl, hp, at1, _, rfl, _, _, 1, _, rfl, rfl, hq, at1, _, _, rfl, rfl, mulok ha.den' hb.den' sa sb (by omega), _, _, n + m + 1, rfl, Int.mul_pos (den_pos a) (den_pos b), ha.addN hb, up (ha.dd hb) (Nat.le_succ _), by omega, fun p' np => ?_⟩
    rw [mk_add]
    exact z p' np
theorem sc_minus : FnScope ["one", "other"] ["one", "other"] (defScope sMinus) := ⟨rfl, rfl, rfl, by decide +kernel, rfl, by decide +kernel, by decide +kernel⟩
theorem ok_minus {k : Nat} {f g : Addr} {fd fdG : FuncData} (F : Fun K "minus" "minus" sMinus f fd) {gs : List Str} (G : FnOk P w K mg base CX0 k g fdG gs spRed) (mgG : mg "reduced" = some (.ref g)) (kp : PySem.W.keepIn K (.ref g) = true) (bG : Binds K fdG gs []) :
    FnOk P w K mg base CX0 (k + 1) f fd ["one", "other"] (spBin (· - ·) (fun _ => True) K) := by
  refine F.ok sc_minus (fun vs H Q E h => ?_) (fun cdv A outer s H vs Q E hr h => ?_)
  · obtain ⟨p, q, a, b, n, m, rfl, _⟩ := h
    rfl
  · obtain ⟨p, q, a, b, n, m, rfl, hp, hq, ha, hb, hnm, hc, z⟩ := h
    have sa := szp ha
    have sb := szp hb
    refine ⟨_, pss_one (ps_ret (pe_call G hr (by rfl) mgG kp bG .nil pass0 (pa_cons (pe_op op_sub (pe_op op_mulW (pe_ix ix_tup (pv 0) pe_int (fun _ _ => rfl)) (pe_ix ix_tup (pv 1) pe_int (fun _ _ => rfl))) (pe_op op_mulW (pe_ix ix_tup (pv 1) pe_int (fun _ _ => rfl)) (pe_ix ix_tup (pv 0) pe_int (fun _ _ => rfl)))) (pa_cons (pe_op op_mulW (pe_ix ix_tup (pv 0) pe_int (fun _ _ => rfl)) (pe_ix ix_tup (pv 1) pe_int (fun _ _ => rfl))) pa_nil)))), ?_⟩
    refine ⟨_, rfl, _, _, 0, _, rfl, rfl, hp, at0, _, rfl, _, _, 1, _, rfl, rfl, hq, at1, _, _, rfl, rfl, mulok ha.num hb.den' sa sb (by omega), _, rfl, _, _, 0, _, rfl, rfl, hq, at0, _, rfl, _, _, 1, _, rfl, rfl, hp, at1, _, _, rfl, rfl, mulok hb.num ha.den' sb sa (by omega), _, _, rfl, rfl, _, rfl, _, _, 1, _, rfl, rfl, hp, at1, _, rfl, _, _, 1, _, rfl, rfl, hq, at1, _, _, rfl, rfl, mulok ha.den' hb.den' sa sb (by omega), _, _, n + m + 1, rfl, Int.mul_pos (den_pos a) (den_pos b), ha.subN hb, up (ha.dd hb) (Nat.le_succ _), by omega, fun p' np => ?_⟩
    rw [mk_sub]
    exact z p' np
theorem sc_times : FnScope ["one", "other"] ["one", "other"] (defScope sTimes) := ⟨rfl, rfl, rfl, by decide +kernel, rfl, by decide +kernel, by decide +kernel⟩
theorem ok_times {k : Nat} {f g : Addr} {fd fdG : FuncData} (F : Fun K "times" "times" sTimes f fd) {gs : List Str} (G : FnOk P w K mg base CX0 k g fdG gs spRed) (mgG : mg "reduced" = some (.ref g)) (kp : PySem.W.keepIn K (.ref g) = true) (bG : Binds K fdG gs []) :
    FnOk P w K mg base CX0 (k + 1) f fd ["one", "other"] (spBin (· * ·) (fun _ => True) K) := by
  refine F.ok sc_times (fun vs H Q E h => ?_) (fun cdv A outer s H vs Q E hr h => ?_)
  · obtain ⟨p, q, a, b, n, m, rfl, _⟩ := h
    rfl
  · obtain ⟨p, q, a, b, n, m, rfl, hp, hq, ha, hb, hnm, hc, z⟩ := h
    have sa := szp ha
    have sb := szp hb
    refine ⟨_, pss_one (ps_ret (pe_call G hr (by rfl) mgG kp bG .nil pass0 (pa_cons (pe_op op_mulW (pe_ix ix_tup (pv 0) pe_int (fun _ _ => rfl)) (pe_ix ix_tup (pv 1) pe_int (fun _ _ => rfl))) (pa_cons (pe_op op_mulW (pe_ix ix_tup (pv 0) pe_int (fun _ _ => rfl)) (pe_ix ix_tup (pv 1) pe_int (fun _ _ => rfl))) pa_nil)))), ?_⟩
    refine ⟨_, rfl, _, _, 0, _, rfl, rfl, hp, at0, _, rfl, _, _, 0, _, rfl, rfl, hq, at0, _, _, rfl, rfl, mulok ha.num hb.num sa sb (by omega), _, rfl, _, _, 1, _, rfl, rfl, hp, at1, _, rfl, _, _, 1, _, rfl, rfl, hq, at1, _, _, rfl, rfl, mulok ha.den' hb.den' sa sb (by omega), _, _, n + m, rfl, Int.mul_pos (den_pos a) (den_pos b), mul_lt ha.num hb.num, ha.dd hb, by omega, fun p' np => ?_⟩
    rw [mk_mul]
    exact z p' np
theorem sc_over : FnScope ["one", "other"] ["one", "other"] (defScope sOver) := ⟨rfl, rfl, rfl, by decide +kernel, rfl, by decide +kernel, by decide +kernel⟩
theorem ok_over {k : Nat} {f g : Addr} {fd fdG : FuncData} (F : Fun K "over" "over" sOver f fd) {gs : List Str} (G : FnOk P w K mg base CX0 k g fdG gs spRed) (mgG : mg "reduced" = some (.ref g)) (kp : PySem.W.keepIn K (.ref g) = true) (bG : Binds K fdG gs []) :
    FnOk P w K mg base CX0 (k + 1) f fd ["one", "other"] (spBin (· / ·) (fun b => 0 < b) K) := by
  refine F.ok sc_over (fun vs H Q E h => ?_) (fun cdv A outer s H vs Q E hr h => ?_)
  · obtain ⟨p, q, a, b, n, m, rfl, _⟩ := h
    rfl
  · obtain ⟨p, q, a, b, n, m, rfl, hp, hq, ha, hb, hnm, hc, z⟩ := h
    have sa := szp ha
    have sb := szp hb
    refine ⟨_, pss_one (ps_ret (pe_call G hr (by rfl) mgG kp bG .nil pass0 (pa_cons (pe_op op_mulW (pe_ix ix_tup (pv 0) pe_int (fun _ _ => rfl)) (pe_ix ix_tup (pv 1) pe_int (fun _ _ => rfl))) (pa_cons (pe_op op_mulW (pe_ix ix_tup (pv 0) pe_int (fun _ _ => rfl)) (pe_ix ix_tup (pv 1) pe_int (fun _ _ => rfl))) pa_nil)))), ?_⟩
    refine ⟨_, rfl, _, _, 0, _, rfl, rfl, hp, at0, _, rfl, _, _, 1, _, rfl, rfl, hq, at1, _, _, rfl, rfl, mulok ha.num hb.den' sa sb (by omega), _, rfl, _, _, 1, _, rfl, rfl, hp, at1, _, rfl, _, _, 0, _, rfl, rfl, hq, at0, _, _, rfl, rfl, mulok ha.den' hb.num sa sb (by omega), _, _, n + m, rfl, Int.mul_pos (den_pos a) (num_pos hc), mul_lt ha.num hb.den', mul_lt ha.den' hb.num, by omega, fun p' np => ?_⟩
    rw [mk_div]
    exact z p' np
theorem lsc_plus : FnScope ["_law_one", "_law_other"] ["_law_one", "_law_other"] (defScope lPlus) := ⟨rfl, rfl, rfl, by decide +kernel, rfl, by decide +kernel, by decide +kernel⟩
theorem lok_plus {k : Nat} {f g : Addr} {fd fdG : FuncData} (F : Fun K "_law_plus" "_law_plus" lPlus f fd) {gs : List Str} (G : FnOk P w K mg base CX0 k g fdG gs spRed) (mgG : mg "_law_ratio" = some (.ref g)) (kp : PySem.W.keepIn K (.ref g) = true) (bG : Binds K fdG gs []) :
    FnOk P w K mg base CX0 (k + 1) f fd ["_law_one", "_law_other"] (spBin (· + ·) (fun _ => True) K) := by
  refine F.ok lsc_plus (fun vs H Q E h => ?_) (fun cdv A outer s H vs Q E hr h => ?_)
  · obtain ⟨p, q, a, b, n, m, rfl, _⟩ := h
    rfl
  · obtain ⟨p, q, a, b, n, m, rfl, hp, hq, ha, hb, hnm, hc, z⟩ := h
    have sa := szp ha
    have sb := szp hb
    refine ⟨_, pss_one (ps_ret (pe_call G hr (by rfl) mgG kp bG .nil pass0 (pa_cons (pe_op op_add (pe_op op_mulW (pe_ix ix_tup (pv 0) pe_int (fun _ _ => rfl)) (pe_ix ix_tup (pv 1) pe_int (fun _ _ => rfl))) (pe_op op_mulW (pe_ix ix_tup (pv 1) pe_int (fun _ _ => rfl)) (pe_ix ix_tup (pv 0) pe_int (fun _ _ => rfl)))) (pa_cons (pe_op op_mulW (pe_ix ix_tup (pv 0) pe_int (fun _ _ => rfl)) (pe_ix ix_tup (pv 1) pe_int (fun _ _ => rfl))) pa_nil)))), ?_⟩
    refine ⟨_, rfl, _, _, 0, _, rfl, rfl, hp, at0, _, rfl, _, _, 1, _, rfl, rfl, hq, at1, _, _, rfl, rfl, mulok ha.num hb.den' sa sb (by omega), _, rfl, _, _, 0, _, rfl, rfl, hq, at0, _, rfl, _, _, 1, _, rfl, rfl, hp, at1, _, _, rfl, rfl, mulok hb.num ha.den' sb sa (by omega), _, _, rfl, rfl, _, rfl, _, _, 1, _, rfl, rfl, hp, at1, _, rfl, _, _, 1, _, rfl, rfl, hq, at1, _, _, rfl, rfl, mulok ha.den' hb.den' sa sb (by omega), _, _, n + m + 1, rfl, Int.mul_pos (den_pos a) (den_pos b), ha.addN hb, up (ha.dd hb) (Nat.le_succ _), by omega, fun p' np => ?_⟩
    rw [mk_add]
    exact z p' np
theorem lsc_times : FnScope ["_law_one", "_law_other"] ["_law_one", "_law_other"] (defScope lTimes) := ⟨rfl, rfl, rfl, by decide +kernel, rfl, by decide +kernel, by decide +kernel⟩
theorem lok_times {k : Nat} {f g : Addr} {fd fdG : FuncData} (F : Fun K "_law_times" "_law_times" lTimes f fd) {gs : List Str} (G : FnOk P w K mg base CX0 k g fdG gs spRed) (mgG : mg "_law_ratio" = some (.ref g)) (kp : PySem.W.keepIn K (.ref g) = true) (bG : Binds K fdG gs []) :
    FnOk P w K mg base CX0 (k + 1) f fd ["_law_one", "_law_other"] (spBin (· * ·) (fun _ => True) K) := by
  refine F.ok lsc_times (fun vs H Q E h => ?_) (fun cdv A outer s H vs Q E hr h => ?_)
  · obtain ⟨p, q, a, b, n, m, rfl, _⟩ := h
    rfl
  · obtain ⟨p, q, a, b, n, m, rfl, hp, hq, ha, hb, hnm, hc, z⟩ := h
    have sa := szp ha
    have sb := szp hb
    refine ⟨_, pss_one (ps_ret (pe_call G hr (by rfl) mgG kp bG .nil pass0 (pa_cons (pe_op op_mulW (pe_ix ix_tup (pv 0) pe_int (fun _ _ => rfl)) (pe_ix ix_tup (pv 1) pe_int (fun _ _ => rfl))) (pa_cons (pe_op op_mulW (pe_ix ix_tup (pv 0) pe_int (fun _ _ => rfl)) (pe_ix ix_tup (pv 1) pe_int (fun _ _ => rfl))) pa_nil)))), ?_⟩
    refine ⟨_, rfl, _, _, 0, _, rfl, rfl, hp, at0, _, rfl, _, _, 0, _, rfl, rfl, hq, at0, _, _, rfl, rfl, mulok ha.num hb.num sa sb (by omega), _, rfl, _, _, 1, _, rfl, rfl, hp, at1, _, rfl, _, _, 1, _, rfl, rfl, hq, at1, _, _, rfl, rfl, mulok ha.den' hb.den' sa sb (by omega), _, _, n + m, rfl, Int.mul_pos (den_pos a) (den_pos b), mul_lt ha.num hb.num, ha.dd hb, by omega, fun p' np => ?_⟩
    rw [mk_mul]
    exact z p' np
theorem lsc_over : FnScope ["_law_one", "_law_other"] ["_law_one", "_law_other"] (defScope lOver) := ⟨rfl, rfl, rfl, by decide +kernel, rfl, by decide +kernel, by decide +kernel⟩
theorem lok_over {k : Nat} {f g : Addr} {fd fdG : FuncData} (F : Fun K "_law_over" "_law_over" lOver f fd) {gs : List Str} (G : FnOk P w K mg base CX0 k g fdG gs spRed) (mgG : mg "_law_ratio" = some (.ref g)) (kp : PySem.W.keepIn K (.ref g) = true) (bG : Binds K fdG gs []) :
    FnOk P w K mg base CX0 (k + 1) f fd ["_law_one", "_law_other"] (spBin (· / ·) (fun b => 0 < b) K) := by
  refine F.ok lsc_over (fun vs H Q E h => ?_) (fun cdv A outer s H vs Q E hr h => ?_)
  · obtain ⟨p, q, a, b, n, m, rfl, _⟩ := h
    rfl
  · obtain ⟨p, q, a, b, n, m, rfl, hp, hq, ha, hb, hnm, hc, z⟩ := h
    have sa := szp ha
    have sb := szp hb
    refine ⟨_, pss_one (ps_ret (pe_call G hr (by rfl) mgG kp bG .nil pass0 (pa_cons (pe_op op_mulW (pe_ix ix_tup (pv 0) pe_int (fun _ _ => rfl)) (pe_ix ix_tup (pv 1) pe_int (fun _ _ => rfl))) (pa_cons (pe_op op_mulW (pe_ix ix_tup (pv 0) pe_int (fun _ _ => rfl)) (pe_ix ix_tup (pv 1) pe_int (fun _ _ => rfl))) pa_nil)))), ?_⟩
    refine ⟨_, rfl, _, _, 0, _, rfl, rfl, hp, at0, _, rfl, _, _, 1, _, rfl, rfl, hq, at1, _, _, rfl, rfl, mulok ha.num hb.den' sa sb (by omega), _, rfl, _, _, 1, _, rfl, rfl, hp, at1, _, rfl, _, _, 0, _, rfl, rfl, hq, at0, _, _, rfl, rfl, mulok ha.den' hb.num sa sb (by omega), _, _, n + m, rfl, Int.mul_pos (den_pos a) (num_pos hc), mul_lt ha.num hb.den', mul_lt ha.den' hb.num, by omega, fun p' np => ?_⟩
    rw [mk_div]
    exact z p' np
theorem sc_less : FnScope ["one", "other"] ["one", "other"] (defScope sBelow) := ⟨rfl, rfl, rfl, by decide +kernel, rfl, by decide +kernel, by decide +kernel⟩
theorem ok_less {k : Nat} {f : Addr} {fd : FuncData} (F : Fun K "is_below" "is_below" sBelow f fd) : FnOk P w K mg base CX0 (k + 1) f fd ["one", "other"] (spLess K) := by
  refine F.ok sc_less (fun vs H Q E h => ?_) (fun cdv A outer s H vs Q E hr h => ?_)
  · obtain ⟨p, q, a, b, n, m, rfl, _⟩ := h
    rfl
  · obtain ⟨p, q, a, b, n, m, rfl, hp, hq, ha, hb, hnm, z⟩ := h
    have sa := szp ha
    have sb := szp hb
    refine ⟨_, pss_one (ps_ret (pe_cmpR op_lt (pe_op op_mulW (pe_ix ix_tup (pv 0) pe_int (fun _ _ => rfl)) (pe_ix ix_tup (pv 1) pe_int (fun _ _ => rfl))) (pe_op op_mulW (pe_ix ix_tup (pv 1) pe_int (fun _ _ => rfl)) (pe_ix ix_tup (pv 0) pe_int (fun _ _ => rfl))) (nomark _))), ?_⟩
    refine ⟨_, rfl, _, _, 0, _, rfl, rfl, hp, at0, _, rfl, _, _, 1, _, rfl, rfl, hq, at1, _, _, rfl, rfl, mulok ha.num hb.den' sa sb (by omega), _, rfl, _, _, 0, _, rfl, rfl, hq, at0, _, rfl, _, _, 1, _, rfl, rfl, hp, at1, _, _, rfl, rfl, mulok hb.num ha.den' sb sa (by omega), _, _, rfl, rfl, ?_⟩
    show Q (V.bl (decide (a.num * (b.den : Int) < b.num * (a.den : Int)))) H
    rw [show decide (a.num * (b.den : Int) < b.num * (a.den : Int)) = decide (a < b) from decide_eq_decide.mpr (Rat.lt_iff a b).symm]
    exact z
theorem lsc_less : FnScope ["_law_one", "_law_other"] ["_law_one", "_law_other"] (defScope lLess) := ⟨rfl, rfl, rfl, by decide +kernel, rfl, by decide +kernel, by decide +kernel⟩
theorem lok_less {k : Nat} {f : Addr} {fd : FuncData} (F : Fun K "_law_less" "_law_less" lLess f fd) : FnOk P w K mg base CX0 (k + 1) f fd ["_law_one", "_law_other"] (spLess K) := by
  refine F.ok lsc_less (fun vs H Q E h => ?_) (fun cdv A outer s H vs Q E hr h => ?_)
  · obtain ⟨p, q, a, b, n, m, rfl, _⟩ := h
    rfl
  · obtain ⟨p, q, a, b, n, m, rfl, hp, hq, ha, hb, hnm, z⟩ := h
    have sa := szp ha
    have sb := szp hb
    refine ⟨_, pss_one (ps_ret (pe_cmpR op_lt (pe_op op_mulW (pe_ix ix_tup (pv 0) pe_int (fun _ _ => rfl)) (pe_ix ix_tup (pv 1) pe_int (fun _ _ => rfl))) (pe_op op_mulW (pe_ix ix_tup (pv 1) pe_int (fun _ _ => rfl)) (pe_ix ix_tup (pv 0) pe_int (fun _ _ => rfl))) (nomark _))), ?_⟩
    refine ⟨_, rfl, _, _, 0, _, rfl, rfl, hp, at0, _, rfl, _, _, 1, _, rfl, rfl, hq, at1, _, _, rfl, rfl, mulok ha.num hb.den' sa sb (by omega), _, rfl, _, _, 0, _, rfl, rfl, hq, at0, _, rfl, _, _, 1, _, rfl, rfl, hp, at1, _, _, rfl, rfl, mulok hb.num ha.den' sb sa (by omega), _, _, rfl, rfl, ?_⟩
    show Q (V.bl (decide (a.num * (b.den : Int) < b.num * (a.den : Int)))) H
    rw [show decide (a.num * (b.den : Int) < b.num * (a.den : Int)) = decide (a < b) from decide_eq_decide.mpr (Rat.lt_iff a b).symm]
    exact z
end
end Fw
namespace Fw
open PySem PySem.Spec PyProof.Rows L2
/-! ### promises -/
def spIsIn : Sp := fun vs H Q _ => ∃ v a b : Int, vs = [.int v, .int a, .int b] ∧ a ≤ v ∧ v ≤ b ∧ Q (.bl true) H
def spIsRat (K : PySem.W.Frag) : Sp := fun vs H Q _ => ∃ (p : Addr) (r : Rat), vs = [.ref p] ∧ RT K H p r ∧ Q (.bl true) H
def spIsCh (K : PySem.W.Frag) : Sp := fun vs H Q _ => ∃ (p : Addr) (r : Rat), vs = [.ref p] ∧ RT K H p r ∧ 0 ≤ r ∧ r ≤ 1 ∧ Q (.bl true) H
def spTot (K : PySem.W.Frag) : Sp := fun vs H Q _ => ∃ (a : Addr) (xs : List V) (rs : List Rat), vs = [.ref a] ∧ SqT K H a xs ∧ LT K H xs rs ∧ rs.length ≤ 8 ∧ (∀ r ∈ rs, Sz 30 r) ∧
  ∀ H' p, Same H H' → RT K H' p (psum rs rs.length) → Q (.ref p) H'
def spNeedCost (K : PySem.W.Frag) : Sp := fun vs H Q _ => ∃ (p : Addr) (r : Rat), vs = [.ref p] ∧ RT K H p r ∧ 0 ≤ r ∧ Q .non H
theorem int_ix {a b : Int} {i : Nat} {x : V} (h : [V.int a, V.int b][i]? = some x) : ∃ z, x = .int z := by
  match i, h with
  | 0, h => exact ⟨a, (Option.some.inj h).symm⟩
  | 1, h => exact ⟨b, (Option.some.inj h).symm⟩
section
variable {P : Program} {w : World} {K : PySem.W.Frag} {mg : Str → Option Value} {base : Heap}
theorem sc_isin : FnScope ["value", "least", "most"] ["value", "least", "most"] (defScope sIsIn) := ⟨rfl, rfl, rfl, by decide +kernel, rfl, by decide +kernel, by decide +kernel⟩
theorem ok_isin {k : Nat} {f : Addr} {fd : FuncData} (F : Fun K "is_in" "is_in" sIsIn f fd) (B : Bi mg) :
    FnOk P w K mg base CX0 (k + 1) f fd ["value", "least", "most"] spIsIn := by
  refine F.ok sc_isin (fun vs H Q E h => ?_) (fun cdv A outer s H vs Q E hr h => ?_)
  · obtain ⟨v, a, b, rfl, _⟩ := h
    rfl
  · obtain ⟨v, a, b, rfl, h1, h2, q⟩ := h
    refine ⟨_, pss_one (ps_ret (pe_and (pe_callB call_isi (by rfl) B.isi (by decide +kernel) (pa_cons (pv 0) (pa_cons (pe_bltn (v := .ty "int") (u := .type "int") (by rfl) B.int (by decide +kernel) rfl) pa_nil))) (pe_and (pe_not (pe_callB call_isi (by rfl) B.isi (by decide +kernel) (pa_cons (pv 0) (pa_cons (pe_bltn (v := .ty "bool") (u := .type "bool") (by rfl) B.bool (by decide +kernel) rfl) pa_nil)))) (pe_one (pe_chain op_le op_le (pv 1) (pv 0) (pv 2)))))), ?_⟩
    refine ⟨_, rfl, _, _, _, _, true, rfl, .ty _, .base (.int _), kit_ty (by decide +kernel), _, rfl, iteT ?_⟩
    refine ⟨_, rfl, _, _, _, _, false, rfl, .ty _, .base (.int _), kit_ty (by decide +kernel), _, rfl, _, rfl, iteT ?_⟩
    refine ⟨_, rfl, _, rfl, _, _, rfl, rfl, _, rfl, ?_⟩
    rw [decide_eq_true h1]
    refine iteT ⟨_, rfl, _, _, rfl, rfl, ?_⟩
    show Q (.bl (decide (v ≤ b))) H
    rw [decide_eq_true h2]
    exact q
theorem sc_israt : FnScope ["value", "item"] ["value"] (defScope sIsRat) := ⟨rfl, rfl, rfl, by decide +kernel, rfl, by decide +kernel, by decide +kernel⟩
theorem ok_israt {k : Nat} {f : Addr} {fd : FuncData} (F : Fun K "is_ratio" "is_ratio" sIsRat f fd) (B : Bi mg) {fG : Addr} {fdG : FuncData} (CG : Cl P w K mg base k "gcd" fG fdG ["one", "other"] spGcd) :
    FnOk P w K mg base CX0 (k + 1) f fd ["value"] (spIsRat K) := by
  refine F.ok sc_israt (fun vs H Q E h => ?_) (fun cdv A outer s H vs Q E hr h => ?_)
  · obtain ⟨p, r, rfl, _⟩ := h
    rfl
  · obtain ⟨p, r, rfl, hp, q⟩ := h
    refine ⟨_, pss_cons (ps_if (PW.pt (pw_or (pt_not (pt_val (pe_callB call_isi (by rfl) B.isi (by decide +kernel) (pa_cons (pv 0) (pa_cons (pe_bltn (v := .ty "tuple") (u := .type "tuple") (by rfl) B.tup (by decide +kernel) rfl) pa_nil))))) (pw_or1 (pt_cmpR op_ne (pe_callB call_len_seq (by rfl) B.len PySem.boot_len (pa_cons (pv 0) pa_nil)) pe_int (nomark _))))) pss_never pss_nil)
      (pss_cons (ps_for PassesOwn.never rfl (pi_tup (pv 0)) (pg_name (i := 1) sc_israt.nd rfl (.inl rfl)) (pss_one (ps_if (PW.pt (pw_or (pt_not (pt_val (pe_callB call_isi (by rfl) B.isi (by decide +kernel) (pa_cons (pv 1) (pa_cons (pe_bltn (v := .ty "int") (u := .type "int") (by rfl) B.int (by decide +kernel) rfl) pa_nil))))) (pw_or1 (pt_val (pe_callB call_isi (by rfl) B.isi (by decide +kernel) (pa_cons (pv 1) (pa_cons (pe_bltn (v := .ty "bool") (u := .type "bool") (by rfl) B.bool (by decide +kernel) rfl) pa_nil))))))) pss_never pss_nil)))
      (pss_one (ps_ret (pe_and (pe_cmpR op_gt (pe_ix ix_tup (pv 0) pe_int (fun _ _ => rfl)) pe_int (nomark _)) (pe_one (pe_cmpR op_eq (pe_call CG.ok hr (by rfl) CG.mg CG.kp CG.bd .nil pass0 (pa_cons (pe_ix ix_tup (pv 0) pe_int (fun _ _ => rfl)) (pa_cons (pe_ix ix_tup (pv 0) pe_int (fun _ _ => rfl)) pa_nil))) pe_int (nomark _))))))), ?_⟩
    refine ⟨_, rfl, _, _, _, _, true, rfl, .ty _, tyx_tup hp, kit_ty (by decide +kernel), _, rfl, iteF ?_⟩
    refine ⟨_, rfl, p, _, rfl, .inr hp, rfl, _, rfl, iteNS rfl ?_⟩
    refine ⟨_, rfl, p, rfl, ⟨_, hp⟩, for_tup (K := K) (a := p) (xs := [.int r.num, .int (r.den : Int)]) (fun i σ H' => H' = H ∧ ∃ v, σ = [some (.ref p), v]) ⟨rfl, _, rfl⟩ (fun i σ H' _ ⟨e, _⟩ => by rw [e]; exact hp) ?_ ?_⟩
    · rintro i x σ H' hx ⟨rfl, v, rfl⟩
      obtain ⟨z, rfl⟩ := int_ix hx
      refine ⟨_, rfl, _, _, _, _, true, rfl, .ty _, .base (.int _), kit_ty (by decide +kernel), _, rfl, iteF ?_⟩
      refine ⟨_, rfl, _, _, _, _, false, rfl, .ty _, .base (.int _), kit_ty (by decide +kernel), _, rfl, iteF ?_⟩
      exact ⟨rfl, _, rfl⟩
    · rintro σ H' ⟨rfl, v, rfl⟩
      refine ⟨_, rfl, p, _, 1, _, rfl, rfl, hp, at1, _, _, rfl, rfl, _, rfl, ?_⟩
      rw [decide_eq_true (den_pos r)]
      refine iteT ⟨_, rfl, p, _, 0, _, rfl, rfl, hp, at0, _, rfl, p, _, 1, _, rfl, rfl, hp, at1, _, _, rfl, rfl, ?_⟩
      show Q (.bl (decide (V.int (Int.gcd r.num r.den : Int) = V.int 1))) H'
      rw [gcd_num_den r]
      exact q
theorem sc_isch : FnScope ["value"] ["value"] (defScope sIsCh) := ⟨rfl, rfl, rfl, by decide +kernel, rfl, by decide +kernel, by decide +kernel⟩
theorem ok_isch {k : Nat} {f : Addr} {fd : FuncData} (F : Fun K "is_chance" "is_chance" sIsCh f fd) {fR : Addr} {fdR : FuncData} (CR : Cl P w K mg base k "is_ratio" fR fdR ["value"] (spIsRat K)) :
    FnOk P w K mg base CX0 (k + 1) f fd ["value"] (spIsCh K) := by
  refine F.ok sc_isch (fun vs H Q E h => ?_) (fun cdv A outer s H vs Q E hr h => ?_)
  · obtain ⟨p, r, rfl, _⟩ := h
    rfl
  · obtain ⟨p, r, rfl, hp, h0, h1, q⟩ := h
    refine ⟨_, pss_one (ps_ret (pe_and (pe_call CR.ok hr (by rfl) CR.mg CR.kp CR.bd .nil pass0 (pa_cons (pv 0) pa_nil)) (pe_one (pe_chain op_le op_le pe_int (pe_ix ix_tup (pv 0) pe_int (fun _ _ => rfl)) (pe_ix ix_tup (pv 0) pe_int (fun _ _ => rfl)))))), ?_⟩
    refine ⟨_, rfl, p, r, rfl, hp, _, rfl, iteT ?_⟩
    refine ⟨_, rfl, p, _, 0, _, rfl, rfl, hp, at0, _, _, rfl, rfl, _, rfl, ?_⟩
    rw [decide_eq_true (nonneg_num h0)]
    refine iteT ⟨_, rfl, p, _, 1, _, rfl, rfl, hp, at1, _, _, rfl, rfl, ?_⟩
    show Q (.bl (decide (r.num ≤ (r.den : Int)))) H
    rw [decide_eq_true (le_one_iff h1)]
    exact q
theorem sc_ncost : FnScope ["cost"] ["cost"] (defScope sNeedCost) := ⟨rfl, rfl, rfl, by decide +kernel, rfl, by decide +kernel, by decide +kernel⟩
theorem ok_ncost {k : Nat} {f : Addr} {fd : FuncData} (F : Fun K "need_cost" "need_cost" sNeedCost f fd) {fR : Addr} {fdR : FuncData} (CR : Cl P w K mg base k "is_ratio" fR fdR ["value"] (spIsRat K)) :
    FnOk P w K mg base CX0 (k + 1) f fd ["cost"] (spNeedCost K) := by
  refine F.ok sc_ncost (fun vs H Q E h => ?_) (fun cdv A outer s H vs Q E hr h => ?_)
  · obtain ⟨p, r, rfl, _⟩ := h
    rfl
  · obtain ⟨p, r, rfl, hp, h0, q⟩ := h
    refine ⟨_, pss_one (ps_if (PW.pt (pw_or (pt_not (pt_val (pe_call CR.ok hr (by rfl) CR.mg CR.kp CR.bd .nil pass0 (pa_cons (pv 0) pa_nil)))) (pw_or1 (pt_cmpR op_lt (pe_ix ix_tup (pv 0) pe_int (fun _ _ => rfl)) pe_int (nomark _))))) pss_never pss_nil), ?_⟩
    refine ⟨_, rfl, p, r, rfl, hp, _, rfl, iteF ?_⟩
    refine ⟨_, rfl, p, _, 0, _, rfl, rfl, hp, at0, _, _, rfl, rfl, _, rfl, ?_⟩
    have := nonneg_num h0
    rw [decide_eq_false (show ¬ r.num < 0 by omega)]
    exact iteF q
theorem sc_tot : FnScope ["values", "found", "value"] ["values"] (defScope sTot) := ⟨rfl, rfl, rfl, by decide +kernel, rfl, by decide +kernel, by decide +kernel⟩
theorem ok_tot {k : Nat} {f : Addr} {fd : FuncData} (F : Fun K "total_of" "total_of" sTot f fd) {aZ aO : Addr} (T : Cn K mg aZ aO) {fP : Addr} {fdP : FuncData} (CP : Cl P w K mg base k "plus" fP fdP ["one", "other"] (spBin (· + ·) (fun _ => True) K)) :
    FnOk P w K mg base CX0 (k + 1) f fd ["values"] (spTot K) := by
  refine F.ok sc_tot (fun vs H Q E h => ?_) (fun cdv A outer s H vs Q E hr h => ?_)
  · obtain ⟨a, xs, rs, rfl, _⟩ := h
    rfl
  · obtain ⟨a, xs, rs, rfl, hx, hl, h8, hz, q⟩ := h
    refine ⟨_, pss_cons (ps_set (i := 1) sc_tot.nd rfl (.inl rfl) (pe_glob (v := .ref aZ) rfl T.mz rfl))
      (pss_cons (ps_for PassesOwn.never rfl (pi_tup (pv 0)) (pg_name (i := 2) sc_tot.nd rfl (.inl rfl)) (pss_one (ps_set (i := 1) sc_tot.nd rfl (.inl rfl) (pe_call CP.ok hr (by rfl) CP.mg CP.kp CP.bd .nil pass0 (pa_cons (pv 1) (pa_cons (pv 2) pa_nil))))))
      (pss_one (ps_ret (pv 1)))), ?_⟩
    refine ⟨_, rfl, a, rfl, ⟨_, hx⟩, for_tup (K := K) (a := a) (xs := xs) (fun i σ H' => ∃ p v, σ = [some (.ref a), some (.ref p), v] ∧ Same H H' ∧ RT K H' p (psum rs i)) ⟨aZ, _, rfl, Same.refl H, T.z H⟩ (fun i σ H' _ ⟨_, _, _, e, _⟩ => stup e hx) ?_ ?_⟩
    · rintro i x σ H' hi ⟨p, v, rfl, e, hp⟩
      obtain ⟨p', r, rfl, hr', hp'⟩ := (hl.same e).back hi
      have hlt := (List.getElem?_eq_some_iff.mp hr').1
      refine ⟨_, rfl, _, rfl, p, p', psum rs i, r, 1 + 31 * i, 30, rfl, hp, hp', psum_szg hz (by omega), hz r (List.mem_of_getElem? hr'), by omega, True.intro, fun t nt => ?_⟩
      refine ⟨t, _, rfl, e.trans (same_upd nt), ?_⟩
      show RT K _ t (psum rs i + at' rs i)
      rw [at_get hr']
      exact RT.new
    · rintro σ H' ⟨p, v, rfl, e, hp⟩
      refine ⟨_, rfl, ?_⟩
      rw [hl.len] at hp
      exact q H' p e hp
end
end Fw
namespace Fw
open PySem PySem.Spec PyProof.Rows L2
/-! ### promises -/
def spIsLife (K : PySem.W.Frag) : Sp := fun vs H Q _ => ∃ (l : Addr) (S : List Rat), vs = [.ref l] ∧ LifeAt K H l S ∧ Life S ∧ ∀ H', Same H H' → Q (.bl true) H'
def spNeedLife (K : PySem.W.Frag) : Sp := fun vs H Q _ => ∃ (l : Addr) (S : List Rat), vs = [.ref l] ∧ LifeAt K H l S ∧ Life S ∧ ∀ H', Same H H' → Q .non H'
/-- a life and two costs are handed in -/
structure Given (K : PySem.W.Frag) (H : Hp) (l pp pf : Addr) (S : List Rat) (pl fl : Rat) : Prop where
  at_ : LifeAt K H l S
  li : Life S
  hp : RT K H pp pl
  hf : RT K H pf fl
  p0 : 0 ≤ pl
  f0 : 0 ≤ fl
  sp : Sz 5 pl
  sf : Sz 5 fl
theorem Given.same {K : PySem.W.Frag} {H H' : Hp} {l pp pf : Addr} {S : List Rat} {pl fl : Rat} (h : Given K H l pp pf S pl fl) (e : Same H H') : Given K H' l pp pf S pl fl :=
  ⟨h.at_.same e, h.li, stup e h.hp, stup e h.hf, h.p0, h.f0, h.sp, h.sf⟩
def spCost (K : PySem.W.Frag) : Sp := fun vs H Q _ => ∃ (l pp pf : Addr) (S : List Rat) (pl fl : Rat) (a : Nat), vs = [.ref l, .ref pp, .ref pf, .int (a : Int)] ∧ Given K H l pp pf S pl fl ∧ 1 ≤ a ∧ a < S.length ∧
  ∀ H' p, Same H H' → RT K H' p (cost S pl fl a) → Q (.ref p) H'
def spBest (K : PySem.W.Frag) : Sp := fun vs H Q _ => ∃ (l pp pf : Addr) (S : List Rat) (pl fl : Rat), vs = [.ref l, .ref pp, .ref pf] ∧ Given K H l pp pf S pl fl ∧
  ∀ H' t p (b : Nat), Same H H' → H' t = some (.tup [.ref p, .int (b : Int)]) → RT K H' p (cost S pl fl b) → Best (cost S pl fl) (S.length - 1) b → Q (.ref t) H'
theorem any_zero {S : List Rat} (h : Life S) : ((S.take (S.length - 1)).map dr).any (fun z => PyData.eqv z (dr 0)) = false := by
  rw [List.any_map, List.any_eq_false]
  intro r hr
  obtain ⟨k, hk⟩ := List.getElem?_of_mem hr
  have hlt := (List.getElem?_eq_some_iff.mp hk).1
  rw [List.length_take] at hlt
  rw [List.getElem?_take_of_lt (by omega)] at hk
  have hp := h.pos k r (by omega) hk
  show ¬ PyData.eqv (dr r) (dr 0) = true
  rw [eqv_rat, decide_eq_false (Rat.ne_of_gt hp)]
  exact Bool.false_ne_true
section
variable {P : Program} {w : World} {K : PySem.W.Frag} {mg : Str → Option Value} {base : Heap}
theorem sc_islife : FnScope ["value", "one", "t"] ["value"] (defScope sIsLife) := ⟨rfl, rfl, rfl, by decide +kernel, rfl, by decide +kernel, by decide +kernel⟩
theorem ok_islife {k : Nat} {f : Addr} {fd : FuncData} (F : Fun K "is_life" "is_life" sIsLife f fd) (B : Bi mg) {aZ aO : Addr} (T : Cn K mg aZ aO) {fC : Addr} {fdC : FuncData} (CC : Cl P w K mg base k "is_chance" fC fdC ["value"] (spIsCh K)) {fB : Addr} {fdB : FuncData} (CB : Cl P w K mg base k "is_below" fB fdB ["one", "other"] (spLess K)) :
    FnOk P w K mg base CX0 (k + 1) f fd ["value"] (spIsLife K) := by
  refine F.ok sc_islife (fun vs H Q E h => ?_) (fun cdv A outer s H vs Q E hr h => ?_)
  · obtain ⟨l, S, rfl, _⟩ := h
    rfl
  · obtain ⟨l, S, rfl, hA, hL, q⟩ := h
    obtain ⟨xs, hx, hl⟩ := hA.ex
    obtain ⟨tm, hmi⟩ := T.mi
    have h2 := hL.two
    have h8 := hL.eight
    have hlen := hl.len
    refine ⟨_, pss_cons (ps_if (PW.pt (pw_or (pt_not (pt_val (pe_callB call_isi (by rfl) B.isi (by decide +kernel) (pa_cons (pv 0) (pa_cons (pe_bltn (v := .ty "tuple") (u := .type "tuple") (by rfl) B.tup (by decide +kernel) rfl) pa_nil))))) (pw_or1 (pt_not (pt_chain op_le op_le pe_int (pe_callB call_len_seq (by rfl) B.len PySem.boot_len (pa_cons (pv 0) pa_nil)) (pe_glob (v := .int 13) rfl hmi ⟨_, rfl⟩)))))) pss_never pss_nil)
      (pss_cons (ps_if (PW.pt (pw_or (pt_cmpR (op_neD hr.units) (pe_lc (own := [("one", 1)]) (g := gName 1) (by rfl) sc_islife.nd (pi_tup (pv 0))
        (blkOk_by (own := [("one", 1)]) (N := ["value", "one", "t"]) (sc := defScope sIsLife) (by decide +kernel)) (fun _ _ _ _ _ => pg_name (i := 1) sc_islife.nd rfl (Or.inl rfl))
        (fun _ _ _ _ _ => pts_one (pt_not (pt_val (pe_call CC.ok hr (by rfl) CC.mg CC.kp CC.bd .nil pass0 (pa_cons (pv 1) pa_nil))))) (fun _ _ _ _ _ => (pv 1))) (pe_lst pa_nil) (nomark _)) (pw_or (pt_cmpR (op_neD hr.units) (pe_ix ix_tup (pv 0) pe_int (fun _ _ => rfl)) (pe_glob (v := .ref aO) rfl T.mo rfl) (nomark _)) (pw_or1 (pt_cmpR (op_neD hr.units) (pe_ix ix_tup (pv 0) (pe_un un_neg pe_int) (fun _ _ => rfl)) (pe_glob (v := .ref aZ) rfl T.mz rfl) (nomark _)))))) pss_never pss_nil)
      (pss_cons (ps_if (pt_cmpR (op_inT (hu65 hr)) (pe_glob (v := .ref aZ) rfl T.mz rfl) (pe_slice sl_tup (pv 0) po_none (po_some (pe_un un_neg pe_int))) (by rfl)) pss_never pss_nil)
      (pss_one (ps_ret (pe_cmpR (op_eqD hr.units) (pe_lc (own := [("t", 2)]) (g := gName 2) (by rfl) sc_islife.nd (pi_range2 (by rfl) B.ran (pa_cons pe_int (pa_cons (pe_callB call_len_seq (by rfl) B.len PySem.boot_len (pa_cons (pv 0) pa_nil)) pa_nil)))
        (blkOk_by (own := [("t", 2)]) (N := ["value", "one", "t"]) (sc := defScope sIsLife) (by decide +kernel)) (fun _ _ _ _ _ => pg_name (i := 2) sc_islife.nd rfl (Or.inl rfl))
        (fun _ _ _ _ _ => pts_one (pt_val (pe_call CB.ok hr (by rfl) CB.mg CB.kp CB.bd .nil pass0 (pa_cons (pe_ix (ix_tup : IxR _ (rIxT K)) (pv 0) (pe_op op_sub (pv 2) pe_int) (fun _ _ => rfl)) (pa_cons (pe_ix (ix_tup : IxR _ (rIxT K)) (pv 0) (pv 2) (fun _ _ => rfl)) pa_nil))))) (fun _ _ _ _ _ => (pv 2))) (pe_lst pa_nil) (nomark _)))))), ?_⟩
    refine ⟨_, rfl, _, _, _, _, true, rfl, .ty _, tyx_tup hx, kit_ty (by decide +kernel), _, rfl, iteF ?_⟩
    refine ⟨_, rfl, l, xs, rfl, .inr hx, _, _, rfl, rfl, _, rfl, ?_⟩
    rw [decide_eq_true (show (2 : Int) ≤ (xs.length : Int) by omega)]
    refine iteT ⟨_, _, rfl, rfl, _, rfl, ?_⟩
    rw [decide_eq_true (show (xs.length : Int) ≤ 13 by omega)]
    refine iteF ?_
    refine ⟨_, rfl, l, rfl, ⟨xs, hx⟩, fun D hD => lc_tup (K := K) (a := l) (xs := xs) (fun i H' => Same H H' ∧ H' D = some (.lst [])) ⟨same_upd hD, upd_same⟩ (fun i H' _ ⟨e, _⟩ => stup e hx) ?_ ?_⟩
    · rintro i x H' hi ⟨e, eD⟩
      obtain ⟨p, r, rfl, hr', hp⟩ := (hl.same e).back hi
      refine ⟨rfl, _, rfl, p, r, rfl, hp, hL.mem_nonneg (List.mem_of_getElem? hr'), hL.mem_le_one (List.mem_of_getElem? hr'), _, rfl, iteF ?_⟩
      exact ⟨e, eD⟩
    rintro H1 ⟨e1, eD⟩
    refine ⟨Nat.zero_le _, fun t nt => ?_⟩
    have e2 : Same H (upd H1 t (.lst [])) := e1.trans (same_upd nt)
    refine ⟨.list [], .list [], .lst (.of ((same_upd nt) _ _ eD)) .nil, .lst (.of upd_same) .nil, nil_shaped, nil_shaped, _, rfl, ?_⟩
    rw [eqv_nil]
    refine iteF ?_
    obtain ⟨p0, g0, r0⟩ := (hl.same e2).ix 0 1 hL.first
    refine ⟨_, rfl, l, xs, 0, _, rfl, rfl, stup e2 hx, atI_nat (j := 0) g0, dr 1, dr 1, dp_rat r0, dp_rat (T.o _), dr_shaped 1, dr_shaped 1, _, rfl, ?_⟩
    rw [eqv_rat, decide_eq_true rfl]
    refine iteF ?_
    obtain ⟨pz, gz, rz⟩ := (hl.same e2).ix _ 0 hL.last
    refine ⟨_, rfl, _, rfl, l, xs, -1, _, rfl, rfl, stup e2 hx, at_m1 (by omega) (by rw [hlen]; exact gz), dr 0, dr 0, dp_rat rz, dp_rat (T.z _), dr_shaped 0, dr_shaped 0, _, rfl, ?_⟩
    rw [eqv_rat, decide_eq_true rfl]
    refine iteF ?_
    refine ⟨_, rfl, _, rfl, -1, rfl, l, xs, rfl, stup e2 hx, fun z => absurd (cut_m1 (n := xs.length) (d := xs.length) (by omega)) (by rw [z.2]; omega), fun u nu => ?_⟩
    have e3 := e2.trans (same_upd nu (o := .tup (cutV xs none (some (-1)))))
    have hc : SqT K (upd (upd H1 t (.lst [])) u (.tup (cutV xs none (some (-1))))) u (xs.take (xs.length - 1)) := by
      rw [cut_last (by omega)]
      exact .of upd_same
    refine ⟨dr 0, (S.take (S.length - 1)).map dr, dp_rat (T.z _), .tup hc (dpAll_rats (by rw [hlen]; exact (hl.same e3).take _)), dr_shaped 0, drs_shaped _, _, rfl, ?_⟩
    rw [any_zero hL]
    refine iteF ?_
    refine ⟨_, rfl, l, xs, rfl, .inr (stup e3 hx), _, _, rfl, ⟨by decide, by decide, by omega, by omega⟩, fun D' hD' => lc_range (lo := 1) (n := ((xs.length : Int) - 1).toNat) (fun i H' => Same H H' ∧ H' D' = some (.lst [])) ⟨e3.trans (same_upd hD'), upd_same⟩ ?_ ?_⟩
    · rintro i H' hi ⟨e, eD⟩
      have hi1 : i + 1 < S.length := by omega
      obtain ⟨pa, ga, ra⟩ := (hl.same e).ix i _ (get_at (by omega))
      obtain ⟨pb, gb, rb⟩ := (hl.same e).ix (i + 1) _ (get_at hi1)
      refine ⟨rfl, _, rfl, _, rfl, _, _, rfl, rfl, l, xs, _, _, rfl, rfl, stup e hx, at_of (j := i) (by omega) ga, _, rfl, _, rfl, l, xs, _, _, rfl, rfl, stup e hx, at_of (j := i + 1) (by omega) gb, ?_⟩
      refine ⟨pa, pb, _, _, 30, 30, rfl, ra, rb, hL.sz' (by omega), hL.sz' hi1, by omega, _, rfl, ?_⟩
      rw [decide_eq_false (Rat.not_lt.mpr (hL.mono i _ _ (get_at (by omega)) (get_at hi1)))]
      exact iteF ⟨e, eD⟩
    rintro H4 ⟨e4, eD'⟩
    refine ⟨Nat.zero_le _, fun v nv => ?_⟩
    refine ⟨.list [], .list [], .lst (.of ((same_upd nv) _ _ eD')) .nil, .lst (.of upd_same) .nil, nil_shaped, nil_shaped, ?_⟩
    rw [eqv_nil]
    exact q _ (e4.trans (same_upd nv))
theorem sc_nlife : FnScope ["life"] ["life"] (defScope sNeedLife) := ⟨rfl, rfl, rfl, by decide +kernel, rfl, by decide +kernel, by decide +kernel⟩
theorem ok_nlife {k : Nat} {f : Addr} {fd : FuncData} (F : Fun K "need_life" "need_life" sNeedLife f fd) {fI : Addr} {fdI : FuncData} (CI : Cl P w K mg base k "is_life" fI fdI ["value"] (spIsLife K)) :
    FnOk P w K mg base CX0 (k + 1) f fd ["life"] (spNeedLife K) := by
  refine F.ok sc_nlife (fun vs H Q E h => ?_) (fun cdv A outer s H vs Q E hr h => ?_)
  · obtain ⟨l, S, rfl, _⟩ := h
    rfl
  · obtain ⟨l, S, rfl, hA, hL, q⟩ := h
    refine ⟨_, pss_one (ps_if (pt_not (pt_val (pe_call CI.ok hr (by rfl) CI.mg CI.kp CI.bd .nil pass0 (pa_cons (pv 0) pa_nil)))) pss_never pss_nil), ?_⟩
    refine ⟨_, rfl, l, S, rfl, hA, hL, fun H' e => ⟨_, rfl, iteF ?_⟩⟩
    exact q H' e
theorem sc_cost : FnScope ["life", "plan", "fail", "age", "lost"] ["life", "plan", "fail", "age"] (defScope sCostAt) := ⟨rfl, rfl, rfl, by decide +kernel, rfl, by decide +kernel, by decide +kernel⟩
theorem ok_cost {k : Nat} {f : Addr} {fd : FuncData} (F : Fun K "cost_at" "cost_at" sCostAt f fd) {aZ aO : Addr} (T : Cn K mg aZ aO) {fM : Addr} {fdM : FuncData} (CM : Cl P w K mg base k "minus" fM fdM ["one", "other"] (spBin (· - ·) (fun _ => True) K)) {fO : Addr} {fdO : FuncData} (CO : Cl P w K mg base k "over" fO fdO ["one", "other"] (spBin (· / ·) (fun b => 0 < b) K)) {fP : Addr} {fdP : FuncData} (CP : Cl P w K mg base k "plus" fP fdP ["one", "other"] (spBin (· + ·) (fun _ => True) K)) {fT : Addr} {fdT : FuncData} (CT : Cl P w K mg base k "times" fT fdT ["one", "other"] (spBin (· * ·) (fun _ => True) K)) {fS : Addr} {fdS : FuncData} (CS : Cl P w K mg base k "total_of" fS fdS ["values"] (spTot K)) :
    FnOk P w K mg base CX0 (k + 1) f fd ["life", "plan", "fail", "age"] (spCost K) := by
  refine F.ok sc_cost (fun vs H Q E h => ?_) (fun cdv A outer s H vs Q E hr h => ?_)
  · obtain ⟨l, pp, pf, S, pl, fl, a, rfl, _⟩ := h
    rfl
  · obtain ⟨l, pp, pf, S, pl, fl, a, rfl, G, h1, ha, q⟩ := h
    obtain ⟨xs, hx, hl⟩ := G.at_.ex
    have hL := G.li
    have h2 := hL.two
    have h8 := hL.eight
    have hlen := hl.len
    refine ⟨_, pss_cons (ps_set (i := 4) sc_cost.nd rfl (.inl rfl) (pe_call CM.ok hr (by rfl) CM.mg CM.kp CM.bd .nil pass0 (pa_cons (pe_glob (v := .ref aO) rfl T.mo rfl) (pa_cons (pe_ix ix_tup (pv 0) (pv 3) (fun _ _ => rfl)) pa_nil))))
      (pss_one (ps_ret (pe_call CO.ok hr (by rfl) CO.mg CO.kp CO.bd .nil pass0 (pa_cons (pe_call CP.ok hr (by rfl) CP.mg CP.kp CP.bd .nil pass0 (pa_cons (pe_call CT.ok hr (by rfl) CT.mg CT.kp CT.bd .nil pass0 (pa_cons (pv 2) (pa_cons (pv 4) pa_nil))) (pa_cons (pe_call CT.ok hr (by rfl) CT.mg CT.kp CT.bd .nil pass0 (pa_cons (pv 1) (pa_cons (pe_ix ix_tup (pv 0) (pv 3) (fun _ _ => rfl)) pa_nil))) pa_nil))) (pa_cons (pe_call CS.ok hr (by rfl) CS.mg CS.kp CS.bd .nil pass0 (pa_cons (pe_slice sl_tup (pv 0) po_none (po_some (pv 3))) pa_nil)) pa_nil))))), ?_⟩
    obtain ⟨pa, ga, ra⟩ := hl.ix a _ (get_at ha)
    have sa := hL.sz' ha
    refine ⟨_, rfl, _, rfl, l, xs, _, _, rfl, rfl, hx, atI_nat ga, aO, pa, 1, at' S a, 1, 30, rfl, T.o _, ra, Sz.one, sa, by decide, True.intro, fun t1 n1 => ?_⟩
    have e1 := same_upd n1 (o := rt (1 - at' S a))
    refine ⟨_, rfl, _, rfl, pf, t1, fl, 1 - at' S a, 5, 32, rfl, stup e1 G.hf, RT.new, G.sf, (Sz.one.sub sa).mono (by decide), by decide, True.intro, fun t2 n2 => ?_⟩
    have e2 := e1.trans (same_upd n2 (o := rt (fl * (1 - at' S a))))
    refine ⟨_, rfl, _, rfl, _, rfl, l, xs, _, _, rfl, rfl, stup e2 hx, atI_nat ga, pp, pa, pl, at' S a, 5, 30, rfl, stup e2 G.hp, stup e2 ra, G.sp, sa, by decide, True.intro, fun t3 n3 => ?_⟩
    have e23 := same_upd n3 (o := rt (pl * at' S a))
    have e3 := e2.trans e23
    refine ⟨t2, t3, fl * (1 - at' S a), pl * at' S a, 37, 35, rfl, stup e23 RT.new, RT.new, (G.sf.mul (Sz.one.sub sa)).mono (by decide), G.sp.mul sa, by decide, True.intro, fun t4 n4 => ?_⟩
    have e34 := same_upd n4 (o := rt (fl * (1 - at' S a) + pl * at' S a))
    have e4 := e3.trans e34
    refine ⟨_, rfl, _, rfl, (a : Int), rfl, l, xs, rfl, stup e4 hx, fun z => ?_, fun t5 n5 => ?_⟩
    · have z2 := z.2
      rw [HT.sIx_nat] at z2
      omega
    have e45 := same_upd n5 (o := .tup (cutV xs none (some (a : Int))))
    have e5 := e4.trans e45
    have hcut : SqT K (upd (upd (upd (upd (upd H t1 (rt (1 - at' S a))) t2 (rt (fl * (1 - at' S a)))) t3 (rt (pl * at' S a))) t4 (rt (fl * (1 - at' S a) + pl * at' S a))) t5 (.tup (cutV xs none (some (a : Int))))) t5 (xs.take a) := by
      rw [cut_take (by omega)]
      exact .of upd_same
    have el : (S.take a).length = a := by
      rw [List.length_take]
      omega
    refine ⟨t5, xs.take a, S.take a, rfl, hcut, (hl.same e5).take a, by omega, fun r hr => hL.sz r (List.mem_of_mem_take hr), fun H' t6 e6 r6 => ?_⟩
    rw [el, psum_take (Nat.le_refl a)] at r6
    have hs := G.sf.mul (Sz.one.sub sa)
    refine ⟨t4, t6, fl * (1 - at' S a) + pl * at' S a, psum S a, 80, 1 + 31 * a, rfl, stup e6 (stup e45 RT.new), r6, ((G.sf.mul (Sz.one.sub sa)).add (G.sp.mul sa)).mono (by decide), hL.psum_sz (by omega), by omega, hL.psum_pos' h1 ha, fun t7 n7 => ?_⟩
    exact q _ t7 ((e5.trans e6).trans (same_upd n7)) RT.new
theorem sc_agec : FnScope ["life", "plan", "fail", "age"] ["life", "plan", "fail", "age"] (defScope sAgeCost) := ⟨rfl, rfl, rfl, by decide +kernel, rfl, by decide +kernel, by decide +kernel⟩
theorem ok_agec {k : Nat} {f : Addr} {fd : FuncData} (F : Fun K "age_cost" "age_cost" sAgeCost f fd) (B : Bi mg) {fN : Addr} {fdN : FuncData} (CN : Cl P w K mg base k "need_life" fN fdN ["life"] (spNeedLife K)) {fC : Addr} {fdC : FuncData} (CC : Cl P w K mg base k "need_cost" fC fdC ["cost"] (spNeedCost K)) {fI : Addr} {fdI : FuncData} (CI : Cl P w K mg base k "is_in" fI fdI ["value", "least", "most"] spIsIn) {fA : Addr} {fdA : FuncData} (CA : Cl P w K mg base k "cost_at" fA fdA ["life", "plan", "fail", "age"] (spCost K)) :
    FnOk P w K mg base CX0 (k + 1) f fd ["life", "plan", "fail", "age"] (spCost K) := by
  refine F.ok sc_agec (fun vs H Q E h => ?_) (fun cdv A outer s H vs Q E hr h => ?_)
  · obtain ⟨l, pp, pf, S, pl, fl, a, rfl, _⟩ := h
    rfl
  · obtain ⟨l, pp, pf, S, pl, fl, a, rfl, G, h1, ha, q⟩ := h
    obtain ⟨xs, hx, hl⟩ := G.at_.ex
    have hlen := hl.len
    refine ⟨_, pss_cons (ps_expr (pe_call CN.ok hr (by rfl) CN.mg CN.kp CN.bd .nil pass0 (pa_cons (pv 0) pa_nil)))
      (pss_cons (ps_expr (pe_call CC.ok hr (by rfl) CC.mg CC.kp CC.bd .nil pass0 (pa_cons (pv 1) pa_nil)))
      (pss_cons (ps_expr (pe_call CC.ok hr (by rfl) CC.mg CC.kp CC.bd .nil pass0 (pa_cons (pv 2) pa_nil)))
      (pss_cons (ps_if (pt_not (pt_val (pe_call CI.ok hr (by rfl) CI.mg CI.kp CI.bd .nil pass0 (pa_cons (pv 3) (pa_cons pe_int (pa_cons (pe_op op_sub (pe_callB call_len_seq (by rfl) B.len PySem.boot_len (pa_cons (pv 0) pa_nil)) pe_int) pa_nil)))))) pss_never pss_nil)
      (pss_one (ps_ret (pe_call CA.ok hr (by rfl) CA.mg CA.kp CA.bd .nil pass0 (pa_cons (pv 0) (pa_cons (pv 1) (pa_cons (pv 2) (pa_cons (pv 3) pa_nil)))))))))), ?_⟩
    refine ⟨_, rfl, l, S, rfl, G.at_, G.li, fun H' e => ?_⟩
    have G' := G.same e
    refine ⟨_, rfl, pp, pl, rfl, G'.hp, G'.p0, ?_⟩
    refine ⟨_, rfl, pf, fl, rfl, G'.hf, G'.f0, ?_⟩
    refine ⟨_, rfl, _, rfl, l, xs, rfl, .inr (stup e hx), _, _, rfl, rfl, _, _, _, rfl, by omega, by omega, _, rfl, iteF ?_⟩
    refine ⟨_, rfl, _, rfl, _, rfl, _, rfl, l, pp, pf, S, pl, fl, a, rfl, G', h1, ha, fun H2 p e2 r => ?_⟩
    exact q H2 p (e.trans e2) r
theorem sc_best : FnScope ["life", "plan", "fail", "best", "age", "cost"] ["life", "plan", "fail"] (defScope sBest) := ⟨rfl, rfl, rfl, by decide +kernel, rfl, by decide +kernel, by decide +kernel⟩
theorem ok_best {k : Nat} {f : Addr} {fd : FuncData} (F : Fun K "best_age" "best_age" sBest f fd) (B : Bi mg) {fN : Addr} {fdN : FuncData} (CN : Cl P w K mg base k "need_life" fN fdN ["life"] (spNeedLife K)) {fC : Addr} {fdC : FuncData} (CC : Cl P w K mg base k "need_cost" fC fdC ["cost"] (spNeedCost K)) {fA : Addr} {fdA : FuncData} (CA : Cl P w K mg base k "cost_at" fA fdA ["life", "plan", "fail", "age"] (spCost K)) {fB : Addr} {fdB : FuncData} (CB : Cl P w K mg base k "is_below" fB fdB ["one", "other"] (spLess K)) :
    FnOk P w K mg base CX0 (k + 1) f fd ["life", "plan", "fail"] (spBest K) := by
  refine F.ok sc_best (fun vs H Q E h => ?_) (fun cdv A outer s H vs Q E hr h => ?_)
  · obtain ⟨l, pp, pf, S, pl, fl, rfl, _⟩ := h
    rfl
  · obtain ⟨l, pp, pf, S, pl, fl, rfl, G, q⟩ := h
    obtain ⟨xs, hx, hl⟩ := G.at_.ex
    have hL := G.li
    have h2 := hL.two
    have h8 := hL.eight
    have hlen := hl.len
    refine ⟨_, pss_cons (ps_expr (pe_call CN.ok hr (by rfl) CN.mg CN.kp CN.bd .nil pass0 (pa_cons (pv 0) pa_nil)))
      (pss_cons (ps_expr (pe_call CC.ok hr (by rfl) CC.mg CC.kp CC.bd .nil pass0 (pa_cons (pv 1) pa_nil)))
      (pss_cons (ps_expr (pe_call CC.ok hr (by rfl) CC.mg CC.kp CC.bd .nil pass0 (pa_cons (pv 2) pa_nil)))
      (pss_cons (ps_set (i := 3) sc_best.nd rfl (.inl rfl) (pe_tup (pa_cons (pe_call CA.ok hr (by rfl) CA.mg CA.kp CA.bd .nil pass0 (pa_cons (pv 0) (pa_cons (pv 1) (pa_cons (pv 2) (pa_cons pe_int pa_nil))))) (pa_cons pe_int pa_nil))))
      (pss_cons (ps_for PassesOwn.never rfl (pi_range2 (by rfl) B.ran (pa_cons pe_int (pa_cons (pe_callB call_len_seq (by rfl) B.len PySem.boot_len (pa_cons (pv 0) pa_nil)) pa_nil))) (pg_name (i := 4) sc_best.nd rfl (.inl rfl))
        (pss_cons (ps_set (i := 5) sc_best.nd rfl (.inl rfl) (pe_call CA.ok hr (by rfl) CA.mg CA.kp CA.bd .nil pass0 (pa_cons (pv 0) (pa_cons (pv 1) (pa_cons (pv 2) (pa_cons (pv 4) pa_nil))))))
      (pss_one (ps_set (i := 3) sc_best.nd rfl (.inl rfl) (pe_ifExp (pt_val (pe_call CB.ok hr (by rfl) CB.mg CB.kp CB.bd .nil pass0 (pa_cons (pv 5) (pa_cons (pe_ix ix_tup (pv 3) pe_int (fun _ _ => rfl)) pa_nil)))) (pe_tup (pa_cons (pv 5) (pa_cons (pv 4) pa_nil))) (pv 3))))))
      (pss_one (ps_ret (pv 3))))))), ?_⟩
    refine ⟨_, rfl, l, S, rfl, G.at_, G.li, fun H1 e1 => ?_⟩
    have G1 := G.same e1
    refine ⟨_, rfl, pp, pl, rfl, G1.hp, G1.p0, ?_⟩
    refine ⟨_, rfl, pf, fl, rfl, G1.hf, G1.f0, ?_⟩
    refine ⟨_, rfl, _, rfl, _, rfl, l, pp, pf, S, pl, fl, 1, rfl, G1, Nat.le_refl _, by omega, fun H2 p e2 r2 => ?_⟩
    refine ⟨by show 2 ≤ sizeLine; decide, fun t nt => ?_⟩
    have e3 := (e1.trans e2).trans (same_upd nt (o := .tup [.ref p, .int 1]))
    refine ⟨_, rfl, l, xs, rfl, .inr (stup e3 hx), _, _, rfl, ⟨by decide, by decide, by omega, by omega⟩, for_range (lo := 2) (n := ((xs.length : Int) - 2).toNat)
      (fun i σ H' => ∃ (t p : Addr) (b : Nat) (v4 v5 : Option V), σ = [some (.ref l), some (.ref pp), some (.ref pf), some (.ref t), v4, v5] ∧ Same H H' ∧ H' t = some (.tup [.ref p, .int (b : Int)]) ∧ RT K H' p (cost S pl fl b) ∧ Best (cost S pl fl) (i + 1) b)
      ⟨t, p, 1, _, _, rfl, e3, upd_same, stup (same_upd nt) r2, Best.one _⟩ ?_ ?_⟩
    · rintro i σ H' hi ⟨t, p, b, v4, v5, rfl, e, et, rp, hb⟩
      have hi2 : i + 2 < S.length := by omega
      refine ⟨_, rfl, _, rfl, _, rfl, _, rfl, l, pp, pf, S, pl, fl, i + 2, (by rw [show (2 : Int) + (i : Nat) = ((i + 2 : Nat) : Int) by omega]; rfl), G.same e, by omega, hi2, fun H2 p2 e2 r2 => ?_⟩
      have et2 := e2 _ _ et
      have rp2 := stup e2 rp
      have hb1 := hb.lo
      have hb2 := hb.hi
      refine ⟨_, rfl, _, rfl, t, _, 0, _, rfl, rfl, .of et2, at0, p2, p, cost S pl fl (i + 2), cost S pl fl b, 400, 400, rfl, r2, rp2, cost_sz hL G.sp G.sf (by omega) hi2, cost_sz hL G.sp G.sf hb1 (by omega), by decide, _, rfl, ?_⟩
      refine ite2 (fun c => ?_) (fun c => ?_)
      · have c := of_decide_eq_true c
        refine ⟨_, rfl, _, rfl, by show 2 ≤ sizeLine; decide, fun t3 n3 => ?_⟩
        refine ⟨t3, p2, i + 2, _, _, rfl, (e.trans e2).trans (same_upd n3), ?_, stup (same_upd n3) r2, hb.take c⟩
        rw [upd_same, show (2 : Int) + (i : Nat) = ((i + 2 : Nat) : Int) by omega]
      · have c := of_decide_eq_false (Bool.not_eq_true _ ▸ c)
        refine ⟨_, rfl, ?_⟩
        exact ⟨t, p, b, _, _, rfl, e.trans e2, et2, rp2, hb.keep c⟩
    · rintro σ H' ⟨t, p, b, v4, v5, rfl, e, et, rp, hb⟩
      refine ⟨_, rfl, ?_⟩
      refine q H' t p b e et rp ?_
      rw [show S.length - 1 = ((xs.length : Int) - 2).toNat + 1 by omega]
      exact hb
end
end Fw
namespace Fw
open PySem PySem.Spec PyProof.Rows L2
/-! ### promises -/
def spTaken (K : PySem.W.Frag) : Sp := fun vs H Q _ => ∃ (r a : Addr) (ns : List Int) (m : Int), vs = [.ref r, .int m] ∧ RowAt K H r a ns ∧ 0 < m ∧ m < 1073741824 ∧
  ∀ H' v, Keep r H H' → RowAt K H' r a ns → 0 ≤ v → v < m → Q (.int v) H'
def spPick (K : PySem.W.Frag) : Sp := fun vs H Q _ => ∃ (r a t : Addr) (ns : List Int) (xs : List V), vs = [.ref r, .ref t] ∧ RowAt K H r a ns ∧ H t = some (.lst xs) ∧ t ≠ r ∧ 0 < xs.length ∧ xs.length < 1000 ∧
  ∀ H' (i : Nat) x, Keep r H H' → RowAt K H' r a ns → xs[i]? = some x → Q x H'
def spLife (K : PySem.W.Frag) : Sp := fun vs H Q _ => ∃ (r a : Addr) (ns : List Int), vs = [.ref r, .int 7] ∧ RowAt K H r a ns ∧
  ∀ H' l S, Keep r H H' → RowAt K H' r a ns → LifeAt K H' l S → Life S → Q (.ref l) H'
theorem four0 {x y z u : V} : atI [x, y, z, u] 0 = some x := atI_nat (j := 0) rfl
theorem four1 {x y z u : V} : atI [x, y, z, u] 1 = some y := atI_nat (j := 1) rfl
theorem four2 {x y z u : V} : atI [x, y, z, u] 2 = some z := atI_nat (j := 2) rfl
theorem four3 {x y z u : V} : atI [x, y, z, u] 3 = some u := atI_nat (j := 3) rfl
theorem seed_ok {x : Int} : 0 ≤ x % 2147483647 ∧ x % 2147483647 < 2147483647 := ⟨Int.emod_nonneg _ (by decide), Int.emod_lt_of_pos _ (by decide)⟩
theorem menu_ix {i : Nat} {x : V} (h : [V.int 4, V.int 6, V.int 10][i]? = some x) : ∃ b : Int, x = .int b ∧ 4 ≤ b ∧ b ≤ 10 := by
  match i, h with
  | 0, h => exact ⟨4, (Option.some.inj h).symm, by decide, by decide⟩
  | 1, h => exact ⟨6, (Option.some.inj h).symm, by decide, by decide⟩
  | 2, h => exact ⟨10, (Option.some.inj h).symm, by decide, by decide⟩
theorem map_ix {ts : List Int} {i : Nat} {x : V} (h : (ts.map V.int)[i]? = some x) : ∃ t, x = .int t ∧ ts[i]? = some t := by
  rw [List.getElem?_map] at h
  cases e : ts[i]? with
  | none =>
    rw [e] at h
    cases h
  | some t =>
    rw [e] at h
    exact ⟨t, (Option.some.inj h).symm, rfl⟩
section
variable {P : Program} {w : World} {K : PySem.W.Frag} {mg : Str → Option Value} {base : Heap}
theorem lsc_taken : FnScope ["_law_row", "_law_many", "_law_found", "_law_cell"] ["_law_row", "_law_many"] (defScope lTaken) := ⟨rfl, rfl, rfl, by decide +kernel, rfl, by decide +kernel, by decide +kernel⟩
theorem lok_taken {k : Nat} {f : Addr} {fd : FuncData} (F : Fun K "_law_taken" "_law_taken" lTaken f fd) (B : Bi mg) :
    FnOk P w K mg base CX0 (k + 1) f fd ["_law_row", "_law_many"] (spTaken K) := by
  refine F.ok lsc_taken (fun vs H Q E h => ?_) (fun cdv A outer s H vs Q E hr h => ?_)
  · obtain ⟨r, a, ns, m, rfl, _⟩ := h
    rfl
  · obtain ⟨r, a, ns, m, rfl, hrow, hm, hm2, q⟩ := h
    obtain ⟨p, s', z, h0, hp, hs0, hs1⟩ := hrow.ex
    refine ⟨_, pss_cons (ps_if (pt_cmpR op_gt (pe_ix ix_list (pv 0) pe_int (fun _ _ => rfl)) pe_int (nomark _)) (pss_cons (ps_set (i := 2) lsc_taken.nd rfl (.inl rfl) (pe_op op_mod (pe_callTy call_int1 (by rfl) B.int (by decide +kernel) (pa_cons (pe_ix ix_list (pv 0) pe_int (fun _ _ => rfl)) pa_nil)) (pv 1)))
      (pss_cons (ps_asg (pe_op op_fdiv (pe_ix ix_list (pv 0) pe_int (fun _ _ => rfl)) (pv 1)) (pg_sub (pv 0) pe_int set_list))
      (pss_one (ps_ret (pv 2))))) pss_nil)
      (pss_cons (ps_asg (pe_op op_add (pe_ix ix_list (pv 0) pe_int (fun _ _ => rfl)) pe_int) (pg_sub (pv 0) pe_int set_list))
      (pss_cons (ps_if (pt_cmpR op_gt (pe_ix ix_list (pv 0) pe_int (fun _ _ => rfl)) (pe_callB call_len_seq (by rfl) B.len PySem.boot_len (pa_cons (pe_ix ix_list (pv 0) pe_int (fun _ _ => rfl)) pa_nil)) (nomark _)) (pss_cons (ps_asg (pe_op op_mod (pe_callTy call_int1 (by rfl) B.int (by decide +kernel) (pa_cons (pe_op op_add (pe_op op_mul (pe_ix ix_list (pv 0) pe_int (fun _ _ => rfl)) pe_int) pe_int) pa_nil)) pe_int) (pg_sub (pv 0) pe_int set_list))
      (pss_one (ps_ret (pe_op op_mod (pe_callTy call_int1 (by rfl) B.int (by decide +kernel) (pa_cons (pe_op op_fdiv (pe_ix ix_list (pv 0) pe_int (fun _ _ => rfl)) pe_int) pa_nil)) (pv 1))))) pss_nil)
      (pss_cons (ps_set (i := 3) lsc_taken.nd rfl (.inl rfl) (pe_ix ix_list (pe_ix ix_list (pv 0) pe_int (fun _ _ => rfl)) (pe_op op_sub (pe_ix ix_list (pv 0) pe_int (fun _ _ => rfl)) pe_int) (fun _ _ => rfl)))
      (pss_cons (ps_asg (pe_op op_mod (pe_callTy call_int1 (by rfl) B.int (by decide +kernel) (pa_cons (pe_op op_add (pe_op op_add (pe_op op_mul (pe_ix ix_list (pv 0) pe_int (fun _ _ => rfl)) pe_int) (pv 3)) pe_int) pa_nil)) pe_int) (pg_sub (pv 0) pe_int set_list))
      (pss_cons (ps_if (pt_cmpR op_ge (pv 3) (pe_op op_pow pe_int pe_int) (nomark _)) (pss_one (ps_asg (pe_op op_fdiv (pv 3) (pv 1)) (pg_sub (pv 0) pe_int set_list))) pss_nil)
      (pss_one (ps_ret (pe_op op_mod (pe_callTy call_int1 (by rfl) B.int (by decide +kernel) (pa_cons (pv 3) pa_nil)) (pv 1))))))))), ?_⟩
    refine ⟨_, rfl, r, _, 3, _, rfl, rfl, .of h0, four3, _, _, rfl, rfl, _, rfl, ?_⟩
    refine ite2 (fun _ => ?_) (fun _ => ?_)
    · refine ⟨_, rfl, r, _, 3, _, rfl, rfl, .of h0, four3, .inl ⟨_, rfl, _, rfl, _, _, rfl, rfl, hm, ?_⟩⟩
      refine ⟨_, rfl, r, _, 3, _, rfl, rfl, .of h0, four3, _, rfl, _, _, rfl, rfl, ⟨hm, hm2⟩, _, rfl, r, _, 3, 3, rfl, rfl, h0, rfl, ?_⟩
      refine ⟨_, rfl, ?_⟩
      exact q _ _ Keep.upd (hrow.put Keep.upd upd_same hp hs0 hs1) (Int.emod_nonneg _ (by omega)) (Int.emod_lt_of_pos _ hm)
    refine ⟨_, rfl, r, _, 1, _, rfl, rfl, .of h0, four1, _, _, rfl, rfl, _, rfl, r, _, 1, 1, rfl, rfl, h0, rfl, ?_⟩
    have h1 : (upd H r (.lst ([V.ref a, .int p, .int s', .int z].set 1 (.int (p + 1))))) r = some (.lst [V.ref a, .int (p + 1), .int s', .int z]) := upd_same
    have k1 : Keep r H (upd H r (.lst ([V.ref a, .int p, .int s', .int z].set 1 (.int (p + 1))))) := Keep.upd
    have c1 := hrow.keep k1
    generalize upd H r (.lst ([V.ref a, .int p, .int s', .int z].set 1 (.int (p + 1)))) = H1 at h1 k1 c1 ⊢
    refine ⟨_, rfl, r, _, 1, _, rfl, rfl, .of h1, four1, _, rfl, r, _, 0, _, rfl, rfl, .of h1, four0, a, _, rfl, .inl c1, _, _, rfl, rfl, _, rfl, ?_⟩
    refine ite2 (fun _ => ?_) (fun c => ?_)
    · refine ⟨_, rfl, r, _, 2, _, rfl, rfl, .of h1, four2, _, _, rfl, rfl, .inl ⟨by omega, by omega⟩, _, _, rfl, rfl, .inl ⟨_, rfl, _, _, rfl, rfl, (by show (0 : Int) < 2147483647; decide), _, rfl, r, _, 2, 2, rfl, rfl, h1, rfl, ?_⟩⟩
      have h2 : (upd H1 r (.lst ([V.ref a, .int (p + 1), .int s', .int z].set 2 (.int ((s' * 48271 + 11) % 2147483647))))) r = some (.lst [V.ref a, .int (p + 1), .int ((s' * 48271 + 11) % 2147483647), .int z]) := upd_same
      refine ⟨_, rfl, r, _, 2, _, rfl, rfl, .of h2, four2, _, _, rfl, rfl, ⟨by decide, by decide⟩, .inl ⟨_, rfl, _, rfl, _, _, rfl, rfl, hm, ?_⟩⟩
      exact q _ _ (k1.trans Keep.upd) (hrow.put (k1.trans Keep.upd) h2 (by omega) seed_ok.1 seed_ok.2) (Int.emod_nonneg _ (by omega)) (Int.emod_lt_of_pos _ hm)
    have c := of_decide_eq_false (Bool.not_eq_true _ ▸ c)
    rw [List.length_map] at c
    have hc : (ns.map V.int)[p.toNat]? = some (V.int (ns[p.toNat]'(by omega))) := by
      rw [List.getElem?_map, List.getElem?_eq_getElem (by omega)]
      rfl
    generalize ns[p.toNat]'(by omega) = cell at hc
    refine ⟨_, rfl, r, _, 0, _, rfl, rfl, .of h1, four0, _, rfl, r, _, 1, _, rfl, rfl, .of h1, four1, _, _, rfl, rfl, a, _, _, _, rfl, rfl, c1, at_of (j := p.toNat) (by omega) hc, ?_⟩
    refine ⟨_, rfl, r, _, 2, _, rfl, rfl, .of h1, four2, _, _, rfl, rfl, .inl ⟨by omega, by omega⟩, _, rfl, _, _, rfl, rfl, _, _, rfl, rfl, .inl ⟨_, rfl, _, _, rfl, rfl, (by show (0 : Int) < 2147483647; decide), _, rfl, r, _, 2, 2, rfl, rfl, h1, rfl, ?_⟩⟩
    have h2 : (upd H1 r (.lst ([V.ref a, .int (p + 1), .int s', .int z].set 2 (.int ((s' * 48271 + cell + 11) % 2147483647))))) r = some (.lst [V.ref a, .int (p + 1), .int ((s' * 48271 + cell + 11) % 2147483647), .int z]) := upd_same
    have k2 : Keep r H (upd H1 r (.lst ([V.ref a, .int (p + 1), .int s', .int z].set 2 (.int ((s' * 48271 + cell + 11) % 2147483647))))) := k1.trans Keep.upd
    generalize upd H1 r (.lst ([V.ref a, .int (p + 1), .int s', .int z].set 2 (.int ((s' * 48271 + cell + 11) % 2147483647)))) = H2 at h2 k2 ⊢
    refine ⟨_, rfl, _, _, rfl, rfl, ⟨by decide, by decide, by decide⟩, _, _, rfl, rfl, _, rfl, ?_⟩
    refine ite2 (fun _ => ?_) (fun _ => ?_)
    · refine ⟨_, rfl, _, rfl, _, _, rfl, rfl, ⟨hm, hm2⟩, _, rfl, r, _, 3, 3, rfl, rfl, h2, rfl, ?_⟩
      refine ⟨_, rfl, .inl ⟨_, rfl, _, rfl, _, _, rfl, rfl, hm, ?_⟩⟩
      exact q _ _ (k2.trans Keep.upd) (hrow.put (k2.trans Keep.upd) upd_same (by omega) seed_ok.1 seed_ok.2) (Int.emod_nonneg _ (by omega)) (Int.emod_lt_of_pos _ hm)
    · refine ⟨_, rfl, .inl ⟨_, rfl, _, rfl, _, _, rfl, rfl, hm, ?_⟩⟩
      exact q _ _ k2 (hrow.put k2 h2 (by omega) seed_ok.1 seed_ok.2) (Int.emod_nonneg _ (by omega)) (Int.emod_lt_of_pos _ hm)
theorem lsc_pick : FnScope ["_law_row", "_law_things"] ["_law_row", "_law_things"] (defScope lPick) := ⟨rfl, rfl, rfl, by decide +kernel, rfl, by decide +kernel, by decide +kernel⟩
theorem lok_pick {k : Nat} {f : Addr} {fd : FuncData} (F : Fun K "_law_pick" "_law_pick" lPick f fd) (B : Bi mg) {fT : Addr} {fdT : FuncData} (CT : Cl P w K mg base k "_law_taken" fT fdT ["_law_row", "_law_many"] (spTaken K)) :
    FnOk P w K mg base CX0 (k + 1) f fd ["_law_row", "_law_things"] (spPick K) := by
  refine F.ok lsc_pick (fun vs H Q E h => ?_) (fun cdv A outer s H vs Q E hr h => ?_)
  · obtain ⟨r, a, t, ns, xs, rfl, _⟩ := h
    rfl
  · obtain ⟨r, a, t, ns, xs, rfl, hrow, ht, hn, h0, h1, q⟩ := h
    refine ⟨_, pss_one (ps_ret (pe_ix ix_list (pv 1) (pe_call CT.ok hr (by rfl) CT.mg CT.kp CT.bd .nil pass0 (pa_cons (pv 0) (pa_cons (pe_callB call_len_seq (by rfl) B.len PySem.boot_len (pa_cons (pv 1) pa_nil)) pa_nil))) (fun _ _ => rfl))), ?_⟩
    refine ⟨_, rfl, _, rfl, _, rfl, t, xs, rfl, .inl (.of ht), r, a, ns, _, rfl, hrow, by omega, by omega, fun H' v k' row' v0 v1 => ?_⟩
    obtain ⟨x, hx⟩ : ∃ x, xs[v.toNat]? = some x := ⟨_, List.getElem?_eq_getElem (by omega)⟩
    refine ⟨t, xs, v, x, rfl, rfl, .of (k' _ _ hn ht), at_of (j := v.toNat) (by omega) hx, ?_⟩
    exact q H' v.toNat x k' row' hx
theorem lsc_life : FnScope ["_law_row", "_law_most", "_law_many", "_law_way", "_law_found", "_law_below", "_law_tops", "_law_life_here", "_law_top", "_law_k"] ["_law_row", "_law_most"] (defScope lLife) := ⟨rfl, rfl, rfl, by decide +kernel, rfl, by decide +kernel, by decide +kernel⟩
theorem lok_life {k : Nat} {f : Addr} {fd : FuncData} (F : Fun K "_law_life" "_law_life" lLife f fd) (B : Bi mg) {fT : Addr} {fdT : FuncData} (CT : Cl P w K mg base k "_law_taken" fT fdT ["_law_row", "_law_many"] (spTaken K)) {fP : Addr} {fdP : FuncData} (CP : Cl P w K mg base k "_law_pick" fP fdP ["_law_row", "_law_things"] (spPick K)) {fM : Addr} {fdM : FuncData} (CM : Cl P w K mg base k "_law_times" fM fdM ["_law_one", "_law_other"] (spBin (· * ·) (fun _ => True) K)) {fR : Addr} {fdR : FuncData} (CR : Cl P w K mg base k "_law_ratio" fR fdR ["_law_numerator", "_law_denominator"] spRed) :
    FnOk P w K mg base CX0 (k + 1) f fd ["_law_row", "_law_most"] (spLife K) := by
  refine F.ok lsc_life (fun vs H Q E h => ?_) (fun cdv A outer s H vs Q E hr h => ?_)
  · obtain ⟨r, a, ns, rfl, _⟩ := h
    rfl
  · obtain ⟨r, a, ns, rfl, hrow, q⟩ := h
    refine ⟨_, pss_cons (ps_par3 (i := 2) (j := 3) (l := 4) rfl lsc_life.nd rfl rfl rfl (by decide) (by decide) (by decide) rfl rfl rfl (pa_cons (pe_op op_add pe_int (pe_call CT.ok hr (by rfl) CT.mg CT.kp CT.bd .nil pass0 (pa_cons (pv 0) (pa_cons (pv 1) pa_nil)))) (pa_cons (pe_call CT.ok hr (by rfl) CT.mg CT.kp CT.bd .nil pass0 (pa_cons (pv 0) (pa_cons pe_int pa_nil))) (pa_cons (pe_lst pa_nil) pa_nil))) (by rfl))
      (pss_cons (ps_set (i := 5) lsc_life.nd rfl (.inr rfl) (pe_call CP.ok hr (by rfl) CP.mg CP.kp CP.bd .nil pass0 (pa_cons (pv 0) (pa_cons (pe_lst (pa_cons pe_int (pa_cons pe_int (pa_cons pe_int pa_nil)))) pa_nil))))
      (pss_cons (ps_setLc (i := 6) (own := [("_law_k", 9)]) (g := gName 9) (by rfl) lsc_life.nd rfl rfl (sw_true rfl rfl rfl (by decide +kernel)) (pi_range1 (by rfl) B.ran (pa_cons (pe_op op_sub (pv 2) pe_int) pa_nil))
        (blkOk_by (own := [("_law_k", 9)]) (N := ["_law_row", "_law_most", "_law_many", "_law_way", "_law_found", "_law_below", "_law_tops", "_law_life_here", "_law_top", "_law_k"]) (sc := defScope lLife) (by decide +kernel)) (fun _ _ _ _ _ => pg_name (i := 9) lsc_life.nd rfl (Or.inl rfl))
        (fun _ _ _ _ _ => pts_nil) (fun _ _ _ _ _ => (pe_call CT.ok hr (by rfl) CT.mg CT.kp CT.bd .nil pass0 (pa_cons (pv 0) (pa_cons (pv 5) pa_nil)))))
      (pss_cons (ps_set (i := 6) lsc_life.nd rfl (.inl rfl) (pe_ifExp (pt_cmpR op_gt (pv 3) pe_int (nomark _)) (pe_callB cr_sorted (by rfl) B.srt (by decide +kernel) (pa_cons (pv 6) pa_nil)) (pv 6)))
      (pss_cons (ps_set (i := 7) lsc_life.nd rfl (.inl rfl) (pe_lst (pa_cons (pe_tup (pa_cons pe_int (pa_cons pe_int pa_nil))) pa_nil)))
      (pss_cons (ps_for PassesOwn.never rfl (pi_list (pv 6)) (pg_name (i := 8) lsc_life.nd rfl (.inl rfl))
        (pss_one (ps_expr (pe_bm PySem.F.plainAttrs_list PySem.F.slot_list_append PySem.F.type_list_append mt_append (pv 7) (pa_cons (pe_call CM.ok hr (by rfl) CM.mg CM.kp CM.bd .nil pass0 (pa_cons (pe_ix ix_list (pv 7) (pe_un un_neg pe_int) (fun _ _ => rfl)) (pa_cons (pe_call CR.ok hr (by rfl) CR.mg CR.kp CR.bd .nil pass0 (pa_cons (pe_op op_sub (pv 5) (pv 8)) (pa_cons (pv 5) pa_nil))) pa_nil))) pa_nil)))))
      (pss_one (ps_ret (pe_callTy call_tuple_of (by rfl) B.tup (by decide +kernel) (pa_cons (pe_op op_cat (pv 7) (pe_lst (pa_cons (pe_tup (pa_cons pe_int (pa_cons pe_int pa_nil))) pa_nil))) pa_nil))))))))), ?_⟩
    refine ⟨_, rfl, _, rfl, r, a, ns, 7, rfl, hrow, by decide, by decide, fun H1 v1 k1 row1 a1 b1 => ?_⟩
    refine ⟨_, _, rfl, rfl, ?_⟩
    refine ⟨_, rfl, r, a, ns, 3, rfl, row1, by decide, by decide, fun H2 v2 k2 row2 a2 b2 => ?_⟩
    refine ⟨Nat.zero_le _, fun d nd => ?_⟩
    refine ⟨_, _, _, rfl, ?_⟩
    have k3 : Keep r H (upd H2 d (.lst [])) := (k1.trans k2).trans (.of (same_upd nd))
    have row3 := row2.same (same_upd nd (o := .lst []))
    generalize upd H2 d (.lst []) = H3 at k3 row3 ⊢
    refine ⟨_, rfl, ?_⟩
    refine ⟨by show 3 ≤ sizeLine; decide, fun t nt => ?_⟩
    have row4 := row3.same (same_upd nt (o := .lst [.int 4, .int 6, .int 10]))
    obtain ⟨_, _, _, er3, _⟩ := row3.ex
    refine ⟨r, a, t, ns, _, rfl, row4, upd_same, (ne_of_none er3 nt).symm, by decide, by decide, fun H5 i x k5 row5 hx => ?_⟩
    obtain ⟨bl, rfl, hb1, hb2⟩ := menu_ix hx
    have k5' : Keep r H H5 := (k3.trans (.of (same_upd nt))).trans k5
    refine ⟨_, rfl, _, _, rfl, rfl, (1 + v1) - 1, rfl, by omega, by omega, fun D nD => ?_⟩
    obtain ⟨_, _, _, er5, _⟩ := row5.ex
    have nDr : D ≠ r := (ne_of_none er5 nD).symm
    have nDH : H D = none := k5'.free nD nDr
    have hor := seq_or row5.sc nD
    refine lc_range (lo := 0) (n := ((1 + v1) - 1).toNat) (fun i H' => Keep r H H' ∧ RowAt K H' r a ns ∧ ∃ ts : List Int, H' D = some (.lst (ts.map V.int)) ∧ ts.length = i ∧ ∀ t ∈ ts, 0 ≤ t ∧ t < bl)
      ⟨k5'.trans (.of (same_upd nD)), row5.same (same_upd nD), [], upd_same, rfl, fun t ht => absurd ht (by simp)⟩ ?_ ?_
    · rintro i H' hi ⟨k', row', ts, eD, hl, ht⟩
      refine ⟨rfl, ?_⟩
      refine ⟨_, rfl, _, rfl, r, a, ns, bl, rfl, row', by omega, by omega, fun H'' v k'' row'' v0 v1' => ?_⟩
      have eD' := k'' _ _ nDr eD
      refine ⟨_, eD', by rw [List.length_map]; exact small1000 (by omega), (k'.trans k'').put nDH, row''.store nDr hor, ts ++ [v], ?_, ?_, ?_⟩
      · rw [upd_same, List.map_append]
        rfl
      · rw [List.length_append, hl]
        rfl
      · intro t ht'
        rcases List.mem_append.mp ht' with h | h
        · exact ht t h
        · rw [List.mem_singleton.mp h]
          exact ⟨v0, v1'⟩
    rintro H6 ⟨k6, row6, ts, eD, hl, ht⟩
    refine ⟨_, rfl, _, _, rfl, rfl, _, rfl, ?_⟩
    refine ite2 (fun _ => ?_) (fun _ => ?_)
    · refine ⟨_, rfl, D, ts, rfl, .of eD, by omega, fun ts7 tp perm _ ntp => ?_⟩
      have k7 : Keep r H (upd H6 tp (.lst (ts7.map V.int))) := k6.trans (.of (same_upd ntp))
      have row7 := row6.same (same_upd ntp (o := .lst (ts7.map V.int)))
      have etp : (upd H6 tp (.lst (ts7.map V.int))) tp = some (.lst (ts7.map V.int)) := upd_same
      have hl7 : ts7.length ≤ 6 := by
        rw [perm.length_eq]
        omega
      have ht7 : ∀ t ∈ ts7, 0 ≤ t ∧ t < bl := fun t h => ht t (perm.mem_iff.mp h)
      generalize upd H6 tp (.lst (ts7.map V.int)) = H7 at k7 row7 etp ⊢
      refine ⟨by show 2 ≤ sizeLine; decide, fun p1 np1 => ⟨by show 1 ≤ sizeLine; decide, fun lf nlf => ?_⟩⟩
      have e8 : Same H7 (upd H7 p1 (.tup [.int 1, .int 1])) := same_upd np1
      have r1 : RT K (upd H7 p1 (.tup [.int 1, .int 1])) p1 1 := .of upd_same
      have k8 : Keep r H (upd H7 p1 (.tup [.int 1, .int 1])) := k7.trans (.of e8)
      have row8 := row7.same e8
      have etp8 := e8 _ _ etp
      generalize upd H7 p1 (.tup [.int 1, .int 1]) = H8 at nlf e8 r1 k8 row8 etp8 ⊢
      obtain ⟨_, _, _, er8, _⟩ := row8.ex
      have nlr : lf ≠ r := (ne_of_none er8 nlf).symm
      have nlH : H lf = none := k8.free nlf nlr
      have lor := seq_or row8.sc nlf
      have ntl : tp ≠ lf := ne_of_none etp8 nlf
      have e9 : Same H8 (upd H8 lf (.lst [.ref p1])) := same_upd nlf
      refine ⟨_, rfl, tp, rfl, ⟨_, .of (e9 _ _ etp8)⟩, for_list (K := K) (a := tp) (xs := ts7.map V.int)
        (fun i σ H' => ∃ (v8 v9 : Option V) (xs : List V) (L : List Rat), σ = [some (.ref r), some (.int 7), some (.int (1 + v1)), some (.int v2), some (.ref d), some (.int bl), some (.ref tp), some (.ref lf), v8, v9] ∧
          Keep r H H' ∧ RowAt K H' r a ns ∧ H' tp = some (.lst (ts7.map V.int)) ∧ H' lf = some (.lst xs) ∧ LT K H' xs L ∧ Pre L ∧ L.length = i + 1)
        ⟨_, _, [.ref p1], [1], rfl, k8.trans (.of e9), row8.same e9, e9 _ _ etp8, upd_same, LT.nil.append (stup e9 r1), Pre.one, rfl⟩
        (fun i σ H' _ ⟨_, _, _, _, _, _, _, et, _⟩ => .of et) ?_ ?_⟩
      · rintro i x σ H' hi ⟨v8, v9, xs, L, rfl, k', row', et, el, hL, pre, hlen⟩
        obtain ⟨t, rfl, hti⟩ := map_ix hi
        have htb := ht7 t (List.mem_of_getElem? hti)
        have hlt := (List.getElem?_eq_some_iff.mp hti).1
        have hxl := hL.len
        obtain ⟨last, hlast⟩ : ∃ z, L[L.length - 1]? = some z := ⟨_, List.getElem?_eq_getElem (by omega)⟩
        obtain ⟨pp, gp, rp⟩ := hL.ix _ last hlast
        obtain ⟨f0, f1, f2⟩ := factor_ok htb.1 htb.2 hb2
        refine ⟨_, rfl, .inl ⟨rfl, _, .of el⟩, ?_⟩
        refine ⟨_, rfl, _, rfl, lf, xs, -1, _, rfl, rfl, .of el, at_m1 (by omega) (by rw [hxl]; exact gp), ?_⟩
        refine ⟨_, rfl, _, rfl, _, _, rfl, rfl, _, rfl, bl - t, bl, 4, rfl, by omega, by omega, by omega, by decide, fun q1 nq1 => ?_⟩
        have s1 : Same H' (upd H' q1 (rt (Rat.divInt (bl - t) bl))) := same_upd nq1
        refine ⟨pp, q1, last, _, 4 * L.length, 4, rfl, stup s1 rp, RT.new, pre.sz last (List.mem_of_getElem? hlast), f2, by omega, True.intro, fun q2 nq2 => ?_⟩
        have s2 : Same H' (upd (upd H' q1 (rt (Rat.divInt (bl - t) bl))) q2 (rt (last * Rat.divInt (bl - t) bl))) := s1.trans (same_upd nq2)
        have r2 : RT K (upd (upd H' q1 (rt (Rat.divInt (bl - t) bl))) q2 (rt (last * Rat.divInt (bl - t) bl))) q2 (last * Rat.divInt (bl - t) bl) := RT.new
        generalize upd (upd H' q1 (rt (Rat.divInt (bl - t) bl))) q2 (rt (last * Rat.divInt (bl - t) bl)) = H'' at s2 r2 ⊢
        have el2 := s2 _ _ el
        refine ⟨lf, xs, .ref q2, rfl, rfl, el2, small1000 (by omega), ?_⟩
        refine ⟨_, _, xs ++ [.ref q2], L ++ [last * Rat.divInt (bl - t) bl], rfl, (k'.trans (.of s2)).put nlH, (row'.same s2).store nlr lor, ?_, upd_same, ?_, pre.step hlast f0 f1 f2, by rw [List.length_append, hlen]; rfl⟩
        · rw [upd_ne ntl]
          exact s2 _ _ et
        · exact ((Keep.upd (r := lf)).row el2 (hL.same s2)).append (Keep.upd.tup el2 r2)
      · rintro σ H' ⟨v8, v9, xs, L, rfl, k', row', et, el, hL, pre, hlen⟩
        rw [List.length_map] at hlen
        have hxl := hL.len
        refine ⟨_, rfl, by show 2 ≤ sizeLine; decide, fun p0 n0 => ⟨by show 1 ≤ sizeLine; decide, fun l0 nl0 => ?_⟩⟩
        have s1 : Same H' (upd H' p0 (.tup [.int 0, .int 1])) := same_upd n0
        have r0 : RT K (upd H' p0 (.tup [.int 0, .int 1])) p0 0 := .of upd_same
        have s2 : Same (upd H' p0 (.tup [.int 0, .int 1])) (upd (upd H' p0 (.tup [.int 0, .int 1])) l0 (.lst [.ref p0])) := same_upd nl0
        have s3 := s1.trans s2
        refine ⟨lf, l0, xs, [.ref p0], rfl, rfl, s3 _ _ el, upd_same, Nat.le_of_lt (small1000 (by show xs.length + 1 ≤ 1000; omega)), fun l1 nl1 => ?_⟩
        have s4 := s3.trans (same_upd nl1 (o := .lst (xs ++ [.ref p0])))
        refine ⟨l1, _, rfl, .inl ⟨.of upd_same, fun l nl => ?_⟩⟩
        have s5 := s4.trans (same_upd nl (o := .tup (xs ++ [.ref p0])))
        refine q _ l (L ++ [0]) (k'.trans (.of s5)) (row'.same s5) ⟨_, .of upd_same, (hL.same s5).append ?_⟩ (pre.life (by omega))
        exact stup (same_upd nl) (stup (same_upd nl1) (stup s2 r0))
    · refine ⟨_, rfl, ?_⟩
      generalize hts : ts = ts7 at *
      generalize hD : D = tp at *
      generalize hH : H6 = H7 at *
      have k7 := k6
      have row7 := row6
      have etp := eD
      have hl7 : ts7.length ≤ 6 := by omega
      have ht7 := ht
      refine ⟨by show 2 ≤ sizeLine; decide, fun p1 np1 => ⟨by show 1 ≤ sizeLine; decide, fun lf nlf => ?_⟩⟩
      have e8 : Same H7 (upd H7 p1 (.tup [.int 1, .int 1])) := same_upd np1
      have r1 : RT K (upd H7 p1 (.tup [.int 1, .int 1])) p1 1 := .of upd_same
      have k8 : Keep r H (upd H7 p1 (.tup [.int 1, .int 1])) := k7.trans (.of e8)
      have row8 := row7.same e8
      have etp8 := e8 _ _ etp
      generalize upd H7 p1 (.tup [.int 1, .int 1]) = H8 at nlf e8 r1 k8 row8 etp8 ⊢
      obtain ⟨_, _, _, er8, _⟩ := row8.ex
      have nlr : lf ≠ r := (ne_of_none er8 nlf).symm
      have nlH : H lf = none := k8.free nlf nlr
      have lor := seq_or row8.sc nlf
      have ntl : tp ≠ lf := ne_of_none etp8 nlf
      have e9 : Same H8 (upd H8 lf (.lst [.ref p1])) := same_upd nlf
      refine ⟨_, rfl, tp, rfl, ⟨_, .of (e9 _ _ etp8)⟩, for_list (K := K) (a := tp) (xs := ts7.map V.int)
        (fun i σ H' => ∃ (v8 v9 : Option V) (xs : List V) (L : List Rat), σ = [some (.ref r), some (.int 7), some (.int (1 + v1)), some (.int v2), some (.ref d), some (.int bl), some (.ref tp), some (.ref lf), v8, v9] ∧
          Keep r H H' ∧ RowAt K H' r a ns ∧ H' tp = some (.lst (ts7.map V.int)) ∧ H' lf = some (.lst xs) ∧ LT K H' xs L ∧ Pre L ∧ L.length = i + 1)
        ⟨_, _, [.ref p1], [1], rfl, k8.trans (.of e9), row8.same e9, e9 _ _ etp8, upd_same, LT.nil.append (stup e9 r1), Pre.one, rfl⟩
        (fun i σ H' _ ⟨_, _, _, _, _, _, _, et, _⟩ => .of et) ?_ ?_⟩
      · rintro i x σ H' hi ⟨v8, v9, xs, L, rfl, k', row', et, el, hL, pre, hlen⟩
        obtain ⟨t, rfl, hti⟩ := map_ix hi
        have htb := ht7 t (List.mem_of_getElem? hti)
        have hlt := (List.getElem?_eq_some_iff.mp hti).1
        have hxl := hL.len
        obtain ⟨last, hlast⟩ : ∃ z, L[L.length - 1]? = some z := ⟨_, List.getElem?_eq_getElem (by omega)⟩
        obtain ⟨pp, gp, rp⟩ := hL.ix _ last hlast
        obtain ⟨f0, f1, f2⟩ := factor_ok htb.1 htb.2 hb2
        refine ⟨_, rfl, .inl ⟨rfl, _, .of el⟩, ?_⟩
        refine ⟨_, rfl, _, rfl, lf, xs, -1, _, rfl, rfl, .of el, at_m1 (by omega) (by rw [hxl]; exact gp), ?_⟩
        refine ⟨_, rfl, _, rfl, _, _, rfl, rfl, _, rfl, bl - t, bl, 4, rfl, by omega, by omega, by omega, by decide, fun q1 nq1 => ?_⟩
        have s1 : Same H' (upd H' q1 (rt (Rat.divInt (bl - t) bl))) := same_upd nq1
        refine ⟨pp, q1, last, _, 4 * L.length, 4, rfl, stup s1 rp, RT.new, pre.sz last (List.mem_of_getElem? hlast), f2, by omega, True.intro, fun q2 nq2 => ?_⟩
        have s2 : Same H' (upd (upd H' q1 (rt (Rat.divInt (bl - t) bl))) q2 (rt (last * Rat.divInt (bl - t) bl))) := s1.trans (same_upd nq2)
        have r2 : RT K (upd (upd H' q1 (rt (Rat.divInt (bl - t) bl))) q2 (rt (last * Rat.divInt (bl - t) bl))) q2 (last * Rat.divInt (bl - t) bl) := RT.new
        generalize upd (upd H' q1 (rt (Rat.divInt (bl - t) bl))) q2 (rt (last * Rat.divInt (bl - t) bl)) = H'' at s2 r2 ⊢
        have el2 := s2 _ _ el
        refine ⟨lf, xs, .ref q2, rfl, rfl, el2, small1000 (by omega), ?_⟩
        refine ⟨_, _, xs ++ [.ref q2], L ++ [last * Rat.divInt (bl - t) bl], rfl, (k'.trans (.of s2)).put nlH, (row'.same s2).store nlr lor, ?_, upd_same, ?_, pre.step hlast f0 f1 f2, by rw [List.length_append, hlen]; rfl⟩
        · rw [upd_ne ntl]
          exact s2 _ _ et
        · exact ((Keep.upd (r := lf)).row el2 (hL.same s2)).append (Keep.upd.tup el2 r2)
      · rintro σ H' ⟨v8, v9, xs, L, rfl, k', row', et, el, hL, pre, hlen⟩
        rw [List.length_map] at hlen
        have hxl := hL.len
        refine ⟨_, rfl, by show 2 ≤ sizeLine; decide, fun p0 n0 => ⟨by show 1 ≤ sizeLine; decide, fun l0 nl0 => ?_⟩⟩
        have s1 : Same H' (upd H' p0 (.tup [.int 0, .int 1])) := same_upd n0
        have r0 : RT K (upd H' p0 (.tup [.int 0, .int 1])) p0 0 := .of upd_same
        have s2 : Same (upd H' p0 (.tup [.int 0, .int 1])) (upd (upd H' p0 (.tup [.int 0, .int 1])) l0 (.lst [.ref p0])) := same_upd nl0
        have s3 := s1.trans s2
        refine ⟨lf, l0, xs, [.ref p0], rfl, rfl, s3 _ _ el, upd_same, Nat.le_of_lt (small1000 (by show xs.length + 1 ≤ 1000; omega)), fun l1 nl1 => ?_⟩
        have s4 := s3.trans (same_upd nl1 (o := .lst (xs ++ [.ref p0])))
        refine ⟨l1, _, rfl, .inl ⟨.of upd_same, fun l nl => ?_⟩⟩
        have s5 := s4.trans (same_upd nl (o := .tup (xs ++ [.ref p0])))
        refine q _ l (L ++ [0]) (k'.trans (.of s5)) (row'.same s5) ⟨_, .of upd_same, (hL.same s5).append ?_⟩ (pre.life (by omega))
        exact stup (same_upd nl) (stup (same_upd nl1) (stup s2 r0))
end
end Fw
namespace Fw
open PySem PySem.Spec PyProof.Rows L2
/-- two values that are alike: ints, or tuples of such, n deep at most -/
inductive Al (K : PySem.W.Frag) (H : Hp) : Nat → V → V → Prop
  | int (n : Nat) (a : Int) : Al K H n (.int a) (.int a)
  | tup {n : Nat} {p q : Addr} {xs ys : List V} (hp : SqT K H p xs) (hq : SqT K H q ys) (hl : xs.length = ys.length) (h8 : ys.length ≤ 8) (h : ∀ (i : Nat) (x y : V), xs[i]? = some x → ys[i]? = some y → Al K H n x y) : Al K H (n + 1) (.ref p) (.ref q)
theorem Al.same {K : PySem.W.Frag} {H H' : Hp} (e : Same H H') {n : Nat} {x y : V} (h : Al K H n x y) : Al K H' n x y := by
  induction h with
  | int n a => exact .int n a
  | tup hp hq hl h8 h ih => exact .tup (stup e hp) (stup e hq) hl h8 ih
theorem Al.rat {K : PySem.W.Frag} {H : Hp} {p q : Addr} {r : Rat} (hp : RT K H p r) (hq : RT K H q r) (n : Nat) : Al K H (n + 1) (.ref p) (.ref q) := by
  refine .tup hp hq rfl (by show 2 ≤ 8; decide) fun i x y hx hy => ?_
  rw [hx] at hy
  have e := Option.some.inj hy
  subst e
  obtain ⟨z, rfl⟩ := int_ix hx
  exact .int n z
theorem Al.two {K : PySem.W.Frag} {H : Hp} {p q t u : Addr} {r : Rat} {b : Int} (hp : RT K H p r) (hq : RT K H q r) (ht : SqT K H t [.ref p, .int b]) (hu : SqT K H u [.ref q, .int b]) (n : Nat) : Al K H (n + 2) (.ref t) (.ref u) := by
  refine .tup ht hu rfl (by show 2 ≤ 8; decide) fun i x y hx hy => ?_
  match i, hx, hy with
  | 0, hx, hy =>
    have e1 := Option.some.inj hx
    have e2 := Option.some.inj hy
    subst e1
    subst e2
    exact Al.rat hp hq n
  | 1, hx, hy =>
    have e1 := Option.some.inj hx
    have e2 := Option.some.inj hy
    subst e1
    subst e2
    exact .int _ b
def spAl (n : Nat) (K : PySem.W.Frag) : Sp := fun vs H Q _ => ∃ x y : V, vs = [x, y] ∧ Al K H n x y ∧ ∀ H', Same H H' → Q (.bl true) H'
section
variable {P : Program} {w : World} {K : PySem.W.Frag} {mg : Str → Option Value} {base : Heap}
theorem lsc_alike : FnScope ["_law_found", "_law_due", "_law_k"] ["_law_found", "_law_due"] (defScope lAlike) := ⟨rfl, rfl, rfl, by decide +kernel, rfl, by decide +kernel, by decide +kernel⟩
theorem lok_alike0 {k : Nat} {f : Addr} {fd : FuncData} (F : Fun K "_law_alike" "_law_alike" lAlike f fd) (B : Bi mg) :
    FnOk P w K mg base CX0 (k + 1) f fd ["_law_found", "_law_due"] (spAl 0 K) := by
  refine F.ok lsc_alike (fun vs H Q E h => ?_) (fun cdv A outer s H vs Q E hr h => ?_)
  · obtain ⟨x, y, rfl, _⟩ := h
    rfl
  · obtain ⟨x, y, rfl, al, q⟩ := h
    refine ⟨_, pss_cons (ps_if (pt_val (pe_callB call_isiT (by rfl) B.isi (by decide +kernel) (pa_cons (pv 1) (pa_cons (pe_tup (pa_cons (pe_bltn (v := .ty "tuple") (u := .type "tuple") (by rfl) B.tup (by decide +kernel) rfl) (pa_cons (pe_bltn (v := .ty "list") (u := .type "list") (by rfl) B.lst (by decide +kernel) rfl) pa_nil))) pa_nil)))) pss_never pss_nil)
      (pss_cons (ps_if (PW.pt (pw_or (pt_cmp (pc_isN (pv 1))) (pw_or1 (pt_val (pe_callB call_isi (by rfl) B.isi (by decide +kernel) (pa_cons (pv 1) (pa_cons (pe_bltn (v := .ty "str") (u := .type "str") (by rfl) B.str (by decide +kernel) rfl) pa_nil))))))) pss_never pss_nil)
      (pss_one (ps_ret (pe_and (pe_callB call_isi (by rfl) B.isi (by decide +kernel) (pa_cons (pv 0) (pa_cons (pe_bltn (v := .ty "int") (u := .type "int") (by rfl) B.int (by decide +kernel) rfl) pa_nil))) (pe_and (pe_cmpR op_eq (pe_callB call_isi (by rfl) B.isi (by decide +kernel) (pa_cons (pv 0) (pa_cons (pe_bltn (v := .ty "bool") (u := .type "bool") (by rfl) B.bool (by decide +kernel) rfl) pa_nil))) (pe_callB call_isi (by rfl) B.isi (by decide +kernel) (pa_cons (pv 1) (pa_cons (pe_bltn (v := .ty "bool") (u := .type "bool") (by rfl) B.bool (by decide +kernel) rfl) pa_nil))) (nomark _)) (pe_one (pe_cmpR op_eq (pv 0) (pv 1) (nomark _)))))))), ?_⟩
    cases al with
    | int _ a =>
      refine ⟨_, rfl, by show 2 ≤ sizeLine; decide, fun t nt => ⟨_, t, _, _, _, false, rfl, upd_same, .cons (.ty _) (.cons (.ty _) .nil), .base (.int _), kitAny_cons (b := false) (kit_ty (by decide +kernel)) (fun _ => kitAny_cons (b := false) (kit_ty (by decide +kernel)) (fun _ => kitAny_nil) (fun z => nomatch z)) (fun z => nomatch z), _, rfl, iteF ?_⟩⟩
      have e := same_upd nt (o := .tup [.ty "tuple", .ty "list"])
      refine ⟨_, rfl, _, rfl, ?_⟩
      rw [decide_eq_false (by intro z; cases z)]
      refine iteF ?_
      refine ⟨_, rfl, _, _, _, _, false, rfl, .ty _, .base (.int _), kit_ty (by decide +kernel), _, rfl, iteF ?_⟩
      refine ⟨_, rfl, _, _, _, _, true, rfl, .ty _, .base (.int _), kit_ty (by decide +kernel), _, rfl, iteT ?_⟩
      refine ⟨_, rfl, _, _, _, _, false, rfl, .ty _, .base (.int _), kit_ty (by decide +kernel), ?_⟩
      refine ⟨_, rfl, _, _, _, _, false, rfl, .ty _, .base (.int _), kit_ty (by decide +kernel), rfl, _, rfl, ?_⟩
      rw [decide_eq_true rfl]
      refine iteT ⟨_, rfl, _, rfl, rfl, ?_⟩
      rw [decide_eq_true rfl]
      exact q _ e
theorem lok_alikeS {k n : Nat} {f : Addr} {fd : FuncData} (F : Fun K "_law_alike" "_law_alike" lAlike f fd) (B : Bi mg) {fA : Addr} {fdA : FuncData} (CA : Cl P w K mg base k "_law_alike" fA fdA ["_law_found", "_law_due"] (spAl n K)) :
    FnOk P w K mg base CX0 (k + 1) f fd ["_law_found", "_law_due"] (spAl (n + 1) K) := by
  refine F.ok lsc_alike (fun vs H Q E h => ?_) (fun cdv A outer s H vs Q E hr h => ?_)
  · obtain ⟨x, y, rfl, _⟩ := h
    rfl
  · obtain ⟨x, y, rfl, al, q⟩ := h
    refine ⟨_, pss_cons (ps_if (pt_val (pe_callB call_isiT (by rfl) B.isi (by decide +kernel) (pa_cons (pv 1) (pa_cons (pe_tup (pa_cons (pe_bltn (v := .ty "tuple") (u := .type "tuple") (by rfl) B.tup (by decide +kernel) rfl) (pa_cons (pe_bltn (v := .ty "list") (u := .type "list") (by rfl) B.lst (by decide +kernel) rfl) pa_nil))) pa_nil)))) (pss_cons (ps_if (PW.pt (pw_or (pt_not (pt_val (pe_callB call_isiT (by rfl) B.isi (by decide +kernel) (pa_cons (pv 0) (pa_cons (pe_tup (pa_cons (pe_bltn (v := .ty "tuple") (u := .type "tuple") (by rfl) B.tup (by decide +kernel) rfl) (pa_cons (pe_bltn (v := .ty "list") (u := .type "list") (by rfl) B.lst (by decide +kernel) rfl) pa_nil))) pa_nil))))) (pw_or1 (pt_cmpR op_ne (pe_callB call_isi (by rfl) B.isi (by decide +kernel) (pa_cons (pv 0) (pa_cons (pe_bltn (v := .ty "list") (u := .type "list") (by rfl) B.lst (by decide +kernel) rfl) pa_nil))) (pe_callB call_isi (by rfl) B.isi (by decide +kernel) (pa_cons (pv 1) (pa_cons (pe_bltn (v := .ty "list") (u := .type "list") (by rfl) B.lst (by decide +kernel) rfl) pa_nil))) (nomark _))))) pss_never pss_nil)
      (pss_cons (ps_if (pt_cmpR op_ne (pe_callB call_len_seq (by rfl) B.len PySem.boot_len (pa_cons (pv 0) pa_nil)) (pe_callB call_len_seq (by rfl) B.len PySem.boot_len (pa_cons (pv 1) pa_nil)) (nomark _)) pss_never pss_nil)
      (pss_one (ps_ret (pe_cmpR (op_eqD hr.units) (pe_lc (own := [("_law_k", 2)]) (g := gName 2) (by rfl) lsc_alike.nd (pi_range1 (by rfl) B.ran (pa_cons (pe_callB call_len_seq (by rfl) B.len PySem.boot_len (pa_cons (pv 1) pa_nil)) pa_nil))
        (blkOk_by (own := [("_law_k", 2)]) (N := ["_law_found", "_law_due", "_law_k"]) (sc := defScope lAlike) (by decide +kernel)) (fun _ _ _ _ _ => pg_name (i := 2) lsc_alike.nd rfl (Or.inl rfl))
        (fun _ _ _ _ _ => pts_one (pt_not (pt_val (pe_call CA.ok hr (by rfl) CA.mg CA.kp CA.bd .nil pass0 (pa_cons (pe_ix (ix_tup : IxR _ (rIxT K)) (pv 0) (pv 2) (fun _ _ => rfl)) (pa_cons (pe_ix (ix_tup : IxR _ (rIxT K)) (pv 1) (pv 2) (fun _ _ => rfl)) pa_nil)))))) (fun _ _ _ _ _ => (pv 2))) (pe_lst pa_nil) (nomark _)))))) pss_nil)
      (pss_cons (ps_if (PW.pt (pw_or (pt_cmp (pc_isN (pv 1))) (pw_or1 (pt_val (pe_callB call_isi (by rfl) B.isi (by decide +kernel) (pa_cons (pv 1) (pa_cons (pe_bltn (v := .ty "str") (u := .type "str") (by rfl) B.str (by decide +kernel) rfl) pa_nil))))))) pss_never pss_nil)
      (pss_one (ps_ret (pe_and (pe_callB call_isi (by rfl) B.isi (by decide +kernel) (pa_cons (pv 0) (pa_cons (pe_bltn (v := .ty "int") (u := .type "int") (by rfl) B.int (by decide +kernel) rfl) pa_nil))) (pe_and (pe_cmpR op_eq (pe_callB call_isi (by rfl) B.isi (by decide +kernel) (pa_cons (pv 0) (pa_cons (pe_bltn (v := .ty "bool") (u := .type "bool") (by rfl) B.bool (by decide +kernel) rfl) pa_nil))) (pe_callB call_isi (by rfl) B.isi (by decide +kernel) (pa_cons (pv 1) (pa_cons (pe_bltn (v := .ty "bool") (u := .type "bool") (by rfl) B.bool (by decide +kernel) rfl) pa_nil))) (nomark _)) (pe_one (pe_cmpR op_eq (pv 0) (pv 1) (nomark _)))))))), ?_⟩
    cases al with
    | int _ a =>
      refine ⟨_, rfl, by show 2 ≤ sizeLine; decide, fun t nt => ⟨_, t, _, _, _, false, rfl, upd_same, .cons (.ty _) (.cons (.ty _) .nil), .base (.int _), kitAny_cons (b := false) (kit_ty (by decide +kernel)) (fun _ => kitAny_cons (b := false) (kit_ty (by decide +kernel)) (fun _ => kitAny_nil) (fun z => nomatch z)) (fun z => nomatch z), _, rfl, iteF ?_⟩⟩
      have e := same_upd nt (o := .tup [.ty "tuple", .ty "list"])
      refine ⟨_, rfl, _, rfl, ?_⟩
      rw [decide_eq_false (by intro z; cases z)]
      refine iteF ?_
      refine ⟨_, rfl, _, _, _, _, false, rfl, .ty _, .base (.int _), kit_ty (by decide +kernel), _, rfl, iteF ?_⟩
      refine ⟨_, rfl, _, _, _, _, true, rfl, .ty _, .base (.int _), kit_ty (by decide +kernel), _, rfl, iteT ?_⟩
      refine ⟨_, rfl, _, _, _, _, false, rfl, .ty _, .base (.int _), kit_ty (by decide +kernel), ?_⟩
      refine ⟨_, rfl, _, _, _, _, false, rfl, .ty _, .base (.int _), kit_ty (by decide +kernel), rfl, _, rfl, ?_⟩
      rw [decide_eq_true rfl]
      refine iteT ⟨_, rfl, _, rfl, rfl, ?_⟩
      rw [decide_eq_true rfl]
      exact q _ e
    | @tup _ p p2 xs ys hp hq hl h8 hsub =>
      refine ⟨_, rfl, by show 2 ≤ sizeLine; decide, fun t nt => ⟨_, t, _, _, _, true, rfl, upd_same, .cons (.ty _) (.cons (.ty _) .nil), tyx_tup (stup (same_upd nt) hq), kitAny_cons (b := true) (kit_ty (by decide +kernel)) (fun z => nomatch z) (fun _ => rfl), _, rfl, iteT ?_⟩⟩
      have e1 := same_upd nt (o := .tup [.ty "tuple", .ty "list"])
      refine ⟨_, rfl, by show 2 ≤ sizeLine; decide, fun t2 nt2 => ⟨_, t2, _, _, _, true, rfl, upd_same, .cons (.ty _) (.cons (.ty _) .nil), tyx_tup (stup (e1.trans (same_upd nt2)) hp), kitAny_cons (b := true) (kit_ty (by decide +kernel)) (fun z => nomatch z) (fun _ => rfl), _, rfl, iteF ?_⟩⟩
      have e2 := e1.trans (same_upd nt2 (o := .tup [.ty "tuple", .ty "list"]))
      refine ⟨_, rfl, _, _, _, _, false, rfl, .ty _, tyx_tup (stup e2 hp), kit_ty (by decide +kernel), ?_⟩
      refine ⟨_, rfl, _, _, _, _, false, rfl, .ty _, tyx_tup (stup e2 hq), kit_ty (by decide +kernel), rfl, _, rfl, iteNS rfl ?_⟩
      refine ⟨_, rfl, p, xs, rfl, .inr (stup e2 hp), _, rfl, p2, ys, rfl, .inr (stup e2 hq), rfl, _, rfl, ?_⟩
      refine iteNS (by rw [hl]) ?_
      refine ⟨_, rfl, p2, ys, rfl, .inr (stup e2 hq), (ys.length : Int), rfl, by omega, by omega, fun D nD => ?_⟩
      refine lc_range (lo := 0) (n := (ys.length : Int).toNat) (fun i H' => Same H H' ∧ H' D = some (.lst [])) ⟨e2.trans (same_upd nD), upd_same⟩ ?_ ?_
      · rintro i H' hi ⟨e, eD⟩
        have gx : xs[i]? = some (xs[i]'(by omega)) := List.getElem?_eq_getElem (by omega)
        have gy : ys[i]? = some (ys[i]'(by omega)) := List.getElem?_eq_getElem (by omega)
        refine ⟨rfl, _, rfl, _, rfl, p, xs, _, _, rfl, rfl, stup e hp, at_of (j := i) (by omega) gx, _, rfl, _, rfl, p2, ys, _, _, rfl, rfl, stup e hq, at_of (j := i) (by omega) gy, ?_⟩
        refine ⟨_, _, rfl, (hsub i _ _ gx gy).same e, fun H'' e'' => ⟨_, rfl, iteF ⟨e.trans e'', e'' _ _ eD⟩⟩⟩
      rintro H3 ⟨e3, eD⟩
      refine ⟨Nat.zero_le _, fun v nv => ?_⟩
      refine ⟨.list [], .list [], .lst (.of ((same_upd nv) _ _ eD)) .nil, .lst (.of upd_same) .nil, nil_shaped, nil_shaped, ?_⟩
      rw [eqv_nil]
      exact q _ (e3.trans (same_upd nv))
end
end Fw
namespace Fw
open PySem PySem.Spec PyProof.Rows L2
def spLaw (K : PySem.W.Frag) : Sp := fun vs H Q _ => ∃ (a : Addr) (ns : List Int), vs = [.ref a] ∧ SqL K H a (ns.map V.int) ∧ ∀ H', Q (.bl true) H'
/-- the scope of the list that stands at a statement -/
def lcSc (s : Stmt) : Scope := match s with
  | .Assign _ (.ListComp _ _ sc _) _ => sc
  | _ => { kind := .function, names := [], isGenerator := false, isCoroutine := false }
def scGood : Scope := lcSc ((defBody lLaw).getD 5 (.Pass ⟨0, 0, 0, 0⟩))
/-- the costs by age, as the law lists them -/
def costs (S : List Rat) (pl fl : Rat) (n : Nat) : List Rat := (List.range n).map fun j => cost S pl fl (j + 1)
theorem costs_len (S : List Rat) (pl fl : Rat) (n : Nat) : (costs S pl fl n).length = n := by
  unfold costs
  rw [List.length_map, List.length_range]
theorem costs_at {S : List Rat} {pl fl : Rat} {n j : Nat} (h : j < n) : (costs S pl fl n)[j]? = some (cost S pl fl (j + 1)) := by
  unfold costs
  rw [List.getElem?_map, List.getElem?_range h]
  rfl
theorem costs_succ (S : List Rat) (pl fl : Rat) (n : Nat) : costs S pl fl (n + 1) = costs S pl fl n ++ [cost S pl fl (n + 1)] := by
  unfold costs
  rw [List.range_succ, List.map_append]
  rfl
/-- the list of the best, as values -/
def goodV (c : Nat → Rat) (m i : Nat) : List V := ((List.range i).filter (isGood c m)).map fun (k : Nat) => V.int (k : Int)
theorem goodV_len (c : Nat → Rat) (m i : Nat) : (goodV c m i).length ≤ i := by
  unfold goodV
  rw [List.length_map]
  exact Nat.le_trans (List.length_filter_le _ _) (Nat.le_of_eq List.length_range)
theorem goodV_yes {c : Nat → Rat} {m i : Nat} (h : isGood c m i = true) : goodV c m (i + 1) = goodV c m i ++ [V.int (0 + (i : Int))] := by
  unfold goodV
  rw [List.range_succ, List.filter_append, List.map_append, Int.zero_add, List.filter_cons_of_pos h]
  rfl
theorem goodV_no {c : Nat → Rat} {m i : Nat} (h : isGood c m i = false) : goodV c m (i + 1) = goodV c m i := by
  unfold goodV
  rw [List.range_succ, List.filter_append, List.map_append, List.filter_cons_of_neg (by rw [h]; exact Bool.false_ne_true)]
  exact List.append_nil _
theorem goodV_head {c : Nat → Rat} {m b : Nat} (h : Best c m b) : (goodV c m m)[0]? = some (V.int ((b - 1 : Nat) : Int)) := by
  unfold goodV
  rw [List.getElem?_map, good_head h]
  rfl
theorem rt_neg {K : PySem.W.Frag} {H : Hp} {t : Addr} {r : Rat} : RT K (upd H t (.tup [.int (0 - r.num), .int (r.den : Int)])) t (-r) := by
  refine .of ?_
  rw [upd_same, Int.zero_sub]
  rfl
theorem rt_nat {K : PySem.W.Frag} {H : Hp} {t : Addr} {z : Int} {n : Nat} (h : z = (n : Int)) : RT K (upd H t (.tup [.int z, .int 1])) t (n : Rat) := by
  refine .of ?_
  rw [upd_same, h]
  rfl
theorem weight_sz {S : List Rat} (h : Life S) {i : Nat} (hi : i + 1 < S.length) : Sz 61 (at' S i + -(at' S (i + 1))) := (h.sz' (show i < S.length by omega)).add (h.sz' hi).neg
section
variable {P : Program} {w : World} {K : PySem.W.Frag} {mg : Str → Option Value} {base : Heap}
theorem lsc_law : FnScope ["_law_script", "_law_row", "_law_life_here", "_law_plan", "_law_fail", "_law_costs", "_law_age", "_law_steps", "_law_cost", "_law_t", "_law_weight", "_law_best", "_law_good", "_law_k", "_law_one"] ["_law_script"] (defScope lLaw) := ⟨rfl, rfl, rfl, by decide +kernel, rfl, by decide +kernel, by decide +kernel⟩
theorem lok_law {k : Nat} {f : Addr} {fd : FuncData} (F : Fun K "law" "law" lLaw f fd) (B : Bi mg) {fL : Addr} {fdL : FuncData} (CL : Cl P w K mg base k "_law_life" fL fdL ["_law_row", "_law_most"] (spLife K)) {fR : Addr} {fdR : FuncData} (CR : Cl P w K mg base k "_law_ratio" fR fdR ["_law_numerator", "_law_denominator"] spRed) {fT : Addr} {fdT : FuncData} (CT : Cl P w K mg base k "_law_taken" fT fdT ["_law_row", "_law_many"] (spTaken K)) {fM : Addr} {fdM : FuncData} (CM : Cl P w K mg base k "_law_times" fM fdM ["_law_one", "_law_other"] (spBin (· * ·) (fun _ => True) K)) {fP : Addr} {fdP : FuncData} (CP : Cl P w K mg base k "_law_plus" fP fdP ["_law_one", "_law_other"] (spBin (· + ·) (fun _ => True) K)) {fO : Addr} {fdO : FuncData} (CO : Cl P w K mg base k "_law_over" fO fdO ["_law_one", "_law_other"] (spBin (· / ·) (fun b => 0 < b) K)) {fA : Addr} {fdA : FuncData} (CA : Cl P w K mg base k "_law_alike" fA fdA ["_law_found", "_law_due"] (spAl 2 K)) {fC : Addr} {fdC : FuncData} (CC : Cl P w K mg base k "age_cost" fC fdC ["life", "plan", "fail", "age"] (spCost K)) {fB : Addr} {fdB : FuncData} (CB : Cl P w K mg base k "best_age" fB fdB ["life", "plan", "fail"] (spBest K)) {fE : Addr} {fdE : FuncData} (CE : Cl P w K mg base k "_law_less" fE fdE ["_law_one", "_law_other"] (spLess K)) :
    FnOk P w K mg base CX0 (k + 1) f fd ["_law_script"] (spLaw K) := by
  refine F.ok lsc_law (fun vs H Q E h => ?_) (fun cdv A outer s H vs Q E hr h => ?_)
  · obtain ⟨a, ns, rfl, _⟩ := h
    rfl
  · obtain ⟨a, ns, rfl, hS, q⟩ := h
    refine ⟨_, pss_cons (ps_set (i := 1) lsc_law.nd rfl (.inl rfl) (pe_lst (pa_cons (pv 0) (pa_cons pe_int (pa_cons pe_int (pa_cons pe_int pa_nil))))))
      (pss_cons (ps_par3 (i := 2) (j := 3) (l := 4) rfl lsc_law.nd rfl rfl rfl (by decide) (by decide) (by decide) rfl rfl rfl (pa_cons (pe_call CL.ok hr (by rfl) CL.mg CL.kp CL.bd .nil pass0 (pa_cons (pv 1) (pa_cons pe_int pa_nil))) (pa_cons (pe_call CR.ok hr (by rfl) CR.mg CR.kp CR.bd .nil pass0 (pa_cons (pe_call CT.ok hr (by rfl) CT.mg CT.kp CT.bd .nil pass0 (pa_cons (pv 1) (pa_cons pe_int pa_nil))) (pa_cons pe_int pa_nil))) (pa_cons (pe_call CR.ok hr (by rfl) CR.mg CR.kp CR.bd .nil pass0 (pa_cons (pe_call CT.ok hr (by rfl) CT.mg CT.kp CT.bd .nil pass0 (pa_cons (pv 1) (pa_cons pe_int pa_nil))) (pa_cons pe_int pa_nil))) pa_nil))) (by rfl))
      (pss_cons (ps_set (i := 5) lsc_law.nd rfl (.inr rfl) (pe_lst pa_nil))
      (pss_cons (ps_for PassesOwn.never rfl (pi_range2 (by rfl) B.ran (pa_cons pe_int (pa_cons (pe_callB call_len_seq (by rfl) B.len PySem.boot_len (pa_cons (pv 2) pa_nil)) pa_nil))) (pg_name (i := 6) lsc_law.nd rfl (.inl rfl))
      (pss_cons (ps_par (i := 7) (j := 8) rfl lsc_law.nd rfl rfl (by decide) rfl rfl (pa_cons (pe_tup (pa_cons pe_int (pa_cons pe_int pa_nil))) (pa_cons (pe_call CM.ok hr (by rfl) CM.mg CM.kp CM.bd .nil pass0 (pa_cons (pv 3) (pa_cons (pe_ix ix_tup (pv 2) (pv 6) (fun _ _ => rfl)) pa_nil))) pa_nil)) (by rfl))
      (pss_cons (ps_for PassesOwn.never rfl (pi_range2 (by rfl) B.ran (pa_cons pe_int (pa_cons (pe_op op_add (pv 6) pe_int) pa_nil))) (pg_name (i := 9) lsc_law.nd rfl (.inl rfl))
        (pss_cons (ps_set (i := 10) lsc_law.nd rfl (.inl rfl) (pe_call CP.ok hr (by rfl) CP.mg CP.kp CP.bd .nil pass0 (pa_cons (pe_ix ix_tup (pv 2) (pe_op op_sub (pv 9) pe_int) (fun _ _ => rfl)) (pa_cons (pe_tup (pa_cons (pe_op op_sub pe_int (pe_ix ix_tup (pe_ix ix_tup (pv 2) (pv 9) (fun _ _ => rfl)) pe_int (fun _ _ => rfl))) (pa_cons (pe_ix ix_tup (pe_ix ix_tup (pv 2) (pv 9) (fun _ _ => rfl)) pe_int (fun _ _ => rfl)) pa_nil))) pa_nil))))
      (pss_one (ps_par (i := 8) (j := 7) rfl lsc_law.nd rfl rfl (by decide) rfl rfl (pa_cons (pe_call CP.ok hr (by rfl) CP.mg CP.kp CP.bd .nil pass0 (pa_cons (pv 8) (pa_cons (pe_call CM.ok hr (by rfl) CM.mg CM.kp CM.bd .nil pass0 (pa_cons (pv 4) (pa_cons (pv 10) pa_nil))) pa_nil))) (pa_cons (pe_call CP.ok hr (by rfl) CP.mg CP.kp CP.bd .nil pass0 (pa_cons (pv 7) (pa_cons (pe_call CM.ok hr (by rfl) CM.mg CM.kp CM.bd .nil pass0 (pa_cons (pe_tup (pa_cons (pv 9) (pa_cons pe_int pa_nil))) (pa_cons (pv 10) pa_nil))) pa_nil))) pa_nil)) (by rfl)))))
      (pss_cons (ps_set (i := 7) lsc_law.nd rfl (.inl rfl) (pe_call CP.ok hr (by rfl) CP.mg CP.kp CP.bd .nil pass0 (pa_cons (pv 7) (pa_cons (pe_call CM.ok hr (by rfl) CM.mg CM.kp CM.bd .nil pass0 (pa_cons (pe_tup (pa_cons (pv 6) (pa_cons pe_int pa_nil))) (pa_cons (pe_ix ix_tup (pv 2) (pv 6) (fun _ _ => rfl)) pa_nil))) pa_nil))))
      (pss_cons (ps_expr (pe_bm PySem.F.plainAttrs_list PySem.F.slot_list_append PySem.F.type_list_append mt_append (pv 5) (pa_cons (pe_call CO.ok hr (by rfl) CO.mg CO.kp CO.bd .nil pass0 (pa_cons (pv 8) (pa_cons (pv 7) pa_nil))) pa_nil)))
      (pss_one (ps_if (pt_not (pt_val (pe_call CA.ok hr (by rfl) CA.mg CA.kp CA.bd .nil pass0 (pa_cons (pe_call CC.ok hr (by rfl) CC.mg CC.kp CC.bd .nil pass0 (pa_cons (pv 2) (pa_cons (pv 3) (pa_cons (pv 4) (pa_cons (pv 6) pa_nil))))) (pa_cons (pe_ix ix_list (pv 5) (pe_un un_neg pe_int) (fun _ _ => rfl)) pa_nil))))) pss_never pss_nil)))))))
      (pss_cons (ps_asg (pe_call CB.ok hr (by rfl) CB.mg CB.kp CB.bd .nil pass0 (pa_cons (pv 2) (pa_cons (pv 3) (pa_cons (pv 4) pa_nil)))) (pg_tup (by rfl) (pgs_cons (pg_name (i := 11) lsc_law.nd rfl (.inl rfl)) (pgs_cons (pg_name (i := 6) lsc_law.nd rfl (.inl rfl)) pgs_nil))))
      (pss_cons (ps_setLc (i := 12) (own := [("_law_k", 13)]) (g := gName 13) (by rfl) lsc_law.nd rfl rfl (sw_true rfl rfl rfl (by decide +kernel)) (pi_range1 (by rfl) B.ran (pa_cons (pe_callB call_len_seq (by rfl) B.len PySem.boot_len (pa_cons (pv 5) pa_nil)) pa_nil))
        (blkOk_by (own := [("_law_k", 13)]) (N := ["_law_script", "_law_row", "_law_life_here", "_law_plan", "_law_fail", "_law_costs", "_law_age", "_law_steps", "_law_cost", "_law_t", "_law_weight", "_law_best", "_law_good", "_law_k", "_law_one"]) (sc := defScope lLaw) (by decide +kernel)) (fun _ _ _ _ _ => pg_name (i := 13) lsc_law.nd rfl (Or.inr rfl))
        (fun _ _ _ _ _ => pts_one (pt_cmpR (op_eqD hr.units : OpR _ _ (rEqD K)) (pe_lc (own := [("_law_one", 14)]) (g := gName 14) (by rfl) lsc_law.nd (pi_list (pv 5) : PI _ _ _ (iList K (tVar 5)))
        (blkOk_by (own := [("_law_one", 14)]) (N := ["_law_script", "_law_row", "_law_life_here", "_law_plan", "_law_fail", "_law_costs", "_law_age", "_law_steps", "_law_cost", "_law_t", "_law_weight", "_law_best", "_law_good", "_law_k", "_law_one"]) (sc := relS scGood (defScope lLaw)) (by decide +kernel)) (fun _ _ _ _ _ => pg_name (i := 14) lsc_law.nd rfl (Or.inl rfl))
        (fun _ _ _ _ _ => pts_one (pt_val (pe_call CE.ok hr (by rfl) CE.mg CE.kp CE.bd .nil pass0 (pa_cons (pv 14) (pa_cons (pe_ix (ix_list : IxR _ (rIxL K)) (pv 5) (pv 13) (fun _ _ => rfl)) pa_nil))))) (fun _ _ _ _ _ => (pv 14))) (pe_lst pa_nil) (nomark _))) (fun _ _ _ _ _ => (pv 13)))
      (pss_cons (ps_if (pt_not (pt_val (pe_call CA.ok hr (by rfl) CA.mg CA.kp CA.bd .nil pass0 (pa_cons (pe_tup (pa_cons (pv 11) (pa_cons (pv 6) pa_nil))) (pa_cons (pe_tup (pa_cons (pe_ix ix_list (pv 5) (pe_ix ix_list (pv 12) pe_int (fun _ _ => rfl)) (fun _ _ => rfl)) (pa_cons (pe_op op_add (pe_ix ix_list (pv 12) pe_int (fun _ _ => rfl)) pe_int) pa_nil))) pa_nil))))) pss_never pss_nil)
      (pss_one (ps_ret (pe_or (pe_call CE.ok hr (by rfl) CE.mg CE.kp CE.bd .nil pass0 (pa_cons (pv 3) (pa_cons (pv 4) pa_nil))) (pe_one (pe_cmpR (op_eqD hr.units) (pv 11) (pe_ix ix_list (pv 5) (pe_un un_neg pe_int) (fun _ _ => rfl)) (nomark _)))))))))))), ?_⟩
    refine ⟨_, rfl, by show 4 ≤ sizeLine; decide, fun r nr => ?_⟩
    have row0 : RowAt K (upd H r (.lst [.ref a, .int 0, .int 4054, .int 0])) r a ns := ⟨⟨0, 4054, 0, upd_same, by decide, by decide, by decide⟩, (same_upd nr).seq hS, seq_or hS nr⟩
    refine ⟨_, rfl, r, a, ns, rfl, row0, fun H1 l S k1 row1 at1 li => ?_⟩
    have h2 := li.two
    have h8 := li.eight
    refine ⟨_, rfl, r, a, ns, 6, rfl, row1, by decide, by decide, fun H2 v k2 row2 v0 v1 => ?_⟩
    obtain ⟨pl0, spl⟩ := half_ok v0 (by omega)
    obtain ⟨_, _, _, er1, _⟩ := row1.ex
    have at2 := k2.life er1 at1
    refine ⟨v, 2, 4, rfl, by decide, by omega, by decide, by decide, fun pp npp => ?_⟩
    have e23 := same_upd npp (o := rt (Rat.divInt v 2))
    have row3 := row2.same e23
    have at3 := at2.same e23
    have rp3 : RT K (upd H2 pp (rt (Rat.divInt v 2))) pp (Rat.divInt v 2) := RT.new
    generalize upd H2 pp (rt (Rat.divInt v 2)) = H3 at row3 at3 rp3 ⊢
    generalize Rat.divInt v 2 = pl at pl0 spl rp3 ⊢
    refine ⟨_, rfl, r, a, ns, 12, rfl, row3, by decide, by decide, fun H4 u k4 row4 u0 u1 => ?_⟩
    obtain ⟨fl0, sfl⟩ := half_ok u0 u1
    obtain ⟨_, _, _, er3, _⟩ := row3.ex
    have at4 := k4.life er3 at3
    have rp4 := k4.tup er3 rp3
    refine ⟨u, 2, 4, rfl, by decide, by omega, by decide, by decide, fun pf npf => ?_⟩
    have e45 := same_upd npf (o := rt (Rat.divInt u 2))
    have at5 := at4.same e45
    have rp5 := stup e45 rp4
    have rf5 : RT K (upd H4 pf (rt (Rat.divInt u 2))) pf (Rat.divInt u 2) := RT.new
    generalize upd H4 pf (rt (Rat.divInt u 2)) = H5 at at5 rp5 rf5 ⊢
    generalize Rat.divInt u 2 = fl at fl0 sfl rf5 ⊢
    have G : Given K H5 l pp pf S pl fl := ⟨at5, li, rp5, rf5, pl0, fl0, spl, sfl⟩
    refine ⟨_, _, _, rfl, ?_⟩
    refine ⟨Nat.zero_le _, fun lc nlc => ?_⟩
    have eC : Same H5 (upd H5 lc (.lst [])) := same_upd nlc
    obtain ⟨xs, hx, hl⟩ := G.at_.ex
    have hlen := hl.len
    refine ⟨_, rfl, l, xs, rfl, .inr (stup eC hx), _, _, rfl, ⟨by decide, by decide, by omega, by omega⟩, for_range (lo := 1) (n := ((xs.length : Int) - 1).toNat)
      (fun i σ H' => ∃ (v6 v7 v8 v9 v10 : Option V) (cs : List V), σ = [some (.ref a), some (.ref r), some (.ref l), some (.ref pp), some (.ref pf), some (.ref lc), v6, v7, v8, v9, v10, none, none, none, none] ∧
        Same H5 H' ∧ H' lc = some (.lst cs) ∧ LT K H' cs (costs S pl fl i))
      ⟨_, _, _, _, _, [], rfl, eC, upd_same, LT.nil⟩ ?_ ?_⟩
    · rintro i σ H' hi ⟨v6, v7, v8, v9, v10, cs, rfl, e, elc, hcs⟩
      have hi1 : i + 1 < S.length := by omega
      have hL := li
      refine ⟨by show 2 ≤ sizeLine; decide, fun ps nps => ?_⟩
      have f1 : Same H' (upd H' ps (.tup [.int 0, .int 1])) := same_upd nps
      have rs1 : RT K (upd H' ps (.tup [.int 0, .int 1])) ps 0 := .of upd_same
      generalize upd H' ps (.tup [.int 0, .int 1]) = J1 at f1 rs1 ⊢
      have g1 := e.trans f1
      obtain ⟨pa, ga, ra⟩ := hl.ix (i + 1) _ (get_at hi1)
      refine ⟨_, rfl, _, rfl, _, rfl, l, xs, _, _, rfl, rfl, stup g1 hx, at_of (j := i + 1) (by omega) ga, ?_⟩
      refine ⟨pp, pa, pl, _, 5, 30, rfl, stup g1 G.hp, stup g1 ra, G.sp, hL.sz' hi1, by decide, True.intro, fun pc npc => ?_⟩
      have f2 := f1.trans (same_upd npc (o := rt (pl * at' S (i + 1))))
      have rs2 := stup (same_upd npc (o := rt (pl * at' S (i + 1)))) rs1
      have rc2 : RT K (upd J1 pc (rt (pl * at' S (i + 1)))) pc (pl * at' S (i + 1)) := RT.new
      generalize upd J1 pc (rt (pl * at' S (i + 1))) = J2 at f2 rs2 rc2 ⊢
      have sc2 : Sz 35 (pl * at' S (i + 1)) := G.sp.mul (hL.sz' hi1)
      rw [← runC_zero hL pl fl (i + 1)] at rc2 sc2
      rw [← runS_zero S] at rs2
      refine ⟨_, _, rfl, ?_⟩
      refine ⟨_, rfl, _, _, rfl, rfl, _, _, rfl, ⟨by decide, by decide, by omega, by omega⟩, for_range (lo := 1) (n := ((1 + (i : Int)) + 1 - 1).toNat)
        (fun t σ J => ∃ (ps pc : Addr) (v9 v10 : Option V), σ = [some (.ref a), some (.ref r), some (.ref l), some (.ref pp), some (.ref pf), some (.ref lc), some (.int (1 + (i : Int))), some (.ref ps), some (.ref pc), v9, v10, none, none, none, none] ∧
          Same H' J ∧ RT K J ps (runS S t) ∧ RT K J pc (runC S pl fl (i + 1) t) ∧ Sz (1 + 70 * t) (runS S t) ∧ Sz (35 + 70 * t) (runC S pl fl (i + 1) t))
        ⟨ps, pc, _, _, rfl, f2, rs2, rc2, by rw [runS_zero]; exact Sz.zero, sc2⟩ ?_ ?_⟩
      · rintro t σ J ht ⟨ps, pc, v9, v10, rfl, f, rs, rc, ss, sc⟩
        have ht1 : t + 1 < S.length := by omega
        have g := e.trans f
        obtain ⟨pu, gu, ru⟩ := hl.ix t _ (get_at (show t < S.length by omega))
        obtain ⟨pv', gv, rv⟩ := hl.ix (t + 1) _ (get_at ht1)
        refine ⟨_, rfl, _, rfl, _, _, rfl, rfl, l, xs, _, _, rfl, rfl, stup g hx, at_of (j := t) (by omega) gu, ?_⟩
        refine ⟨_, rfl, _, rfl, l, xs, _, _, rfl, rfl, stup g hx, at_of (j := t + 1) (by omega) gv, pv', _, 0, _, rfl, rfl, stup g rv, at0, _, _, rfl, rfl, ?_⟩
        refine ⟨_, rfl, _, rfl, l, xs, _, _, rfl, rfl, stup g hx, at_of (j := t + 1) (by omega) gv, pv', _, 1, _, rfl, rfl, stup g rv, Fw.at1, by show 2 ≤ sizeLine; decide, fun t1 n1 => ?_⟩
        have u1 := same_upd n1 (o := .tup [.int (0 - (at' S (t + 1)).num), .int ((at' S (t + 1)).den : Int)])
        have rn : RT K (upd J t1 (.tup [.int (0 - (at' S (t + 1)).num), .int ((at' S (t + 1)).den : Int)])) t1 (-(at' S (t + 1))) := rt_neg
        refine ⟨pu, t1, at' S t, -(at' S (t + 1)), 30, 30, rfl, stup u1 (stup g ru), rn, hL.sz' (by omega), (hL.sz' ht1).neg, by decide, True.intro, fun t2 n2 => ?_⟩
        have u2 := u1.trans (same_upd n2 (o := rt (at' S t + -(at' S (t + 1)))))
        have rw2 : RT K (upd (upd J t1 (.tup [.int (0 - (at' S (t + 1)).num), .int ((at' S (t + 1)).den : Int)])) t2 (rt (at' S t + -(at' S (t + 1))))) t2 (at' S t + -(at' S (t + 1))) := RT.new
        generalize upd (upd J t1 (.tup [.int (0 - (at' S (t + 1)).num), .int ((at' S (t + 1)).den : Int)])) t2 (rt (at' S t + -(at' S (t + 1)))) = J2' at u2 rw2 ⊢
        have sw := weight_sz hL ht1
        have rs' := stup u2 rs
        have rc' := stup u2 rc
        have gf := stup (g.trans u2) G.hf
        refine ⟨_, rfl, _, rfl, _, rfl, pf, t2, fl, _, 5, 61, rfl, gf, rw2, G.sf, sw, by decide, True.intro, fun t3 n3 => ?_⟩
        have u3 := same_upd n3 (o := rt (fl * (at' S t + -(at' S (t + 1)))))
        refine ⟨pc, t3, _, _, 35 + 70 * t, 66, rfl, stup u3 rc', RT.new, sc, G.sf.mul sw, by omega, True.intro, fun t4 n4 => ?_⟩
        have u4 := u3.trans (same_upd n4 (o := rt (runC S pl fl (i + 1) t + fl * (at' S t + -(at' S (t + 1))))))
        have rc4 : RT K (upd (upd J2' t3 (rt (fl * (at' S t + -(at' S (t + 1)))))) t4 (rt (runC S pl fl (i + 1) t + fl * (at' S t + -(at' S (t + 1)))))) t4 (runC S pl fl (i + 1) t + fl * (at' S t + -(at' S (t + 1)))) := RT.new
        generalize upd (upd J2' t3 (rt (fl * (at' S t + -(at' S (t + 1)))))) t4 (rt (runC S pl fl (i + 1) t + fl * (at' S t + -(at' S (t + 1))))) = J4 at u4 rc4 ⊢
        have rs4 := stup u4 rs'
        have rw4 := stup u4 rw2
        refine ⟨_, rfl, _, rfl, by show 2 ≤ sizeLine; decide, fun t5 n5 => ?_⟩
        have u5 := same_upd n5 (o := .tup [.int (1 + (t : Int)), .int 1])
        have r5 : RT K (upd J4 t5 (.tup [.int (1 + (t : Int)), .int 1])) t5 ((t + 1 : Nat) : Rat) := rt_nat (by omega)
        refine ⟨_, rfl, t5, t2, _, _, 4, 61, rfl, r5, stup u5 rw4, Sz.nat (by show t + 1 < 16; omega) (by decide), sw, by decide, True.intro, fun t6 n6 => ?_⟩
        have u6 := u5.trans (same_upd n6 (o := rt (((t + 1 : Nat) : Rat) * (at' S t + -(at' S (t + 1))))))
        refine ⟨ps, t6, _, _, 1 + 70 * t, 65, rfl, stup u6 rs4, RT.new, ss, (Sz.nat (n := 4) (by show t + 1 < 16; omega) (by decide)).mul sw, by omega, True.intro, fun t7 n7 => ?_⟩
        have u7 := u6.trans (same_upd n7 (o := rt (runS S t + ((t + 1 : Nat) : Rat) * (at' S t + -(at' S (t + 1))))))
        refine ⟨_, _, rfl, t7, t4, _, _, rfl, ((f.trans u2).trans u4).trans u7, ?_, ?_, ?_, ?_⟩
        · rw [← runS_step]
          exact RT.new
        · rw [← runC_step]
          exact stup u7 rc4
        · rw [← runS_step]
          exact (ss.add ((Sz.nat (n := 4) (by show t + 1 < 16; omega) (by decide)).mul sw)).mono (by omega)
        · rw [← runC_step]
          exact (sc.add (G.sf.mul sw)).mono (by omega)
      rintro σ J ⟨ps, pc, v9, v10, rfl, f, rs, rc, ss, sc⟩
      have en : ((1 + (i : Int)) + 1 - 1).toNat = i + 1 := by omega
      rw [en] at rs rc ss sc
      have g := e.trans f
      have sa := hL.sz' hi1
      refine ⟨_, rfl, _, rfl, by show 2 ≤ sizeLine; decide, fun t1 n1 => ?_⟩
      have u1 := same_upd n1 (o := .tup [.int (1 + (i : Int)), .int 1])
      have r1 : RT K (upd J t1 (.tup [.int (1 + (i : Int)), .int 1])) t1 ((i + 1 : Nat) : Rat) := rt_nat (by omega)
      refine ⟨_, rfl, _, rfl, l, xs, _, _, rfl, rfl, stup (g.trans u1) hx, at_of (j := i + 1) (by omega) ga, ?_⟩
      refine ⟨t1, pa, _, _, 4, 30, rfl, r1, stup (g.trans u1) ra, Sz.nat (by show i + 1 < 16; omega) (by decide), sa, by decide, True.intro, fun t2 n2 => ?_⟩
      have u2 := u1.trans (same_upd n2 (o := rt (((i + 1 : Nat) : Rat) * at' S (i + 1))))
      refine ⟨ps, t2, _, _, 1 + 70 * (i + 1), 34, rfl, stup u2 rs, RT.new, ss, (Sz.nat (n := 4) (by show i + 1 < 16; omega) (by decide)).mul sa, by omega, True.intro, fun t3 n3 => ?_⟩
      have u3 := u2.trans (same_upd n3 (o := rt (runS S (i + 1) + ((i + 1 : Nat) : Rat) * at' S (i + 1))))
      have r3 : RT K (upd (upd (upd J t1 (.tup [.int (1 + (i : Int)), .int 1])) t2 (rt (((i + 1 : Nat) : Rat) * at' S (i + 1)))) t3 (rt (runS S (i + 1) + ((i + 1 : Nat) : Rat) * at' S (i + 1)))) t3 (psum S (i + 1)) := by
        rw [runS_end]
        exact RT.new
      generalize upd (upd (upd J t1 (.tup [.int (1 + (i : Int)), .int 1])) t2 (rt (((i + 1 : Nat) : Rat) * at' S (i + 1)))) t3 (rt (runS S (i + 1) + ((i + 1 : Nat) : Rat) * at' S (i + 1))) = J3 at u3 r3 ⊢
      have f3 := f.trans u3
      refine ⟨_, rfl, .inl ⟨rfl, _, .of (f3 _ _ elc)⟩, _, rfl, _, rfl, ?_⟩
      refine ⟨pc, t3, _, _, 35 + 70 * (i + 1), 1 + 31 * (i + 1), rfl, stup u3 rc, r3, sc, hL.psum_sz (by omega), by omega, hL.psum_pos' (by omega) hi1, fun tc nc => ?_⟩
      have u4 := same_upd nc (o := rt (runC S pl fl (i + 1) (i + 1) / psum S (i + 1)))
      have rc4 : RT K (upd J3 tc (rt (runC S pl fl (i + 1) (i + 1) / psum S (i + 1)))) tc (cost S pl fl (i + 1)) := by
        rw [run_cost]
        exact RT.new
      generalize upd J3 tc (rt (runC S pl fl (i + 1) (i + 1) / psum S (i + 1))) = J4 at u4 rc4 ⊢
      have f4 := f3.trans u4
      have elc4 := f4 _ _ elc
      have hcl := hcs.len
      rw [costs_len] at hcl
      refine ⟨lc, cs, .ref tc, rfl, rfl, elc4, small1000 (by omega), ?_⟩
      have g5 : Same H5 (upd J4 lc (.lst (cs ++ [.ref tc]))) := same_put (e.trans f4) nlc
      have kl : Keep lc J4 (upd J4 lc (.lst (cs ++ [.ref tc]))) := Keep.upd
      have elc5 : (upd J4 lc (.lst (cs ++ [.ref tc]))) lc = some (.lst (cs ++ [.ref tc])) := upd_same
      have hcs5 : LT K (upd J4 lc (.lst (cs ++ [.ref tc]))) (cs ++ [.ref tc]) (costs S pl fl (i + 1)) := by
        rw [costs_succ]
        exact (kl.row elc4 (hcs.same f4)).append (kl.tup elc4 rc4)
      have rc5 := kl.tup elc4 rc4
      generalize upd J4 lc (.lst (cs ++ [.ref tc])) = J5 at g5 elc5 hcs5 rc5 ⊢
      refine ⟨_, rfl, _, rfl, _, rfl, _, rfl, l, pp, pf, S, pl, fl, i + 1, (by rw [show (1 : Int) + (i : Nat) = ((i + 1 : Nat) : Int) by omega]; rfl), G.same g5, by omega, hi1, fun J6 p6 e6 r6 => ?_⟩
      refine ⟨_, rfl, _, rfl, lc, _, -1, _, rfl, rfl, .of (e6 _ _ elc5), atI_last _ _, ?_⟩
      refine ⟨_, _, rfl, Al.rat r6 (stup e6 rc5) 1, fun J7 e7 => ⟨_, rfl, iteF ?_⟩⟩
      exact ⟨_, _, _, _, _, _, rfl, g5.trans (e6.trans e7), e7 _ _ (e6 _ _ elc5), hcs5.same (e6.trans e7)⟩
    rintro σ H6 ⟨v6, v7, v8, v9, v10, cs, rfl, e6, elc, hcs⟩
    have em : ((xs.length : Int) - 1).toNat = S.length - 1 := by omega
    rw [em] at hcs
    have hcl := hcs.len
    rw [costs_len] at hcl
    refine ⟨_, rfl, _, rfl, _, rfl, l, pp, pf, S, pl, fl, rfl, G.same e6, fun H7 t p b e7 et rb hb => ?_⟩
    refine ⟨t, _, rfl, .of et, rfl, _, _, rfl, _, _, rfl, rfl, ?_⟩
    have elc7 := e7 _ _ elc
    have hcs7 := hcs.same e7
    have hb1 := hb.lo
    have hb2 := hb.hi
    generalize hc : cost S pl fl = c at hb
    have csz : ∀ j, 1 ≤ j → j < S.length → Sz 400 (c j) := fun j j1 j2 => by
      rw [← hc]
      exact cost_sz li G.sp G.sf j1 j2
    have cat : ∀ j, j < S.length - 1 → ∀ H', LT K H' cs (costs S pl fl (S.length - 1)) → ∃ pj, cs[j]? = some (V.ref pj) ∧ RT K H' pj (c (j + 1)) := fun j hj H' hh => by
      rw [← hc]
      exact hh.ix j _ (costs_at hj)
    refine ⟨_, rfl, lc, cs, rfl, .inl (.of elc7), (cs.length : Int), rfl, by omega, by omega, fun D nD => ?_⟩
    refine lc_range (lo := 0) (n := (cs.length : Int).toNat) (fun i H' => Same H7 H' ∧ H' D = some (.lst (goodV c (S.length - 1) i))) ⟨same_upd nD, upd_same⟩ ?_ ?_
    · rintro i H' hi ⟨e, eD⟩
      have him : i < S.length - 1 := by omega
      refine ⟨rfl, ?_⟩
      have elc' := e _ _ elc7
      refine ⟨_, rfl, lc, rfl, ⟨_, .of elc'⟩, fun D2 nD2 => lc_list (K := K) (a := lc) (xs := cs) (fun j H'' => Same H' H'' ∧ ∃ acc rs, H'' D2 = some (.lst acc) ∧ LT K H'' acc rs ∧ rs.length ≤ j ∧ (rs = [] ↔ ∀ m, m < j → ¬ c (m + 1) < c (i + 1)))
        ⟨same_upd nD2, [], [], upd_same, LT.nil, Nat.le_refl _, fun _ m hm => absurd hm (Nat.not_lt_zero _), fun _ => rfl⟩ (fun j H'' _ ⟨e2, _⟩ => .of (e2 _ _ elc')) ?_ ?_⟩
      · rintro j x H'' hj ⟨e2, acc, rs, eacc, hacc, hrl, hiff⟩
        have hjl := (List.getElem?_eq_some_iff.mp hj).1
        have e27 := e.trans e2
        obtain ⟨pj, gj, rj⟩ := cat j (by omega) H'' (hcs7.same e27)
        rw [hj] at gj
        have ej := Option.some.inj gj
        subst ej
        obtain ⟨pi, gi, ri⟩ := cat i him H'' (hcs7.same e27)
        refine ⟨rfl, _, rfl, _, rfl, _, rfl, lc, cs, _, _, rfl, rfl, .of (e2 _ _ elc'), at_of (j := i) (by omega) gi, ?_⟩
        refine ⟨pj, pi, _, _, 400, 400, rfl, rj, ri, csz _ (by omega) (by omega), csz _ (by omega) (by omega), by decide, _, rfl, ?_⟩
        refine ite2 (fun z => ?_) (fun z => ?_)
        · have z := of_decide_eq_true z
          have hal := hacc.len
          refine ⟨_, rfl, acc, eacc, small1000 (by omega), same_put e2 nD2, acc ++ [.ref pj], rs ++ [c (j + 1)], upd_same, (Keep.upd.row eacc hacc).append (Keep.upd.tup eacc rj), ?_, ?_, ?_⟩
          · rw [List.length_append]
            exact Nat.succ_le_succ hrl
          · intro y
            exact absurd y (by simp)
          · intro y
            exact absurd z (y j (Nat.lt_succ_self j))
        · have z := of_decide_eq_false (Bool.not_eq_true _ ▸ z)
          refine ⟨e2, acc, rs, eacc, hacc, Nat.le_succ_of_le hrl, ?_, ?_⟩
          · intro y m hm
            by_cases hmj : m = j
            · rw [hmj]
              exact z
            · exact hiff.mp y m (by omega)
          · intro y
            exact hiff.mpr fun m hm => y m (by omega)
      rintro H'' ⟨e2, acc, rs, eacc, hacc, hrl, hiff⟩
      refine ⟨Nat.zero_le _, fun v nv => ?_⟩
      have e3 := e2.trans (same_upd nv (o := .lst []))
      refine ⟨.list (rs.map dr), .list [], .lst (.of ((same_upd nv) _ _ eacc)) (dpAll_rats (hacc.same (same_upd nv))), .lst (.of upd_same) .nil, lists_shaped rs, nil_shaped, _, rfl, ?_⟩
      rw [eqv_empty]
      have hgl := goodV_len c (S.length - 1) i
      refine ite2 (fun z => ?_) (fun z => ?_)
      · have z := hiff.mp (of_decide_eq_true z)
        have hg : isGood c (S.length - 1) i = true := decide_eq_true fun m hm => z m (by omega)
        refine ⟨_, rfl, _, e3 _ _ eD, small1000 (by omega), same_put (e.trans e3) nD, ?_⟩
        rw [upd_same, goodV_yes hg]
      · have z := of_decide_eq_false (Bool.not_eq_true _ ▸ z)
        have hg : isGood c (S.length - 1) i = false := decide_eq_false fun y => z (hiff.mpr fun m hm => y m (by omega))
        refine ⟨e.trans e3, ?_⟩
        rw [goodV_no hg]
        exact e3 _ _ eD
    rintro H8 ⟨e8, eD⟩
    rw [show (cs.length : Int).toNat = S.length - 1 by omega] at eD
    have elc8 := e8 _ _ elc7
    have et8 := e8 _ _ et
    have rb8 := stup e8 rb
    have hcs8 := hcs7.same e8
    have hg0 := goodV_head hb
    obtain ⟨pb, gb, rb'⟩ := cat (b - 1) (by omega) H8 hcs8
    rw [show b - 1 + 1 = b by omega] at rb'
    rw [hc] at rb8
    refine ⟨_, rfl, _, rfl, by show 2 ≤ sizeLine; decide, fun t1 n1 => ?_⟩
    have u1 := same_upd n1 (o := .tup [.ref p, .int (b : Int)])
    refine ⟨_, rfl, _, rfl, D, _, 0, _, rfl, rfl, .of (u1 _ _ eD), atI_nat (j := 0) hg0, lc, cs, _, _, rfl, rfl, .of (u1 _ _ elc8), atI_nat gb, ?_⟩
    refine ⟨_, rfl, D, _, 0, _, rfl, rfl, .of (u1 _ _ eD), atI_nat (j := 0) hg0, _, _, rfl, rfl, by show 2 ≤ sizeLine; decide, fun t2 n2 => ?_⟩
    have u2 := same_upd n2 (o := .tup [.ref pb, .int (((b - 1 : Nat) : Int) + 1)])
    have u12 := u1.trans u2
    have eb : ((b - 1 : Nat) : Int) + 1 = (b : Int) := by omega
    have ht2 : SqT K (upd (upd H8 t1 (.tup [.ref p, .int (b : Int)])) t2 (.tup [.ref pb, .int (((b - 1 : Nat) : Int) + 1)])) t2 [.ref pb, .int (b : Int)] := by
      rw [eb]
      exact .of upd_same
    refine ⟨_, _, rfl, Al.two (stup u12 rb8) (stup u12 rb') (stup u2 (.of upd_same)) ht2 0, fun H9 e9 => ⟨_, rfl, iteF ?_⟩⟩
    have u9 := u12.trans e9
    have G9 := G.same (((e6.trans e7).trans e8).trans u9)
    refine ⟨_, rfl, _, rfl, pp, pf, pl, fl, 5, 5, rfl, G9.hp, G9.hf, G9.sp, G9.sf, by decide, _, rfl, ?_⟩
    refine ite2 (fun z => ?_) (fun z => ?_)
    · exact q _
    · have z := of_decide_eq_false (Bool.not_eq_true _ ▸ z)
      obtain ⟨pz, gz, rz⟩ := cat (S.length - 1 - 1) (by omega) H9 (hcs8.same u9)
      rw [show S.length - 1 - 1 + 1 = S.length - 1 by omega] at rz
      refine ⟨_, rfl, _, rfl, _, rfl, lc, cs, -1, _, rfl, rfl, .of (u9 _ _ elc8), at_m1 (by omega) (by rw [hcl]; exact gz), ?_⟩
      refine ⟨dr (c b), dr (c (S.length - 1)), dp_rat (stup u9 rb8), dp_rat rz, dr_shaped _, dr_shaped _, ?_⟩
      have hlast : c b = c (S.length - 1) := by
        rw [← hc]
        exact last_least li G.f0 z (by rw [hc]; exact hb)
      rw [eqv_rat, decide_eq_true hlast]
      exact q _
end
end Fw
namespace Fw
open PySem PySem.Spec PyProof.Rows L2
theorem const_rat {K : PySem.W.Frag} {a : Addr} {dd : Option Addr} {x y : Int} {t u : Tok} {n : Nat} {sl : Array (Option Value)} {r : Rat} (l : K.lookup a = some ⟨.type "tuple", dd, .seq [Value.int x t, Value.int y u].toArray n, sl⟩) (hx : r.num = x) (hy : (r.den : Int) = y) (H : Hp) : RT K H a r := by
  subst hx
  subst hy
  exact .inr ⟨_, _, _, l, rfl, rfl, (by show 2 ≤ sizeLine; decide), .cons ⟨t, rfl⟩ (.cons ⟨u, rfl⟩ .nil)⟩
theorem all_mk {l : PySem.W.OpenLaw} {w : World} {K : PySem.W.Frag} {h : Heap} {mg : Str → Option Value} {fa f0 f1 f2 f3 f4 f5 f6 f7 f8 f9 f10 f11 f12 f13 f14 f15 f16 f17 f18 f19 f20 f21 f22 f23 f24 f25 f26 f27 aZ aO : Addr} (X : K.In h) (G : h.Ns mainGlobals mg) (hfa : mg "law" = some (.ref fa))
    {od0 an0 od1 an1 od2 an2 od3 an3 od4 an4 od5 an5 od6 an6 od7 an7 od8 an8 od9 an9 od10 an10 od11 an11 od12 an12 od13 an13 od14 an14 od15 an15 od16 an16 od17 an17 od18 an18 od19 an19 od20 an20 od21 an21 od22 an22 od23 an23 od24 an24 od25 an25 od26 an26 od27 an27 ddZ ddO : Option Addr} {sl0 sl1 sl2 sl3 sl4 sl5 sl6 sl7 sl8 sl9 sl10 sl11 sl12 sl13 sl14 sl15 sl16 sl17 sl18 sl19 sl20 sl21 sl22 sl23 sl24 sl25 sl26 sl27 slZ slO : Array (Option Value)} {oc0 kV0 dc0 pm0 cd0 ct0 oc1 kV1 dc1 pm1 cd1 ct1 oc2 kV2 dc2 pm2 cd2 ct2 oc3 kV3 dc3 pm3 cd3 ct3 oc4 kV4 dc4 pm4 cd4 ct4 oc5 kV5 dc5 pm5 cd5 ct5 oc6 kV6 dc6 pm6 cd6 ct6 oc7 kV7 dc7 pm7 cd7 ct7 oc8 kV8 dc8 pm8 cd8 ct8 oc9 kV9 dc9 pm9 cd9 ct9 oc10 kV10 dc10 pm10 cd10 ct10 oc11 kV11 dc11 pm11 cd11 ct11 oc12 kV12 dc12 pm12 cd12 ct12 oc13 kV13 dc13 pm13 cd13 ct13 oc14 kV14 dc14 pm14 cd14 ct14 oc15 kV15 dc15 pm15 cd15 ct15 oc16 kV16 dc16 pm16 cd16 ct16 oc17 kV17 dc17 pm17 cd17 ct17 oc18 kV18 dc18 pm18 cd18 ct18 oc19 kV19 dc19 pm19 cd19 ct19 oc20 kV20 dc20 pm20 cd20 ct20 oc21 kV21 dc21 pm21 cd21 ct21 oc22 kV22 dc22 pm22 cd22 ct22 oc23 kV23 dc23 pm23 cd23 ct23 oc24 kV24 dc24 pm24 cd24 ct24 oc25 kV25 dc25 pm25 cd25 ct25 oc26 kV26 dc26 pm26 cd26 ct26 oc27 kV27 dc27 pm27 cd27 ct27 : Value} {tZ uZ tO uO tM : Tok} {nZ nO : Nat}
    (a0 : PySem.W.nsIn K mainGlobals "is_in" = some (some (.ref f0))) (l0 : K.lookup f0 = some ⟨oc0, od0, .func (PySem.W.fnOf "is_in" "is_in" (defArgs sIsIn) (defBody sIsIn) (defScope sIsIn) .none kV0 dc0 pm0 an0 cd0 ct0), sl0⟩) (c0 : PySem.W.codeIn K cd0 "is_in" = true) (k0 : PySem.W.keepIn K (.ref f0) = true)
    (a1 : PySem.W.nsIn K mainGlobals "gcd" = some (some (.ref f1))) (l1 : K.lookup f1 = some ⟨oc1, od1, .func (PySem.W.fnOf "gcd" "gcd" (defArgs sGcd) (defBody sGcd) (defScope sGcd) .none kV1 dc1 pm1 an1 cd1 ct1), sl1⟩) (c1 : PySem.W.codeIn K cd1 "gcd" = true) (k1 : PySem.W.keepIn K (.ref f1) = true)
    (a2 : PySem.W.nsIn K mainGlobals "reduced" = some (some (.ref f2))) (l2 : K.lookup f2 = some ⟨oc2, od2, .func (PySem.W.fnOf "reduced" "reduced" (defArgs sRed) (defBody sRed) (defScope sRed) .none kV2 dc2 pm2 an2 cd2 ct2), sl2⟩) (c2 : PySem.W.codeIn K cd2 "reduced" = true) (k2 : PySem.W.keepIn K (.ref f2) = true)
    (a3 : PySem.W.nsIn K mainGlobals "plus" = some (some (.ref f3))) (l3 : K.lookup f3 = some ⟨oc3, od3, .func (PySem.W.fnOf "plus" "plus" (defArgs sPlus) (defBody sPlus) (defScope sPlus) .none kV3 dc3 pm3 an3 cd3 ct3), sl3⟩) (c3 : PySem.W.codeIn K cd3 "plus" = true) (k3 : PySem.W.keepIn K (.ref f3) = true)
    (a4 : PySem.W.nsIn K mainGlobals "minus" = some (some (.ref f4))) (l4 : K.lookup f4 = some ⟨oc4, od4, .func (PySem.W.fnOf "minus" "minus" (defArgs sMinus) (defBody sMinus) (defScope sMinus) .none kV4 dc4 pm4 an4 cd4 ct4), sl4⟩) (c4 : PySem.W.codeIn K cd4 "minus" = true) (k4 : PySem.W.keepIn K (.ref f4) = true)
    (a5 : PySem.W.nsIn K mainGlobals "times" = some (some (.ref f5))) (l5 : K.lookup f5 = some ⟨oc5, od5, .func (PySem.W.fnOf "times" "times" (defArgs sTimes) (defBody sTimes) (defScope sTimes) .none kV5 dc5 pm5 an5 cd5 ct5), sl5⟩) (c5 : PySem.W.codeIn K cd5 "times" = true) (k5 : PySem.W.keepIn K (.ref f5) = true)
    (a6 : PySem.W.nsIn K mainGlobals "over" = some (some (.ref f6))) (l6 : K.lookup f6 = some ⟨oc6, od6, .func (PySem.W.fnOf "over" "over" (defArgs sOver) (defBody sOver) (defScope sOver) .none kV6 dc6 pm6 an6 cd6 ct6), sl6⟩) (c6 : PySem.W.codeIn K cd6 "over" = true) (k6 : PySem.W.keepIn K (.ref f6) = true)
    (a7 : PySem.W.nsIn K mainGlobals "is_below" = some (some (.ref f7))) (l7 : K.lookup f7 = some ⟨oc7, od7, .func (PySem.W.fnOf "is_below" "is_below" (defArgs sBelow) (defBody sBelow) (defScope sBelow) .none kV7 dc7 pm7 an7 cd7 ct7), sl7⟩) (c7 : PySem.W.codeIn K cd7 "is_below" = true) (k7 : PySem.W.keepIn K (.ref f7) = true)
    (a8 : PySem.W.nsIn K mainGlobals "is_ratio" = some (some (.ref f8))) (l8 : K.lookup f8 = some ⟨oc8, od8, .func (PySem.W.fnOf "is_ratio" "is_ratio" (defArgs sIsRat) (defBody sIsRat) (defScope sIsRat) .none kV8 dc8 pm8 an8 cd8 ct8), sl8⟩) (c8 : PySem.W.codeIn K cd8 "is_ratio" = true) (k8 : PySem.W.keepIn K (.ref f8) = true)
    (a9 : PySem.W.nsIn K mainGlobals "is_chance" = some (some (.ref f9))) (l9 : K.lookup f9 = some ⟨oc9, od9, .func (PySem.W.fnOf "is_chance" "is_chance" (defArgs sIsCh) (defBody sIsCh) (defScope sIsCh) .none kV9 dc9 pm9 an9 cd9 ct9), sl9⟩) (c9 : PySem.W.codeIn K cd9 "is_chance" = true) (k9 : PySem.W.keepIn K (.ref f9) = true)
    (a10 : PySem.W.nsIn K mainGlobals "total_of" = some (some (.ref f10))) (l10 : K.lookup f10 = some ⟨oc10, od10, .func (PySem.W.fnOf "total_of" "total_of" (defArgs sTot) (defBody sTot) (defScope sTot) .none kV10 dc10 pm10 an10 cd10 ct10), sl10⟩) (c10 : PySem.W.codeIn K cd10 "total_of" = true) (k10 : PySem.W.keepIn K (.ref f10) = true)
    (a11 : PySem.W.nsIn K mainGlobals "is_life" = some (some (.ref f11))) (l11 : K.lookup f11 = some ⟨oc11, od11, .func (PySem.W.fnOf "is_life" "is_life" (defArgs sIsLife) (defBody sIsLife) (defScope sIsLife) .none kV11 dc11 pm11 an11 cd11 ct11), sl11⟩) (c11 : PySem.W.codeIn K cd11 "is_life" = true) (k11 : PySem.W.keepIn K (.ref f11) = true)
    (a12 : PySem.W.nsIn K mainGlobals "need_life" = some (some (.ref f12))) (l12 : K.lookup f12 = some ⟨oc12, od12, .func (PySem.W.fnOf "need_life" "need_life" (defArgs sNeedLife) (defBody sNeedLife) (defScope sNeedLife) .none kV12 dc12 pm12 an12 cd12 ct12), sl12⟩) (c12 : PySem.W.codeIn K cd12 "need_life" = true) (k12 : PySem.W.keepIn K (.ref f12) = true)
    (a13 : PySem.W.nsIn K mainGlobals "need_cost" = some (some (.ref f13))) (l13 : K.lookup f13 = some ⟨oc13, od13, .func (PySem.W.fnOf "need_cost" "need_cost" (defArgs sNeedCost) (defBody sNeedCost) (defScope sNeedCost) .none kV13 dc13 pm13 an13 cd13 ct13), sl13⟩) (c13 : PySem.W.codeIn K cd13 "need_cost" = true) (k13 : PySem.W.keepIn K (.ref f13) = true)
    (a14 : PySem.W.nsIn K mainGlobals "cost_at" = some (some (.ref f14))) (l14 : K.lookup f14 = some ⟨oc14, od14, .func (PySem.W.fnOf "cost_at" "cost_at" (defArgs sCostAt) (defBody sCostAt) (defScope sCostAt) .none kV14 dc14 pm14 an14 cd14 ct14), sl14⟩) (c14 : PySem.W.codeIn K cd14 "cost_at" = true) (k14 : PySem.W.keepIn K (.ref f14) = true)
    (a15 : PySem.W.nsIn K mainGlobals "age_cost" = some (some (.ref f15))) (l15 : K.lookup f15 = some ⟨oc15, od15, .func (PySem.W.fnOf "age_cost" "age_cost" (defArgs sAgeCost) (defBody sAgeCost) (defScope sAgeCost) .none kV15 dc15 pm15 an15 cd15 ct15), sl15⟩) (c15 : PySem.W.codeIn K cd15 "age_cost" = true) (k15 : PySem.W.keepIn K (.ref f15) = true)
    (a16 : PySem.W.nsIn K mainGlobals "best_age" = some (some (.ref f16))) (l16 : K.lookup f16 = some ⟨oc16, od16, .func (PySem.W.fnOf "best_age" "best_age" (defArgs sBest) (defBody sBest) (defScope sBest) .none kV16 dc16 pm16 an16 cd16 ct16), sl16⟩) (c16 : PySem.W.codeIn K cd16 "best_age" = true) (k16 : PySem.W.keepIn K (.ref f16) = true)
    (a17 : PySem.W.nsIn K mainGlobals "_law_taken" = some (some (.ref f17))) (l17 : K.lookup f17 = some ⟨oc17, od17, .func (PySem.W.fnOf "_law_taken" "_law_taken" (defArgs lTaken) (defBody lTaken) (defScope lTaken) .none kV17 dc17 pm17 an17 cd17 ct17), sl17⟩) (c17 : PySem.W.codeIn K cd17 "_law_taken" = true) (k17 : PySem.W.keepIn K (.ref f17) = true)
    (a18 : PySem.W.nsIn K mainGlobals "_law_pick" = some (some (.ref f18))) (l18 : K.lookup f18 = some ⟨oc18, od18, .func (PySem.W.fnOf "_law_pick" "_law_pick" (defArgs lPick) (defBody lPick) (defScope lPick) .none kV18 dc18 pm18 an18 cd18 ct18), sl18⟩) (c18 : PySem.W.codeIn K cd18 "_law_pick" = true) (k18 : PySem.W.keepIn K (.ref f18) = true)
    (a19 : PySem.W.nsIn K mainGlobals "_law_gcd" = some (some (.ref f19))) (l19 : K.lookup f19 = some ⟨oc19, od19, .func (PySem.W.fnOf "_law_gcd" "_law_gcd" (defArgs lGcd) (defBody lGcd) (defScope lGcd) .none kV19 dc19 pm19 an19 cd19 ct19), sl19⟩) (c19 : PySem.W.codeIn K cd19 "_law_gcd" = true) (k19 : PySem.W.keepIn K (.ref f19) = true)
    (a20 : PySem.W.nsIn K mainGlobals "_law_ratio" = some (some (.ref f20))) (l20 : K.lookup f20 = some ⟨oc20, od20, .func (PySem.W.fnOf "_law_ratio" "_law_ratio" (defArgs lRed) (defBody lRed) (defScope lRed) .none kV20 dc20 pm20 an20 cd20 ct20), sl20⟩) (c20 : PySem.W.codeIn K cd20 "_law_ratio" = true) (k20 : PySem.W.keepIn K (.ref f20) = true)
    (a21 : PySem.W.nsIn K mainGlobals "_law_times" = some (some (.ref f21))) (l21 : K.lookup f21 = some ⟨oc21, od21, .func (PySem.W.fnOf "_law_times" "_law_times" (defArgs lTimes) (defBody lTimes) (defScope lTimes) .none kV21 dc21 pm21 an21 cd21 ct21), sl21⟩) (c21 : PySem.W.codeIn K cd21 "_law_times" = true) (k21 : PySem.W.keepIn K (.ref f21) = true)
    (a22 : PySem.W.nsIn K mainGlobals "_law_life" = some (some (.ref f22))) (l22 : K.lookup f22 = some ⟨oc22, od22, .func (PySem.W.fnOf "_law_life" "_law_life" (defArgs lLife) (defBody lLife) (defScope lLife) .none kV22 dc22 pm22 an22 cd22 ct22), sl22⟩) (c22 : PySem.W.codeIn K cd22 "_law_life" = true) (k22 : PySem.W.keepIn K (.ref f22) = true)
    (a23 : PySem.W.nsIn K mainGlobals "_law_plus" = some (some (.ref f23))) (l23 : K.lookup f23 = some ⟨oc23, od23, .func (PySem.W.fnOf "_law_plus" "_law_plus" (defArgs lPlus) (defBody lPlus) (defScope lPlus) .none kV23 dc23 pm23 an23 cd23 ct23), sl23⟩) (c23 : PySem.W.codeIn K cd23 "_law_plus" = true) (k23 : PySem.W.keepIn K (.ref f23) = true)
    (a24 : PySem.W.nsIn K mainGlobals "_law_over" = some (some (.ref f24))) (l24 : K.lookup f24 = some ⟨oc24, od24, .func (PySem.W.fnOf "_law_over" "_law_over" (defArgs lOver) (defBody lOver) (defScope lOver) .none kV24 dc24 pm24 an24 cd24 ct24), sl24⟩) (c24 : PySem.W.codeIn K cd24 "_law_over" = true) (k24 : PySem.W.keepIn K (.ref f24) = true)
    (a25 : PySem.W.nsIn K mainGlobals "_law_alike" = some (some (.ref f25))) (l25 : K.lookup f25 = some ⟨oc25, od25, .func (PySem.W.fnOf "_law_alike" "_law_alike" (defArgs lAlike) (defBody lAlike) (defScope lAlike) .none kV25 dc25 pm25 an25 cd25 ct25), sl25⟩) (c25 : PySem.W.codeIn K cd25 "_law_alike" = true) (k25 : PySem.W.keepIn K (.ref f25) = true)
    (a26 : PySem.W.nsIn K mainGlobals "_law_less" = some (some (.ref f26))) (l26 : K.lookup f26 = some ⟨oc26, od26, .func (PySem.W.fnOf "_law_less" "_law_less" (defArgs lLess) (defBody lLess) (defScope lLess) .none kV26 dc26 pm26 an26 cd26 ct26), sl26⟩) (c26 : PySem.W.codeIn K cd26 "_law_less" = true) (k26 : PySem.W.keepIn K (.ref f26) = true)
    (a27 : PySem.W.nsIn K mainGlobals "law" = some (some (.ref f27))) (l27 : K.lookup f27 = some ⟨oc27, od27, .func (PySem.W.fnOf "law" "law" (defArgs lLaw) (defBody lLaw) (defScope lLaw) .none kV27 dc27 pm27 an27 cd27 ct27), sl27⟩) (c27 : PySem.W.codeIn K cd27 "law" = true) (k27 : PySem.W.keepIn K (.ref f27) = true)
    (z0 : PySem.W.nsIn K mainGlobals "isinstance" = some none)
    (z1 : PySem.W.nsIn K mainGlobals "int" = some none)
    (z2 : PySem.W.nsIn K mainGlobals "bool" = some none)
    (z3 : PySem.W.nsIn K mainGlobals "abs" = some none)
    (z4 : PySem.W.nsIn K mainGlobals "tuple" = some none)
    (z5 : PySem.W.nsIn K mainGlobals "len" = some none)
    (z6 : PySem.W.nsIn K mainGlobals "range" = some none)
    (z7 : PySem.W.nsIn K mainGlobals "sorted" = some none)
    (z8 : PySem.W.nsIn K mainGlobals "list" = some none)
    (z9 : PySem.W.nsIn K mainGlobals "str" = some none)
    (aaZ : PySem.W.nsIn K mainGlobals "ZERO" = some (some (.ref aZ))) (llZ : K.lookup aZ = some ⟨.type "tuple", ddZ, .seq [Value.int 0 tZ, Value.int 1 uZ].toArray nZ, slZ⟩)
    (aaO : PySem.W.nsIn K mainGlobals "ONE" = some (some (.ref aO))) (llO : K.lookup aO = some ⟨.type "tuple", ddO, .seq [Value.int 1 tO, Value.int 1 uO].toArray nO, slO⟩)
    (aaM : PySem.W.nsIn K mainGlobals "MOST_ITEMS" = some (some (.int 13 tM))) :
    ∃ fd : FuncData, (∀ (s : Shared) (v : Value), BindsTo s fd ⟨[v], []⟩ [("_law_script", v)]) ∧ ∀ base : Heap, K.In base → base.Ns mainGlobals mg → FnOk l.prog w K mg base CX0 7 fa fd ["_law_script"] (spLaw K) := by
  have e := hfa.symm.trans (PySem.W.mg_of X G a27)
  cases e
  have B : Bi mg := ⟨PySem.W.mg_none_of X G z0, PySem.W.mg_none_of X G z1, PySem.W.mg_none_of X G z2, PySem.W.mg_none_of X G z3, PySem.W.mg_none_of X G z4, PySem.W.mg_none_of X G z5, PySem.W.mg_none_of X G z6, PySem.W.mg_none_of X G z7, PySem.W.mg_none_of X G z8, PySem.W.mg_none_of X G z9⟩
  have T : Cn K mg aZ aO := ⟨PySem.W.mg_of X G aaZ, PySem.W.mg_of X G aaO, const_rat llZ rfl rfl, const_rat llO rfl rfl, _, PySem.W.mg_of X G aaM⟩
  have F0 := fun_mk (st := sIsIn) l0 c0 k0
  have b0 := F0.binds (ps := ["value", "least", "most"]) fun _ _ _ _ _ _ us hl => match us, hl with | [_, _, _], _ => rfl
  have F1 := fun_mk (st := sGcd) l1 c1 k1
  have b1 := F1.binds (ps := ["one", "other"]) fun _ _ _ _ _ _ us hl => match us, hl with | [_, _], _ => rfl
  have F2 := fun_mk (st := sRed) l2 c2 k2
  have b2 := F2.binds (ps := ["numerator", "denominator"]) fun _ _ _ _ _ _ us hl => match us, hl with | [_, _], _ => rfl
  have F3 := fun_mk (st := sPlus) l3 c3 k3
  have b3 := F3.binds (ps := ["one", "other"]) fun _ _ _ _ _ _ us hl => match us, hl with | [_, _], _ => rfl
  have F4 := fun_mk (st := sMinus) l4 c4 k4
  have b4 := F4.binds (ps := ["one", "other"]) fun _ _ _ _ _ _ us hl => match us, hl with | [_, _], _ => rfl
  have F5 := fun_mk (st := sTimes) l5 c5 k5
  have b5 := F5.binds (ps := ["one", "other"]) fun _ _ _ _ _ _ us hl => match us, hl with | [_, _], _ => rfl
  have F6 := fun_mk (st := sOver) l6 c6 k6
  have b6 := F6.binds (ps := ["one", "other"]) fun _ _ _ _ _ _ us hl => match us, hl with | [_, _], _ => rfl
  have F7 := fun_mk (st := sBelow) l7 c7 k7
  have b7 := F7.binds (ps := ["one", "other"]) fun _ _ _ _ _ _ us hl => match us, hl with | [_, _], _ => rfl
  have F8 := fun_mk (st := sIsRat) l8 c8 k8
  have b8 := F8.binds (ps := ["value"]) fun _ _ _ _ _ _ us hl => match us, hl with | [_], _ => rfl
  have F9 := fun_mk (st := sIsCh) l9 c9 k9
  have b9 := F9.binds (ps := ["value"]) fun _ _ _ _ _ _ us hl => match us, hl with | [_], _ => rfl
  have F10 := fun_mk (st := sTot) l10 c10 k10
  have b10 := F10.binds (ps := ["values"]) fun _ _ _ _ _ _ us hl => match us, hl with | [_], _ => rfl
  have F11 := fun_mk (st := sIsLife) l11 c11 k11
  have b11 := F11.binds (ps := ["value"]) fun _ _ _ _ _ _ us hl => match us, hl with | [_], _ => rfl
  have F12 := fun_mk (st := sNeedLife) l12 c12 k12
  have b12 := F12.binds (ps := ["life"]) fun _ _ _ _ _ _ us hl => match us, hl with | [_], _ => rfl
  have F13 := fun_mk (st := sNeedCost) l13 c13 k13
  have b13 := F13.binds (ps := ["cost"]) fun _ _ _ _ _ _ us hl => match us, hl with | [_], _ => rfl
  have F14 := fun_mk (st := sCostAt) l14 c14 k14
  have b14 := F14.binds (ps := ["life", "plan", "fail", "age"]) fun _ _ _ _ _ _ us hl => match us, hl with | [_, _, _, _], _ => rfl
  have F15 := fun_mk (st := sAgeCost) l15 c15 k15
  have b15 := F15.binds (ps := ["life", "plan", "fail", "age"]) fun _ _ _ _ _ _ us hl => match us, hl with | [_, _, _, _], _ => rfl
  have F16 := fun_mk (st := sBest) l16 c16 k16
  have b16 := F16.binds (ps := ["life", "plan", "fail"]) fun _ _ _ _ _ _ us hl => match us, hl with | [_, _, _], _ => rfl
  have F17 := fun_mk (st := lTaken) l17 c17 k17
  have b17 := F17.binds (ps := ["_law_row", "_law_many"]) fun _ _ _ _ _ _ us hl => match us, hl with | [_, _], _ => rfl
  have F18 := fun_mk (st := lPick) l18 c18 k18
  have b18 := F18.binds (ps := ["_law_row", "_law_things"]) fun _ _ _ _ _ _ us hl => match us, hl with | [_, _], _ => rfl
  have F19 := fun_mk (st := lGcd) l19 c19 k19
  have b19 := F19.binds (ps := ["_law_one", "_law_other"]) fun _ _ _ _ _ _ us hl => match us, hl with | [_, _], _ => rfl
  have F20 := fun_mk (st := lRed) l20 c20 k20
  have b20 := F20.binds (ps := ["_law_numerator", "_law_denominator"]) fun _ _ _ _ _ _ us hl => match us, hl with | [_, _], _ => rfl
  have F21 := fun_mk (st := lTimes) l21 c21 k21
  have b21 := F21.binds (ps := ["_law_one", "_law_other"]) fun _ _ _ _ _ _ us hl => match us, hl with | [_, _], _ => rfl
  have F22 := fun_mk (st := lLife) l22 c22 k22
  have b22 := F22.binds (ps := ["_law_row", "_law_most"]) fun _ _ _ _ _ _ us hl => match us, hl with | [_, _], _ => rfl
  have F23 := fun_mk (st := lPlus) l23 c23 k23
  have b23 := F23.binds (ps := ["_law_one", "_law_other"]) fun _ _ _ _ _ _ us hl => match us, hl with | [_, _], _ => rfl
  have F24 := fun_mk (st := lOver) l24 c24 k24
  have b24 := F24.binds (ps := ["_law_one", "_law_other"]) fun _ _ _ _ _ _ us hl => match us, hl with | [_, _], _ => rfl
  have F25 := fun_mk (st := lAlike) l25 c25 k25
  have b25 := F25.binds (ps := ["_law_found", "_law_due"]) fun _ _ _ _ _ _ us hl => match us, hl with | [_, _], _ => rfl
  have F26 := fun_mk (st := lLess) l26 c26 k26
  have b26 := F26.binds (ps := ["_law_one", "_law_other"]) fun _ _ _ _ _ _ us hl => match us, hl with | [_, _], _ => rfl
  have F27 := fun_mk (st := lLaw) l27 c27 k27
  refine ⟨PySem.W.fnOf "law" "law" (defArgs lLaw) (defBody lLaw) (defScope lLaw) .none kV27 dc27 pm27 an27 cd27 ct27, fun s v => .of_eq rfl, fun base _ _ => ?_⟩
  have C0 : Cl l.prog w K mg base 1 "is_in" f0 _ ["value", "least", "most"] spIsIn := ⟨ok_isin F0 B, PySem.W.mg_of X G a0, k0, b0⟩
  have C1 : Cl l.prog w K mg base 1 "gcd" f1 _ ["one", "other"] spGcd := ⟨ok_gcd F1 B, PySem.W.mg_of X G a1, k1, b1⟩
  have C2 : Cl l.prog w K mg base 2 "reduced" f2 _ ["numerator", "denominator"] spRed := ⟨ok_red F2 C1.ok C1.mg C1.kp C1.bd, PySem.W.mg_of X G a2, k2, b2⟩
  have C3 : Cl l.prog w K mg base 3 "plus" f3 _ ["one", "other"] (spBin (· + ·) (fun _ => True) K) := ⟨ok_plus F3 C2.ok C2.mg C2.kp C2.bd, PySem.W.mg_of X G a3, k3, b3⟩
  have C4 : Cl l.prog w K mg base 3 "minus" f4 _ ["one", "other"] (spBin (· - ·) (fun _ => True) K) := ⟨ok_minus F4 C2.ok C2.mg C2.kp C2.bd, PySem.W.mg_of X G a4, k4, b4⟩
  have C5 : Cl l.prog w K mg base 3 "times" f5 _ ["one", "other"] (spBin (· * ·) (fun _ => True) K) := ⟨ok_times F5 C2.ok C2.mg C2.kp C2.bd, PySem.W.mg_of X G a5, k5, b5⟩
  have C6 : Cl l.prog w K mg base 3 "over" f6 _ ["one", "other"] (spBin (· / ·) (fun b => 0 < b) K) := ⟨ok_over F6 C2.ok C2.mg C2.kp C2.bd, PySem.W.mg_of X G a6, k6, b6⟩
  have C7 : Cl l.prog w K mg base 1 "is_below" f7 _ ["one", "other"] (spLess K) := ⟨ok_less F7, PySem.W.mg_of X G a7, k7, b7⟩
  have C8 : Cl l.prog w K mg base 2 "is_ratio" f8 _ ["value"] (spIsRat K) := ⟨ok_israt F8 B C1, PySem.W.mg_of X G a8, k8, b8⟩
  have C9 : Cl l.prog w K mg base 3 "is_chance" f9 _ ["value"] (spIsCh K) := ⟨ok_isch F9 C8, PySem.W.mg_of X G a9, k9, b9⟩
  have C13 : Cl l.prog w K mg base 3 "need_cost" f13 _ ["cost"] (spNeedCost K) := ⟨ok_ncost F13 C8, PySem.W.mg_of X G a13, k13, b13⟩
  have C10 : Cl l.prog w K mg base 4 "total_of" f10 _ ["values"] (spTot K) := ⟨ok_tot F10 T C3, PySem.W.mg_of X G a10, k10, b10⟩
  have C11 : Cl l.prog w K mg base 4 "is_life" f11 _ ["value"] (spIsLife K) := ⟨ok_islife F11 B T C9 (C7.mono (by decide)), PySem.W.mg_of X G a11, k11, b11⟩
  have C12 : Cl l.prog w K mg base 5 "need_life" f12 _ ["life"] (spNeedLife K) := ⟨ok_nlife F12 C11, PySem.W.mg_of X G a12, k12, b12⟩
  have C14 : Cl l.prog w K mg base 5 "cost_at" f14 _ ["life", "plan", "fail", "age"] (spCost K) := ⟨ok_cost F14 T (C4.mono (by decide)) (C6.mono (by decide)) (C3.mono (by decide)) (C5.mono (by decide)) C10, PySem.W.mg_of X G a14, k14, b14⟩
  have C15 : Cl l.prog w K mg base 6 "age_cost" f15 _ ["life", "plan", "fail", "age"] (spCost K) := ⟨ok_agec F15 B C12 (C13.mono (by decide)) (C0.mono (by decide)) C14, PySem.W.mg_of X G a15, k15, b15⟩
  have C16 : Cl l.prog w K mg base 6 "best_age" f16 _ ["life", "plan", "fail"] (spBest K) := ⟨ok_best F16 B C12 (C13.mono (by decide)) C14 (C7.mono (by decide)), PySem.W.mg_of X G a16, k16, b16⟩
  have C17 : Cl l.prog w K mg base 1 "_law_taken" f17 _ ["_law_row", "_law_many"] (spTaken K) := ⟨lok_taken F17 B, PySem.W.mg_of X G a17, k17, b17⟩
  have C18 : Cl l.prog w K mg base 2 "_law_pick" f18 _ ["_law_row", "_law_things"] (spPick K) := ⟨lok_pick F18 B C17, PySem.W.mg_of X G a18, k18, b18⟩
  have C19 : Cl l.prog w K mg base 1 "_law_gcd" f19 _ ["_law_one", "_law_other"] spGcd := ⟨lok_gcd F19 B, PySem.W.mg_of X G a19, k19, b19⟩
  have C20 : Cl l.prog w K mg base 2 "_law_ratio" f20 _ ["_law_numerator", "_law_denominator"] spRed := ⟨lok_red F20 C19.ok C19.mg C19.kp C19.bd, PySem.W.mg_of X G a20, k20, b20⟩
  have C21 : Cl l.prog w K mg base 3 "_law_times" f21 _ ["_law_one", "_law_other"] (spBin (· * ·) (fun _ => True) K) := ⟨lok_times F21 C20.ok C20.mg C20.kp C20.bd, PySem.W.mg_of X G a21, k21, b21⟩
  have C23 : Cl l.prog w K mg base 3 "_law_plus" f23 _ ["_law_one", "_law_other"] (spBin (· + ·) (fun _ => True) K) := ⟨lok_plus F23 C20.ok C20.mg C20.kp C20.bd, PySem.W.mg_of X G a23, k23, b23⟩
  have C24 : Cl l.prog w K mg base 3 "_law_over" f24 _ ["_law_one", "_law_other"] (spBin (· / ·) (fun b => 0 < b) K) := ⟨lok_over F24 C20.ok C20.mg C20.kp C20.bd, PySem.W.mg_of X G a24, k24, b24⟩
  have C22 : Cl l.prog w K mg base 4 "_law_life" f22 _ ["_law_row", "_law_most"] (spLife K) := ⟨lok_life F22 B (C17.mono (by decide)) (C18.mono (by decide)) C21 (C20.mono (by decide)), PySem.W.mg_of X G a22, k22, b22⟩
  have C25z : Cl l.prog w K mg base 1 "_law_alike" f25 _ ["_law_found", "_law_due"] (spAl 0 K) := ⟨lok_alike0 F25 B, PySem.W.mg_of X G a25, k25, b25⟩
  have C25o : Cl l.prog w K mg base 2 "_law_alike" f25 _ ["_law_found", "_law_due"] (spAl 1 K) := ⟨lok_alikeS F25 B C25z, PySem.W.mg_of X G a25, k25, b25⟩
  have C25t : Cl l.prog w K mg base 3 "_law_alike" f25 _ ["_law_found", "_law_due"] (spAl 2 K) := ⟨lok_alikeS F25 B C25o, PySem.W.mg_of X G a25, k25, b25⟩
  have C26 : Cl l.prog w K mg base 1 "_law_less" f26 _ ["_law_one", "_law_other"] (spLess K) := ⟨lok_less F26, PySem.W.mg_of X G a26, k26, b26⟩
  exact lok_law F27 B (C22.mono (by decide)) (C20.mono (by decide)) (C17.mono (by decide)) (C21.mono (by decide)) (C23.mono (by decide)) (C24.mono (by decide)) (C25t.mono (by decide)) C15 C16 (C26.mono (by decide))
theorem walk {l : PySem.W.OpenLaw} {q : Program} {loose : List Str} {XP : (Str → Option Value) → Heap → Prop} {YP : World → Heap → Prop} {d : DefRec} {K : Params → PySem.W.Frag} (hn : l.most = some 63) (hdf : d.params.defaults = [])
    (hY : ∀ (w : World) (h : Heap), YP w h → (K w.params).In h)
    (F : ∀ (w : World) (mg : Str → Option Value) (fa : Addr) (h : Heap), (K w.params).In h → h.Ns mainGlobals mg → mg d.name = some (.ref fa) →
      ∃ fd : FuncData, (∀ (s : Shared) (u : Value), BindsTo s fd ⟨[u], []⟩ [("_law_script", u)]) ∧ ∀ base : Heap, (K w.params).In base → base.Ns mainGlobals mg → FnOk l.prog w (K w.params) mg base CX0 7 fa fd ["_law_script"] (spLaw (K w.params))) :
    PySem.W.WalkO q loose XP YP l.row.toRowW d [] (fun f vs => PySem.call f vs) :=
  L2.walk_of (n := 63) (k := 7) (x := "_law_script") (CX := fun _ => CX0) (sp := fun w => spLaw (K w.params)) hn (by decide) hdf ⟨rfl, by decide, by decide⟩ hY F (fun _ _ a ns hl _ hS => ⟨a, ns, rfl, hS, fun _ => rfl⟩) fun _ _ _ _ _ z => z
end Fw
open PySem PySem.W PyProof.Rows
set_option maxRecDepth 100000 in
set_option maxHeartbeats 0 in
theorem PySem.Challenge.cw_faultworks_k54_whole_costs_by_age_holds : PySem.Challenge.rw_faultworks_k54_whole_costs_by_age.Holds := by
  w_on; o_law; k_head; (case hw => w_witness2)
  k_fill
  refine Fw.walk (l := PySem.Challenge.rw_faultworks_k54_whole_costs_by_age) rfl rfl (fun w h Y => PySem.W.kIn_of Y) ?F
  case F =>
    intro w mg fa h KX G hmg
    refine' Fw.all_mk KX G hmg ?a0 ?l0 ?c0 ?k0 ?a1 ?l1 ?c1 ?k1 ?a2 ?l2 ?c2 ?k2 ?a3 ?l3 ?c3 ?k3 ?a4 ?l4 ?c4 ?k4 ?a5 ?l5 ?c5 ?k5 ?a6 ?l6 ?c6 ?k6 ?a7 ?l7 ?c7 ?k7 ?a8 ?l8 ?c8 ?k8 ?a9 ?l9 ?c9 ?k9 ?a10 ?l10 ?c10 ?k10 ?a11 ?l11 ?c11 ?k11 ?a12 ?l12 ?c12 ?k12 ?a13 ?l13 ?c13 ?k13 ?a14 ?l14 ?c14 ?k14 ?a15 ?l15 ?c15 ?k15 ?a16 ?l16 ?c16 ?k16 ?a17 ?l17 ?c17 ?k17 ?a18 ?l18 ?c18 ?k18 ?a19 ?l19 ?c19 ?k19 ?a20 ?l20 ?c20 ?k20 ?a21 ?l21 ?c21 ?k21 ?a22 ?l22 ?c22 ?k22 ?a23 ?l23 ?c23 ?k23 ?a24 ?l24 ?c24 ?k24 ?a25 ?l25 ?c25 ?k25 ?a26 ?l26 ?c26 ?k26 ?a27 ?l27 ?c27 ?k27 ?z0 ?z1 ?z2 ?z3 ?z4 ?z5 ?z6 ?z7 ?z8 ?z9 ?aaZ ?llZ ?aaO ?llO ?aaM
    (case a0 => k_is)
    (case l0 => k_is)
    (case c0 => k_is)
    (case k0 => k_is)
    (case a1 => k_is)
    (case l1 => k_is)
    (case c1 => k_is)
    (case k1 => k_is)
    (case a2 => k_is)
    (case l2 => k_is)
    (case c2 => k_is)
    (case k2 => k_is)
    (case a3 => k_is)
    (case l3 => k_is)
    (case c3 => k_is)
    (case k3 => k_is)
    (case a4 => k_is)
    (case l4 => k_is)
    (case c4 => k_is)
    (case k4 => k_is)
    (case a5 => k_is)
    (case l5 => k_is)
    (case c5 => k_is)
    (case k5 => k_is)
    (case a6 => k_is)
    (case l6 => k_is)
    (case c6 => k_is)
    (case k6 => k_is)
    (case a7 => k_is)
    (case l7 => k_is)
    (case c7 => k_is)
    (case k7 => k_is)
    (case a8 => k_is)
    (case l8 => k_is)
    (case c8 => k_is)
    (case k8 => k_is)
    (case a9 => k_is)
    (case l9 => k_is)
    (case c9 => k_is)
    (case k9 => k_is)
    (case a10 => k_is)
    (case l10 => k_is)
    (case c10 => k_is)
    (case k10 => k_is)
    (case a11 => k_is)
    (case l11 => k_is)
    (case c11 => k_is)
    (case k11 => k_is)
    (case a12 => k_is)
    (case l12 => k_is)
    (case c12 => k_is)
    (case k12 => k_is)
    (case a13 => k_is)
    (case l13 => k_is)
    (case c13 => k_is)
    (case k13 => k_is)
    (case a14 => k_is)
    (case l14 => k_is)
    (case c14 => k_is)
    (case k14 => k_is)
    (case a15 => k_is)
    (case l15 => k_is)
    (case c15 => k_is)
    (case k15 => k_is)
    (case a16 => k_is)
    (case l16 => k_is)
    (case c16 => k_is)
    (case k16 => k_is)
    (case a17 => k_is)
    (case l17 => k_is)
    (case c17 => k_is)
    (case k17 => k_is)
    (case a18 => k_is)
    (case l18 => k_is)
    (case c18 => k_is)
    (case k18 => k_is)
    (case a19 => k_is)
    (case l19 => k_is)
    (case c19 => k_is)
    (case k19 => k_is)
    (case a20 => k_is)
    (case l20 => k_is)
    (case c20 => k_is)
    (case k20 => k_is)
    (case a21 => k_is)
    (case l21 => k_is)
    (case c21 => k_is)
    (case k21 => k_is)
    (case a22 => k_is)
    (case l22 => k_is)
    (case c22 => k_is)
    (case k22 => k_is)
    (case a23 => k_is)
    (case l23 => k_is)
    (case c23 => k_is)
    (case k23 => k_is)
    (case a24 => k_is)
    (case l24 => k_is)
    (case c24 => k_is)
    (case k24 => k_is)
    (case a25 => k_is)
    (case l25 => k_is)
    (case c25 => k_is)
    (case k25 => k_is)
    (case a26 => k_is)
    (case l26 => k_is)
    (case c26 => k_is)
    (case k26 => k_is)
    (case a27 => k_is)
    (case l27 => k_is)
    (case c27 => k_is)
    (case k27 => k_is)
    (case z0 => k_is)
    (case z1 => k_is)
    (case z2 => k_is)
    (case z3 => k_is)
    (case z4 => k_is)
    (case z5 => k_is)
    (case z6 => k_is)
    (case z7 => k_is)
    (case z8 => k_is)
    (case z9 => k_is)
    (case aaZ => k_is)
    (case llZ => k_is)
    (case aaO => k_is)
    (case llO => k_is)
    (case aaM => k_is)
