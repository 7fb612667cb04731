import PyProof.Rows.All
import Wide.All
import OpenK.AllK
import Wide.FinOn
import HandS.Base
import HandS.Call
import HandS.List
import HandS.Comp
import HandS.Ends
import HandS.Dict
import HandS.Iter
import HandS.Words
import HandS.Evl
import HandS.Exc
import HandS.ExcOwn
import HandS.TryOnly
import HandS.WordsList
import HandS.WordsDict
import HandS.WordsExc
import HandS.IsInst
import HandS.EndBits
import HandS.Flow
import PyProof.LongRange
import HandS.ExcCtx
import HandS.ExcIs
import HandS.Hot
import HandS.HotCalls
import PySem.Challenge.RW_sumsapart_k01_whole_sums
set_option Elab.async false
set_option linter.all false
set_option maxRecDepth 100000
set_option maxHeartbeats 4000000
namespace NT
/-- p divides a - b -/
def C (p a b : Int) : Prop := p ∣ a - b
theorem C.refl (p a : Int) : C p a a := ⟨0, by grind⟩
theorem C.symm {p a b : Int} (h : C p a b) : C p b a := by obtain ⟨k, hk⟩ := h; exact ⟨-k, by grind⟩
theorem C.trans {p a b c : Int} (h : C p a b) (g : C p b c) : C p a c := by obtain ⟨k, hk⟩ := h; obtain ⟨l, hl⟩ := g; exact ⟨k + l, by grind⟩
theorem C.add {p a b c d : Int} (h : C p a b) (g : C p c d) : C p (a + c) (b + d) := by obtain ⟨k, hk⟩ := h; obtain ⟨l, hl⟩ := g; exact ⟨k + l, by grind⟩
theorem C.sub {p a b c d : Int} (h : C p a b) (g : C p c d) : C p (a - c) (b - d) := by obtain ⟨k, hk⟩ := h; obtain ⟨l, hl⟩ := g; exact ⟨k - l, by grind⟩
theorem C.mul {p a b c d : Int} (h : C p a b) (g : C p c d) : C p (a * c) (b * d) := by obtain ⟨k, hk⟩ := h; obtain ⟨l, hl⟩ := g; exact ⟨k * c + b * l, by grind⟩
theorem C.neg {p a b : Int} (h : C p a b) : C p (-a) (-b) := by obtain ⟨k, hk⟩ := h; exact ⟨-k, by grind⟩
theorem C.pow {p a b : Int} (h : C p a b) (n : Nat) : C p (a ^ n) (b ^ n) := by
  induction n with
  | zero => rw [Int.pow_zero, Int.pow_zero]; exact C.refl _ _
  | succ n ih => rw [Int.pow_succ, Int.pow_succ]; exact C.mul ih h
theorem C.of_eq {p a b : Int} (h : a = b) : C p a b := h ▸ C.refl _ _
theorem C.mod (p a : Int) : C p (a % p) a := by
  refine ⟨-(a / p), ?_⟩
  have := Int.mul_ediv_add_emod a p
  grind
theorem C.emod {p a b : Int} (h : C p a b) : a % p = b % p := Int.emod_eq_emod_iff_emod_sub_eq_zero.mpr (Int.emod_eq_zero_of_dvd h)
theorem C.of_emod {p a b : Int} (h : a % p = b % p) : C p a b := Int.dvd_of_emod_eq_zero (Int.emod_eq_emod_iff_emod_sub_eq_zero.mp h)
theorem C.eq {p a b : Int} (h : C p a b) (a0 : 0 ≤ a) (a1 : a < p) (b0 : 0 ≤ b) (b1 : b < p) : a = b := by
  have := h.emod
  rwa [Int.emod_eq_of_lt a0 a1, Int.emod_eq_of_lt b0 b1] at this
theorem C.zero {p a : Int} : C p a 0 ↔ p ∣ a := by unfold C; rw [Int.sub_zero]

/-- a prime, by trial -/
def Pr (p : Int) : Prop := 2 ≤ p ∧ ∀ d : Int, 2 ≤ d → d * d ≤ p → ¬ d ∣ p
theorem Pr.div {p : Int} (hp : Pr p) {d : Int} (h0 : 0 < d) (h : d ∣ p) : d = 1 ∨ d = p := by
  obtain ⟨h2, ht⟩ := hp
  obtain ⟨e, he⟩ := h
  have e0 : 0 < e := by
    rcases Int.lt_or_le 0 e with h | h
    · exact h
    · have : d * e ≤ 0 := Int.mul_nonpos_of_nonneg_of_nonpos (by omega) h
      omega
  rcases Int.lt_or_le 1 d with hd | hd
  · rcases Int.lt_or_le 1 e with h1 | h1
    · exfalso
      rcases Int.lt_or_le e d with hl | hl
      · refine ht e (by omega) ?_ ⟨d, by grind⟩
        have : e * e ≤ d * e := Int.mul_le_mul_of_nonneg_right (by omega) (by omega)
        omega
      · refine ht d (by omega) ?_ ⟨e, he⟩
        have : d * d ≤ d * e := Int.mul_le_mul_of_nonneg_left hl (by omega)
        omega
    · have e1 : e = 1 := by omega
      subst e1
      right; omega
  · left; omega
theorem Pr.euclid {p a b : Int} (hp : Pr p) (h : p ∣ a * b) : p ∣ a ∨ p ∣ b := by
  have hg : ((Int.gcd p a : Nat) : Int) ∣ p := Int.gcd_dvd_left p a
  have hg2 : ((Int.gcd p a : Nat) : Int) ∣ a := Int.gcd_dvd_right p a
  have g0 : 0 < ((Int.gcd p a : Nat) : Int) := by
    have : 0 < Int.gcd p a := Int.gcd_pos_of_ne_zero_left a (by have := hp.1; omega)
    omega
  rcases hp.div g0 hg with e | e
  · right
    have e1 : Nat.Coprime p.natAbs a.natAbs := by
      show Int.gcd p a = 1
      omega
    have h2 := Int.natAbs_dvd_natAbs.mpr h
    rw [Int.natAbs_mul] at h2
    exact Int.natAbs_dvd_natAbs.mp (e1.dvd_of_dvd_mul_left h2)
  · left
    rw [e] at hg2
    exact hg2
theorem Pr.pow {p a : Int} (hp : Pr p) {n : Nat} (h : p ∣ a ^ n) : p ∣ a := by
  induction n with
  | zero =>
    exfalso
    rw [Int.pow_zero] at h
    have := Int.le_of_dvd (by decide) h
    have := hp.1
    omega
  | succ n ih =>
    rw [Int.pow_succ] at h
    rcases hp.euclid h with h | h
    · exact ih h
    · exact h
theorem Pr.cancel {p a b c : Int} (hp : Pr p) (h : C p (a * b) (a * c)) (ha : ¬ p ∣ a) : C p b c := by
  have : p ∣ a * (b - c) := by
    have h' : p ∣ a * b - a * c := h
    rwa [Int.mul_sub]
  rcases hp.euclid this with h | h
  · exact absurd h ha
  · exact h
theorem small_nd {p a : Int} (h0 : 0 < a) (h1 : a < p) : ¬ p ∣ a := fun h => by
  have := Int.le_of_dvd h0 h
  omega
/-! ### Fermat -/
def fac : Nat → Int
  | 0 => 1
  | n + 1 => ((n : Int) + 1) * fac n
def prod (l : List Int) : Int := l.foldr (· * ·) 1
theorem prod_perm {l m : List Int} (h : l.Perm m) : prod l = prod m := by
  induction h with
  | nil => rfl
  | cons x _ ih => simp only [prod, List.foldr_cons] at *; rw [ih]
  | swap x y l => simp only [prod, List.foldr_cons]; grind
  | trans _ _ a b => exact a.trans b
theorem len_le : ∀ (n : Nat) (l : List Int), l.Nodup → (∀ x ∈ l, 1 ≤ x ∧ x ≤ (n : Int)) → l.length ≤ n := by
  intro n
  induction n with
  | zero =>
    intro l _ h
    cases l with
    | nil => exact Nat.le_refl _
    | cons x r => have := h x (List.mem_cons_self); omega
  | succ n ih =>
    intro l hn h
    have h2 := ih (l.erase ((n : Int) + 1)) (hn.erase _) fun x hx => by
      have h3 := (List.Nodup.mem_erase_iff hn).mp hx
      have h4 := h x h3.2
      have h5 := h3.1
      omega
    have h3 : l.length ≤ (l.erase ((n : Int) + 1)).length + 1 := by
      rw [List.length_erase]
      split <;> omega
    omega
theorem prod_fac : ∀ (n : Nat) (l : List Int), l.Nodup → (∀ x ∈ l, 1 ≤ x ∧ x ≤ (n : Int)) → l.length = n → prod l = fac n := by
  intro n
  induction n with
  | zero =>
    intro l _ _ h
    cases l with
    | nil => rfl
    | cons x r => cases h
  | succ n ih =>
    intro l hn h hl
    have hm : ((n : Int) + 1) ∈ l := by
      by_cases hm : ((n : Int) + 1) ∈ l
      · exact hm
      · exfalso
        have := len_le n l hn fun x hx => by
          have h4 := h x hx
          have h5 : x ≠ (n : Int) + 1 := fun e => hm (e ▸ hx)
          omega
        omega
    have hp := List.perm_cons_erase hm
    rw [prod_perm hp]
    have h2 := ih (l.erase ((n : Int) + 1)) (hn.erase _) (fun x hx => by
      have h3 := (List.Nodup.mem_erase_iff hn).mp hx
      have h4 := h x h3.2
      have h5 := h3.1
      omega) (by rw [List.length_erase_of_mem hm]; omega)
    show ((n : Int) + 1) * prod (l.erase ((n : Int) + 1)) = ((n : Int) + 1) * fac n
    rw [h2]
/-- 1 .. n -/
def one : Nat → List Int
  | 0 => []
  | n + 1 => ((n : Int) + 1) :: one n
theorem one_mem : ∀ (n : Nat) (x : Int), x ∈ one n ↔ 1 ≤ x ∧ x ≤ (n : Int) := by
  intro n
  induction n with
  | zero => intro x; simp [one]; omega
  | succ n ih => intro x; simp only [one, List.mem_cons, ih]; omega
theorem one_len (n : Nat) : (one n).length = n := by
  induction n with
  | zero => rfl
  | succ n ih => simp only [one, List.length_cons, ih]
theorem one_nodup (n : Nat) : (one n).Nodup := by
  induction n with
  | zero => exact List.nodup_nil
  | succ n ih =>
    refine List.nodup_cons.mpr ⟨fun h => ?_, ih⟩
    have := (one_mem n _).mp h
    omega
theorem prod_one (n : Nat) : prod (one n) = fac n := by
  induction n with
  | zero => rfl
  | succ n ih => show ((n : Int) + 1) * prod (one n) = _; rw [ih]; rfl
theorem prod_map (p a : Int) : ∀ l : List Int, C p (prod (l.map fun x => a * x % p)) (a ^ l.length * prod l)
  | [] => C.of_eq (by simp [prod])
  | x :: l => by
    have ih := prod_map p a l
    have h := C.mul (C.mod p (a * x)) ih
    refine C.trans (show C p (prod ((x :: l).map fun x => a * x % p)) _ from h) (C.of_eq ?_)
    show a * x * (a ^ l.length * prod l) = a ^ (l.length + 1) * (x * prod l)
    rw [Int.pow_succ]
    grind
theorem fac_nd {p : Int} (hp : Pr p) : ∀ n : Nat, (n : Int) < p → ¬ p ∣ fac n
  | 0, _ => fun h => by
    have := Int.le_of_dvd (by decide) (show p ∣ 1 from h)
    have := hp.1
    omega
  | n + 1, hn => fun h => by
    rcases hp.euclid h with h | h
    · exact small_nd (by omega) (by omega) h
    · exact fac_nd hp n (by omega) h
theorem fermat {p a : Int} (hp : Pr p) (ha : ¬ p ∣ a) : C p (a ^ (p - 1).toNat) 1 := by
  have h2 := hp.1
  have hn : (((p - 1).toNat : Nat) : Int) = p - 1 := by omega
  have hl : ((one (p - 1).toNat).map fun x => a * x % p).length = (p - 1).toNat := by rw [List.length_map, one_len]
  have hmem : ∀ x ∈ (one (p - 1).toNat).map (fun x => a * x % p), 1 ≤ x ∧ x ≤ (((p - 1).toNat : Nat) : Int) := fun x hx => by
    obtain ⟨y, hy, rfl⟩ := List.mem_map.mp hx
    have hy2 := (one_mem _ _).mp hy
    have m0 := Int.emod_nonneg (a * y) (show p ≠ 0 by omega)
    have m1 := Int.emod_lt_of_pos (a * y) (show 0 < p by omega)
    have : a * y % p ≠ 0 := fun e => by
      rcases hp.euclid (Int.dvd_of_emod_eq_zero e) with h | h
      · exact ha h
      · exact small_nd (by omega) (by omega) h
    omega
  have hnd : ((one (p - 1).toNat).map fun x => a * x % p).Nodup := by
    refine List.pairwise_map.mpr ?_
    refine List.Pairwise.imp_of_mem (R := fun x y => x ≠ y) ?_ (one_nodup _)
    intro x y hx hy hne e
    have hx2 := (one_mem _ _).mp hx
    have hy2 := (one_mem _ _).mp hy
    exact hne ((hp.cancel (C.of_emod e) ha).eq (by omega) (by omega) (by omega) (by omega))
  have h1 := prod_fac _ _ hnd hmem hl
  have h3 := prod_map p a (one (p - 1).toNat)
  rw [h1, prod_one, one_len] at h3
  have h4 : C p (fac (p - 1).toNat * 1) (fac (p - 1).toNat * a ^ (p - 1).toNat) := by
    rw [Int.mul_one, Int.mul_comm]; exact h3
  exact (hp.cancel h4 (fac_nd hp _ (by omega))).symm
/-! ### roots of a monic polynomial -/
def evm : List Int → Int → Int
  | [], _ => 1
  | c :: cs, x => c + x * evm cs x
def qu (a : Int) : List Int → List Int
  | [] => []
  | [_] => []
  | _ :: d :: cs => evm (d :: cs) a :: qu a (d :: cs)
theorem qu_len (a : Int) : ∀ cs : List Int, (qu a cs).length = cs.length - 1
  | [] => rfl
  | [_] => rfl
  | _ :: d :: cs => by
    have := qu_len a (d :: cs)
    simp only [qu, List.length_cons] at *
    omega
theorem qu_eq (a x : Int) : ∀ cs : List Int, cs ≠ [] → evm cs x - evm cs a = (x - a) * evm (qu a cs) x
  | [], h => absurd rfl h
  | [c], _ => by simp only [evm, qu]; grind
  | c :: d :: cs, _ => by
    have ih := qu_eq a x (d :: cs) (by simp)
    have e1 : evm (c :: d :: cs) x = c + x * evm (d :: cs) x := rfl
    have e2 : evm (c :: d :: cs) a = c + a * evm (d :: cs) a := rfl
    have e3 : evm (qu a (c :: d :: cs)) x = evm (d :: cs) a + x * evm (qu a (d :: cs)) x := rfl
    rw [e1, e2, e3]
    grind
theorem roots {p : Int} (hp : Pr p) (s : Int) : ∀ (m : Nat) (cs : List Int), cs.length = m → (m : Int) < p → ¬ ∀ i : Nat, i ≤ m → p ∣ evm cs (s + i) := by
  intro m
  induction m with
  | zero =>
    intro cs hc _ h
    cases cs with
    | nil =>
      have := Int.le_of_dvd (by decide) (show p ∣ 1 from h 0 (Nat.le_refl _))
      have := hp.1
      omega
    | cons _ _ => cases hc
  | succ m ih =>
    intro cs hc hm h
    have hne : cs ≠ [] := fun e => by rw [e] at hc; cases hc
    refine ih (qu (s + ((m + 1 : Nat) : Int)) cs) (by rw [qu_len]; omega) (by omega) fun i hi => ?_
    have h1 := h i (by omega)
    have h2 := h (m + 1) (Nat.le_refl _)
    have h3 := qu_eq (s + ((m + 1 : Nat) : Int)) (s + (i : Int)) cs hne
    have h4 : p ∣ (s + (i : Int) - (s + ((m + 1 : Nat) : Int))) * evm (qu (s + ((m + 1 : Nat) : Int)) cs) (s + (i : Int)) := by
      rw [← h3]; exact Int.dvd_sub h1 h2
    rcases hp.euclid h4 with h5 | h5
    · exfalso
      have h6 : p ∣ ((m + 1 : Nat) : Int) - (i : Int) := by
        obtain ⟨k, hk⟩ := h5
        exact ⟨-k, by grind⟩
      exact small_nd (by omega) (by omega) h6
    · exact h5
theorem evm_rep (x : Int) : ∀ n : Nat, evm (List.replicate n 0) x = x ^ n
  | 0 => by rw [Int.pow_zero]; rfl
  | n + 1 => by
    show 0 + x * evm (List.replicate n 0) x = x ^ (n + 1)
    rw [evm_rep x n, Int.pow_succ]; grind
/-- not all of 1 .. n + 1 have 1 as their n-th power -/
theorem strange {p : Int} (hp : Pr p) (n : Nat) (hn : 0 < n) (h1 : (n : Int) < p) : ∃ z : Int, 2 ≤ z ∧ z ≤ (n : Int) + 1 ∧ ¬ C p (z ^ n) 1 := by
  have h := roots hp 1 n (-1 :: List.replicate (n - 1) 0) (by simp; omega) h1
  obtain ⟨i, hi⟩ := Classical.not_forall.mp h
  obtain ⟨hi, h2⟩ := Classical.not_imp.mp hi
  have e : evm (-1 :: List.replicate (n - 1) 0) (1 + (i : Int)) = (1 + (i : Int)) ^ n - 1 := by
    show -1 + (1 + (i : Int)) * evm (List.replicate (n - 1) 0) (1 + (i : Int)) = _
    rw [evm_rep]
    obtain ⟨k, rfl⟩ : ∃ k, n = k + 1 := ⟨n - 1, by omega⟩
    rw [show k + 1 - 1 = k by omega, Int.pow_succ]; grind
  rw [e] at h2
  refine ⟨1 + (i : Int), ?_, by omega, h2⟩
  rcases Nat.eq_zero_or_pos i with h0 | h0
  · exfalso
    rw [h0] at h2
    apply h2
    have : (1 + ((0 : Nat) : Int)) ^ n - 1 = 0 := by
      show (1 : Int) ^ n - 1 = 0
      rw [Int.one_pow]; rfl
    rw [this]
    exact Int.dvd_zero _
  · omega
theorem half_pow {p z : Int} (hp : Pr p) (h : C p (z * z) 1) : C p z 1 ∨ C p z (-1) := by
  have : p ∣ (z - 1) * (z + 1) := by
    obtain ⟨k, hk⟩ := h
    exact ⟨k, by grind⟩
  rcases hp.euclid this with h | h
  · exact .inl h
  · refine .inr ?_
    obtain ⟨k, hk⟩ := h
    exact ⟨k, by grind⟩
end NT
namespace NT
theorem mod1 {p a : Int} (h : 2 ≤ p) : a % p = 1 ↔ C p a 1 := by
  refine ⟨fun e => C.of_emod (by rw [e, Int.emod_eq_of_lt (by omega) (by omega)]), fun c => ?_⟩
  have := c.emod
  rwa [Int.emod_eq_of_lt (a := 1) (by omega) (by omega)] at this
theorem Pr.odd {p : Int} (hp : Pr p) (h3 : 3 ≤ p) : p % 2 = 1 := by
  rcases Int.lt_or_le p 4 with h | h
  · omega
  · have := hp.2 2 (by omega) (by omega)
    omega
def hf (p : Int) : Nat := ((p - 1) / 2).toNat
theorem hf_two {p : Int} (hp : Pr p) (h3 : 3 ≤ p) : (p - 1).toNat = hf p + hf p := by
  have := hp.odd h3
  unfold hf
  omega
theorem hf_pos {p : Int} (h3 : 3 ≤ p) : 0 < hf p := by unfold hf; omega
theorem half_sq {p a : Int} (hp : Pr p) (h3 : 3 ≤ p) (ha : ¬ p ∣ a) : C p (a ^ hf p * a ^ hf p) 1 := by
  have := fermat hp ha
  rwa [hf_two hp h3, Int.pow_add] at this
theorem euler_pm {p a : Int} (hp : Pr p) (h3 : 3 ≤ p) (ha : ¬ p ∣ a) : C p (a ^ hf p) 1 ∨ C p (a ^ hf p) (-1) := half_pow hp (half_sq hp h3 ha)
theorem euler_sq {p n x : Int} (hp : Pr p) (h3 : 3 ≤ p) (hn : ¬ p ∣ n) (h : C p (x * x) n) : C p (n ^ hf p) 1 := by
  have hx : ¬ p ∣ x := fun hx => hn (by
    have h1 : p ∣ x * x := Int.dvd_mul_of_dvd_left hx
    have h2 : p ∣ x * x - n := h
    have := Int.dvd_sub h1 h2
    rwa [show x * x - (x * x - n) = n by omega] at this)
  refine (C.pow h.symm (hf p)).trans ?_
  rw [Int.mul_pow]
  exact half_sq hp h3 hx
theorem strange_is {p : Int} (hp : Pr p) (h3 : 3 ≤ p) : ∃ z : Int, 2 ≤ z ∧ z < p ∧ ¬ C p (z ^ hf p) 1 := by
  obtain ⟨z, h1, h2, h4⟩ := strange hp (hf p) (hf_pos h3) (by unfold hf; omega)
  refine ⟨z, h1, ?_, h4⟩
  have := hp.odd h3
  unfold hf at h2
  omega
theorem not_both {p a : Int} (h3 : 3 ≤ p) (h1 : C p a 1) (h2 : C p a (-1)) : False := by
  have h : p ∣ 1 - (-1) := h1.symm.trans h2
  have := Int.le_of_dvd (by decide) h
  omega
/-- the state of the loop that finds a root -/
structure TS (p n : Int) (t : Nat) (found left step : Int) : Prop where
  t1 : 1 ≤ t
  f : C p (found * found) (n * left)
  l : C p (left ^ 2 ^ (t - 1)) 1
  s : C p (step ^ 2 ^ (t - 1)) (-1)
theorem TS.start {p n z odd : Int} {t : Nat} (hp : Pr p) (h3 : 3 ≤ p) (t1 : 1 ≤ t) (ho : odd % 2 = 1) (o0 : 0 < odd) (hot : odd * 2 ^ t = p - 1) (hn : C p (n ^ hf p) 1) (hz : ¬ p ∣ z) (hz1 : ¬ C p (z ^ hf p) 1) :
    TS p n t (n ^ ((odd + 1) / 2).toNat % p) (n ^ odd.toNat % p) (z ^ odd.toNat % p) := by
  have e : odd.toNat * 2 ^ (t - 1) = hf p := by
    obtain ⟨k, rfl⟩ : ∃ k, t = k + 1 := ⟨t - 1, by omega⟩
    rw [Int.pow_succ] at hot
    have h2 : (p - 1) / 2 = odd * 2 ^ k := by
      have : p - 1 = odd * 2 ^ k * 2 := by rw [← hot, Int.mul_assoc]
      omega
    unfold hf
    rw [h2, Nat.add_sub_cancel]
    have h4 : ((odd.toNat * 2 ^ k : Nat) : Int) = odd * 2 ^ k := by
      rw [Int.natCast_mul, Int.natCast_pow, Int.toNat_of_nonneg (by omega)]
      rfl
    omega
  refine ⟨t1, ?_, ?_, ?_⟩
  · refine (C.mul (C.mod p _) (C.mod p _)).trans ?_
    refine C.trans ?_ (C.mul (C.refl p n) (C.mod p (n ^ odd.toNat)).symm)
    rw [← Int.pow_add, show ((odd + 1) / 2).toNat + ((odd + 1) / 2).toNat = odd.toNat + 1 by omega, Int.pow_succ, Int.mul_comm]
    exact C.refl _ _
  · refine (C.pow (C.mod p _) _).trans ?_
    rw [← Int.pow_mul, e]
    exact hn
  · refine (C.pow (C.mod p _) _).trans ?_
    rw [← Int.pow_mul, e]
    rcases euler_pm hp h3 hz with h | h
    · exact absurd h hz1
    · exact h
theorem TS.turn {p n found left step : Int} {t k : Nat} (x : TS p n t found left step) (hp : Pr p) (h3 : 3 ≤ p) (k1 : 1 ≤ k) (k2 : k ≤ t - 1) (hk : C p (left ^ 2 ^ k) 1) (hk1 : ¬ C p (left ^ 2 ^ (k - 1)) 1) {part : Int} (hpt : part = step ^ 2 ^ (t - k - 1) % p) :
    TS p n k (found * part % p) (left * (part * part % p) % p) (part * part % p) := by
  have hk2 : C p (left ^ 2 ^ (k - 1)) (-1) := by
    rcases half_pow hp (z := left ^ 2 ^ (k - 1)) (by
      rw [← Int.pow_add, show 2 ^ (k - 1) + 2 ^ (k - 1) = 2 ^ k by
        obtain ⟨j, rfl⟩ : ∃ j, k = j + 1 := ⟨k - 1, by omega⟩
        rw [Nat.add_sub_cancel, Nat.pow_succ]; omega]
      exact hk) with h | h
    · exact absurd h hk1
    · exact h
  have hpp : C p part (step ^ 2 ^ (t - k - 1)) := by rw [hpt]; exact C.mod p _
  have hs : C p ((part * part % p) ^ 2 ^ (k - 1)) (-1) := by
    refine (C.pow (C.mod p _) _).trans ?_
    refine (C.pow (C.mul hpp hpp) _).trans ?_
    rw [← Int.pow_add, ← Int.pow_mul, show (2 ^ (t - k - 1) + 2 ^ (t - k - 1)) * 2 ^ (k - 1) = 2 ^ (t - 1) by
      rw [show 2 ^ (t - k - 1) + 2 ^ (t - k - 1) = 2 ^ (t - k - 1 + 1) by rw [Nat.pow_succ]; omega, ← Nat.pow_add]
      congr 1; omega]
    exact x.s
  refine ⟨k1, ?_, ?_, hs⟩
  · refine (C.mul (C.mod p _) (C.mod p _)).trans ?_
    have h1 : C p (found * part * (found * part)) (n * left * (part * part)) := by
      refine C.trans (C.of_eq (by grind)) (C.mul x.f (C.refl p (part * part)))
    refine h1.trans ?_
    refine C.trans ?_ (C.mul (C.refl p n) ((C.mod p _).trans (C.mul (C.refl p left) (C.mod p _))).symm)
    exact C.of_eq (by grind)
  · refine (C.pow (C.mod p _) _).trans ?_
    rw [Int.mul_pow]
    exact C.mul hk2 hs
theorem TS.done {p n found step : Int} {t : Nat} (x : TS p n t found 1 step) : C p (found * found) n := by
  have := x.f
  rwa [Int.mul_one] at this
end NT
/-! marks of a prime: sums and differences, in plain words -/
namespace NT
def mk (p n : Int) : Int := 2 * p * n + n * n % p
theorem sq_b {p n : Int} (h : 0 < p) : 0 ≤ n * n % p ∧ n * n % p < p := ⟨Int.emod_nonneg _ (by omega), Int.emod_lt_of_pos _ h⟩
/-- q times 2 p, and a rest: the floor and what is left -/
theorem fl {p q r x : Int} (h : x = 2 * p * q + r) (r0 : 0 ≤ r) (r1 : r < 2 * p) : x / (2 * p) = q ∧ x % (2 * p) = r := by
  subst h
  have hp : 0 < 2 * p := by omega
  constructor
  · rw [Int.add_comm, Int.add_mul_ediv_left _ _ (by omega), Int.ediv_eq_zero_of_lt r0 r1, Int.zero_add]
  · rw [Int.add_comm, Int.add_mul_emod_self_left, Int.emod_eq_of_lt r0 r1]
theorem mk_div {p n : Int} (h : 0 < p) : mk p n / (2 * p) = n := (fl rfl (sq_b h).1 (by have := (sq_b (n := n) h).2; omega)).1
/-- an inverse, by a power -/
theorem inv_pow {p a : Int} (hp : Pr p) (h3 : 3 ≤ p) (ha : ¬ p ∣ a) : C p (a * a ^ (p - 2).toNat) 1 := by
  have := fermat hp ha
  rwa [show (p - 1).toNat = (p - 2).toNat + 1 by omega, Int.pow_succ, Int.mul_comm] at this
theorem two_nd {p : Int} (h3 : 3 ≤ p) : ¬ p ∣ 2 := small_nd (by omega) (by omega)
theorem half {p a x : Int} (hp : Pr p) (h3 : 3 ≤ p) (h : C p a (2 * x)) : C p (a * (2 ^ (p - 2).toNat % p) % p) x := by
  refine (C.mod p _).trans ?_
  refine (C.mul h (C.mod p _)).trans ?_
  refine C.trans (C.of_eq (by grind)) ((C.mul (C.refl p x) (inv_pow hp h3 (two_nd h3))).trans (C.of_eq (by grind)))
/-! ### differences -/
def PairD (p d a b : Int) : Prop := 0 ≤ a ∧ a < b ∧ b < p ∧ mk p b - mk p a = d
theorem pairD_steps {p d a b : Int} (h3 : 3 ≤ p) (h : PairD p d a b) : (d + p) / (2 * p) = b - a := by
  obtain ⟨h0, h1, h2, e⟩ := h
  have x := sq_b (n := a) (show 0 < p by omega)
  have y := sq_b (n := b) (show 0 < p by omega)
  refine (fl (p := p) (q := b - a) (r := b * b % p - a * a % p + p) ?_ (by omega) (by omega)).1
  rw [← e]
  unfold mk
  grind
theorem pairD_low {p d a b : Int} (hp : Pr p) (h3 : 3 ≤ p) (h : PairD p d a b) {s both : Int} (hs : s = b - a) (hb : both = d * (s ^ (p - 2).toNat % p) % p) : (both - s) * (2 ^ (p - 2).toNat % p) % p = a := by
  obtain ⟨h0, h1, h2, e⟩ := h
  have hsd : ¬ p ∣ s := small_nd (by omega) (by omega)
  have h4 : C p d (s * (a + b)) := by
    rw [← e, hs]
    unfold mk
    have hb2 : C p (2 * p * b + b * b % p) (b * b) := by
      refine (C.add ⟨2 * b, by grind⟩ (C.mod p (b * b))).trans (C.of_eq (Int.zero_add _)) 
    have ha2 : C p (2 * p * a + a * a % p) (a * a) := by
      refine (C.add ⟨2 * a, by grind⟩ (C.mod p (a * a))).trans (C.of_eq (Int.zero_add _)) 
    exact (C.sub hb2 ha2).trans (C.of_eq (by grind))
  have h5 : C p both (a + b) := by
    rw [hb]
    refine (C.mod p _).trans ((C.mul h4 (C.mod p _)).trans ?_)
    exact C.trans (C.of_eq (by grind)) ((C.mul (C.refl p (a + b)) (inv_pow hp h3 hsd)).trans (C.of_eq (by grind)))
  have h6 : C p (both - s) (2 * a) := (C.sub h5 (C.refl p s)).trans (C.of_eq (by omega))
  exact (half hp h3 h6).eq (Int.emod_nonneg _ (by omega)) (Int.emod_lt_of_pos _ (by omega)) h0 (by omega)
theorem pairD_one {p d a b x y : Int} (hp : Pr p) (h3 : 3 ≤ p) (h : PairD p d a b) (g : PairD p d x y) : a = x ∧ b = y := by
  have s1 := pairD_steps h3 h
  have s2 := pairD_steps h3 g
  have l1 := pairD_low hp h3 h rfl rfl
  have l2 := pairD_low hp h3 g rfl rfl
  rw [show b - a = y - x by omega, l2] at l1
  omega
/-! ### sums -/
def PairS (p s a b : Int) : Prop := 0 ≤ a ∧ a ≤ b ∧ b < p ∧ mk p a + mk p b = s
theorem sum_parts {p s a b : Int} (p0 : 0 < p) (e : mk p a + mk p b = s) : s / (2 * p) = a + b ∧ s % (2 * p) = a * a % p + b * b % p := by
  have x := sq_b (n := a) p0
  have y := sq_b (n := b) p0
  refine fl (p := p) ?_ (by omega) (by omega)
  rw [← e]
  unfold mk
  grind
theorem sum_sq {p a b : Int} : C p (2 * (a * a % p + b * b % p) - (a + b) * (a + b)) ((a - b) * (a - b)) := by
  have h : C p (2 * (a * a % p + b * b % p) - (a + b) * (a + b)) (2 * (a * a + b * b) - (a + b) * (a + b)) :=
    C.sub (C.mul (C.refl p 2) (C.add (C.mod p _) (C.mod p _))) (C.refl p _)
  exact h.trans (C.of_eq (by grind))
theorem root_two {p r x : Int} (hp : Pr p) (h : C p (r * r) (x * x)) : C p r x ∨ C p r (-x) := by
  have : p ∣ (r - x) * (r + x) := by
    obtain ⟨k, hk⟩ := h
    exact ⟨k, by grind⟩
  rcases hp.euclid this with h | h
  · exact .inl h
  · refine .inr ?_
    obtain ⟨k, hk⟩ := h
    exact ⟨k, by grind⟩
/-- the first try hits one of the two -/
theorem sum_one {p a b r : Int} (hp : Pr p) (h3 : 3 ≤ p) (a0 : 0 ≤ a) (a1 : a < p) (b0 : 0 ≤ b) (b1 : b < p) (h : C p (r * r) ((a - b) * (a - b))) :
    (a + b + 1 * r) * (2 ^ (p - 2).toNat % p) % p = a ∨ (a + b + 1 * r) * (2 ^ (p - 2).toNat % p) % p = b := by
  have m0 := Int.emod_nonneg ((a + b + 1 * r) * (2 ^ (p - 2).toNat % p)) (show p ≠ 0 by omega)
  have m1 := Int.emod_lt_of_pos ((a + b + 1 * r) * (2 ^ (p - 2).toNat % p)) (show 0 < p by omega)
  rcases root_two hp h with h | h
  · exact .inl ((half hp h3 (x := a) ((C.add (C.refl p (a + b)) (C.mul (C.refl p 1) h)).trans (C.of_eq (by grind)))).eq m0 m1 a0 a1)
  · exact .inr ((half hp h3 (x := b) ((C.add (C.refl p (a + b)) (C.mul (C.refl p 1) h)).trans (C.of_eq (by grind)))).eq m0 m1 b0 b1)
theorem pairS_one {p s a b x y : Int} (hp : Pr p) (h3 : 3 ≤ p) (h : PairS p s a b) (g : PairS p s x y) : a = x ∧ b = y := by
  obtain ⟨a0, ab, b1, e⟩ := h
  obtain ⟨x0, xy, y1, e'⟩ := g
  have s1 := sum_parts (by omega) e
  have s2 := sum_parts (by omega) e'
  have hs : a + b = x + y := by omega
  have h1 := sum_sq (p := p) (a := a) (b := b)
  have h2 := sum_sq (p := p) (a := x) (b := y)
  rw [← s1.2, hs] at h1
  rw [← s2.2] at h2
  have h4 : C p ((a - b) * (a - b)) ((x - y) * (x - y)) := h1.symm.trans h2
  have o1 := sum_one hp h3 x0 (by omega) (by omega) y1 h4
  have o2 := sum_one hp h3 a0 (by omega) (by omega) b1 (C.refl p ((a - b) * (a - b)))
  rw [← hs] at o1
  omega
end NT
namespace Sa
open PySem PySem.Spec PyProof.Rows L2 Evl
section
variable {X : Cx}
/-! ### products of any ints below 2^50000000 -/
def CMulB (i j : Int) : Prop := i.natAbs.log2 + j.natAbs.log2 < 100000000
theorem CMulB.ok {i j : Int} (h : CMulB i j) : IntMulOk i j := by
  have b : ∀ x : Int, Builtin.Int.intBits x ≤ x.natAbs.log2 + 1 := fun x => by
    unfold Builtin.Int.intBits
    split <;> omega
  have h1 := b i
  have h2 := b j
  have h3 : i.natAbs.log2 + j.natAbs.log2 < 100000000 := h
  have e : bitsLine = 134217728 := by decide
  unfold IntMulOk
  intro z
  rw [Bool.and_eq_true] at z
  have z2 := z.2
  unfold Builtin.Int.intTooBig at z2
  have z3 := of_decide_eq_true z2
  rw [e] at z3
  omega
theorem op_mulB : OpR X (binaryOp .Mult) (rI CMulB fun i j => .int (i * j)) := opI fun _ _ _ _ _ _ _ hc q => mul_int q hc.ok
theorem mulB_small {i j : Int} (h1 : i.natAbs < 2 ^ 64) (h2 : j.natAbs < 2 ^ 64) : CMulB i j := by
  unfold CMulB
  have a : i.natAbs.log2 < 64 ∨ i.natAbs = 0 := by
    rcases Nat.eq_zero_or_pos i.natAbs with h | h
    · exact .inr h
    · exact .inl ((Nat.log2_lt (by omega)).mpr h1)
  have b : j.natAbs.log2 < 64 ∨ j.natAbs = 0 := by
    rcases Nat.eq_zero_or_pos j.natAbs with h | h
    · exact .inr h
    · exact .inl ((Nat.log2_lt (by omega)).mpr h2)
  rcases a with a | a <;> rcases b with b | b <;> (try rw [a]) <;> (try rw [b]) <;> simp <;> omega
end
/-! ### ranges of any ends -/
theorem turn_long {P : Program} {w : World} {K : PySem.W.Frag} {tg : Expr} (it : Addr) (lo : Int) (n : Nat) : Turn P w K tg (Itr lo n) [it] it (fun i h => IsLongIter h it (lo + (i : Nat) * 1) ((n : Int) - (i : Nat)) 1) where
  mem := by simp
  obj := fun i h st b hb => by
    have e : b = it := by simpa using hb
    subst e
    exact ⟨_, st, fun v z => by
      have z' : Data.fields _ = Data.cell v := z
      cases z'⟩
  keep := fun i h h' st k => k it (by simp) _ st
  item := by
    intro X hP hw hK hc i pins s σ H E I hf st hg
    subst hP hw hK
    obtain ⟨f0, f1, f2, f3, f4, f5⟩ := hf it (by simp)
    have W := Walks.longrange (prog := X.prog) (w := X.w) (I.ok.hd hc) it lo 1 n
    refine W.item i s _ _ hg st fun v h' tk hv st' kk => ?_
    obtain ⟨t, rfl⟩ := hv
    have I1 : Inv X pins σ H { s with heap := h', toks := tk } := I.turned (fun b o hb e => kk b o (by simpa using hb) e) f0 f1 f3 f4 f5
    refine ⟨_, rfl, go_of (s := { s with heap := h', toks := tk }) (n := "longrange_iterator") st' rfl rfl (by decide) ⟨.int (lo + i), H, I1, ⟨t, ?_⟩, ⟨rfl, rfl⟩, st', fun b hb => (hf b hb).1⟩⟩
    rw [Int.mul_one]
  done := by
    intro X hP hw hK hc i pins s σ H E I hf st hg
    subst hP hw hK
    obtain ⟨f0, f1, f2, f3, f4, f5⟩ := hf it (by simp)
    exact wpAny_pyNext_long_end (I.ok.hd hc) st (by have : n ≤ i := hg; omega) fun h' eb => ⟨rfl, I.turned (t' := s.toks) (fun b o hb e => eb b o hb e) f0 f1 f3 f4 f5⟩
  self := fun _ _ _ _ _ st h => wpAny_pyIter_longiter st h
theorem range_itB {X : Cx} {tg : Expr} {pins : List (Addr × Obj)} {σ : L2.St} {H : Hp} {s : Shared} {R : It → Hp → Prop} {E : Value → Shared → Prop} {lo hi : Int} {t u v : Tok} {tk : Nat} (I : Inv X pins σ H s)
    (q : R (Itr lo (hi - lo).toNat) H) : wpAny (model X.prog X.w) X.A (pyIter (.ref s.heap.objs.size)) (PIE X pins σ tg R) E { s with heap := s.heap.push { cls := .type "range", data := .fields #[.int lo t, .int hi u, .int 1 v] }, toks := tk } := by
  have I1 : Inv X pins σ H { s with heap := s.heap.push { cls := .type "range", data := .fields #[.int lo t, .int hi u, .int 1 v] }, toks := tk } := I.kept fun b o e => Heap.get?_push_of_some _ e
  have e1 : lo + ((0 : Nat) : Int) * 1 = lo := by simp
  have e2 : (((hi - lo).toNat : Nat) : Int) - ((0 : Nat) : Int) = Builtin.Range.rangeSize lo hi 1 := by rw [rangeSize_one]; split <;> omega
  cases hs : Builtin.Range.small lo hi 1 with
  | true =>
    refine wpAny_pyIter_range (IsRange.new ..) hs ?_
    refine ⟨(s.heap.push { cls := .type "range", data := .fields #[.int lo t, .int hi u, .int 1 v] }).objs.size, [(s.heap.push { cls := .type "range", data := .fields #[.int lo t, .int hi u, .int 1 v] }).objs.size], _, _, H, rfl,
      I1.kept (t' := tk) fun b o e => Heap.get?_push_of_some _ e, turn_range _ lo (hi - lo).toNat, ?_, fun b hb => ?_, q⟩
    · show IsRangeIter _ _ (lo + ((0 : Nat) : Int) * 1) ((((hi - lo).toNat : Nat) : Int) - ((0 : Nat) : Int)) 1
      rw [e1, e2]
      exact Heap.get?_push_size _ rfl
    · have e : b = (s.heap.push { cls := .type "range", data := .fields #[.int lo t, .int hi u, .int 1 v] }).objs.size := by simpa using hb
      subst e
      exact I1.fpOk (Nat.le_refl _) (I1.hok.fresh (Nat.le_refl _))
  | false =>
    refine wpAny_pyIter_longrange (IsRange.new ..) hs ?_
    refine ⟨(s.heap.push { cls := .type "range", data := .fields #[.int lo t, .int hi u, .int 1 v] }).objs.size, [(s.heap.push { cls := .type "range", data := .fields #[.int lo t, .int hi u, .int 1 v] }).objs.size], _, _, H, rfl,
      I1.kept (t' := tk) fun b o e => Heap.get?_push_of_some _ e, turn_long _ lo (hi - lo).toNat, ?_, fun b hb => ?_, q⟩
    · show IsLongIter _ _ (lo + ((0 : Nat) : Int) * 1) ((((hi - lo).toNat : Nat) : Int) - ((0 : Nat) : Int)) 1
      rw [e1, e2]
      exact Heap.get?_push_size _ rfl
    · have e : b = (s.heap.push { cls := .type "range", data := .fields #[.int lo t, .int hi u, .int 1 v] }).objs.size := by simpa using hb
      subst e
      exact I1.fpOk (Nat.le_refl _) (I1.hok.fresh (Nat.le_refl _))
def iR1 (ta : TA) : TI := fun σ H R => ta σ H fun vs H1 => ∃ j : Int, vs = [.int j] ∧ R (Itr 0 j.toNat) H1
def iR2 (ta : TA) : TI := fun σ H R => ta σ H fun vs H1 => ∃ i j : Int, vs = [.int i, .int j] ∧ R (Itr i (j - i).toNat) H1
theorem pi_r1 {X : Cx} {tg : Expr} {a : Expr} {ta : TA} {p pos : Pos} (hg : Gl X "range") (hm : X.mg "range" = none) (ha : PA X [a] ta) (hs : starEach [a] X.env = [(false, eval a X.env)] := by rfl) : PI X tg (.Call (.Name "range" p) [a] [] pos) (iR1 ta) := by
  refine ⟨fun pins s σ H R I h => ?_⟩
  refine Call_ (ld_blt I hg hm boot_range (PyProof.Rows.callWith_type1 (thn (ha.run pos pins s σ H _ I h) fun us s1 ⟨vs, H1, I1, r1, q1⟩ => ?_) hs rfl))
  obtain ⟨j, e, q⟩ := q1
  subst e
  cases r1 with
  | cons r rr =>
    cases rr
    obtain ⟨t, rfl⟩ := r
    exact call_range_1 (range_itB I1 (by simpa using q))
theorem pi_r2 {X : Cx} {tg : Expr} {a b : Expr} {ta : TA} {p pos : Pos} (hg : Gl X "range") (hm : X.mg "range" = none) (ha : PA X [a, b] ta) (hs : starEach [a, b] X.env = [(false, eval a X.env), (false, eval b X.env)] := by rfl) (hs2 : starEach [b] X.env = [(false, eval b X.env)] := by rfl) :
    PI X tg (.Call (.Name "range" p) [a, b] [] pos) (iR2 ta) := by
  refine ⟨fun pins s σ H R I h => ?_⟩
  refine Call_ (ld_blt I hg hm boot_range (PyProof.Rows.callWith_type1 (thn (ha.run pos pins s σ H _ I h) fun us s1 ⟨vs, H1, I1, r1, q1⟩ => ?_) (by rw [hs, hs2]) (by rw [hs2]; rfl)))
  obtain ⟨i, j, e, q⟩ := q1
  subst e
  cases r1 with
  | cons r rr =>
    cases rr with
    | cons r' rr =>
      cases rr
      obtain ⟨t, rfl⟩ := r
      obtain ⟨t', rfl⟩ := r'
      exact call_range_2 (range_itB I1 q)
/-! ### three comparisons in a chain -/
def tChain3 (r r' r'' : R2) (ta tb tc td : TE) : TE := fun σ H Q => ta σ H fun x H1 => tb σ H1 fun y H2 => r x y H2 fun z H3 => ∃ k, z = .bl k ∧
  (if k = true then tc σ H3 fun y' H4 => r' y y' H4 fun z' H5 => ∃ k', z' = .bl k' ∧ (if k' = true then td σ H5 fun w' H6 => r'' y' w' H6 Q else Q (.bl false) H5) else Q (.bl false) H3)
theorem pt_chain3 {X : Cx} {a b c d : Expr} {ta tb tc td : TE} {pos : Pos} {op op' op'' : CmpOp} {r r' r'' : R2} (ho : OpR X (compareOp op) r) (ho' : OpR X (compareOp op') r') (ho'' : OpR X (compareOp op'') r'') (ha : PE X a ta) (hb : PE X b tb) (hc : PE X c tc) (hd : PE X d td)
    (hm : lastMarks [op, op', op''] [b, c, d] = false := by with_unfolding_all rfl) : PT X (.Compare a [op, op', op''] [b, c, d] pos) (tTest (tChain3 r r' r'' ta tb tc td)) := by
  refine ⟨fun pins s σ H Q I h => ?_⟩
  refine isTrue_chain (thn (ha.run pins s σ H _ I h) fun v s1 ⟨x, H1, I1, r1, q1⟩ => test_link (thn (hb.run pins s1 σ H1 _ I1 q1) fun u s2 ⟨y, H2, I2, r2, q2⟩ =>
    thn (ho pins s2 σ H2 x y v u _ I2 r1 r2 q2) fun d s3 ⟨z, H3, I3, r3, k, e, q3⟩ => ?_)) hm
  subst e
  cases r3
  refine wpAny_truthy_bool ?_
  cases k with
  | false =>
    obtain ⟨k', e', q'⟩ := q3
    cases e'
    exact ite_ff ⟨H3, I3, q'⟩
  | true =>
    refine ite_tt (test_link (thn (hc.run pins s3 σ H3 _ I3 q3) fun w' s4 ⟨z', H4, I4, r4, q4⟩ => thn (ho' pins s4 σ H4 y z' u w' _ I4 r2 r4 q4) fun d' s5 ⟨z2, H5, I5, r5, k2, e2, q5⟩ => ?_))
    subst e2
    cases r5
    refine wpAny_truthy_bool ?_
    cases k2 with
    | false =>
      obtain ⟨k', e', q'⟩ := q5
      cases e'
      exact ite_ff ⟨H5, I5, q'⟩
    | true =>
      refine ite_tt (test_last (thn (hd.run pins s5 σ H5 _ I5 q5) fun w6 s6 ⟨z6, H6, I6, r6, q6⟩ => thn (ho'' pins s6 σ H6 z' z6 w' w6 _ I6 r4 r6 q6) fun d7 s7 ⟨z7, H7, I7, r7, k7, e7, q7⟩ => ?_))
      subst e7
      cases r7
      exact wpAny_truthy_bool ⟨H7, I7, q7⟩
/-! ### the rules with the written part named -/
section
variable {X : Cx} {K : PySem.W.Frag}
theorem op_eqDk (hu : X.A.units + 64 < cLine) (hK : X.K = K := by rfl) : OpR X (compareOp .Eq) (rEqD K) := by subst hK; exact op_eqD hu
theorem op_neDk (hu : X.A.units + 64 < cLine) (hK : X.K = K := by rfl) : OpR X (compareOp .NotEq) (rNeD K) := by subst hK; exact op_neD hu
theorem ix_listk (hK : X.K = K := by rfl) : IxR X (rIxL K) := by subst hK; exact ix_list
theorem ix_tupk (hK : X.K = K := by rfl) : IxR X (rIxT K) := by subst hK; exact ix_tup
theorem call_isik (hK : X.K = K := by rfl) : CallR X (.builtin "isinstance") (rIsi K) := by subst hK; exact call_isi
def rLen (K : PySem.W.Frag) : List V → Hp → VK → Prop := fun xs H Q => ∃ p ys, xs = [.ref p] ∧ (SqL K H p ys ∨ SqT K H p ys) ∧ Q (.int ys.length) H
theorem call_lenk (hK : X.K = K := by rfl) : CallR X (.builtin "len") (rLen K) := by subst hK; exact call_len_seq
theorem sl_listk (hK : X.K = K := by rfl) : SlR X (rSlL K) := by subst hK; exact sl_list
theorem cr_sumk (hc : X.calm = true) (hK : X.K = K := by rfl) : CallR X (.builtin "sum") (rSum K) := by subst hK; exact cr_sum hc
theorem cr_allk (hc : X.calm = true) (hK : X.K = K := by rfl) : CallR X (.builtin "all") (rAll K) := by subst hK; exact cr_all hc
theorem cr_anyk (hc : X.calm = true) (hK : X.K = K := by rfl) : CallR X (.builtin "any") (rAny K) := by subst hK; exact cr_any hc
end
/-! ### readings, by rewriting -/
section
variable {K : PySem.W.Frag} {D : Ends} {σ : L2.St} {H : Hp} {Q : VK} {t u : TS} {te ta tb tc : TE} {g : TG} {c d : TT} {v x y : V} {i j : Int} {n : Nat}
theorem rd_seq : tSeq t u D σ H = t { D with nx := u D } σ H := rfl
theorem rd_next : tNext D σ H = D.nx σ H := rfl
theorem rd_brk : tBreak D σ H = D.bk σ H := rfl
theorem rd_asg : tAsg te g D σ H = te σ H fun x H1 => g x σ H1 D.nx := rfl
theorem rd_name {R : L2.St → Hp → Prop} : gName n v σ H R = R (σ.set n (some v)) H := rfl
theorem rd_par {ta : TA} {k l : Nat} : tPar k l ta D σ H = ta σ H fun vs H1 => ∃ v w, vs = [v, w] ∧ D.nx ((σ.set k (some v)).set l (some w)) H1 := rfl
theorem rd_ret : tRet te D σ H = te σ H D.rt := rfl
theorem rd_retN : tRetN D σ H = D.rt .non H := rfl
theorem rd_drop : tDrop te D σ H = te σ H fun _ H1 => D.nx σ H1 := rfl
theorem rd_if : tIfS c t u D σ H = c σ H fun b H1 => if b = true then t D σ H1 else u D σ H1 := rfl
theorem rd_var : tVar n σ H Q = ∃ v, σ[n]? = some (some v) ∧ Q v H := rfl
theorem rd_c : tC v σ H Q = Q v H := rfl
theorem rd_op {r : R2} : tOp r ta tb σ H Q = ta σ H fun x H1 => tb σ H1 fun y H2 => r x y H2 Q := rfl
theorem rd_un {r : V → Hp → VK → Prop} : tUn r ta σ H Q = ta σ H fun x H1 => r x H1 Q := rfl
theorem rd_I0 {f : Int → Int → V} : rI0 f (.int i) (.int j) H Q ↔ Q (f i j) H := ⟨fun ⟨_, _, a, b, q⟩ => by cases a; cases b; exact q, fun q => ⟨i, j, rfl, rfl, q⟩⟩
theorem rd_I {C : Int → Int → Prop} {f : Int → Int → V} : rI C f (.int i) (.int j) H Q ↔ C i j ∧ Q (f i j) H := ⟨fun ⟨_, _, a, b, q⟩ => by cases a; cases b; exact q, fun q => ⟨i, j, rfl, rfl, q⟩⟩
theorem rd_U {f : Int → V} : rU f (.int i) H Q ↔ Q (f i) H := ⟨fun ⟨_, a, q⟩ => by cases a; exact q, fun q => ⟨i, rfl, q⟩⟩
theorem dec_int : decide (V.int i = V.int j) = decide (i = j) := by by_cases h : i = j <;> simp [h]
theorem rd_eqI : rEq (.int i) (.int j) H Q ↔ Q (.bl (decide (i = j))) H := ⟨fun ⟨_, q⟩ => by rw [dec_int] at q; exact q, fun q => ⟨rfl, by rw [dec_int]; exact q⟩⟩
theorem rd_neI : rNe (.int i) (.int j) H Q ↔ Q (.bl (!decide (i = j))) H := ⟨fun ⟨_, q⟩ => by rw [dec_int] at q; exact q, fun q => ⟨rfl, by rw [dec_int]; exact q⟩⟩
theorem rd_test {R : Bool → Hp → Prop} : tTest te σ H R = te σ H fun x H' => ∃ k, x = .bl k ∧ R k H' := rfl
theorem rd_B {R : Bool → Hp → Prop} : tB te σ H R = te σ H fun x H' => ∃ k, x = .bl k ∧ R k H' := rfl
theorem rd_and {R : Bool → Hp → Prop} : tAnd c d σ H R = c σ H fun k H1 => if k = true then d σ H1 R else R false H1 := rfl
theorem rd_or {R : Bool → Hp → Prop} : tOr c d σ H R = c σ H fun k H1 => if k = true then R true H1 else d σ H1 R := rfl
theorem rd_not {R : Bool → Hp → Prop} : tNot c σ H R = c σ H fun k H1 => R (!k) H1 := rfl
theorem rd_andV : tAndV ta tb σ H Q = ta σ H fun x H1 => ∃ c, x = .bl c ∧ if c = true then tb σ H1 Q else Q (.bl false) H1 := rfl
theorem rd_orV : tOrV ta tb σ H Q = ta σ H fun x H1 => ∃ c, x = .bl c ∧ if c = true then Q (.bl true) H1 else tb σ H1 Q := rfl
theorem rd_notV : tNotV ta σ H Q = ta σ H fun x H1 => ∃ c, x = .bl c ∧ Q (.bl (!c)) H1 := rfl
theorem rd_ifE : tIf c ta tb σ H Q = c σ H fun k H1 => if k = true then ta σ H1 Q else tb σ H1 Q := rfl
theorem rd_isN : tIsN ta σ H Q = ta σ H fun x H1 => Q (.bl (decide (x = .non))) H1 := rfl
theorem rd_notN : tNotN ta σ H Q = ta σ H fun x H1 => Q (.bl (!decide (x = .non))) H1 := rfl
theorem rd_chain {r r' : R2} : tChain r r' ta tb tc σ H Q = ta σ H fun x H1 => tb σ H1 fun y H2 => r x y H2 fun z H3 => ∃ k, z = .bl k ∧ (if k = true then tc σ H3 fun w' H4 => r' y w' H4 Q else Q (.bl false) H3) := rfl
theorem rd_chain3 {r r' r'' : R2} {td : TE} : tChain3 r r' r'' ta tb tc td σ H Q = ta σ H fun x H1 => tb σ H1 fun y H2 => r x y H2 fun z H3 => ∃ k, z = .bl k ∧ (if k = true then tc σ H3 fun y' H4 => r' y y' H4 fun z' H5 => ∃ k', z' = .bl k' ∧ (if k' = true then td σ H5 fun w' H6 => r'' y' w' H6 Q else Q (.bl false) H5) else Q (.bl false) H3) := rfl
theorem rd_nil {R : List V → Hp → Prop} : tNil σ H R = R [] H := rfl
theorem rd_cons {t : TA} {R : List V → Hp → Prop} : tCons ta t σ H R = ta σ H fun x H1 => t σ H1 fun xs H2 => R (x :: xs) H2 := rfl
theorem rd_tup {t : TA} : tTup t σ H Q = t σ H fun xs H1 => xs.length ≤ sizeLine ∧ ∀ p, H1 p = none → Q (.ref p) (upd H1 p (.tup xs)) := rfl
theorem rd_lst {t : TA} : tLst t σ H Q = t σ H fun xs H1 => xs.length ≤ sizeLine ∧ ∀ p, H1 p = none → Q (.ref p) (upd H1 p (.lst xs)) := rfl
theorem rd_call {sp : Sp} {ds : List V} {E : XK} {t : TA} : tCall sp ds E t σ H Q = t σ H fun vs H1 => sp (vs ++ ds) H1 Q E := rfl
theorem rd_CB {r : List V → Hp → VK → Prop} {t : TA} : tCB r t σ H Q = t σ H fun vs H1 => r vs H1 Q := rfl
theorem rd_ixL {p : Addr} : rIxL K (.ref p) (.int i) H Q ↔ ∃ xs v, SqL K H p xs ∧ atI xs i = some v ∧ Q v H := ⟨fun ⟨_, xs, _, v, a, b, q⟩ => by cases a; cases b; exact ⟨xs, v, q⟩, fun ⟨xs, v, q⟩ => ⟨p, xs, i, v, rfl, rfl, q⟩⟩
theorem rd_ixT {p : Addr} : rIxT K (.ref p) (.int i) H Q ↔ ∃ xs v, SqT K H p xs ∧ atI xs i = some v ∧ Q v H := ⟨fun ⟨_, xs, _, v, a, b, q⟩ => by cases a; cases b; exact ⟨xs, v, q⟩, fun ⟨xs, v, q⟩ => ⟨p, xs, i, v, rfl, rfl, q⟩⟩
theorem rd_sl {r : V → Option Int → Option Int → Hp → VK → Prop} {tl th : TO} : tSl r te tl th σ H Q = te σ H fun x H1 => tl σ H1 fun l H2 => th σ H2 fun u H3 => r x l u H3 Q := rfl
theorem rd_noPart {R : Option Int → Hp → Prop} : tNoPart σ H R = R none H := rfl
theorem rd_part {R : Option Int → Hp → Prop} : tPart te σ H R = te σ H fun x H1 => ∃ i, x = .int i ∧ R (some i) H1 := rfl
theorem rd_slL {p : Addr} {lo hi : Option Int} : rSlL K (.ref p) lo hi H Q ↔ ∃ xs, SqL K H p xs ∧ ∀ q, H q = none → Q (.ref q) (upd H q (.lst (cutV xs lo hi))) := ⟨fun ⟨_, xs, a, q⟩ => by cases a; exact ⟨xs, q⟩, fun ⟨xs, q⟩ => ⟨p, xs, rfl, q⟩⟩
theorem rd_sum {p : Addr} : rSum K [.ref p] H Q ↔ ∃ ns : List Int, SqL K H p (ns.map V.int) ∧ Q (.int ns.sum) H := ⟨fun ⟨_, xs, a, q⟩ => by cases a; exact ⟨xs, q⟩, fun ⟨xs, q⟩ => ⟨p, xs, rfl, q⟩⟩
theorem rd_all {p : Addr} : rAll K [.ref p] H Q ↔ ∃ bs : List Bool, SqL K H p (bs.map V.bl) ∧ Q (.bl (bs.all id)) H := ⟨fun ⟨_, xs, a, q⟩ => by cases a; exact ⟨xs, q⟩, fun ⟨xs, q⟩ => ⟨p, xs, rfl, q⟩⟩
theorem rd_any {p : Addr} : rAny K [.ref p] H Q ↔ ∃ bs : List Bool, SqL K H p (bs.map V.bl) ∧ Q (.bl (bs.any id)) H := ⟨fun ⟨_, xs, a, q⟩ => by cases a; exact ⟨xs, q⟩, fun ⟨xs, q⟩ => ⟨p, xs, rfl, q⟩⟩
theorem ex_int {R : Int → Prop} : (∃ k, V.int i = V.int k ∧ R k) ↔ R i := ⟨fun ⟨_, a, q⟩ => by cases a; exact q, fun q => ⟨i, rfl, q⟩⟩
theorem ex_int1 {R : Int → Prop} : (∃ k, [V.int i] = [V.int k] ∧ R k) ↔ R i := ⟨fun ⟨_, a, q⟩ => by cases a; exact q, fun q => ⟨i, rfl, q⟩⟩
theorem ex_int2 {R : Int → Int → Prop} : (∃ k l, [V.int i, V.int j] = [V.int k, V.int l] ∧ R k l) ↔ R i j := ⟨fun ⟨_, _, a, q⟩ => by cases a; exact q, fun q => ⟨i, j, rfl, q⟩⟩
theorem rd_len {p : Addr} : rLen K [.ref p] H Q ↔ ∃ ys : List V, (SqL K H p ys ∨ SqT K H p ys) ∧ Q (.int ys.length) H := ⟨fun ⟨_, xs, a, q⟩ => by cases a; exact ⟨xs, q⟩, fun ⟨xs, q⟩ => ⟨p, xs, rfl, q⟩⟩
theorem ex_len {p : Addr} {R : Addr → List V → Prop} : (∃ q ys, [V.ref p] = [V.ref q] ∧ R q ys) ↔ ∃ ys, R p ys := ⟨fun ⟨_, ys, a, q⟩ => by cases a; exact ⟨ys, q⟩, fun ⟨ys, q⟩ => ⟨p, ys, rfl, q⟩⟩
theorem ex_var {R : V → Prop} : (∃ w, (some (some v) : Option (Option V)) = some (some w) ∧ R w) ↔ R v := ⟨fun ⟨_, a, q⟩ => by cases a; exact q, fun q => ⟨v, rfl, q⟩⟩
theorem ex_bl {b : Bool} {R : Bool → Prop} : (∃ k, V.bl b = V.bl k ∧ R k) ↔ R b := ⟨fun ⟨_, a, q⟩ => by cases a; exact q, fun q => ⟨b, rfl, q⟩⟩
/-- a loop over what is walked -/
def forIt (J : It) (g : TG) (tb : TS) (D : Ends) (σ : L2.St) (H : Hp) : Prop := ∃ W : Nat → Nat → L2.St → Hp → Prop, (∃ m, W 0 m σ H) ∧ ∀ i m σ H, W i m σ H →
  (J.stop i H ∧ D.nx σ H) ∨ (J.go i H ∧ ∃ N : L2.St → Hp → Prop, (∀ σ' H', N σ' H' → ∃ m', m' < m ∧ W (i + 1) m' σ' H') ∧ ∀ x H', J.yld i H x H' → g x σ H' fun σ2 H2 => tb { D with nx := N, ct := N, bk := D.nx } σ2 H2)
theorem rd_forL {tl : TE} : tFor (iList K tl) g t D σ H = tl σ H fun x H1 => ∃ a, x = .ref a ∧ (∃ xs, SqL K H1 a xs) ∧ forIt (Itl K a) g t D σ H1 := rfl
theorem rd_forT {tl : TE} : tFor (iTup K tl) g t D σ H = tl σ H fun x H1 => ∃ a, x = .ref a ∧ (∃ xs, SqT K H1 a xs) ∧ forIt (Itt K a) g t D σ H1 := rfl
theorem rd_forR1 {ta : TA} : tFor (iR1 ta) g t D σ H = ta σ H fun vs H1 => ∃ j : Int, vs = [.int j] ∧ forIt (Itr 0 j.toNat) g t D σ H1 := rfl
theorem rd_forR2 {ta : TA} : tFor (iR2 ta) g t D σ H = ta σ H fun vs H1 => ∃ i j : Int, vs = [.int i, .int j] ∧ forIt (Itr i (j - i).toNat) g t D σ H1 := rfl
theorem rd_forR3 {ta : TA} : tFor (iRng3 ta) g t D σ H = ta σ H fun vs H1 => ∃ (i j c : Int) (n : Nat), vs = [.int i, .int j, .int c] ∧ RgC i j c n ∧ forIt (Itc i c n) g t D σ H1 := rfl
theorem ex_ref {p : Addr} {R : Addr → Prop} : (∃ a, V.ref p = V.ref a ∧ R a) ↔ R p := ⟨fun ⟨_, a, q⟩ => by cases a; exact q, fun q => ⟨p, rfl, q⟩⟩
/-- the value in a slot, handed on -/
def slot : L2.St → Nat → (V → Prop) → Prop
  | [], _, _ => False
  | none :: _, 0, _ => False
  | some v :: _, 0, k => k v
  | _ :: σ, n + 1, k => slot σ n k
theorem slot_z {σ : L2.St} {k : V → Prop} : slot (some v :: σ) 0 k = k v := rfl
theorem slot_n {o : Option V} {σ : L2.St} {k : V → Prop} : slot (o :: σ) (n + 1) k = slot σ n k := by cases o <;> rfl
def setS : L2.St → Nat → V → (L2.St → Prop) → Prop
  | [], _, _, k => k []
  | _ :: σ, 0, v, k => k (some v :: σ)
  | o :: σ, n + 1, v, k => setS σ n v fun σ' => k (o :: σ')
theorem setS_z {o : Option V} {σ : L2.St} {k : L2.St → Prop} : setS (o :: σ) 0 v k = k (some v :: σ) := rfl
theorem setS_n {o : Option V} {σ : L2.St} {k : L2.St → Prop} : setS (o :: σ) (n + 1) v k = setS σ n v fun σ' => k (o :: σ') := rfl
theorem slot_iff : ∀ (σ : L2.St) (n : Nat) (k : V → Prop), (∃ v, σ[n]? = some (some v) ∧ k v) ↔ slot σ n k
  | [], n, k => by simp [slot]
  | none :: σ, 0, k => by simp [slot]
  | some v :: σ, 0, k => by simp [slot]
  | o :: σ, n + 1, k => by
    have ih := slot_iff σ n k
    rw [slot_n, ← ih]
    simp
theorem setS_iff : ∀ (σ : L2.St) (n : Nat) (v : V) (k : L2.St → Prop), k (σ.set n (some v)) ↔ setS σ n v k
  | [], n, v, k => by simp [setS]
  | o :: σ, 0, v, k => by simp [setS]
  | o :: σ, n + 1, v, k => by
    have ih := setS_iff σ n v (fun σ' => k (o :: σ'))
    rw [setS_n, ← ih]
    simp
theorem rp_var : tVar n σ H Q ↔ slot σ n fun v => Q v H := slot_iff σ n _
theorem rp_name {R : L2.St → Hp → Prop} : gName n v σ H R ↔ setS σ n v fun σ' => R σ' H := setS_iff σ n v fun σ' => R σ' H
theorem rp_par {ta : TA} {k l : Nat} : tPar k l ta D σ H ↔ ta σ H fun vs H1 => ∃ v w, vs = [v, w] ∧ setS σ k v fun σ' => setS σ' l w fun σ'' => D.nx σ'' H1 := by
  have e : ∀ (v w : V) (H1 : Hp), D.nx ((σ.set k (some v)).set l (some w)) H1 ↔ setS σ k v fun σ' => setS σ' l w fun σ'' => D.nx σ'' H1 := fun v w H1 => by
    rw [← setS_iff σ k v (fun σ' => setS σ' l w fun σ'' => D.nx σ'' H1), ← setS_iff]
  show (ta σ H fun vs H1 => ∃ v w, vs = [v, w] ∧ D.nx ((σ.set k (some v)).set l (some w)) H1) ↔ _
  have : (fun (vs : List V) (H1 : Hp) => ∃ v w, vs = [v, w] ∧ D.nx ((σ.set k (some v)).set l (some w)) H1) = fun vs H1 => ∃ v w, vs = [v, w] ∧ setS σ k v fun σ' => setS σ' l w fun σ'' => D.nx σ'' H1 := by
    funext vs H1
    refine propext ⟨?_, ?_⟩
    · rintro ⟨v, w, a, b⟩
      exact ⟨v, w, a, (e v w H1).mp b⟩
    · rintro ⟨v, w, a, b⟩
      exact ⟨v, w, a, (e v w H1).mpr b⟩
  rw [this]
theorem cx_K {CX : CXT} {P : Program} {w : World} {mg : Str → Option Value} {base : Heap} {N : List Str} {q : Str} {sc : Scope} {f : Addr} {cd : Value} {A : Around} {o : List Env} {s : Shared} {E : XK} : (cxOf CX P w K mg base N q sc f cd A o s H E).K = K := rfl
theorem if_dec {c : Prop} [Decidable c] {A B : Prop} : (if decide c = true then A else B) = if c then A else B := by by_cases h : c <;> simp [h]
theorem if_ndec {c : Prop} [Decidable c] {A B : Prop} : (if (!decide c) = true then A else B) = if c then B else A := by by_cases h : c <;> simp [h]
theorem if_nb {b : Bool} {A B : Prop} : (if (!b) = true then A else B) = if b = true then B else A := by cases b <;> simp
theorem if_tt {A B : Prop} : (if true = true then A else B) = A := by simp
theorem if_ff {A B : Prop} : (if false = true then A else B) = B := by simp
theorem ex_two {R : V → V → Prop} : (∃ a b, [x, y] = [a, b] ∧ R a b) ↔ R x y := ⟨fun ⟨_, _, a, q⟩ => by cases a; exact q, fun q => ⟨x, y, rfl, q⟩⟩
end
/-! ### a def of the text -/
structure DefAt (K : PySem.W.Frag) (mg : Str → Option Value) (x qual : Str) (st : Stmt) (ps : List Str) (f : Addr) (fd : FuncData) : Prop where
  F : Fun K x qual st f fd
  b : Binds K fd ps []
  g : mg x = some (.ref f)
theorem DefAt.kp {K : PySem.W.Frag} {mg : Str → Option Value} {x qual : Str} {st : Stmt} {ps : List Str} {f : Addr} {fd : FuncData} (d : DefAt K mg x qual st ps f fd) : PySem.W.keepIn K (.ref f) = true := d.F.kp
end Sa
/-! rules over displays, comprehensions over ranges, ranges with a step -/
namespace Sa
open PySem PySem.Spec PyProof.Rows L2 Evl
theorem same_newO {H : Hp} {p : Addr} {o : HO} (h : H p = none) : Same H (upd H p o) := fun b x e => by
  rw [upd_ne (ne_of_none e h)]
  exact e
theorem same_mut {H H' : Hp} {p : Addr} {o : HO} (e : Same H H') (h : H p = none) : Same H (upd H' p o) := fun a u ha => by
  rw [upd_ne (ne_of_none ha h)]
  exact e a u ha
/-! ### what evaluates to what, at any later heap -/
def EvE (te : TE) (σ : L2.St) (v : V) : Prop := ∀ (H : Hp) (Q : VK), Q v H → te σ H Q
def EvAL (ta : TA) (σ : L2.St) (I : List V → Hp → Prop) : Prop := ∀ (H : Hp) (Q : List V → Hp → Prop), (∀ xs H2, Same H H2 → I xs H2 → Q xs H2) → ta σ H Q
def IInts (ns : List Int) (xs : List V) (_ : Hp) : Prop := xs = ns.map V.int
def IPairs : List (Int × Int) → List V → Hp → Prop
  | [], xs, _ => xs = []
  | (a, b) :: r, xs, H => ∃ p ys, xs = .ref p :: ys ∧ H p = some (.tup [.int a, .int b]) ∧ IPairs r ys H
theorem IPairs.mono : ∀ {ab : List (Int × Int)} {xs : List V} {H H' : Hp}, Same H H' → IPairs ab xs H → IPairs ab xs H'
  | [], _, _, _, _, h => h
  | (a, b) :: r, _, _, _, s, ⟨p, ys, e, hp, h⟩ => ⟨p, ys, e, s _ _ hp, IPairs.mono s h⟩
theorem IPairs.len : ∀ {ab : List (Int × Int)} {xs : List V} {H : Hp}, IPairs ab xs H → xs.length = ab.length
  | [], _, _, h => by rw [h]; rfl
  | (a, b) :: r, _, _, ⟨p, ys, e, hp, h⟩ => by rw [e, List.length_cons, List.length_cons, IPairs.len h]
theorem IPairs.at : ∀ {ab : List (Int × Int)} {xs : List V} {H : Hp} {i : Nat} {x : V}, IPairs ab xs H → xs[i]? = some x → ∃ a b p, ab[i]? = some (a, b) ∧ x = .ref p ∧ H p = some (.tup [.int a, .int b])
  | [], _, _, i, x, h, e => by rw [h] at e; simp at e
  | (a, b) :: r, _, _, 0, x, ⟨p, ys, e, hp, h⟩, ex => by
    rw [e] at ex
    cases ex
    exact ⟨a, b, p, rfl, rfl, hp⟩
  | (a, b) :: r, _, _, i + 1, x, ⟨p, ys, e, hp, h⟩, ex => by
    rw [e] at ex
    exact IPairs.at (i := i) h ex
theorem al_nilI {σ : L2.St} : EvAL tNil σ (IInts []) := fun H Q q => q [] H (Same.refl H) rfl
theorem al_consI {σ : L2.St} {te : TE} {ta : TA} {n : Int} {ns : List Int} (h : EvE te σ (.int n)) (g : EvAL ta σ (IInts ns)) : EvAL (tCons te ta) σ (IInts (n :: ns)) := fun H Q q =>
  h H _ (g H _ fun xs H2 s i => q _ H2 s (by rw [show xs = ns.map V.int from i]; rfl))
theorem al_nilP {σ : L2.St} : EvAL tNil σ (IPairs []) := fun H Q q => q [] H (Same.refl H) rfl
theorem al_consP {σ : L2.St} {te tu : TE} {ta : TA} {a b : Int} {ab : List (Int × Int)} (h : EvE te σ (.int a)) (h' : EvE tu σ (.int b)) (g : EvAL ta σ (IPairs ab)) : EvAL (tCons (tTup (tCons te (tCons tu tNil))) ta) σ (IPairs ((a, b) :: ab)) := fun H Q q =>
  h H _ (h' H _ ⟨by show 2 ≤ sizeLine; decide, fun p hp => g _ _ fun xs H2 s i => q _ H2 ((same_newO hp).trans s) ⟨p, xs, rfl, s _ _ upd_same, i⟩⟩)
theorem ee_var {σ : L2.St} {n : Nat} {v : V} (h : σ[n]? = some (some v)) : EvE (tVar n) σ v := fun H Q q => ⟨v, h, q⟩
theorem ee_c {σ : L2.St} {v : V} : EvE (tC v) σ v := fun H Q q => q
theorem ee_U {σ : L2.St} {ta : TE} {f : Int → V} {i : Int} (h : EvE ta σ (.int i)) : EvE (tUn (rU f) ta) σ (f i) := fun H Q q => h H _ ⟨i, rfl, q⟩
theorem ee_I0 {σ : L2.St} {ta tb : TE} {f : Int → Int → V} {i j : Int} (h : EvE ta σ (.int i)) (g : EvE tb σ (.int j)) : EvE (tOp (rI0 f) ta tb) σ (f i j) := fun H Q q => h H _ (g H _ ⟨i, j, rfl, rfl, q⟩)
theorem ee_I {σ : L2.St} {ta tb : TE} {C : Int → Int → Prop} {f : Int → Int → V} {i j : Int} (h : EvE ta σ (.int i)) (g : EvE tb σ (.int j)) (c : C i j) : EvE (tOp (rI C f) ta tb) σ (f i j) := fun H Q q => h H _ (g H _ ⟨i, j, rfl, rfl, c, q⟩)
/-- for x in [.., ..], the items told by I -/
theorem for_disp {K : PySem.W.Frag} {ta : TA} {g : TG} {tb : TS} {D : Ends} {σ : L2.St} {H : Hp} {I : List V → Hp → Prop} {n : Nat} (mono : ∀ xs H H', Same H H' → I xs H → I xs H') (len : ∀ xs H, I xs H → xs.length = n) (hn : n ≤ 1000) (hp : EvAL ta σ I)
    (Pv : Nat → L2.St → Hp → Prop) (h0 : ∀ H1, Same H H1 → Pv 0 σ H1)
    (hs : ∀ (Hf : Hp) (l : Addr), Same H Hf → ∀ i x xs σ' H', xs[i]? = some x → i < n → Same Hf H' → I xs H' → Pv i σ' H' → g x σ' H' fun σ2 H2 => tb { D with nx := fun σ3 H3 => Same Hf H3 ∧ Pv (i + 1) σ3 H3, ct := fun σ3 H3 => Same Hf H3 ∧ Pv (i + 1) σ3 H3, bk := D.nx } σ2 H2)
    (hd : ∀ σ' H', Same H H' → Pv n σ' H' → D.nx σ' H') : tFor (iList K (tLst ta)) g tb D σ H := by
  refine hp H _ fun xs H2 s2 i2 => ?_
  have hl := len xs H2 i2
  refine ⟨Nat.le_trans (by omega) (show 1000 ≤ sizeLine by decide), fun l nl => ⟨l, rfl, ⟨xs, .inl (.inl upd_same)⟩, ?_⟩⟩
  have sl := s2.trans (same_newO (o := .lst xs) nl)
  have h := for_list (K := K) (a := l) (xs := xs) (g := g) (tb := tb) (D := D) (σ := σ) (H := upd H2 l (.lst xs)) (fun i σ' H' => Same (upd H2 l (.lst xs)) H' ∧ Pv i σ' H') ⟨Same.refl _, h0 _ sl⟩
    (fun i σ' H' _ ⟨s, _⟩ => .inl (.inl (s _ _ upd_same)))
    (fun i x σ' H' hi ⟨s, p⟩ => hs _ l sl i x xs σ' H' hi (by rw [← hl]; exact (List.getElem?_eq_some_iff.mp hi).1) s (mono _ _ _ ((same_newO nl).trans s) i2) p)
    (fun σ' H' ⟨s, p⟩ => hd σ' H' (sl.trans s) (by rw [← hl]; exact p))
  exact h
/-- for x in (.., ..), the items told by I -/
theorem for_dispT {K : PySem.W.Frag} {ta : TA} {g : TG} {tb : TS} {D : Ends} {σ : L2.St} {H : Hp} {I : List V → Hp → Prop} {n : Nat} (mono : ∀ xs H H', Same H H' → I xs H → I xs H') (len : ∀ xs H, I xs H → xs.length = n) (hn : n ≤ 1000) (hp : EvAL ta σ I)
    (Pv : Nat → L2.St → Hp → Prop) (h0 : ∀ H1, Same H H1 → Pv 0 σ H1)
    (hs : ∀ (Hf : Hp) (l : Addr), Same H Hf → ∀ i x xs σ' H', xs[i]? = some x → i < n → Same Hf H' → I xs H' → Pv i σ' H' → g x σ' H' fun σ2 H2 => tb { D with nx := fun σ3 H3 => Same Hf H3 ∧ Pv (i + 1) σ3 H3, ct := fun σ3 H3 => Same Hf H3 ∧ Pv (i + 1) σ3 H3, bk := D.nx } σ2 H2)
    (hd : ∀ σ' H', Same H H' → Pv n σ' H' → D.nx σ' H') : tFor (iTup K (tTup ta)) g tb D σ H := by
  refine hp H _ fun xs H2 s2 i2 => ?_
  have hl := len xs H2 i2
  refine ⟨Nat.le_trans (by omega) (show 1000 ≤ sizeLine by decide), fun l nl => ⟨l, rfl, ⟨xs, .inl (.inl upd_same)⟩, ?_⟩⟩
  have sl := s2.trans (same_newO (o := .tup xs) nl)
  have h := for_tup (K := K) (a := l) (xs := xs) (g := g) (tb := tb) (D := D) (σ := σ) (H := upd H2 l (.tup xs)) (fun i σ' H' => Same (upd H2 l (.tup xs)) H' ∧ Pv i σ' H') ⟨Same.refl _, h0 _ sl⟩
    (fun i σ' H' _ ⟨s, _⟩ => .inl (.inl (s _ _ upd_same)))
    (fun i x σ' H' hi ⟨s, p⟩ => hs _ l sl i x xs σ' H' hi (by rw [← hl]; exact (List.getElem?_eq_some_iff.mp hi).1) s (mono _ _ _ ((same_newO nl).trans s) i2) p)
    (fun σ' H' ⟨s, p⟩ => hd σ' H' (sl.trans s) (by rw [← hl]; exact p))
  exact h
/-! ### a comprehension over a range, each element of a value -/
theorem lc_map {lo : Int} {n j : Nat} {te : TE} {vs : List Nat} {σ : L2.St} {H1 : Hp} {D : Addr} {Qd : Hp → Prop} (v : Nat → V) (hw : ∀ x, wipe ((wipe σ vs).set j (some x)) vs = wipe σ vs) (hD : H1 D = none) (hn : n ≤ 1000000)
    (he : ∀ (i : Nat) (H' : Hp), i < n → Same H1 H' → ∀ Q : VK, (∀ H2, Same H' H2 → Q (v i) H2) → te ((wipe σ vs).set j (some (.int (lo + (i : Int))))) H' Q)
    (hd : ∀ H', Same H1 H' → H' D = some (.lst ((List.range n).map v)) → Qd H') :
    ∃ W : Nat → Nat → Hp → Prop, (∃ m, W 0 m (upd H1 D (.lst []))) ∧ ∀ i m H, W i m H →
      ((Itr lo n).stop i H ∧ Qd H) ∨ ((Itr lo n).go i H ∧ ∃ Nx : Hp → Prop, (∀ H', Nx H' → ∃ m', m' < m ∧ W (i + 1) m' H') ∧ ∀ x H', (Itr lo n).yld i H x H' → (gName j) x (wipe σ vs) H' fun σ2 H2 => wipe σ2 vs = wipe σ vs ∧ tYes σ2 H2 fun b H3 =>
        if b = true then te σ2 H3 fun y H4 => ∃ acc, H4 D = some (.lst acc) ∧ acc.length < sizeLine ∧ Nx (upd H4 D (.lst (acc ++ [y]))) else Nx H3) := by
  refine lc_range (fun i H' => Same H1 H' ∧ H' D = some (.lst ((List.range i).map v))) ⟨same_mut (Same.refl _) hD, upd_same⟩ (fun i H' hi ⟨s, e⟩ => ?_) (fun H' ⟨s, e⟩ => hd H' s e)
  refine ⟨hw _, ?_⟩
  unfold tYes
  dsimp only
  rw [if_pos rfl]
  refine he i H' hi s _ fun H2 s2 => ⟨(List.range i).map v, s2 _ _ e, ?_, same_mut (s.trans s2) hD, ?_⟩
  · rw [List.length_map, List.length_range]
    exact Nat.lt_of_lt_of_le (Nat.lt_of_lt_of_le hi hn) (show 1000000 ≤ sizeLine by decide)
  · rw [upd_same, List.range_succ, List.map_append]
    rfl
/-- an iterator that is there -/
def itI (J : It) : TI := fun _ H R => R J H
theorem rd_lcR1 {ta : TA} {g : TG} {tt : TT} {te : TE} {vs : List Nat} {σ : L2.St} {H : Hp} {Q : VK} : tLc (iR1 ta) g tt te vs σ H Q = ta σ H fun ws H1 => ∃ j : Int, ws = [.int j] ∧ tLc (itI (Itr 0 j.toNat)) g tt te vs σ H1 Q := rfl
theorem rd_lcR2 {ta : TA} {g : TG} {tt : TT} {te : TE} {vs : List Nat} {σ : L2.St} {H : Hp} {Q : VK} : tLc (iR2 ta) g tt te vs σ H Q = ta σ H fun ws H1 => ∃ i j : Int, ws = [.int i, .int j] ∧ tLc (itI (Itr i (j - i).toNat)) g tt te vs σ H1 Q := rfl
theorem rd_lcL {K : PySem.W.Frag} {tl : TE} {g : TG} {tt : TT} {te : TE} {vs : List Nat} {σ : L2.St} {H : Hp} {Q : VK} : tLc (iList K tl) g tt te vs σ H Q = tl σ H fun x H1 => ∃ a, x = .ref a ∧ (∃ xs, SqL K H1 a xs) ∧ tLc (itI (Itl K a)) g tt te vs σ H1 Q := rfl
theorem rd_lcT {K : PySem.W.Frag} {tl : TE} {g : TG} {tt : TT} {te : TE} {vs : List Nat} {σ : L2.St} {H : Hp} {Q : VK} : tLc (iTup K tl) g tt te vs σ H Q = tl σ H fun x H1 => ∃ a, x = .ref a ∧ (∃ xs, SqT K H1 a xs) ∧ tLc (itI (Itt K a)) g tt te vs σ H1 Q := rfl
theorem lc_mapR {lo : Int} {n j : Nat} {te : TE} {vs : List Nat} {σ : L2.St} {H1 : Hp} {Q : VK} (v : Nat → V) (hw : ∀ x, wipe ((wipe σ vs).set j (some x)) vs = wipe σ vs) (hn : n ≤ 1000000)
    (he : ∀ (i : Nat) (H' : Hp), i < n → Same H1 H' → ∀ Q : VK, (∀ H2, Same H' H2 → Q (v i) H2) → te ((wipe σ vs).set j (some (.int (lo + (i : Int))))) H' Q)
    (hd : ∀ D H', H1 D = none → Same H1 H' → H' D = some (.lst ((List.range n).map v)) → Q (.ref D) H') : tLc (itI (Itr lo n)) (gName j) tYes te vs σ H1 Q := fun D hD =>
  lc_map v hw hD hn he fun H' s e => hd D H' hD s e
/-! ### range(0, n, 1 + n // 2) -/
def chkR (l : Nat) : Bool :=
  let n := (Builtin.Range.rangeSize 0 (l : Int) (1 + (l : Int) / 2)).toNat
  decide (n ≤ 2) && Builtin.Range.small 0 (l : Int) (1 + (l : Int) / 2) && decide (Builtin.Range.rangeSize 0 (l : Int) (1 + (l : Int) / 2) = (n : Int)) && (List.range n).all fun i => decide ((i : Int) * (1 + (l : Int) / 2) < (l : Int))
theorem chkR_all : (List.range 64).all (fun l => l == 0 || chkR l) = true := by decide +kernel
theorem rgc {l : Nat} (h0 : 0 < l) (h1 : l ≤ 63) : ∃ n : Nat, n ≤ 2 ∧ RgC 0 (l : Int) (1 + (l : Int) / 2) n ∧ ∀ i : Nat, i < n → (i : Int) * (1 + (l : Int) / 2) < (l : Int) := by
  have h := List.all_eq_true.mp chkR_all l (List.mem_range.mpr (by omega))
  have e : (l == 0) = false := by
    rw [beq_eq_false_iff_ne]
    omega
  rw [e, Bool.false_or] at h
  unfold chkR at h
  simp only [Bool.and_eq_true, decide_eq_true_eq, List.all_eq_true, List.mem_range] at h
  obtain ⟨⟨⟨a, b⟩, c⟩, d⟩ := h
  exact ⟨_, a, ⟨by omega, by omega, b, c⟩, d⟩
section
variable {D : Ends} {σ : L2.St} {H : Hp} {Q : VK} {td ty tv : TE}
theorem rd_dput : sDPut td ty tv D σ H = tv σ H fun v H1 => td σ H1 fun x H2 => ty σ H2 fun y H3 => ∃ a H4, x = .ref a ∧ DPut H3 a y v H4 ∧ D.nx σ H4 := rfl
theorem rd_dget1 : tDGet1 td ty σ H Q = td σ H fun x H1 => ∃ a, x = .ref a ∧ IsD H1 a ∧ ty σ H1 fun y H2 => ∃ o, DGet H2 a y o ∧ Q (o.getD .non) H2 := rfl
theorem rd_din : tDIn ty td σ H Q = ty σ H fun y H1 => td σ H1 fun x H2 => ∃ a o, x = .ref a ∧ DGet H2 a y o ∧ Q (.bl o.isSome) H2 := rfl
theorem rd_dget : tDGet td ty σ H Q = td σ H fun x H1 => ty σ H1 fun y H2 => ∃ a v, x = .ref a ∧ DGet H2 a y (some v) ∧ Q v H2 := rfl
theorem rd_dnew : tDNewK σ H Q = ∀ p, H p = none → Q (.ref p) (upd H p (.dK [])) := rfl
end
end Sa
/-! defs that raise where nothing is handled (the error's context is None), and what is walked while an error is handled -/
namespace Sa
open PySem PySem.Spec PyProof.Rows L2 Evl
theorem passN {X : Cx} : Passes (L2N.CX X.prog X.w) X E0 := fun _ _ _ _ _ _ _ h => by
  obtain ⟨_, _, _, _, _, _, _, _, _, _, _, _, z⟩ := h
  exact z.elim
theorem takesN {X : Cx} : L2N.Takes X (fun _ _ _ _ => False) := fun _ _ x => by
  obtain ⟨_, _, _, _, _, _, _, _, _, _, _, _, _, _, _, _, z⟩ := x
  exact z.elim
section
variable {P : Program} {w : World} {K : PySem.W.Frag} {mg : Str → Option Value} {base : Heap}
theorem okN {x qual : Str} {st : Stmt} {f : Addr} {fd : FuncData} {N ps : List Str} {k : Nat} {sp : Sp} (F : Fun K x qual st f fd) (S : FnScope N ps (defScope st)) (len : ∀ vs H Q E, sp vs H Q E → vs.length = ps.length)
    (hbody : ∀ (cdv : Value) (A : Around) (outer : List Env) (s : Shared) (H : Hp) (vs : List V) (Q : VK) (E : XK), Room k (A.deeper (envOfC qual (defScope st) s.heap.objs.size f cdv)) → sp vs H Q E →
      ∃ t, PSs (cxOf (L2N.CX P w) P w K mg base N qual (defScope st) f cdv A outer s H E) (defBody st) t ∧ t { nx := fun _ H' => Q .non H', rt := Q } (start N vs) H) : FnOk P w K mg base (L2N.CX P w) (k + 1) f fd ps sp := by
  obtain ⟨oc, od, kV, doc, pm, an, cdv, ct, osl, rfl, lk, hcd⟩ := F.ex
  exact fn_of lk hcd S len fun A outer s H vs Q E hr hsp => hbody cdv A outer s H vs Q E hr hsp
end
/-! ### any(xs) while an error is handled -/
theorem pyNext_list_end_hot {prog : Program} {w : World} {A : Around} {E : Value → Shared → Prop} {s : Shared} {it l x1 : Addr} {i : Nat} {items : Array Value} {Q : Option Value → Shared → Prop} (hot : HotX.HotAt A x1 s.heap) (hne : x1 ≠ it)
    (hit : s.heap.IsListIter it l i) (hl : s.heap.IsList l items) (hx : items[i]? = none)
    (hQ : ∀ h', (∀ b o, b ≠ it → s.heap.get? b = some o → h'.get? b = some o) → Q none { s with heap := h' }) : wpAny (model prog w) A (pyNext (.ref it)) Q E s := by
  obtain ⟨o, ho, hc, hd⟩ := id hit
  obtain ⟨ol, hol, _, nl, hdl⟩ := hl
  obtain ⟨hh, o1, vs1, h1, d1, c1⟩ := hot
  unfold pyNext
  refine wpAny_bind (wpAny_attempt (wpAny_callSpecial?_slot (name := Str.ofString "__next__") hit.typeIs slot_listiter_next
    (wpAny_call_entry slot_listiter_next hit.typeIs entry_listiter_next ?_ (args_listiter_next _))))
  show wpAny _ _ (field (.ref it) 0 >>= _) _ _ s
  refine wpAny_bind (wpAny_field ho hd (x := .ref l) rfl ?_)
  show wpAny _ _ (if (Value.ref l == Value.none) = true then _ else _) _ _ s
  rw [if_neg (show ¬ ((Value.ref l == Value.none) = true) from Bool.false_ne_true)]
  show wpAny _ _ (field (.ref it) 1 >>= _) _ _ s
  refine wpAny_bind (wpAny_field ho hd (x := .int i 0) rfl ?_)
  show wpAny _ _ (seqItems? (.ref l) >>= _) _ _ s
  refine wpAny_bind (wpAny_seqItems hol hdl ?_)
  simp only [Int.toNat_natCast, hx]
  refine wpAny_bind (wpAny_rule (wpAny_bind (wpAny_setField ho hd (by simp) ?_)))
  show wpAny _ _ (newExc (.type "StopIteration") [] >>= _) _ _ _
  refine wpAny_bind ?_
  simp only [newExc, newTuple]
  refine wpAny_bind (wpAny_newObj_type ?_ (by size_fits))
  refine wpAny_bind (m := firstArgMember _ _) (wpAny_of_eq (a := Value.none) (by first | rfl | (simp only [firstArgMember]; rfl)) ?_)
  refine wpAny_newObj_type ?_ (by size_fits)
  have k1 : ∀ b o', b ≠ it → s.heap.get? b = some o' → (s.heap.update it (Obj.mapFields (·.setIfInBounds 0 .none))).get? b = some o' := fun b o' hb e => by
    rw [Heap.get?_update_other _ _ hb.symm]
    exact e
  have x2 := k1 _ _ hne h1
  refine HotX.raiseNew_hot ⟨hh, o1, vs1, Heap.get?_push_of_some _ (Heap.get?_push_of_some _ x2), d1, c1⟩ (Nat.ne_of_lt (Heap.lt_size (Heap.get?_push_of_some _ x2))) (Heap.get?_push_size _ rfl) rfl (by first | (simp; done) | (simp; omega) | (simp only [Array.size_append]; simp; omega)) ?_
  refine wpAny_bind (wpAny_isInstance (T := "StopIteration") (b := true) ⟨_, Heap.get?_update_self _ (Heap.get?_push_size _ rfl) rfl, rfl⟩ isSubtype_stop ?_)
  refine wpAny_pure (hQ _ fun b o hb e => ?_)
  have x3 := k1 _ _ hb e
  rw [Heap.get?_update_other _ _ (Nat.ne_of_gt (Heap.lt_size (Heap.get?_push_of_some _ x3)))]
  exact Heap.get?_push_of_some _ (Heap.get?_push_of_some _ x3)
theorem walks_list_hot {prog : Program} {w : World} {A : Around} {x1 : Addr} {o1 : Obj} {vs1 : Array Value} (hh : A.handled = some (.ref x1)) (d1 : o1.data = .fields vs1) (c1 : vs1[2]? = some .none) (I ax : Addr) (hne : ax ≠ I) (hx1 : x1 ≠ I) (items : Array Value) :
    Walks prog w A I [I, ax, x1] [I] items.size (fun i v => items[i]? = some v) (fun i h => h.IsListIter I ax i ∧ h.IsList ax items ∧ h.get? x1 = some o1) where
  sub := fun b hb => by simp at hb; simp [hb]
  frame := fun _ _ _ st hk => ⟨st.1.at fun o e => hk I (by simp) o e, st.2.1.at fun o e => hk ax (by simp) o e, hk x1 (by simp) _ st.2.2⟩
  item := fun i s Q E hi st hQ => by
    refine wpAny_pyNext_list_item st.1 st.2.1 (x := items[i]) (by simp [hi]) fun h' hit' hs' => ?_
    exact hQ _ h' s.toks (by simp [hi]) ⟨hit', st.2.1.extBut hs'.extBut hne, hs'.extBut x1 _ hx1 st.2.2⟩ fun b o hb e => hs'.extBut b o (fun h => hb (by simp [h])) e
  done := fun s Q E st hQ => pyNext_list_end_hot ⟨hh, o1, vs1, st.2.2, d1, c1⟩ hx1 st.1 st.2.1 (by simp) fun h' he' => hQ h' s.toks fun b o hb e => he' b o (fun h => hb (by simp [h])) e
  self := fun _ _ _ _ st hQ => wpAny_pyIter_listiter st.1 hQ
theorem hotC_suite {X : Cx} {a : Addr} {oe : Obj} {cls : Value} {d : Option Addr} {pn : List (Addr × Obj)} (hz : L2N.Zn cls d oe) (hf : ∃ vs, oe.data = .fields vs) : L2H.HotC (X.suite a ((a, oe) :: pn)) := by
  obtain ⟨vs, e⟩ := hf
  exact ⟨(a, oe), ⟨rfl, vs, e, hz.2.2 vs e⟩, List.mem_cons_self⟩
theorem cr_anyH {X : Cx} {K : PySem.W.Frag} (hc : L2H.HotC X) (hK : X.K = K := by rfl) : CallR X (.builtin "any") (rAny K) := by
  subst hK
  intro pins s σ H vs us Q I r h
  obtain ⟨a, bs, rfl, hs, q⟩ := h
  obtain ⟨its, rv, hl, _⟩ := I.list hs
  obtain ⟨p, ⟨hh, v1, e1, c1⟩, hp⟩ := hc
  have hg := (I.pin p (List.mem_append_left _ hp)).1
  rw [Vals.ref1 r]
  have hb := rv.bls
  refine call_any_walk (iter_any hl.isList fun s₂ e2 st hne => ?_)
  subst e2
  have hp2 : p.1 ≠ s.heap.objs.size := Nat.ne_of_lt (Heap.lt_size hg)
  refine ⟨_, _, _, _, _, _, _, rfl, walks_list_hot (A := X.A.in1) hh e1 c1 _ a hne hp2 its.toArray, ⟨st.1, st.2, Heap.get?_push_of_some _ hg⟩, truth_bools hb, fun h' tk hk => ?_⟩
  refine ⟨.bl _, H, I.kept fun b o eo => hk b o (fun hmem => ?_) (Heap.get?_push_of_some _ eo), ?_, q⟩
  · rcases List.mem_cons.mp hmem with e1 | hmem
    · exact absurd (e1 ▸ Heap.lt_size eo) (Nat.lt_irrefl _)
    · cases hmem
  · show Value.bool _ = Value.bool _
    rw [← L2.any_range, hb, List.size_toArray, List.length_map]
/-- isinstance(e, c), e the error that the suite holds -/
def rIsX (K : PySem.W.Frag) (cls : Value) (d : Option Addr) (a : Addr) : List V → Hp → VK → Prop := fun xs H Q => ∃ (D : Addr) (c : V) (cv : Value) (b : Bool), cls = .ref D ∧ d = none ∧ ExcC K D ∧ xs = [.ref a, c] ∧ (∀ u, RelV c u → u = cv) ∧ PySem.W.kitOne K (.ref D) cv = some b ∧ Q (.bl b) H
theorem call_isX {X : Cx} {K : PySem.W.Frag} {cls : Value} {a : Addr} {oe : Obj} {pn : List (Addr × Obj)} {d : Option Addr} (hz : L2N.Zn cls d oe) (hf : ∃ vs, oe.data = .fields vs) (hK : X.K = K := by rfl) : CallR (X.suite a ((a, oe) :: pn)) (.builtin "isinstance") (rIsX K cls d a) := by
  subst hK
  intro pins s σ H xs us Q I r h
  obtain ⟨D, c, cv, b, rfl, rfl, C, rfl, hcv, hk, q⟩ := h
  exact call_isE C hz.zc hf pins s σ H _ us Q I r ⟨c, cv, b, rfl, hcv, hk, q⟩
theorem isX {K : PySem.W.Frag} {D C a : Addr} {b : Bool} {H : Hp} {Q : VK} (x : ExcC K D) (k : PySem.W.kitOne K (.ref D) (.ref C) = some b) (q : Q (.bl b) H) : rIsX K (.ref D) none a [.ref a, .ref C] H Q :=
  ⟨D, .ref C, .ref C, b, rfl, rfl, x, rfl, fun u h => h, k, q⟩
theorem isXT {K : PySem.W.Frag} {D a : Addr} {t : String} {b : Bool} {H : Hp} {Q : VK} (x : ExcC K D) (k : PySem.W.kitOne K (.ref D) (.type t) = some b) (q : Q (.bl b) H) : rIsX K (.ref D) none a [.ref a, .ty t] H Q :=
  ⟨D, .ty t, .type t, b, rfl, rfl, x, rfl, fun u h => h, k, q⟩
/-- an error's class, as clauses and isinstance name it -/
structure ErrC (K : PySem.W.Frag) (mg : Str → Option Value) (x : Str) (C : Addr) : Prop where
  g : mg x = some (.ref C)
  ic : PySem.W.isClsIn K C = true
  ty : PySem.W.typeIn K (.ref C) = some (.type "type")
  ss : PySem.W.subIn K (.ref C) (.ref C) = some true
  sb : PySem.W.subIn K (.ref C) (.type "BaseException") = some true
theorem ErrC.kit {K : PySem.W.Frag} {mg : Str → Option Value} {x : Str} {C D : Addr} {b : Bool} (c : ErrC K mg x C) (h : PySem.W.subIn K (.ref D) (.ref C) = some b) : PySem.W.kitOne K (.ref D) (.ref C) = some b := by
  have e2 : ((PySem.W.clsIn K C).isSome && PySem.W.typeIn K (.ref C) == some (.type "type")) = true := by
    have h2 : (PySem.W.clsIn K C).isSome = true := c.ic
    rw [h2, c.ty]
    rfl
  unfold PySem.W.kitOne
  split
  · rename_i e
    have e' : D = C := by simpa using e
    subst e'
    exact c.ss.symm.trans h
  · show (if ((PySem.W.clsIn K C).isSome && PySem.W.typeIn K (.ref C) == some (.type "type")) = true then PySem.W.subIn K (.ref D) (.ref C) else none) = some b
    rw [if_pos e2]
    exact h
theorem ErrC.exm {K : PySem.W.Frag} {mg : Str → Option Value} {x : Str} {C D : Addr} {b : Bool} (c : ErrC K mg x C) (h : PySem.W.subIn K (.ref D) (.ref C) = some b) : PySem.W.exmOne K (.ref D) (.ref C) = some b := by
  have e1 : (PySem.W.subIn K (.ref C) (.type "BaseException") == some true) = true := by rw [c.sb]; rfl
  have e2 : ((PySem.W.clsIn K C).isSome && PySem.W.typeIn K (.ref C) == some (.type "type")) = true := by
    have h2 : (PySem.W.clsIn K C).isSome = true := c.ic
    rw [h2, c.ty]
    rfl
  show (if (PySem.W.subIn K (.ref C) (.type "BaseException") == some true) = true then (if ((PySem.W.clsIn K C).isSome && PySem.W.typeIn K (.ref C) == some (.type "type")) = true then PySem.W.subIn K (.ref D) (.ref C) else none) else none) = some b
  rw [if_pos e1, if_pos e2]
  exact h
/-! readings -/
theorem rd_callS {K : PySem.W.Frag} {σ : L2.St} {H : Hp} {Q : VK} {sp : Sp} {E : L2.St → XK} {t : TA} : tCallS sp E t σ H Q = t σ H fun vs H1 => sp vs H1 Q (E σ) := rfl
theorem take_as {K : PySem.W.Frag} {c cls : Value} {i : Nat} {ts : Addr → Value → Option Addr → TS} {Wout : WX} {D : Ends} {d : Option Addr} {σ : L2.St} {H : Hp} (e : PySem.W.exmOne K cls c = some true)
    (k : ∀ a, H a = none → ts a cls d { nx := fun σ' H' => D.nx (σ'.set i none) H', rt := D.rt, bk := fun σ' H' => D.bk (σ'.set i none) H', ct := fun σ' H' => D.ct (σ'.set i none) H' } (σ.set i (some (.ref a))) H) : wAs K c i ts Wout D cls d σ H :=
  ⟨true, e, fun _ => k, fun z => Bool.noConfusion z⟩
end Sa
namespace Sa
open PySem PySem.Spec PyProof.Rows L2 Evl
def top (i : Nat) : Stmt := PySem.Challenge.pw_sumsapart_k01_whole_sums.main.body.getD i (.Pass ⟨0, 0, 0, 0⟩)
abbrev s_is_number : Stmt := top 9
theorem sc_is_number : FnScope ["thing"] ["thing"] (defScope s_is_number) := ⟨rfl, rfl, rfl, by decide +kernel, rfl, by decide +kernel, by decide +kernel⟩
abbrev s_is_prime : Stmt := top 10
theorem sc_is_prime : FnScope ["number", "by"] ["number"] (defScope s_is_prime) := ⟨rfl, rfl, rfl, by decide +kernel, rfl, by decide +kernel, by decide +kernel⟩
abbrev s_asked_prime : Stmt := top 11
theorem sc_asked_prime : FnScope ["prime"] ["prime"] (defScope s_asked_prime) := ⟨rfl, rfl, rfl, by decide +kernel, rfl, by decide +kernel, by decide +kernel⟩
abbrev s_power : Stmt := top 12
theorem sc_power : FnScope ["number", "often", "prime", "found", "base"] ["number", "often", "prime"] (defScope s_power) := ⟨rfl, rfl, rfl, by decide +kernel, rfl, by decide +kernel, by decide +kernel⟩
abbrev s_root_of : Stmt := top 13
theorem sc_root_of : FnScope ["number", "prime", "odd", "twos", "strange", "step", "found", "left", "often", "now", "part"] ["number", "prime"] (defScope s_root_of) := ⟨rfl, rfl, rfl, by decide +kernel, rfl, by decide +kernel, by decide +kernel⟩
abbrev s_mark_of : Stmt := top 15
theorem sc_mark_of : FnScope ["prime", "number"] ["prime", "number"] (defScope s_mark_of) := ⟨rfl, rfl, rfl, by decide +kernel, rfl, by decide +kernel, by decide +kernel⟩
abbrev s_mark : Stmt := top 16
theorem sc_mark : FnScope ["prime", "number"] ["prime", "number"] (defScope s_mark) := ⟨rfl, rfl, rfl, by decide +kernel, rfl, by decide +kernel, by decide +kernel⟩
abbrev s_number_of : Stmt := top 17
theorem sc_number_of : FnScope ["prime", "found", "number"] ["prime", "found"] (defScope s_number_of) := ⟨rfl, rfl, rfl, by decide +kernel, rfl, by decide +kernel, by decide +kernel⟩
abbrev s_two_of : Stmt := top 18
theorem sc_two_of : FnScope ["prime", "total", "both", "half", "root", "sign", "one", "other"] ["prime", "total"] (defScope s_two_of) := ⟨rfl, rfl, rfl, by decide +kernel, rfl, by decide +kernel, by decide +kernel⟩
abbrev s__law_number : Stmt := top 20
theorem sc__law_number : FnScope ["_law_cell", "_law_at", "_law_whole_here", "_law_mixed", "_law_more"] ["_law_cell", "_law_at", "_law_whole_here"] (defScope s__law_number) := ⟨rfl, rfl, rfl, by decide +kernel, rfl, by decide +kernel, by decide +kernel⟩
abbrev s__law_whole : Stmt := top 21
theorem sc__law_whole : FnScope ["_law_number_here"] ["_law_number_here"] (defScope s__law_whole) := ⟨rfl, rfl, rfl, by decide +kernel, rfl, by decide +kernel, by decide +kernel⟩
abbrev s__law_is_prime : Stmt := top 22
theorem sc__law_is_prime : FnScope ["_law_number_here", "_law_by"] ["_law_number_here"] (defScope s__law_is_prime) := ⟨rfl, rfl, rfl, by decide +kernel, rfl, by decide +kernel, by decide +kernel⟩
abbrev s__law_prime : Stmt := top 23
theorem sc__law_prime : FnScope ["_law_script", "_law_at", "_law_cells", "_law_number_here", "_law_found"] ["_law_script", "_law_at"] (defScope s__law_prime) := ⟨rfl, rfl, rfl, by decide +kernel, rfl, by decide +kernel, by decide +kernel⟩
abbrev s__law_mark : Stmt := top 24
theorem sc__law_mark : FnScope ["_law_prime_here", "_law_number_here"] ["_law_prime_here", "_law_number_here"] (defScope s__law_mark) := ⟨rfl, rfl, rfl, by decide +kernel, rfl, by decide +kernel, by decide +kernel⟩
abbrev s__law_two : Stmt := top 25
theorem sc__law_two : FnScope ["_law_found"] ["_law_found"] (defScope s__law_two) := ⟨rfl, rfl, rfl, by decide +kernel, rfl, by decide +kernel, by decide +kernel⟩
abbrev s__law_no_mark : Stmt := top 26
theorem sc__law_no_mark : FnScope ["_law_prime_here", "_law_found", "error", "_law_others"] ["_law_prime_here", "_law_found"] (defScope s__law_no_mark) := ⟨rfl, rfl, rfl, by decide +kernel, rfl, by decide +kernel, by decide +kernel⟩
abbrev s__law_mark_right : Stmt := top 27
theorem sc__law_mark_right : FnScope ["_law_prime_here", "_law_number_here", "_law_found", "_law_again"] ["_law_prime_here", "_law_number_here"] (defScope s__law_mark_right) := ⟨rfl, rfl, rfl, by decide +kernel, rfl, by decide +kernel, by decide +kernel⟩
abbrev s__law_sum_right : Stmt := top 28
theorem sc__law_sum_right : FnScope ["_law_prime_here", "_law_total", "_law_found", "_law_both", "_law_one"] ["_law_prime_here", "_law_total"] (defScope s__law_sum_right) := ⟨rfl, rfl, rfl, by decide +kernel, rfl, by decide +kernel, by decide +kernel⟩
abbrev s_law : Stmt := top 29
theorem sc_law : FnScope ["_law_script", "_law_whole_here", "_law_cells", "_law_at", "_law_prime_here", "_law_drawn", "_law_one", "_law_other", "_law_number_here", "_law_pairs", "_law_first", "_law_second", "_law_total", "_law_far", "_law_some", "_law_small", "_law_every"] ["_law_script"] (defScope s_law) := ⟨rfl, rfl, rfl, by decide +kernel, rfl, by decide +kernel, by decide +kernel⟩
end Sa
local macro_rules | `(tactic| walk_at "rd") => `(tactic| ((try simp only [L2.start, L2.wipe, List.set_cons_succ, List.set_cons_zero, List.map_cons, List.map_nil, List.length_cons, List.length_nil, List.cons_append, List.nil_append, List.replicate_succ, List.replicate_zero, Nat.reduceSub, Nat.reduceAdd, Nat.zero_add]); try simp only [↓Sa.rd_seq,  ↓Sa.rd_next, ↓Sa.rd_brk, ↓Sa.rd_asg, ↓Sa.rp_name, ↓Sa.rp_par, ↓Sa.rd_ret, ↓Sa.rd_retN, ↓Sa.rd_drop, ↓Sa.rd_if, ↓Sa.rp_var, ↓Sa.rd_c, ↓Sa.rd_op, ↓Sa.rd_un, ↓Sa.rd_I0, ↓Sa.rd_I, ↓Sa.rd_U, ↓Sa.rd_eqI, ↓Sa.rd_neI, ↓Sa.rd_test, ↓Sa.rd_B, ↓Sa.rd_and, ↓Sa.rd_or, ↓Sa.rd_not, ↓Sa.rd_andV, ↓Sa.rd_orV, ↓Sa.rd_notV, ↓Sa.rd_ifE, ↓Sa.rd_isN, ↓Sa.rd_notN, ↓Sa.rd_chain, ↓Sa.rd_chain3, ↓Sa.rd_nil, ↓Sa.rd_cons, ↓Sa.rd_tup, ↓Sa.rd_lst, ↓Sa.rd_call, ↓Sa.rd_CB, ↓Sa.rd_ixL, ↓Sa.rd_ixT, ↓Sa.rd_sl, ↓Sa.rd_noPart, ↓Sa.rd_part, ↓Sa.rd_slL, ↓Sa.rd_sum, ↓Sa.rd_all, ↓Sa.rd_any, ↓Sa.ex_int, ↓Sa.ex_int1, ↓Sa.ex_int2, ↓Sa.rd_len, ↓Sa.ex_len, ↓Sa.ex_bl, ↓Sa.ex_two, ↓Sa.slot_z, ↓Sa.slot_n, ↓Sa.setS_z, ↓Sa.setS_n, ↓Sa.if_tt, ↓Sa.if_ff, ↓Sa.if_dec, ↓Sa.if_ndec, ↓Sa.if_nb, ↓Sa.rd_forL, ↓Sa.rd_forT, ↓Sa.rd_forR1, ↓Sa.rd_forR2, ↓Sa.rd_forR3, ↓Sa.ex_ref, ↓Sa.cx_K, ↓List.append_nil, List.length_cons, List.length_nil, Nat.reduceAdd, Nat.zero_add]))
namespace Sa
open PySem PySem.Spec PyProof.Rows L2 Evl
/-! ### what the functions give, in plain words -/

def trial (n : Int) : Nat → Int → Bool
  | 0, _ => true
  | k + 1, d => if d * d ≤ n then (if n % d = 0 then false else trial n k (d + 1)) else true
def isP (n : Int) : Bool := decide (1 < n) && trial n 1000 2
theorem trial_iff (n : Int) (h0 : n ≤ 1000000) : ∀ (k : Nat) (d : Int), 2 ≤ d → 1002 ≤ d + (k : Int) → (trial n k d = true ↔ ∀ e : Int, d ≤ e → e * e ≤ n → ¬ e ∣ n)
  | 0, d, h2, hk => by
    refine ⟨fun _ e he hl => ?_, fun _ => rfl⟩
    have : 1002 * 1002 ≤ e * e := Int.mul_le_mul (by omega) (by omega) (by omega) (by omega)
    omega
  | k + 1, d, h2, hk => by
    have ih := trial_iff n h0 k (d + 1) (by omega) (by omega)
    unfold trial
    by_cases hd : d * d ≤ n
    · rw [if_pos hd]
      by_cases hm : n % d = 0
      · rw [if_pos hm]
        exact ⟨fun z => Bool.noConfusion z, fun h => absurd (Int.dvd_of_emod_eq_zero hm) (h d (Int.le_refl _) hd)⟩
      · rw [if_neg hm, ih]
        refine ⟨fun h e he hl => ?_, fun h e he hl => h e (by omega) hl⟩
        by_cases ee : e = d
        · subst ee
          exact fun z => hm (Int.emod_eq_zero_of_dvd z)
        · exact h e (by omega) hl
    · rw [if_neg hd]
      refine ⟨fun _ e he hl => ?_, fun _ => rfl⟩
      have : d * d ≤ e * e := Int.mul_le_mul he he (by omega) (by omega)
      omega
theorem isP_iff {n : Int} (h : n ≤ 1000000) : isP n = true ↔ NT.Pr n := by
  unfold isP NT.Pr
  rw [Bool.and_eq_true, decide_eq_true_eq, trial_iff n h 1000 2 (by omega) (by omega)]
  exact ⟨fun ⟨a, b⟩ => ⟨by omega, b⟩, fun ⟨a, b⟩ => ⟨by omega, b⟩⟩
/-- the sorts of things handed in -/
def tys : List String := ["NoneType", "bool", "int", "str", "list", "tuple", "dict"]
theorem isi_int {t : String} (h : t ∈ tys) : kitB t "int" = some (t == "int" || t == "bool") := by
  simp only [tys, List.mem_cons, List.not_mem_nil, or_false] at h
  rcases h with rfl | rfl | rfl | rfl | rfl | rfl | rfl <;> decide +kernel
theorem isi_bool {t : String} (h : t ∈ tys) : kitB t "bool" = some (t == "bool") := by
  simp only [tys, List.mem_cons, List.not_mem_nil, or_false] at h
  rcases h with rfl | rfl | rfl | rfl | rfl | rfl | rfl <;> decide +kernel
theorem ty_num {t : String} (h : t ∈ tys) : ((t == "int" || t == "bool") && !(t == "bool")) = (t == "int") := by
  simp only [tys, List.mem_cons, List.not_mem_nil, or_false] at h
  rcases h with rfl | rfl | rfl | rfl | rfl | rfl | rfl <;> decide
theorem tyx_int {K : PySem.W.Frag} {H : Hp} {v : V} (h : TyX K H v (.type "int")) : ∃ i, v = .int i := by
  generalize e : (Value.type "int") = t at h
  cases h with
  | base b => cases b <;> first | exact ⟨_, rfl⟩ | (exfalso; revert e; simp)
  | _ => exfalso; revert e; simp
def okP : V → Bool
  | .int p => decide (3 ≤ p) && (decide (p ≤ 1000000) && isP p)
  | _ => false
section
variable {P : Program} {w : World} {K : PySem.W.Frag} {mg : Str → Option Value} {base : Heap}
/-- the built-in names as they are -/
structure Blt (mg : Str → Option Value) : Prop where
  b_len : mg "len" = none
  b_isinstance : mg "isinstance" = none
  b_int : mg "int" = none
  b_bool : mg "bool" = none
  b_list : mg "list" = none
  b_tuple : mg "tuple" = none
  b_str : mg "str" = none
  b_range : mg "range" = none
  b_sum : mg "sum" = none
  b_min : mg "min" = none
  b_max : mg "max" = none
  b_any : mg "any" = none
  b_all : mg "all" = none
  b_sorted : mg "sorted" = none
  b_set : mg "set" = none
  b_enumerate : mg "enumerate" = none
  b_abs : mg "abs" = none
/-- a class of errors -/
structure ErrAt (K : PySem.W.Frag) (mg : Str → Option Value) (x : Str) (C : Addr) : Prop where
  g : mg x = some (.ref C)
  x : PySem.W.excIn K C [.type "ValueError", .type "Exception", .type "BaseException", .type "object"] "ValueError.__new__" = true
  kp : PySem.W.keepIn K (.ref C) = true
  sb : PySem.W.subIn K (.ref C) (.type "BaseException") = some true
  ty : PySem.W.typeIn K (.ref C) = some (.type "type")

/-! ### is_number -/
def spIsNum (K : PySem.W.Frag) : Sp := fun vs H Q _ => ∃ (v : V) (t : String), vs = [v] ∧ TyX K H v (.type t) ∧ t ∈ tys ∧ Q (.bl (t == "int")) H
theorem ok_is_number {f : Addr} {fd : FuncData} (T : Blt mg) (F : Fun K "is_number" "is_number" s_is_number f fd) : FnOk P w K mg base CX0 1 f fd ["thing"] (spIsNum K) := by
  refine F.ok sc_is_number (fun vs H Q E h => ?_) (fun cdv A outer s H vs Q E hr h => ?_)
  · obtain ⟨v, t, rfl, _⟩ := h
    rfl
  · obtain ⟨v, t, rfl, ty, ht, q⟩ := h
    refine ⟨_, pss_one (ps_ret (pe_and (pe_callB (call_isik (K := K)) (by rfl) T.b_isinstance (by decide +kernel) (pa_cons (pv 0) (pa_cons (pe_bltn (v := .ty "int") (by rfl) T.b_int (by decide +kernel) rfl) pa_nil))) (pe_one (pe_not (pe_callB (call_isik (K := K)) (by rfl) T.b_isinstance (by decide +kernel) (pa_cons (pv 0) (pa_cons (pe_bltn (v := .ty "bool") (by rfl) T.b_bool (by decide +kernel) rfl) pa_nil))))))), ?_⟩
    walk_at "rd"
    refine ⟨v, _, _, _, _, rfl, .ty _, ty, kit_ty (isi_int ht), _, rfl, ?_⟩
    rw [← ty_num ht] at q
    cases hb : (t == "int" || t == "bool") with
    | false =>
      rw [hb] at q
      exact iteF q
    | true =>
      rw [hb] at q
      exact iteT ⟨v, _, _, _, _, rfl, .ty _, ty, kit_ty (isi_bool ht), _, rfl, q⟩
theorem isNum_int {H : Hp} {Q : VK} {E : XK} {i : Int} (q : Q (.bl true) H) : spIsNum K [.int i] H Q E := ⟨_, "int", rfl, .base (.int i), by decide, q⟩
/-! ### is_prime -/
def spIsPrime : Sp := fun vs H Q _ => ∃ n : Int, vs = [.int n] ∧ n ≤ 1000000 ∧ Q (.bl (isP n)) H
theorem is_prime_loop {n : Int} (hn : n ≤ 1000000) {d : Int} (h2 : 2 ≤ d) (h : ∀ e, 2 ≤ e → e < d → ¬ e ∣ n) :
    (d * d ≤ n → n % d = 0 → isP n = false) ∧ (¬ d * d ≤ n → isP n = decide (1 < n)) := by
  refine ⟨fun h1 h3 => ?_, fun h1 => ?_⟩
  · cases e : isP n with
    | false => rfl
    | true => exact absurd (Int.dvd_of_emod_eq_zero h3) (((isP_iff hn).mp e).2 d h2 h1)
  · by_cases h3 : 1 < n
    · rw [decide_eq_true h3]
      refine (isP_iff hn).mpr ⟨by omega, fun e he hl => h e he ?_⟩
      rcases Int.lt_or_le e d with h4 | h4
      · exact h4
      · have : d * d ≤ e * e := Int.mul_le_mul h4 h4 (by omega) (by omega)
        omega
    · unfold isP
      rw [decide_eq_false h3]
      rfl
theorem sq_le {d n : Int} (h2 : 2 ≤ d) (h : d * d ≤ n) (hn : n ≤ 1000000) : d ≤ 1000 := by
  rcases Int.lt_or_le 1000 d with h1 | h1
  · have : 1001 * 1001 ≤ d * d := Int.mul_le_mul (by omega) (by omega) (by omega) (by omega)
    omega
  · exact h1
theorem ok_is_prime {f : Addr} {fd : FuncData} (F : Fun K "is_prime" "is_prime" s_is_prime f fd) : FnOk P w K mg base CX0 1 f fd ["number"] spIsPrime := by
  refine F.ok sc_is_prime (fun vs H Q E h => ?_) (fun cdv A outer s H vs Q E hr h => ?_)
  · obtain ⟨n, rfl, _⟩ := h
    rfl
  · obtain ⟨n, rfl, hn, q⟩ := h
    refine ⟨_, pss_cons (ps_set (i := 1) sc_is_prime.nd rfl (by first | exact Or.inl rfl | exact Or.inr rfl) (pe_int))
      (pss_cut (ps_while PassesOwn.never (pt_cmpR op_le (pe_op op_mulB (pv 1) (pv 1)) (pv 0) (nomark _)) (pss_cons (ps_if (pt_cmpR op_eq (pe_op op_mod (pv 0) (pv 1)) (pe_int) (nomark _)) (pss_one (ps_ret (pe_bl))) (pss_nil))
      (pss_one (ps_set (i := 1) sc_is_prime.nd rfl (by first | exact Or.inl rfl | exact Or.inr rfl) (pe_op op_add (pv 1) (pe_int))))))
      (pss_one (ps_ret (pe_cmpR op_gt (pv 0) (pe_int) (nomark _))))), ?_⟩
    walk_at "rd"
    refine ⟨fun σ H' => H' = H ∧ ∃ d : Int, σ = [some (.int n), some (.int d)] ∧ 2 ≤ d ∧ d ≤ 1001 ∧ (∀ e, 2 ≤ e → e < d → ¬ e ∣ n) ∧ ¬ d * d ≤ n, ?_, ?_⟩
    · refine ⟨fun m σ H' => H' = H ∧ ∃ d : Int, σ = [some (.int n), some (.int d)] ∧ 2 ≤ d ∧ d ≤ 1001 ∧ (∀ e, 2 ≤ e → e < d → ¬ e ∣ n) ∧ m = (1002 - d).toNat, ⟨1000, rfl, 2, rfl, by omega, by omega, fun e h1 h2 => by omega, rfl⟩, ?_⟩
      rintro m σ H' ⟨rfl, d, rfl, h2, h3, h4, hm⟩
      walk_at "rd"
      refine ⟨mulB_small (by omega) (by omega), ?_⟩
      refine ite2 (fun hl => ?_) (fun hl => ⟨by trivial, d, rfl, h2, h3, h4, hl⟩)
      have hd := sq_le h2 hl hn
      refine ⟨fun σ H'' => H'' = H' ∧ ∃ d' : Int, σ = [some (.int n), some (.int d')] ∧ 2 ≤ d' ∧ d' ≤ 1001 ∧ (∀ e, 2 ≤ e → e < d' → ¬ e ∣ n) ∧ (1002 - d').toNat < m, fun σ' H'' ⟨e1, d', e2, a, b, c, e⟩ => ⟨_, e, e1, d', e2, a, b, c, rfl⟩, by omega, ?_⟩
      refine ite2 (fun h0 => ?_) (fun h0 => ?_)
      · rw [(is_prime_loop hn h2 h4).1 hl h0] at q
        exact q
      · refine ⟨by trivial, d + 1, rfl, by omega, by omega, fun e h1 h5 => ?_, by omega⟩
        by_cases ee : e = d
        · subst ee
          exact fun z => h0 (Int.emod_eq_zero_of_dvd z)
        · exact h4 e h1 (by omega)
    · rintro σ H' ⟨rfl, d, rfl, h2, h3, h4, hl⟩
      walk_at "rd"
      rw [(is_prime_loop hn h2 h4).2 hl] at q
      exact q
/-! ### asked_prime -/
def spAskedPrime (K : PySem.W.Frag) (C : Addr) : Sp := fun vs H Q E => ∃ (v : V) (t : String), vs = [v] ∧ TyX K H v (.type t) ∧ t ∈ tys ∧ (okP v = true → Q .non H) ∧ (okP v = false → E (.ref C) none H)
theorem ok_asked_prime {f f1 f2 C_BadPrime : Addr} {fd fd1 fd2 : FuncData} {tG : Tok} (T : Blt mg) (F : Fun K "asked_prime" "asked_prime" s_asked_prime f fd) (X_BadPrime : ErrAt K mg "BadPrime" C_BadPrime) (C_GREATEST : mg "GREATEST" = some (.int 1000000 tG))
    (D_is_number : DefAt K mg "is_number" "is_number" s_is_number ["thing"] f1 fd1) (D_is_prime : DefAt K mg "is_prime" "is_prime" s_is_prime ["number"] f2 fd2) : FnOk P w K mg base (L2N.CX P w) 2 f fd ["prime"] (spAskedPrime K C_BadPrime) := by
  have G_is_number : FnOk P w K mg base CX0 1 f1 fd1 ["thing"] (spIsNum K) := ok_is_number T D_is_number.F
  have G_is_prime : FnOk P w K mg base CX0 1 f2 fd2 ["number"] spIsPrime := ok_is_prime D_is_prime.F
  refine okN F sc_asked_prime (fun vs H Q E h => ?_) (fun cdv A outer s H vs Q E hr h => ?_)
  · obtain ⟨v, t, rfl, _⟩ := h
    rfl
  · obtain ⟨v, t, rfl, ty, ht, q, qE⟩ := h
    refine ⟨_, pss_one (ps_if (PW.pt (pw_or (pt_not (pt_val (pe_call G_is_number (hr.mono (by decide)) (by rfl) D_is_number.g D_is_number.kp D_is_number.b .nil pass0 (pa_cons (pv 0) pa_nil)))) (pw_or (pt_not (pt_chain op_le op_le (pe_int) (pv 0) (pe_glob (v := .int 1000000) (by rfl) C_GREATEST ⟨_, rfl⟩))) (pw_or1 (pt_not (pt_val (pe_call G_is_prime (hr.mono (by decide)) (by rfl) D_is_prime.g D_is_prime.kp D_is_prime.b .nil pass0 (pa_cons (pv 0) pa_nil)))))))) (pss_one (L2N.ps_raise rfl (L2N.takes_of rfl rfl rfl rfl) (L2N.pmk_own PySem.F.excBase_ValueError X_BadPrime.x X_BadPrime.g X_BadPrime.kp (raises_own X_BadPrime.sb X_BadPrime.ty) rfl))) (pss_nil)), ?_⟩
    walk_at "rd"
    refine ⟨v, t, rfl, ty, ht, _, rfl, ?_⟩
    refine ite2 (fun hi => ?_) (fun hi => qE ?_)
    · obtain rfl : t = "int" := eq_of_beq hi
      obtain ⟨p, rfl⟩ := tyx_int ty
      have no : ¬ (3 ≤ p ∧ p ≤ 1000000 ∧ isP p = true) → E (.ref C_BadPrime) none H := fun z => qE (by
        cases e : okP (.int p) with
        | false => rfl
        | true =>
          simp only [okP, Bool.and_eq_true, decide_eq_true_eq] at e
          exact absurd ⟨e.1, e.2.1, e.2.2⟩ z)
      have yes : 3 ≤ p → p ≤ 1000000 → isP p = true → Q .non H := fun a b c => q (by
        simp only [okP, Bool.and_eq_true, decide_eq_true_eq]
        exact ⟨a, b, c⟩)
      walk_at "rd"
      refine ite2 (fun h3 => ?_) (fun h3 => no fun z => h3 z.1)
      refine ite2 (fun h6 => ⟨p, rfl, by omega, _, rfl, ite2 (fun e => yes h3 h6 e) (fun e => no fun z => e z.2.2)⟩) (fun h6 => no fun z => h6 z.2.1)
    · cases v with
      | int i =>
        exfalso
        cases ty with
        | base b =>
          cases b
          exact hi (by decide)
      | _ => rfl
/-! ### power -/
def spPower : Sp := fun vs H Q _ => ∃ b e p : Int, vs = [.int b, .int e, .int p] ∧ 0 ≤ e ∧ 2 ≤ p ∧ p < 2 ^ 30 ∧ Q (.int (b ^ e.toNat % p)) H
theorem power_turn {b base found p e : Int} {e0 : Nat} (h : NT.C p (found * base ^ e.toNat) (b ^ e0)) (he : 0 < e) :
    NT.C p ((if e % 2 = 1 then found * base % p else found) * (base * base % p) ^ (e / 2).toNat) (b ^ e0) := by
  have h2 : base ^ e.toNat = (if e % 2 = 1 then base else 1) * (base * base) ^ (e / 2).toNat := by
    have e1 : e.toNat = (if e % 2 = 1 then 1 else 0) + ((e / 2).toNat + (e / 2).toNat) := by split <;> omega
    have e2 : ∀ n : Nat, (base * base) ^ n = base ^ (n + n) := fun n => by
      rw [Int.pow_add, Int.mul_pow]
    rw [e2, e1, Int.pow_add]
    split
    · rw [Int.pow_succ, Int.pow_zero, Int.one_mul]
    · rw [Int.pow_zero]
  refine NT.C.trans ?_ h
  rw [h2]
  have h3 := NT.C.pow (NT.C.mod p (base * base)) (e / 2).toNat
  split
  · refine NT.C.trans (NT.C.mul (NT.C.mod p (found * base)) h3) (NT.C.of_eq (by grind))
  · refine NT.C.trans (NT.C.mul (NT.C.refl p found) h3) (NT.C.of_eq (by grind))
theorem mod_b {a p : Int} (h : 0 < p) : 0 ≤ a % p ∧ a % p < p := ⟨Int.emod_nonneg _ (by omega), Int.emod_lt_of_pos _ h⟩
theorem ok_power {f : Addr} {fd : FuncData} (F : Fun K "power" "power" s_power f fd) : FnOk P w K mg base CX0 1 f fd ["number", "often", "prime"] spPower := by
  refine F.ok sc_power (fun vs H Q E h => ?_) (fun cdv A outer s H vs Q E hr h => ?_)
  · obtain ⟨b, e, p, rfl, _⟩ := h
    rfl
  · obtain ⟨b, e, p, rfl, h0, h1, h2, q⟩ := h
    refine ⟨_, pss_cons (ps_set (i := 3) sc_power.nd rfl (by first | exact Or.inl rfl | exact Or.inr rfl) (pe_int))
      (pss_cons (ps_set (i := 4) sc_power.nd rfl (by first | exact Or.inl rfl | exact Or.inr rfl) (pe_op op_mod (pv 0) (pv 2)))
      (pss_cut (ps_while PassesOwn.never (pt_cmpR op_gt (pv 1) (pe_int) (nomark _)) (pss_cons (ps_if (pt_cmpR op_eq (pe_op op_mod (pv 1) (pe_int)) (pe_int) (nomark _)) (pss_one (ps_set (i := 3) sc_power.nd rfl (by first | exact Or.inl rfl | exact Or.inr rfl) (pe_op op_mod (pe_op op_mulB (pv 3) (pv 4)) (pv 2)))) (pss_nil))
      (pss_cons (ps_set (i := 4) sc_power.nd rfl (by first | exact Or.inl rfl | exact Or.inr rfl) (pe_op op_mod (pe_op op_mulB (pv 4) (pv 4)) (pv 2)))
      (pss_one (ps_set (i := 1) sc_power.nd rfl (by first | exact Or.inl rfl | exact Or.inr rfl) (pe_op op_fdiv (pv 1) (pe_int)))))))
      (pss_one (ps_ret (pv 3))))), ?_⟩
    walk_at "rd"
    refine ⟨by omega, fun σ H' => H' = H ∧ ∃ b' : Int, ∃ e' : Int, σ = [some (.int b), some (.int e'), some (.int p), some (.int (b ^ e.toNat % p)), some (.int b')], ?_, ?_⟩
    · refine ⟨fun m σ H' => H' = H ∧ ∃ b' e' x : Int, σ = [some (.int b), some (.int e'), some (.int p), some (.int x), some (.int b')] ∧ 0 ≤ x ∧ x < p ∧ 0 ≤ b' ∧ b' < p ∧ 0 ≤ e' ∧ NT.C p (x * b' ^ e'.toNat) (b ^ e.toNat) ∧ m = e'.toNat,
        ⟨e.toNat, rfl, b % p, e, 1, rfl, by omega, by omega, (mod_b (by omega)).1, (mod_b (by omega)).2, h0, ?_, rfl⟩, ?_⟩
      · rw [Int.one_mul]
        exact NT.C.pow (NT.C.mod p b) _
      rintro m σ H' ⟨rfl, b', e', x, rfl, x0, x1, b0, b1, e0, hc, hm⟩
      walk_at "rd"
      refine ite2 (fun hl => ?_) (fun hl => ⟨by trivial, b', e', ?_⟩)
      · have e2 : (e' / 2).toNat < m := by omega
        have e3 := power_turn hc hl
        have bb := mod_b (a := b' * b') (show 0 < p by omega)
        have xb := mod_b (a := x * b') (show 0 < p by omega)
        refine ⟨fun σ H'' => H'' = H' ∧ ∃ b' e' x : Int, σ = [some (.int b), some (.int e'), some (.int p), some (.int x), some (.int b')] ∧ 0 ≤ x ∧ x < p ∧ 0 ≤ b' ∧ b' < p ∧ 0 ≤ e' ∧ NT.C p (x * b' ^ e'.toNat) (b ^ e.toNat) ∧ e'.toNat < m, fun σ' H'' ⟨e1, b2, e2, x2, e3, a1, a2, a3, a4, a5, a6, a7⟩ => ⟨_, a7, e1, b2, e2, x2, e3, a1, a2, a3, a4, a5, a6, rfl⟩, by omega, ?_⟩
        refine ite2 (fun hb => ?_) (fun hb => ?_)
        · rw [if_pos hb] at e3
          exact ⟨mulB_small (by omega) (by omega), by omega, mulB_small (by omega) (by omega), by omega, ⟨by decide, by decide⟩, by trivial, _, _, _, rfl, xb.1, xb.2, bb.1, bb.2, by omega, e3, e2⟩
        · rw [if_neg hb] at e3
          exact ⟨mulB_small (by omega) (by omega), by omega, ⟨by decide, by decide⟩, by trivial, _, _, _, rfl, x0, x1, bb.1, bb.2, by omega, e3, e2⟩
      · have e1 : e' = 0 := by omega
        subst e1
        have : x = b ^ e.toNat % p := by
          have h3 : NT.C p x (b ^ e.toNat) := by
            have := hc
            rw [show (0 : Int).toNat = 0 from rfl, Int.pow_zero, Int.mul_one] at this
            exact this
          exact (h3.trans (NT.C.mod p _).symm).eq x0 x1 (mod_b (by omega)).1 (mod_b (by omega)).2
        rw [this]
    · rintro σ H' ⟨rfl, b', e', rfl⟩
      walk_at "rd"
      exact q
/-! ### mark_of -/
def spMarkOf : Sp := fun vs H Q _ => ∃ p n : Int, vs = [.int p, .int n] ∧ 0 < p ∧ p < 2 ^ 30 ∧ n.natAbs < 2 ^ 30 ∧ Q (.int (NT.mk p n)) H
theorem ok_mark_of {f : Addr} {fd : FuncData} (F : Fun K "mark_of" "mark_of" s_mark_of f fd) : FnOk P w K mg base CX0 1 f fd ["prime", "number"] spMarkOf := by
  refine F.ok sc_mark_of (fun vs H Q E h => ?_) (fun cdv A outer s H vs Q E hr h => ?_)
  · obtain ⟨p, n, rfl, _⟩ := h
    rfl
  · obtain ⟨p, n, rfl, h0, h1, h2, q⟩ := h
    refine ⟨_, pss_one (ps_ret (pe_op op_add (pe_op op_mulB (pe_op op_mulB (pe_int) (pv 0)) (pv 1)) (pe_op op_mod (pe_op op_mulB (pv 1) (pv 1)) (pv 0)))), ?_⟩
    walk_at "rd"
    exact ⟨mulB_small (by omega) (by omega), mulB_small (by omega) (by omega), mulB_small (by omega) (by omega), h0, q⟩
theorem rd_power {b e p : Int} {H : Hp} {Q : VK} {E : XK} : spPower [.int b, .int e, .int p] H Q E ↔ (0 ≤ e ∧ 2 ≤ p ∧ p < 2 ^ 30) ∧ Q (.int (b ^ e.toNat % p)) H :=
  ⟨fun ⟨_, _, _, h, a, b, c, q⟩ => by cases h; exact ⟨⟨a, b, c⟩, q⟩, fun ⟨⟨a, b, c⟩, q⟩ => ⟨_, _, _, rfl, a, b, c, q⟩⟩
theorem rd_markOf {p n : Int} {H : Hp} {Q : VK} {E : XK} : spMarkOf [.int p, .int n] H Q E ↔ (0 < p ∧ p < 2 ^ 30 ∧ n.natAbs < 2 ^ 30) ∧ Q (.int (NT.mk p n)) H :=
  ⟨fun ⟨_, _, h, a, b, c, q⟩ => by cases h; exact ⟨⟨a, b, c⟩, q⟩, fun ⟨⟨a, b, c⟩, q⟩ => ⟨_, _, rfl, a, b, c, q⟩⟩
theorem rd_isPrime {n : Int} {H : Hp} {Q : VK} {E : XK} : spIsPrime [.int n] H Q E ↔ n ≤ 1000000 ∧ Q (.bl (isP n)) H :=
  ⟨fun ⟨_, h, a, q⟩ => by cases h; exact ⟨a, q⟩, fun ⟨a, q⟩ => ⟨_, rfl, a, q⟩⟩
end
end Sa
local macro_rules | `(tactic| walk_at "rd") => `(tactic| ((try simp only [L2.start, L2.wipe, List.set_cons_succ, List.set_cons_zero, List.map_cons, List.map_nil, List.length_cons, List.length_nil, List.cons_append, List.nil_append, List.replicate_succ, List.replicate_zero, Nat.reduceSub, Nat.reduceAdd, Nat.zero_add]); try simp only [↓Sa.rd_seq, ↓Sa.rd_power, ↓Sa.rd_markOf,  ↓Sa.rd_next, ↓Sa.rd_brk, ↓Sa.rd_asg, ↓Sa.rp_name, ↓Sa.rp_par, ↓Sa.rd_ret, ↓Sa.rd_retN, ↓Sa.rd_drop, ↓Sa.rd_if, ↓Sa.rp_var, ↓Sa.rd_c, ↓Sa.rd_op, ↓Sa.rd_un, ↓Sa.rd_I0, ↓Sa.rd_I, ↓Sa.rd_U, ↓Sa.rd_eqI, ↓Sa.rd_neI, ↓Sa.rd_test, ↓Sa.rd_B, ↓Sa.rd_and, ↓Sa.rd_or, ↓Sa.rd_not, ↓Sa.rd_andV, ↓Sa.rd_orV, ↓Sa.rd_notV, ↓Sa.rd_ifE, ↓Sa.rd_isN, ↓Sa.rd_notN, ↓Sa.rd_chain, ↓Sa.rd_chain3, ↓Sa.rd_nil, ↓Sa.rd_cons, ↓Sa.rd_tup, ↓Sa.rd_lst, ↓Sa.rd_call, ↓Sa.rd_CB, ↓Sa.rd_ixL, ↓Sa.rd_ixT, ↓Sa.rd_sl, ↓Sa.rd_noPart, ↓Sa.rd_part, ↓Sa.rd_slL, ↓Sa.rd_sum, ↓Sa.rd_all, ↓Sa.rd_any, ↓Sa.ex_int, ↓Sa.ex_int1, ↓Sa.ex_int2, ↓Sa.rd_len, ↓Sa.ex_len, ↓Sa.ex_bl, ↓Sa.ex_two, ↓Sa.slot_z, ↓Sa.slot_n, ↓Sa.setS_z, ↓Sa.setS_n, ↓Sa.if_tt, ↓Sa.if_ff, ↓Sa.if_dec, ↓Sa.if_ndec, ↓Sa.if_nb, ↓Sa.rd_forL, ↓Sa.rd_forT, ↓Sa.rd_forR1, ↓Sa.rd_forR2, ↓Sa.rd_forR3, ↓Sa.ex_ref, ↓Sa.cx_K, ↓List.append_nil, List.length_cons, List.length_nil, Nat.reduceAdd, Nat.zero_add]))
namespace Sa
open PySem PySem.Spec PyProof.Rows L2 Evl
/-! ### how many bits a number has at most -/
def B (n : Nat) (x : Int) : Prop := x.natAbs < 2 ^ n
theorem B.mono {m n : Nat} {x : Int} (h : B m x) (l : m ≤ n) : B n x := Nat.lt_of_lt_of_le h (Nat.pow_le_pow_right (by decide) l)
theorem B.add {n : Nat} {x y : Int} (h : B n x) (g : B n y) : B (n + 1) (x + y) := by
  unfold B at *
  rw [Nat.pow_succ]
  omega
theorem B.neg {n : Nat} {x : Int} (h : B n x) : B n (-x) := by unfold B at *; omega
theorem B.sub {n : Nat} {x y : Int} (h : B n x) (g : B n y) : B (n + 1) (x - y) := by
  unfold B at *
  rw [Nat.pow_succ]
  omega
theorem B.mul {m n : Nat} {x y : Int} (h : B m x) (g : B n y) : B (m + n) (x * y) := by
  unfold B at *
  rw [Int.natAbs_mul, Nat.pow_add]
  exact Nat.mul_lt_mul'' h g
theorem B.ediv {n : Nat} {x d : Int} (h : B n x) (hd : 0 < d) : B n (x / d) := by
  unfold B at *
  have h1 : (x / d).natAbs ≤ x.natAbs := by
    rcases Int.lt_or_le x 0 with hx | hx
    · have a := Int.ediv_neg_of_neg_of_pos hx hd
      have b : x ≤ x / d := Int.le_ediv_of_mul_le hd (by
        have : x * d ≤ x * 1 := Int.mul_le_mul_of_nonpos_left (by omega) (by omega)
        omega)
      omega
    · have a := Int.ediv_nonneg hx (Int.le_of_lt hd)
      have b : x / d ≤ x := Int.ediv_le_self d hx
      omega
  omega
theorem B.small {x : Int} (h : x.natAbs < 2 ^ 62) : B 62 x := h
theorem B.bits {x : Int} {n : Nat} (h : Builtin.Int.intBits x ≤ n) : B (n + 1) x := by
  unfold B
  unfold Builtin.Int.intBits at h
  split at h
  · rename_i e
    have : x = 0 := by simpa using e
    subst this
    exact Nat.pow_pos (by decide)
  · have h1 : x.natAbs.log2 < n + 1 := by omega
    by_cases h0 : x.natAbs = 0
    · rw [h0]
      exact Nat.pow_pos (by decide)
    · exact (Nat.log2_lt h0).mp h1
theorem B.ok {m n : Nat} {x y : Int} (h : B m x) (g : B n y) (m0 : 0 < m) (n0 : 0 < n) (l : m + n ≤ 90000000) : CMulB x y := by
  have a : ∀ (k : Nat) (z : Int), 0 < k → B k z → z.natAbs.log2 < k := fun k z hk hz => by
    by_cases h0 : z.natAbs = 0
    · rw [h0]
      exact hk
    · exact (Nat.log2_lt h0).mpr hz
  have := a m x m0 h
  have := a n y n0 g
  unfold CMulB
  omega
section
variable {P : Program} {w : World} {K : PySem.W.Frag} {mg : Str → Option Value} {base : Heap}
def TellPair (R : Int → Int → Prop) (H : Hp) (Q : VK) : Prop := (∀ a b, R a b → ∀ H' q, Same H H' → H q = none → H' q = some (.tup [.int a, .int b]) → Q (.ref q) H') ∧ ((∀ a b, ¬ R a b) → ∀ H', Same H H' → Q .non H')
theorem okP_int {v : V} (h : okP v = true) : ∃ p, v = .int p ∧ 3 ≤ p ∧ p ≤ 1000000 ∧ NT.Pr p := by
  cases v with
  | int p =>
    simp only [okP, Bool.and_eq_true, decide_eq_true_eq] at h
    exact ⟨p, rfl, h.1, h.2.1, (isP_iff h.2.1).mp h.2.2⟩
  | _ => cases h
theorem tyx_num {H : Hp} {v : V} {t : String} (h : TyX K H v (.type t)) : (t == "int") = true ∨ ((t == "int") = false ∧ ∀ d, v ≠ .int d) := by
  cases hi : (t == "int") with
  | true => exact .inl rfl
  | false =>
    refine .inr ⟨rfl, fun d e => ?_⟩
    subst e
    cases h with
    | base b =>
      cases b
      exact absurd hi (by decide)
theorem same_new {H : Hp} {p : Addr} {o : HO} (h : H p = none) : Same H (upd H p o) := fun b x e => by
  rw [upd_ne (ne_of_none e h)]
  exact e
end
end Sa
local macro_rules | `(tactic| walk_at "rd") => `(tactic| ((try simp only [L2.start, L2.wipe, List.set_cons_succ, List.set_cons_zero, List.map_cons, List.map_nil, List.length_cons, List.length_nil, List.cons_append, List.nil_append, List.replicate_succ, List.replicate_zero, Nat.reduceSub, Nat.reduceAdd, Nat.zero_add]); try simp only [↓Sa.rd_seq, ↓Sa.rd_power, ↓Sa.rd_markOf,  ↓Sa.rd_next, ↓Sa.rd_brk, ↓Sa.rd_asg, ↓Sa.rp_name, ↓Sa.rp_par, ↓Sa.rd_ret, ↓Sa.rd_retN, ↓Sa.rd_drop, ↓Sa.rd_if, ↓Sa.rp_var, ↓Sa.rd_c, ↓Sa.rd_op, ↓Sa.rd_un, ↓Sa.rd_I0, ↓Sa.rd_I, ↓Sa.rd_U, ↓Sa.rd_eqI, ↓Sa.rd_neI, ↓Sa.rd_test, ↓Sa.rd_B, ↓Sa.rd_and, ↓Sa.rd_or, ↓Sa.rd_not, ↓Sa.rd_andV, ↓Sa.rd_orV, ↓Sa.rd_notV, ↓Sa.rd_ifE, ↓Sa.rd_isN, ↓Sa.rd_notN, ↓Sa.rd_chain, ↓Sa.rd_chain3, ↓Sa.rd_nil, ↓Sa.rd_cons, ↓Sa.rd_tup, ↓Sa.rd_lst, ↓Sa.rd_call, ↓Sa.rd_CB, ↓Sa.rd_ixL, ↓Sa.rd_ixT, ↓Sa.rd_sl, ↓Sa.rd_noPart, ↓Sa.rd_part, ↓Sa.rd_slL, ↓Sa.rd_sum, ↓Sa.rd_all, ↓Sa.rd_any, ↓Sa.ex_int, ↓Sa.ex_int1, ↓Sa.ex_int2, ↓Sa.rd_len, ↓Sa.ex_len, ↓Sa.ex_bl, ↓Sa.ex_two, ↓Sa.slot_z, ↓Sa.slot_n, ↓Sa.setS_z, ↓Sa.setS_n, ↓Sa.if_tt, ↓Sa.if_ff, ↓Sa.if_dec, ↓Sa.if_ndec, ↓Sa.if_nb, ↓Sa.rd_forL, ↓Sa.rd_forT, ↓Sa.rd_forR1, ↓Sa.rd_forR2, ↓Sa.rd_forR3, ↓Sa.ex_ref, ↓Sa.cx_K, ↓List.append_nil, List.length_cons, List.length_nil, Nat.reduceAdd, Nat.zero_add]))
namespace Sa
open PySem PySem.Spec PyProof.Rows L2 Evl
def rw1 (n p : Int) (H : Hp) (m : Nat) (σ : L2.St) (H' : Hp) : Prop := H' = H ∧ ∃ (odd : Int) (t : Nat), σ = [some (.int (n % p)), some (.int p), some (.int odd), some (.int (t : Int)), none, none, none, none, none, none, none] ∧ 0 < odd ∧ odd * 2 ^ t = p - 1 ∧ (1 ≤ t ∨ odd = p - 1) ∧ m = odd.toNat
def rw2 (n p odd z0 : Int) (t : Nat) (H : Hp) (m : Nat) (σ : L2.St) (H' : Hp) : Prop := H' = H ∧ ∃ z : Int, σ = [some (.int (n % p)), some (.int p), some (.int odd), some (.int (t : Int)), some (.int z), none, none, none, none, none, none] ∧ 2 ≤ z ∧ z ≤ z0 ∧ m = (z0 - z).toNat
def rw3 (n p odd z : Int) (H : Hp) (m : Nat) (σ : L2.St) (H' : Hp) : Prop := H' = H ∧ ∃ (t : Nat) (found left step : Int) (y8 y9 y10 : Option V), σ = [some (.int (n % p)), some (.int p), some (.int odd), some (.int (t : Int)), some (.int z), some (.int step), some (.int found), some (.int left), y8, y9, y10] ∧ NT.TS p (n % p) t found left step ∧ t ≤ 1000 ∧ 0 ≤ found ∧ found < p ∧ 0 ≤ left ∧ left < p ∧ 0 ≤ step ∧ step < p ∧ m = t
def rw4 (n p odd z step found left : Int) (t : Nat) (H : Hp) (m : Nat) (σ : L2.St) (H' : Hp) : Prop := H' = H ∧ ∃ (k : Nat) (now : Int) (y10 : Option V), σ = [some (.int (n % p)), some (.int p), some (.int odd), some (.int (t : Int)), some (.int z), some (.int step), some (.int found), some (.int left), some (.int (k : Int)), some (.int now), y10] ∧ 0 ≤ now ∧ now < p ∧ NT.C p now (left ^ 2 ^ k) ∧ k ≤ t - 1 ∧ (∀ j, j < k → ¬ NT.C p (left ^ 2 ^ j) 1) ∧ m = t - k
section
variable {P : Program} {w : World} {K : PySem.W.Frag} {mg : Str → Option Value} {base : Heap}
def spRoot : Sp := fun vs H Q _ => ∃ n p : Int, vs = [.int n, .int p] ∧ NT.Pr p ∧ 3 ≤ p ∧ p ≤ 1000000 ∧ (∀ r, 0 ≤ r → r < p → NT.C p (r * r) n → Q (.int r) H) ∧ ((∀ x, ¬ NT.C p (x * x) n) → Q .non H)
theorem ok_root_of {f f1 : Addr} {fd fd1 : FuncData} (F : Fun K "root_of" "root_of" s_root_of f fd) (D_power : DefAt K mg "power" "power" s_power ["number", "often", "prime"] f1 fd1) :
    FnOk P w K mg base CX0 2 f fd ["number", "prime"] spRoot := by
  have G_power : FnOk P w K mg base CX0 1 f1 fd1 ["number", "often", "prime"] spPower := ok_power D_power.F
  refine F.ok sc_root_of (fun vs H Q E h => ?_) (fun cdv A outer s H vs Q E hr h => ?_)
  · obtain ⟨n, p, rfl, _⟩ := h
    rfl
  · obtain ⟨n, p, rfl, pp, p3, p6, q, qN⟩ := h
    refine ⟨_, pss_cons (ps_set (i := 0) sc_root_of.nd rfl (by first | exact Or.inl rfl | exact Or.inr rfl) (pe_op op_mod (pv 0) (pv 1)))
      (pss_cons (ps_if (pt_cmpR op_eq (pv 0) (pe_int) (nomark _)) (pss_one (ps_ret (pe_int))) (pss_nil))
      (pss_cons (ps_if (pt_cmpR op_ne (pe_call G_power (hr.mono (by decide)) (by rfl) D_power.g D_power.kp D_power.b .nil pass0 (pa_cons (pv 0) (pa_cons (pe_op op_fdiv (pe_op op_sub (pv 1) (pe_int)) (pe_int)) (pa_cons (pv 1) pa_nil)))) (pe_int) (nomark _)) (pss_one (ps_ret (pe_non))) (pss_nil))
      (pss_cons (ps_par (i := 2) (j := 3) (by rfl) sc_root_of.nd rfl rfl (by decide) rfl rfl (pa_cons (pe_op op_sub (pv 1) (pe_int)) (pa_cons (pe_int) pa_nil)) (by rfl))
      (pss_cut (ps_while PassesOwn.never (pt_cmpR op_eq (pe_op op_mod (pv 2) (pe_int)) (pe_int) (nomark _)) (pss_one (ps_par (i := 2) (j := 3) (by rfl) sc_root_of.nd rfl rfl (by decide) rfl rfl (pa_cons (pe_op op_fdiv (pv 2) (pe_int)) (pa_cons (pe_op op_add (pv 3) (pe_int)) pa_nil)) (by rfl))))
      (pss_cons (ps_set (i := 4) sc_root_of.nd rfl (by first | exact Or.inl rfl | exact Or.inr rfl) (pe_int))
      (pss_cut (ps_while PassesOwn.never (pt_cmpR op_eq (pe_call G_power (hr.mono (by decide)) (by rfl) D_power.g D_power.kp D_power.b .nil pass0 (pa_cons (pv 4) (pa_cons (pe_op op_fdiv (pe_op op_sub (pv 1) (pe_int)) (pe_int)) (pa_cons (pv 1) pa_nil)))) (pe_int) (nomark _)) (pss_one (ps_set (i := 4) sc_root_of.nd rfl (by first | exact Or.inl rfl | exact Or.inr rfl) (pe_op op_add (pv 4) (pe_int)))))
      (pss_cons (ps_set (i := 5) sc_root_of.nd rfl (by first | exact Or.inl rfl | exact Or.inr rfl) (pe_call G_power (hr.mono (by decide)) (by rfl) D_power.g D_power.kp D_power.b .nil pass0 (pa_cons (pv 4) (pa_cons (pv 2) (pa_cons (pv 1) pa_nil)))))
      (pss_cons (ps_set (i := 6) sc_root_of.nd rfl (by first | exact Or.inl rfl | exact Or.inr rfl) (pe_call G_power (hr.mono (by decide)) (by rfl) D_power.g D_power.kp D_power.b .nil pass0 (pa_cons (pv 0) (pa_cons (pe_op op_fdiv (pe_op op_add (pv 2) (pe_int)) (pe_int)) (pa_cons (pv 1) pa_nil)))))
      (pss_cons (ps_set (i := 7) sc_root_of.nd rfl (by first | exact Or.inl rfl | exact Or.inr rfl) (pe_call G_power (hr.mono (by decide)) (by rfl) D_power.g D_power.kp D_power.b .nil pass0 (pa_cons (pv 0) (pa_cons (pv 2) (pa_cons (pv 1) pa_nil)))))
      (pss_cut (ps_while PassesOwn.never (pt_cmpR op_ne (pv 7) (pe_int) (nomark _)) (pss_cons (ps_par (i := 8) (j := 9) (by rfl) sc_root_of.nd rfl rfl (by decide) rfl rfl (pa_cons (pe_int) (pa_cons (pv 7) pa_nil)) (by rfl))
      (pss_cut (ps_while PassesOwn.never (pt_cmpR op_ne (pv 9) (pe_int) (nomark _)) (pss_one (ps_par (i := 9) (j := 8) (by rfl) sc_root_of.nd rfl rfl (by decide) rfl rfl (pa_cons (pe_op op_mod (pe_op op_mulB (pv 9) (pv 9)) (pv 1)) (pa_cons (pe_op op_add (pv 8) (pe_int)) pa_nil)) (by rfl))))
      (pss_cons (ps_set (i := 10) sc_root_of.nd rfl (by first | exact Or.inl rfl | exact Or.inr rfl) (pe_call G_power (hr.mono (by decide)) (by rfl) D_power.g D_power.kp D_power.b .nil pass0 (pa_cons (pv 5) (pa_cons (pe_op op_shl (pe_int) (pe_op op_sub (pe_op op_sub (pv 3) (pv 8)) (pe_int))) (pa_cons (pv 1) pa_nil)))))
      (pss_cons (ps_set (i := 6) sc_root_of.nd rfl (by first | exact Or.inl rfl | exact Or.inr rfl) (pe_op op_mod (pe_op op_mulB (pv 6) (pv 10)) (pv 1)))
      (pss_cons (ps_set (i := 5) sc_root_of.nd rfl (by first | exact Or.inl rfl | exact Or.inr rfl) (pe_op op_mod (pe_op op_mulB (pv 10) (pv 10)) (pv 1)))
      (pss_cons (ps_set (i := 7) sc_root_of.nd rfl (by first | exact Or.inl rfl | exact Or.inr rfl) (pe_op op_mod (pe_op op_mulB (pv 7) (pv 5)) (pv 1)))
      (pss_one (ps_set (i := 3) sc_root_of.nd rfl (by first | exact Or.inl rfl | exact Or.inr rfl) (pv 8))))))))))
      (pss_one (ps_ret (pv 6))))))))))))), ?_⟩
    walk_at "rd"
    refine ⟨by omega, ite2 (fun h0 => q 0 (Int.le_refl 0) (by omega) ?_) (fun h0 => ?_)⟩
    · exact NT.C.of_emod (by rw [h0]; rfl)
    have hnd : ¬ p ∣ n % p := fun z => h0 (by
      have := Int.emod_eq_zero_of_dvd z
      rwa [Int.emod_emod_of_dvd n (Int.dvd_refl p)] at this)
    have hnn := mod_b (a := n) (show 0 < p by omega)
    refine ⟨⟨by decide, by decide⟩, ⟨by omega, by omega, by omega⟩, ite2 (fun h1 => ?_) (fun h1 => qN fun x hx => h1 ?_)⟩
    · have e1 : NT.C p ((n % p) ^ NT.hf p) 1 := (NT.mod1 (by omega)).mp h1
      -- odd and twos
      refine ⟨fun σ H' => H' = H ∧ ∃ (odd : Int) (t : Nat), σ = [some (.int (n % p)), some (.int p), some (.int odd), some (.int (t : Int)), none, none, none, none, none, none, none] ∧ 0 < odd ∧ odd * 2 ^ t = p - 1 ∧ 1 ≤ t ∧ odd % 2 = 1, ?_, ?_⟩
      · refine ⟨rw1 n p H, ⟨_, rfl, p - 1, 0, rfl, by omega, by rw [Int.pow_zero, Int.mul_one], .inr rfl, rfl⟩, ?_⟩
        rintro m σ H' ⟨rfl, odd, t, rfl, o0, ot, o1, em⟩
        walk_at "rd"
        refine ⟨by decide, ite2 (fun hb => ⟨fun σ2 H2 => ∃ m', m' < m ∧ rw1 n p H' m' σ2 H2, fun _ _ z => z, ⟨by decide, by decide⟩, (odd / 2).toNat, by omega, rfl, odd / 2, t + 1, rfl, by omega, ?_, .inl (by omega), rfl⟩) (fun hb => ⟨by trivial, odd, t, rfl, o0, ot, ?_, by omega⟩)⟩
        · rw [← ot, Int.pow_succ]
          have : odd / 2 * 2 = odd := by omega
          rw [Int.mul_comm (2 ^ t) 2, ← Int.mul_assoc, this]
        · have := pp.odd p3
          omega
      rintro σ H' ⟨rfl, odd, t, rfl, o0, ot, t1, o2⟩
      have ht : t ≤ 1000 := by
        rcases Nat.lt_or_ge 1000 t with h | h
        · exfalso
          have a0 : 2 ^ 20 ≤ 2 ^ t := Nat.pow_le_pow_right (by decide) (by omega)
          have a1 : (2 : Int) ^ 20 ≤ 2 ^ t := by exact_mod_cast a0
          have a2 : 1 * 2 ^ t ≤ odd * 2 ^ t := Int.mul_le_mul_of_nonneg_right (by omega) (Int.le_of_lt (Int.pow_pos (by decide)))
          omega
        · exact h
      have hodd : odd ≤ p - 1 := by
        have a2 : odd * 1 ≤ odd * 2 ^ t := Int.mul_le_mul_of_nonneg_left (show (1 : Int) ≤ 2 ^ t from Int.pow_pos (by decide)) (by omega)
        omega
      walk_at "rd"
      obtain ⟨z0, z2, zp, zs⟩ := NT.strange_is pp p3
      refine ⟨fun σ H'' => H'' = H' ∧ ∃ z : Int, σ = [some (.int (n % p)), some (.int p), some (.int odd), some (.int (t : Int)), some (.int z), none, none, none, none, none, none] ∧ 2 ≤ z ∧ z < p ∧ ¬ NT.C p (z ^ NT.hf p) 1, ?_, ?_⟩
      · refine ⟨rw2 n p odd z0 t H', ⟨_, rfl, 2, rfl, by omega, z2, rfl⟩, ?_⟩
        rintro m σ H'' ⟨rfl, z, rfl, a1, a2, em⟩
        walk_at "rd"
        refine ⟨⟨by decide, by decide⟩, ⟨by omega, by omega, by omega⟩, ite2 (fun hb => ?_) (fun hb => ⟨by trivial, z, rfl, a1, by omega, fun c => hb ((NT.mod1 (by omega)).mpr c)⟩)⟩
        have hz : z ≠ z0 := fun e => zs (e ▸ (NT.mod1 (by omega)).mp hb)
        exact ⟨fun σ2 H2 => ∃ m', m' < m ∧ rw2 n p odd z0 t H'' m' σ2 H2, fun _ _ z => z, (z0 - (z + 1)).toNat, by omega, rfl, z + 1, rfl, by omega, by omega, rfl⟩
      rintro σ H'' ⟨rfl, z, rfl, a1, a2, hz⟩
      walk_at "rd"
      have hznd : ¬ p ∣ z := NT.small_nd (by omega) a2
      have TS0 := NT.TS.start pp p3 t1 o2 o0 ot e1 hznd hz
      have hm : ∀ a : Int, 0 ≤ a % p ∧ a % p < p := fun a => mod_b (by omega)
      refine ⟨⟨by omega, by omega, by omega⟩, ⟨by decide, by decide⟩, ⟨by omega, by omega, by omega⟩, ⟨by omega, by omega, by omega⟩, fun σ H3 => H3 = H'' ∧ ∃ (found : Int) (y2 y3 y4 y5 y7 y8 y9 y10 : Option V), σ = [some (.int (n % p)), some (.int p), y2, y3, y4, y5, some (.int found), y7, y8, y9, y10] ∧ 0 ≤ found ∧ found < p ∧ NT.C p (found * found) (n % p), ?_, ?_⟩
      · refine ⟨rw3 n p odd z H'', ⟨_, rfl, t, _, _, _, _, _, _, rfl, TS0, ht, (hm _).1, (hm _).2, (hm _).1, (hm _).2, (hm _).1, (hm _).2, rfl⟩, ?_⟩
        rintro m σ H3 ⟨rfl, t, found, left, step, y8, y9, y10, rfl, ts, t3, f0, f1, l0, l1, s0, s1, em⟩
        walk_at "rd"
        refine ite2 (fun hb => ⟨by trivial, found, _, _, _, _, _, _, _, _, rfl, f0, f1, ?_⟩) (fun hl => ?_)
        · subst hb
          exact ts.done
        have tt1 := ts.t1
        refine ⟨fun σ2 H2 => ∃ m', m' < m ∧ rw3 n p odd z H3 m' σ2 H2, fun _ _ z => z, fun σ H4 => H4 = H3 ∧ ∃ (k : Nat) (y10 : Option V), σ = [some (.int (n % p)), some (.int p), some (.int odd), some (.int (t : Int)), some (.int z), some (.int step), some (.int found), some (.int left), some (.int (k : Int)), some (.int 1), y10] ∧ 1 ≤ k ∧ k ≤ t - 1 ∧ NT.C p (left ^ 2 ^ k) 1 ∧ ¬ NT.C p (left ^ 2 ^ (k - 1)) 1, ?_, ?_⟩
        · refine ⟨rw4 n p odd z step found left t H3, ⟨_, rfl, 0, left, _, rfl, l0, l1, ?_, by omega, fun j hj => absurd hj (Nat.not_lt_zero j), rfl⟩, ?_⟩
          · exact NT.C.of_eq (by rw [Nat.pow_zero, Int.pow_succ, Int.pow_zero, Int.one_mul])
          rintro m σ H4 ⟨rfl, k, now, y10, rfl, n0, n1, hnow, hk, hj, em⟩
          walk_at "rd"
          refine ite2 (fun hb => ?_) (fun hb => ?_)
          · subst hb
            have k1 : 1 ≤ k := by
              rcases Nat.eq_zero_or_pos k with h | h
              · exfalso
                subst h
                have c := hnow
                rw [Nat.pow_zero, Int.pow_succ, Int.pow_zero, Int.one_mul] at c
                exact hl (c.symm.eq l0 l1 (by omega) (by omega))
              · exact h
            exact ⟨by trivial, k, _, rfl, k1, hk, hnow.symm, hj (k - 1) (by omega)⟩
          · have hnow1 : ¬ NT.C p (left ^ 2 ^ k) 1 := fun c => hb ((hnow.trans c).eq n0 n1 (by omega) (by omega))
            have hkt : k ≠ t - 1 := fun e => hnow1 (e ▸ ts.l)
            refine ⟨fun σ2 H2 => ∃ m', m' < m ∧ rw4 n p odd z step found left t H4 m' σ2 H2, fun _ _ z => z, mulB_small (by omega) (by omega), by omega, t - (k + 1), by omega, rfl, k + 1, now * now % p, _, rfl, (hm _).1, (hm _).2, ?_, by omega, fun j hj2 => ?_, rfl⟩
            · refine (NT.C.mod p _).trans ((NT.C.mul hnow hnow).trans (NT.C.of_eq ?_))
              rw [← Int.pow_add, Nat.pow_succ, Nat.mul_two]
            · by_cases e : j = k
              · subst e
                exact hnow1
              · exact hj j (by omega)
        · rintro σ H4 ⟨rfl, k, y10, rfl, k1, k2, hk, hk1⟩
          walk_at "rd"
          have e5 : (1 : Int) * 2 ^ ((t : Int) - (k : Int) - 1).toNat = 2 ^ (t - k - 1) := by
            rw [Int.one_mul, show ((t : Int) - (k : Int) - 1).toNat = t - k - 1 by omega]
          have e6 : ((1 : Int) * 2 ^ ((t : Int) - (k : Int) - 1).toNat).toNat = 2 ^ (t - k - 1) := by
            rw [e5]
            have : (2 : Int) ^ (t - k - 1) = ((2 ^ (t - k - 1) : Nat) : Int) := by rw [Int.natCast_pow]; rfl
            rw [this, Int.toNat_natCast]
          have e7 : (0 : Int) ≤ 1 * 2 ^ ((t : Int) - (k : Int) - 1).toNat := by
            rw [e5]
            exact Int.le_of_lt (Int.pow_pos (by decide))
          have ts2 := ts.turn pp p3 k1 k2 hk hk1 (part := step ^ 2 ^ (t - k - 1) % p) rfl
          rw [e6]
          have h1 := hm (step ^ 2 ^ (t - k - 1))
          have h2 := hm (step ^ 2 ^ (t - k - 1) % p * (step ^ 2 ^ (t - k - 1) % p))
          exact ⟨⟨by omega, by omega, by decide⟩, ⟨e7, by omega, by omega⟩, mulB_small (by omega) (by omega), by omega, mulB_small (by omega) (by omega), by omega, mulB_small (by omega) (by omega), by omega, k, by omega, rfl, k, _, _, _, _, _, _, rfl, ts2, by omega, (hm _).1, (hm _).2, (hm _).1, (hm _).2, (hm _).1, (hm _).2, rfl⟩
      · rintro σ H3 ⟨rfl, found, y2, y3, y4, y5, y7, y8, y9, y10, rfl, f0, f1, hf⟩
        walk_at "rd"
        exact q found f0 f1 (hf.trans (NT.C.mod p n))
    · have := NT.euler_sq pp p3 hnd (hx.trans (NT.C.mod p n).symm)
      exact (NT.mod1 (by omega)).mpr this
end
end Sa
local macro_rules | `(tactic| walk_at "rd") => `(tactic| ((try simp only [L2.start, L2.wipe, List.set_cons_succ, List.set_cons_zero, List.map_cons, List.map_nil, List.length_cons, List.length_nil, List.cons_append, List.nil_append, List.replicate_succ, List.replicate_zero, Nat.reduceSub, Nat.reduceAdd, Nat.zero_add]); try simp only [↓Sa.rd_seq, ↓Sa.rd_power, ↓Sa.rd_markOf,  ↓Sa.rd_next, ↓Sa.rd_brk, ↓Sa.rd_asg, ↓Sa.rp_name, ↓Sa.rp_par, ↓Sa.rd_ret, ↓Sa.rd_retN, ↓Sa.rd_drop, ↓Sa.rd_if, ↓Sa.rp_var, ↓Sa.rd_c, ↓Sa.rd_op, ↓Sa.rd_un, ↓Sa.rd_I0, ↓Sa.rd_I, ↓Sa.rd_U, ↓Sa.rd_eqI, ↓Sa.rd_neI, ↓Sa.rd_test, ↓Sa.rd_B, ↓Sa.rd_and, ↓Sa.rd_or, ↓Sa.rd_not, ↓Sa.rd_andV, ↓Sa.rd_orV, ↓Sa.rd_notV, ↓Sa.rd_ifE, ↓Sa.rd_isN, ↓Sa.rd_notN, ↓Sa.rd_chain, ↓Sa.rd_chain3, ↓Sa.rd_nil, ↓Sa.rd_cons, ↓Sa.rd_tup, ↓Sa.rd_lst, ↓Sa.rd_call, ↓Sa.rd_CB, ↓Sa.rd_ixL, ↓Sa.rd_ixT, ↓Sa.rd_sl, ↓Sa.rd_noPart, ↓Sa.rd_part, ↓Sa.rd_slL, ↓Sa.rd_sum, ↓Sa.rd_all, ↓Sa.rd_any, ↓Sa.ex_int, ↓Sa.ex_int1, ↓Sa.ex_int2, ↓Sa.rd_len, ↓Sa.ex_len, ↓Sa.ex_bl, ↓Sa.ex_two, ↓Sa.slot_z, ↓Sa.slot_n, ↓Sa.setS_z, ↓Sa.setS_n, ↓Sa.if_tt, ↓Sa.if_ff, ↓Sa.if_dec, ↓Sa.if_ndec, ↓Sa.if_nb, ↓Sa.rd_forL, ↓Sa.rd_forT, ↓Sa.rd_forR1, ↓Sa.rd_forR2, ↓Sa.rd_forR3, ↓Sa.ex_ref, ↓Sa.cx_K, ↓List.append_nil, List.length_cons, List.length_nil, Nat.reduceAdd, Nat.zero_add]))
namespace Sa
open PySem PySem.Spec PyProof.Rows L2 Evl
section
variable {P : Program} {w : World} {K : PySem.W.Frag} {mg : Str → Option Value} {base : Heap}
def spMark (K : PySem.W.Frag) (CP CN : Addr) : Sp := fun vs H Q E => ∃ (v u : V) (t t' : String), vs = [v, u] ∧ TyX K H v (.type t) ∧ t ∈ tys ∧ TyX K H u (.type t') ∧ t' ∈ tys ∧
  (okP v = false → E (.ref CP) none H) ∧ (okP v = true → ((∀ d, u ≠ .int d) → E (.ref CN) none H) ∧ ∀ p n, v = .int p → u = .int n → (¬ (0 ≤ n ∧ n < p) → E (.ref CN) none H) ∧ (0 ≤ n → n < p → Q (.int (NT.mk p n)) H))
def spNumberOf (K : PySem.W.Frag) (CP CN CK : Addr) : Sp := fun vs H Q E => ∃ (v u : V) (t t' : String), vs = [v, u] ∧ TyX K H v (.type t) ∧ t ∈ tys ∧ TyX K H u (.type t') ∧ t' ∈ tys ∧
  (okP v = false → E (.ref CP) none H) ∧ (okP v = true → ((∀ d, u ≠ .int d) → E (.ref CN) none H) ∧ ∀ p x, v = .int p → u = .int x → (∀ n, 0 ≤ n → n < p → NT.mk p n = x → Q (.int n) H) ∧ ((∀ n, 0 ≤ n → n < p → NT.mk p n ≠ x) → E (.ref CK) none H))
def spTwoOf (K : PySem.W.Frag) (CP CN : Addr) : Sp := fun vs H Q E => ∃ (v u : V) (t t' : String), vs = [v, u] ∧ TyX K H v (.type t) ∧ t ∈ tys ∧ TyX K H u (.type t') ∧ t' ∈ tys ∧
  (okP v = false → E (.ref CP) none H) ∧ (okP v = true → ((∀ d, u ≠ .int d) → E (.ref CN) none H) ∧ ∀ p d, v = .int p → u = .int d → B 40000000 d ∧ TellPair (NT.PairS p d) H Q)
theorem ok_mark {f f1 f2 f3 C_BadPrime C_BadNumber : Addr} {fd fd1 fd2 fd3 : FuncData} (F : Fun K "mark" "mark" s_mark f fd) (X_BadNumber : ErrAt K mg "BadNumber" C_BadNumber)
    (D_is_number : DefAt K mg "is_number" "is_number" s_is_number ["thing"] f1 fd1) (G_is_number : FnOk P w K mg base CX0 1 f1 fd1 ["thing"] (spIsNum K)) (D_asked_prime : DefAt K mg "asked_prime" "asked_prime" s_asked_prime ["prime"] f2 fd2) (G_asked_prime : FnOk P w K mg base (L2N.CX P w) 2 f2 fd2 ["prime"] (spAskedPrime K C_BadPrime))
    (D_mark_of : DefAt K mg "mark_of" "mark_of" s_mark_of ["prime", "number"] f3 fd3) (G_mark_of : FnOk P w K mg base CX0 1 f3 fd3 ["prime", "number"] spMarkOf) :
    FnOk P w K mg base (L2N.CX P w) 3 f fd ["prime", "number"] (spMark K C_BadPrime C_BadNumber) := by
  refine okN F sc_mark (fun vs H Q E h => ?_) (fun cdv A outer s H vs Q E hr h => ?_)
  · obtain ⟨v, u, t, t', rfl, _⟩ := h
    rfl
  · obtain ⟨v, u, t, t', rfl, ty, ht, ty', ht', hE, hQ⟩ := h
    refine ⟨_, pss_cons (ps_expr (pe_call G_asked_prime (hr.mono (by decide)) (by rfl) D_asked_prime.g D_asked_prime.kp D_asked_prime.b .nil (L2N.passes_call (L2N.takes_of rfl rfl rfl rfl) (fun _ _ _ _ h => h)) (pa_cons (pv 0) pa_nil)))
      (pss_cons (ps_if (PW.pt (pw_or (pt_not (pt_val (pe_call G_is_number (hr.mono (by decide)) (by rfl) D_is_number.g D_is_number.kp D_is_number.b .nil pass0 (pa_cons (pv 1) pa_nil)))) (pw_or1 (pt_not (pt_chain op_le op_lt (pe_int) (pv 1) (pv 0)))))) (pss_one (L2N.ps_raise rfl (L2N.takes_of rfl rfl rfl rfl) (L2N.pmk_own PySem.F.excBase_ValueError X_BadNumber.x X_BadNumber.g X_BadNumber.kp (raises_own X_BadNumber.sb X_BadNumber.ty) rfl))) (pss_nil))
      (pss_one (ps_ret (pe_call G_mark_of (hr.mono (by decide)) (by rfl) D_mark_of.g D_mark_of.kp D_mark_of.b .nil pass0 (pa_cons (pv 0) (pa_cons (pv 1) pa_nil)))))), ?_⟩
    walk_at "rd"
    refine ⟨v, t, rfl, ty, ht, fun hv => ?_, hE⟩
    obtain ⟨h2, h3⟩ := hQ hv
    obtain ⟨p, rfl, p3, p6, hp⟩ := okP_int hv
    refine ⟨u, t', rfl, ty', ht', _, rfl, ?_⟩
    rcases tyx_num ty' with e | ⟨e, hn⟩
    · rw [e]
      obtain rfl : t' = "int" := eq_of_beq e
      obtain ⟨d, rfl⟩ := tyx_int ty'
      obtain ⟨k1, k2⟩ := h3 p d rfl rfl
      refine iteT ?_
      walk_at "rd"
      exact ite2 (fun a => ite2 (fun b => ⟨⟨by omega, by omega, by omega⟩, k2 a b⟩) (fun b => k1 fun z => b z.2)) (fun a => k1 fun z => a z.1)
    · rw [e]
      exact iteF (h2 hn)
theorem ok_number_of {f f1 f2 f3 C_BadPrime C_BadNumber C_NoMark : Addr} {fd fd1 fd2 fd3 : FuncData} (F : Fun K "number_of" "number_of" s_number_of f fd) (X_BadNumber : ErrAt K mg "BadNumber" C_BadNumber) (X_NoMark : ErrAt K mg "NoMark" C_NoMark)
    (D_is_number : DefAt K mg "is_number" "is_number" s_is_number ["thing"] f1 fd1) (G_is_number : FnOk P w K mg base CX0 1 f1 fd1 ["thing"] (spIsNum K)) (D_asked_prime : DefAt K mg "asked_prime" "asked_prime" s_asked_prime ["prime"] f2 fd2) (G_asked_prime : FnOk P w K mg base (L2N.CX P w) 2 f2 fd2 ["prime"] (spAskedPrime K C_BadPrime))
    (D_mark_of : DefAt K mg "mark_of" "mark_of" s_mark_of ["prime", "number"] f3 fd3) (G_mark_of : FnOk P w K mg base CX0 1 f3 fd3 ["prime", "number"] spMarkOf) :
    FnOk P w K mg base (L2N.CX P w) 3 f fd ["prime", "found"] (spNumberOf K C_BadPrime C_BadNumber C_NoMark) := by
  refine okN F sc_number_of (fun vs H Q E h => ?_) (fun cdv A outer s H vs Q E hr h => ?_)
  · obtain ⟨v, u, t, t', rfl, _⟩ := h
    rfl
  · obtain ⟨v, u, t, t', rfl, ty, ht, ty', ht', hE, hQ⟩ := h
    refine ⟨_, pss_cons (ps_expr (pe_call G_asked_prime (hr.mono (by decide)) (by rfl) D_asked_prime.g D_asked_prime.kp D_asked_prime.b .nil (L2N.passes_call (L2N.takes_of rfl rfl rfl rfl) (fun _ _ _ _ h => h)) (pa_cons (pv 0) pa_nil)))
      (pss_cons (ps_if (pt_not (pt_val (pe_call G_is_number (hr.mono (by decide)) (by rfl) D_is_number.g D_is_number.kp D_is_number.b .nil pass0 (pa_cons (pv 1) pa_nil)))) (pss_one (L2N.ps_raise rfl (L2N.takes_of rfl rfl rfl rfl) (L2N.pmk_own PySem.F.excBase_ValueError X_BadNumber.x X_BadNumber.g X_BadNumber.kp (raises_own X_BadNumber.sb X_BadNumber.ty) rfl))) (pss_nil))
      (pss_cons (ps_set (i := 2) sc_number_of.nd rfl (by first | exact Or.inl rfl | exact Or.inr rfl) (pe_op op_fdiv (pv 1) (pe_op op_mulB (pe_int) (pv 0))))
      (pss_cons (ps_if (PW.pt (pw_or (pt_not (pt_chain op_le op_lt (pe_int) (pv 2) (pv 0))) (pw_or1 (pt_cmpR op_ne (pe_call G_mark_of (hr.mono (by decide)) (by rfl) D_mark_of.g D_mark_of.kp D_mark_of.b .nil pass0 (pa_cons (pv 0) (pa_cons (pv 2) pa_nil))) (pv 1) (nomark _))))) (pss_one (L2N.ps_raise rfl (L2N.takes_of rfl rfl rfl rfl) (L2N.pmk_own PySem.F.excBase_ValueError X_NoMark.x X_NoMark.g X_NoMark.kp (raises_own X_NoMark.sb X_NoMark.ty) rfl))) (pss_nil))
      (pss_one (ps_ret (pv 2)))))), ?_⟩
    walk_at "rd"
    refine ⟨v, t, rfl, ty, ht, fun hv => ?_, hE⟩
    obtain ⟨h2, h3⟩ := hQ hv
    obtain ⟨p, rfl, p3, p6, hp⟩ := okP_int hv
    refine ⟨u, t', rfl, ty', ht', _, rfl, ?_⟩
    rcases tyx_num ty' with e | ⟨e, hn⟩
    · rw [e]
      obtain rfl : t' = "int" := eq_of_beq e
      obtain ⟨d, rfl⟩ := tyx_int ty'
      obtain ⟨k1, k2⟩ := h3 p d rfl rfl
      refine iteT ?_
      walk_at "rd"
      refine ⟨mulB_small (by omega) (by omega), ⟨by omega, by omega⟩, ?_⟩
      obtain ⟨n, en⟩ : ∃ n, n = d / (2 * p) := ⟨_, rfl⟩
      rw [← en]
      have no : (0 ≤ n → n < p → NT.mk p n ≠ d) → E (.ref C_NoMark) none H := fun z => k2 fun m m0 m1 e => by
        have := NT.mk_div (n := m) (show 0 < p by omega)
        rw [e, ← en] at this
        subst this
        exact z m0 m1 e
      exact ite2 (fun a => ite2 (fun b => ⟨⟨by omega, by omega, by omega⟩, ite2 (fun c => k1 n a b c) (fun c => no fun _ _ => c)⟩) (fun b => no fun _ z => absurd z b)) (fun a => no fun z => absurd z a)
    · rw [e]
      exact iteF (h2 hn)
theorem ok_two_of {f f1 f2 f3 f4 f5 C_BadPrime C_BadNumber : Addr} {fd fd1 fd2 fd3 fd4 fd5 : FuncData} (T : Blt mg) (F : Fun K "two_of" "two_of" s_two_of f fd) (X_BadNumber : ErrAt K mg "BadNumber" C_BadNumber)
    (D_is_number : DefAt K mg "is_number" "is_number" s_is_number ["thing"] f1 fd1) (G_is_number : FnOk P w K mg base CX0 1 f1 fd1 ["thing"] (spIsNum K)) (D_asked_prime : DefAt K mg "asked_prime" "asked_prime" s_asked_prime ["prime"] f2 fd2) (G_asked_prime : FnOk P w K mg base (L2N.CX P w) 2 f2 fd2 ["prime"] (spAskedPrime K C_BadPrime))
    (D_power : DefAt K mg "power" "power" s_power ["number", "often", "prime"] f3 fd3) (G_power : FnOk P w K mg base CX0 1 f3 fd3 ["number", "often", "prime"] spPower) (D_mark_of : DefAt K mg "mark_of" "mark_of" s_mark_of ["prime", "number"] f4 fd4) (G_mark_of : FnOk P w K mg base CX0 1 f4 fd4 ["prime", "number"] spMarkOf)
    (D_root_of : DefAt K mg "root_of" "root_of" s_root_of ["number", "prime"] f5 fd5) (G_root_of : FnOk P w K mg base CX0 2 f5 fd5 ["number", "prime"] spRoot) :
    FnOk P w K mg base (L2N.CX P w) 3 f fd ["prime", "total"] (spTwoOf K C_BadPrime C_BadNumber) := by
  refine okN F sc_two_of (fun vs H Q E h => ?_) (fun cdv A outer s H vs Q E hr h => ?_)
  · obtain ⟨v, u, t, t', rfl, _⟩ := h
    rfl
  · obtain ⟨v, u, t, t', rfl, ty, ht, ty', ht', hE, hQ⟩ := h
    refine ⟨_, pss_cons (ps_expr (pe_call G_asked_prime (hr.mono (by decide)) (by rfl) D_asked_prime.g D_asked_prime.kp D_asked_prime.b .nil (L2N.passes_call (L2N.takes_of rfl rfl rfl rfl) (fun _ _ _ _ h => h)) (pa_cons (pv 0) pa_nil)))
      (pss_cons (ps_if (pt_not (pt_val (pe_call G_is_number (hr.mono (by decide)) (by rfl) D_is_number.g D_is_number.kp D_is_number.b .nil pass0 (pa_cons (pv 1) pa_nil)))) (pss_one (L2N.ps_raise rfl (L2N.takes_of rfl rfl rfl rfl) (L2N.pmk_own PySem.F.excBase_ValueError X_BadNumber.x X_BadNumber.g X_BadNumber.kp (raises_own X_BadNumber.sb X_BadNumber.ty) rfl))) (pss_nil))
      (pss_cons (ps_set (i := 2) sc_two_of.nd rfl (by first | exact Or.inl rfl | exact Or.inr rfl) (pe_op op_fdiv (pv 1) (pe_op op_mulB (pe_int) (pv 0))))
      (pss_cons (ps_set (i := 3) sc_two_of.nd rfl (by first | exact Or.inl rfl | exact Or.inr rfl) (pe_call G_power (hr.mono (by decide)) (by rfl) D_power.g D_power.kp D_power.b .nil pass0 (pa_cons (pe_int) (pa_cons (pe_op op_sub (pv 0) (pe_int)) (pa_cons (pv 0) pa_nil)))))
      (pss_cons (ps_set (i := 4) sc_two_of.nd rfl (by first | exact Or.inl rfl | exact Or.inr rfl) (pe_call G_root_of (hr.mono (by decide)) (by rfl) D_root_of.g D_root_of.kp D_root_of.b .nil pass0 (pa_cons (pe_op op_sub (pe_op op_mulB (pe_int) (pe_op op_mod (pv 1) (pe_op op_mulB (pe_int) (pv 0)))) (pe_op op_mulB (pv 2) (pv 2))) (pa_cons (pv 0) pa_nil))))
      (pss_cons (ps_if (pt_cmp (pc_isN (pv 4))) (pss_one (ps_ret (pe_non))) (pss_nil))
      (pss_cut (ps_for PassesOwn.leaving rfl (pi_tup (pe_tup (pa_cons (pe_int) (pa_cons (pe_un un_neg (pe_int)) pa_nil)))) (pg_name (i := 5) sc_two_of.nd rfl (by first | exact Or.inl rfl | exact Or.inr rfl)) (pss_cut (ps_set (i := 6) sc_two_of.nd rfl (by first | exact Or.inl rfl | exact Or.inr rfl) (pe_op op_mod (pe_op op_mulB (pe_op op_add (pv 2) (pe_op op_mulB (pv 5) (pv 4))) (pv 3)) (pv 0)))
      (pss_one (ps_for PassesOwn.leaving rfl (pi_tup (pe_tup (pa_cons (pe_op op_sub (pv 2) (pv 6)) (pa_cons (pv 6) pa_nil)))) (pg_name (i := 7) sc_two_of.nd rfl (by first | exact Or.inl rfl | exact Or.inr rfl)) (pss_one (ps_if (PW.pt (pw_and (pt_chain op_le op_lt (pe_int) (pv 7) (pv 0)) (pw_and1 (pt_chain op_le op_lt (pe_int) (pe_op op_sub (pv 2) (pv 7)) (pv 0))))) (pss_one (ps_if (pt_cmpR op_eq (pe_op op_add (pe_call G_mark_of (hr.mono (by decide)) (by rfl) D_mark_of.g D_mark_of.kp D_mark_of.b .nil pass0 (pa_cons (pv 0) (pa_cons (pv 7) pa_nil))) (pe_call G_mark_of (hr.mono (by decide)) (by rfl) D_mark_of.g D_mark_of.kp D_mark_of.b .nil pass0 (pa_cons (pv 0) (pa_cons (pe_op op_sub (pv 2) (pv 7)) pa_nil)))) (pv 1) (nomark _)) (pss_one (ps_ret (pe_tup (pa_cons (pe_callB (call_min2 rfl) (by rfl) T.b_min (by decide +kernel) (pa_cons (pv 7) (pa_cons (pe_op op_sub (pv 2) (pv 7)) pa_nil))) (pa_cons (pe_callB (call_max2 rfl) (by rfl) T.b_max (by decide +kernel) (pa_cons (pv 7) (pa_cons (pe_op op_sub (pv 2) (pv 7)) pa_nil))) pa_nil))))) (pss_nil))) (pss_nil)))))))
      (pss_one (ps_ret (pe_non))))))))), ?_⟩
    walk_at "rd"
    refine ⟨v, t, rfl, ty, ht, fun hv => ?_, hE⟩
    obtain ⟨h2, h3⟩ := hQ hv
    obtain ⟨p, rfl, p3, p6, hp⟩ := okP_int hv
    refine ⟨u, t', rfl, ty', ht', _, rfl, ?_⟩
    rcases tyx_num ty' with e | ⟨e, hn⟩
    · rw [e]
      obtain rfl : t' = "int" := eq_of_beq e
      obtain ⟨d, rfl⟩ := tyx_int ty'
      obtain ⟨hB, k1, k2⟩ := h3 p d rfl rfl
      refine iteT ?_
      walk_at "rd"
      have hBb : B 40000000 (d / (2 * p)) := hB.ediv (by omega)
      have hd := mod_b (a := d) (show 0 < 2 * p by omega)
      refine ⟨mulB_small (by omega) (by omega), ⟨by omega, by omega⟩, ⟨by omega, by omega, by omega⟩, mulB_small (by omega) (by omega), by omega, mulB_small (by omega) (by omega), hBb.ok hBb (by decide) (by decide) (by decide), ?_⟩
      obtain ⟨both, eb⟩ : ∃ b, b = d / (2 * p) := ⟨_, rfl⟩
      obtain ⟨rest, er⟩ : ∃ r, r = d % (2 * p) := ⟨_, rfl⟩
      obtain ⟨half, eh⟩ : ∃ h, h = (2 : Int) ^ (p - 2).toNat % p := ⟨_, rfl⟩
      have hh := mod_b (a := (2 : Int) ^ (p - 2).toNat) (show 0 < p by omega)
      rw [← eh] at hh
      rw [← eb] at hBb
      rw [← eb, ← er, ← eh]
      have parts : ∀ a b, NT.PairS p d a b → both = a + b ∧ rest = a * a % p + b * b % p := fun a b z => by
        have := NT.sum_parts (show 0 < p by omega) z.2.2.2
        rw [← eb, ← er] at this
        exact this
      have sq : ∀ a b, NT.PairS p d a b → NT.C p ((a - b) * (a - b)) (2 * rest - both * both) := fun a b z => by
        obtain ⟨e1, e2⟩ := parts a b z
        rw [e1, e2]
        exact NT.sum_sq.symm
      refine ⟨2 * rest - both * both, p, rfl, hp, p3, p6, fun r r0 r1 hr => ?_, fun hno => (if_pos rfl).mpr (k2 (fun a b z => hno _ (sq a b z)) H (Same.refl H))⟩
      refine (if_neg (by intro z; cases z)).mpr ⟨fun σ H' => Same H H' ∧ ∀ a b, ¬ NT.PairS p d a b, ?_, fun σ H' ⟨s, no⟩ => k2 no H' s⟩
      refine for_dispT (n := 2) (I := IInts [1, -1]) (fun _ _ _ _ h => h) (fun xs _ h => by rw [show xs = _ from h]; rfl) (by decide) (al_consI ee_c (al_consI (ee_U ee_c) al_nilI))
        (fun i σ H' => Same H H' ∧ (1 ≤ i → ∀ a b, ¬ NT.PairS p d a b) ∧ ∃ y5 y6 y7, σ = [some (.int p), some (.int d), some (.int both), some (.int half), some (.int r), y5, y6, y7])
        (fun H1 s => ⟨s, fun z => absurd z (by decide), _, _, _, rfl⟩) ?_ (fun σ H' s h => ⟨h.1, h.2.1 (by decide)⟩)
      rintro Hf l sf i x xs σ' H' hx hi sH hI ⟨s, hno, y5, y6, y7, rfl⟩
      have hI' : xs = [V.int 1, V.int (-1)] := hI
      obtain ⟨sg, rfl, hsg⟩ : ∃ sg : Int, x = .int sg ∧ (i = 0 ∧ sg = 1 ∨ 1 ≤ i ∧ sg = -1) := by
        rw [hI'] at hx
        match i, hx with
        | 0, hx => cases hx; exact ⟨1, rfl, .inl ⟨rfl, rfl⟩⟩
        | 1, hx => cases hx; exact ⟨-1, rfl, .inr ⟨by decide, rfl⟩⟩
        | n + 2, hx => simp at hx
      refine ⟨fun σ H'' => H'' = H' ∧ σ = [some (.int p), some (.int d), some (.int both), some (.int half), some (.int r), some (.int sg), some (.int ((both + sg * r) * half % p)), y7], ?_, ?_⟩
      · walk_at "rd"
        have hsr : (sg * r).natAbs < 2 ^ 62 := by
          rcases hsg with ⟨_, rfl⟩ | ⟨_, rfl⟩ <;> omega
        exact ⟨mulB_small (by omega) (by omega), ((hBb.add ((B.small hsr).mono (by decide))).ok (B.small (x := half) (by omega)) (by decide) (by decide) (by decide)), by omega, by trivial, by trivial⟩
      rintro σ H'' ⟨rfl, rfl⟩
      obtain ⟨one, eo⟩ : ∃ o, o = (both + sg * r) * half % p := ⟨_, rfl⟩
      rw [← eo]
      refine for_dispT (n := 2) (I := IInts [both - one, one]) (fun _ _ _ _ h => h) (fun xs _ h => by rw [show xs = _ from h]; rfl) (by decide) (al_consI (ee_I0 (ee_var rfl) (ee_var rfl)) (al_consI (ee_var rfl) al_nilI))
        (fun j σ H' => Same H'' H' ∧ (1 ≤ j → ∀ a b, ¬ NT.PairS p d a b) ∧ ∃ y7, σ = [some (.int p), some (.int d), some (.int both), some (.int half), some (.int r), some (.int sg), some (.int one), y7])
        (fun H1 s => ⟨s, fun z => absurd z (by decide), _, rfl⟩) ?_ (fun σ H' s4 ⟨s5, no, y7, e⟩ => ⟨sH.trans s4, s.trans s4, fun _ => no (by decide), _, _, _, e⟩)
      rintro Hg l2 sg2 j x2 xs2 σ2 H2 hx2 hj sH2 hI2 ⟨s2, hno2, y7, rfl⟩
      have hI2' : xs2 = [V.int (both - one), V.int one] := hI2
      obtain ⟨o, rfl, ho⟩ : ∃ o : Int, x2 = .int o ∧ (j = 0 ∧ o = both - one ∨ 1 ≤ j) := by
        rw [hI2'] at hx2
        match j, hx2 with
        | 0, hx2 => cases hx2; exact ⟨_, rfl, .inl ⟨rfl, rfl⟩⟩
        | 1, hx2 => cases hx2; exact ⟨_, rfl, .inr (by decide)⟩
        | n + 2, hx2 => simp at hx2
      have nxt : ¬ (0 ≤ o ∧ o < p ∧ 0 ≤ both - o ∧ both - o < p ∧ NT.mk p o + NT.mk p (both - o) = d) → ∀ a b, ¬ NT.PairS p d a b := fun hf a b z => by
        rcases ho with ⟨rfl, rfl⟩ | ho
        · rcases hsg with ⟨rfl, rfl⟩ | ⟨hsg, _⟩
          · have h1 := NT.sum_one hp p3 z.1 (by have := z.2.1; have := z.2.2.1; omega) (by have := z.1; have := z.2.1; omega) z.2.2.1 (hr.trans (sq a b z).symm)
            rw [← (parts a b z).1, ← eh, ← eo] at h1
            have h2 := (parts a b z).1
            have h3 := z.1
            have h4 := z.2.1
            have h5 := z.2.2.1
            have h6 := z.2.2.2
            rcases h1 with h1 | h1
            · refine hf ⟨by omega, by omega, by omega, by omega, ?_⟩
              rw [show both - (both - one) = a by omega, show both - one = b by omega, Int.add_comm]
              exact h6
            · refine hf ⟨by omega, by omega, by omega, by omega, ?_⟩
              rw [show both - (both - one) = b by omega, show both - one = a by omega]
              exact h6
          · exact hno hsg a b z
        · exact hno2 ho a b z
      have s3 := s.trans s2
      walk_at "rd"
      refine ite2 (fun c1 => ite2 (fun c2 => ite2 (fun c3 => ite2 (fun c4 => ?_) (fun c4 => ?_)) (fun c3 => ?_)) (fun c2 => ?_)) (fun c1 => ?_)
      · refine ⟨⟨by omega, by omega, by omega⟩, ⟨by omega, by omega, by omega⟩, ite2 (fun c5 => ?_) (fun c5 => ?_)⟩
        · refine ⟨by decide, fun q hq => k1 _ _ ?_ _ q (s3.trans (same_new hq)) (s3.free hq) upd_same⟩
          by_cases hlt : both - o < o
          · rw [if_pos hlt, if_neg (by omega)]
            exact ⟨by omega, by omega, by omega, by rw [Int.add_comm]; exact c5⟩
          · rw [if_neg hlt]
            by_cases hgt : both - o > o
            · rw [if_pos hgt]
              exact ⟨by omega, by omega, by omega, c5⟩
            · rw [if_neg hgt]
              have : both - o = o := by omega
              rw [this] at c5
              exact ⟨by omega, by omega, by omega, c5⟩
        · exact ⟨sH2, s2, fun _ => nxt fun z => c5 z.2.2.2.2, _, rfl⟩
      · exact ⟨sH2, s2, fun _ => nxt fun z => c4 z.2.2.2.1, _, rfl⟩
      · exact ⟨sH2, s2, fun _ => nxt fun z => c3 z.2.2.1, _, rfl⟩
      · exact ⟨sH2, s2, fun _ => nxt fun z => c2 z.2.1, _, rfl⟩
      · exact ⟨sH2, s2, fun _ => nxt fun z => c1 z.1, _, rfl⟩
    · rw [e]
      exact iteF (h2 hn)
end
end Sa
local macro_rules | `(tactic| walk_at "rd") => `(tactic| ((try simp only [L2.start, L2.wipe, List.set_cons_succ, List.set_cons_zero, List.map_cons, List.map_nil, List.length_cons, List.length_nil, List.cons_append, List.nil_append, List.replicate_succ, List.replicate_zero, Nat.reduceSub, Nat.reduceAdd, Nat.zero_add]); try simp only [↓Sa.rd_seq, ↓Sa.rd_power, ↓Sa.rd_markOf,  ↓Sa.rd_next, ↓Sa.rd_brk, ↓Sa.rd_asg, ↓Sa.rp_name, ↓Sa.rp_par, ↓Sa.rd_ret, ↓Sa.rd_retN, ↓Sa.rd_drop, ↓Sa.rd_if, ↓Sa.rp_var, ↓Sa.rd_c, ↓Sa.rd_op, ↓Sa.rd_un, ↓Sa.rd_I0, ↓Sa.rd_I, ↓Sa.rd_U, ↓Sa.rd_eqI, ↓Sa.rd_neI, ↓Sa.rd_test, ↓Sa.rd_B, ↓Sa.rd_and, ↓Sa.rd_or, ↓Sa.rd_not, ↓Sa.rd_andV, ↓Sa.rd_orV, ↓Sa.rd_notV, ↓Sa.rd_ifE, ↓Sa.rd_isN, ↓Sa.rd_notN, ↓Sa.rd_chain, ↓Sa.rd_chain3, ↓Sa.rd_nil, ↓Sa.rd_cons, ↓Sa.rd_tup, ↓Sa.rd_lst, ↓Sa.rd_call, ↓Sa.rd_CB, ↓Sa.rd_ixL, ↓Sa.rd_ixT, ↓Sa.rd_sl, ↓Sa.rd_noPart, ↓Sa.rd_part, ↓Sa.rd_slL, ↓Sa.rd_sum, ↓Sa.rd_all, ↓Sa.rd_any, ↓Sa.ex_int, ↓Sa.ex_int1, ↓Sa.ex_int2, ↓Sa.rd_len, ↓Sa.ex_len, ↓Sa.ex_bl, ↓Sa.ex_two, ↓Sa.slot_z, ↓Sa.slot_n, ↓Sa.setS_z, ↓Sa.setS_n, ↓Sa.if_tt, ↓Sa.if_ff, ↓Sa.if_dec, ↓Sa.if_ndec, ↓Sa.if_nb, ↓Sa.rd_forL, ↓Sa.rd_forT, ↓Sa.rd_forR1, ↓Sa.rd_forR2, ↓Sa.rd_forR3, ↓Sa.ex_ref, ↓Sa.cx_K, ↓List.append_nil, List.length_cons, List.length_nil, Nat.reduceAdd, Nat.zero_add]))
namespace Sa
open PySem PySem.Spec PyProof.Rows L2 Evl
/-! ### data of ints -/
def dI (ns : List Int) : List PyData := ns.map PyData.int
theorem canLay_ints : ∀ ns : List Int, PyData.canLayAll0 (dI ns) = true
  | [] => by simp [dI, PyData.canLayAll0]
  | n :: ns => by
    have := canLay_ints ns
    simp only [dI, List.map_cons, PyData.canLayAll0, PyData.canLay0, Bool.true_and] at *
    exact this
theorem depth_ints : ∀ ns : List Int, PyData.depthAll (dI ns) ≤ 1
  | [] => by simp [dI, PyData.depthAll]
  | n :: ns => by
    have := depth_ints ns
    simp only [dI, List.map_cons, PyData.depthAll, PyData.depth] at *
    omega
theorem shaped_list (ns : List Int) : SeqAt.shaped (.list (dI ns)) = true := by
  unfold SeqAt.shaped
  have h := depth_ints ns
  rw [Bool.and_eq_true, decide_eq_true_eq]
  refine ⟨by simp only [PyData.canLay0]; exact canLay_ints ns, ?_⟩
  simp only [PyData.depth]
  omega
theorem shaped_tup (ns : List Int) : SeqAt.shaped (.tuple (dI ns)) = true := by
  unfold SeqAt.shaped
  have h := depth_ints ns
  rw [Bool.and_eq_true, decide_eq_true_eq]
  refine ⟨by simp only [PyData.canLay0]; exact canLay_ints ns, ?_⟩
  simp only [PyData.depth]
  omega
theorem eqvAll_ints : ∀ xs ys : List Int, PyData.eqvAll (dI xs) (dI ys) = decide (xs = ys)
  | [], [] => by simp [dI, PyData.eqvAll]
  | [], y :: ys => by simp [dI, PyData.eqvAll]
  | x :: xs, [] => by simp [dI, PyData.eqvAll]
  | x :: xs, y :: ys => by
    have ih := eqvAll_ints xs ys
    show (PyData.eqv (.int x) (.int y) && PyData.eqvAll (dI xs) (dI ys)) = _
    rw [ih]
    by_cases h : x = y <;> by_cases g : xs = ys <;> simp [PyData.eqv, h, g]
theorem eqv_ints (xs ys : List Int) : PyData.eqv (.list (dI xs)) (.list (dI ys)) = decide (xs = ys) := by
  rw [← eqvAll_ints]
  simp only [PyData.eqv]
theorem eqv_tups (xs ys : List Int) : PyData.eqv (.tuple (dI xs)) (.tuple (dI ys)) = decide (xs = ys) := by
  rw [← eqvAll_ints]
  simp only [PyData.eqv]
theorem dpAll_ints {K : PySem.W.Frag} {H : Hp} : ∀ ns : List Int, DpAll K H (ns.map V.int) (dI ns)
  | [] => .nil
  | n :: ns => .cons (.int n) (dpAll_ints ns)
theorem dp_list {K : PySem.W.Frag} {H : Hp} {a : Addr} {ns : List Int} (h : SqL K H a (ns.map V.int)) : Dp K H (.ref a) (.list (dI ns)) := .lst h (dpAll_ints ns)
theorem dp_tup {K : PySem.W.Frag} {H : Hp} {a : Addr} {ns : List Int} (h : SqT K H a (ns.map V.int)) : Dp K H (.ref a) (.tuple (dI ns)) := .tup h (dpAll_ints ns)
theorem sq_of {K : PySem.W.Frag} {H : Hp} {a : Addr} {xs : List V} (h : H a = some (.lst xs)) : SqL K H a xs := .inl (.inl h)
theorem sqt_of {K : PySem.W.Frag} {H : Hp} {a : Addr} {xs : List V} (h : H a = some (.tup xs)) : SqT K H a xs := .inl (.inl h)
theorem cut_take (xs : List V) (n : Nat) : cutV xs none (some (n : Int)) = xs.take n := by
  unfold cutV
  rw [HT.sIx_none, HT.sIx_nat]
  show (xs.drop 0).take (min n xs.length - 0) = _
  rw [List.drop_zero, Nat.sub_zero]
  rcases Nat.le_total n xs.length with h | h
  · rw [Nat.min_eq_left h]
  · rw [Nat.min_eq_right h, List.take_length, List.take_of_length_le h]
theorem cut_all (xs : List V) (n : Nat) (h : xs.length ≤ n) : cutV xs none (some (n : Int)) = xs := by
  rw [cut_take, List.take_of_length_le h]
theorem at_lt {xs : List Int} {i : Int} (h0 : 0 ≤ i) (h : i < (xs.length : Int)) : ∃ v, v ∈ xs ∧ atI (xs.map V.int) i = some (.int v) := by
  obtain ⟨j, rfl⟩ := Int.eq_ofNat_of_zero_le h0
  have hj : j < xs.length := by omega
  exact ⟨xs[j], List.getElem_mem hj, atI_nat (by rw [List.getElem?_map, List.getElem?_eq_getElem hj]; rfl)⟩
theorem at_mod {xs : List Int} (a : Int) (h : xs ≠ []) : ∃ v, v ∈ xs ∧ atI (xs.map V.int) (a % ((xs.map V.int).length : Int)) = some (.int v) := by
  have := List.length_pos_iff.mpr h
  refine at_lt ?_ ?_
  · rw [List.length_map]
    exact Int.emod_nonneg _ (by omega)
  · rw [List.length_map]
    exact Int.emod_lt_of_pos _ (by omega)
/-! ### the cells -/
def cellsOf (n : Nat) (ns : List Int) (c : Int) : List Int := if ns = [] then [c] else ns.take n
theorem cells_ok {K : PySem.W.Frag} {σ : L2.St} {H : Hp} {Q : VK} {a : Addr} {ns : List Int} {n : Nat} {c : Int} (hv : σ[0]? = some (some (.ref a))) (hS : SqL K H a (ns.map V.int))
    (q : ∀ H' p, Same H H' → H p = none → H' p = some (.lst ((cellsOf n ns c).map V.int)) → Q (.ref p) H') :
    tIf (tTest (tOp (rNeD K) (tVar 0) (tLst tNil))) (tSl (rSlL K) (tVar 0) tNoPart (tPart (tC (.int (n : Int))))) (tLst (tCons (tC (.int c)) tNil)) σ H Q := by
  refine ⟨_, hv, Nat.zero_le _, fun p hp => ?_⟩
  have sm := same_new (o := .lst []) hp
  refine ⟨_, _, dp_list (sm.seq hS), dp_list (ns := []) (sq_of upd_same), shaped_list _, shaped_list _, _, rfl, ?_⟩
  rw [eqv_ints]
  by_cases h : ns = []
  · rw [decide_eq_true h]
    refine iteF ⟨by show 1 ≤ sizeLine; decide, fun r hr => q _ r (sm.trans (same_new hr)) (sm.free hr) ?_⟩
    unfold cellsOf
    rw [if_pos h, upd_same]
    rfl
  · rw [decide_eq_false h]
    refine iteT ⟨_, hv, _, rfl, a, _, rfl, sm.seq hS, fun r hr => q _ r (sm.trans (same_new hr)) (sm.free hr) ?_⟩
    unfold cellsOf
    rw [if_neg h, upd_same, cut_take, List.map_take]
theorem cells_pos {n : Nat} {ns : List Int} {c : Int} (h : 0 < n) : 0 < (cellsOf n ns c).length := by
  unfold cellsOf
  split
  · exact Nat.one_pos
  · rename_i h2
    rw [List.length_take]
    have := List.length_pos_iff.mpr h2
    omega
theorem cells_len {n : Nat} {ns : List Int} {c : Int} (h : 0 < n) : (cellsOf n ns c).length ≤ n := by
  unfold cellsOf
  split
  · exact h
  · rw [List.length_take]
    omega
theorem cells_mem {n : Nat} {ns : List Int} {c : Int} {k : Nat} (hn : ∀ z ∈ ns, B k z) (hc : B k c) : ∀ z ∈ cellsOf n ns c, B k z := fun z hz => by
  unfold cellsOf at hz
  split at hz
  · rw [List.mem_singleton] at hz
    rw [hz]
    exact hc
  · exact hn z (List.mem_of_mem_take hz)
theorem sum_bits {k : Nat} : ∀ {ns : List Int}, (∀ z ∈ ns, B k z) → B (k + ns.length) ns.sum
  | [], _ => by
    show (0 : Nat) < 2 ^ _
    exact Nat.pow_pos (by decide)
  | n :: ns, h => by
    have ih := sum_bits (ns := ns) fun z hz => h z (List.mem_cons_of_mem _ hz)
    have h1 := (h n List.mem_cons_self).mono (Nat.le_add_right k ns.length)
    have := h1.add ih
    rw [List.sum_cons, List.length_cons]
    exact this
section
variable {P : Program} {w : World} {K : PySem.W.Frag} {mg : Str → Option Value} {base : Heap}
/-! ### the law's own number -/
def spNumber : Sp := fun vs H Q _ => ∃ (c a s : Int) (n : Nat), vs = [.int c, .int a, .int s] ∧ B n c ∧ B n s ∧ 0 ≤ a ∧ a ≤ 100000 ∧ n ≤ 20000000 ∧ ∀ z : Int, B (2 * n + 300) z → Q (.int z) H
theorem ok_number {f : Addr} {fd : FuncData} (F : Fun K "_law_number" "_law_number" s__law_number f fd) : FnOk P w K mg base CX0 1 f fd ["_law_cell", "_law_at", "_law_whole_here"] spNumber := by
  refine F.ok sc__law_number (fun vs H Q E h => ?_) (fun cdv A outer s H vs Q E hr h => ?_)
  · obtain ⟨c, a, s, n, rfl, _⟩ := h
    rfl
  · obtain ⟨c, a, s, n, rfl, hc, hs, h0, h1, hn, q⟩ := h
    refine ⟨_, pss_cons (ps_if (pt_cmpR op_ge (pv 0) (pe_op op_pow (pe_int) (pe_int)) (nomark _)) (pss_one (ps_ret (pe_op op_fdiv (pv 0) (pe_op op_add (pe_int) (pe_op op_mod (pv 1) (pe_int)))))) (pss_nil))
      (pss_cons (ps_set (i := 3) sc__law_number.nd rfl (by first | exact Or.inl rfl | exact Or.inr rfl) (pe_op op_mod (pe_op op_add (pe_op op_mulB (pe_op op_add (pv 0) (pe_op op_mulB (pe_int) (pv 1))) (pe_int)) (pv 2)) (pe_int)))
      (pss_cons (ps_set (i := 4) sc__law_number.nd rfl (by first | exact Or.inl rfl | exact Or.inr rfl) (pe_op op_mulB (pv 3) (pe_op op_add (pe_op op_add (pv 0) (pe_op op_mulB (pe_int) (pv 1))) (pe_int))))
      (pss_one (ps_ret (pe_op op_fdiv (pe_op op_mulB (pe_op op_mulB (pv 4) (pe_op op_add (pe_op op_add (pv 3) (pv 0)) (pe_int))) (pe_op op_add (pe_op op_mulB (pv 3) (pv 3)) (pe_int))) (pe_op op_add (pe_int) (pv 1))))))), ?_⟩
    walk_at "rd"
    obtain ⟨m, em⟩ : ∃ m, m = ((c + 977 * a) * 48271 + s) % 2147483647 := ⟨_, rfl⟩
    have m0 : 0 ≤ m ∧ m < 2147483647 := by omega
    have sm : ∀ x : Int, x.natAbs < 2 ^ 62 → B (n + 62) x := fun x hx => (B.small hx).mono (by omega)
    have hc' : B (n + 62) c := hc.mono (by omega)
    have mm : m * m ≤ 2147483646 * 2147483646 := Int.mul_le_mul (by omega) (by omega) (by omega) (by omega)
    have mm0 : 0 ≤ m * m := Int.mul_nonneg m0.1 m0.1
    rw [← em]
    have b1 : B (n + 63) (c + 977 * a) := hc'.add (sm _ (by omega))
    have b2 : B (n + 64) (c + 31 * a + 7) := (hc'.add (sm _ (by omega))).add ((sm 7 (by decide)).mono (by omega))
    have b3 : B (n + 64) (m + c + 5) := ((sm m (by omega)).add hc').add ((sm 5 (by decide)).mono (by omega))
    have b4 : B 62 m := B.small (by omega)
    have b5 : B 62 (m * m + 11) := B.small (by omega)
    have b6 := (b4.mul b2).mul b3
    refine ⟨⟨by decide, by decide, by decide⟩, ite2 (fun _ => ⟨by decide, ⟨by omega, by omega⟩, q _ ((hc.ediv (by omega)).mono (by omega))⟩) (fun _ => ⟨mulB_small (by decide) (by omega), b1.ok (B.small (x := 48271) (by decide)) (by omega) (by omega) (by omega), by decide, mulB_small (by decide) (by omega), b4.ok b2 (by omega) (by omega) (by omega), (b4.mul b2).ok b3 (by omega) (by omega) (by omega), mulB_small (by omega) (by omega), b6.ok b5 (by omega) (by omega) (by omega), ⟨by omega, by omega⟩, q _ (((b6.mul b5).ediv (by omega)).mono (by omega))⟩)⟩
/-! ### the law's own small defs -/
theorem ok_whole {f : Addr} {fd : FuncData} (T : Blt mg) (F : Fun K "_law_whole" "_law_whole" s__law_whole f fd) : FnOk P w K mg base CX0 1 f fd ["_law_number_here"] (spIsNum K) := by
  refine F.ok sc__law_whole (fun vs H Q E h => ?_) (fun cdv A outer s H vs Q E hr h => ?_)
  · obtain ⟨v, t, rfl, _⟩ := h
    rfl
  · obtain ⟨v, t, rfl, ty, ht, q⟩ := h
    refine ⟨_, pss_one (ps_ret (pe_and (pe_callB (call_isik (K := K)) (by rfl) T.b_isinstance (by decide +kernel) (pa_cons (pv 0) (pa_cons (pe_bltn (v := .ty "int") (by rfl) T.b_int (by decide +kernel) rfl) pa_nil))) (pe_one (pe_not (pe_callB (call_isik (K := K)) (by rfl) T.b_isinstance (by decide +kernel) (pa_cons (pv 0) (pa_cons (pe_bltn (v := .ty "bool") (by rfl) T.b_bool (by decide +kernel) rfl) pa_nil))))))), ?_⟩
    walk_at "rd"
    refine ⟨v, _, _, _, _, rfl, .ty _, ty, kit_ty (isi_int ht), _, rfl, ?_⟩
    rw [← ty_num ht] at q
    cases hb : (t == "int" || t == "bool") with
    | false =>
      rw [hb] at q
      exact iteF q
    | true =>
      rw [hb] at q
      exact iteT ⟨v, _, _, _, _, rfl, .ty _, ty, kit_ty (isi_bool ht), _, rfl, q⟩
theorem ok_law_is_prime {f : Addr} {fd : FuncData} (F : Fun K "_law_is_prime" "_law_is_prime" s__law_is_prime f fd) : FnOk P w K mg base CX0 1 f fd ["_law_number_here"] spIsPrime := by
  refine F.ok sc__law_is_prime (fun vs H Q E h => ?_) (fun cdv A outer s H vs Q E hr h => ?_)
  · obtain ⟨n, rfl, _⟩ := h
    rfl
  · obtain ⟨n, rfl, hn, q⟩ := h
    refine ⟨_, pss_cons (ps_set (i := 1) sc__law_is_prime.nd rfl (by first | exact Or.inl rfl | exact Or.inr rfl) (pe_int))
      (pss_cut (ps_while PassesOwn.never (pt_cmpR op_le (pe_op op_mulB (pv 1) (pv 1)) (pv 0) (nomark _)) (pss_cons (ps_if (pt_cmpR op_eq (pe_op op_mod (pv 0) (pv 1)) (pe_int) (nomark _)) (pss_one (ps_ret (pe_bl))) (pss_nil))
      (pss_one (ps_set (i := 1) sc__law_is_prime.nd rfl (by first | exact Or.inl rfl | exact Or.inr rfl) (pe_op op_add (pv 1) (pe_int))))))
      (pss_one (ps_ret (pe_cmpR op_gt (pv 0) (pe_int) (nomark _))))), ?_⟩
    walk_at "rd"
    refine ⟨fun σ H' => H' = H ∧ ∃ d : Int, σ = [some (.int n), some (.int d)] ∧ 2 ≤ d ∧ d ≤ 1001 ∧ (∀ e, 2 ≤ e → e < d → ¬ e ∣ n) ∧ ¬ d * d ≤ n, ?_, ?_⟩
    · refine ⟨fun m σ H' => H' = H ∧ ∃ d : Int, σ = [some (.int n), some (.int d)] ∧ 2 ≤ d ∧ d ≤ 1001 ∧ (∀ e, 2 ≤ e → e < d → ¬ e ∣ n) ∧ m = (1002 - d).toNat, ⟨1000, rfl, 2, rfl, by omega, by omega, fun e h1 h2 => by omega, rfl⟩, ?_⟩
      rintro m σ H' ⟨rfl, d, rfl, h2, h3, h4, hm⟩
      walk_at "rd"
      refine ⟨mulB_small (by omega) (by omega), ?_⟩
      refine ite2 (fun hl => ?_) (fun hl => ⟨by trivial, d, rfl, h2, h3, h4, hl⟩)
      have hd := sq_le h2 hl hn
      refine ⟨fun σ H'' => H'' = H' ∧ ∃ d' : Int, σ = [some (.int n), some (.int d')] ∧ 2 ≤ d' ∧ d' ≤ 1001 ∧ (∀ e, 2 ≤ e → e < d' → ¬ e ∣ n) ∧ (1002 - d').toNat < m, fun σ' H'' ⟨e1, d', e2, a, b, c, e⟩ => ⟨_, e, e1, d', e2, a, b, c, rfl⟩, by omega, ?_⟩
      refine ite2 (fun h0 => ?_) (fun h0 => ?_)
      · rw [(is_prime_loop hn h2 h4).1 hl h0] at q
        exact q
      · refine ⟨by trivial, d + 1, rfl, by omega, by omega, fun e h1 h5 => ?_, by omega⟩
        by_cases ee : e = d
        · subst ee
          exact fun z => h0 (Int.emod_eq_zero_of_dvd z)
        · exact h4 e h1 (by omega)
    · rintro σ H' ⟨rfl, d, rfl, h2, h3, h4, hl⟩
      walk_at "rd"
      rw [(is_prime_loop hn h2 h4).2 hl] at q
      exact q
theorem ok_law_mark {f : Addr} {fd : FuncData} (F : Fun K "_law_mark" "_law_mark" s__law_mark f fd) : FnOk P w K mg base CX0 1 f fd ["_law_prime_here", "_law_number_here"] spMarkOf := by
  refine F.ok sc__law_mark (fun vs H Q E h => ?_) (fun cdv A outer s H vs Q E hr h => ?_)
  · obtain ⟨p, n, rfl, _⟩ := h
    rfl
  · obtain ⟨p, n, rfl, h0, h1, h2, q⟩ := h
    refine ⟨_, pss_one (ps_ret (pe_op op_add (pe_op op_mulB (pe_op op_mulB (pe_int) (pv 0)) (pv 1)) (pe_op op_mod (pe_op op_mulB (pv 1) (pv 1)) (pv 0)))), ?_⟩
    walk_at "rd"
    exact ⟨mulB_small (by omega) (by omega), mulB_small (by omega) (by omega), mulB_small (by omega) (by omega), h0, q⟩
/-- a tuple of two whole numbers -/
def spTwo (K : PySem.W.Frag) : Sp := fun vs H Q _ => ∃ (p : Addr) (a b : Int), vs = [.ref p] ∧ H p = some (.tup [.int a, .int b]) ∧ Q (.bl true) H
theorem ok_two {f f1 : Addr} {fd fd1 : FuncData} (T : Blt mg) (F : Fun K "_law_two" "_law_two" s__law_two f fd) (D__law_whole : DefAt K mg "_law_whole" "_law_whole" s__law_whole ["_law_number_here"] f1 fd1) : FnOk P w K mg base CX0 2 f fd ["_law_found"] (spTwo K) := by
  have G__law_whole : FnOk P w K mg base CX0 1 f1 fd1 ["_law_number_here"] (spIsNum K) := ok_whole T D__law_whole.F
  refine F.ok sc__law_two (fun vs H Q E h => ?_) (fun cdv A outer s H vs Q E hr h => ?_)
  · obtain ⟨p, a, b, rfl, _⟩ := h
    rfl
  · obtain ⟨p, a, b, rfl, hp, q⟩ := h
    refine ⟨_, pss_one (ps_ret (pe_and (pe_callB (call_isik (K := K)) (by rfl) T.b_isinstance (by decide +kernel) (pa_cons (pv 0) (pa_cons (pe_bltn (v := .ty "tuple") (by rfl) T.b_tuple (by decide +kernel) rfl) pa_nil))) (pe_and (pe_cmpR op_eq (pe_callB (call_lenk (K := K)) (by rfl) T.b_len (by decide +kernel) (pa_cons (pv 0) pa_nil)) (pe_int) (nomark _)) (pe_and (pe_call G__law_whole (hr.mono (by decide)) (by rfl) D__law_whole.g D__law_whole.kp D__law_whole.b .nil pass0 (pa_cons (pe_ix (ix_tupk (K := K)) (pv 0) (pe_int) (fun _ _ => rfl)) pa_nil)) (pe_one (pe_call G__law_whole (hr.mono (by decide)) (by rfl) D__law_whole.g D__law_whole.kp D__law_whole.b .nil pass0 (pa_cons (pe_ix (ix_tupk (K := K)) (pv 0) (pe_int) (fun _ _ => rfl)) pa_nil))))))), ?_⟩
    walk_at "rd"
    refine ⟨_, _, _, _, true, rfl, .ty _, .base (.tup hp), kit_ty (by decide +kernel), true, rfl, iteT ⟨_, .inr (sqt_of hp), ?_⟩⟩
    refine ite2 (fun _ => ⟨_, _, sqt_of hp, atI_nat (j := 0) rfl, isNum_int ⟨true, rfl, iteT ⟨_, _, sqt_of hp, atI_nat (j := 1) rfl, isNum_int q⟩⟩⟩) (fun z => absurd rfl z)
/-! ### the law's prime -/
theorem big_prime : isP 999983 = true := by decide +kernel
def spLawPrime (K : PySem.W.Frag) : Sp := fun vs H Q _ => ∃ (l : Addr) (ns : List Int) (a : Int), vs = [.ref l, .int a] ∧ SqL K H l (ns.map V.int) ∧ ns.length ≤ 63 ∧ (∀ z ∈ ns, B 1048577 z) ∧ 0 ≤ a ∧ a ≤ 1000 ∧ ∀ (H' : Hp) (p : Int), Same H H' → okP (.int p) = true → p ≤ 999983 → Q (.int p) H'
theorem ok_prime {f f1 f2 : Addr} {fd fd1 fd2 : FuncData} (T : Blt mg) (F : Fun K "_law_prime" "_law_prime" s__law_prime f fd) (D__law_number : DefAt K mg "_law_number" "_law_number" s__law_number ["_law_cell", "_law_at", "_law_whole_here"] f1 fd1)
    (D__law_is_prime : DefAt K mg "_law_is_prime" "_law_is_prime" s__law_is_prime ["_law_number_here"] f2 fd2) : FnOk P w K mg base CX0 2 f fd ["_law_script", "_law_at"] (spLawPrime K) := by
  have G__law_number : FnOk P w K mg base CX0 1 f1 fd1 ["_law_cell", "_law_at", "_law_whole_here"] spNumber := ok_number D__law_number.F
  have G__law_is_prime : FnOk P w K mg base CX0 1 f2 fd2 ["_law_number_here"] spIsPrime := ok_law_is_prime D__law_is_prime.F
  refine F.ok sc__law_prime (fun vs H Q E h => ?_) (fun cdv A outer s H vs Q E hr h => ?_)
  · obtain ⟨l, ns, a, rfl, _⟩ := h
    rfl
  · obtain ⟨l, ns, a, rfl, hS, hl, hb, a0, a1, q⟩ := h
    refine ⟨_, pss_cons (ps_set (i := 2) sc__law_prime.nd rfl (by first | exact Or.inl rfl | exact Or.inr rfl) (pe_ifExp (pt_cmpR (op_neDk (K := K) hr.units) (pv 0) (pe_lst pa_nil) (nomark _)) (pe_slice (sl_listk (K := K)) (pv 0) po_none (po_some (pe_int))) (pe_lst (pa_cons (pe_int) pa_nil))))
      (pss_cons (ps_set (i := 3) sc__law_prime.nd rfl (by first | exact Or.inl rfl | exact Or.inr rfl) (pe_call G__law_number (hr.mono (by decide)) (by rfl) D__law_number.g D__law_number.kp D__law_number.b .nil pass0 (pa_cons (pe_ix (ix_listk (K := K)) (pv 2) (pe_op op_mod (pv 1) (pe_callB (call_lenk (K := K)) (by rfl) T.b_len (by decide +kernel) (pa_cons (pv 2) pa_nil))) (fun _ _ => rfl)) (pa_cons (pv 1) (pa_cons (pe_callB (call_lenk (K := K)) (by rfl) T.b_len (by decide +kernel) (pa_cons (pv 2) pa_nil)) pa_nil)))))
      (pss_cons (ps_set (i := 4) sc__law_prime.nd rfl (by first | exact Or.inl rfl | exact Or.inr rfl) (pe_ix (ix_tupk (K := K)) (pe_tup (pa_cons (pe_int) (pa_cons (pe_int) (pa_cons (pe_op op_add (pe_int) (pe_op op_mod (pe_op op_fdiv (pv 3) (pe_int)) (pe_int))) (pa_cons (pe_op op_add (pe_int) (pe_op op_mod (pe_op op_fdiv (pv 3) (pe_int)) (pe_int))) (pa_cons (pe_op op_add (pe_int) (pe_op op_mod (pe_op op_fdiv (pv 3) (pe_int)) (pe_int))) pa_nil)))))) (pe_op op_mod (pe_op op_add (pv 3) (pv 1)) (pe_int)) (fun _ _ => rfl)))
      (pss_cut (ps_if (pt_cmpR op_eq (pe_op op_mod (pe_callB (cr_sumk (K := K) rfl) (by rfl) T.b_sum (by decide +kernel) (pa_cons (pv 2) pa_nil)) (pe_int)) (pe_int) (nomark _)) (pss_one (ps_set (i := 4) sc__law_prime.nd rfl (by first | exact Or.inl rfl | exact Or.inr rfl) (pe_op op_add (pe_int) (pe_op op_mod (pe_op op_fdiv (pv 3) (pe_int)) (pe_int))))) (pss_nil))
      (pss_cut (ps_while PassesOwn.never (pt_not (pt_val (pe_call G__law_is_prime (hr.mono (by decide)) (by rfl) D__law_is_prime.g D__law_is_prime.kp D__law_is_prime.b .nil pass0 (pa_cons (pv 4) pa_nil)))) (pss_one (ps_set (i := 4) sc__law_prime.nd rfl (by first | exact Or.inl rfl | exact Or.inr rfl) (pe_op op_add (pv 4) (pe_int)))))
      (pss_one (ps_ret (pv 4))))))), ?_⟩
    refine cells_ok (n := 63) (c := 3) rfl hS fun H1 p1 sm np ep => ?_
    have hc0 := cells_pos (ns := ns) (c := 3) (show 0 < 63 by decide)
    have hc1 := cells_len (ns := ns) (c := 3) (show 0 < 63 by decide)
    have hcm := cells_mem (n := 63) hb ((B.small (x := 3) (by decide)).mono (show 62 ≤ 1048577 by decide))
    obtain ⟨cs, ecs⟩ : ∃ cs, cs = cellsOf 63 ns 3 := ⟨_, rfl⟩
    rw [← ecs] at ep hc0 hc1 hcm
    have sc : SqL K H1 p1 (cs.map V.int) := sq_of ep
    walk_at "rd"
    obtain ⟨x, hx, ex⟩ := at_mod a (show cs ≠ [] from fun z => by rw [z] at hc0; exact absurd hc0 (by decide))
    have elen : ((cs.map V.int).length : Int) = (cs.length : Int) := by rw [List.length_map]
    refine ⟨_, .inl sc, by rw [elen]; omega, _, _, sc, ex, _, .inl sc, x, a, _, 1048577, rfl, hcm x hx, (B.small (by rw [elen]; omega)).mono (by decide), a0, by omega, by decide, fun z _ => ?_⟩
    walk_at "rd"
    refine ⟨⟨by decide, by decide⟩, by decide, ⟨by decide, by decide⟩, by decide, ⟨by decide, by decide⟩, by decide, by decide, fun p2 n2 => ?_⟩
    obtain ⟨y, hy, ey⟩ := at_lt (xs := [3, 5, 3 + z / 7 % 28, 3 + z / 7 % 990, 3 + z / 7 % 20000]) (i := (z + a) % 5) (by omega) (by show (z + a) % 5 < 5; omega)
    have hy2 : 3 ≤ y ∧ y ≤ 990002 := by
      simp only [List.mem_cons, List.not_mem_nil, or_false] at hy
      rcases hy with rfl | rfl | rfl | rfl | rfl <;> omega
    refine ⟨by decide, _, .int y, sqt_of (xs := [3, 5, 3 + z / 7 % 28, 3 + z / 7 % 990, 3 + z / 7 % 20000].map V.int) upd_same, ey, fun σ H' => Same H H' ∧ ∃ f : Int, σ = [some (.ref l), some (.int a), some (.ref p1), some (.int z), some (.int f)] ∧ 3 ≤ f ∧ f ≤ 990002, ?_, ?_⟩
    · have sm2 := sm.trans (same_new (o := .tup [V.int 3, V.int 5, V.int (3 + z / 7 % 28), V.int (3 + z / 7 % 990), V.int (3 + z / 7 % 20000)]) n2)
      walk_at "rd"
      refine ⟨cs, (same_new n2).seq sc, by decide, ite2 (fun _ => ⟨⟨by decide, by decide⟩, by decide, sm2, _, rfl, by omega, by omega⟩) (fun _ => ⟨sm2, _, rfl, hy2.1, hy2.2⟩)⟩
    · rintro σ H' ⟨sm2, f, rfl, f0, f1⟩
      refine ⟨fun σ H' => Same H H' ∧ ∃ f : Int, σ = [some (.ref l), some (.int a), some (.ref p1), some (.int z), some (.int f)] ∧ 3 ≤ f ∧ f ≤ 999983 ∧ isP f = true, ?_, ?_⟩
      · refine ⟨fun m σ H' => Same H H' ∧ ∃ f : Int, σ = [some (.ref l), some (.int a), some (.ref p1), some (.int z), some (.int f)] ∧ 3 ≤ f ∧ f ≤ 999983 ∧ m = (999983 - f).toNat, ⟨_, sm2, f, rfl, f0, by omega, rfl⟩, ?_⟩
        rintro m σ H' ⟨sm3, f, rfl, f0, f1, em⟩
        walk_at "rd"
        refine ⟨f, rfl, by omega, _, rfl, ite2 (fun hp => ⟨sm3, f, rfl, f0, f1, hp⟩) (fun hp => ?_)⟩
        have : f ≠ 999983 := fun e => hp (by rw [e]; exact big_prime)
        exact ⟨fun σ H' => Same H H' ∧ ∃ f : Int, σ = [some (.ref l), some (.int a), some (.ref p1), some (.int z), some (.int f)] ∧ 3 ≤ f ∧ f ≤ 999983 ∧ (999983 - f).toNat < m, fun σ' H'' ⟨e1, f', e2, a, b, e⟩ => ⟨_, e, e1, f', e2, a, b, rfl⟩, sm3, _, rfl, by omega, by omega, by omega⟩
      · rintro σ H' ⟨sm3, f, rfl, f0, f1, hp⟩
        walk_at "rd"
        refine q H' f sm3 ?_ f1
        simp only [okP, Bool.and_eq_true, decide_eq_true_eq]
        exact ⟨f0, by omega, hp⟩
end
end Sa
local macro_rules | `(tactic| walk_at "rd") => `(tactic| ((try simp only [L2.start, L2.wipe, List.set_cons_succ, List.set_cons_zero, List.map_cons, List.map_nil, List.length_cons, List.length_nil, List.cons_append, List.nil_append, List.replicate_succ, List.replicate_zero, Nat.reduceSub, Nat.reduceAdd, Nat.zero_add]); try simp only [↓Sa.rd_seq, ↓Sa.rd_power, ↓Sa.rd_markOf, ↓Sa.rd_callS,  ↓Sa.rd_next, ↓Sa.rd_brk, ↓Sa.rd_asg, ↓Sa.rp_name, ↓Sa.rp_par, ↓Sa.rd_ret, ↓Sa.rd_retN, ↓Sa.rd_drop, ↓Sa.rd_if, ↓Sa.rp_var, ↓Sa.rd_c, ↓Sa.rd_op, ↓Sa.rd_un, ↓Sa.rd_I0, ↓Sa.rd_I, ↓Sa.rd_U, ↓Sa.rd_eqI, ↓Sa.rd_neI, ↓Sa.rd_test, ↓Sa.rd_B, ↓Sa.rd_and, ↓Sa.rd_or, ↓Sa.rd_not, ↓Sa.rd_andV, ↓Sa.rd_orV, ↓Sa.rd_notV, ↓Sa.rd_ifE, ↓Sa.rd_isN, ↓Sa.rd_notN, ↓Sa.rd_chain, ↓Sa.rd_chain3, ↓Sa.rd_nil, ↓Sa.rd_cons, ↓Sa.rd_tup, ↓Sa.rd_lst, ↓Sa.rd_call, ↓Sa.rd_CB, ↓Sa.rd_ixL, ↓Sa.rd_ixT, ↓Sa.rd_sl, ↓Sa.rd_noPart, ↓Sa.rd_part, ↓Sa.rd_slL, ↓Sa.rd_sum, ↓Sa.rd_all, ↓Sa.rd_any, ↓Sa.ex_int, ↓Sa.ex_int1, ↓Sa.ex_int2, ↓Sa.rd_len, ↓Sa.ex_len, ↓Sa.ex_bl, ↓Sa.ex_two, ↓Sa.slot_z, ↓Sa.slot_n, ↓Sa.setS_z, ↓Sa.setS_n, ↓Sa.if_tt, ↓Sa.if_ff, ↓Sa.if_dec, ↓Sa.if_ndec, ↓Sa.if_nb, ↓Sa.rd_forL, ↓Sa.rd_forT, ↓Sa.rd_forR1, ↓Sa.rd_forR2, ↓Sa.rd_forR3, ↓Sa.ex_ref, ↓Sa.cx_K, ↓List.append_nil, List.length_cons, List.length_nil, Nat.reduceAdd, Nat.zero_add]))
namespace Sa
open PySem PySem.Spec PyProof.Rows L2 Evl
section
variable {P : Program} {w : World} {K : PySem.W.Frag} {mg : Str → Option Value} {base : Heap}
theorem mark_call {p n : Int} {CP CN : Addr} {H : Hp} {Q : VK} {E : XK} (hp : okP (.int p) = true) (h0 : 0 ≤ n) (h1 : n < p) (q : Q (.int (NT.mk p n)) H) : spMark K CP CN [.int p, .int n] H Q E :=
  ⟨.int p, .int n, "int", "int", rfl, .base (.int p), by decide, .base (.int n), by decide, fun z => (by rw [hp] at z; cases z), fun _ => ⟨fun h => absurd rfl (h n), fun p' n' e e' => (by cases e; cases e'; exact ⟨fun z => absurd ⟨h0, h1⟩ z, fun _ _ => q⟩)⟩⟩
theorem number_call {p x : Int} {CP CN CK : Addr} {H : Hp} {Q : VK} {E : XK} (hp : okP (.int p) = true) (q : ∀ n, 0 ≤ n → n < p → NT.mk p n = x → Q (.int n) H) (qE : (∀ n, 0 ≤ n → n < p → NT.mk p n ≠ x) → E (.ref CK) none H) : spNumberOf K CP CN CK [.int p, .int x] H Q E :=
  ⟨.int p, .int x, "int", "int", rfl, .base (.int p), by decide, .base (.int x), by decide, fun z => (by rw [hp] at z; cases z), fun _ => ⟨fun h => absurd rfl (h x), fun p' n' e e' => (by cases e; cases e'; exact ⟨q, qE⟩)⟩⟩
theorem two_call {p d : Int} {CP CN : Addr} {H : Hp} {Q : VK} {E : XK} (hp : okP (.int p) = true) (hB : B 40000000 d) (t : TellPair (NT.PairS p d) H Q) : spTwoOf K CP CN [.int p, .int d] H Q E :=
  ⟨.int p, .int d, "int", "int", rfl, .base (.int p), by decide, .base (.int d), by decide, fun z => (by rw [hp] at z; cases z), fun _ => ⟨fun h => absurd rfl (h d), fun p' d' e e' => (by cases e; cases e'; exact ⟨hB, t⟩)⟩⟩
def spMarkRight : Sp := fun vs H Q _ => ∃ p n : Int, vs = [.int p, .int n] ∧ okP (.int p) = true ∧ 0 ≤ n ∧ n < p ∧ Q (.bl true) H
theorem ok_mark_right {f f1 f2 f3 f4 C_BadPrime C_BadNumber C_NoMark : Addr} {fd fd1 fd2 fd3 fd4 : FuncData} (T : Blt mg) (F : Fun K "_law_mark_right" "_law_mark_right" s__law_mark_right f fd)
    (D_mark : DefAt K mg "mark" "mark" s_mark ["prime", "number"] f1 fd1) (G_mark : FnOk P w K mg base (L2N.CX P w) 3 f1 fd1 ["prime", "number"] (spMark K C_BadPrime C_BadNumber))
    (D_number_of : DefAt K mg "number_of" "number_of" s_number_of ["prime", "found"] f2 fd2) (G_number_of : FnOk P w K mg base (L2N.CX P w) 3 f2 fd2 ["prime", "found"] (spNumberOf K C_BadPrime C_BadNumber C_NoMark))
    (D__law_whole : DefAt K mg "_law_whole" "_law_whole" s__law_whole ["_law_number_here"] f3 fd3)
    (D__law_mark : DefAt K mg "_law_mark" "_law_mark" s__law_mark ["_law_prime_here", "_law_number_here"] f4 fd4) : FnOk P w K mg base CX0 4 f fd ["_law_prime_here", "_law_number_here"] spMarkRight := by
  have G__law_mark : FnOk P w K mg base CX0 1 f4 fd4 ["_law_prime_here", "_law_number_here"] spMarkOf := ok_law_mark D__law_mark.F
  have G__law_whole : FnOk P w K mg base CX0 1 f3 fd3 ["_law_number_here"] (spIsNum K) := ok_whole T D__law_whole.F
  refine F.ok sc__law_mark_right (fun vs H Q E h => ?_) (fun cdv A outer s H vs Q E hr h => ?_)
  · obtain ⟨p, n, rfl, _⟩ := h
    rfl
  · obtain ⟨p, n, rfl, hp, n0, n1, q⟩ := h
    obtain ⟨_, e0, p3, p6, pp⟩ := okP_int hp
    cases e0
    refine ⟨_, pss_cons (ps_set (i := 2) sc__law_mark_right.nd rfl (by first | exact Or.inl rfl | exact Or.inr rfl) (pe_call G_mark (hr.mono (by decide)) (by rfl) D_mark.g D_mark.kp D_mark.b .nil passN (pa_cons (pv 0) (pa_cons (pv 1) pa_nil))))
      (pss_cons (ps_if (PW.pt (pw_or (pt_not (pt_val (pe_call G__law_whole (hr.mono (by decide)) (by rfl) D__law_whole.g D__law_whole.kp D__law_whole.b .nil pass0 (pa_cons (pv 2) pa_nil)))) (pw_or1 (pt_cmpR op_ne (pv 2) (pe_call G__law_mark (hr.mono (by decide)) (by rfl) D__law_mark.g D__law_mark.kp D__law_mark.b .nil pass0 (pa_cons (pv 0) (pa_cons (pv 1) pa_nil))) (nomark _))))) (pss_one (ps_ret (pe_bl))) (pss_nil))
      (pss_cons (ps_set (i := 3) sc__law_mark_right.nd rfl (by first | exact Or.inl rfl | exact Or.inr rfl) (pe_call G_number_of (hr.mono (by decide)) (by rfl) D_number_of.g D_number_of.kp D_number_of.b .nil passN (pa_cons (pv 0) (pa_cons (pv 2) pa_nil))))
      (pss_one (ps_ret (pe_and (pe_call G__law_whole (hr.mono (by decide)) (by rfl) D__law_whole.g D__law_whole.kp D__law_whole.b .nil pass0 (pa_cons (pv 3) pa_nil)) (pe_one (pe_cmpR op_eq (pv 3) (pv 1) (nomark _)))))))), ?_⟩
    walk_at "rd"
    refine mark_call hp n0 n1 (isNum_int ⟨true, rfl, ?_⟩)
    walk_at "rd"
    refine ⟨⟨by omega, by omega, by omega⟩, ?_⟩
    refine (if_pos trivial).mpr (number_call hp (fun m m0 m1 em => isNum_int ⟨true, rfl, ?_⟩) fun z => absurd rfl (z n n0 n1))
    have : m = n := by
      have h1 := NT.mk_div (n := m) (show 0 < p by omega)
      have h2 := NT.mk_div (n := n) (show 0 < p by omega)
      rw [← h1, ← h2, em]
    subst this
    walk_at "rd"
    exact q
def spSumRight (K : PySem.W.Frag) : Sp := fun vs H Q _ => ∃ p d : Int, vs = [.int p, .int d] ∧ okP (.int p) = true ∧ B 30000000 d ∧ ∀ H', Same H H' → Q (.bl true) H'
theorem ok_sum_right {f f1 f2 f3 C_BadPrime C_BadNumber : Addr} {fd fd1 fd2 fd3 : FuncData} (T : Blt mg) (F : Fun K "_law_sum_right" "_law_sum_right" s__law_sum_right f fd)
    (D_two_of : DefAt K mg "two_of" "two_of" s_two_of ["prime", "total"] f1 fd1) (G_two_of : FnOk P w K mg base (L2N.CX P w) 3 f1 fd1 ["prime", "total"] (spTwoOf K C_BadPrime C_BadNumber))
    (D__law_two : DefAt K mg "_law_two" "_law_two" s__law_two ["_law_found"] f2 fd2) (G__law_two : FnOk P w K mg base CX0 2 f2 fd2 ["_law_found"] (spTwo K))
    (D__law_mark : DefAt K mg "_law_mark" "_law_mark" s__law_mark ["_law_prime_here", "_law_number_here"] f3 fd3) : FnOk P w K mg base CX0 4 f fd ["_law_prime_here", "_law_total"] (spSumRight K) := by
  have G__law_mark : FnOk P w K mg base CX0 1 f3 fd3 ["_law_prime_here", "_law_number_here"] spMarkOf := ok_law_mark D__law_mark.F
  refine F.ok sc__law_sum_right (fun vs H Q E h => ?_) (fun cdv A outer s H vs Q E hr h => ?_)
  · obtain ⟨p, d, rfl, _⟩ := h
    rfl
  · obtain ⟨p, d, rfl, hp, hB, q⟩ := h
    refine ⟨_, pss_cons (ps_set (i := 2) sc__law_sum_right.nd rfl (by first | exact Or.inl rfl | exact Or.inr rfl) (pe_call G_two_of (hr.mono (by decide)) (by rfl) D_two_of.g D_two_of.kp D_two_of.b .nil passN (pa_cons (pv 0) (pa_cons (pv 1) pa_nil))))
      (pss_cons (ps_if (pt_cmp (pc_notN (pv 2))) (pss_cons (ps_if (PW.pt (pw_or (pt_not (pt_val (pe_call G__law_two (hr.mono (by decide)) (by rfl) D__law_two.g D__law_two.kp D__law_two.b .nil pass0 (pa_cons (pv 2) pa_nil)))) (pw_or1 (pt_not (pt_chain3 op_le op_le op_lt (pe_int) (pe_ix (ix_tupk (K := K)) (pv 2) (pe_int) (fun _ _ => rfl)) (pe_ix (ix_tupk (K := K)) (pv 2) (pe_int) (fun _ _ => rfl)) (pv 0)))))) (pss_one (ps_ret (pe_bl))) (pss_nil))
      (pss_cons (ps_if (pt_cmpR (op_neDk (K := K) hr.units) (pe_call G_two_of (hr.mono (by decide)) (by rfl) D_two_of.g D_two_of.kp D_two_of.b .nil passN (pa_cons (pv 0) (pa_cons (pv 1) pa_nil))) (pv 2) (nomark _)) (pss_one (ps_ret (pe_bl))) (pss_nil))
      (pss_one (ps_ret (pe_cmpR op_eq (pe_op op_add (pe_call G__law_mark (hr.mono (by decide)) (by rfl) D__law_mark.g D__law_mark.kp D__law_mark.b .nil pass0 (pa_cons (pv 0) (pa_cons (pe_ix (ix_tupk (K := K)) (pv 2) (pe_int) (fun _ _ => rfl)) pa_nil))) (pe_call G__law_mark (hr.mono (by decide)) (by rfl) D__law_mark.g D__law_mark.kp D__law_mark.b .nil pass0 (pa_cons (pv 0) (pa_cons (pe_ix (ix_tupk (K := K)) (pv 2) (pe_int) (fun _ _ => rfl)) pa_nil)))) (pv 1) (nomark _)))))) (pss_nil))
      (pss_cons (ps_if (pt_cmpR op_gt (pv 0) (pe_int) (nomark _)) (pss_one (ps_ret (pe_bl))) (pss_nil))
      (pss_cons (ps_set (i := 3) sc__law_sum_right.nd rfl (by first | exact Or.inl rfl | exact Or.inr rfl) (pe_op op_fdiv (pv 1) (pe_op op_mulB (pe_int) (pv 0))))
      (pss_cut (ps_for PassesOwn.never rfl (pi_r2 (by rfl) T.b_range (pa_cons (pe_callB (call_max2 rfl) (by rfl) T.b_max (by decide +kernel) (pa_cons (pe_int) (pa_cons (pe_op op_add (pe_op op_sub (pv 3) (pv 0)) (pe_int)) pa_nil))) (pa_cons (pe_op op_add (pe_callB (call_min2 rfl) (by rfl) T.b_min (by decide +kernel) (pa_cons (pe_op op_sub (pv 0) (pe_int)) (pa_cons (pv 3) pa_nil))) (pe_int)) pa_nil))) (pg_name (i := 4) sc__law_sum_right.nd rfl (by first | exact Or.inl rfl | exact Or.inr rfl)) (pss_one (ps_if (pt_cmpR op_eq (pe_op op_add (pe_call G__law_mark (hr.mono (by decide)) (by rfl) D__law_mark.g D__law_mark.kp D__law_mark.b .nil pass0 (pa_cons (pv 0) (pa_cons (pv 4) pa_nil))) (pe_call G__law_mark (hr.mono (by decide)) (by rfl) D__law_mark.g D__law_mark.kp D__law_mark.b .nil pass0 (pa_cons (pv 0) (pa_cons (pe_op op_sub (pv 3) (pv 4)) pa_nil)))) (pv 1) (nomark _)) (pss_one (ps_ret (pe_bl))) (pss_nil))))
      (pss_one (ps_ret (pe_bl))))))), ?_⟩
    walk_at "rd"
    have hok := okP_int hp
    obtain ⟨_, e0, p3, p6, pp⟩ := hok
    cases e0
    refine two_call hp (hB.mono (by decide)) ⟨fun a b r H1 p1 sm np ep => ?_, fun nr H1 sm => ?_⟩
    · refine (if_neg (by intro z; cases z)).mpr ?_
      refine ⟨p1, a, b, rfl, ep, true, rfl, iteT ⟨_, _, _, _, rfl, rfl, sqt_of ep, atI_nat (j := 0) rfl, ?_⟩⟩
      walk_at "rd"
      refine (if_pos r.1).mpr ⟨_, _, sqt_of ep, atI_nat (j := 1) rfl, ?_⟩
      walk_at "rd"
      refine (if_pos r.2.1).mpr ((if_pos r.2.2.1).mpr ?_)
      refine two_call hp (hB.mono (by decide)) ⟨fun a' b' r' H2 p2 sm2 np2 ep2 => ?_, fun nr => absurd r (nr a b)⟩
      obtain ⟨rfl, rfl⟩ := NT.pairS_one pp p3 r r'
      have ep' := sm2 _ _ ep
      refine ⟨_, _, dp_tup (ns := [a, b]) (sqt_of ep2), dp_tup (ns := [a, b]) (sqt_of ep'), shaped_tup _, shaped_tup _, _, rfl, ?_⟩
      rw [eqv_tups, decide_eq_true rfl]
      refine iteF ⟨_, _, sqt_of ep', atI_nat (j := 0) rfl, ?_⟩
      have r0 := r.1
      have r1 := r.2.1
      have r2 := r.2.2.1
      walk_at "rd"
      refine ⟨⟨by omega, by omega, by omega⟩, _, _, sqt_of ep', atI_nat (j := 1) rfl, ?_⟩
      walk_at "rd"
      refine ⟨⟨by omega, by omega, by omega⟩, ?_⟩
      rw [decide_eq_true r.2.2.2]
      exact q _ (sm.trans sm2)
    · refine (if_pos rfl).mpr ?_
      refine ite2 (fun _ => q H1 sm) (fun h1000 => ?_)
      obtain ⟨s, es⟩ : ∃ s, s = d / (2 * p) := ⟨_, rfl⟩
      rw [← es]
      refine ⟨mulB_small (by omega) (by omega), ⟨by omega, by omega⟩, fun σ H' => Same H H', ?_, fun σ H' sm' => q H' sm'⟩
      walk_at "rd"
      obtain ⟨lo, elo⟩ : ∃ lo, lo = (if s - p + 1 > 0 then s - p + 1 else 0) := ⟨_, rfl⟩
      obtain ⟨hi, ehi⟩ : ∃ hi, hi = (if s < p - 1 then s else p - 1) := ⟨_, rfl⟩
      have blo : 0 ≤ lo ∧ s - p + 1 ≤ lo := by
        rw [elo]
        split <;> omega
      have bhi : hi ≤ p - 1 ∧ hi ≤ s := by
        rw [ehi]
        split <;> omega
      rw [← elo, ← ehi]
      refine for_range (fun i σ H'' => H'' = H1 ∧ ∃ y4, σ = [some (.int p), some (.int d), some .non, some (.int s), y4]) ⟨rfl, _, rfl⟩ ?_ (fun σ H'' ⟨e, y4, e2⟩ => e ▸ sm)
      rintro k σ H'' hk ⟨rfl, y4, rfl⟩
      walk_at "rd"
      refine ⟨⟨by omega, by omega, by omega⟩, ⟨by omega, by omega, by omega⟩, ite2 (fun hd2 => ?_) (fun _ => ⟨by trivial, _, rfl⟩)⟩
      exfalso
      rcases Int.le_total (lo + k) (s - (lo + k)) with h | h
      · exact nr (lo + k) (s - (lo + k)) ⟨by omega, h, by omega, hd2⟩
      · exact nr (s - (lo + k)) (lo + k) ⟨by omega, h, by omega, by rw [Int.add_comm]; exact hd2⟩
def spNoMark (K : PySem.W.Frag) : Sp := fun vs H Q _ => ∃ p x : Int, vs = [.int p, .int x] ∧ okP (.int p) = true ∧ (∀ n, 0 ≤ n → n < p → NT.mk p n ≠ x) ∧ ∀ H', Same H H' → Q (.bl true) H'
theorem ok_no_mark {f f1 C_BadPrime C_BadNumber C_NoMark C_MarkError C_BadMarks C_NotApart : Addr} {fd fd1 : FuncData} (T : Blt mg) (F : Fun K "_law_no_mark" "_law_no_mark" s__law_no_mark f fd)
    (E_MarkError : ErrC K mg "MarkError" C_MarkError) (E_BadMarks : ErrC K mg "BadMarks" C_BadMarks) (E_BadNumber : ErrC K mg "BadNumber" C_BadNumber) (E_BadPrime : ErrC K mg "BadPrime" C_BadPrime) (E_NoMark : ErrC K mg "NoMark" C_NoMark) (E_NotApart : ErrC K mg "NotApart" C_NotApart)
    (X : ExcC K C_NoMark) (u0 : PySem.W.subIn K (.ref C_NoMark) (.ref C_MarkError) = some true) (u1 : PySem.W.subIn K (.ref C_NoMark) (.ref C_BadMarks) = some false) (u2 : PySem.W.subIn K (.ref C_NoMark) (.ref C_BadNumber) = some false) (u3 : PySem.W.subIn K (.ref C_NoMark) (.ref C_BadPrime) = some false) (u4 : PySem.W.subIn K (.ref C_NoMark) (.ref C_NotApart) = some false)
    (D_number_of : DefAt K mg "number_of" "number_of" s_number_of ["prime", "found"] f1 fd1) (G_number_of : FnOk P w K mg base (L2N.CX P w) 3 f1 fd1 ["prime", "found"] (spNumberOf K C_BadPrime C_BadNumber C_NoMark)) :
    FnOk P w K mg base CX0 4 f fd ["_law_prime_here", "_law_found"] (spNoMark K) := by
  refine F.ok sc__law_no_mark (fun vs H Q E h => ?_) (fun cdv A outer s H vs Q E hr h => ?_)
  · obtain ⟨p, x, rfl, _⟩ := h
    rfl
  · obtain ⟨p, x, rfl, hp, hx, q⟩ := h
    refine ⟨_, pss_cons (L2N.ps_try_as (i := 2) rfl rfl sc__law_no_mark.nd rfl rfl ⟨rfl, by decide, .inl E_MarkError.g⟩ takesN
      (fun W pn xe tk _ => pss_one (ps_expr (pe_callS G_number_of (hr.mono (by decide)) (by rfl) D_number_of.g D_number_of.kp D_number_of.b (fun σ => L2N.passAt tk σ) (pa_cons (pv 0) (pa_cons (pv 1) pa_nil)))))
      (fun a oe cls d pn hz hf => pss_cons (ps_set (i := 3) sc__law_no_mark.nd rfl (by first | exact Or.inl rfl | exact Or.inr rfl) (pe_lst (pa_cons (pe_callB (call_isX (K := K) hz hf) (by rfl) T.b_isinstance (by decide +kernel) (pa_cons (pv 2) (pa_cons (pe_glob (v := .ref C_BadMarks) (by rfl) E_BadMarks.g rfl) pa_nil))) (pa_cons (pe_callB (call_isX (K := K) hz hf) (by rfl) T.b_isinstance (by decide +kernel) (pa_cons (pv 2) (pa_cons (pe_glob (v := .ref C_BadNumber) (by rfl) E_BadNumber.g rfl) pa_nil))) (pa_cons (pe_callB (call_isX (K := K) hz hf) (by rfl) T.b_isinstance (by decide +kernel) (pa_cons (pv 2) (pa_cons (pe_glob (v := .ref C_BadPrime) (by rfl) E_BadPrime.g rfl) pa_nil))) pa_nil)))))
      (pss_one (ps_ret (pe_and (pe_callB (call_isX (K := K) hz hf) (by rfl) T.b_isinstance (by decide +kernel) (pa_cons (pv 2) (pa_cons (pe_glob (v := .ref C_NoMark) (by rfl) E_NoMark.g rfl) pa_nil))) (pe_and (pe_not (pe_callB (cr_anyH (K := K) (hotC_suite hz hf)) (by rfl) T.b_any (by decide +kernel) (pa_cons (pv 3) pa_nil))) (pe_one (pe_not (pe_callB (call_isX (K := K) hz hf) (by rfl) T.b_isinstance (by decide +kernel) (pa_cons (pv 2) (pa_cons (pe_glob (v := .ref C_NotApart) (by rfl) E_NotApart.g rfl) pa_nil)))))))))))
      (pss_one (ps_ret (pe_bl))), ?_⟩
    walk_at "rd"
    refine number_call hp (fun n n0 n1 e => absurd e (hx n n0 n1)) fun _ => take_as (E_MarkError.exm u0) fun a na => ?_
    walk_at "rd"
    refine isX X (E_BadMarks.kit u1) (isX X (E_BadNumber.kit u2) (isX X (E_BadPrime.kit u3) ⟨by decide, fun l nl => isX X (E_NoMark.kit E_NoMark.ss) ?_⟩))
    exact ⟨true, rfl, iteT ⟨[false, false, false], sq_of upd_same, iteF (isX X (E_NotApart.kit u4) ⟨false, rfl, q _ (same_new nl)⟩)⟩⟩
end
end Sa
local macro_rules | `(tactic| walk_at "rd") => `(tactic| ((try simp only [L2.start, L2.wipe, List.set_cons_succ, List.set_cons_zero, List.map_cons, List.map_nil, List.length_cons, List.length_nil, List.cons_append, List.nil_append, List.replicate_succ, List.replicate_zero, Nat.reduceSub, Nat.reduceAdd, Nat.zero_add]); try simp only [↓Sa.rd_seq, ↓Sa.rd_power, ↓Sa.rd_markOf, ↓Sa.rd_lcR1, ↓Sa.rd_lcR2, ↓Sa.rd_lcL, ↓Sa.rd_lcT, ↓Sa.rd_dput, ↓Sa.rd_dget1, ↓Sa.rd_dnew,  ↓Sa.rd_next, ↓Sa.rd_brk, ↓Sa.rd_asg, ↓Sa.rp_name, ↓Sa.rp_par, ↓Sa.rd_ret, ↓Sa.rd_retN, ↓Sa.rd_drop, ↓Sa.rd_if, ↓Sa.rp_var, ↓Sa.rd_c, ↓Sa.rd_op, ↓Sa.rd_un, ↓Sa.rd_I0, ↓Sa.rd_I, ↓Sa.rd_U, ↓Sa.rd_eqI, ↓Sa.rd_neI, ↓Sa.rd_test, ↓Sa.rd_B, ↓Sa.rd_and, ↓Sa.rd_or, ↓Sa.rd_not, ↓Sa.rd_andV, ↓Sa.rd_orV, ↓Sa.rd_notV, ↓Sa.rd_ifE, ↓Sa.rd_isN, ↓Sa.rd_notN, ↓Sa.rd_chain, ↓Sa.rd_chain3, ↓Sa.rd_nil, ↓Sa.rd_cons, ↓Sa.rd_tup, ↓Sa.rd_lst, ↓Sa.rd_call, ↓Sa.rd_CB, ↓Sa.rd_ixL, ↓Sa.rd_ixT, ↓Sa.rd_sl, ↓Sa.rd_noPart, ↓Sa.rd_part, ↓Sa.rd_slL, ↓Sa.rd_sum, ↓Sa.rd_all, ↓Sa.rd_any, ↓Sa.ex_int, ↓Sa.ex_int1, ↓Sa.ex_int2, ↓Sa.rd_len, ↓Sa.ex_len, ↓Sa.ex_bl, ↓Sa.ex_two, ↓Sa.slot_z, ↓Sa.slot_n, ↓Sa.setS_z, ↓Sa.setS_n, ↓Sa.if_tt, ↓Sa.if_ff, ↓Sa.if_dec, ↓Sa.if_ndec, ↓Sa.if_nb, ↓Sa.rd_forL, ↓Sa.rd_forT, ↓Sa.rd_forR1, ↓Sa.rd_forR2, ↓Sa.rd_forR3, ↓Sa.ex_ref, ↓Sa.cx_K, ↓List.append_nil, List.length_cons, List.length_nil, Nat.reduceAdd, Nat.zero_add]))
namespace Sa
open PySem PySem.Spec PyProof.Rows L2 Evl
theorem mk_b {p n : Int} (p0 : 0 < p) (p6 : p ≤ 1000000) (n0 : 0 ≤ n) (n1 : n < p) : 0 ≤ NT.mk p n ∧ NT.mk p n < 4000000000000 := by
  have h := NT.sq_b (n := n) p0
  have h1 : 0 ≤ p * n := Int.mul_nonneg (by omega) n0
  have h2 : p * n ≤ 1000000 * 1000000 := Int.mul_le_mul (by omega) (by omega) n0 (by omega)
  have h3 : 2 * p * n = 2 * (p * n) := Int.mul_assoc 2 p n
  unfold NT.mk
  omega
theorem mk_lt {p a b : Int} (p0 : 0 < p) (h : a < b) : NT.mk p a < NT.mk p b := by
  have x := NT.sq_b (n := a) p0
  have y := NT.sq_b (n := b) p0
  have h1 : 2 * p * 1 ≤ 2 * p * (b - a) := Int.mul_le_mul_of_nonneg_left (by omega) (by omega)
  rw [Int.mul_sub] at h1
  unfold NT.mk
  omega
theorem map_at {ns : List Int} {i : Nat} {x : V} (h : (ns.map V.int)[i]? = some x) : ∃ d, d ∈ ns ∧ x = .int d := by
  rw [List.getElem?_map] at h
  cases e : ns[i]? with
  | none =>
    rw [e] at h
    cases h
  | some d =>
    rw [e] at h
    exact ⟨d, List.mem_of_getElem? e, (Option.some.inj h).symm⟩
def tri : Nat → Nat
  | 0 => 0
  | n + 1 => tri n + n
section
variable {P : Program} {w : World} {K : PySem.W.Frag} {mg : Str → Option Value} {base : Heap}
theorem sum63_ok {σ : L2.St} {H : Hp} {Q : VK} {a : Addr} {ns : List Int} (hv : σ[0]? = some (some (.ref a))) (hS : SqL K H a (ns.map V.int)) (hl : ns.length ≤ 63) (q : ∀ H', Same H H' → Q (.int ns.sum) H') :
    tCB (rSum K) (tCons (tSl (rSlL K) (tVar 0) tNoPart (tPart (tC (.int 63)))) tNil) σ H Q := by
  refine ⟨_, hv, _, rfl, a, _, rfl, hS, fun p hp => ⟨p, ns, rfl, .inl (.inl ?_), q _ (same_new hp)⟩⟩
  rw [upd_same, show (63 : Int) = ((63 : Nat) : Int) from rfl, cut_all _ 63 (by rw [List.length_map]; exact hl)]
def spLaw (K : PySem.W.Frag) : Sp := fun vs H Q _ => ∃ (a : Addr) (ns : List Int), vs = [.ref a] ∧ SqL K H a (ns.map V.int) ∧ ns.length ≤ 63 ∧ (∀ z ∈ ns, B 1048577 z) ∧ ∀ H', Q (.bl true) H'
end
end Sa
local macro_rules | `(tactic| walk_at "rd") => `(tactic| ((try simp only [L2.start, L2.wipe, List.set_cons_succ, List.set_cons_zero, List.map_cons, List.map_nil, List.length_cons, List.length_nil, List.cons_append, List.nil_append, List.replicate_succ, List.replicate_zero, Nat.reduceSub, Nat.reduceAdd, Nat.zero_add]); try simp only [↓Sa.rd_seq, ↓Sa.rd_power, ↓Sa.rd_markOf, ↓Sa.rd_lcR1, ↓Sa.rd_lcR2, ↓Sa.rd_lcL, ↓Sa.rd_lcT, ↓Sa.rd_dput, ↓Sa.rd_dget1, ↓Sa.rd_dnew,  ↓Sa.rd_next, ↓Sa.rd_brk, ↓Sa.rd_asg, ↓Sa.rp_name, ↓Sa.rp_par, ↓Sa.rd_ret, ↓Sa.rd_retN, ↓Sa.rd_drop, ↓Sa.rd_if, ↓Sa.rp_var, ↓Sa.rd_c, ↓Sa.rd_op, ↓Sa.rd_un, ↓Sa.rd_I0, ↓Sa.rd_I, ↓Sa.rd_U, ↓Sa.rd_eqI, ↓Sa.rd_neI, ↓Sa.rd_test, ↓Sa.rd_B, ↓Sa.rd_and, ↓Sa.rd_or, ↓Sa.rd_not, ↓Sa.rd_andV, ↓Sa.rd_orV, ↓Sa.rd_notV, ↓Sa.rd_ifE, ↓Sa.rd_isN, ↓Sa.rd_notN, ↓Sa.rd_chain, ↓Sa.rd_chain3, ↓Sa.rd_nil, ↓Sa.rd_cons, ↓Sa.rd_tup, ↓Sa.rd_lst, ↓Sa.rd_call, ↓Sa.rd_CB, ↓Sa.rd_ixL, ↓Sa.rd_ixT, ↓Sa.rd_sl, ↓Sa.rd_noPart, ↓Sa.rd_part, ↓Sa.rd_slL, ↓Sa.rd_sum, ↓Sa.rd_all, ↓Sa.rd_any, ↓Sa.ex_int, ↓Sa.ex_int1, ↓Sa.ex_int2, ↓Sa.rd_len, ↓Sa.ex_len, ↓Sa.ex_bl, ↓Sa.ex_two, ↓Sa.slot_z, ↓Sa.slot_n, ↓Sa.setS_z, ↓Sa.setS_n, ↓Sa.if_tt, ↓Sa.if_ff, ↓Sa.if_dec, ↓Sa.if_ndec, ↓Sa.if_nb, ↓Sa.rd_forL, ↓Sa.rd_forT, ↓Sa.rd_forR1, ↓Sa.rd_forR2, ↓Sa.rd_forR3, ↓Sa.ex_ref, ↓Sa.cx_K, ↓List.append_nil, List.length_cons, List.length_nil, Nat.reduceAdd, Nat.zero_add]))
namespace Sa
open PySem PySem.Spec PyProof.Rows L2 Evl
def triS (s : Nat) : Nat → Nat
  | 0 => 0
  | n + 1 => triS s n + (s - n)
theorem triS_le {s : Nat} (h : s ≤ 13) : ∀ k : Nat, k ≤ 13 → triS s k ≤ 13 * k
  | 0, _ => Nat.le_refl _
  | k + 1, hk => by
    have := triS_le h k (by omega)
    show triS s k + (s - k) ≤ _
    omega
def SS (s : Int) (H : Hp) (d : Addr) (n : Nat) (done : Int → Int → Prop) : Prop :=
  ∃ kvs : List (Key × V), H d = some (.dK kvs) ∧ kvs.length = n ∧ (∀ k v, valV kvs (Sum.inl k) = some v → ∃ a b q, NT.PairS s k a b ∧ done a b ∧ v = .ref q ∧ H q = some (.tup [.int a, .int b])) ∧ ∀ a b, done a b → (valV kvs (Sum.inl (NT.mk s a + NT.mk s b))).isSome = true
theorem SS.congr {s : Int} {H : Hp} {d : Addr} {n : Nat} {done done' : Int → Int → Prop} (h : SS s H d n done) (e : ∀ a b, done a b ↔ done' a b) : SS s H d n done' := by
  obtain ⟨kvs, h1, h2, h3, h4⟩ := h
  exact ⟨kvs, h1, h2, fun k v x => by
    obtain ⟨a, b, q, p1, p2, p3⟩ := h3 k v x
    exact ⟨a, b, q, p1, (e a b).mp p2, p3⟩, fun a b x => h4 a b ((e a b).mpr x)⟩
theorem SS.put {s : Int} {H : Hp} {d q : Addr} {n : Nat} {done : Int → Int → Prop} (h : SS s H d n done) (hp : NT.Pr s) (h3 : 3 ≤ s) {a b : Int} (h0 : 0 ≤ a) (h1 : a ≤ b) (h2 : b < s) (hn : ¬ done a b) (nq : H q = none) (hz : n < 1000) :
    ∃ H', DPut (upd H q (.tup [.int a, .int b])) d (.int (NT.mk s a + NT.mk s b)) (.ref q) H' ∧ SS s H' d (n + 1) (fun x y => done x y ∨ (x = a ∧ y = b)) ∧ ∀ G, Same G H → G d = none → Same G H' := by
  obtain ⟨kvs, e1, e2, e3, e4⟩ := h
  have sq : Same H (upd H q (.tup [.int a, .int b])) := same_newO nq
  have hP : NT.PairS s (NT.mk s a + NT.mk s b) a b := ⟨h0, h1, h2, rfl⟩
  have new : valV kvs (Sum.inl (NT.mk s a + NT.mk s b)) = none := by
    cases x : valV kvs (Sum.inl (NT.mk s a + NT.mk s b)) with
    | none => rfl
    | some v =>
      obtain ⟨a', b', q', p1, p2, _⟩ := e3 _ _ x
      obtain ⟨rfl, rfl⟩ := NT.pairS_one hp h3 hP p1
      exact absurd p2 hn
  refine ⟨_, DPut.k (k := Sum.inl (NT.mk s a + NT.mk s b)) (sq _ _ e1) (Nat.lt_of_lt_of_le (by omega) (show 1000 ≤ sizeLine by decide)), ⟨putK kvs (Sum.inl (NT.mk s a + NT.mk s b)) (.ref q), upd_same, ?_, fun k v x => ?_, fun x y z => ?_⟩, fun G g gd => same_mut (g.trans sq) gd⟩
  · rw [putK_new _ new, List.length_append, e2]
    rfl
  · rw [valV_put] at x
    split at x
    · rename_i ek
      cases ek
      cases x
      refine ⟨a, b, q, hP, .inr ⟨rfl, rfl⟩, rfl, ?_⟩
      rw [upd_ne (ne_of_none e1 nq).symm]
      exact upd_same
    · obtain ⟨a', b', q', p1, p2, p3, p4⟩ := e3 _ _ x
      refine ⟨a', b', q', p1, .inl p2, p3, ?_⟩
      rw [upd_ne (ne_of p4 e1 (by intro z; cases z))]
      exact sq _ _ p4
  · rw [valV_put]
    split
    · rfl
    · rename_i ne
      rcases z with z | ⟨rfl, rfl⟩
      · exact e4 x y z
      · exact absurd rfl ne
section
variable {P : Program} {w : World} {K : PySem.W.Frag} {mg : Str → Option Value} {base : Heap}
theorem ok_law {f f1 f2 f3 f4 f5 f6 f7 C_BadPrime C_BadNumber : Addr} {fd fd1 fd2 fd3 fd4 fd5 fd6 fd7 : FuncData} (T : Blt mg) (F : Fun K "law" "law" s_law f fd)
    (D__law_prime : DefAt K mg "_law_prime" "_law_prime" s__law_prime ["_law_script", "_law_at"] f1 fd1) (G__law_prime : FnOk P w K mg base CX0 2 f1 fd1 ["_law_script", "_law_at"] (spLawPrime K))
    (D__law_number : DefAt K mg "_law_number" "_law_number" s__law_number ["_law_cell", "_law_at", "_law_whole_here"] f2 fd2) (G__law_number : FnOk P w K mg base CX0 1 f2 fd2 ["_law_cell", "_law_at", "_law_whole_here"] spNumber)
    (D__law_mark : DefAt K mg "_law_mark" "_law_mark" s__law_mark ["_law_prime_here", "_law_number_here"] f3 fd3) (G__law_mark : FnOk P w K mg base CX0 1 f3 fd3 ["_law_prime_here", "_law_number_here"] spMarkOf)
    (D_two_of : DefAt K mg "two_of" "two_of" s_two_of ["prime", "total"] f4 fd4) (G_two_of : FnOk P w K mg base (L2N.CX P w) 3 f4 fd4 ["prime", "total"] (spTwoOf K C_BadPrime C_BadNumber))
    (D__law_mark_right : DefAt K mg "_law_mark_right" "_law_mark_right" s__law_mark_right ["_law_prime_here", "_law_number_here"] f5 fd5) (G__law_mark_right : FnOk P w K mg base CX0 4 f5 fd5 ["_law_prime_here", "_law_number_here"] spMarkRight)
    (D__law_sum_right : DefAt K mg "_law_sum_right" "_law_sum_right" s__law_sum_right ["_law_prime_here", "_law_total"] f6 fd6) (G__law_sum_right : FnOk P w K mg base CX0 4 f6 fd6 ["_law_prime_here", "_law_total"] (spSumRight K))
    (D__law_no_mark : DefAt K mg "_law_no_mark" "_law_no_mark" s__law_no_mark ["_law_prime_here", "_law_found"] f7 fd7) (G__law_no_mark : FnOk P w K mg base CX0 4 f7 fd7 ["_law_prime_here", "_law_found"] (spNoMark K)) : FnOk P w K mg base CX0 5 f fd ["_law_script"] (spLaw K) := by
  refine F.ok sc_law (fun vs H Q E h => ?_) (fun cdv A outer s H vs Q E hr h => ?_)
  · obtain ⟨a, ns, rfl, _⟩ := h
    rfl
  · obtain ⟨a, ns, rfl, hS, hl, hb, q⟩ := h
    refine ⟨_, pss_cons (ps_set (i := 1) sc_law.nd rfl (by first | exact Or.inl rfl | exact Or.inr rfl) (pe_callB (cr_sumk (K := K) rfl) (by rfl) T.b_sum (by decide +kernel) (pa_cons (pe_slice (sl_listk (K := K)) (pv 0) po_none (po_some (pe_int))) pa_nil)))
      (pss_cons (ps_set (i := 2) sc_law.nd rfl (by first | exact Or.inl rfl | exact Or.inr rfl) (pe_ifExp (pt_cmpR (op_neDk (K := K) hr.units) (pv 0) (pe_lst pa_nil) (nomark _)) (pe_slice (sl_listk (K := K)) (pv 0) po_none (po_some (pe_int))) (pe_lst (pa_cons (pe_int) pa_nil))))
      (pss_cut (ps_for PassesOwn.never rfl (pi_range3 (by rfl) T.b_range (pa_cons (pe_int) (pa_cons (pe_callB (call_lenk (K := K)) (by rfl) T.b_len (by decide +kernel) (pa_cons (pv 2) pa_nil)) (pa_cons (pe_op op_add (pe_int) (pe_op op_fdiv (pe_callB (call_lenk (K := K)) (by rfl) T.b_len (by decide +kernel) (pa_cons (pv 2) pa_nil)) (pe_int))) pa_nil)))) (pg_name (i := 3) sc_law.nd rfl (by first | exact Or.inl rfl | exact Or.inr rfl)) (pss_cons (ps_set (i := 4) sc_law.nd rfl (by first | exact Or.inl rfl | exact Or.inr rfl) (pe_call G__law_prime (hr.mono (by decide)) (by rfl) D__law_prime.g D__law_prime.kp D__law_prime.b .nil pass0 (pa_cons (pv 0) (pa_cons (pv 3) pa_nil))))
      (pss_cons (ps_set (i := 5) sc_law.nd rfl (by first | exact Or.inl rfl | exact Or.inr rfl) (pe_call G__law_number (hr.mono (by decide)) (by rfl) D__law_number.g D__law_number.kp D__law_number.b .nil pass0 (pa_cons (pe_ix (ix_listk (K := K)) (pv 2) (pv 3) (fun _ _ => rfl)) (pa_cons (pe_op op_add (pv 3) (pe_int)) (pa_cons (pv 1) pa_nil)))))
      (pss_cons (ps_par (i := 6) (j := 7) (by rfl) sc_law.nd rfl rfl (by decide) rfl rfl (pa_cons (pe_op op_mod (pv 5) (pv 4)) (pa_cons (pe_op op_mod (pe_op op_fdiv (pv 5) (pe_int)) (pv 4)) pa_nil)) (by rfl))
      (pss_cut (ps_for PassesOwn.never rfl (pi_list (pe_lst (pa_cons (pe_int) (pa_cons (pe_int) (pa_cons (pe_op op_sub (pv 4) (pe_int)) (pa_cons (pv 6) (pa_cons (pv 7) pa_nil))))))) (pg_name (i := 8) sc_law.nd rfl (by first | exact Or.inl rfl | exact Or.inr rfl)) (pss_one (ps_if (pt_not (pt_val (pe_call G__law_mark_right (hr.mono (by decide)) (by rfl) D__law_mark_right.g D__law_mark_right.kp D__law_mark_right.b .nil pass0 (pa_cons (pv 4) (pa_cons (pv 8) pa_nil))))) (pss_one (ps_ret (pe_bl))) (pss_nil))))
      (pss_cons (ps_set (i := 9) sc_law.nd rfl (by first | exact Or.inl rfl | exact Or.inr rfl) (pe_lst (pa_cons (pe_tup (pa_cons (pv 6) (pa_cons (pv 7) pa_nil))) (pa_cons (pe_tup (pa_cons (pv 6) (pa_cons (pv 6) pa_nil))) (pa_cons (pe_tup (pa_cons (pe_op op_sub (pv 4) (pe_int)) (pa_cons (pv 7) pa_nil))) (pa_cons (pe_tup (pa_cons (pe_int) (pa_cons (pe_ix (ix_listk (K := K)) (pe_lst (pa_cons (pe_int) (pa_cons (pv 6) (pa_cons (pe_op op_sub (pv 4) (pe_int)) pa_nil)))) (pe_op op_mod (pv 5) (pe_int)) (fun _ _ => rfl)) pa_nil))) pa_nil))))))
      (pss_cut (ps_for PassesOwn.never rfl (pi_list (pv 9)) (pg_tup rfl (pgs_cons (pg_name (i := 10) sc_law.nd rfl (by first | exact Or.inl rfl | exact Or.inr rfl)) (pgs_cons (pg_name (i := 11) sc_law.nd rfl (by first | exact Or.inl rfl | exact Or.inr rfl)) pgs_nil))) (pss_cons (ps_set (i := 12) sc_law.nd rfl (by first | exact Or.inl rfl | exact Or.inr rfl) (pe_op op_add (pe_call G__law_mark (hr.mono (by decide)) (by rfl) D__law_mark.g D__law_mark.kp D__law_mark.b .nil pass0 (pa_cons (pv 4) (pa_cons (pv 10) pa_nil))) (pe_call G__law_mark (hr.mono (by decide)) (by rfl) D__law_mark.g D__law_mark.kp D__law_mark.b .nil pass0 (pa_cons (pv 4) (pa_cons (pv 11) pa_nil)))))
      (pss_cons (ps_if (pt_cmpR (op_neDk (K := K) hr.units) (pe_call G_two_of (hr.mono (by decide)) (by rfl) D_two_of.g D_two_of.kp D_two_of.b .nil passN (pa_cons (pv 4) (pa_cons (pv 12) pa_nil))) (pe_tup (pa_cons (pe_callB (call_min2 rfl) (by rfl) T.b_min (by decide +kernel) (pa_cons (pv 10) (pa_cons (pv 11) pa_nil))) (pa_cons (pe_callB (call_max2 rfl) (by rfl) T.b_max (by decide +kernel) (pa_cons (pv 10) (pa_cons (pv 11) pa_nil))) pa_nil))) (nomark _)) (pss_one (ps_ret (pe_bl))) (pss_nil))
      (pss_one (ps_if (PW.pt (pw_or (pt_not (pt_val (pe_call G__law_sum_right (hr.mono (by decide)) (by rfl) D__law_sum_right.g D__law_sum_right.kp D__law_sum_right.b .nil pass0 (pa_cons (pv 4) (pa_cons (pe_op op_add (pv 12) (pe_int)) pa_nil))))) (pw_or1 (pt_not (pt_val (pe_call G__law_sum_right (hr.mono (by decide)) (by rfl) D__law_sum_right.g D__law_sum_right.kp D__law_sum_right.b .nil pass0 (pa_cons (pv 4) (pa_cons (pe_op op_sub (pv 12) (pe_int)) pa_nil)))))))) (pss_one (ps_ret (pe_bl))) (pss_nil))))))
      (pss_cut (ps_for PassesOwn.never rfl (pi_list (pe_lst (pa_cons (pe_op op_mod (pv 5) (pe_op op_mulB (pe_op op_mulB (pe_int) (pv 4)) (pv 4))) (pa_cons (pe_op op_sub (pe_un un_neg (pe_int)) (pv 5)) (pa_cons (pe_op op_add (pe_op op_mulB (pe_op op_mulB (pe_int) (pv 4)) (pv 4)) (pv 5)) (pa_cons (pe_op op_mod (pv 5) (pe_int)) pa_nil)))))) (pg_name (i := 12) sc_law.nd rfl (by first | exact Or.inl rfl | exact Or.inr rfl)) (pss_one (ps_if (pt_not (pt_val (pe_call G__law_sum_right (hr.mono (by decide)) (by rfl) D__law_sum_right.g D__law_sum_right.kp D__law_sum_right.b .nil pass0 (pa_cons (pv 4) (pa_cons (pv 12) pa_nil))))) (pss_one (ps_ret (pe_bl))) (pss_nil))))
      (pss_cut (ps_set (i := 13) sc_law.nd rfl (by first | exact Or.inl rfl | exact Or.inr rfl) (pe_call G__law_mark (hr.mono (by decide)) (by rfl) D__law_mark.g D__law_mark.kp D__law_mark.b .nil pass0 (pa_cons (pv 4) (pa_cons (pv 6) pa_nil))))
      (pss_one (ps_for PassesOwn.never rfl (pi_list (pe_lst (pa_cons (pe_op op_add (pv 13) (pe_int)) (pa_cons (pe_op op_sub (pv 13) (pe_int)) (pa_cons (pe_op op_sub (pe_un un_neg (pe_int)) (pv 5)) (pa_cons (pe_op op_add (pe_op op_mulB (pe_op op_mulB (pe_int) (pv 4)) (pv 4)) (pv 5)) pa_nil)))))) (pg_name (i := 14) sc_law.nd rfl (by first | exact Or.inl rfl | exact Or.inr rfl)) (pss_cons (ps_set (i := 8) sc_law.nd rfl (by first | exact Or.inl rfl | exact Or.inr rfl) (pe_op op_fdiv (pv 14) (pe_op op_mulB (pe_int) (pv 4))))
      (pss_one (ps_if (PW.pt (pw_or (pt_not (pt_chain op_le op_lt (pe_int) (pv 8) (pv 4))) (pw_or1 (pt_cmpR op_ne (pe_call G__law_mark (hr.mono (by decide)) (by rfl) D__law_mark.g D__law_mark.kp D__law_mark.b .nil pass0 (pa_cons (pv 4) (pa_cons (pv 8) pa_nil))) (pv 14) (nomark _))))) (pss_one (ps_if (pt_not (pt_val (pe_call G__law_no_mark (hr.mono (by decide)) (by rfl) D__law_no_mark.g D__law_no_mark.kp D__law_no_mark.b .nil pass0 (pa_cons (pv 4) (pa_cons (pv 14) pa_nil))))) (pss_one (ps_ret (pe_bl))) (pss_nil))) (pss_nil)))))))))))))))
      (pss_cons (ps_set (i := 15) sc_law.nd rfl (by first | exact Or.inl rfl | exact Or.inr rfl) (pe_ix (ix_tupk (K := K)) (pe_tup (pa_cons (pe_int) (pa_cons (pe_int) (pa_cons (pe_int) (pa_cons (pe_int) (pa_cons (pe_int) pa_nil)))))) (pe_op op_mod (pv 1) (pe_int)) (fun _ _ => rfl)))
      (pss_cons (ps_set (i := 16) sc_law.nd rfl (by first | exact Or.inl rfl | exact Or.inr rfl) (pe_dnewK))
      (pss_cut (ps_for PassesOwn.never rfl (pi_r1 (by rfl) T.b_range (pa_cons (pv 15) pa_nil)) (pg_name (i := 6) sc_law.nd rfl (by first | exact Or.inl rfl | exact Or.inr rfl)) (pss_one (ps_for PassesOwn.never rfl (pi_r2 (by rfl) T.b_range (pa_cons (pv 6) (pa_cons (pv 15) pa_nil))) (pg_name (i := 7) sc_law.nd rfl (by first | exact Or.inl rfl | exact Or.inr rfl)) (pss_one (ps_dput (hu_of hr) (pv 16) (pe_op op_add (pe_call G__law_mark (hr.mono (by decide)) (by rfl) D__law_mark.g D__law_mark.kp D__law_mark.b .nil pass0 (pa_cons (pv 15) (pa_cons (pv 6) pa_nil))) (pe_call G__law_mark (hr.mono (by decide)) (by rfl) D__law_mark.g D__law_mark.kp D__law_mark.b .nil pass0 (pa_cons (pv 15) (pa_cons (pv 7) pa_nil)))) (pe_tup (pa_cons (pv 6) (pa_cons (pv 7) pa_nil))) rfl)))))
      (pss_cons (ps_if (pt_cmpR op_ne (pe_callB call_lenD (by rfl) T.b_len (by decide +kernel) (pa_cons (pv 16) pa_nil)) (pe_op op_fdiv (pe_op op_mulB (pv 15) (pe_op op_add (pv 15) (pe_int))) (pe_int)) (nomark _)) (pss_one (ps_ret (pe_bl))) (pss_nil))
      (pss_one (ps_ret (pe_callB (cr_allk (K := K) rfl) (by rfl) T.b_all (by decide +kernel) (pa_cons (pe_lc (own := [("_law_total", 12)]) (g := gName 12) (tt := tYes) (by rfl) sc_law.nd (pi_r2 (by rfl) T.b_range (pa_cons (pe_un un_neg (pe_int)) (pa_cons (pe_op op_add (pe_op op_mulB (pe_op op_mulB (pe_int) (pv 15)) (pv 15)) (pe_int)) pa_nil))) (blkOk_by (own := [("_law_total", 12)]) (N := ["_law_script", "_law_whole_here", "_law_cells", "_law_at", "_law_prime_here", "_law_drawn", "_law_one", "_law_other", "_law_number_here", "_law_pairs", "_law_first", "_law_second", "_law_total", "_law_far", "_law_some", "_law_small", "_law_every"]) (sc := defScope s_law) (by decide +kernel)) (fun _ _ _ _ _ => pg_name (i := 12) sc_law.nd rfl (by first | exact Or.inl rfl | exact Or.inr rfl)) (fun _ _ _ _ _ => pts_nil) (fun _ _ _ _ _ => pe_cmpR (op_eqDk (K := K) hr.units) (pe_call G_two_of (hr.mono (by decide)) (by rfl) D_two_of.g D_two_of.kp D_two_of.b .nil passN (pa_cons (pv 15) (pa_cons (pv 12) pa_nil))) (pe_dget1 (hu_of hr) (pv 16) (pv 12) ⟨rfl, rfl, rfl, rfl⟩) (nomark _))) pa_nil)))))))))), ?_⟩
    refine sum63_ok rfl hS hl fun H1 s1 => ?_
    refine cells_ok (n := 63) (c := 7) rfl (s1.seq hS) fun H2 p1 s12 np ep => ?_
    have s2 := s1.trans s12
    have hc0 := cells_pos (ns := ns) (c := 7) (show 0 < 63 by decide)
    have hc1 := cells_len (ns := ns) (c := 7) (show 0 < 63 by decide)
    have hcm := cells_mem (n := 63) hb ((B.small (x := 7) (by decide)).mono (show 62 ≤ 1048577 by decide))
    obtain ⟨cs, ecs⟩ : ∃ cs, cs = cellsOf 63 ns 7 := ⟨_, rfl⟩
    rw [← ecs] at ep hc0 hc1 hcm
    have hw := sum_bits hb
    obtain ⟨wh, ewh⟩ : ∃ wh, wh = ns.sum := ⟨_, rfl⟩
    rw [← ewh] at hw
    have hw2 : B 1048640 wh := hw.mono (by omega)
    obtain ⟨n, n2, hrg, hlt⟩ := rgc hc0 hc1
    walk_at "rd"
    rw [← ewh]
    have slen : ((cs.map V.int).length : Int) = (cs.length : Int) := by rw [List.length_map]
    refine ⟨fun σ H' => Same H H' ∧ ∃ y3 y4 y5 y6 y7 y8 y9 y10 y11 y12 y13 y14 y15 y16, σ = [some (.ref a), some (.int wh), some (.ref p1), y3, y4, y5, y6, y7, y8, y9, y10, y11, y12, y13, y14, y15, y16], ?_, ?_⟩
    · walk_at "rd"
      refine ⟨_, .inl (sq_of ep), _, .inl (sq_of ep), ⟨by decide, by decide⟩, 0, _, _, n, rfl, (by rw [slen]; exact hrg), ?_⟩
      refine for_rangeC (lo := 0) (n := n) (fun i σ H' => Same H2 H' ∧ ∃ y3 y4 y5 y6 y7 y8 y9 y10 y11 y12 y13 y14 y15 y16, σ = [some (.ref a), some (.int wh), some (.ref p1), y3, y4, y5, y6, y7, y8, y9, y10, y11, y12, y13, y14, y15, y16]) ⟨Same.refl _, _, _, _, _, _, _, _, _, _, _, _, _, _, _, rfl⟩ ?_ (fun σ H' ⟨s, e⟩ => ⟨s2.trans s, e⟩)
      rintro i σ H' hi ⟨s3, y3, y4, y5, y6, y7, y8, y9, y10, y11, y12, y13, y14, y15, y16, rfl⟩
      obtain ⟨at', eat⟩ : ∃ at', at' = (0 : Int) + (i : Int) * (1 + ((cs.map V.int).length : Int) / 2) := ⟨_, rfl⟩
      rw [← eat]
      have hat : 0 ≤ at' ∧ at' < (cs.length : Int) := by
        rw [eat, slen, Int.zero_add]
        exact ⟨Int.mul_nonneg (by omega) (by omega), hlt i hi⟩
      walk_at "rd"
      refine ⟨a, ns, at', rfl, (s2.trans s3).seq hS, hl, hb, hat.1, by omega, fun H3 p s4 hp hp9 => ?_⟩
      obtain ⟨_, e0, p3, p6, pp⟩ := okP_int hp
      cases e0
      walk_at "rd"
      obtain ⟨x, hx, ex⟩ := at_lt hat.1 hat.2
      have ep3 := s4 _ _ (s3 _ _ ep)
      refine ⟨_, _, sq_of ep3, ex, x, at' + 5, wh, 1048640, rfl, (hcm x hx).mono (by decide), hw2, by omega, by omega, by decide, fun z hz => ?_⟩
      walk_at "rd"
      refine ⟨by omega, ⟨by decide, by decide⟩, by omega, ?_⟩
      have hm1 := mod_b (a := z) (show 0 < p by omega)
      have hm2 := mod_b (a := z / 7) (show 0 < p by omega)
      obtain ⟨u, eu⟩ : ∃ u, u = z % p := ⟨_, rfl⟩
      obtain ⟨v, ev⟩ : ∃ v, v = z / 7 % p := ⟨_, rfl⟩
      rw [← eu, ← ev]
      rw [← eu] at hm1
      rw [← ev] at hm2
      have hz3 : B 3000000 z := hz.mono (by decide)
      have s5 := s3.trans s4
      refine ⟨fun σ H' => Same H2 H' ∧ ∃ y8 y9 y10 y11 y12 y13 y14 y15 y16, σ = [some (.ref a), some (.int wh), some (.ref p1), some (.int at'), some (.int p), some (.int z), some (.int u), some (.int v), y8, y9, y10, y11, y12, y13, y14, y15, y16], ?_, ?_⟩
      · refine for_disp (n := 5) (I := IInts [0, 1, p - 1, u, v]) (fun _ _ _ _ h => h) (fun xs _ h => by rw [show xs = _ from h]; rfl) (by decide)
          (al_consI ee_c (al_consI ee_c (al_consI (ee_I0 (ee_var rfl) ee_c) (al_consI (ee_var rfl) (al_consI (ee_var rfl) al_nilI)))))
          (fun i σ H' => Same H2 H' ∧ ∃ y8 y9 y10 y11 y12 y13 y14 y15 y16, σ = [some (.ref a), some (.int wh), some (.ref p1), some (.int at'), some (.int p), some (.int z), some (.int u), some (.int v), y8, y9, y10, y11, y12, y13, y14, y15, y16])
          (fun H1 s => ⟨s5.trans s, _, _, _, _, _, _, _, _, _, rfl⟩) ?_ (fun σ H' s h => h)
        rintro Hf l sf i x xs σ' H' hx hi sH hI ⟨s7, y8, y9, y10, y11, y12, y13, y14, y15, y16, rfl⟩
        have hI' : xs = ([0, 1, p - 1, u, v] : List Int).map V.int := hI
        rw [hI'] at hx
        obtain ⟨d, hd, rfl⟩ := map_at hx
        have hdb : 0 ≤ d ∧ d < p := by
          simp only [List.mem_cons, List.not_mem_nil, or_false] at hd
          rcases hd with rfl | rfl | rfl | rfl | rfl <;> omega
        walk_at "rd"
        exact ⟨p, d, rfl, hp, hdb.1, hdb.2, true, rfl, iteT ⟨sH, s7, _, _, _, _, _, _, _, _, _, rfl⟩⟩
      · rintro σ H4 ⟨s6, y8, y9, y10, y11, y12, y13, y14, y15, y16, rfl⟩
        walk_at "rd"
        refine ⟨by decide, fun q1 n1 => ⟨by decide, fun q2 n2' => ⟨by decide, fun q3 n3 => ⟨by decide, fun q4 n4 => ⟨by decide, ?_⟩⟩⟩⟩⟩
        obtain ⟨t1, e1⟩ : ∃ t, t = upd H4 q1 (.tup [.int u, .int v]) := ⟨_, rfl⟩
        rw [← e1] at n2' n3 n4 ⊢
        have m1 : Same H4 t1 := e1 ▸ same_new n1
        have k1 : t1 q1 = some (.tup [.int u, .int v]) := e1 ▸ upd_same
        obtain ⟨t2, e2⟩ : ∃ t, t = upd t1 q2 (.tup [.int u, .int u]) := ⟨_, rfl⟩
        rw [← e2] at n3 n4 ⊢
        have m2 : Same t1 t2 := e2 ▸ same_new n2'
        have k2 : t2 q2 = some (.tup [.int u, .int u]) := e2 ▸ upd_same
        obtain ⟨t3, e3⟩ : ∃ t, t = upd t2 q3 (.tup [.int (p - 1), .int v]) := ⟨_, rfl⟩
        rw [← e3] at n4 ⊢
        have m3 : Same t2 t3 := e3 ▸ same_new n3
        have k3 : t3 q3 = some (.tup [.int (p - 1), .int v]) := e3 ▸ upd_same
        obtain ⟨t4, e4⟩ : ∃ t, t = upd t3 q4 (.lst [.int 0, .int u, .int (p - 1)]) := ⟨_, rfl⟩
        rw [← e4]
        have m4 : Same t3 t4 := e4 ▸ same_new n4
        have k4 : t4 q4 = some (.lst [.int 0, .int u, .int (p - 1)]) := e4 ▸ upd_same
        obtain ⟨y, hy, ey⟩ := at_lt (xs := [0, u, p - 1]) (i := z % 3) (by omega) (by show z % 3 < 3; omega)
        have hyb : 0 ≤ y ∧ y < p := by
          simp only [List.mem_cons, List.not_mem_nil, or_false] at hy
          rcases hy with rfl | rfl | rfl <;> omega
        refine ⟨_, .int y, sq_of (xs := [0, u, p - 1].map V.int) k4, ey, by decide, fun q5 n5 => ⟨by decide, fun l nl => ?_⟩⟩
        obtain ⟨t5, e5⟩ : ∃ t, t = upd t4 q5 (.tup [.int 0, .int y]) := ⟨_, rfl⟩
        rw [← e5] at nl ⊢
        have m5 : Same t4 t5 := e5 ▸ same_new n5
        have k5 : t5 q5 = some (.tup [.int 0, .int y]) := e5 ▸ upd_same
        obtain ⟨t6, e6⟩ : ∃ t, t = upd t5 l (.lst [.ref q1, .ref q2, .ref q3, .ref q5]) := ⟨_, rfl⟩
        rw [← e6]
        have m6 : Same t5 t6 := e6 ▸ same_new nl
        have k6 : t6 l = some (.lst [.ref q1, .ref q2, .ref q3, .ref q5]) := e6 ▸ upd_same
        have hP : IPairs [(u, v), (u, u), (p - 1, v), (0, y)] [.ref q1, .ref q2, .ref q3, .ref q5] t6 :=
          ⟨q1, _, rfl, m6 _ _ (m5 _ _ (m4 _ _ (m3 _ _ (m2 _ _ k1)))), q2, _, rfl, m6 _ _ (m5 _ _ (m4 _ _ (m3 _ _ k2))), q3, _, rfl, m6 _ _ (m5 _ _ (m4 _ _ k3)), q5, _, rfl, m6 _ _ k5, rfl⟩
        have sT : Same H4 t6 := m1.trans (m2.trans (m3.trans (m4.trans (m5.trans m6))))
        have s8 : Same H2 t6 := s6.trans sT
        clear e1 e2 e3 e4 e5 e6 k1 k2 k3 k4 k5 m1 m2 m3 m4 m5 m6 n1 n2' n3 n4 n5 nl
        have hBm : ∀ fi se k : Int, 0 ≤ fi → fi < p → 0 ≤ se → se < p → -1 ≤ k → k ≤ 1 → B 30000000 (NT.mk p fi + NT.mk p se + k) := fun fi se k f0 f1 s0 s1' k0 k1 => by
          have b1 := mk_b (n := fi) (by omega) p6 f0 f1
          have b2 := mk_b (n := se) (by omega) p6 s0 s1'
          exact (B.small (by omega)).mono (by decide)
        refine ⟨fun σ H' => Same H2 H' ∧ ∃ y8 y9 y10 y11 y12 y13 y14 y15 y16, σ = [some (.ref a), some (.int wh), some (.ref p1), some (.int at'), some (.int p), some (.int z), some (.int u), some (.int v), y8, y9, y10, y11, y12, y13, y14, y15, y16], ?_, ?_⟩
        · walk_at "rd"
          refine ⟨⟨_, sq_of k6⟩, for_list (K := K) (a := l) (xs := [.ref q1, .ref q2, .ref q3, .ref q5]) (fun i σ H' => Same t6 H' ∧ ∃ y8 y10 y11 y12 y13 y14 y15 y16, σ = [some (.ref a), some (.int wh), some (.ref p1), some (.int at'), some (.int p), some (.int z), some (.int u), some (.int v), y8, some (.ref l), y10, y11, y12, y13, y14, y15, y16])
            ⟨Same.refl _, _, _, _, _, _, _, _, _, rfl⟩ (fun i σ H' _ ⟨s, _⟩ => sq_of (s _ _ k6)) ?_ (fun σ H' ⟨s, y8, y10, y11, y12, y13, y14, y15, y16, e⟩ => ⟨s8.trans s, _, _, _, _, _, _, _, _, _, e⟩)⟩
          rintro i x' σ' H' hx' ⟨s9, y8, y10, y11, y12, y13, y14, y15, y16, rfl⟩
          obtain ⟨fi, se, q', hab, rfl, hq'⟩ := (hP.mono s9).at hx'
          have hfs : 0 ≤ fi ∧ fi < p ∧ 0 ≤ se ∧ se < p := by
            have hmem := List.mem_of_getElem? hab
            simp only [List.mem_cons, List.not_mem_nil, or_false, Prod.mk.injEq] at hmem
            rcases hmem with ⟨rfl, rfl⟩ | ⟨rfl, rfl⟩ | ⟨rfl, rfl⟩ | ⟨rfl, rfl⟩ <;> omega
          refine ⟨q', _, rfl, sqt_of hq', rfl, _, _, rfl, _, _, rfl, rfl, ?_⟩
          walk_at "rd"
          obtain ⟨nr, enr⟩ : ∃ x, x = (if se < fi then se else fi) := ⟨_, rfl⟩
          obtain ⟨fr, efr⟩ : ∃ x, x = (if se > fi then se else fi) := ⟨_, rfl⟩
          have hS' : NT.PairS p (NT.mk p fi + NT.mk p se) nr fr := by
            rw [enr, efr]
            rcases Int.lt_or_le se fi with h | h
            · rw [if_pos h, if_neg (by omega)]
              exact ⟨by omega, by omega, by omega, Int.add_comm _ _⟩
            · rw [if_neg (by omega)]
              by_cases h2 : se > fi
              · rw [if_pos h2]
                exact ⟨by omega, by omega, by omega, rfl⟩
              · rw [if_neg h2]
                have : se = fi := by omega
                rw [this]
                exact ⟨by omega, by omega, by omega, rfl⟩
          rw [← enr, ← efr]
          have hB0 := hBm fi se 0 hfs.1 hfs.2.1 hfs.2.2.1 hfs.2.2.2 (by decide) (by decide)
          rw [Int.add_zero] at hB0
          have hB1 := hBm fi se 1 hfs.1 hfs.2.1 hfs.2.2.1 hfs.2.2.2 (by decide) (by decide)
          have hB2 := hBm fi se (-1) hfs.1 hfs.2.1 hfs.2.2.1 hfs.2.2.2 (by decide) (by decide)
          refine ⟨⟨by omega, by omega, by omega⟩, ⟨by omega, by omega, by omega⟩, two_call hp (hB0.mono (by decide)) ⟨fun a' b' r H6 q6 s10 _ e6 => ?_, fun z => absurd hS' (z nr fr)⟩⟩
          obtain ⟨rfl, rfl⟩ := NT.pairS_one pp p3 hS' r
          refine ⟨by decide, fun q7 n7 => ⟨_, _, dp_tup (ns := [nr, fr]) (sqt_of ((same_new n7) _ _ e6)), dp_tup (ns := [nr, fr]) (sqt_of upd_same), shaped_tup _, shaped_tup _, _, rfl, ?_⟩⟩
          rw [eqv_tups, decide_eq_true rfl]
          exact iteF ⟨p, _, rfl, hp, hB1, fun H8 s11 => ⟨true, rfl, iteT ⟨p, _, rfl, hp, hB2, fun H9 s12 => ⟨true, rfl, iteT ⟨s9.trans (s10.trans ((same_new n7).trans (s11.trans s12))), _, _, _, _, _, _, _, _, rfl⟩⟩⟩⟩⟩
        · rintro σ H5 ⟨s9, y8, y9, y10, y11, y12, y13, y14, y15, y16, rfl⟩
          have c1 : CMulB 4 p := mulB_small (by omega) (by omega)
          have c2 : CMulB (4 * p) p := mulB_small (by omega) (by omega)
          have d1 : CMulB 2 p := mulB_small (by omega) (by omega)
          have d2 : CMulB (2 * p) p := mulB_small (by omega) (by omega)
          have c3 : 0 < p * p := Int.mul_pos (by omega) (by omega)
          have c4 : p * p ≤ 1000000 * 1000000 := Int.mul_le_mul p6 p6 (by omega) (by omega)
          have c5 : 4 * p * p = 4 * (p * p) := Int.mul_assoc 4 p p
          have d5 : 2 * p * p = 2 * (p * p) := Int.mul_assoc 2 p p
          have c6 : 0 < 4 * p * p := by omega
          have c7 := mod_b (a := z) c6
          have hzm : B 3000001 (-1 - z) := ((B.small (x := -1) (by decide)).mono (by decide)).sub hz3
          refine ⟨fun σ H' => Same H2 H' ∧ ∃ y8 y9 y10 y11 y12 y13 y14 y15 y16, σ = [some (.ref a), some (.int wh), some (.ref p1), some (.int at'), some (.int p), some (.int z), some (.int u), some (.int v), y8, y9, y10, y11, y12, y13, y14, y15, y16], ?_, ?_⟩
          · refine for_disp (n := 4) (I := IInts [z % (4 * p * p), -1 - z, 4 * p * p + z, z % 9]) (fun _ _ _ _ h => h) (fun xs _ h => by rw [show xs = _ from h]; rfl) (by decide)
              (al_consI (ee_I (ee_var rfl) (ee_I (ee_I ee_c (ee_var rfl) c1) (ee_var rfl) c2) c6) (al_consI (ee_I0 (ee_U ee_c) (ee_var rfl)) (al_consI (ee_I0 (ee_I (ee_I ee_c (ee_var rfl) c1) (ee_var rfl) c2) (ee_var rfl)) (al_consI (ee_I (ee_var rfl) ee_c (by decide)) al_nilI))))
              (fun i σ H' => Same H2 H' ∧ ∃ y8 y9 y10 y11 y12 y13 y14 y15 y16, σ = [some (.ref a), some (.int wh), some (.ref p1), some (.int at'), some (.int p), some (.int z), some (.int u), some (.int v), y8, y9, y10, y11, y12, y13, y14, y15, y16])
              (fun H1 s => ⟨s9.trans s, _, _, _, _, _, _, _, _, _, rfl⟩) ?_ (fun σ H' s h => h)
            rintro Hf l sf i x xs σ' H' hx hi sH hI ⟨s7, y8, y9, y10, y11, y12, y13, y14, y15, y16, rfl⟩
            have hI' : xs = ([z % (4 * p * p), -1 - z, 4 * p * p + z, z % 9] : List Int).map V.int := hI
            rw [hI'] at hx
            obtain ⟨d, hd, rfl⟩ := map_at hx
            have hB : B 30000000 d := by
              simp only [List.mem_cons, List.not_mem_nil, or_false] at hd
              rcases hd with rfl | rfl | rfl | rfl
              · exact (B.small (by omega)).mono (by decide)
              · exact hzm.mono (by decide)
              · exact (((B.small (x := 4 * p * p) (by omega)).mono (show 62 ≤ 3000000 by decide)).add hz3).mono (by decide)
              · exact (B.small (by omega)).mono (by decide)
            walk_at "rd"
            exact ⟨p, d, rfl, hp, hB, fun H6 s8 => ⟨true, rfl, iteT ⟨sH.trans s8, s7.trans s8, _, _, _, _, _, _, _, _, _, rfl⟩⟩⟩
          · rintro σ H6 ⟨s10, y8, y9, y10, y11, y12, y13, y14, y15, y16, rfl⟩
            refine ⟨fun σ H' => Same H2 H' ∧ ∃ y8 y9 y10 y11 y12 y14 y15 y16, σ = [some (.ref a), some (.int wh), some (.ref p1), some (.int at'), some (.int p), some (.int z), some (.int u), some (.int v), y8, y9, y10, y11, y12, some (.int (NT.mk p u)), y14, y15, y16], ?_, ?_⟩
            · walk_at "rd"
              exact ⟨⟨by omega, by omega, by omega⟩, s10, _, _, _, _, _, _, _, _, rfl⟩
            · rintro σ H7 ⟨s11, y8, y9, y10, y11, y12, y14, y15, y16, rfl⟩
              refine for_disp (n := 4) (I := IInts [NT.mk p u + 1, NT.mk p u - 1, -1 - z, 2 * p * p + z]) (fun _ _ _ _ h => h) (fun xs _ h => by rw [show xs = _ from h]; rfl) (by decide)
                (al_consI (ee_I0 (ee_var rfl) ee_c) (al_consI (ee_I0 (ee_var rfl) ee_c) (al_consI (ee_I0 (ee_U ee_c) (ee_var rfl)) (al_consI (ee_I0 (ee_I (ee_I ee_c (ee_var rfl) d1) (ee_var rfl) d2) (ee_var rfl)) al_nilI))))
                (fun i σ H' => Same H2 H' ∧ ∃ y8 y9 y10 y11 y12 y14 y15 y16, σ = [some (.ref a), some (.int wh), some (.ref p1), some (.int at'), some (.int p), some (.int z), some (.int u), some (.int v), y8, y9, y10, y11, y12, some (.int (NT.mk p u)), y14, y15, y16])
                (fun H1 s => ⟨s11.trans s, _, _, _, _, _, _, _, _, rfl⟩) ?_ (fun σ H' s ⟨s7, y8, y9, y10, y11, y12, y14, y15, y16, e⟩ => ⟨s7, _, _, _, _, _, y8, y9, y10, y11, y12, _, y14, y15, y16, e⟩)
              rintro Hf l sf i x xs σ' H' hx hi sH hI ⟨s7, y8, y9, y10, y11, y12, y14, y15, y16, rfl⟩
              have hI' : xs = ([NT.mk p u + 1, NT.mk p u - 1, -1 - z, 2 * p * p + z] : List Int).map V.int := hI
              rw [hI'] at hx
              obtain ⟨d, hd, rfl⟩ := map_at hx
              walk_at "rd"
              refine ⟨d1, ⟨by omega, by omega⟩, ?_⟩
              have no : (0 ≤ d / (2 * p) → d / (2 * p) < p → NT.mk p (d / (2 * p)) ≠ d) → ∀ n, 0 ≤ n → n < p → NT.mk p n ≠ d := fun h n n0 n1 e => by
                have := NT.mk_div (n := n) (show 0 < p by omega)
                rw [e] at this
                rw [this] at h
                exact h n0 n1 e
              refine ite2 (fun a0 => ite2 (fun a1 => ⟨⟨by omega, by omega, by omega⟩, ite2 (fun _ => ⟨sH, s7, _, _, _, _, _, _, _, _, rfl⟩) (fun a2 => ?_)⟩) (fun a1 => ?_)) (fun a0 => ?_)
              · exact ⟨p, d, rfl, hp, no fun _ _ => a2, fun H8 s8 => ⟨true, rfl, iteT ⟨sH.trans s8, s7.trans s8, _, _, _, _, _, _, _, _, rfl⟩⟩⟩
              · exact ⟨p, d, rfl, hp, no fun _ z => absurd z a1, fun H8 s8 => ⟨true, rfl, iteT ⟨sH.trans s8, s7.trans s8, _, _, _, _, _, _, _, _, rfl⟩⟩⟩
              · exact ⟨p, d, rfl, hp, no fun z => absurd z a0, fun H8 s8 => ⟨true, rfl, iteT ⟨sH.trans s8, s7.trans s8, _, _, _, _, _, _, _, _, rfl⟩⟩⟩
    · rintro σ H3 ⟨s3, y3, y4, y5, y6, y7, y8, y9, y10, y11, y12, y13, y14, y15, y16, rfl⟩
      walk_at "rd"
      obtain ⟨sm, hsm, esm⟩ := at_lt (xs := [3, 5, 7, 11, 13]) (i := wh % 5) (by omega) (by show wh % 5 < 5; omega)
      have hok : okP (.int sm) = true ∧ sm ≤ 13 ∧ ((triS sm.toNat sm.toNat : Nat) : Int) = sm * (sm + 1) / 2 := by
        simp only [List.mem_cons, List.not_mem_nil, or_false] at hsm
        rcases hsm with rfl | rfl | rfl | rfl | rfl <;> refine ⟨by decide +kernel, by decide, by decide⟩
      obtain ⟨hp, hs13, htri⟩ := hok
      obtain ⟨_, e0, p3, p6, pp⟩ := okP_int hp
      cases e0
      refine ⟨by decide, fun p5 n5 => ⟨by decide, _, .int sm, sqt_of (xs := [3, 5, 7, 11, 13].map V.int) upd_same, esm, fun d nd => ?_⟩⟩
      have nd3 : H3 d = none := (same_new n5).free nd
      have tle : ∀ k : Nat, k ≤ 13 → triS sm.toNat k ≤ 13 * k := triS_le (by omega)
      refine ⟨fun σ H' => Same H3 H' ∧ SS sm H' d (triS sm.toNat sm.toNat) (fun x y => 0 ≤ x ∧ x ≤ y ∧ y < sm) ∧ ∃ y3 y4 y5 y6 y7 y8 y9 y10 y11 y12 y13 y14, σ = [some (.ref a), some (.int wh), some (.ref p1), y3, y4, y5, y6, y7, y8, y9, y10, y11, y12, y13, y14, some (.int sm), some (.ref d)], ?_, ?_⟩
      · walk_at "rd"
        refine for_range (fun i σ H' => Same H3 H' ∧ SS sm H' d (triS sm.toNat i) (fun x y => 0 ≤ x ∧ x ≤ y ∧ y < sm ∧ x < (i : Int)) ∧ ∃ y3 y4 y5 y6 y7 y8 y9 y10 y11 y12 y13 y14, σ = [some (.ref a), some (.int wh), some (.ref p1), y3, y4, y5, y6, y7, y8, y9, y10, y11, y12, y13, y14, some (.int sm), some (.ref d)])
          ⟨(same_new n5).trans (same_new nd), ⟨[], upd_same, rfl, fun k v x => (by cases x), fun x y z => (by omega)⟩, _, _, _, _, _, _, _, _, _, _, _, _, rfl⟩ ?_ (fun σ H' ⟨s, ds, e⟩ => ⟨s, ds.congr fun x y => by omega, e⟩)
        rintro i σ H' hi ⟨s4, ds, y3, y4, y5, y6, y7, y8, y9, y10, y11, y12, y13, y14, rfl⟩
        walk_at "rd"
        refine for_range (fun j σ H' => Same H3 H' ∧ SS sm H' d (triS sm.toNat i + j) (fun x y => 0 ≤ x ∧ x ≤ y ∧ y < sm ∧ (x < (i : Int) ∨ x = (i : Int) ∧ y < (i : Int) + (j : Int))) ∧ ∃ y3 y4 y5 y7 y8 y9 y10 y11 y12 y13 y14, σ = [some (.ref a), some (.int wh), some (.ref p1), y3, y4, y5, some (.int (0 + (i : Int))), y7, y8, y9, y10, y11, y12, y13, y14, some (.int sm), some (.ref d)])
          ⟨s4, ds.congr fun x y => by omega, _, _, _, _, _, _, _, _, _, _, _, rfl⟩ ?_ (fun σ H' ⟨s, ds, y3, y4, y5, y7, y8, y9, y10, y11, y12, y13, y14, e⟩ => ⟨s, ?_, y3, y4, y5, _, y7, y8, y9, y10, y11, y12, y13, y14, e⟩)
        · rintro j σ H'' hj ⟨s5, ds, y3, y4, y5, y7, y8, y9, y10, y11, y12, y13, y14, rfl⟩
          walk_at "rd"
          have t1 := tle i (by omega)
          refine ⟨by decide, fun q nq => ⟨⟨by omega, by omega, by omega⟩, ⟨by omega, by omega, by omega⟩, ?_⟩⟩
          obtain ⟨H5, hput, ds5, hsame⟩ := ds.put (q := q) pp p3 (a := (i : Int)) (b := (i : Int) + (j : Int)) (by omega) (by omega) (by omega) (by omega) nq (by omega)
          rw [Int.zero_add]
          exact ⟨d, H5, rfl, hput, hsame _ s5 nd3, ds5.congr fun x y => by omega, _, _, _, _, _, _, _, _, _, _, _, rfl⟩
        · have := ds.congr (done' := fun x y => 0 ≤ x ∧ x ≤ y ∧ y < sm ∧ x < ((i + 1 : Nat) : Int)) fun x y => by omega
          rwa [show triS sm.toNat i + (sm - (0 + (i : Int))).toNat = triS sm.toNat (i + 1) by show _ = triS sm.toNat i + (sm.toNat - i); omega] at this
      · rintro σ H4 ⟨s4, ds, y3, y4, y5, y6, y7, y8, y9, y10, y11, y12, y13, y14, rfl⟩
        obtain ⟨kvs, e1, e2, e3, e4⟩ := ds
        walk_at "rd"
        refine ⟨d, kvs, rfl, e1, mulB_small (by omega) (by omega), ⟨by decide, by decide⟩, (if_pos (by rw [e2]; exact htri)).mpr ?_⟩
        walk_at "rd"
        have hss : 4 * sm * sm ≤ 52 * 13 := Int.mul_le_mul (by omega) (by omega) (by omega) (by omega)
        refine ⟨mulB_small (by omega) (by omega), mulB_small (by omega) (by omega), lc_mapR (fun _ => .bl true) (fun _ => rfl) ?_ ?_ ?_⟩
        · omega
        · intro i H5 hi s5 Q' k
          walk_at "rd"
          have e1' := s5 _ _ e1
          have hB : B 40000000 (-3 + (i : Int)) := (B.small (by omega)).mono (by decide)
          refine two_call hp hB ⟨fun a' b' r H6 q6 s6 n6 e6 => ?_, fun z H6 s6 => ?_⟩
          · have e1'' := s6 _ _ e1'
            refine ⟨.inl ⟨_, .inl e1''⟩, _, DGet.k (k := Sum.inl (-3 + (i : Int))) e1'', ?_⟩
            have h4 := e4 a' b' ⟨r.1, r.2.1, r.2.2.1⟩
            rw [r.2.2.2] at h4
            cases x : valV kvs (Sum.inl (-3 + (i : Int))) with
            | none =>
              rw [x] at h4
              cases h4
            | some v =>
              obtain ⟨a2, b2, q2, r2, _, rfl, eq2⟩ := e3 _ _ x
              obtain ⟨rfl, rfl⟩ := NT.pairS_one pp p3 r r2
              refine ⟨_, _, dp_tup (ns := [a', b']) (sqt_of e6), dp_tup (ns := [a', b']) (sqt_of (s6 _ _ (s5 _ _ eq2))), shaped_tup _, shaped_tup _, ?_⟩
              rw [eqv_tups, decide_eq_true rfl]
              exact k _ s6
          · have e1'' := s6 _ _ e1'
            refine ⟨.inl ⟨_, .inl e1''⟩, _, DGet.k (k := Sum.inl (-3 + (i : Int))) e1'', ?_⟩
            cases x : valV kvs (Sum.inl (-3 + (i : Int))) with
            | some v =>
              obtain ⟨a2, b2, q2, r2, _⟩ := e3 _ _ x
              exact absurd r2 (z a2 b2)
            | none =>
              refine ⟨_, _, .non, .non, by decide, by decide, ?_⟩
              rw [show PyData.eqv .none .none = true by simp [PyData.eqv]]
              exact k _ s6
        · intro D H5 hD s5 eD
          refine rd_all.mpr ⟨(List.range _).map fun _ => true, sq_of (by rw [eD, List.map_map]; rfl), ?_⟩
          rw [show ∀ m : Nat, ((List.range m).map fun _ => true).all id = true by simp]
          exact q _
end
end Sa
namespace Sa
open PySem PySem.Spec PyProof.Rows L2 Evl
theorem def_mk {K : PySem.W.Frag} {h : Heap} {mg : Str → Option Value} {x : Str} {st : Stmt} {ps : List Str} {f : Addr} {oc : Value} {od an : Option Addr} {osl : Array (Option Value)} {kV doc pm cdv ct : Value} (X : K.In h) (G : h.Ns mainGlobals mg)
    (a : PySem.W.nsIn K mainGlobals x = some (some (.ref f))) (l : K.lookup f = some ⟨oc, od, .func (PySem.W.fnOf x x (defArgs st) (defBody st) (defScope st) .none kV doc pm an cdv ct), osl⟩) (c : PySem.W.codeIn K cdv x = true) (k : PySem.W.keepIn K (.ref f) = true)
    (hb : ∀ (kV doc pm : Value) (an : Option Addr) (cdv ct : Value) (us : List Value), us.length = ps.length → bindArgs (PySem.W.fnOf x x (defArgs st) (defBody st) (defScope st) .none kV doc pm an cdv ct) ⟨us, []⟩ = pure (ps.zip us)) :
    DefAt K mg x x st ps f (PySem.W.fnOf x x (defArgs st) (defBody st) (defScope st) .none kV doc pm an cdv ct) :=
  ⟨fun_mk l c k, (fun_mk l c k).binds hb, PySem.W.mg_of X G a⟩
theorem all_mk {l : PySem.W.OpenLaw} {w : World} {K : PySem.W.Frag} {h : Heap} {mg : Str → Option Value} {fa : Addr} (X : K.In h) (G : h.Ns mainGlobals mg) (hfa : mg "law" = some (.ref fa))
    {f_is_number : Addr} {od_is_number an_is_number : Option Addr} {sl_is_number : Array (Option Value)} {oc_is_number kV_is_number dc_is_number pm_is_number cd_is_number ct_is_number : Value}
    {f_is_prime : Addr} {od_is_prime an_is_prime : Option Addr} {sl_is_prime : Array (Option Value)} {oc_is_prime kV_is_prime dc_is_prime pm_is_prime cd_is_prime ct_is_prime : Value}
    {f_asked_prime : Addr} {od_asked_prime an_asked_prime : Option Addr} {sl_asked_prime : Array (Option Value)} {oc_asked_prime kV_asked_prime dc_asked_prime pm_asked_prime cd_asked_prime ct_asked_prime : Value}
    {f_power : Addr} {od_power an_power : Option Addr} {sl_power : Array (Option Value)} {oc_power kV_power dc_power pm_power cd_power ct_power : Value}
    {f_root_of : Addr} {od_root_of an_root_of : Option Addr} {sl_root_of : Array (Option Value)} {oc_root_of kV_root_of dc_root_of pm_root_of cd_root_of ct_root_of : Value}
    {f_mark_of : Addr} {od_mark_of an_mark_of : Option Addr} {sl_mark_of : Array (Option Value)} {oc_mark_of kV_mark_of dc_mark_of pm_mark_of cd_mark_of ct_mark_of : Value}
    {f_mark : Addr} {od_mark an_mark : Option Addr} {sl_mark : Array (Option Value)} {oc_mark kV_mark dc_mark pm_mark cd_mark ct_mark : Value}
    {f_number_of : Addr} {od_number_of an_number_of : Option Addr} {sl_number_of : Array (Option Value)} {oc_number_of kV_number_of dc_number_of pm_number_of cd_number_of ct_number_of : Value}
    {f_two_of : Addr} {od_two_of an_two_of : Option Addr} {sl_two_of : Array (Option Value)} {oc_two_of kV_two_of dc_two_of pm_two_of cd_two_of ct_two_of : Value}
    {f__law_number : Addr} {od__law_number an__law_number : Option Addr} {sl__law_number : Array (Option Value)} {oc__law_number kV__law_number dc__law_number pm__law_number cd__law_number ct__law_number : Value}
    {f__law_whole : Addr} {od__law_whole an__law_whole : Option Addr} {sl__law_whole : Array (Option Value)} {oc__law_whole kV__law_whole dc__law_whole pm__law_whole cd__law_whole ct__law_whole : Value}
    {f__law_is_prime : Addr} {od__law_is_prime an__law_is_prime : Option Addr} {sl__law_is_prime : Array (Option Value)} {oc__law_is_prime kV__law_is_prime dc__law_is_prime pm__law_is_prime cd__law_is_prime ct__law_is_prime : Value}
    {f__law_prime : Addr} {od__law_prime an__law_prime : Option Addr} {sl__law_prime : Array (Option Value)} {oc__law_prime kV__law_prime dc__law_prime pm__law_prime cd__law_prime ct__law_prime : Value}
    {f__law_mark : Addr} {od__law_mark an__law_mark : Option Addr} {sl__law_mark : Array (Option Value)} {oc__law_mark kV__law_mark dc__law_mark pm__law_mark cd__law_mark ct__law_mark : Value}
    {f__law_two : Addr} {od__law_two an__law_two : Option Addr} {sl__law_two : Array (Option Value)} {oc__law_two kV__law_two dc__law_two pm__law_two cd__law_two ct__law_two : Value}
    {f__law_no_mark : Addr} {od__law_no_mark an__law_no_mark : Option Addr} {sl__law_no_mark : Array (Option Value)} {oc__law_no_mark kV__law_no_mark dc__law_no_mark pm__law_no_mark cd__law_no_mark ct__law_no_mark : Value}
    {f__law_mark_right : Addr} {od__law_mark_right an__law_mark_right : Option Addr} {sl__law_mark_right : Array (Option Value)} {oc__law_mark_right kV__law_mark_right dc__law_mark_right pm__law_mark_right cd__law_mark_right ct__law_mark_right : Value}
    {f__law_sum_right : Addr} {od__law_sum_right an__law_sum_right : Option Addr} {sl__law_sum_right : Array (Option Value)} {oc__law_sum_right kV__law_sum_right dc__law_sum_right pm__law_sum_right cd__law_sum_right ct__law_sum_right : Value}
    {f_law : Addr} {od_law an_law : Option Addr} {sl_law : Array (Option Value)} {oc_law kV_law dc_law pm_law cd_law ct_law : Value}
    {C_BadPrime : Addr}
    {C_BadNumber : Addr}
    {C_NoMark : Addr}
    {C_MarkError : Addr}
    {C_BadMarks : Addr}
    {C_NotApart : Addr}
    {t_GREATEST : Tok}
    (a_is_number : PySem.W.nsIn K mainGlobals "is_number" = some (some (.ref f_is_number))) (l_is_number : K.lookup f_is_number = some ⟨oc_is_number, od_is_number, .func (PySem.W.fnOf "is_number" "is_number" (defArgs s_is_number) (defBody s_is_number) (defScope s_is_number) .none kV_is_number dc_is_number pm_is_number an_is_number cd_is_number ct_is_number), sl_is_number⟩) (c_is_number : PySem.W.codeIn K cd_is_number "is_number" = true) (k_is_number : PySem.W.keepIn K (.ref f_is_number) = true)
    (a_is_prime : PySem.W.nsIn K mainGlobals "is_prime" = some (some (.ref f_is_prime))) (l_is_prime : K.lookup f_is_prime = some ⟨oc_is_prime, od_is_prime, .func (PySem.W.fnOf "is_prime" "is_prime" (defArgs s_is_prime) (defBody s_is_prime) (defScope s_is_prime) .none kV_is_prime dc_is_prime pm_is_prime an_is_prime cd_is_prime ct_is_prime), sl_is_prime⟩) (c_is_prime : PySem.W.codeIn K cd_is_prime "is_prime" = true) (k_is_prime : PySem.W.keepIn K (.ref f_is_prime) = true)
    (a_asked_prime : PySem.W.nsIn K mainGlobals "asked_prime" = some (some (.ref f_asked_prime))) (l_asked_prime : K.lookup f_asked_prime = some ⟨oc_asked_prime, od_asked_prime, .func (PySem.W.fnOf "asked_prime" "asked_prime" (defArgs s_asked_prime) (defBody s_asked_prime) (defScope s_asked_prime) .none kV_asked_prime dc_asked_prime pm_asked_prime an_asked_prime cd_asked_prime ct_asked_prime), sl_asked_prime⟩) (c_asked_prime : PySem.W.codeIn K cd_asked_prime "asked_prime" = true) (k_asked_prime : PySem.W.keepIn K (.ref f_asked_prime) = true)
    (a_power : PySem.W.nsIn K mainGlobals "power" = some (some (.ref f_power))) (l_power : K.lookup f_power = some ⟨oc_power, od_power, .func (PySem.W.fnOf "power" "power" (defArgs s_power) (defBody s_power) (defScope s_power) .none kV_power dc_power pm_power an_power cd_power ct_power), sl_power⟩) (c_power : PySem.W.codeIn K cd_power "power" = true) (k_power : PySem.W.keepIn K (.ref f_power) = true)
    (a_root_of : PySem.W.nsIn K mainGlobals "root_of" = some (some (.ref f_root_of))) (l_root_of : K.lookup f_root_of = some ⟨oc_root_of, od_root_of, .func (PySem.W.fnOf "root_of" "root_of" (defArgs s_root_of) (defBody s_root_of) (defScope s_root_of) .none kV_root_of dc_root_of pm_root_of an_root_of cd_root_of ct_root_of), sl_root_of⟩) (c_root_of : PySem.W.codeIn K cd_root_of "root_of" = true) (k_root_of : PySem.W.keepIn K (.ref f_root_of) = true)
    (a_mark_of : PySem.W.nsIn K mainGlobals "mark_of" = some (some (.ref f_mark_of))) (l_mark_of : K.lookup f_mark_of = some ⟨oc_mark_of, od_mark_of, .func (PySem.W.fnOf "mark_of" "mark_of" (defArgs s_mark_of) (defBody s_mark_of) (defScope s_mark_of) .none kV_mark_of dc_mark_of pm_mark_of an_mark_of cd_mark_of ct_mark_of), sl_mark_of⟩) (c_mark_of : PySem.W.codeIn K cd_mark_of "mark_of" = true) (k_mark_of : PySem.W.keepIn K (.ref f_mark_of) = true)
    (a_mark : PySem.W.nsIn K mainGlobals "mark" = some (some (.ref f_mark))) (l_mark : K.lookup f_mark = some ⟨oc_mark, od_mark, .func (PySem.W.fnOf "mark" "mark" (defArgs s_mark) (defBody s_mark) (defScope s_mark) .none kV_mark dc_mark pm_mark an_mark cd_mark ct_mark), sl_mark⟩) (c_mark : PySem.W.codeIn K cd_mark "mark" = true) (k_mark : PySem.W.keepIn K (.ref f_mark) = true)
    (a_number_of : PySem.W.nsIn K mainGlobals "number_of" = some (some (.ref f_number_of))) (l_number_of : K.lookup f_number_of = some ⟨oc_number_of, od_number_of, .func (PySem.W.fnOf "number_of" "number_of" (defArgs s_number_of) (defBody s_number_of) (defScope s_number_of) .none kV_number_of dc_number_of pm_number_of an_number_of cd_number_of ct_number_of), sl_number_of⟩) (c_number_of : PySem.W.codeIn K cd_number_of "number_of" = true) (k_number_of : PySem.W.keepIn K (.ref f_number_of) = true)
    (a_two_of : PySem.W.nsIn K mainGlobals "two_of" = some (some (.ref f_two_of))) (l_two_of : K.lookup f_two_of = some ⟨oc_two_of, od_two_of, .func (PySem.W.fnOf "two_of" "two_of" (defArgs s_two_of) (defBody s_two_of) (defScope s_two_of) .none kV_two_of dc_two_of pm_two_of an_two_of cd_two_of ct_two_of), sl_two_of⟩) (c_two_of : PySem.W.codeIn K cd_two_of "two_of" = true) (k_two_of : PySem.W.keepIn K (.ref f_two_of) = true)
    (a__law_number : PySem.W.nsIn K mainGlobals "_law_number" = some (some (.ref f__law_number))) (l__law_number : K.lookup f__law_number = some ⟨oc__law_number, od__law_number, .func (PySem.W.fnOf "_law_number" "_law_number" (defArgs s__law_number) (defBody s__law_number) (defScope s__law_number) .none kV__law_number dc__law_number pm__law_number an__law_number cd__law_number ct__law_number), sl__law_number⟩) (c__law_number : PySem.W.codeIn K cd__law_number "_law_number" = true) (k__law_number : PySem.W.keepIn K (.ref f__law_number) = true)
    (a__law_whole : PySem.W.nsIn K mainGlobals "_law_whole" = some (some (.ref f__law_whole))) (l__law_whole : K.lookup f__law_whole = some ⟨oc__law_whole, od__law_whole, .func (PySem.W.fnOf "_law_whole" "_law_whole" (defArgs s__law_whole) (defBody s__law_whole) (defScope s__law_whole) .none kV__law_whole dc__law_whole pm__law_whole an__law_whole cd__law_whole ct__law_whole), sl__law_whole⟩) (c__law_whole : PySem.W.codeIn K cd__law_whole "_law_whole" = true) (k__law_whole : PySem.W.keepIn K (.ref f__law_whole) = true)
    (a__law_is_prime : PySem.W.nsIn K mainGlobals "_law_is_prime" = some (some (.ref f__law_is_prime))) (l__law_is_prime : K.lookup f__law_is_prime = some ⟨oc__law_is_prime, od__law_is_prime, .func (PySem.W.fnOf "_law_is_prime" "_law_is_prime" (defArgs s__law_is_prime) (defBody s__law_is_prime) (defScope s__law_is_prime) .none kV__law_is_prime dc__law_is_prime pm__law_is_prime an__law_is_prime cd__law_is_prime ct__law_is_prime), sl__law_is_prime⟩) (c__law_is_prime : PySem.W.codeIn K cd__law_is_prime "_law_is_prime" = true) (k__law_is_prime : PySem.W.keepIn K (.ref f__law_is_prime) = true)
    (a__law_prime : PySem.W.nsIn K mainGlobals "_law_prime" = some (some (.ref f__law_prime))) (l__law_prime : K.lookup f__law_prime = some ⟨oc__law_prime, od__law_prime, .func (PySem.W.fnOf "_law_prime" "_law_prime" (defArgs s__law_prime) (defBody s__law_prime) (defScope s__law_prime) .none kV__law_prime dc__law_prime pm__law_prime an__law_prime cd__law_prime ct__law_prime), sl__law_prime⟩) (c__law_prime : PySem.W.codeIn K cd__law_prime "_law_prime" = true) (k__law_prime : PySem.W.keepIn K (.ref f__law_prime) = true)
    (a__law_mark : PySem.W.nsIn K mainGlobals "_law_mark" = some (some (.ref f__law_mark))) (l__law_mark : K.lookup f__law_mark = some ⟨oc__law_mark, od__law_mark, .func (PySem.W.fnOf "_law_mark" "_law_mark" (defArgs s__law_mark) (defBody s__law_mark) (defScope s__law_mark) .none kV__law_mark dc__law_mark pm__law_mark an__law_mark cd__law_mark ct__law_mark), sl__law_mark⟩) (c__law_mark : PySem.W.codeIn K cd__law_mark "_law_mark" = true) (k__law_mark : PySem.W.keepIn K (.ref f__law_mark) = true)
    (a__law_two : PySem.W.nsIn K mainGlobals "_law_two" = some (some (.ref f__law_two))) (l__law_two : K.lookup f__law_two = some ⟨oc__law_two, od__law_two, .func (PySem.W.fnOf "_law_two" "_law_two" (defArgs s__law_two) (defBody s__law_two) (defScope s__law_two) .none kV__law_two dc__law_two pm__law_two an__law_two cd__law_two ct__law_two), sl__law_two⟩) (c__law_two : PySem.W.codeIn K cd__law_two "_law_two" = true) (k__law_two : PySem.W.keepIn K (.ref f__law_two) = true)
    (a__law_no_mark : PySem.W.nsIn K mainGlobals "_law_no_mark" = some (some (.ref f__law_no_mark))) (l__law_no_mark : K.lookup f__law_no_mark = some ⟨oc__law_no_mark, od__law_no_mark, .func (PySem.W.fnOf "_law_no_mark" "_law_no_mark" (defArgs s__law_no_mark) (defBody s__law_no_mark) (defScope s__law_no_mark) .none kV__law_no_mark dc__law_no_mark pm__law_no_mark an__law_no_mark cd__law_no_mark ct__law_no_mark), sl__law_no_mark⟩) (c__law_no_mark : PySem.W.codeIn K cd__law_no_mark "_law_no_mark" = true) (k__law_no_mark : PySem.W.keepIn K (.ref f__law_no_mark) = true)
    (a__law_mark_right : PySem.W.nsIn K mainGlobals "_law_mark_right" = some (some (.ref f__law_mark_right))) (l__law_mark_right : K.lookup f__law_mark_right = some ⟨oc__law_mark_right, od__law_mark_right, .func (PySem.W.fnOf "_law_mark_right" "_law_mark_right" (defArgs s__law_mark_right) (defBody s__law_mark_right) (defScope s__law_mark_right) .none kV__law_mark_right dc__law_mark_right pm__law_mark_right an__law_mark_right cd__law_mark_right ct__law_mark_right), sl__law_mark_right⟩) (c__law_mark_right : PySem.W.codeIn K cd__law_mark_right "_law_mark_right" = true) (k__law_mark_right : PySem.W.keepIn K (.ref f__law_mark_right) = true)
    (a__law_sum_right : PySem.W.nsIn K mainGlobals "_law_sum_right" = some (some (.ref f__law_sum_right))) (l__law_sum_right : K.lookup f__law_sum_right = some ⟨oc__law_sum_right, od__law_sum_right, .func (PySem.W.fnOf "_law_sum_right" "_law_sum_right" (defArgs s__law_sum_right) (defBody s__law_sum_right) (defScope s__law_sum_right) .none kV__law_sum_right dc__law_sum_right pm__law_sum_right an__law_sum_right cd__law_sum_right ct__law_sum_right), sl__law_sum_right⟩) (c__law_sum_right : PySem.W.codeIn K cd__law_sum_right "_law_sum_right" = true) (k__law_sum_right : PySem.W.keepIn K (.ref f__law_sum_right) = true)
    (a_law : PySem.W.nsIn K mainGlobals "law" = some (some (.ref f_law))) (l_law : K.lookup f_law = some ⟨oc_law, od_law, .func (PySem.W.fnOf "law" "law" (defArgs s_law) (defBody s_law) (defScope s_law) .none kV_law dc_law pm_law an_law cd_law ct_law), sl_law⟩) (c_law : PySem.W.codeIn K cd_law "law" = true) (k_law : PySem.W.keepIn K (.ref f_law) = true)
    (z_len : PySem.W.nsIn K mainGlobals "len" = some none)
    (z_isinstance : PySem.W.nsIn K mainGlobals "isinstance" = some none)
    (z_int : PySem.W.nsIn K mainGlobals "int" = some none)
    (z_bool : PySem.W.nsIn K mainGlobals "bool" = some none)
    (z_list : PySem.W.nsIn K mainGlobals "list" = some none)
    (z_tuple : PySem.W.nsIn K mainGlobals "tuple" = some none)
    (z_str : PySem.W.nsIn K mainGlobals "str" = some none)
    (z_range : PySem.W.nsIn K mainGlobals "range" = some none)
    (z_sum : PySem.W.nsIn K mainGlobals "sum" = some none)
    (z_min : PySem.W.nsIn K mainGlobals "min" = some none)
    (z_max : PySem.W.nsIn K mainGlobals "max" = some none)
    (z_any : PySem.W.nsIn K mainGlobals "any" = some none)
    (z_all : PySem.W.nsIn K mainGlobals "all" = some none)
    (z_sorted : PySem.W.nsIn K mainGlobals "sorted" = some none)
    (z_set : PySem.W.nsIn K mainGlobals "set" = some none)
    (z_enumerate : PySem.W.nsIn K mainGlobals "enumerate" = some none)
    (z_abs : PySem.W.nsIn K mainGlobals "abs" = some none)
    (h_MarkError : PySem.W.nsIn K mainGlobals "MarkError" = some (some (.ref C_MarkError))) (ic_MarkError : PySem.W.isClsIn K C_MarkError = true) (tt_MarkError : PySem.W.typeIn K (.ref C_MarkError) = some (.type "type")) (ss_MarkError : PySem.W.subIn K (.ref C_MarkError) (.ref C_MarkError) = some true) (bb_MarkError : PySem.W.subIn K (.ref C_MarkError) (.type "BaseException") = some true)
    (h_BadMarks : PySem.W.nsIn K mainGlobals "BadMarks" = some (some (.ref C_BadMarks))) (ic_BadMarks : PySem.W.isClsIn K C_BadMarks = true) (tt_BadMarks : PySem.W.typeIn K (.ref C_BadMarks) = some (.type "type")) (ss_BadMarks : PySem.W.subIn K (.ref C_BadMarks) (.ref C_BadMarks) = some true) (bb_BadMarks : PySem.W.subIn K (.ref C_BadMarks) (.type "BaseException") = some true)
    (h_BadNumber : PySem.W.nsIn K mainGlobals "BadNumber" = some (some (.ref C_BadNumber))) (ic_BadNumber : PySem.W.isClsIn K C_BadNumber = true) (tt_BadNumber : PySem.W.typeIn K (.ref C_BadNumber) = some (.type "type")) (ss_BadNumber : PySem.W.subIn K (.ref C_BadNumber) (.ref C_BadNumber) = some true) (bb_BadNumber : PySem.W.subIn K (.ref C_BadNumber) (.type "BaseException") = some true)
    (h_BadPrime : PySem.W.nsIn K mainGlobals "BadPrime" = some (some (.ref C_BadPrime))) (ic_BadPrime : PySem.W.isClsIn K C_BadPrime = true) (tt_BadPrime : PySem.W.typeIn K (.ref C_BadPrime) = some (.type "type")) (ss_BadPrime : PySem.W.subIn K (.ref C_BadPrime) (.ref C_BadPrime) = some true) (bb_BadPrime : PySem.W.subIn K (.ref C_BadPrime) (.type "BaseException") = some true)
    (h_NoMark : PySem.W.nsIn K mainGlobals "NoMark" = some (some (.ref C_NoMark))) (ic_NoMark : PySem.W.isClsIn K C_NoMark = true) (tt_NoMark : PySem.W.typeIn K (.ref C_NoMark) = some (.type "type")) (ss_NoMark : PySem.W.subIn K (.ref C_NoMark) (.ref C_NoMark) = some true) (bb_NoMark : PySem.W.subIn K (.ref C_NoMark) (.type "BaseException") = some true)
    (h_NotApart : PySem.W.nsIn K mainGlobals "NotApart" = some (some (.ref C_NotApart))) (ic_NotApart : PySem.W.isClsIn K C_NotApart = true) (tt_NotApart : PySem.W.typeIn K (.ref C_NotApart) = some (.type "type")) (ss_NotApart : PySem.W.subIn K (.ref C_NotApart) (.ref C_NotApart) = some true) (bb_NotApart : PySem.W.subIn K (.ref C_NotApart) (.type "BaseException") = some true)
    (e1_NoMark : PySem.W.findIn K (.ref C_NoMark) "__getattribute__" = some (some (.builtin "BaseException.__getattribute__"))) (e2_NoMark : PySem.W.findIn K (.ref C_NoMark) "__getattr__" = some none) (e3_NoMark : PySem.W.subIn K (.ref C_NoMark) (.type "BaseException") = some true) (e4_NoMark : PySem.W.hasDictIn K C_NoMark = true) (e5_NoMark : PySem.W.findIn K (.ref C_NoMark) "__class__" = some (some (.builtin "object.__class__"))) (e6_NoMark : PySem.W.specialIn K (.builtin "object.__class__") "__get__" = some (some (.builtin "getset_descriptor.__get__"))) (e7_NoMark : PySem.W.takesIn K (.builtin "object.__class__") = some true) (e8_NoMark : PySem.W.mroIn K C_NoMark (.type "object") = some true)
    (s_NoMark_MarkError : PySem.W.subIn K (.ref C_NoMark) (.ref C_MarkError) = some true)
    (s_NoMark_BadMarks : PySem.W.subIn K (.ref C_NoMark) (.ref C_BadMarks) = some false)
    (s_NoMark_BadNumber : PySem.W.subIn K (.ref C_NoMark) (.ref C_BadNumber) = some false)
    (s_NoMark_BadPrime : PySem.W.subIn K (.ref C_NoMark) (.ref C_BadPrime) = some false)
    (s_NoMark_NoMark : PySem.W.subIn K (.ref C_NoMark) (.ref C_NoMark) = some true)
    (s_NoMark_NotApart : PySem.W.subIn K (.ref C_NoMark) (.ref C_NotApart) = some false)
    (g_BadPrime : PySem.W.nsIn K mainGlobals "BadPrime" = some (some (.ref C_BadPrime))) (x_BadPrime : PySem.W.excIn K C_BadPrime [.type "ValueError", .type "Exception", .type "BaseException", .type "object"] "ValueError.__new__" = true) (kp_BadPrime : PySem.W.keepIn K (.ref C_BadPrime) = true) (sb_BadPrime : PySem.W.subIn K (.ref C_BadPrime) (.type "BaseException") = some true) (ty_BadPrime : PySem.W.typeIn K (.ref C_BadPrime) = some (.type "type"))
    (g_BadNumber : PySem.W.nsIn K mainGlobals "BadNumber" = some (some (.ref C_BadNumber))) (x_BadNumber : PySem.W.excIn K C_BadNumber [.type "ValueError", .type "Exception", .type "BaseException", .type "object"] "ValueError.__new__" = true) (kp_BadNumber : PySem.W.keepIn K (.ref C_BadNumber) = true) (sb_BadNumber : PySem.W.subIn K (.ref C_BadNumber) (.type "BaseException") = some true) (ty_BadNumber : PySem.W.typeIn K (.ref C_BadNumber) = some (.type "type"))
    (g_NoMark : PySem.W.nsIn K mainGlobals "NoMark" = some (some (.ref C_NoMark))) (x_NoMark : PySem.W.excIn K C_NoMark [.type "ValueError", .type "Exception", .type "BaseException", .type "object"] "ValueError.__new__" = true) (kp_NoMark : PySem.W.keepIn K (.ref C_NoMark) = true) (sb_NoMark : PySem.W.subIn K (.ref C_NoMark) (.type "BaseException") = some true) (ty_NoMark : PySem.W.typeIn K (.ref C_NoMark) = some (.type "type"))
    (n_GREATEST : PySem.W.nsIn K mainGlobals "GREATEST" = some (some (.int 1000000 t_GREATEST))) :
    ∃ fd : FuncData, (∀ (s : Shared) (v : Value), BindsTo s fd ⟨[v], []⟩ [("_law_script", v)]) ∧ ∀ base : Heap, K.In base → base.Ns mainGlobals mg → FnOk l.prog w K mg base CX0 5 fa fd ["_law_script"] (spLaw K) := by
  have e := hfa.symm.trans (PySem.W.mg_of X G a_law)
  cases e
  have D_is_number := def_mk (x := "is_number") (st := s_is_number) (ps := ["thing"]) X G a_is_number l_is_number c_is_number k_is_number fun _ _ _ _ _ _ us hl => match us, hl with | [_], _ => rfl
  have D_is_prime := def_mk (x := "is_prime") (st := s_is_prime) (ps := ["number"]) X G a_is_prime l_is_prime c_is_prime k_is_prime fun _ _ _ _ _ _ us hl => match us, hl with | [_], _ => rfl
  have D_asked_prime := def_mk (x := "asked_prime") (st := s_asked_prime) (ps := ["prime"]) X G a_asked_prime l_asked_prime c_asked_prime k_asked_prime fun _ _ _ _ _ _ us hl => match us, hl with | [_], _ => rfl
  have D_power := def_mk (x := "power") (st := s_power) (ps := ["number", "often", "prime"]) X G a_power l_power c_power k_power fun _ _ _ _ _ _ us hl => match us, hl with | [_, _, _], _ => rfl
  have D_root_of := def_mk (x := "root_of") (st := s_root_of) (ps := ["number", "prime"]) X G a_root_of l_root_of c_root_of k_root_of fun _ _ _ _ _ _ us hl => match us, hl with | [_, _], _ => rfl
  have D_mark_of := def_mk (x := "mark_of") (st := s_mark_of) (ps := ["prime", "number"]) X G a_mark_of l_mark_of c_mark_of k_mark_of fun _ _ _ _ _ _ us hl => match us, hl with | [_, _], _ => rfl
  have D_mark := def_mk (x := "mark") (st := s_mark) (ps := ["prime", "number"]) X G a_mark l_mark c_mark k_mark fun _ _ _ _ _ _ us hl => match us, hl with | [_, _], _ => rfl
  have D_number_of := def_mk (x := "number_of") (st := s_number_of) (ps := ["prime", "found"]) X G a_number_of l_number_of c_number_of k_number_of fun _ _ _ _ _ _ us hl => match us, hl with | [_, _], _ => rfl
  have D_two_of := def_mk (x := "two_of") (st := s_two_of) (ps := ["prime", "total"]) X G a_two_of l_two_of c_two_of k_two_of fun _ _ _ _ _ _ us hl => match us, hl with | [_, _], _ => rfl
  have D__law_number := def_mk (x := "_law_number") (st := s__law_number) (ps := ["_law_cell", "_law_at", "_law_whole_here"]) X G a__law_number l__law_number c__law_number k__law_number fun _ _ _ _ _ _ us hl => match us, hl with | [_, _, _], _ => rfl
  have D__law_whole := def_mk (x := "_law_whole") (st := s__law_whole) (ps := ["_law_number_here"]) X G a__law_whole l__law_whole c__law_whole k__law_whole fun _ _ _ _ _ _ us hl => match us, hl with | [_], _ => rfl
  have D__law_is_prime := def_mk (x := "_law_is_prime") (st := s__law_is_prime) (ps := ["_law_number_here"]) X G a__law_is_prime l__law_is_prime c__law_is_prime k__law_is_prime fun _ _ _ _ _ _ us hl => match us, hl with | [_], _ => rfl
  have D__law_prime := def_mk (x := "_law_prime") (st := s__law_prime) (ps := ["_law_script", "_law_at"]) X G a__law_prime l__law_prime c__law_prime k__law_prime fun _ _ _ _ _ _ us hl => match us, hl with | [_, _], _ => rfl
  have D__law_mark := def_mk (x := "_law_mark") (st := s__law_mark) (ps := ["_law_prime_here", "_law_number_here"]) X G a__law_mark l__law_mark c__law_mark k__law_mark fun _ _ _ _ _ _ us hl => match us, hl with | [_, _], _ => rfl
  have D__law_two := def_mk (x := "_law_two") (st := s__law_two) (ps := ["_law_found"]) X G a__law_two l__law_two c__law_two k__law_two fun _ _ _ _ _ _ us hl => match us, hl with | [_], _ => rfl
  have D__law_no_mark := def_mk (x := "_law_no_mark") (st := s__law_no_mark) (ps := ["_law_prime_here", "_law_found"]) X G a__law_no_mark l__law_no_mark c__law_no_mark k__law_no_mark fun _ _ _ _ _ _ us hl => match us, hl with | [_, _], _ => rfl
  have D__law_mark_right := def_mk (x := "_law_mark_right") (st := s__law_mark_right) (ps := ["_law_prime_here", "_law_number_here"]) X G a__law_mark_right l__law_mark_right c__law_mark_right k__law_mark_right fun _ _ _ _ _ _ us hl => match us, hl with | [_, _], _ => rfl
  have D__law_sum_right := def_mk (x := "_law_sum_right") (st := s__law_sum_right) (ps := ["_law_prime_here", "_law_total"]) X G a__law_sum_right l__law_sum_right c__law_sum_right k__law_sum_right fun _ _ _ _ _ _ us hl => match us, hl with | [_, _], _ => rfl
  have D_law := def_mk (x := "law") (st := s_law) (ps := ["_law_script"]) X G a_law l_law c_law k_law fun _ _ _ _ _ _ us hl => match us, hl with | [_], _ => rfl
  have T : Blt mg := ⟨PySem.W.mg_none_of X G z_len, PySem.W.mg_none_of X G z_isinstance, PySem.W.mg_none_of X G z_int, PySem.W.mg_none_of X G z_bool, PySem.W.mg_none_of X G z_list, PySem.W.mg_none_of X G z_tuple, PySem.W.mg_none_of X G z_str, PySem.W.mg_none_of X G z_range, PySem.W.mg_none_of X G z_sum, PySem.W.mg_none_of X G z_min, PySem.W.mg_none_of X G z_max, PySem.W.mg_none_of X G z_any, PySem.W.mg_none_of X G z_all, PySem.W.mg_none_of X G z_sorted, PySem.W.mg_none_of X G z_set, PySem.W.mg_none_of X G z_enumerate, PySem.W.mg_none_of X G z_abs⟩
  have E_MarkError : ErrC K mg "MarkError" C_MarkError := ⟨PySem.W.mg_of X G h_MarkError, ic_MarkError, tt_MarkError, ss_MarkError, bb_MarkError⟩
  have E_BadMarks : ErrC K mg "BadMarks" C_BadMarks := ⟨PySem.W.mg_of X G h_BadMarks, ic_BadMarks, tt_BadMarks, ss_BadMarks, bb_BadMarks⟩
  have E_BadNumber : ErrC K mg "BadNumber" C_BadNumber := ⟨PySem.W.mg_of X G h_BadNumber, ic_BadNumber, tt_BadNumber, ss_BadNumber, bb_BadNumber⟩
  have E_BadPrime : ErrC K mg "BadPrime" C_BadPrime := ⟨PySem.W.mg_of X G h_BadPrime, ic_BadPrime, tt_BadPrime, ss_BadPrime, bb_BadPrime⟩
  have E_NoMark : ErrC K mg "NoMark" C_NoMark := ⟨PySem.W.mg_of X G h_NoMark, ic_NoMark, tt_NoMark, ss_NoMark, bb_NoMark⟩
  have E_NotApart : ErrC K mg "NotApart" C_NotApart := ⟨PySem.W.mg_of X G h_NotApart, ic_NotApart, tt_NotApart, ss_NotApart, bb_NotApart⟩
  have Y_NoMark : ExcC K C_NoMark := ⟨e1_NoMark, e2_NoMark, e3_NoMark, e4_NoMark, e5_NoMark, e6_NoMark, e7_NoMark, e8_NoMark⟩
  have X_BadPrime : ErrAt K mg "BadPrime" C_BadPrime := ⟨PySem.W.mg_of X G g_BadPrime, x_BadPrime, kp_BadPrime, sb_BadPrime, ty_BadPrime⟩
  have X_BadNumber : ErrAt K mg "BadNumber" C_BadNumber := ⟨PySem.W.mg_of X G g_BadNumber, x_BadNumber, kp_BadNumber, sb_BadNumber, ty_BadNumber⟩
  have X_NoMark : ErrAt K mg "NoMark" C_NoMark := ⟨PySem.W.mg_of X G g_NoMark, x_NoMark, kp_NoMark, sb_NoMark, ty_NoMark⟩
  have C_GREATEST := PySem.W.mg_of X G n_GREATEST
  refine ⟨PySem.W.fnOf "law" "law" (defArgs s_law) (defBody s_law) (defScope s_law) .none kV_law dc_law pm_law an_law cd_law ct_law, fun s v => .of_eq rfl, fun base _ _ => ?_⟩
  have G_is_number : FnOk l.prog w K mg base CX0 1 _ _ ["thing"] (spIsNum K) := ok_is_number T D_is_number.F
  have G_asked_prime : FnOk l.prog w K mg base (L2N.CX l.prog w) 2 _ _ ["prime"] (spAskedPrime K C_BadPrime) := ok_asked_prime T D_asked_prime.F X_BadPrime C_GREATEST D_is_number D_is_prime
  have G_power : FnOk l.prog w K mg base CX0 1 _ _ ["number", "often", "prime"] spPower := ok_power D_power.F
  have G_mark_of : FnOk l.prog w K mg base CX0 1 _ _ ["prime", "number"] spMarkOf := ok_mark_of D_mark_of.F
  have G_root_of : FnOk l.prog w K mg base CX0 2 _ _ ["number", "prime"] spRoot := ok_root_of D_root_of.F D_power
  have G_mark : FnOk l.prog w K mg base (L2N.CX l.prog w) 3 _ _ ["prime", "number"] (spMark K C_BadPrime C_BadNumber) := ok_mark D_mark.F X_BadNumber D_is_number G_is_number D_asked_prime G_asked_prime D_mark_of G_mark_of
  have G_number_of : FnOk l.prog w K mg base (L2N.CX l.prog w) 3 _ _ ["prime", "found"] (spNumberOf K C_BadPrime C_BadNumber C_NoMark) := ok_number_of D_number_of.F X_BadNumber X_NoMark D_is_number G_is_number D_asked_prime G_asked_prime D_mark_of G_mark_of
  have G_two_of : FnOk l.prog w K mg base (L2N.CX l.prog w) 3 _ _ ["prime", "total"] (spTwoOf K C_BadPrime C_BadNumber) := ok_two_of T D_two_of.F X_BadNumber D_is_number G_is_number D_asked_prime G_asked_prime D_power G_power D_mark_of G_mark_of D_root_of G_root_of
  have G_two : FnOk l.prog w K mg base CX0 2 _ _ ["_law_found"] (spTwo K) := ok_two T D__law_two.F D__law_whole
  have G_mr : FnOk l.prog w K mg base CX0 4 _ _ ["_law_prime_here", "_law_number_here"] spMarkRight := ok_mark_right T D__law_mark_right.F D_mark G_mark D_number_of G_number_of D__law_whole D__law_mark
  have G_sr : FnOk l.prog w K mg base CX0 4 _ _ ["_law_prime_here", "_law_total"] (spSumRight K) := ok_sum_right T D__law_sum_right.F D_two_of G_two_of D__law_two G_two D__law_mark
  have G_nm : FnOk l.prog w K mg base CX0 4 _ _ ["_law_prime_here", "_law_found"] (spNoMark K) := ok_no_mark T D__law_no_mark.F E_MarkError E_BadMarks E_BadNumber E_BadPrime E_NoMark E_NotApart Y_NoMark s_NoMark_MarkError s_NoMark_BadMarks s_NoMark_BadNumber s_NoMark_BadPrime s_NoMark_NotApart D_number_of G_number_of
  exact ok_law T D_law.F D__law_prime (ok_prime T D__law_prime.F D__law_number D__law_is_prime) D__law_number (ok_number D__law_number.F) D__law_mark (ok_law_mark D__law_mark.F) D_two_of G_two_of D__law_mark_right G_mr D__law_sum_right G_sr D__law_no_mark G_nm
end Sa
open PySem PySem.W PyProof.Rows
set_option maxHeartbeats 0 in
theorem PySem.Challenge.cw_sumsapart_k01_whole_sums_holds : PySem.Challenge.rw_sumsapart_k01_whole_sums.Holds := by
  w_on; o_law; k_head; (case hw => w_witness2)
  k_fill
  refine L2.walk_ofB (l := PySem.Challenge.rw_sumsapart_k01_whole_sums) (n := 63) (k := 5) (x := "_law_script") (CX := fun _ => L2.CX0) (sp := fun w => Sa.spLaw _) rfl (by decide) rfl ⟨rfl, by decide, by decide⟩ (fun w h Y => PySem.W.kIn_of Y) ?F (fun _ _ a ns hl hb _ hS => ⟨a, ns, rfl, hS, hl, fun z hz => Sa.B.bits (hb z hz), fun _ => rfl⟩) (fun _ _ _ _ _ h => h)
  case F =>
    intro w mg fa h KX G hmg
    refine' Sa.all_mk KX G hmg ?a_is_number ?l_is_number ?c_is_number ?k_is_number ?a_is_prime ?l_is_prime ?c_is_prime ?k_is_prime ?a_asked_prime ?l_asked_prime ?c_asked_prime ?k_asked_prime ?a_power ?l_power ?c_power ?k_power ?a_root_of ?l_root_of ?c_root_of ?k_root_of ?a_mark_of ?l_mark_of ?c_mark_of ?k_mark_of ?a_mark ?l_mark ?c_mark ?k_mark ?a_number_of ?l_number_of ?c_number_of ?k_number_of ?a_two_of ?l_two_of ?c_two_of ?k_two_of ?a__law_number ?l__law_number ?c__law_number ?k__law_number ?a__law_whole ?l__law_whole ?c__law_whole ?k__law_whole ?a__law_is_prime ?l__law_is_prime ?c__law_is_prime ?k__law_is_prime ?a__law_prime ?l__law_prime ?c__law_prime ?k__law_prime ?a__law_mark ?l__law_mark ?c__law_mark ?k__law_mark ?a__law_two ?l__law_two ?c__law_two ?k__law_two ?a__law_no_mark ?l__law_no_mark ?c__law_no_mark ?k__law_no_mark ?a__law_mark_right ?l__law_mark_right ?c__law_mark_right ?k__law_mark_right ?a__law_sum_right ?l__law_sum_right ?c__law_sum_right ?k__law_sum_right ?a_law ?l_law ?c_law ?k_law ?z_len ?z_isinstance ?z_int ?z_bool ?z_list ?z_tuple ?z_str ?z_range ?z_sum ?z_min ?z_max ?z_any ?z_all ?z_sorted ?z_set ?z_enumerate ?z_abs ?h_MarkError ?ic_MarkError ?tt_MarkError ?ss_MarkError ?bb_MarkError ?h_BadMarks ?ic_BadMarks ?tt_BadMarks ?ss_BadMarks ?bb_BadMarks ?h_BadNumber ?ic_BadNumber ?tt_BadNumber ?ss_BadNumber ?bb_BadNumber ?h_BadPrime ?ic_BadPrime ?tt_BadPrime ?ss_BadPrime ?bb_BadPrime ?h_NoMark ?ic_NoMark ?tt_NoMark ?ss_NoMark ?bb_NoMark ?h_NotApart ?ic_NotApart ?tt_NotApart ?ss_NotApart ?bb_NotApart ?e1_NoMark ?e2_NoMark ?e3_NoMark ?e4_NoMark ?e5_NoMark ?e6_NoMark ?e7_NoMark ?e8_NoMark ?s_NoMark_MarkError ?s_NoMark_BadMarks ?s_NoMark_BadNumber ?s_NoMark_BadPrime ?s_NoMark_NoMark ?s_NoMark_NotApart ?g_BadPrime ?x_BadPrime ?kp_BadPrime ?sb_BadPrime ?ty_BadPrime ?g_BadNumber ?x_BadNumber ?kp_BadNumber ?sb_BadNumber ?ty_BadNumber ?g_NoMark ?x_NoMark ?kp_NoMark ?sb_NoMark ?ty_NoMark ?n_GREATEST
    (case a_is_number => k_is)
    (case l_is_number => k_is)
    (case c_is_number => k_is)
    (case k_is_number => k_is)
    (case a_is_prime => k_is)
    (case l_is_prime => k_is)
    (case c_is_prime => k_is)
    (case k_is_prime => k_is)
    (case a_asked_prime => k_is)
    (case l_asked_prime => k_is)
    (case c_asked_prime => k_is)
    (case k_asked_prime => k_is)
    (case a_power => k_is)
    (case l_power => k_is)
    (case c_power => k_is)
    (case k_power => k_is)
    (case a_root_of => k_is)
    (case l_root_of => k_is)
    (case c_root_of => k_is)
    (case k_root_of => k_is)
    (case a_mark_of => k_is)
    (case l_mark_of => k_is)
    (case c_mark_of => k_is)
    (case k_mark_of => k_is)
    (case a_mark => k_is)
    (case l_mark => k_is)
    (case c_mark => k_is)
    (case k_mark => k_is)
    (case a_number_of => k_is)
    (case l_number_of => k_is)
    (case c_number_of => k_is)
    (case k_number_of => k_is)
    (case a_two_of => k_is)
    (case l_two_of => k_is)
    (case c_two_of => k_is)
    (case k_two_of => k_is)
    (case a__law_number => k_is)
    (case l__law_number => k_is)
    (case c__law_number => k_is)
    (case k__law_number => k_is)
    (case a__law_whole => k_is)
    (case l__law_whole => k_is)
    (case c__law_whole => k_is)
    (case k__law_whole => k_is)
    (case a__law_is_prime => k_is)
    (case l__law_is_prime => k_is)
    (case c__law_is_prime => k_is)
    (case k__law_is_prime => k_is)
    (case a__law_prime => k_is)
    (case l__law_prime => k_is)
    (case c__law_prime => k_is)
    (case k__law_prime => k_is)
    (case a__law_mark => k_is)
    (case l__law_mark => k_is)
    (case c__law_mark => k_is)
    (case k__law_mark => k_is)
    (case a__law_two => k_is)
    (case l__law_two => k_is)
    (case c__law_two => k_is)
    (case k__law_two => k_is)
    (case a__law_no_mark => k_is)
    (case l__law_no_mark => k_is)
    (case c__law_no_mark => k_is)
    (case k__law_no_mark => k_is)
    (case a__law_mark_right => k_is)
    (case l__law_mark_right => k_is)
    (case c__law_mark_right => k_is)
    (case k__law_mark_right => k_is)
    (case a__law_sum_right => k_is)
    (case l__law_sum_right => k_is)
    (case c__law_sum_right => k_is)
    (case k__law_sum_right => k_is)
    (case a_law => k_is)
    (case l_law => k_is)
    (case c_law => k_is)
    (case k_law => k_is)
    (case z_len => k_is)
    (case z_isinstance => k_is)
    (case z_int => k_is)
    (case z_bool => k_is)
    (case z_list => k_is)
    (case z_tuple => k_is)
    (case z_str => k_is)
    (case z_range => k_is)
    (case z_sum => k_is)
    (case z_min => k_is)
    (case z_max => k_is)
    (case z_any => k_is)
    (case z_all => k_is)
    (case z_sorted => k_is)
    (case z_set => k_is)
    (case z_enumerate => k_is)
    (case z_abs => k_is)
    (case h_MarkError => k_is)
    (case ic_MarkError => k_is)
    (case tt_MarkError => k_is)
    (case ss_MarkError => k_is)
    (case bb_MarkError => k_is)
    (case h_BadMarks => k_is)
    (case ic_BadMarks => k_is)
    (case tt_BadMarks => k_is)
    (case ss_BadMarks => k_is)
    (case bb_BadMarks => k_is)
    (case h_BadNumber => k_is)
    (case ic_BadNumber => k_is)
    (case tt_BadNumber => k_is)
    (case ss_BadNumber => k_is)
    (case bb_BadNumber => k_is)
    (case h_BadPrime => k_is)
    (case ic_BadPrime => k_is)
    (case tt_BadPrime => k_is)
    (case ss_BadPrime => k_is)
    (case bb_BadPrime => k_is)
    (case h_NoMark => k_is)
    (case ic_NoMark => k_is)
    (case tt_NoMark => k_is)
    (case ss_NoMark => k_is)
    (case bb_NoMark => k_is)
    (case h_NotApart => k_is)
    (case ic_NotApart => k_is)
    (case tt_NotApart => k_is)
    (case ss_NotApart => k_is)
    (case bb_NotApart => k_is)
    (case e1_NoMark => k_is)
    (case e2_NoMark => k_is)
    (case e3_NoMark => k_is)
    (case e4_NoMark => k_is)
    (case e5_NoMark => k_is)
    (case e6_NoMark => k_is)
    (case e7_NoMark => k_is)
    (case e8_NoMark => k_is)
    (case s_NoMark_MarkError => k_is)
    (case s_NoMark_BadMarks => k_is)
    (case s_NoMark_BadNumber => k_is)
    (case s_NoMark_BadPrime => k_is)
    (case s_NoMark_NoMark => k_is)
    (case s_NoMark_NotApart => k_is)
    (case g_BadPrime => k_is)
    (case x_BadPrime => k_exc)
    (case kp_BadPrime => k_is)
    (case sb_BadPrime => k_is)
    (case ty_BadPrime => k_is)
    (case g_BadNumber => k_is)
    (case x_BadNumber => k_exc)
    (case kp_BadNumber => k_is)
    (case sb_BadNumber => k_is)
    (case ty_BadNumber => k_is)
    (case g_NoMark => k_is)
    (case x_NoMark => k_exc)
    (case kp_NoMark => k_is)
    (case sb_NoMark => k_is)
    (case ty_NoMark => k_is)
    (case n_GREATEST => k_is)
