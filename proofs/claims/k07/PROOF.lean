import PyProof.Rows.All
import Wide.All
import OpenK.AllK
import Wide.FinOn
import HandS.Base
import HandS.Call
import HandS.List
import HandS.Comp
import HandS.Ends
import HandS.Dict
import HandS.Iter
import HandS.Words
import HandS.Evl
import HandS.Exc
import HandS.ExcOwn
import HandS.TryOnly
import HandS.WordsList
import HandS.WordsDict
import HandS.WordsExc
import HandS.IsInst
import HandS.EndBits
import HandS.Flow
import PyProof.LongRange
import HandS.ExcCtx
import HandS.ExcIs
import HandS.Hot
import HandS.HotCalls
import HandS.New0
import HandS.SetFor
import HandS.Strs
import HandS.Zip
import HandS.Style
import HandS.Conv
import HandS.SortRule
import HandS.Lambda
import HandS.EndTab
import KE.KNestM
import PySem.Challenge.RW_sumsapart_k07_whole_numbers
set_option Elab.async false
set_option linter.all false
set_option maxRecDepth 100000
set_option maxHeartbeats 4000000
namespace NT
/-- p divides a - b -/
def C (p a b : Int) : Prop := p ∣ a - b
theorem C.refl (p a : Int) : C p a a := ⟨0, by grind⟩
theorem C.symm {p a b : Int} (h : C p a b) : C p b a := by obtain ⟨k, hk⟩ := h; exact ⟨-k, by grind⟩
theorem C.trans {p a b c : Int} (h : C p a b) (g : C p b c) : C p a c := by obtain ⟨k, hk⟩ := h; obtain ⟨l, hl⟩ := g; exact ⟨k + l, by grind⟩
theorem C.add {p a b c d : Int} (h : C p a b) (g : C p c d) : C p (a + c) (b + d) := by obtain ⟨k, hk⟩ := h; obtain ⟨l, hl⟩ := g; exact ⟨k + l, by grind⟩
theorem C.sub {p a b c d : Int} (h : C p a b) (g : C p c d) : C p (a - c) (b - d) := by obtain ⟨k, hk⟩ := h; obtain ⟨l, hl⟩ := g; exact ⟨k - l, by grind⟩
theorem C.mul {p a b c d : Int} (h : C p a b) (g : C p c d) : C p (a * c) (b * d) := by obtain ⟨k, hk⟩ := h; obtain ⟨l, hl⟩ := g; exact ⟨k * c + b * l, by grind⟩
theorem C.neg {p a b : Int} (h : C p a b) : C p (-a) (-b) := by obtain ⟨k, hk⟩ := h; exact ⟨-k, by grind⟩
theorem C.pow {p a b : Int} (h : C p a b) (n : Nat) : C p (a ^ n) (b ^ n) := by
  induction n with
  | zero => rw [Int.pow_zero, Int.pow_zero]; exact C.refl _ _
  | succ n ih => rw [Int.pow_succ, Int.pow_succ]; exact C.mul ih h
theorem C.of_eq {p a b : Int} (h : a = b) : C p a b := h ▸ C.refl _ _
theorem C.mod (p a : Int) : C p (a % p) a := by
  refine ⟨-(a / p), ?_⟩
  have := Int.mul_ediv_add_emod a p
  grind
theorem C.emod {p a b : Int} (h : C p a b) : a % p = b % p := Int.emod_eq_emod_iff_emod_sub_eq_zero.mpr (Int.emod_eq_zero_of_dvd h)
theorem C.of_emod {p a b : Int} (h : a % p = b % p) : C p a b := Int.dvd_of_emod_eq_zero (Int.emod_eq_emod_iff_emod_sub_eq_zero.mp h)
theorem C.eq {p a b : Int} (h : C p a b) (a0 : 0 ≤ a) (a1 : a < p) (b0 : 0 ≤ b) (b1 : b < p) : a = b := by
  have := h.emod
  rwa [Int.emod_eq_of_lt a0 a1, Int.emod_eq_of_lt b0 b1] at this
theorem C.zero {p a : Int} : C p a 0 ↔ p ∣ a := by unfold C; rw [Int.sub_zero]

/-- a prime, by trial -/
def Pr (p : Int) : Prop := 2 ≤ p ∧ ∀ d : Int, 2 ≤ d → d * d ≤ p → ¬ d ∣ p
theorem Pr.div {p : Int} (hp : Pr p) {d : Int} (h0 : 0 < d) (h : d ∣ p) : d = 1 ∨ d = p := by
  obtain ⟨h2, ht⟩ := hp
  obtain ⟨e, he⟩ := h
  have e0 : 0 < e := by
    rcases Int.lt_or_le 0 e with h | h
    · exact h
    · have : d * e ≤ 0 := Int.mul_nonpos_of_nonneg_of_nonpos (by omega) h
      omega
  rcases Int.lt_or_le 1 d with hd | hd
  · rcases Int.lt_or_le 1 e with h1 | h1
    · exfalso
      rcases Int.lt_or_le e d with hl | hl
      · refine ht e (by omega) ?_ ⟨d, by grind⟩
        have : e * e ≤ d * e := Int.mul_le_mul_of_nonneg_right (by omega) (by omega)
        omega
      · refine ht d (by omega) ?_ ⟨e, he⟩
        have : d * d ≤ d * e := Int.mul_le_mul_of_nonneg_left hl (by omega)
        omega
    · have e1 : e = 1 := by omega
      subst e1
      right; omega
  · left; omega
theorem Pr.euclid {p a b : Int} (hp : Pr p) (h : p ∣ a * b) : p ∣ a ∨ p ∣ b := by
  have hg : ((Int.gcd p a : Nat) : Int) ∣ p := Int.gcd_dvd_left p a
  have hg2 : ((Int.gcd p a : Nat) : Int) ∣ a := Int.gcd_dvd_right p a
  have g0 : 0 < ((Int.gcd p a : Nat) : Int) := by
    have : 0 < Int.gcd p a := Int.gcd_pos_of_ne_zero_left a (by have := hp.1; omega)
    omega
  rcases hp.div g0 hg with e | e
  · right
    have e1 : Nat.Coprime p.natAbs a.natAbs := by
      show Int.gcd p a = 1
      omega
    have h2 := Int.natAbs_dvd_natAbs.mpr h
    rw [Int.natAbs_mul] at h2
    exact Int.natAbs_dvd_natAbs.mp (e1.dvd_of_dvd_mul_left h2)
  · left
    rw [e] at hg2
    exact hg2
theorem Pr.pow {p a : Int} (hp : Pr p) {n : Nat} (h : p ∣ a ^ n) : p ∣ a := by
  induction n with
  | zero =>
    exfalso
    rw [Int.pow_zero] at h
    have := Int.le_of_dvd (by decide) h
    have := hp.1
    omega
  | succ n ih =>
    rw [Int.pow_succ] at h
    rcases hp.euclid h with h | h
    · exact ih h
    · exact h
theorem Pr.cancel {p a b c : Int} (hp : Pr p) (h : C p (a * b) (a * c)) (ha : ¬ p ∣ a) : C p b c := by
  have : p ∣ a * (b - c) := by
    have h' : p ∣ a * b - a * c := h
    rwa [Int.mul_sub]
  rcases hp.euclid this with h | h
  · exact absurd h ha
  · exact h
theorem small_nd {p a : Int} (h0 : 0 < a) (h1 : a < p) : ¬ p ∣ a := fun h => by
  have := Int.le_of_dvd h0 h
  omega
/-! ### Fermat -/
def fac : Nat → Int
  | 0 => 1
  | n + 1 => ((n : Int) + 1) * fac n
def prod (l : List Int) : Int := l.foldr (· * ·) 1
theorem prod_perm {l m : List Int} (h : l.Perm m) : prod l = prod m := by
  induction h with
  | nil => rfl
  | cons x _ ih => simp only [prod, List.foldr_cons] at *; rw [ih]
  | swap x y l => simp only [prod, List.foldr_cons]; grind
  | trans _ _ a b => exact a.trans b
theorem len_le : ∀ (n : Nat) (l : List Int), l.Nodup → (∀ x ∈ l, 1 ≤ x ∧ x ≤ (n : Int)) → l.length ≤ n := by
  intro n
  induction n with
  | zero =>
    intro l _ h
    cases l with
    | nil => exact Nat.le_refl _
    | cons x r => have := h x (List.mem_cons_self); omega
  | succ n ih =>
    intro l hn h
    have h2 := ih (l.erase ((n : Int) + 1)) (hn.erase _) fun x hx => by
      have h3 := (List.Nodup.mem_erase_iff hn).mp hx
      have h4 := h x h3.2
      have h5 := h3.1
      omega
    have h3 : l.length ≤ (l.erase ((n : Int) + 1)).length + 1 := by
      rw [List.length_erase]
      split <;> omega
    omega
theorem prod_fac : ∀ (n : Nat) (l : List Int), l.Nodup → (∀ x ∈ l, 1 ≤ x ∧ x ≤ (n : Int)) → l.length = n → prod l = fac n := by
  intro n
  induction n with
  | zero =>
    intro l _ _ h
    cases l with
    | nil => rfl
    | cons x r => cases h
  | succ n ih =>
    intro l hn h hl
    have hm : ((n : Int) + 1) ∈ l := by
      by_cases hm : ((n : Int) + 1) ∈ l
      · exact hm
      · exfalso
        have := len_le n l hn fun x hx => by
          have h4 := h x hx
          have h5 : x ≠ (n : Int) + 1 := fun e => hm (e ▸ hx)
          omega
        omega
    have hp := List.perm_cons_erase hm
    rw [prod_perm hp]
    have h2 := ih (l.erase ((n : Int) + 1)) (hn.erase _) (fun x hx => by
      have h3 := (List.Nodup.mem_erase_iff hn).mp hx
      have h4 := h x h3.2
      have h5 := h3.1
      omega) (by rw [List.length_erase_of_mem hm]; omega)
    show ((n : Int) + 1) * prod (l.erase ((n : Int) + 1)) = ((n : Int) + 1) * fac n
    rw [h2]
/-- 1 .. n -/
def one : Nat → List Int
  | 0 => []
  | n + 1 => ((n : Int) + 1) :: one n
theorem one_mem : ∀ (n : Nat) (x : Int), x ∈ one n ↔ 1 ≤ x ∧ x ≤ (n : Int) := by
  intro n
  induction n with
  | zero => intro x; simp [one]; omega
  | succ n ih => intro x; simp only [one, List.mem_cons, ih]; omega
theorem one_len (n : Nat) : (one n).length = n := by
  induction n with
  | zero => rfl
  | succ n ih => simp only [one, List.length_cons, ih]
theorem one_nodup (n : Nat) : (one n).Nodup := by
  induction n with
  | zero => exact List.nodup_nil
  | succ n ih =>
    refine List.nodup_cons.mpr ⟨fun h => ?_, ih⟩
    have := (one_mem n _).mp h
    omega
theorem prod_one (n : Nat) : prod (one n) = fac n := by
  induction n with
  | zero => rfl
  | succ n ih => show ((n : Int) + 1) * prod (one n) = _; rw [ih]; rfl
theorem prod_map (p a : Int) : ∀ l : List Int, C p (prod (l.map fun x => a * x % p)) (a ^ l.length * prod l)
  | [] => C.of_eq (by simp [prod])
  | x :: l => by
    have ih := prod_map p a l
    have h := C.mul (C.mod p (a * x)) ih
    refine C.trans (show C p (prod ((x :: l).map fun x => a * x % p)) _ from h) (C.of_eq ?_)
    show a * x * (a ^ l.length * prod l) = a ^ (l.length + 1) * (x * prod l)
    rw [Int.pow_succ]
    grind
theorem fac_nd {p : Int} (hp : Pr p) : ∀ n : Nat, (n : Int) < p → ¬ p ∣ fac n
  | 0, _ => fun h => by
    have := Int.le_of_dvd (by decide) (show p ∣ 1 from h)
    have := hp.1
    omega
  | n + 1, hn => fun h => by
    rcases hp.euclid h with h | h
    · exact small_nd (by omega) (by omega) h
    · exact fac_nd hp n (by omega) h
theorem fermat {p a : Int} (hp : Pr p) (ha : ¬ p ∣ a) : C p (a ^ (p - 1).toNat) 1 := by
  have h2 := hp.1
  have hn : (((p - 1).toNat : Nat) : Int) = p - 1 := by omega
  have hl : ((one (p - 1).toNat).map fun x => a * x % p).length = (p - 1).toNat := by rw [List.length_map, one_len]
  have hmem : ∀ x ∈ (one (p - 1).toNat).map (fun x => a * x % p), 1 ≤ x ∧ x ≤ (((p - 1).toNat : Nat) : Int) := fun x hx => by
    obtain ⟨y, hy, rfl⟩ := List.mem_map.mp hx
    have hy2 := (one_mem _ _).mp hy
    have m0 := Int.emod_nonneg (a * y) (show p ≠ 0 by omega)
    have m1 := Int.emod_lt_of_pos (a * y) (show 0 < p by omega)
    have : a * y % p ≠ 0 := fun e => by
      rcases hp.euclid (Int.dvd_of_emod_eq_zero e) with h | h
      · exact ha h
      · exact small_nd (by omega) (by omega) h
    omega
  have hnd : ((one (p - 1).toNat).map fun x => a * x % p).Nodup := by
    refine List.pairwise_map.mpr ?_
    refine List.Pairwise.imp_of_mem (R := fun x y => x ≠ y) ?_ (one_nodup _)
    intro x y hx hy hne e
    have hx2 := (one_mem _ _).mp hx
    have hy2 := (one_mem _ _).mp hy
    exact hne ((hp.cancel (C.of_emod e) ha).eq (by omega) (by omega) (by omega) (by omega))
  have h1 := prod_fac _ _ hnd hmem hl
  have h3 := prod_map p a (one (p - 1).toNat)
  rw [h1, prod_one, one_len] at h3
  have h4 : C p (fac (p - 1).toNat * 1) (fac (p - 1).toNat * a ^ (p - 1).toNat) := by
    rw [Int.mul_one, Int.mul_comm]; exact h3
  exact (hp.cancel h4 (fac_nd hp _ (by omega))).symm
/-! ### roots of a monic polynomial -/
def evm : List Int → Int → Int
  | [], _ => 1
  | c :: cs, x => c + x * evm cs x
def qu (a : Int) : List Int → List Int
  | [] => []
  | [_] => []
  | _ :: d :: cs => evm (d :: cs) a :: qu a (d :: cs)
theorem qu_len (a : Int) : ∀ cs : List Int, (qu a cs).length = cs.length - 1
  | [] => rfl
  | [_] => rfl
  | _ :: d :: cs => by
    have := qu_len a (d :: cs)
    simp only [qu, List.length_cons] at *
    omega
theorem qu_eq (a x : Int) : ∀ cs : List Int, cs ≠ [] → evm cs x - evm cs a = (x - a) * evm (qu a cs) x
  | [], h => absurd rfl h
  | [c], _ => by simp only [evm, qu]; grind
  | c :: d :: cs, _ => by
    have ih := qu_eq a x (d :: cs) (by simp)
    have e1 : evm (c :: d :: cs) x = c + x * evm (d :: cs) x := rfl
    have e2 : evm (c :: d :: cs) a = c + a * evm (d :: cs) a := rfl
    have e3 : evm (qu a (c :: d :: cs)) x = evm (d :: cs) a + x * evm (qu a (d :: cs)) x := rfl
    rw [e1, e2, e3]
    grind
theorem roots {p : Int} (hp : Pr p) (s : Int) : ∀ (m : Nat) (cs : List Int), cs.length = m → (m : Int) < p → ¬ ∀ i : Nat, i ≤ m → p ∣ evm cs (s + i) := by
  intro m
  induction m with
  | zero =>
    intro cs hc _ h
    cases cs with
    | nil =>
      have := Int.le_of_dvd (by decide) (show p ∣ 1 from h 0 (Nat.le_refl _))
      have := hp.1
      omega
    | cons _ _ => cases hc
  | succ m ih =>
    intro cs hc hm h
    have hne : cs ≠ [] := fun e => by rw [e] at hc; cases hc
    refine ih (qu (s + ((m + 1 : Nat) : Int)) cs) (by rw [qu_len]; omega) (by omega) fun i hi => ?_
    have h1 := h i (by omega)
    have h2 := h (m + 1) (Nat.le_refl _)
    have h3 := qu_eq (s + ((m + 1 : Nat) : Int)) (s + (i : Int)) cs hne
    have h4 : p ∣ (s + (i : Int) - (s + ((m + 1 : Nat) : Int))) * evm (qu (s + ((m + 1 : Nat) : Int)) cs) (s + (i : Int)) := by
      rw [← h3]; exact Int.dvd_sub h1 h2
    rcases hp.euclid h4 with h5 | h5
    · exfalso
      have h6 : p ∣ ((m + 1 : Nat) : Int) - (i : Int) := by
        obtain ⟨k, hk⟩ := h5
        exact ⟨-k, by grind⟩
      exact small_nd (by omega) (by omega) h6
    · exact h5
theorem evm_rep (x : Int) : ∀ n : Nat, evm (List.replicate n 0) x = x ^ n
  | 0 => by rw [Int.pow_zero]; rfl
  | n + 1 => by
    show 0 + x * evm (List.replicate n 0) x = x ^ (n + 1)
    rw [evm_rep x n, Int.pow_succ]; grind
/-- not all of 1 .. n + 1 have 1 as their n-th power -/
theorem strange {p : Int} (hp : Pr p) (n : Nat) (hn : 0 < n) (h1 : (n : Int) < p) : ∃ z : Int, 2 ≤ z ∧ z ≤ (n : Int) + 1 ∧ ¬ C p (z ^ n) 1 := by
  have h := roots hp 1 n (-1 :: List.replicate (n - 1) 0) (by simp; omega) h1
  obtain ⟨i, hi⟩ := Classical.not_forall.mp h
  obtain ⟨hi, h2⟩ := Classical.not_imp.mp hi
  have e : evm (-1 :: List.replicate (n - 1) 0) (1 + (i : Int)) = (1 + (i : Int)) ^ n - 1 := by
    show -1 + (1 + (i : Int)) * evm (List.replicate (n - 1) 0) (1 + (i : Int)) = _
    rw [evm_rep]
    obtain ⟨k, rfl⟩ : ∃ k, n = k + 1 := ⟨n - 1, by omega⟩
    rw [show k + 1 - 1 = k by omega, Int.pow_succ]; grind
  rw [e] at h2
  refine ⟨1 + (i : Int), ?_, by omega, h2⟩
  rcases Nat.eq_zero_or_pos i with h0 | h0
  · exfalso
    rw [h0] at h2
    apply h2
    have : (1 + ((0 : Nat) : Int)) ^ n - 1 = 0 := by
      show (1 : Int) ^ n - 1 = 0
      rw [Int.one_pow]; rfl
    rw [this]
    exact Int.dvd_zero _
  · omega
theorem half_pow {p z : Int} (hp : Pr p) (h : C p (z * z) 1) : C p z 1 ∨ C p z (-1) := by
  have : p ∣ (z - 1) * (z + 1) := by
    obtain ⟨k, hk⟩ := h
    exact ⟨k, by grind⟩
  rcases hp.euclid this with h | h
  · exact .inl h
  · refine .inr ?_
    obtain ⟨k, hk⟩ := h
    exact ⟨k, by grind⟩
end NT
namespace NT
theorem mod1 {p a : Int} (h : 2 ≤ p) : a % p = 1 ↔ C p a 1 := by
  refine ⟨fun e => C.of_emod (by rw [e, Int.emod_eq_of_lt (by omega) (by omega)]), fun c => ?_⟩
  have := c.emod
  rwa [Int.emod_eq_of_lt (a := 1) (by omega) (by omega)] at this
theorem Pr.odd {p : Int} (hp : Pr p) (h3 : 3 ≤ p) : p % 2 = 1 := by
  rcases Int.lt_or_le p 4 with h | h
  · omega
  · have := hp.2 2 (by omega) (by omega)
    omega
def hf (p : Int) : Nat := ((p - 1) / 2).toNat
theorem hf_two {p : Int} (hp : Pr p) (h3 : 3 ≤ p) : (p - 1).toNat = hf p + hf p := by
  have := hp.odd h3
  unfold hf
  omega
theorem hf_pos {p : Int} (h3 : 3 ≤ p) : 0 < hf p := by unfold hf; omega
theorem half_sq {p a : Int} (hp : Pr p) (h3 : 3 ≤ p) (ha : ¬ p ∣ a) : C p (a ^ hf p * a ^ hf p) 1 := by
  have := fermat hp ha
  rwa [hf_two hp h3, Int.pow_add] at this
theorem euler_pm {p a : Int} (hp : Pr p) (h3 : 3 ≤ p) (ha : ¬ p ∣ a) : C p (a ^ hf p) 1 ∨ C p (a ^ hf p) (-1) := half_pow hp (half_sq hp h3 ha)
theorem euler_sq {p n x : Int} (hp : Pr p) (h3 : 3 ≤ p) (hn : ¬ p ∣ n) (h : C p (x * x) n) : C p (n ^ hf p) 1 := by
  have hx : ¬ p ∣ x := fun hx => hn (by
    have h1 : p ∣ x * x := Int.dvd_mul_of_dvd_left hx
    have h2 : p ∣ x * x - n := h
    have := Int.dvd_sub h1 h2
    rwa [show x * x - (x * x - n) = n by omega] at this)
  refine (C.pow h.symm (hf p)).trans ?_
  rw [Int.mul_pow]
  exact half_sq hp h3 hx
theorem strange_is {p : Int} (hp : Pr p) (h3 : 3 ≤ p) : ∃ z : Int, 2 ≤ z ∧ z < p ∧ ¬ C p (z ^ hf p) 1 := by
  obtain ⟨z, h1, h2, h4⟩ := strange hp (hf p) (hf_pos h3) (by unfold hf; omega)
  refine ⟨z, h1, ?_, h4⟩
  have := hp.odd h3
  unfold hf at h2
  omega
theorem not_both {p a : Int} (h3 : 3 ≤ p) (h1 : C p a 1) (h2 : C p a (-1)) : False := by
  have h : p ∣ 1 - (-1) := h1.symm.trans h2
  have := Int.le_of_dvd (by decide) h
  omega
/-- the state of the loop that finds a root -/
structure TS (p n : Int) (t : Nat) (found left step : Int) : Prop where
  t1 : 1 ≤ t
  f : C p (found * found) (n * left)
  l : C p (left ^ 2 ^ (t - 1)) 1
  s : C p (step ^ 2 ^ (t - 1)) (-1)
theorem TS.start {p n z odd : Int} {t : Nat} (hp : Pr p) (h3 : 3 ≤ p) (t1 : 1 ≤ t) (ho : odd % 2 = 1) (o0 : 0 < odd) (hot : odd * 2 ^ t = p - 1) (hn : C p (n ^ hf p) 1) (hz : ¬ p ∣ z) (hz1 : ¬ C p (z ^ hf p) 1) :
    TS p n t (n ^ ((odd + 1) / 2).toNat % p) (n ^ odd.toNat % p) (z ^ odd.toNat % p) := by
  have e : odd.toNat * 2 ^ (t - 1) = hf p := by
    obtain ⟨k, rfl⟩ : ∃ k, t = k + 1 := ⟨t - 1, by omega⟩
    rw [Int.pow_succ] at hot
    have h2 : (p - 1) / 2 = odd * 2 ^ k := by
      have : p - 1 = odd * 2 ^ k * 2 := by rw [← hot, Int.mul_assoc]
      omega
    unfold hf
    rw [h2, Nat.add_sub_cancel]
    have h4 : ((odd.toNat * 2 ^ k : Nat) : Int) = odd * 2 ^ k := by
      rw [Int.natCast_mul, Int.natCast_pow, Int.toNat_of_nonneg (by omega)]
      rfl
    omega
  refine ⟨t1, ?_, ?_, ?_⟩
  · refine (C.mul (C.mod p _) (C.mod p _)).trans ?_
    refine C.trans ?_ (C.mul (C.refl p n) (C.mod p (n ^ odd.toNat)).symm)
    rw [← Int.pow_add, show ((odd + 1) / 2).toNat + ((odd + 1) / 2).toNat = odd.toNat + 1 by omega, Int.pow_succ, Int.mul_comm]
    exact C.refl _ _
  · refine (C.pow (C.mod p _) _).trans ?_
    rw [← Int.pow_mul, e]
    exact hn
  · refine (C.pow (C.mod p _) _).trans ?_
    rw [← Int.pow_mul, e]
    rcases euler_pm hp h3 hz with h | h
    · exact absurd h hz1
    · exact h
theorem TS.turn {p n found left step : Int} {t k : Nat} (x : TS p n t found left step) (hp : Pr p) (h3 : 3 ≤ p) (k1 : 1 ≤ k) (k2 : k ≤ t - 1) (hk : C p (left ^ 2 ^ k) 1) (hk1 : ¬ C p (left ^ 2 ^ (k - 1)) 1) {part : Int} (hpt : part = step ^ 2 ^ (t - k - 1) % p) :
    TS p n k (found * part % p) (left * (part * part % p) % p) (part * part % p) := by
  have hk2 : C p (left ^ 2 ^ (k - 1)) (-1) := by
    rcases half_pow hp (z := left ^ 2 ^ (k - 1)) (by
      rw [← Int.pow_add, show 2 ^ (k - 1) + 2 ^ (k - 1) = 2 ^ k by
        obtain ⟨j, rfl⟩ : ∃ j, k = j + 1 := ⟨k - 1, by omega⟩
        rw [Nat.add_sub_cancel, Nat.pow_succ]; omega]
      exact hk) with h | h
    · exact absurd h hk1
    · exact h
  have hpp : C p part (step ^ 2 ^ (t - k - 1)) := by rw [hpt]; exact C.mod p _
  have hs : C p ((part * part % p) ^ 2 ^ (k - 1)) (-1) := by
    refine (C.pow (C.mod p _) _).trans ?_
    refine (C.pow (C.mul hpp hpp) _).trans ?_
    rw [← Int.pow_add, ← Int.pow_mul, show (2 ^ (t - k - 1) + 2 ^ (t - k - 1)) * 2 ^ (k - 1) = 2 ^ (t - 1) by
      rw [show 2 ^ (t - k - 1) + 2 ^ (t - k - 1) = 2 ^ (t - k - 1 + 1) by rw [Nat.pow_succ]; omega, ← Nat.pow_add]
      congr 1; omega]
    exact x.s
  refine ⟨k1, ?_, ?_, hs⟩
  · refine (C.mul (C.mod p _) (C.mod p _)).trans ?_
    have h1 : C p (found * part * (found * part)) (n * left * (part * part)) := by
      refine C.trans (C.of_eq (by grind)) (C.mul x.f (C.refl p (part * part)))
    refine h1.trans ?_
    refine C.trans ?_ (C.mul (C.refl p n) ((C.mod p _).trans (C.mul (C.refl p left) (C.mod p _))).symm)
    exact C.of_eq (by grind)
  · refine (C.pow (C.mod p _) _).trans ?_
    rw [Int.mul_pow]
    exact C.mul hk2 hs
theorem TS.done {p n found step : Int} {t : Nat} (x : TS p n t found 1 step) : C p (found * found) n := by
  have := x.f
  rwa [Int.mul_one] at this
end NT
/-! marks of a prime: sums and differences, in plain words -/
namespace NT
def mk (p n : Int) : Int := 2 * p * n + n * n % p
theorem sq_b {p n : Int} (h : 0 < p) : 0 ≤ n * n % p ∧ n * n % p < p := ⟨Int.emod_nonneg _ (by omega), Int.emod_lt_of_pos _ h⟩
/-- q times 2 p, and a rest: the floor and what is left -/
theorem fl {p q r x : Int} (h : x = 2 * p * q + r) (r0 : 0 ≤ r) (r1 : r < 2 * p) : x / (2 * p) = q ∧ x % (2 * p) = r := by
  subst h
  have hp : 0 < 2 * p := by omega
  constructor
  · rw [Int.add_comm, Int.add_mul_ediv_left _ _ (by omega), Int.ediv_eq_zero_of_lt r0 r1, Int.zero_add]
  · rw [Int.add_comm, Int.add_mul_emod_self_left, Int.emod_eq_of_lt r0 r1]
theorem mk_div {p n : Int} (h : 0 < p) : mk p n / (2 * p) = n := (fl rfl (sq_b h).1 (by have := (sq_b (n := n) h).2; omega)).1
/-- an inverse, by a power -/
theorem inv_pow {p a : Int} (hp : Pr p) (h3 : 3 ≤ p) (ha : ¬ p ∣ a) : C p (a * a ^ (p - 2).toNat) 1 := by
  have := fermat hp ha
  rwa [show (p - 1).toNat = (p - 2).toNat + 1 by omega, Int.pow_succ, Int.mul_comm] at this
theorem two_nd {p : Int} (h3 : 3 ≤ p) : ¬ p ∣ 2 := small_nd (by omega) (by omega)
theorem half {p a x : Int} (hp : Pr p) (h3 : 3 ≤ p) (h : C p a (2 * x)) : C p (a * (2 ^ (p - 2).toNat % p) % p) x := by
  refine (C.mod p _).trans ?_
  refine (C.mul h (C.mod p _)).trans ?_
  refine C.trans (C.of_eq (by grind)) ((C.mul (C.refl p x) (inv_pow hp h3 (two_nd h3))).trans (C.of_eq (by grind)))
/-! ### differences -/
def PairD (p d a b : Int) : Prop := 0 ≤ a ∧ a < b ∧ b < p ∧ mk p b - mk p a = d
theorem pairD_steps {p d a b : Int} (h3 : 3 ≤ p) (h : PairD p d a b) : (d + p) / (2 * p) = b - a := by
  obtain ⟨h0, h1, h2, e⟩ := h
  have x := sq_b (n := a) (show 0 < p by omega)
  have y := sq_b (n := b) (show 0 < p by omega)
  refine (fl (p := p) (q := b - a) (r := b * b % p - a * a % p + p) ?_ (by omega) (by omega)).1
  rw [← e]
  unfold mk
  grind
theorem pairD_low {p d a b : Int} (hp : Pr p) (h3 : 3 ≤ p) (h : PairD p d a b) {s both : Int} (hs : s = b - a) (hb : both = d * (s ^ (p - 2).toNat % p) % p) : (both - s) * (2 ^ (p - 2).toNat % p) % p = a := by
  obtain ⟨h0, h1, h2, e⟩ := h
  have hsd : ¬ p ∣ s := small_nd (by omega) (by omega)
  have h4 : C p d (s * (a + b)) := by
    rw [← e, hs]
    unfold mk
    have hb2 : C p (2 * p * b + b * b % p) (b * b) := by
      refine (C.add ⟨2 * b, by grind⟩ (C.mod p (b * b))).trans (C.of_eq (Int.zero_add _)) 
    have ha2 : C p (2 * p * a + a * a % p) (a * a) := by
      refine (C.add ⟨2 * a, by grind⟩ (C.mod p (a * a))).trans (C.of_eq (Int.zero_add _)) 
    exact (C.sub hb2 ha2).trans (C.of_eq (by grind))
  have h5 : C p both (a + b) := by
    rw [hb]
    refine (C.mod p _).trans ((C.mul h4 (C.mod p _)).trans ?_)
    exact C.trans (C.of_eq (by grind)) ((C.mul (C.refl p (a + b)) (inv_pow hp h3 hsd)).trans (C.of_eq (by grind)))
  have h6 : C p (both - s) (2 * a) := (C.sub h5 (C.refl p s)).trans (C.of_eq (by omega))
  exact (half hp h3 h6).eq (Int.emod_nonneg _ (by omega)) (Int.emod_lt_of_pos _ (by omega)) h0 (by omega)
theorem pairD_one {p d a b x y : Int} (hp : Pr p) (h3 : 3 ≤ p) (h : PairD p d a b) (g : PairD p d x y) : a = x ∧ b = y := by
  have s1 := pairD_steps h3 h
  have s2 := pairD_steps h3 g
  have l1 := pairD_low hp h3 h rfl rfl
  have l2 := pairD_low hp h3 g rfl rfl
  rw [show b - a = y - x by omega, l2] at l1
  omega
/-! ### sums -/
def PairS (p s a b : Int) : Prop := 0 ≤ a ∧ a ≤ b ∧ b < p ∧ mk p a + mk p b = s
theorem sum_parts {p s a b : Int} (p0 : 0 < p) (e : mk p a + mk p b = s) : s / (2 * p) = a + b ∧ s % (2 * p) = a * a % p + b * b % p := by
  have x := sq_b (n := a) p0
  have y := sq_b (n := b) p0
  refine fl (p := p) ?_ (by omega) (by omega)
  rw [← e]
  unfold mk
  grind
theorem sum_sq {p a b : Int} : C p (2 * (a * a % p + b * b % p) - (a + b) * (a + b)) ((a - b) * (a - b)) := by
  have h : C p (2 * (a * a % p + b * b % p) - (a + b) * (a + b)) (2 * (a * a + b * b) - (a + b) * (a + b)) :=
    C.sub (C.mul (C.refl p 2) (C.add (C.mod p _) (C.mod p _))) (C.refl p _)
  exact h.trans (C.of_eq (by grind))
theorem root_two {p r x : Int} (hp : Pr p) (h : C p (r * r) (x * x)) : C p r x ∨ C p r (-x) := by
  have : p ∣ (r - x) * (r + x) := by
    obtain ⟨k, hk⟩ := h
    exact ⟨k, by grind⟩
  rcases hp.euclid this with h | h
  · exact .inl h
  · refine .inr ?_
    obtain ⟨k, hk⟩ := h
    exact ⟨k, by grind⟩
/-- the first try hits one of the two -/
theorem sum_one {p a b r : Int} (hp : Pr p) (h3 : 3 ≤ p) (a0 : 0 ≤ a) (a1 : a < p) (b0 : 0 ≤ b) (b1 : b < p) (h : C p (r * r) ((a - b) * (a - b))) :
    (a + b + 1 * r) * (2 ^ (p - 2).toNat % p) % p = a ∨ (a + b + 1 * r) * (2 ^ (p - 2).toNat % p) % p = b := by
  have m0 := Int.emod_nonneg ((a + b + 1 * r) * (2 ^ (p - 2).toNat % p)) (show p ≠ 0 by omega)
  have m1 := Int.emod_lt_of_pos ((a + b + 1 * r) * (2 ^ (p - 2).toNat % p)) (show 0 < p by omega)
  rcases root_two hp h with h | h
  · exact .inl ((half hp h3 (x := a) ((C.add (C.refl p (a + b)) (C.mul (C.refl p 1) h)).trans (C.of_eq (by grind)))).eq m0 m1 a0 a1)
  · exact .inr ((half hp h3 (x := b) ((C.add (C.refl p (a + b)) (C.mul (C.refl p 1) h)).trans (C.of_eq (by grind)))).eq m0 m1 b0 b1)
theorem pairS_one {p s a b x y : Int} (hp : Pr p) (h3 : 3 ≤ p) (h : PairS p s a b) (g : PairS p s x y) : a = x ∧ b = y := by
  obtain ⟨a0, ab, b1, e⟩ := h
  obtain ⟨x0, xy, y1, e'⟩ := g
  have s1 := sum_parts (by omega) e
  have s2 := sum_parts (by omega) e'
  have hs : a + b = x + y := by omega
  have h1 := sum_sq (p := p) (a := a) (b := b)
  have h2 := sum_sq (p := p) (a := x) (b := y)
  rw [← s1.2, hs] at h1
  rw [← s2.2] at h2
  have h4 : C p ((a - b) * (a - b)) ((x - y) * (x - y)) := h1.symm.trans h2
  have o1 := sum_one hp h3 x0 (by omega) (by omega) y1 h4
  have o2 := sum_one hp h3 a0 (by omega) (by omega) b1 (C.refl p ((a - b) * (a - b)))
  rw [← hs] at o1
  omega
end NT
namespace Sa
open PySem PySem.Spec PyProof.Rows L2 Evl
section
variable {X : Cx}
/-! ### products of any ints below 2^50000000 -/
def CMulB (i j : Int) : Prop := i.natAbs.log2 + j.natAbs.log2 < 100000000
theorem CMulB.ok {i j : Int} (h : CMulB i j) : IntMulOk i j := by
  have b : ∀ x : Int, Builtin.Int.intBits x ≤ x.natAbs.log2 + 1 := fun x => by
    unfold Builtin.Int.intBits
    split <;> omega
  have h1 := b i
  have h2 := b j
  have h3 : i.natAbs.log2 + j.natAbs.log2 < 100000000 := h
  have e : bitsLine = 134217728 := by decide
  unfold IntMulOk
  intro z
  rw [Bool.and_eq_true] at z
  have z2 := z.2
  unfold Builtin.Int.intTooBig at z2
  have z3 := of_decide_eq_true z2
  rw [e] at z3
  omega
theorem op_mulB : OpR X (binaryOp .Mult) (rI CMulB fun i j => .int (i * j)) := opI fun _ _ _ _ _ _ _ hc q => mul_int q hc.ok
theorem mulB_small {i j : Int} (h1 : i.natAbs < 2 ^ 64) (h2 : j.natAbs < 2 ^ 64) : CMulB i j := by
  unfold CMulB
  have a : i.natAbs.log2 < 64 ∨ i.natAbs = 0 := by
    rcases Nat.eq_zero_or_pos i.natAbs with h | h
    · exact .inr h
    · exact .inl ((Nat.log2_lt (by omega)).mpr h1)
  have b : j.natAbs.log2 < 64 ∨ j.natAbs = 0 := by
    rcases Nat.eq_zero_or_pos j.natAbs with h | h
    · exact .inr h
    · exact .inl ((Nat.log2_lt (by omega)).mpr h2)
  rcases a with a | a <;> rcases b with b | b <;> (try rw [a]) <;> (try rw [b]) <;> simp <;> omega
end
/-! ### ranges of any ends -/
theorem turn_long {P : Program} {w : World} {K : PySem.W.Frag} {tg : Expr} (it : Addr) (lo : Int) (n : Nat) : Turn P w K tg (Itr lo n) [it] it (fun i h => IsLongIter h it (lo + (i : Nat) * 1) ((n : Int) - (i : Nat)) 1) where
  mem := by simp
  obj := fun i h st b hb => by
    have e : b = it := by simpa using hb
    subst e
    exact ⟨_, st, fun v z => by
      have z' : Data.fields _ = Data.cell v := z
      cases z'⟩
  keep := fun i h h' st k => k it (by simp) _ st
  item := by
    intro X hP hw hK hc i pins s σ H E I hf st hg
    subst hP hw hK
    obtain ⟨f0, f1, f2, f3, f4, f5⟩ := hf it (by simp)
    have W := Walks.longrange (prog := X.prog) (w := X.w) (I.ok.hd hc) it lo 1 n
    refine W.item i s _ _ hg st fun v h' tk hv st' kk => ?_
    obtain ⟨t, rfl⟩ := hv
    have I1 : Inv X pins σ H { s with heap := h', toks := tk } := I.turned (fun b o hb e => kk b o (by simpa using hb) e) f0 f1 f3 f4 f5
    refine ⟨_, rfl, go_of (s := { s with heap := h', toks := tk }) (n := "longrange_iterator") st' rfl rfl (by decide) ⟨.int (lo + i), H, I1, ⟨t, ?_⟩, ⟨rfl, rfl⟩, st', fun b hb => (hf b hb).1⟩⟩
    rw [Int.mul_one]
  done := by
    intro X hP hw hK hc i pins s σ H E I hf st hg
    subst hP hw hK
    obtain ⟨f0, f1, f2, f3, f4, f5⟩ := hf it (by simp)
    exact wpAny_pyNext_long_end (I.ok.hd hc) st (by have : n ≤ i := hg; omega) fun h' eb => ⟨rfl, I.turned (t' := s.toks) (fun b o hb e => eb b o hb e) f0 f1 f3 f4 f5⟩
  self := fun _ _ _ _ _ st h => wpAny_pyIter_longiter st h
theorem range_itB {X : Cx} {tg : Expr} {pins : List (Addr × Obj)} {σ : L2.St} {H : Hp} {s : Shared} {R : It → Hp → Prop} {E : Value → Shared → Prop} {lo hi : Int} {t u v : Tok} {tk : Nat} (I : Inv X pins σ H s)
    (q : R (Itr lo (hi - lo).toNat) H) : wpAny (model X.prog X.w) X.A (pyIter (.ref s.heap.objs.size)) (PIE X pins σ tg R) E { s with heap := s.heap.push { cls := .type "range", data := .fields #[.int lo t, .int hi u, .int 1 v] }, toks := tk } := by
  have I1 : Inv X pins σ H { s with heap := s.heap.push { cls := .type "range", data := .fields #[.int lo t, .int hi u, .int 1 v] }, toks := tk } := I.kept fun b o e => Heap.get?_push_of_some _ e
  have e1 : lo + ((0 : Nat) : Int) * 1 = lo := by simp
  have e2 : (((hi - lo).toNat : Nat) : Int) - ((0 : Nat) : Int) = Builtin.Range.rangeSize lo hi 1 := by rw [rangeSize_one]; split <;> omega
  cases hs : Builtin.Range.small lo hi 1 with
  | true =>
    refine wpAny_pyIter_range (IsRange.new ..) hs ?_
    refine ⟨(s.heap.push { cls := .type "range", data := .fields #[.int lo t, .int hi u, .int 1 v] }).objs.size, [(s.heap.push { cls := .type "range", data := .fields #[.int lo t, .int hi u, .int 1 v] }).objs.size], _, _, H, rfl,
      I1.kept (t' := tk) fun b o e => Heap.get?_push_of_some _ e, turn_range _ lo (hi - lo).toNat, ?_, fun b hb => ?_, q⟩
    · show IsRangeIter _ _ (lo + ((0 : Nat) : Int) * 1) ((((hi - lo).toNat : Nat) : Int) - ((0 : Nat) : Int)) 1
      rw [e1, e2]
      exact Heap.get?_push_size _ rfl
    · have e : b = (s.heap.push { cls := .type "range", data := .fields #[.int lo t, .int hi u, .int 1 v] }).objs.size := by simpa using hb
      subst e
      exact I1.fpOk (Nat.le_refl _) (I1.hok.fresh (Nat.le_refl _))
  | false =>
    refine wpAny_pyIter_longrange (IsRange.new ..) hs ?_
    refine ⟨(s.heap.push { cls := .type "range", data := .fields #[.int lo t, .int hi u, .int 1 v] }).objs.size, [(s.heap.push { cls := .type "range", data := .fields #[.int lo t, .int hi u, .int 1 v] }).objs.size], _, _, H, rfl,
      I1.kept (t' := tk) fun b o e => Heap.get?_push_of_some _ e, turn_long _ lo (hi - lo).toNat, ?_, fun b hb => ?_, q⟩
    · show IsLongIter _ _ (lo + ((0 : Nat) : Int) * 1) ((((hi - lo).toNat : Nat) : Int) - ((0 : Nat) : Int)) 1
      rw [e1, e2]
      exact Heap.get?_push_size _ rfl
    · have e : b = (s.heap.push { cls := .type "range", data := .fields #[.int lo t, .int hi u, .int 1 v] }).objs.size := by simpa using hb
      subst e
      exact I1.fpOk (Nat.le_refl _) (I1.hok.fresh (Nat.le_refl _))
def iR1 (ta : TA) : TI := fun σ H R => ta σ H fun vs H1 => ∃ j : Int, vs = [.int j] ∧ R (Itr 0 j.toNat) H1
def iR2 (ta : TA) : TI := fun σ H R => ta σ H fun vs H1 => ∃ i j : Int, vs = [.int i, .int j] ∧ R (Itr i (j - i).toNat) H1
theorem pi_r1 {X : Cx} {tg : Expr} {a : Expr} {ta : TA} {p pos : Pos} (hg : Gl X "range") (hm : X.mg "range" = none) (ha : PA X [a] ta) (hs : starEach [a] X.env = [(false, eval a X.env)] := by rfl) : PI X tg (.Call (.Name "range" p) [a] [] pos) (iR1 ta) := by
  refine ⟨fun pins s σ H R I h => ?_⟩
  refine Call_ (ld_blt I hg hm boot_range (PyProof.Rows.callWith_type1 (thn (ha.run pos pins s σ H _ I h) fun us s1 ⟨vs, H1, I1, r1, q1⟩ => ?_) hs rfl))
  obtain ⟨j, e, q⟩ := q1
  subst e
  cases r1 with
  | cons r rr =>
    cases rr
    obtain ⟨t, rfl⟩ := r
    exact call_range_1 (range_itB I1 (by simpa using q))
theorem pi_r2 {X : Cx} {tg : Expr} {a b : Expr} {ta : TA} {p pos : Pos} (hg : Gl X "range") (hm : X.mg "range" = none) (ha : PA X [a, b] ta) (hs : starEach [a, b] X.env = [(false, eval a X.env), (false, eval b X.env)] := by rfl) (hs2 : starEach [b] X.env = [(false, eval b X.env)] := by rfl) :
    PI X tg (.Call (.Name "range" p) [a, b] [] pos) (iR2 ta) := by
  refine ⟨fun pins s σ H R I h => ?_⟩
  refine Call_ (ld_blt I hg hm boot_range (PyProof.Rows.callWith_type1 (thn (ha.run pos pins s σ H _ I h) fun us s1 ⟨vs, H1, I1, r1, q1⟩ => ?_) (by rw [hs, hs2]) (by rw [hs2]; rfl)))
  obtain ⟨i, j, e, q⟩ := q1
  subst e
  cases r1 with
  | cons r rr =>
    cases rr with
    | cons r' rr =>
      cases rr
      obtain ⟨t, rfl⟩ := r
      obtain ⟨t', rfl⟩ := r'
      exact call_range_2 (range_itB I1 q)
/-! ### three comparisons in a chain -/
def tChain3 (r r' r'' : R2) (ta tb tc td : TE) : TE := fun σ H Q => ta σ H fun x H1 => tb σ H1 fun y H2 => r x y H2 fun z H3 => ∃ k, z = .bl k ∧
  (if k = true then tc σ H3 fun y' H4 => r' y y' H4 fun z' H5 => ∃ k', z' = .bl k' ∧ (if k' = true then td σ H5 fun w' H6 => r'' y' w' H6 Q else Q (.bl false) H5) else Q (.bl false) H3)
theorem pt_chain3 {X : Cx} {a b c d : Expr} {ta tb tc td : TE} {pos : Pos} {op op' op'' : CmpOp} {r r' r'' : R2} (ho : OpR X (compareOp op) r) (ho' : OpR X (compareOp op') r') (ho'' : OpR X (compareOp op'') r'') (ha : PE X a ta) (hb : PE X b tb) (hc : PE X c tc) (hd : PE X d td)
    (hm : lastMarks [op, op', op''] [b, c, d] = false := by with_unfolding_all rfl) : PT X (.Compare a [op, op', op''] [b, c, d] pos) (tTest (tChain3 r r' r'' ta tb tc td)) := by
  refine ⟨fun pins s σ H Q I h => ?_⟩
  refine isTrue_chain (thn (ha.run pins s σ H _ I h) fun v s1 ⟨x, H1, I1, r1, q1⟩ => test_link (thn (hb.run pins s1 σ H1 _ I1 q1) fun u s2 ⟨y, H2, I2, r2, q2⟩ =>
    thn (ho pins s2 σ H2 x y v u _ I2 r1 r2 q2) fun d s3 ⟨z, H3, I3, r3, k, e, q3⟩ => ?_)) hm
  subst e
  cases r3
  refine wpAny_truthy_bool ?_
  cases k with
  | false =>
    obtain ⟨k', e', q'⟩ := q3
    cases e'
    exact ite_ff ⟨H3, I3, q'⟩
  | true =>
    refine ite_tt (test_link (thn (hc.run pins s3 σ H3 _ I3 q3) fun w' s4 ⟨z', H4, I4, r4, q4⟩ => thn (ho' pins s4 σ H4 y z' u w' _ I4 r2 r4 q4) fun d' s5 ⟨z2, H5, I5, r5, k2, e2, q5⟩ => ?_))
    subst e2
    cases r5
    refine wpAny_truthy_bool ?_
    cases k2 with
    | false =>
      obtain ⟨k', e', q'⟩ := q5
      cases e'
      exact ite_ff ⟨H5, I5, q'⟩
    | true =>
      refine ite_tt (test_last (thn (hd.run pins s5 σ H5 _ I5 q5) fun w6 s6 ⟨z6, H6, I6, r6, q6⟩ => thn (ho'' pins s6 σ H6 z' z6 w' w6 _ I6 r4 r6 q6) fun d7 s7 ⟨z7, H7, I7, r7, k7, e7, q7⟩ => ?_))
      subst e7
      cases r7
      exact wpAny_truthy_bool ⟨H7, I7, q7⟩
/-! ### the rules with the written part named -/
section
variable {X : Cx} {K : PySem.W.Frag}
theorem op_eqDk (hu : X.A.units + 64 < cLine) (hK : X.K = K := by rfl) : OpR X (compareOp .Eq) (rEqD K) := by subst hK; exact op_eqD hu
theorem op_neDk (hu : X.A.units + 64 < cLine) (hK : X.K = K := by rfl) : OpR X (compareOp .NotEq) (rNeD K) := by subst hK; exact op_neD hu
theorem ix_listk (hK : X.K = K := by rfl) : IxR X (rIxL K) := by subst hK; exact ix_list
theorem ix_tupk (hK : X.K = K := by rfl) : IxR X (rIxT K) := by subst hK; exact ix_tup
theorem call_isik (hK : X.K = K := by rfl) : CallR X (.builtin "isinstance") (rIsi K) := by subst hK; exact call_isi
def rLen (K : PySem.W.Frag) : List V → Hp → VK → Prop := fun xs H Q => ∃ p ys, xs = [.ref p] ∧ (SqL K H p ys ∨ SqT K H p ys) ∧ Q (.int ys.length) H
theorem call_lenk (hK : X.K = K := by rfl) : CallR X (.builtin "len") (rLen K) := by subst hK; exact call_len_seq
theorem sl_listk (hK : X.K = K := by rfl) : SlR X (rSlL K) := by subst hK; exact sl_list
theorem cr_sumk (hc : X.calm = true) (hK : X.K = K := by rfl) : CallR X (.builtin "sum") (rSum K) := by subst hK; exact cr_sum hc
theorem cr_allk (hc : X.calm = true) (hK : X.K = K := by rfl) : CallR X (.builtin "all") (rAll K) := by subst hK; exact cr_all hc
theorem cr_anyk (hc : X.calm = true) (hK : X.K = K := by rfl) : CallR X (.builtin "any") (rAny K) := by subst hK; exact cr_any hc
end
/-! ### readings, by rewriting -/
section
variable {K : PySem.W.Frag} {D : Ends} {σ : L2.St} {H : Hp} {Q : VK} {t u : TS} {te ta tb tc : TE} {g : TG} {c d : TT} {v x y : V} {i j : Int} {n : Nat}
theorem rd_seq : tSeq t u D σ H = t { D with nx := u D } σ H := rfl
theorem rd_next : tNext D σ H = D.nx σ H := rfl
theorem rd_brk : tBreak D σ H = D.bk σ H := rfl
theorem rd_asg : tAsg te g D σ H = te σ H fun x H1 => g x σ H1 D.nx := rfl
theorem rd_name {R : L2.St → Hp → Prop} : gName n v σ H R = R (σ.set n (some v)) H := rfl
theorem rd_par {ta : TA} {k l : Nat} : tPar k l ta D σ H = ta σ H fun vs H1 => ∃ v w, vs = [v, w] ∧ D.nx ((σ.set k (some v)).set l (some w)) H1 := rfl
theorem rd_ret : tRet te D σ H = te σ H D.rt := rfl
theorem rd_retN : tRetN D σ H = D.rt .non H := rfl
theorem rd_drop : tDrop te D σ H = te σ H fun _ H1 => D.nx σ H1 := rfl
theorem rd_if : tIfS c t u D σ H = c σ H fun b H1 => if b = true then t D σ H1 else u D σ H1 := rfl
theorem rd_var : tVar n σ H Q = ∃ v, σ[n]? = some (some v) ∧ Q v H := rfl
theorem rd_c : tC v σ H Q = Q v H := rfl
theorem rd_op {r : R2} : tOp r ta tb σ H Q = ta σ H fun x H1 => tb σ H1 fun y H2 => r x y H2 Q := rfl
theorem rd_un {r : V → Hp → VK → Prop} : tUn r ta σ H Q = ta σ H fun x H1 => r x H1 Q := rfl
theorem rd_I0 {f : Int → Int → V} : rI0 f (.int i) (.int j) H Q ↔ Q (f i j) H := ⟨fun ⟨_, _, a, b, q⟩ => by cases a; cases b; exact q, fun q => ⟨i, j, rfl, rfl, q⟩⟩
theorem rd_I {C : Int → Int → Prop} {f : Int → Int → V} : rI C f (.int i) (.int j) H Q ↔ C i j ∧ Q (f i j) H := ⟨fun ⟨_, _, a, b, q⟩ => by cases a; cases b; exact q, fun q => ⟨i, j, rfl, rfl, q⟩⟩
theorem rd_U {f : Int → V} : rU f (.int i) H Q ↔ Q (f i) H := ⟨fun ⟨_, a, q⟩ => by cases a; exact q, fun q => ⟨i, rfl, q⟩⟩
theorem dec_int : decide (V.int i = V.int j) = decide (i = j) := by by_cases h : i = j <;> simp [h]
theorem rd_eqI : rEq (.int i) (.int j) H Q ↔ Q (.bl (decide (i = j))) H := ⟨fun ⟨_, q⟩ => by rw [dec_int] at q; exact q, fun q => ⟨rfl, by rw [dec_int]; exact q⟩⟩
theorem rd_neI : rNe (.int i) (.int j) H Q ↔ Q (.bl (!decide (i = j))) H := ⟨fun ⟨_, q⟩ => by rw [dec_int] at q; exact q, fun q => ⟨rfl, by rw [dec_int]; exact q⟩⟩
theorem rd_test {R : Bool → Hp → Prop} : tTest te σ H R = te σ H fun x H' => ∃ k, x = .bl k ∧ R k H' := rfl
theorem rd_B {R : Bool → Hp → Prop} : tB te σ H R = te σ H fun x H' => ∃ k, x = .bl k ∧ R k H' := rfl
theorem rd_and {R : Bool → Hp → Prop} : tAnd c d σ H R = c σ H fun k H1 => if k = true then d σ H1 R else R false H1 := rfl
theorem rd_or {R : Bool → Hp → Prop} : tOr c d σ H R = c σ H fun k H1 => if k = true then R true H1 else d σ H1 R := rfl
theorem rd_not {R : Bool → Hp → Prop} : tNot c σ H R = c σ H fun k H1 => R (!k) H1 := rfl
theorem rd_andV : tAndV ta tb σ H Q = ta σ H fun x H1 => ∃ c, x = .bl c ∧ if c = true then tb σ H1 Q else Q (.bl false) H1 := rfl
theorem rd_orV : tOrV ta tb σ H Q = ta σ H fun x H1 => ∃ c, x = .bl c ∧ if c = true then Q (.bl true) H1 else tb σ H1 Q := rfl
theorem rd_notV : tNotV ta σ H Q = ta σ H fun x H1 => ∃ c, x = .bl c ∧ Q (.bl (!c)) H1 := rfl
theorem rd_ifE : tIf c ta tb σ H Q = c σ H fun k H1 => if k = true then ta σ H1 Q else tb σ H1 Q := rfl
theorem rd_isN : tIsN ta σ H Q = ta σ H fun x H1 => Q (.bl (decide (x = .non))) H1 := rfl
theorem rd_notN : tNotN ta σ H Q = ta σ H fun x H1 => Q (.bl (!decide (x = .non))) H1 := rfl
theorem rd_chain {r r' : R2} : tChain r r' ta tb tc σ H Q = ta σ H fun x H1 => tb σ H1 fun y H2 => r x y H2 fun z H3 => ∃ k, z = .bl k ∧ (if k = true then tc σ H3 fun w' H4 => r' y w' H4 Q else Q (.bl false) H3) := rfl
theorem rd_chain3 {r r' r'' : R2} {td : TE} : tChain3 r r' r'' ta tb tc td σ H Q = ta σ H fun x H1 => tb σ H1 fun y H2 => r x y H2 fun z H3 => ∃ k, z = .bl k ∧ (if k = true then tc σ H3 fun y' H4 => r' y y' H4 fun z' H5 => ∃ k', z' = .bl k' ∧ (if k' = true then td σ H5 fun w' H6 => r'' y' w' H6 Q else Q (.bl false) H5) else Q (.bl false) H3) := rfl
theorem rd_nil {R : List V → Hp → Prop} : tNil σ H R = R [] H := rfl
theorem rd_cons {t : TA} {R : List V → Hp → Prop} : tCons ta t σ H R = ta σ H fun x H1 => t σ H1 fun xs H2 => R (x :: xs) H2 := rfl
theorem rd_tup {t : TA} : tTup t σ H Q = t σ H fun xs H1 => xs.length ≤ sizeLine ∧ ∀ p, H1 p = none → Q (.ref p) (upd H1 p (.tup xs)) := rfl
theorem rd_lst {t : TA} : tLst t σ H Q = t σ H fun xs H1 => xs.length ≤ sizeLine ∧ ∀ p, H1 p = none → Q (.ref p) (upd H1 p (.lst xs)) := rfl
theorem rd_call {sp : Sp} {ds : List V} {E : XK} {t : TA} : tCall sp ds E t σ H Q = t σ H fun vs H1 => sp (vs ++ ds) H1 Q E := rfl
theorem rd_CB {r : List V → Hp → VK → Prop} {t : TA} : tCB r t σ H Q = t σ H fun vs H1 => r vs H1 Q := rfl
theorem rd_ixL {p : Addr} : rIxL K (.ref p) (.int i) H Q ↔ ∃ xs v, SqL K H p xs ∧ atI xs i = some v ∧ Q v H := ⟨fun ⟨_, xs, _, v, a, b, q⟩ => by cases a; cases b; exact ⟨xs, v, q⟩, fun ⟨xs, v, q⟩ => ⟨p, xs, i, v, rfl, rfl, q⟩⟩
theorem rd_ixT {p : Addr} : rIxT K (.ref p) (.int i) H Q ↔ ∃ xs v, SqT K H p xs ∧ atI xs i = some v ∧ Q v H := ⟨fun ⟨_, xs, _, v, a, b, q⟩ => by cases a; cases b; exact ⟨xs, v, q⟩, fun ⟨xs, v, q⟩ => ⟨p, xs, i, v, rfl, rfl, q⟩⟩
theorem rd_sl {r : V → Option Int → Option Int → Hp → VK → Prop} {tl th : TO} : tSl r te tl th σ H Q = te σ H fun x H1 => tl σ H1 fun l H2 => th σ H2 fun u H3 => r x l u H3 Q := rfl
theorem rd_noPart {R : Option Int → Hp → Prop} : tNoPart σ H R = R none H := rfl
theorem rd_part {R : Option Int → Hp → Prop} : tPart te σ H R = te σ H fun x H1 => ∃ i, x = .int i ∧ R (some i) H1 := rfl
theorem rd_slL {p : Addr} {lo hi : Option Int} : rSlL K (.ref p) lo hi H Q ↔ ∃ xs, SqL K H p xs ∧ ∀ q, H q = none → Q (.ref q) (upd H q (.lst (cutV xs lo hi))) := ⟨fun ⟨_, xs, a, q⟩ => by cases a; exact ⟨xs, q⟩, fun ⟨xs, q⟩ => ⟨p, xs, rfl, q⟩⟩
theorem rd_sum {p : Addr} : rSum K [.ref p] H Q ↔ ∃ ns : List Int, SqL K H p (ns.map V.int) ∧ Q (.int ns.sum) H := ⟨fun ⟨_, xs, a, q⟩ => by cases a; exact ⟨xs, q⟩, fun ⟨xs, q⟩ => ⟨p, xs, rfl, q⟩⟩
theorem rd_all {p : Addr} : rAll K [.ref p] H Q ↔ ∃ bs : List Bool, SqL K H p (bs.map V.bl) ∧ Q (.bl (bs.all id)) H := ⟨fun ⟨_, xs, a, q⟩ => by cases a; exact ⟨xs, q⟩, fun ⟨xs, q⟩ => ⟨p, xs, rfl, q⟩⟩
theorem rd_any {p : Addr} : rAny K [.ref p] H Q ↔ ∃ bs : List Bool, SqL K H p (bs.map V.bl) ∧ Q (.bl (bs.any id)) H := ⟨fun ⟨_, xs, a, q⟩ => by cases a; exact ⟨xs, q⟩, fun ⟨xs, q⟩ => ⟨p, xs, rfl, q⟩⟩
theorem ex_int {R : Int → Prop} : (∃ k, V.int i = V.int k ∧ R k) ↔ R i := ⟨fun ⟨_, a, q⟩ => by cases a; exact q, fun q => ⟨i, rfl, q⟩⟩
theorem ex_int1 {R : Int → Prop} : (∃ k, [V.int i] = [V.int k] ∧ R k) ↔ R i := ⟨fun ⟨_, a, q⟩ => by cases a; exact q, fun q => ⟨i, rfl, q⟩⟩
theorem ex_int2 {R : Int → Int → Prop} : (∃ k l, [V.int i, V.int j] = [V.int k, V.int l] ∧ R k l) ↔ R i j := ⟨fun ⟨_, _, a, q⟩ => by cases a; exact q, fun q => ⟨i, j, rfl, q⟩⟩
theorem rd_len {p : Addr} : rLen K [.ref p] H Q ↔ ∃ ys : List V, (SqL K H p ys ∨ SqT K H p ys) ∧ Q (.int ys.length) H := ⟨fun ⟨_, xs, a, q⟩ => by cases a; exact ⟨xs, q⟩, fun ⟨xs, q⟩ => ⟨p, xs, rfl, q⟩⟩
theorem ex_len {p : Addr} {R : Addr → List V → Prop} : (∃ q ys, [V.ref p] = [V.ref q] ∧ R q ys) ↔ ∃ ys, R p ys := ⟨fun ⟨_, ys, a, q⟩ => by cases a; exact ⟨ys, q⟩, fun ⟨ys, q⟩ => ⟨p, ys, rfl, q⟩⟩
theorem ex_var {R : V → Prop} : (∃ w, (some (some v) : Option (Option V)) = some (some w) ∧ R w) ↔ R v := ⟨fun ⟨_, a, q⟩ => by cases a; exact q, fun q => ⟨v, rfl, q⟩⟩
theorem ex_bl {b : Bool} {R : Bool → Prop} : (∃ k, V.bl b = V.bl k ∧ R k) ↔ R b := ⟨fun ⟨_, a, q⟩ => by cases a; exact q, fun q => ⟨b, rfl, q⟩⟩
/-- a loop over what is walked -/
def forIt (J : It) (g : TG) (tb : TS) (D : Ends) (σ : L2.St) (H : Hp) : Prop := ∃ W : Nat → Nat → L2.St → Hp → Prop, (∃ m, W 0 m σ H) ∧ ∀ i m σ H, W i m σ H →
  (J.stop i H ∧ D.nx σ H) ∨ (J.go i H ∧ ∃ N : L2.St → Hp → Prop, (∀ σ' H', N σ' H' → ∃ m', m' < m ∧ W (i + 1) m' σ' H') ∧ ∀ x H', J.yld i H x H' → g x σ H' fun σ2 H2 => tb { D with nx := N, ct := N, bk := D.nx } σ2 H2)
theorem rd_forL {tl : TE} : tFor (iList K tl) g t D σ H = tl σ H fun x H1 => ∃ a, x = .ref a ∧ (∃ xs, SqL K H1 a xs) ∧ forIt (Itl K a) g t D σ H1 := rfl
theorem rd_forT {tl : TE} : tFor (iTup K tl) g t D σ H = tl σ H fun x H1 => ∃ a, x = .ref a ∧ (∃ xs, SqT K H1 a xs) ∧ forIt (Itt K a) g t D σ H1 := rfl
theorem rd_forR1 {ta : TA} : tFor (iR1 ta) g t D σ H = ta σ H fun vs H1 => ∃ j : Int, vs = [.int j] ∧ forIt (Itr 0 j.toNat) g t D σ H1 := rfl
theorem rd_forR2 {ta : TA} : tFor (iR2 ta) g t D σ H = ta σ H fun vs H1 => ∃ i j : Int, vs = [.int i, .int j] ∧ forIt (Itr i (j - i).toNat) g t D σ H1 := rfl
theorem rd_forR3 {ta : TA} : tFor (iRng3 ta) g t D σ H = ta σ H fun vs H1 => ∃ (i j c : Int) (n : Nat), vs = [.int i, .int j, .int c] ∧ RgC i j c n ∧ forIt (Itc i c n) g t D σ H1 := rfl
theorem ex_ref {p : Addr} {R : Addr → Prop} : (∃ a, V.ref p = V.ref a ∧ R a) ↔ R p := ⟨fun ⟨_, a, q⟩ => by cases a; exact q, fun q => ⟨p, rfl, q⟩⟩
/-- the value in a slot, handed on -/
def slot : L2.St → Nat → (V → Prop) → Prop
  | [], _, _ => False
  | none :: _, 0, _ => False
  | some v :: _, 0, k => k v
  | _ :: σ, n + 1, k => slot σ n k
theorem slot_z {σ : L2.St} {k : V → Prop} : slot (some v :: σ) 0 k = k v := rfl
theorem slot_n {o : Option V} {σ : L2.St} {k : V → Prop} : slot (o :: σ) (n + 1) k = slot σ n k := by cases o <;> rfl
def setS : L2.St → Nat → V → (L2.St → Prop) → Prop
  | [], _, _, k => k []
  | _ :: σ, 0, v, k => k (some v :: σ)
  | o :: σ, n + 1, v, k => setS σ n v fun σ' => k (o :: σ')
theorem setS_z {o : Option V} {σ : L2.St} {k : L2.St → Prop} : setS (o :: σ) 0 v k = k (some v :: σ) := rfl
theorem setS_n {o : Option V} {σ : L2.St} {k : L2.St → Prop} : setS (o :: σ) (n + 1) v k = setS σ n v fun σ' => k (o :: σ') := rfl
theorem slot_iff : ∀ (σ : L2.St) (n : Nat) (k : V → Prop), (∃ v, σ[n]? = some (some v) ∧ k v) ↔ slot σ n k
  | [], n, k => by simp [slot]
  | none :: σ, 0, k => by simp [slot]
  | some v :: σ, 0, k => by simp [slot]
  | o :: σ, n + 1, k => by
    have ih := slot_iff σ n k
    rw [slot_n, ← ih]
    simp
theorem setS_iff : ∀ (σ : L2.St) (n : Nat) (v : V) (k : L2.St → Prop), k (σ.set n (some v)) ↔ setS σ n v k
  | [], n, v, k => by simp [setS]
  | o :: σ, 0, v, k => by simp [setS]
  | o :: σ, n + 1, v, k => by
    have ih := setS_iff σ n v (fun σ' => k (o :: σ'))
    rw [setS_n, ← ih]
    simp
theorem rp_var : tVar n σ H Q ↔ slot σ n fun v => Q v H := slot_iff σ n _
theorem rp_name {R : L2.St → Hp → Prop} : gName n v σ H R ↔ setS σ n v fun σ' => R σ' H := setS_iff σ n v fun σ' => R σ' H
theorem rp_par {ta : TA} {k l : Nat} : tPar k l ta D σ H ↔ ta σ H fun vs H1 => ∃ v w, vs = [v, w] ∧ setS σ k v fun σ' => setS σ' l w fun σ'' => D.nx σ'' H1 := by
  have e : ∀ (v w : V) (H1 : Hp), D.nx ((σ.set k (some v)).set l (some w)) H1 ↔ setS σ k v fun σ' => setS σ' l w fun σ'' => D.nx σ'' H1 := fun v w H1 => by
    rw [← setS_iff σ k v (fun σ' => setS σ' l w fun σ'' => D.nx σ'' H1), ← setS_iff]
  show (ta σ H fun vs H1 => ∃ v w, vs = [v, w] ∧ D.nx ((σ.set k (some v)).set l (some w)) H1) ↔ _
  have : (fun (vs : List V) (H1 : Hp) => ∃ v w, vs = [v, w] ∧ D.nx ((σ.set k (some v)).set l (some w)) H1) = fun vs H1 => ∃ v w, vs = [v, w] ∧ setS σ k v fun σ' => setS σ' l w fun σ'' => D.nx σ'' H1 := by
    funext vs H1
    refine propext ⟨?_, ?_⟩
    · rintro ⟨v, w, a, b⟩
      exact ⟨v, w, a, (e v w H1).mp b⟩
    · rintro ⟨v, w, a, b⟩
      exact ⟨v, w, a, (e v w H1).mpr b⟩
  rw [this]
theorem cx_K {CX : CXT} {P : Program} {w : World} {mg : Str → Option Value} {base : Heap} {N : List Str} {q : Str} {sc : Scope} {f : Addr} {cd : Value} {A : Around} {o : List Env} {s : Shared} {E : XK} : (cxOf CX P w K mg base N q sc f cd A o s H E).K = K := rfl
theorem if_dec {c : Prop} [Decidable c] {A B : Prop} : (if decide c = true then A else B) = if c then A else B := by by_cases h : c <;> simp [h]
theorem if_ndec {c : Prop} [Decidable c] {A B : Prop} : (if (!decide c) = true then A else B) = if c then B else A := by by_cases h : c <;> simp [h]
theorem if_nb {b : Bool} {A B : Prop} : (if (!b) = true then A else B) = if b = true then B else A := by cases b <;> simp
theorem if_tt {A B : Prop} : (if true = true then A else B) = A := by simp
theorem if_ff {A B : Prop} : (if false = true then A else B) = B := by simp
theorem ex_two {R : V → V → Prop} : (∃ a b, [x, y] = [a, b] ∧ R a b) ↔ R x y := ⟨fun ⟨_, _, a, q⟩ => by cases a; exact q, fun q => ⟨x, y, rfl, q⟩⟩
end
/-! ### a def of the text -/
structure DefAt (K : PySem.W.Frag) (mg : Str → Option Value) (x qual : Str) (st : Stmt) (ps : List Str) (f : Addr) (fd : FuncData) : Prop where
  F : Fun K x qual st f fd
  b : Binds K fd ps []
  g : mg x = some (.ref f)
theorem DefAt.kp {K : PySem.W.Frag} {mg : Str → Option Value} {x qual : Str} {st : Stmt} {ps : List Str} {f : Addr} {fd : FuncData} (d : DefAt K mg x qual st ps f fd) : PySem.W.keepIn K (.ref f) = true := d.F.kp
end Sa
/-! rules over displays, comprehensions over ranges, ranges with a step -/
namespace Sa
open PySem PySem.Spec PyProof.Rows L2 Evl
theorem same_newO {H : Hp} {p : Addr} {o : HO} (h : H p = none) : Same H (upd H p o) := fun b x e => by
  rw [upd_ne (ne_of_none e h)]
  exact e
theorem same_mut {H H' : Hp} {p : Addr} {o : HO} (e : Same H H') (h : H p = none) : Same H (upd H' p o) := fun a u ha => by
  rw [upd_ne (ne_of_none ha h)]
  exact e a u ha
/-! ### what evaluates to what, at any later heap -/
def EvE (te : TE) (σ : L2.St) (v : V) : Prop := ∀ (H : Hp) (Q : VK), Q v H → te σ H Q
def EvAL (ta : TA) (σ : L2.St) (I : List V → Hp → Prop) : Prop := ∀ (H : Hp) (Q : List V → Hp → Prop), (∀ xs H2, Same H H2 → I xs H2 → Q xs H2) → ta σ H Q
def IInts (ns : List Int) (xs : List V) (_ : Hp) : Prop := xs = ns.map V.int
def IPairs : List (Int × Int) → List V → Hp → Prop
  | [], xs, _ => xs = []
  | (a, b) :: r, xs, H => ∃ p ys, xs = .ref p :: ys ∧ H p = some (.tup [.int a, .int b]) ∧ IPairs r ys H
theorem IPairs.mono : ∀ {ab : List (Int × Int)} {xs : List V} {H H' : Hp}, Same H H' → IPairs ab xs H → IPairs ab xs H'
  | [], _, _, _, _, h => h
  | (a, b) :: r, _, _, _, s, ⟨p, ys, e, hp, h⟩ => ⟨p, ys, e, s _ _ hp, IPairs.mono s h⟩
theorem IPairs.len : ∀ {ab : List (Int × Int)} {xs : List V} {H : Hp}, IPairs ab xs H → xs.length = ab.length
  | [], _, _, h => by rw [h]; rfl
  | (a, b) :: r, _, _, ⟨p, ys, e, hp, h⟩ => by rw [e, List.length_cons, List.length_cons, IPairs.len h]
theorem IPairs.at : ∀ {ab : List (Int × Int)} {xs : List V} {H : Hp} {i : Nat} {x : V}, IPairs ab xs H → xs[i]? = some x → ∃ a b p, ab[i]? = some (a, b) ∧ x = .ref p ∧ H p = some (.tup [.int a, .int b])
  | [], _, _, i, x, h, e => by rw [h] at e; simp at e
  | (a, b) :: r, _, _, 0, x, ⟨p, ys, e, hp, h⟩, ex => by
    rw [e] at ex
    cases ex
    exact ⟨a, b, p, rfl, rfl, hp⟩
  | (a, b) :: r, _, _, i + 1, x, ⟨p, ys, e, hp, h⟩, ex => by
    rw [e] at ex
    exact IPairs.at (i := i) h ex
theorem al_nilI {σ : L2.St} : EvAL tNil σ (IInts []) := fun H Q q => q [] H (Same.refl H) rfl
theorem al_consI {σ : L2.St} {te : TE} {ta : TA} {n : Int} {ns : List Int} (h : EvE te σ (.int n)) (g : EvAL ta σ (IInts ns)) : EvAL (tCons te ta) σ (IInts (n :: ns)) := fun H Q q =>
  h H _ (g H _ fun xs H2 s i => q _ H2 s (by rw [show xs = ns.map V.int from i]; rfl))
theorem al_nilP {σ : L2.St} : EvAL tNil σ (IPairs []) := fun H Q q => q [] H (Same.refl H) rfl
theorem al_consP {σ : L2.St} {te tu : TE} {ta : TA} {a b : Int} {ab : List (Int × Int)} (h : EvE te σ (.int a)) (h' : EvE tu σ (.int b)) (g : EvAL ta σ (IPairs ab)) : EvAL (tCons (tTup (tCons te (tCons tu tNil))) ta) σ (IPairs ((a, b) :: ab)) := fun H Q q =>
  h H _ (h' H _ ⟨by show 2 ≤ sizeLine; decide, fun p hp => g _ _ fun xs H2 s i => q _ H2 ((same_newO hp).trans s) ⟨p, xs, rfl, s _ _ upd_same, i⟩⟩)
theorem ee_var {σ : L2.St} {n : Nat} {v : V} (h : σ[n]? = some (some v)) : EvE (tVar n) σ v := fun H Q q => ⟨v, h, q⟩
theorem ee_c {σ : L2.St} {v : V} : EvE (tC v) σ v := fun H Q q => q
theorem ee_U {σ : L2.St} {ta : TE} {f : Int → V} {i : Int} (h : EvE ta σ (.int i)) : EvE (tUn (rU f) ta) σ (f i) := fun H Q q => h H _ ⟨i, rfl, q⟩
theorem ee_I0 {σ : L2.St} {ta tb : TE} {f : Int → Int → V} {i j : Int} (h : EvE ta σ (.int i)) (g : EvE tb σ (.int j)) : EvE (tOp (rI0 f) ta tb) σ (f i j) := fun H Q q => h H _ (g H _ ⟨i, j, rfl, rfl, q⟩)
theorem ee_I {σ : L2.St} {ta tb : TE} {C : Int → Int → Prop} {f : Int → Int → V} {i j : Int} (h : EvE ta σ (.int i)) (g : EvE tb σ (.int j)) (c : C i j) : EvE (tOp (rI C f) ta tb) σ (f i j) := fun H Q q => h H _ (g H _ ⟨i, j, rfl, rfl, c, q⟩)
/-- for x in [.., ..], the items told by I -/
theorem for_disp {K : PySem.W.Frag} {ta : TA} {g : TG} {tb : TS} {D : Ends} {σ : L2.St} {H : Hp} {I : List V → Hp → Prop} {n : Nat} (mono : ∀ xs H H', Same H H' → I xs H → I xs H') (len : ∀ xs H, I xs H → xs.length = n) (hn : n ≤ 1000) (hp : EvAL ta σ I)
    (Pv : Nat → L2.St → Hp → Prop) (h0 : ∀ H1, Same H H1 → Pv 0 σ H1)
    (hs : ∀ (Hf : Hp) (l : Addr), Same H Hf → ∀ i x xs σ' H', xs[i]? = some x → i < n → Same Hf H' → I xs H' → Pv i σ' H' → g x σ' H' fun σ2 H2 => tb { D with nx := fun σ3 H3 => Same Hf H3 ∧ Pv (i + 1) σ3 H3, ct := fun σ3 H3 => Same Hf H3 ∧ Pv (i + 1) σ3 H3, bk := D.nx } σ2 H2)
    (hd : ∀ σ' H', Same H H' → Pv n σ' H' → D.nx σ' H') : tFor (iList K (tLst ta)) g tb D σ H := by
  refine hp H _ fun xs H2 s2 i2 => ?_
  have hl := len xs H2 i2
  refine ⟨Nat.le_trans (by omega) (show 1000 ≤ sizeLine by decide), fun l nl => ⟨l, rfl, ⟨xs, .inl (.inl upd_same)⟩, ?_⟩⟩
  have sl := s2.trans (same_newO (o := .lst xs) nl)
  have h := for_list (K := K) (a := l) (xs := xs) (g := g) (tb := tb) (D := D) (σ := σ) (H := upd H2 l (.lst xs)) (fun i σ' H' => Same (upd H2 l (.lst xs)) H' ∧ Pv i σ' H') ⟨Same.refl _, h0 _ sl⟩
    (fun i σ' H' _ ⟨s, _⟩ => .inl (.inl (s _ _ upd_same)))
    (fun i x σ' H' hi ⟨s, p⟩ => hs _ l sl i x xs σ' H' hi (by rw [← hl]; exact (List.getElem?_eq_some_iff.mp hi).1) s (mono _ _ _ ((same_newO nl).trans s) i2) p)
    (fun σ' H' ⟨s, p⟩ => hd σ' H' (sl.trans s) (by rw [← hl]; exact p))
  exact h
/-- for x in (.., ..), the items told by I -/
theorem for_dispT {K : PySem.W.Frag} {ta : TA} {g : TG} {tb : TS} {D : Ends} {σ : L2.St} {H : Hp} {I : List V → Hp → Prop} {n : Nat} (mono : ∀ xs H H', Same H H' → I xs H → I xs H') (len : ∀ xs H, I xs H → xs.length = n) (hn : n ≤ 1000) (hp : EvAL ta σ I)
    (Pv : Nat → L2.St → Hp → Prop) (h0 : ∀ H1, Same H H1 → Pv 0 σ H1)
    (hs : ∀ (Hf : Hp) (l : Addr), Same H Hf → ∀ i x xs σ' H', xs[i]? = some x → i < n → Same Hf H' → I xs H' → Pv i σ' H' → g x σ' H' fun σ2 H2 => tb { D with nx := fun σ3 H3 => Same Hf H3 ∧ Pv (i + 1) σ3 H3, ct := fun σ3 H3 => Same Hf H3 ∧ Pv (i + 1) σ3 H3, bk := D.nx } σ2 H2)
    (hd : ∀ σ' H', Same H H' → Pv n σ' H' → D.nx σ' H') : tFor (iTup K (tTup ta)) g tb D σ H := by
  refine hp H _ fun xs H2 s2 i2 => ?_
  have hl := len xs H2 i2
  refine ⟨Nat.le_trans (by omega) (show 1000 ≤ sizeLine by decide), fun l nl => ⟨l, rfl, ⟨xs, .inl (.inl upd_same)⟩, ?_⟩⟩
  have sl := s2.trans (same_newO (o := .tup xs) nl)
  have h := for_tup (K := K) (a := l) (xs := xs) (g := g) (tb := tb) (D := D) (σ := σ) (H := upd H2 l (.tup xs)) (fun i σ' H' => Same (upd H2 l (.tup xs)) H' ∧ Pv i σ' H') ⟨Same.refl _, h0 _ sl⟩
    (fun i σ' H' _ ⟨s, _⟩ => .inl (.inl (s _ _ upd_same)))
    (fun i x σ' H' hi ⟨s, p⟩ => hs _ l sl i x xs σ' H' hi (by rw [← hl]; exact (List.getElem?_eq_some_iff.mp hi).1) s (mono _ _ _ ((same_newO nl).trans s) i2) p)
    (fun σ' H' ⟨s, p⟩ => hd σ' H' (sl.trans s) (by rw [← hl]; exact p))
  exact h
/-! ### a comprehension over a range, each element of a value -/
theorem lc_map {lo : Int} {n j : Nat} {te : TE} {vs : List Nat} {σ : L2.St} {H1 : Hp} {D : Addr} {Qd : Hp → Prop} (v : Nat → V) (hw : ∀ x, wipe ((wipe σ vs).set j (some x)) vs = wipe σ vs) (hD : H1 D = none) (hn : n ≤ 1000000)
    (he : ∀ (i : Nat) (H' : Hp), i < n → Same H1 H' → ∀ Q : VK, (∀ H2, Same H' H2 → Q (v i) H2) → te ((wipe σ vs).set j (some (.int (lo + (i : Int))))) H' Q)
    (hd : ∀ H', Same H1 H' → H' D = some (.lst ((List.range n).map v)) → Qd H') :
    ∃ W : Nat → Nat → Hp → Prop, (∃ m, W 0 m (upd H1 D (.lst []))) ∧ ∀ i m H, W i m H →
      ((Itr lo n).stop i H ∧ Qd H) ∨ ((Itr lo n).go i H ∧ ∃ Nx : Hp → Prop, (∀ H', Nx H' → ∃ m', m' < m ∧ W (i + 1) m' H') ∧ ∀ x H', (Itr lo n).yld i H x H' → (gName j) x (wipe σ vs) H' fun σ2 H2 => wipe σ2 vs = wipe σ vs ∧ tYes σ2 H2 fun b H3 =>
        if b = true then te σ2 H3 fun y H4 => ∃ acc, H4 D = some (.lst acc) ∧ acc.length < sizeLine ∧ Nx (upd H4 D (.lst (acc ++ [y]))) else Nx H3) := by
  refine lc_range (fun i H' => Same H1 H' ∧ H' D = some (.lst ((List.range i).map v))) ⟨same_mut (Same.refl _) hD, upd_same⟩ (fun i H' hi ⟨s, e⟩ => ?_) (fun H' ⟨s, e⟩ => hd H' s e)
  refine ⟨hw _, ?_⟩
  unfold tYes
  dsimp only
  rw [if_pos rfl]
  refine he i H' hi s _ fun H2 s2 => ⟨(List.range i).map v, s2 _ _ e, ?_, same_mut (s.trans s2) hD, ?_⟩
  · rw [List.length_map, List.length_range]
    exact Nat.lt_of_lt_of_le (Nat.lt_of_lt_of_le hi hn) (show 1000000 ≤ sizeLine by decide)
  · rw [upd_same, List.range_succ, List.map_append]
    rfl
/-- an iterator that is there -/
def itI (J : It) : TI := fun _ H R => R J H
theorem rd_lcR1 {ta : TA} {g : TG} {tt : TT} {te : TE} {vs : List Nat} {σ : L2.St} {H : Hp} {Q : VK} : tLc (iR1 ta) g tt te vs σ H Q = ta σ H fun ws H1 => ∃ j : Int, ws = [.int j] ∧ tLc (itI (Itr 0 j.toNat)) g tt te vs σ H1 Q := rfl
theorem rd_lcR2 {ta : TA} {g : TG} {tt : TT} {te : TE} {vs : List Nat} {σ : L2.St} {H : Hp} {Q : VK} : tLc (iR2 ta) g tt te vs σ H Q = ta σ H fun ws H1 => ∃ i j : Int, ws = [.int i, .int j] ∧ tLc (itI (Itr i (j - i).toNat)) g tt te vs σ H1 Q := rfl
theorem rd_lcL {K : PySem.W.Frag} {tl : TE} {g : TG} {tt : TT} {te : TE} {vs : List Nat} {σ : L2.St} {H : Hp} {Q : VK} : tLc (iList K tl) g tt te vs σ H Q = tl σ H fun x H1 => ∃ a, x = .ref a ∧ (∃ xs, SqL K H1 a xs) ∧ tLc (itI (Itl K a)) g tt te vs σ H1 Q := rfl
theorem rd_lcT {K : PySem.W.Frag} {tl : TE} {g : TG} {tt : TT} {te : TE} {vs : List Nat} {σ : L2.St} {H : Hp} {Q : VK} : tLc (iTup K tl) g tt te vs σ H Q = tl σ H fun x H1 => ∃ a, x = .ref a ∧ (∃ xs, SqT K H1 a xs) ∧ tLc (itI (Itt K a)) g tt te vs σ H1 Q := rfl
theorem lc_mapR {lo : Int} {n j : Nat} {te : TE} {vs : List Nat} {σ : L2.St} {H1 : Hp} {Q : VK} (v : Nat → V) (hw : ∀ x, wipe ((wipe σ vs).set j (some x)) vs = wipe σ vs) (hn : n ≤ 1000000)
    (he : ∀ (i : Nat) (H' : Hp), i < n → Same H1 H' → ∀ Q : VK, (∀ H2, Same H' H2 → Q (v i) H2) → te ((wipe σ vs).set j (some (.int (lo + (i : Int))))) H' Q)
    (hd : ∀ D H', H1 D = none → Same H1 H' → H' D = some (.lst ((List.range n).map v)) → Q (.ref D) H') : tLc (itI (Itr lo n)) (gName j) tYes te vs σ H1 Q := fun D hD =>
  lc_map v hw hD hn he fun H' s e => hd D H' hD s e
/-! ### range(0, n, 1 + n // 2) -/
def chkR (l : Nat) : Bool :=
  let n := (Builtin.Range.rangeSize 0 (l : Int) (1 + (l : Int) / 2)).toNat
  decide (n ≤ 2) && Builtin.Range.small 0 (l : Int) (1 + (l : Int) / 2) && decide (Builtin.Range.rangeSize 0 (l : Int) (1 + (l : Int) / 2) = (n : Int)) && (List.range n).all fun i => decide ((i : Int) * (1 + (l : Int) / 2) < (l : Int))
theorem chkR_all : (List.range 64).all (fun l => l == 0 || chkR l) = true := by decide +kernel
theorem rgc {l : Nat} (h0 : 0 < l) (h1 : l ≤ 63) : ∃ n : Nat, n ≤ 2 ∧ RgC 0 (l : Int) (1 + (l : Int) / 2) n ∧ ∀ i : Nat, i < n → (i : Int) * (1 + (l : Int) / 2) < (l : Int) := by
  have h := List.all_eq_true.mp chkR_all l (List.mem_range.mpr (by omega))
  have e : (l == 0) = false := by
    rw [beq_eq_false_iff_ne]
    omega
  rw [e, Bool.false_or] at h
  unfold chkR at h
  simp only [Bool.and_eq_true, decide_eq_true_eq, List.all_eq_true, List.mem_range] at h
  obtain ⟨⟨⟨a, b⟩, c⟩, d⟩ := h
  exact ⟨_, a, ⟨by omega, by omega, b, c⟩, d⟩
section
variable {D : Ends} {σ : L2.St} {H : Hp} {Q : VK} {td ty tv : TE}
theorem rd_dput : sDPut td ty tv D σ H = tv σ H fun v H1 => td σ H1 fun x H2 => ty σ H2 fun y H3 => ∃ a H4, x = .ref a ∧ DPut H3 a y v H4 ∧ D.nx σ H4 := rfl
theorem rd_dget1 : tDGet1 td ty σ H Q = td σ H fun x H1 => ∃ a, x = .ref a ∧ IsD H1 a ∧ ty σ H1 fun y H2 => ∃ o, DGet H2 a y o ∧ Q (o.getD .non) H2 := rfl
theorem rd_din : tDIn ty td σ H Q = ty σ H fun y H1 => td σ H1 fun x H2 => ∃ a o, x = .ref a ∧ DGet H2 a y o ∧ Q (.bl o.isSome) H2 := rfl
theorem rd_dget : tDGet td ty σ H Q = td σ H fun x H1 => ty σ H1 fun y H2 => ∃ a v, x = .ref a ∧ DGet H2 a y (some v) ∧ Q v H2 := rfl
theorem rd_dnew : tDNewK σ H Q = ∀ p, H p = none → Q (.ref p) (upd H p (.dK [])) := rfl
end
end Sa
/-! defs that raise where nothing is handled (the error's context is None), and what is walked while an error is handled -/
namespace Sa
open PySem PySem.Spec PyProof.Rows L2 Evl
theorem passN {X : Cx} : Passes (L2N.CX X.prog X.w) X E0 := fun _ _ _ _ _ _ _ h => by
  obtain ⟨_, _, _, _, _, _, _, _, _, _, _, _, z⟩ := h
  exact z.elim
theorem takesN {X : Cx} : L2N.Takes X (fun _ _ _ _ => False) := fun _ _ x => by
  obtain ⟨_, _, _, _, _, _, _, _, _, _, _, _, _, _, _, _, z⟩ := x
  exact z.elim
section
variable {P : Program} {w : World} {K : PySem.W.Frag} {mg : Str → Option Value} {base : Heap}
theorem okN {x qual : Str} {st : Stmt} {f : Addr} {fd : FuncData} {N ps : List Str} {k : Nat} {sp : Sp} (F : Fun K x qual st f fd) (S : FnScope N ps (defScope st)) (len : ∀ vs H Q E, sp vs H Q E → vs.length = ps.length)
    (hbody : ∀ (cdv : Value) (A : Around) (outer : List Env) (s : Shared) (H : Hp) (vs : List V) (Q : VK) (E : XK), Room k (A.deeper (envOfC qual (defScope st) s.heap.objs.size f cdv)) → sp vs H Q E →
      ∃ t, PSs (cxOf (L2N.CX P w) P w K mg base N qual (defScope st) f cdv A outer s H E) (defBody st) t ∧ t { nx := fun _ H' => Q .non H', rt := Q } (start N vs) H) : FnOk P w K mg base (L2N.CX P w) (k + 1) f fd ps sp := by
  obtain ⟨oc, od, kV, doc, pm, an, cdv, ct, osl, rfl, lk, hcd⟩ := F.ex
  exact fn_of lk hcd S len fun A outer s H vs Q E hr hsp => hbody cdv A outer s H vs Q E hr hsp
end
/-! ### any(xs) while an error is handled -/
theorem pyNext_list_end_hot {prog : Program} {w : World} {A : Around} {E : Value → Shared → Prop} {s : Shared} {it l x1 : Addr} {i : Nat} {items : Array Value} {Q : Option Value → Shared → Prop} (hot : HotX.HotAt A x1 s.heap) (hne : x1 ≠ it)
    (hit : s.heap.IsListIter it l i) (hl : s.heap.IsList l items) (hx : items[i]? = none)
    (hQ : ∀ h', (∀ b o, b ≠ it → s.heap.get? b = some o → h'.get? b = some o) → Q none { s with heap := h' }) : wpAny (model prog w) A (pyNext (.ref it)) Q E s := by
  obtain ⟨o, ho, hc, hd⟩ := id hit
  obtain ⟨ol, hol, _, nl, hdl⟩ := hl
  obtain ⟨hh, o1, vs1, h1, d1, c1⟩ := hot
  unfold pyNext
  refine wpAny_bind (wpAny_attempt (wpAny_callSpecial?_slot (name := Str.ofString "__next__") hit.typeIs slot_listiter_next
    (wpAny_call_entry slot_listiter_next hit.typeIs entry_listiter_next ?_ (args_listiter_next _))))
  show wpAny _ _ (field (.ref it) 0 >>= _) _ _ s
  refine wpAny_bind (wpAny_field ho hd (x := .ref l) rfl ?_)
  show wpAny _ _ (if (Value.ref l == Value.none) = true then _ else _) _ _ s
  rw [if_neg (show ¬ ((Value.ref l == Value.none) = true) from Bool.false_ne_true)]
  show wpAny _ _ (field (.ref it) 1 >>= _) _ _ s
  refine wpAny_bind (wpAny_field ho hd (x := .int i 0) rfl ?_)
  show wpAny _ _ (seqItems? (.ref l) >>= _) _ _ s
  refine wpAny_bind (wpAny_seqItems hol hdl ?_)
  simp only [Int.toNat_natCast, hx]
  refine wpAny_bind (wpAny_rule (wpAny_bind (wpAny_setField ho hd (by simp) ?_)))
  show wpAny _ _ (newExc (.type "StopIteration") [] >>= _) _ _ _
  refine wpAny_bind ?_
  simp only [newExc, newTuple]
  refine wpAny_bind (wpAny_newObj_type ?_ (by size_fits))
  refine wpAny_bind (m := firstArgMember _ _) (wpAny_of_eq (a := Value.none) (by first | rfl | (simp only [firstArgMember]; rfl)) ?_)
  refine wpAny_newObj_type ?_ (by size_fits)
  have k1 : ∀ b o', b ≠ it → s.heap.get? b = some o' → (s.heap.update it (Obj.mapFields (·.setIfInBounds 0 .none))).get? b = some o' := fun b o' hb e => by
    rw [Heap.get?_update_other _ _ hb.symm]
    exact e
  have x2 := k1 _ _ hne h1
  refine HotX.raiseNew_hot ⟨hh, o1, vs1, Heap.get?_push_of_some _ (Heap.get?_push_of_some _ x2), d1, c1⟩ (Nat.ne_of_lt (Heap.lt_size (Heap.get?_push_of_some _ x2))) (Heap.get?_push_size _ rfl) rfl (by first | (simp; done) | (simp; omega) | (simp only [Array.size_append]; simp; omega)) ?_
  refine wpAny_bind (wpAny_isInstance (T := "StopIteration") (b := true) ⟨_, Heap.get?_update_self _ (Heap.get?_push_size _ rfl) rfl, rfl⟩ isSubtype_stop ?_)
  refine wpAny_pure (hQ _ fun b o hb e => ?_)
  have x3 := k1 _ _ hb e
  rw [Heap.get?_update_other _ _ (Nat.ne_of_gt (Heap.lt_size (Heap.get?_push_of_some _ x3)))]
  exact Heap.get?_push_of_some _ (Heap.get?_push_of_some _ x3)
theorem walks_list_hot {prog : Program} {w : World} {A : Around} {x1 : Addr} {o1 : Obj} {vs1 : Array Value} (hh : A.handled = some (.ref x1)) (d1 : o1.data = .fields vs1) (c1 : vs1[2]? = some .none) (I ax : Addr) (hne : ax ≠ I) (hx1 : x1 ≠ I) (items : Array Value) :
    Walks prog w A I [I, ax, x1] [I] items.size (fun i v => items[i]? = some v) (fun i h => h.IsListIter I ax i ∧ h.IsList ax items ∧ h.get? x1 = some o1) where
  sub := fun b hb => by simp at hb; simp [hb]
  frame := fun _ _ _ st hk => ⟨st.1.at fun o e => hk I (by simp) o e, st.2.1.at fun o e => hk ax (by simp) o e, hk x1 (by simp) _ st.2.2⟩
  item := fun i s Q E hi st hQ => by
    refine wpAny_pyNext_list_item st.1 st.2.1 (x := items[i]) (by simp [hi]) fun h' hit' hs' => ?_
    exact hQ _ h' s.toks (by simp [hi]) ⟨hit', st.2.1.extBut hs'.extBut hne, hs'.extBut x1 _ hx1 st.2.2⟩ fun b o hb e => hs'.extBut b o (fun h => hb (by simp [h])) e
  done := fun s Q E st hQ => pyNext_list_end_hot ⟨hh, o1, vs1, st.2.2, d1, c1⟩ hx1 st.1 st.2.1 (by simp) fun h' he' => hQ h' s.toks fun b o hb e => he' b o (fun h => hb (by simp [h])) e
  self := fun _ _ _ _ st hQ => wpAny_pyIter_listiter st.1 hQ
theorem hotC_suite {X : Cx} {a : Addr} {oe : Obj} {cls : Value} {d : Option Addr} {pn : List (Addr × Obj)} (hz : L2N.Zn cls d oe) (hf : ∃ vs, oe.data = .fields vs) : L2H.HotC (X.suite a ((a, oe) :: pn)) := by
  obtain ⟨vs, e⟩ := hf
  exact ⟨(a, oe), ⟨rfl, vs, e, hz.2.2 vs e⟩, List.mem_cons_self⟩
theorem cr_anyH {X : Cx} {K : PySem.W.Frag} (hc : L2H.HotC X) (hK : X.K = K := by rfl) : CallR X (.builtin "any") (rAny K) := by
  subst hK
  intro pins s σ H vs us Q I r h
  obtain ⟨a, bs, rfl, hs, q⟩ := h
  obtain ⟨its, rv, hl, _⟩ := I.list hs
  obtain ⟨p, ⟨hh, v1, e1, c1⟩, hp⟩ := hc
  have hg := (I.pin p (List.mem_append_left _ hp)).1
  rw [Vals.ref1 r]
  have hb := rv.bls
  refine call_any_walk (iter_any hl.isList fun s₂ e2 st hne => ?_)
  subst e2
  have hp2 : p.1 ≠ s.heap.objs.size := Nat.ne_of_lt (Heap.lt_size hg)
  refine ⟨_, _, _, _, _, _, _, rfl, walks_list_hot (A := X.A.in1) hh e1 c1 _ a hne hp2 its.toArray, ⟨st.1, st.2, Heap.get?_push_of_some _ hg⟩, truth_bools hb, fun h' tk hk => ?_⟩
  refine ⟨.bl _, H, I.kept fun b o eo => hk b o (fun hmem => ?_) (Heap.get?_push_of_some _ eo), ?_, q⟩
  · rcases List.mem_cons.mp hmem with e1 | hmem
    · exact absurd (e1 ▸ Heap.lt_size eo) (Nat.lt_irrefl _)
    · cases hmem
  · show Value.bool _ = Value.bool _
    rw [← L2.any_range, hb, List.size_toArray, List.length_map]
/-- isinstance(e, c), e the error that the suite holds -/
def rIsX (K : PySem.W.Frag) (cls : Value) (d : Option Addr) (a : Addr) : List V → Hp → VK → Prop := fun xs H Q => ∃ (D : Addr) (c : V) (cv : Value) (b : Bool), cls = .ref D ∧ d = none ∧ ExcC K D ∧ xs = [.ref a, c] ∧ (∀ u, RelV c u → u = cv) ∧ PySem.W.kitOne K (.ref D) cv = some b ∧ Q (.bl b) H
theorem call_isX {X : Cx} {K : PySem.W.Frag} {cls : Value} {a : Addr} {oe : Obj} {pn : List (Addr × Obj)} {d : Option Addr} (hz : L2N.Zn cls d oe) (hf : ∃ vs, oe.data = .fields vs) (hK : X.K = K := by rfl) : CallR (X.suite a ((a, oe) :: pn)) (.builtin "isinstance") (rIsX K cls d a) := by
  subst hK
  intro pins s σ H xs us Q I r h
  obtain ⟨D, c, cv, b, rfl, rfl, C, rfl, hcv, hk, q⟩ := h
  exact call_isE C hz.zc hf pins s σ H _ us Q I r ⟨c, cv, b, rfl, hcv, hk, q⟩
theorem isX {K : PySem.W.Frag} {D C a : Addr} {b : Bool} {H : Hp} {Q : VK} (x : ExcC K D) (k : PySem.W.kitOne K (.ref D) (.ref C) = some b) (q : Q (.bl b) H) : rIsX K (.ref D) none a [.ref a, .ref C] H Q :=
  ⟨D, .ref C, .ref C, b, rfl, rfl, x, rfl, fun u h => h, k, q⟩
theorem isXT {K : PySem.W.Frag} {D a : Addr} {t : String} {b : Bool} {H : Hp} {Q : VK} (x : ExcC K D) (k : PySem.W.kitOne K (.ref D) (.type t) = some b) (q : Q (.bl b) H) : rIsX K (.ref D) none a [.ref a, .ty t] H Q :=
  ⟨D, .ty t, .type t, b, rfl, rfl, x, rfl, fun u h => h, k, q⟩
/-- an error's class, as clauses and isinstance name it -/
structure ErrC (K : PySem.W.Frag) (mg : Str → Option Value) (x : Str) (C : Addr) : Prop where
  g : mg x = some (.ref C)
  ic : PySem.W.isClsIn K C = true
  ty : PySem.W.typeIn K (.ref C) = some (.type "type")
  ss : PySem.W.subIn K (.ref C) (.ref C) = some true
  sb : PySem.W.subIn K (.ref C) (.type "BaseException") = some true
theorem ErrC.kit {K : PySem.W.Frag} {mg : Str → Option Value} {x : Str} {C D : Addr} {b : Bool} (c : ErrC K mg x C) (h : PySem.W.subIn K (.ref D) (.ref C) = some b) : PySem.W.kitOne K (.ref D) (.ref C) = some b := by
  have e2 : ((PySem.W.clsIn K C).isSome && PySem.W.typeIn K (.ref C) == some (.type "type")) = true := by
    have h2 : (PySem.W.clsIn K C).isSome = true := c.ic
    rw [h2, c.ty]
    rfl
  unfold PySem.W.kitOne
  split
  · rename_i e
    have e' : D = C := by simpa using e
    subst e'
    exact c.ss.symm.trans h
  · show (if ((PySem.W.clsIn K C).isSome && PySem.W.typeIn K (.ref C) == some (.type "type")) = true then PySem.W.subIn K (.ref D) (.ref C) else none) = some b
    rw [if_pos e2]
    exact h
theorem ErrC.exm {K : PySem.W.Frag} {mg : Str → Option Value} {x : Str} {C D : Addr} {b : Bool} (c : ErrC K mg x C) (h : PySem.W.subIn K (.ref D) (.ref C) = some b) : PySem.W.exmOne K (.ref D) (.ref C) = some b := by
  have e1 : (PySem.W.subIn K (.ref C) (.type "BaseException") == some true) = true := by rw [c.sb]; rfl
  have e2 : ((PySem.W.clsIn K C).isSome && PySem.W.typeIn K (.ref C) == some (.type "type")) = true := by
    have h2 : (PySem.W.clsIn K C).isSome = true := c.ic
    rw [h2, c.ty]
    rfl
  show (if (PySem.W.subIn K (.ref C) (.type "BaseException") == some true) = true then (if ((PySem.W.clsIn K C).isSome && PySem.W.typeIn K (.ref C) == some (.type "type")) = true then PySem.W.subIn K (.ref D) (.ref C) else none) else none) = some b
  rw [if_pos e1, if_pos e2]
  exact h
/-! readings -/
theorem rd_callS {K : PySem.W.Frag} {σ : L2.St} {H : Hp} {Q : VK} {sp : Sp} {E : L2.St → XK} {t : TA} : tCallS sp E t σ H Q = t σ H fun vs H1 => sp vs H1 Q (E σ) := rfl
theorem take_as {K : PySem.W.Frag} {c cls : Value} {i : Nat} {ts : Addr → Value → Option Addr → TS} {Wout : WX} {D : Ends} {d : Option Addr} {σ : L2.St} {H : Hp} (e : PySem.W.exmOne K cls c = some true)
    (k : ∀ a, H a = none → ts a cls d { nx := fun σ' H' => D.nx (σ'.set i none) H', rt := D.rt, bk := fun σ' H' => D.bk (σ'.set i none) H', ct := fun σ' H' => D.ct (σ'.set i none) H' } (σ.set i (some (.ref a))) H) : wAs K c i ts Wout D cls d σ H :=
  ⟨true, e, fun _ => k, fun z => Bool.noConfusion z⟩
end Sa
/-! C() of a class without an own __init__ -/
namespace Sa
open PySem PySem.Spec PyProof.Rows L2 Evl
structure Mk0 (K : PySem.W.Frag) (C : Addr) : Prop where
  makes : PySem.W.makesIn K C = true
  init : PySem.W.findIn K (.ref C) "__init__" = some (some (.builtin "object.__init__"))
  top : PySem.W.mroIn K C (.type "object") = some true
  kp : PySem.W.keepIn K (.ref C) = true
def tMade (C : Addr) : TE := fun _ H Q => ∀ x dx, H x = none → H dx = none → dx ≠ x → Q (.ref x) (upd (upd H dx (.own x)) x (.ins C dx []))
theorem pe_made {X : Cx} {C : Addr} {x : Str} {p pos : Pos} (M : Mk0 X.K C) (hg : Gl X x) (hm : X.mg x = some (.ref C)) (hdb : (x == ("__debug__" : Str)) = false := by decide) : PE X (.Call (.Name x p) [] [] pos) (tMade C) := by
  refine ⟨fun pins s σ H Q I h => ?_⟩
  refine wpAny_Call_Name_kw (ld_glob I hg hm ?_ hdb)
  refine PySem.W.callWith_K0 I.kIn M.kp ?_
  have hq := h (s.heap.objs.size + 1) s.heap.objs.size (I.hok.fresh (Nat.le_succ _)) (I.hok.fresh (Nat.le_refl _)) (Nat.ne_of_lt (Nat.lt_succ_self _))
  have I2 := Inv.made (C := C) I
  refine wpAny_call (make_map0 I.kIn M.makes M.init (fun self => PySem.W.Looks.of_pure (PySem.W.oi_bind self)) ?_)
  have ho : ((s.heap.push PySem.W.emptyDict).push (PySem.W.instObj C s.heap.objs.size)).get? (s.heap.objs.size + 1) = some (PySem.W.instObj C s.heap.objs.size) := by
    have e : s.heap.objs.size + 1 = (s.heap.push PySem.W.emptyDict).objs.size := by simp [Heap.push]
    rw [e]
    exact Heap.get?_push_size _ rfl
  have t1 := NwA.type_at (M := model X.prog X.w) ho (C := C) rfl
  have t2 : PySem.W.Looks (model X.prog X.w) ((s.heap.push PySem.W.emptyDict).push (PySem.W.instObj C s.heap.objs.size)) (isInstance (.ref (s.heap.objs.size + 1)) (.type "object")) true := t1.andThen (PySem.W.looks_mroIn I2.kIn M.top)
  refine codeAny_call_builtin PySem.W.oi_plain PySem.W.entry_oi (@PySem.W.check_slot (model X.prog X.w) _ _ _ "object.__init__" "object" "__init__" (.ref (s.heap.objs.size + 1)) [] [] _ PySem.W.oi_kind PySem.W.oi_split t2 (PySem.W.oi_args _) ?_)
  rw [PySem.W.oi_run]
  exact wpAny_pure ⟨rfl, V.ref (s.heap.objs.size + 1), _, I2, rfl, hq⟩
end Sa
/-! len(set(xs)) and sorted(set(xs)) of a list of ints; the lemma of the library over tuples turned to lists -/
namespace Sa
open PySem PySem.Spec PyProof.Rows L2 Evl
section
variable {P : Program} {w : World} {A : Around} {E : Value → Shared → Prop} {s : Shared}
set_option maxRecDepth 100000 in
set_option maxHeartbeats 3200000 in
theorem set_listI {l : Addr} {items : Array Value} (ns : List Int) {Q : Value → Shared → Prop} (hh : A.handled = none) (hl : s.heap.IsList l items) (hit : IntsAre items.toList ns) (hb : ns.length + 1 < scanBound)
    (h : ∀ (h' : Heap) (tk c : Nat), SetR w h' s.heap.objs.size (fun j => decide (j ∈ ns)) c → c ≤ ns.length → (∀ b o, s.heap.get? b = some o → h'.get? b = some o) → Q (.ref s.heap.objs.size) { s with heap := h', toks := tk }) :
    wpAny (model P w) A (call (.type "set") [.ref l]) Q E s := by
  have hisz : items.size = ns.length := by
    have q := IntsAre.length hit
    rw [Array.length_toList] at q
    exact q
  obtain ⟨c, tl, hmro⟩ := F.called_set.mro
  have hmade := F.called_set.made
  have hsub := F.called_set.sub
  refine wpAny_call (codeAny_of_tree ?_)
  show wpAny _ _ (callAny (.type "set") _) _ _ _
  refine wpAny_pure ⟨Code.quiet_builtin _ (by decide +kernel), codeAny_builtin F.entry_type_call ?_⟩
  rw [Around.under_plain (weight_type_call_type "set" [.ref l] []) rfl]
  have h1 := F.called_set.notType
  have h2 := F.called_set.canCreate
  have hct := F.typeCall_set_1 (.ref l)
  repeat (any_goals (first | assumption | wp_step))

  refine codeAny_mono (code_set_led1 (.ref l) (E := E) (Q₁ := fun obj s₁ => obj = .ref s.heap.objs.size ∧ s₁ = { s with heap := s.heap.push { cls := .type "set", dict := none, data := .set #[] 0 (.fresh 0 0 (!w.params.followText "set-order")) } }) ⟨rfl, rfl⟩) fun r s₁ hr => ?_
  cases r with
  | error e => exact hr
  | ok fl =>
    cases fl with
    | ret obj =>
      obtain ⟨rfl, rfl⟩ := hr
      have hS : (s.heap.push { cls := .type "set", dict := none, data := .set #[] 0 (.fresh 0 0 (!w.params.followText "set-order")) }).get? s.heap.objs.size = some { cls := .type "set", dict := none, data := .set #[] 0 (.fresh 0 0 (!w.params.followText "set-order")) } := Heap.get?_push_size _ rfl
      have hT : Shared.TypeIs { s with heap := s.heap.push { cls := .type "set", dict := none, data := .set #[] 0 (.fresh 0 0 (!w.params.followText "set-order")) } } (.ref s.heap.objs.size) "set" := ⟨_, hS, rfl⟩
      have hli := F.called_set.init.lookup
      have hbi := F.called_set.init.bind (.ref s.heap.objs.size)
      repeat (any_goals (first | assumption | wp_step))

      refine codeAny_mono (codeAny_call_builtin (R := wants (fun r s₂ => r = .none ∧ ∃ h' tk c, s₂ = { s with heap := h', toks := tk } ∧ SetR w h' s.heap.objs.size (fun j => decide (j ∈ ns)) c ∧ c ≤ ns.length ∧
          (∀ b o, s.heap.get? b = some o → h'.get? b = some o)) E) F.called_set.init.plain F.entry_set_init (check_set_init_1 hT ?_)) fun r₂ s₂ hr₂ => ?_
      · obtain ⟨ol, hol, hcl, nl, hdl⟩ := hl
        obtain ⟨ocls, odict, odata, oslots⟩ := ol
        simp only at hcl hdl
        subst hcl; subst hdl
        have hol' : (s.heap.push { cls := .type "set", dict := none, data := .set #[] 0 (.fresh 0 0 (!w.params.followText "set-order")) }).get? l = some { cls := .type "list", dict := odict, data := .seq items nl, slots := oslots } := Heap.get?_push_of_some _ hol
        have hsls := F.sub_list_set
        have hslf := F.sub_list_frozenset
        have hne : (Value.type "list" == Value.type "dict") = false := by decide
        have hl1 : (s.heap.push { cls := .type "set", dict := none, data := .set #[] 0 (.fresh 0 0 (!w.params.followText "set-order")) }).IsList l items := ⟨_, hol', rfl, nl, rfl⟩
        unfold Builtin.«set.__init__» noKeywords Builtin.Frozenset.updateFrom
        generalize hPI : pyIter = PI
        wp_walk
        subst hPI

        refine wpAny_pyIter_list hl1 ?_
        refine wpAny_bind (wpAny_runValue ?_)
        have hlS : l < s.heap.objs.size := Heap.lt_size hol
        have hh3 : A.in1.in1.in1.handled = none := by simp [hh]
        have hz1 : (s.heap.push { cls := .type "set", dict := none, data := .set #[] 0 (.fresh 0 0 (!w.params.followText "set-order")) }).objs.size = s.heap.objs.size + 1 := Heap.size_push ..
        have hneI : l ≠ (s.heap.push { cls := .type "set", dict := none, data := .set #[] 0 (.fresh 0 0 (!w.params.followText "set-order")) }).objs.size := by
          rw [Heap.size_push]; exact Nat.ne_of_lt (Nat.lt_succ_of_lt hlS)
        have hSf : s.heap.objs.size ∉ [(s.heap.push { cls := .type "set", dict := none, data := .set #[] 0 (.fresh 0 0 (!w.params.followText "set-order")) }).objs.size, l] := by
          rw [Heap.size_push]; simp only [List.mem_cons, List.mem_singleton, List.not_mem_nil, or_false, not_or]
          exact ⟨Nat.ne_of_lt (Nat.lt_succ_self _), Nat.ne_of_gt hlS⟩
        have hval : ∀ (i : Nat) (v : Value), items[i]? = some v → ∃ k t, ns[i]? = some k ∧ v = .int k t := fun i v hv => by
          have hi : i < ns.length := by rw [← hisz]; exact (Array.getElem?_eq_some_iff.mp hv).1
          obtain ⟨t, e⟩ := PyProof.Rows.IntsAre.int_at hit i v (by rw [Array.getElem?_toList]; exact hv)
          refine ⟨ns[i], t, List.getElem?_eq_getElem hi, ?_⟩
          rw [e, List.getD_eq_getElem?_getD, List.getElem?_eq_getElem hi] <;> rfl
        refine set_update_ints ((Walks.list hh3 _ l hneI items).toS) s.heap.objs.size
          hSf ns hisz hb hval (items.size - 0) 0 _ (by omega) (Nat.zero_le _)
          ⟨⟨_, Heap.get?_push_size _ rfl, rfl, rfl⟩, (hl1.push _)⟩ ?hS0 ?hR
        case hS0 =>
          have hget : ((s.heap.push { cls := .type "set", dict := none, data := .set #[] 0 (.fresh 0 0 (!w.params.followText "set-order")) }).push { cls := .type "list_iterator", data := .fields #[.ref l, .int 0 0] }).get? s.heap.objs.size
              = some { cls := .type "set", dict := none, data := .set #[] 0 (.fresh 0 0 (!w.params.followText "set-order")) } := Heap.get?_push_of_some _ hS
          exact ⟨0, Nat.le_refl 0, setR_new_at hget⟩
        case hR =>
          intro s' c' hm hc' hS'
          obtain ⟨h', g2, d', tk', os'⟩ := s'
          have eg : g2 = s.gens := hm.gens
          have ed : d' = s.drawn := hm.drawn
          have eo : os' = s.os := hm.os
          subst eg; subst ed; subst eo
          show wpAny _ _ _ _ _ _
          refine wpAny_pure ?_
          show wpAny _ _ (ret Value.none) _ _ _
          rw [hisz] at hc'
          refine wpAny_pure ⟨rfl, h', tk', c', rfl, hS', hc', fun b o e => ?_⟩
          have hb0 : b < s.heap.objs.size := Heap.lt_size e
          have hb1 : b ≠ s.heap.objs.size := Nat.ne_of_lt hb0
          have hb2 : b ≠ (s.heap.push { cls := .type "set", dict := none, data := .set #[] 0 (.fresh 0 0 (!w.params.followText "set-order")) }).objs.size := by
            rw [Heap.size_push]; exact Nat.ne_of_lt (Nat.lt_succ_of_lt hb0)
          exact hm.heap b o (by simp only [List.mem_cons, List.mem_singleton, List.not_mem_nil, or_false, not_or]; exact ⟨hb1, hb2⟩) (Heap.get?_push_of_some _ (Heap.get?_push_of_some _ e))

      · cases r₂ with
        | error e => exact hr₂
        | ok fl₂ =>
          cases fl₂ with
          | ret r =>
            obtain ⟨rfl, h', tk, c', rfl, hS', hc', hk'⟩ := hr₂
            repeat (any_goals (first | assumption | wp_step))
            exact h _ _ _ hS' hc' hk'
          | _ => exact hr₂.elim
    | _ => exact hr.elim

end
end Sa
namespace Sa
open PySem PySem.Spec PyProof.Rows L2 Evl
section
variable {X : Cx} {K : PySem.W.Frag} {a : Expr} {ta : TE} {p p2 q pos : Pos}
def dedup (ns : List Int) : List Int := firstMet (fun i => ns.getD i 0) ns.length
def tLenSetL (K : PySem.W.Frag) (ta : TE) : TE := fun σ H Q => ta σ H fun x H1 => ∃ (l : Addr) (ns : List Int), x = .ref l ∧ SqL K H1 l (ns.map V.int) ∧ ns.length ≤ 4000 ∧ Q (.int ((dedup ns).length : Nat)) H1
theorem pe_lenSet (hg : Gl X "len") (hm : X.mg "len" = none) (hg2 : Gl X "set") (hm2 : X.mg "set" = none) (ha : PE X a ta) (hc : X.calm = true := by rfl) (hK : X.K = K := by rfl)
    (na : starEach [a] X.env = (false, eval a X.env) :: starEach [] X.env := by rfl) : PE X (.Call (.Name "len" p) [.Call (.Name "set" p2) [a] [] q] [] pos) (tLenSetL K ta) := by
  subst hK
  refine ⟨fun pins s σ H Q I h => ?_⟩
  refine Call_ (ld_blt I hg hm boot_len ?_)
  refine PyProof.Rows.callWith_builtin1 (PyProof.Rows.args_cons ?_ rfl) rfl rfl
  refine Call_ (ld_blt I hg2 hm2 boot_set ?_)
  refine PyProof.Rows.callWith_type1 (PyProof.Rows.args_cons (thn (ha.run pins s σ H _ I h) fun v s1 ⟨x, H1, I1, r1, q1⟩ => PyProof.Rows.args_nil ?_) na) na rfl
  obtain ⟨l, ns, rfl, hq, hl, q1⟩ := q1
  cases r1
  obtain ⟨its, r, pl, hz⟩ := I1.list hq
  have hlen : its.toArray.size = ns.length := by rw [List.size_toArray, ← r.length, List.length_map]
  refine call_set_list (I1.ok.hd hc) pl.isList (by simpa using RZ.intsAre_vals r) (by rw [hlen]; unfold scanBound; omega) fun h' tk hS hk => ?_
  refine PyProof.Rows.args_nil ?_
  rw [hlen] at hS
  obtain ⟨o, es, ep, t, ho, hex, hd, _, _, _, hf, hn⟩ := hS
  have I2 : Inv X pins σ H1 { s1 with heap := h', toks := tk } := I1.kept fun b o e => hk b o (Heap.lt_size e) e
  have hle := firstMet_length_le (fun i => ns.getD i 0) ns.length
  exact call_len_set ho hex hd hf (by rw [hn] <;> omega) ⟨.int ((dedup ns).length : Nat), H1, I2.tok _, ⟨_, by rw [hn]; rfl⟩, q1⟩
def tSortSetL (K : PySem.W.Frag) (ta : TE) : TE := fun σ H Q => ta σ H fun x H1 => ∃ (l : Addr) (ns : List Int), x = .ref l ∧ SqL K H1 l (ns.map V.int) ∧ ns.length ≤ 63 ∧
  ∀ (ms : List Int) (b : Addr), ms.Pairwise (· < ·) → (∀ k : Int, k ∈ ms ↔ k ∈ ns) → ms.length ≤ ns.length → H1 b = none → Q (.ref b) (upd H1 b (.lst (ms.map V.int)))
theorem pe_sortSet (hg : Gl X "sorted") (hm : X.mg "sorted" = none) (hg2 : Gl X "set") (hm2 : X.mg "set" = none) (ha : PE X a ta) (hc : X.calm = true := by rfl) (hK : X.K = K := by rfl)
    (na : starEach [a] X.env = (false, eval a X.env) :: starEach [] X.env := by rfl) : PE X (.Call (.Name "sorted" p) [.Call (.Name "set" p2) [a] [] q] [] pos) (tSortSetL K ta) := by
  subst hK
  refine ⟨fun pins s σ H Q I h => ?_⟩
  refine Call_ (ld_blt I hg hm (show bootBuiltins "sorted" = some (.builtin "sorted") by decide +kernel) ?_)
  refine PyProof.Rows.callWith_builtin1 (PyProof.Rows.args_cons ?_ rfl) rfl rfl
  refine Call_ (ld_blt I hg2 hm2 boot_set ?_)
  refine PyProof.Rows.callWith_type1 (PyProof.Rows.args_cons (thn (ha.run pins s σ H _ I h) fun v s1 ⟨x, H1, I1, r1, q1⟩ => PyProof.Rows.args_nil ?_) na) na rfl
  obtain ⟨l, ns, rfl, hq, hl, q1⟩ := q1
  cases r1
  obtain ⟨its, r, pl, hz⟩ := I1.list hq
  refine set_listI (w := X.w) ns (I1.ok.hd hc) pl.isList (by simpa using RZ.intsAre_vals r) (by unfold scanBound; omega) fun h' tk c hS hc2 hk => ?_
  refine PyProof.Rows.args_nil ?_
  have I2 : Inv X pins σ H1 { s1 with heap := h', toks := tk } := I1.kept fun b o e => hk b o e
  refine sorted_set (s := { s1 with heap := h', toks := tk }) hS (I1.ok.hd hc) (by omega) fun s' p' out c' ms k g o hp hg' hi hs hm' hl' => ?_
  have hlen : (ms.map V.int).length ≤ sizeLine := by rw [List.length_map, hl', sizeLine_eq]; omega
  have hn : H1 p' = none := I2.hok.fresh hp
  have J : Inv X pins σ (upd H1 p' (.lst (ms.map V.int))) { ({ s1 with heap := h', toks := tk } : Shared) with heap := s'.heap, gens := s'.gens, drawn := s'.drawn, toks := s'.toks } :=
    I2.call (ch := []) (Un.laid k hp hn) (I2.hok.laid k hp ⟨hlen, out.toList, c', vals_of_ints hi, hg'⟩) (by rw [g]; exact I2.bare) (fun _ z => nomatch z)
  have e : s' = { ({ s1 with heap := h', toks := tk } : Shared) with heap := s'.heap, gens := s'.gens, drawn := s'.drawn, toks := s'.toks } := by
    cases s'
    cases s1
    cases o
    rfl
  rw [e]
  exact ⟨.ref p', _, J, rfl, q1 ms p' hs (fun k => by rw [hm' k, decide_eq_true_eq]) (by omega) hn⟩
end
end Sa
/-! sums of pairs, lists of which no two pairs have the same sum -/
namespace SD
def ix (ms : List Int) (i : Nat) : Int := ms.getD i 0
def prs : Nat → List (Nat × Nat)
  | 0 => []
  | n + 1 => prs n ++ (List.range (n + 1)).map fun i => (i, n)
def sm (ms : List Int) (x : Nat × Nat) : Int := ix ms x.1 + ix ms x.2
def sums (ms : List Int) : List Int := (prs ms.length).map (sm ms)
def Sid (ms : List Int) : Prop := ∀ x ∈ prs ms.length, ∀ y ∈ prs ms.length, sm ms x = sm ms y → x = y
instance (ms : List Int) : Decidable (Sid ms) := by unfold Sid; infer_instance
theorem mem_prs : ∀ {n : Nat} {x : Nat × Nat}, x ∈ prs n ↔ x.1 ≤ x.2 ∧ x.2 < n
  | 0, x => by simp [prs]
  | n + 1, (a, b) => by
    simp only [prs, List.mem_append, mem_prs (n := n), List.mem_map, List.mem_range, Prod.mk.injEq]
    constructor
    · rintro (⟨h1, h2⟩ | ⟨i, h1, rfl, rfl⟩)
      · exact ⟨h1, by omega⟩
      · exact ⟨by omega, by omega⟩
    · rintro ⟨h1, h2⟩
      by_cases e : b = n
      · exact .inr ⟨a, by omega, rfl, e.symm⟩
      · exact .inl ⟨h1, by omega⟩
theorem nodup_prs : ∀ n : Nat, (prs n).Nodup
  | 0 => List.nodup_nil
  | n + 1 => by
    have ih := nodup_prs n
    show (prs n ++ (List.range (n + 1)).map fun i => (i, n)).Nodup
    rw [List.nodup_append]
    refine ⟨ih, ?_, ?_⟩
    · show List.Pairwise _ _
      rw [List.pairwise_map]
      have := List.nodup_range (n := n + 1)
      exact List.Pairwise.imp (fun {a b} h e => h (Prod.mk.inj e).1) this
    · intro a ha b hb e
      subst e
      have h1 := mem_prs.mp ha
      obtain ⟨i, _, rfl⟩ := List.mem_map.mp hb
      exact absurd h1.2 (Nat.lt_irrefl _)
theorem nodup_map {α β : Type} (f : α → β) : ∀ {l : List α}, l.Nodup → ((l.map f).Nodup ↔ ∀ x ∈ l, ∀ y ∈ l, f x = f y → x = y)
  | [], _ => by simp
  | a :: l, h => by
    obtain ⟨h1, h2⟩ := List.nodup_cons.mp h
    rw [List.map_cons, List.nodup_cons, nodup_map f h2]
    constructor
    · rintro ⟨n1, n2⟩ x hx y hy e
      rcases List.mem_cons.mp hx with ex | hx2 <;> rcases List.mem_cons.mp hy with ey | hy2
      · rw [ex, ey]
      · exact absurd (List.mem_map.mpr ⟨y, hy2, by rw [← ex]; exact e.symm⟩) n1
      · exact absurd (List.mem_map.mpr ⟨x, hx2, by rw [← ey]; exact e⟩) n1
      · exact n2 x hx2 y hy2 e
    · intro k
      refine ⟨fun z => ?_, fun x hx y hy => k x (List.mem_cons_of_mem _ hx) y (List.mem_cons_of_mem _ hy)⟩
      obtain ⟨y, hy, e⟩ := List.mem_map.mp z
      have := k y (List.mem_cons_of_mem _ hy) a List.mem_cons_self e
      exact h1 (this ▸ hy)
theorem nodup_sums {ms : List Int} : (sums ms).Nodup ↔ Sid ms := nodup_map _ (nodup_prs _)
theorem length_prs_le : ∀ n : Nat, (prs n).length ≤ n * n
  | 0 => Nat.le_refl _
  | n + 1 => by
    have := length_prs_le n
    show (prs n ++ (List.range (n + 1)).map fun i => (i, n)).length ≤ _
    rw [List.length_append, List.length_map, List.length_range, Nat.mul_add, Nat.add_mul]
    omega
/-- two unlike pairs with one sum -/
def Two (ms : List Int) (a b c d : Int) : Prop := 0 ≤ a ∧ a ≤ b ∧ b < ms.length ∧ 0 ≤ c ∧ c ≤ d ∧ d < ms.length ∧ ¬ (a = c ∧ b = d) ∧ ix ms a.toNat + ix ms b.toNat = ix ms c.toNat + ix ms d.toNat
theorem Two.not_sid {ms : List Int} {a b c d : Int} (h : Two ms a b c d) : ¬ Sid ms := fun s => by
  obtain ⟨a0, ab, bn, c0, cd, dn, ne, e⟩ := h
  have := s (a.toNat, b.toNat) (mem_prs.mpr ⟨by show a.toNat ≤ b.toNat; omega, by show b.toNat < _; omega⟩) (c.toNat, d.toNat) (mem_prs.mpr ⟨by show c.toNat ≤ d.toNat; omega, by show d.toNat < _; omega⟩) e
  obtain ⟨h1, h2⟩ := Prod.mk.inj this
  exact ne ⟨by omega, by omega⟩
/-- of a part of a list -/
theorem Sid.of_map {ms ns : List Int} (f : Nat → Nat) (hf : ∀ i, i < ns.length → f i < ms.length ∧ ix ns i = ix ms (f i)) (mono : ∀ i j, i < j → j < ns.length → f i < f j) (h : Sid ms) : Sid ns := fun x hx y hy e => by
  have h1 := mem_prs.mp hx
  have h2 := mem_prs.mp hy
  have le : ∀ i j, i ≤ j → j < ns.length → f i ≤ f j := fun i j l m => by
    rcases Nat.lt_or_ge i j with h | h
    · exact Nat.le_of_lt (mono i j h m)
    · have : i = j := by omega
      rw [this]
      exact Nat.le_refl _
  have inj : ∀ i j, i < ns.length → j < ns.length → f i = f j → i = j := fun i j l m q => by
    rcases Nat.lt_trichotomy i j with h | h | h
    · have := mono i j h m
      omega
    · exact h
    · have := mono j i h l
      omega
  have k := h (f x.1, f x.2) (mem_prs.mpr ⟨le _ _ h1.1 h1.2, (hf _ h1.2).1⟩) (f y.1, f y.2) (mem_prs.mpr ⟨le _ _ h2.1 h2.2, (hf _ h2.2).1⟩) (by
    show ix ms (f x.1) + ix ms (f x.2) = ix ms (f y.1) + ix ms (f y.2)
    rw [← (hf _ h1.2).2, ← (hf x.1 (by omega)).2, ← (hf _ h2.2).2, ← (hf y.1 (by omega)).2]
    exact e)
  obtain ⟨k1, k2⟩ := Prod.mk.inj k
  exact Prod.ext (inj _ _ (by omega) (by omega) k1) (inj _ _ h1.2 h2.2 k2)
end SD
namespace Sa
open PySem PySem.Spec PyProof.Rows L2 Evl
theorem firstMet_full {val : Nat → Int} : ∀ i : Nat, (firstMet val i).length = i → firstMet val i = (List.range i).map val ∧ (firstMet val i).Nodup
  | 0, _ => ⟨rfl, List.nodup_nil⟩
  | i + 1, h => by
    have hle := firstMet_length_le val i
    rw [firstMet_succ] at h ⊢
    unfold step_dedup at h ⊢
    split at h
    · omega
    · rename_i hn
      rw [List.length_append, List.length_singleton] at h
      obtain ⟨e, nd⟩ := firstMet_full (val := val) i (by omega)
      rw [if_neg hn]
      refine ⟨by rw [e, List.range_succ, List.map_append]; rfl, ?_⟩
      rw [List.nodup_append]
      refine ⟨nd, List.nodup_cons.mpr ⟨List.not_mem_nil, List.nodup_nil⟩, fun a ha b hb e2 => ?_⟩
      rw [List.mem_singleton] at hb
      subst e2
      subst hb
      exact hn (List.any_eq_true.mpr ⟨_, ha, by simp⟩)
theorem dedup_len {ns : List Int} : (dedup ns).length = ns.length ↔ ns.Nodup := by
  have e0 : (List.range ns.length).map (fun i => ns.getD i 0) = ns := List.ext_getElem (by simp) fun i h1 h2 => by simp [h2]
  constructor
  · intro h
    obtain ⟨e, nd⟩ := firstMet_full ns.length h
    rw [e, e0] at nd
    exact nd
  · intro h
    unfold dedup
    rw [RZ.firstMet_nodup h ns.length (Nat.le_refl _), List.take_length]
def tAlt (t u : TE) : TE := fun σ H Q => t σ H Q ∨ u σ H Q
theorem rd_alt {t u : TE} {σ : L2.St} {H : Hp} {Q : VK} : tAlt t u σ H Q = (t σ H Q ∨ u σ H Q) := rfl
theorem pe_alt {X : Cx} {e : Expr} {t u : TE} (h : PE X e t) (g : PE X e u) : PE X e (tAlt t u) := ⟨fun pins s σ H Q I q => q.elim (h.run pins s σ H Q I) (g.run pins s σ H Q I)⟩
/-- an own class of the program -/
structure ClsX (K : PySem.W.Frag) (mg : Str → Option Value) (x : Str) (C : Addr) : Prop where
  g : mg x = some (.ref C)
  cl : Cls K C
  ha : PySem.W.findIn K (.ref C) "__class__" = some (some (.builtin "object.__class__"))
  hn : PySem.W.specialIn K (.builtin "object.__class__") "__get__" = some (some (.builtin "getset_descriptor.__get__"))
  ht : PySem.W.takesIn K (.builtin "object.__class__") = some true
  hm : PySem.W.mroIn K C (.type "object") = some true
  ic : PySem.W.isClsIn K C = true
  ty : PySem.W.typeIn K (.ref C) = some (.type "type")
  ss : PySem.W.subIn K (.ref C) (.ref C) = some true
theorem ClsX.tyx {K : PySem.W.Frag} {mg : Str → Option Value} {x : Str} {C : Addr} (c : ClsX K mg x C) {H : Hp} {a dx : Addr} {fs : List (Str × V)} (e : H a = some (.ins C dx fs)) : TyX K H (.ref a) (.ref C) := .base (.ins e c.cl c.ha c.hn c.ht c.hm)
theorem ClsX.kit {K : PySem.W.Frag} {mg : Str → Option Value} {x : Str} {C D : Addr} {b : Bool} (c : ClsX K mg x C) (h : PySem.W.subIn K (.ref D) (.ref C) = some b) : PySem.W.kitOne K (.ref D) (.ref C) = some b := by
  have e2 : ((PySem.W.clsIn K C).isSome && PySem.W.typeIn K (.ref C) == some (.type "type")) = true := by
    have h2 : (PySem.W.clsIn K C).isSome = true := c.ic
    rw [h2, c.ty]
    rfl
  unfold PySem.W.kitOne
  split
  · rename_i e
    have e' : D = C := by simpa using e
    subst e'
    exact c.ss.symm.trans h
  · show (if ((PySem.W.clsIn K C).isSome && PySem.W.typeIn K (.ref C) == some (.type "type")) = true then PySem.W.subIn K (.ref D) (.ref C) else none) = some b
    rw [if_pos e2]
    exact h
/-- a method -/
structure MethAt (K : PySem.W.Frag) (C : Addr) (m qual : Str) (st : Stmt) (ps : List Str) (f : Addr) (fd : FuncData) : Prop where
  F : Fun K m qual st f fd
  b : Binds K fd ps []
  m : Meth K C m f
theorem ixT {K : PySem.W.Frag} {H : Hp} {Q : VK} {p : Addr} {xs : List V} {i : Int} {v : V} (s : SqT K H p xs) (e : atI xs i = some v) (q : Q v H) : rIxT K (.ref p) (.int i) H Q := ⟨_, _, _, _, rfl, rfl, s, e, q⟩
theorem ixL {K : PySem.W.Frag} {H : Hp} {Q : VK} {p : Addr} {xs : List V} {i : Int} {v : V} (s : SqL K H p xs) (e : atI xs i = some v) (q : Q v H) : rIxL K (.ref p) (.int i) H Q := ⟨_, _, _, _, rfl, rfl, s, e, q⟩
theorem rd_fld {K : PySem.W.Frag} {ta : TE} {f : Str} {σ : L2.St} {H : Hp} {Q : VK} : tFld K ta f σ H Q = ta σ H fun x H1 => ∃ a C dx fs v, x = .ref a ∧ H1 a = some (.ins C dx fs) ∧ Cls K C ∧ NoAttr K C f ∧ fs.lookup f = some v ∧ Q v H1 := rfl
theorem rd_sfld {K : PySem.W.Frag} {ta tv : TE} {f : Str} {D : Ends} {σ : L2.St} {H : Hp} : sFld K ta tv f D σ H = tv σ H fun y H1 => ta σ H1 fun x H2 => ∃ a C dx fs, x = .ref a ∧ H2 a = some (.ins C dx fs) ∧ Cls K C ∧ NoAttr K C f ∧ fs.length < 1000 ∧ D.nx σ (upd H2 a (.ins C dx (putF f y fs))) := rfl
theorem rd_meth {C : Addr} {m : Str} {sp : Sp} {dvs : List V} {E : XK} {ta : TE} {t : TA} {σ : L2.St} {H : Hp} {Q : VK} : tMeth C m sp dvs E ta t σ H Q = ta σ H fun x H1 => ∃ a dx fs, x = .ref a ∧ H1 a = some (.ins C dx fs) ∧ fs.lookup m = none ∧ t σ H1 fun vs H2 => sp (x :: (vs ++ dvs)) H2 Q E := rfl
theorem rd_make {C : Addr} {sp : Sp} {dvs : List V} {E : XK} {t : TA} {σ : L2.St} {H : Hp} {Q : VK} : tMake C sp dvs E t σ H Q = t σ H fun vs H1 => ∀ x dx, H1 x = none → H1 dx = none → dx ≠ x → sp (.ref x :: (vs ++ dvs)) (upd (upd H1 dx (.own x)) x (.ins C dx [])) (fun v H2 => v = .non ∧ Q (.ref x) H2) E := rfl
theorem rd_made {C : Addr} {σ : L2.St} {H : Hp} {Q : VK} : tMade C σ H Q = ∀ x dx, H x = none → H dx = none → dx ≠ x → Q (.ref x) (upd (upd H dx (.own x)) x (.ins C dx [])) := rfl
theorem rd_lenSet {K : PySem.W.Frag} {ta : TE} {σ : L2.St} {H : Hp} {Q : VK} : tLenSetL K ta σ H Q = ta σ H fun x H1 => ∃ (l : Addr) (ns : List Int), x = .ref l ∧ SqL K H1 l (ns.map V.int) ∧ ns.length ≤ 4000 ∧ Q (.int ((dedup ns).length : Nat)) H1 := rfl
theorem rd_bm {K : PySem.W.Frag} {T : String} {r : V → List V → Hp → VK → Prop} {to : TE} {t : TA} {σ : L2.St} {H : Hp} {Q : VK} : tBM K T r to t σ H Q = to σ H fun x H1 => tyV K T x H1 ∧ t σ H1 fun xs H2 => r x xs H2 Q := rfl
theorem ty_list {K : PySem.W.Frag} {H : Hp} {a : Addr} {xs : List V} (h : SqL K H a xs) : tyV K "list" (.ref a) H := .inl ⟨rfl, _, h⟩
theorem pi_enumk {X : Cx} {K : PySem.W.Frag} {e : Expr} {ta : TA} {p pos tpos : Pos} {elts : List Expr} {kk : Nat} (hg : Gl X "enumerate") (hm : X.mg "enumerate" = none) (ha : PA X [e] ta) (hK : X.K = K := by rfl) (hs : starEach [e] X.env = [(false, eval e X.env)] := by rfl) :
    PI X (.Tuple elts kk tpos) (.Call (.Name "enumerate" p) [e] [] pos) (iEnum K ta) := by
  subst hK
  exact pi_enum hg hm ha hs
theorem rd_forE {K : PySem.W.Frag} {ta : TA} {g : TG} {t : TS} {D : Ends} {σ : L2.St} {H : Hp} : tFor (iEnum K ta) g t D σ H = ta σ H fun vs H1 => ∃ a xs, vs = [.ref a] ∧ SqL K H1 a xs ∧ forIt (Ite K a) g t D σ H1 := rfl
theorem for_enum {K : PySem.W.Frag} {a : Addr} {xs : List V} {g : TG} {tb : TS} {D : Ends} {σ : L2.St} {H : Hp} (Pv : Nat → L2.St → Hp → Prop) (h0 : Pv 0 σ H) (hl : ∀ i σ H, i ≤ xs.length → Pv i σ H → SqL K H a xs)
    (hs : ∀ i x T σ H, xs[i]? = some x → Pv i σ H → H T = none → g (.ref T) σ (upd H T (.tup [.int (i : Nat), x])) fun σ2 H2 => tb { D with nx := Pv (i + 1), ct := Pv (i + 1), bk := D.nx } σ2 H2) (hd : ∀ σ H, Pv xs.length σ H → D.nx σ H) : forIt (Ite K a) g tb D σ H := by
  refine ⟨fun i m σ H => m = xs.length - i ∧ i ≤ xs.length ∧ Pv i σ H, ⟨xs.length, by simp, Nat.zero_le _, h0⟩, ?_⟩
  rintro i m σ H ⟨rfl, hi, p⟩
  have q := hl i σ H hi p
  by_cases hlt : i < xs.length
  · refine .inr ⟨⟨xs, xs[i], q, by simp [hlt]⟩, Pv (i + 1), fun σ' H' p' => ⟨xs.length - (i + 1), by omega, rfl, hlt, p'⟩, fun v H' y => ?_⟩
    obtain ⟨T, x, rfl, nT, rfl, hx⟩ := y
    exact hs i x T σ H (hx xs q) p nT
  · have : i = xs.length := by omega
    subst this
    exact .inl ⟨⟨xs, q, Nat.le_refl _⟩, hd σ H p⟩
theorem pe_chain3 {X : Cx} {a b c d : Expr} {ta tb tc td : TE} {pos : Pos} {op op' op'' : CmpOp} {r r' r'' : R2} (ho : OpR X (compareOp op) r) (ho' : OpR X (compareOp op') r') (ho'' : OpR X (compareOp op'') r'') (ha : PE X a ta) (hb : PE X b tb) (hc : PE X c tc) (hd : PE X d td)
    (hm : lastMarks [op, op', op''] [b, c, d] = false := by with_unfolding_all rfl) : PE X (.Compare a [op, op', op''] [b, c, d] pos) (tChain3 r r' r'' ta tb tc td) := by
  refine ⟨fun pins s σ H Q I h => ?_⟩
  refine Compare_chain (thn (ha.run pins s σ H _ I h) fun v s1 ⟨x, H1, I1, r1, q1⟩ => chain_link (thn (hb.run pins s1 σ H1 _ I1 q1) fun u s2 ⟨y, H2, I2, r2, q2⟩ =>
    thn (ho pins s2 σ H2 x y v u _ I2 r1 r2 q2) fun d s3 ⟨z, H3, I3, r3, k, e, q3⟩ => ?_)) hm
  subst e
  cases r3
  refine wpAny_truthy_bool ?_
  cases k with
  | false => exact ite_ff ⟨.bl false, H3, I3, rfl, q3⟩
  | true =>
    refine ite_tt (chain_link (thn (hc.run pins s3 σ H3 _ I3 q3) fun w' s4 ⟨z', H4, I4, r4, q4⟩ => thn (ho' pins s4 σ H4 y z' u w' _ I4 r2 r4 q4) fun d' s5 ⟨z2, H5, I5, r5, k2, e2, q5⟩ => ?_))
    subst e2
    cases r5
    refine wpAny_truthy_bool ?_
    cases k2 with
    | false => exact ite_ff ⟨.bl false, H5, I5, rfl, q5⟩
    | true => exact ite_tt (chain_last (thn (hd.run pins s5 σ H5 _ I5 q5) fun w'' s6 ⟨z3, H6, I6, r6, q6⟩ => ho'' pins s6 σ H6 z' z3 w' w'' Q I6 r4 r6 q6))
end Sa
namespace Sa
open PySem PySem.Spec PyProof.Rows L2 Evl
section
variable {P : Program} {w : World} {K : PySem.W.Frag} {mg : Str → Option Value} {base : Heap}
/-! ### what the functions give, in plain words -/

def trial (n : Int) : Nat → Int → Bool
  | 0, _ => true
  | k + 1, d => if d * d ≤ n then (if n % d = 0 then false else trial n k (d + 1)) else true
def isP (n : Int) : Bool := decide (1 < n) && trial n 1000 2
theorem trial_iff (n : Int) (h0 : n ≤ 1000000) : ∀ (k : Nat) (d : Int), 2 ≤ d → 1002 ≤ d + (k : Int) → (trial n k d = true ↔ ∀ e : Int, d ≤ e → e * e ≤ n → ¬ e ∣ n)
  | 0, d, h2, hk => by
    refine ⟨fun _ e he hl => ?_, fun _ => rfl⟩
    have : 1002 * 1002 ≤ e * e := Int.mul_le_mul (by omega) (by omega) (by omega) (by omega)
    omega
  | k + 1, d, h2, hk => by
    have ih := trial_iff n h0 k (d + 1) (by omega) (by omega)
    unfold trial
    by_cases hd : d * d ≤ n
    · rw [if_pos hd]
      by_cases hm : n % d = 0
      · rw [if_pos hm]
        exact ⟨fun z => Bool.noConfusion z, fun h => absurd (Int.dvd_of_emod_eq_zero hm) (h d (Int.le_refl _) hd)⟩
      · rw [if_neg hm, ih]
        refine ⟨fun h e he hl => ?_, fun h e he hl => h e (by omega) hl⟩
        by_cases ee : e = d
        · subst ee
          exact fun z => hm (Int.emod_eq_zero_of_dvd z)
        · exact h e (by omega) hl
    · rw [if_neg hd]
      refine ⟨fun _ e he hl => ?_, fun _ => rfl⟩
      have : d * d ≤ e * e := Int.mul_le_mul he he (by omega) (by omega)
      omega
theorem isP_iff {n : Int} (h : n ≤ 1000000) : isP n = true ↔ NT.Pr n := by
  unfold isP NT.Pr
  rw [Bool.and_eq_true, decide_eq_true_eq, trial_iff n h 1000 2 (by omega) (by omega)]
  exact ⟨fun ⟨a, b⟩ => ⟨by omega, b⟩, fun ⟨a, b⟩ => ⟨by omega, b⟩⟩
/-- the sorts of things handed in -/
def tys : List String := ["NoneType", "bool", "int", "str", "list", "tuple", "dict"]
theorem isi_int {t : String} (h : t ∈ tys) : kitB t "int" = some (t == "int" || t == "bool") := by
  simp only [tys, List.mem_cons, List.not_mem_nil, or_false] at h
  rcases h with rfl | rfl | rfl | rfl | rfl | rfl | rfl <;> decide +kernel
theorem isi_bool {t : String} (h : t ∈ tys) : kitB t "bool" = some (t == "bool") := by
  simp only [tys, List.mem_cons, List.not_mem_nil, or_false] at h
  rcases h with rfl | rfl | rfl | rfl | rfl | rfl | rfl <;> decide +kernel
theorem ty_num {t : String} (h : t ∈ tys) : ((t == "int" || t == "bool") && !(t == "bool")) = (t == "int") := by
  simp only [tys, List.mem_cons, List.not_mem_nil, or_false] at h
  rcases h with rfl | rfl | rfl | rfl | rfl | rfl | rfl <;> decide
theorem tyx_int {K : PySem.W.Frag} {H : Hp} {v : V} (h : TyX K H v (.type "int")) : ∃ i, v = .int i := by
  generalize e : (Value.type "int") = t at h
  cases h with
  | base b => cases b <;> first | exact ⟨_, rfl⟩ | (exfalso; revert e; simp)
  | _ => exfalso; revert e; simp
def okP : V → Bool
  | .int p => decide (3 ≤ p) && (decide (p ≤ 1000000) && isP p)
  | _ => false
/-- the built-in names as they are -/
structure Blt (mg : Str → Option Value) : Prop where
  b_len : mg "len" = none
  b_isinstance : mg "isinstance" = none
  b_int : mg "int" = none
  b_bool : mg "bool" = none
  b_list : mg "list" = none
  b_tuple : mg "tuple" = none
  b_str : mg "str" = none
  b_range : mg "range" = none
  b_sum : mg "sum" = none
  b_min : mg "min" = none
  b_max : mg "max" = none
  b_any : mg "any" = none
  b_all : mg "all" = none
  b_sorted : mg "sorted" = none
  b_set : mg "set" = none
  b_enumerate : mg "enumerate" = none
  b_abs : mg "abs" = none
/-- a class of errors -/
structure ErrAt (K : PySem.W.Frag) (mg : Str → Option Value) (x : Str) (C : Addr) : Prop where
  g : mg x = some (.ref C)
  x : PySem.W.excIn K C [.type "ValueError", .type "Exception", .type "BaseException", .type "object"] "ValueError.__new__" = true
  kp : PySem.W.keepIn K (.ref C) = true
  sb : PySem.W.subIn K (.ref C) (.type "BaseException") = some true
  ty : PySem.W.typeIn K (.ref C) = some (.type "type")

/-! ### is_number -/
def spIsNum (K : PySem.W.Frag) : Sp := fun vs H Q _ => ∃ (v : V) (t : String), vs = [v] ∧ TyX K H v (.type t) ∧ t ∈ tys ∧ Q (.bl (t == "int")) H
theorem isNum_int {H : Hp} {Q : VK} {E : XK} {i : Int} (q : Q (.bl true) H) : spIsNum K [.int i] H Q E := ⟨_, "int", rfl, .base (.int i), by decide, q⟩
/-! ### is_prime -/
def spIsPrime : Sp := fun vs H Q _ => ∃ n : Int, vs = [.int n] ∧ n ≤ 1000000 ∧ Q (.bl (isP n)) H
theorem is_prime_loop {n : Int} (hn : n ≤ 1000000) {d : Int} (h2 : 2 ≤ d) (h : ∀ e, 2 ≤ e → e < d → ¬ e ∣ n) :
    (d * d ≤ n → n % d = 0 → isP n = false) ∧ (¬ d * d ≤ n → isP n = decide (1 < n)) := by
  refine ⟨fun h1 h3 => ?_, fun h1 => ?_⟩
  · cases e : isP n with
    | false => rfl
    | true => exact absurd (Int.dvd_of_emod_eq_zero h3) (((isP_iff hn).mp e).2 d h2 h1)
  · by_cases h3 : 1 < n
    · rw [decide_eq_true h3]
      refine (isP_iff hn).mpr ⟨by omega, fun e he hl => h e he ?_⟩
      rcases Int.lt_or_le e d with h4 | h4
      · exact h4
      · have : d * d ≤ e * e := Int.mul_le_mul h4 h4 (by omega) (by omega)
        omega
    · unfold isP
      rw [decide_eq_false h3]
      rfl
theorem sq_le {d n : Int} (h2 : 2 ≤ d) (h : d * d ≤ n) (hn : n ≤ 1000000) : d ≤ 1000 := by
  rcases Int.lt_or_le 1000 d with h1 | h1
  · have : 1001 * 1001 ≤ d * d := Int.mul_le_mul (by omega) (by omega) (by omega) (by omega)
    omega
  · exact h1
/-! ### asked_prime -/
def spAskedPrime (K : PySem.W.Frag) (C : Addr) : Sp := fun vs H Q E => ∃ (v : V) (t : String), vs = [v] ∧ TyX K H v (.type t) ∧ t ∈ tys ∧ (okP v = true → Q .non H) ∧ (okP v = false → E (.ref C) none H)
/-! ### power -/
def spPower : Sp := fun vs H Q _ => ∃ b e p : Int, vs = [.int b, .int e, .int p] ∧ 0 ≤ e ∧ 2 ≤ p ∧ p < 2 ^ 30 ∧ Q (.int (b ^ e.toNat % p)) H
theorem power_turn {b base found p e : Int} {e0 : Nat} (h : NT.C p (found * base ^ e.toNat) (b ^ e0)) (he : 0 < e) :
    NT.C p ((if e % 2 = 1 then found * base % p else found) * (base * base % p) ^ (e / 2).toNat) (b ^ e0) := by
  have h2 : base ^ e.toNat = (if e % 2 = 1 then base else 1) * (base * base) ^ (e / 2).toNat := by
    have e1 : e.toNat = (if e % 2 = 1 then 1 else 0) + ((e / 2).toNat + (e / 2).toNat) := by split <;> omega
    have e2 : ∀ n : Nat, (base * base) ^ n = base ^ (n + n) := fun n => by
      rw [Int.pow_add, Int.mul_pow]
    rw [e2, e1, Int.pow_add]
    split
    · rw [Int.pow_succ, Int.pow_zero, Int.one_mul]
    · rw [Int.pow_zero]
  refine NT.C.trans ?_ h
  rw [h2]
  have h3 := NT.C.pow (NT.C.mod p (base * base)) (e / 2).toNat
  split
  · refine NT.C.trans (NT.C.mul (NT.C.mod p (found * base)) h3) (NT.C.of_eq (by grind))
  · refine NT.C.trans (NT.C.mul (NT.C.refl p found) h3) (NT.C.of_eq (by grind))
theorem mod_b {a p : Int} (h : 0 < p) : 0 ≤ a % p ∧ a % p < p := ⟨Int.emod_nonneg _ (by omega), Int.emod_lt_of_pos _ h⟩
/-! ### mark_of -/
def spMarkOf : Sp := fun vs H Q _ => ∃ p n : Int, vs = [.int p, .int n] ∧ 0 < p ∧ p < 2 ^ 30 ∧ n.natAbs < 2 ^ 30 ∧ Q (.int (NT.mk p n)) H
theorem rd_power {b e p : Int} {H : Hp} {Q : VK} {E : XK} : spPower [.int b, .int e, .int p] H Q E ↔ (0 ≤ e ∧ 2 ≤ p ∧ p < 2 ^ 30) ∧ Q (.int (b ^ e.toNat % p)) H :=
  ⟨fun ⟨_, _, _, h, a, b, c, q⟩ => by cases h; exact ⟨⟨a, b, c⟩, q⟩, fun ⟨⟨a, b, c⟩, q⟩ => ⟨_, _, _, rfl, a, b, c, q⟩⟩
theorem rd_markOf {p n : Int} {H : Hp} {Q : VK} {E : XK} : spMarkOf [.int p, .int n] H Q E ↔ (0 < p ∧ p < 2 ^ 30 ∧ n.natAbs < 2 ^ 30) ∧ Q (.int (NT.mk p n)) H :=
  ⟨fun ⟨_, _, h, a, b, c, q⟩ => by cases h; exact ⟨⟨a, b, c⟩, q⟩, fun ⟨⟨a, b, c⟩, q⟩ => ⟨_, _, rfl, a, b, c, q⟩⟩
theorem rd_isPrime {n : Int} {H : Hp} {Q : VK} {E : XK} : spIsPrime [.int n] H Q E ↔ n ≤ 1000000 ∧ Q (.bl (isP n)) H :=
  ⟨fun ⟨_, h, a, q⟩ => by cases h; exact ⟨a, q⟩, fun ⟨a, q⟩ => ⟨_, rfl, a, q⟩⟩
/-! ### how many bits a number has at most -/
def B (n : Nat) (x : Int) : Prop := x.natAbs < 2 ^ n
theorem B.mono {m n : Nat} {x : Int} (h : B m x) (l : m ≤ n) : B n x := Nat.lt_of_lt_of_le h (Nat.pow_le_pow_right (by decide) l)
theorem B.add {n : Nat} {x y : Int} (h : B n x) (g : B n y) : B (n + 1) (x + y) := by
  unfold B at *
  rw [Nat.pow_succ]
  omega
theorem B.neg {n : Nat} {x : Int} (h : B n x) : B n (-x) := by unfold B at *; omega
theorem B.sub {n : Nat} {x y : Int} (h : B n x) (g : B n y) : B (n + 1) (x - y) := by
  unfold B at *
  rw [Nat.pow_succ]
  omega
theorem B.mul {m n : Nat} {x y : Int} (h : B m x) (g : B n y) : B (m + n) (x * y) := by
  unfold B at *
  rw [Int.natAbs_mul, Nat.pow_add]
  exact Nat.mul_lt_mul'' h g
theorem B.ediv {n : Nat} {x d : Int} (h : B n x) (hd : 0 < d) : B n (x / d) := by
  unfold B at *
  have h1 : (x / d).natAbs ≤ x.natAbs := by
    rcases Int.lt_or_le x 0 with hx | hx
    · have a := Int.ediv_neg_of_neg_of_pos hx hd
      have b : x ≤ x / d := Int.le_ediv_of_mul_le hd (by
        have : x * d ≤ x * 1 := Int.mul_le_mul_of_nonpos_left (by omega) (by omega)
        omega)
      omega
    · have a := Int.ediv_nonneg hx (Int.le_of_lt hd)
      have b : x / d ≤ x := Int.ediv_le_self d hx
      omega
  omega
theorem B.small {x : Int} (h : x.natAbs < 2 ^ 62) : B 62 x := h
theorem B.bits {x : Int} {n : Nat} (h : Builtin.Int.intBits x ≤ n) : B (n + 1) x := by
  unfold B
  unfold Builtin.Int.intBits at h
  split at h
  · rename_i e
    have : x = 0 := by simpa using e
    subst this
    exact Nat.pow_pos (by decide)
  · have h1 : x.natAbs.log2 < n + 1 := by omega
    by_cases h0 : x.natAbs = 0
    · rw [h0]
      exact Nat.pow_pos (by decide)
    · exact (Nat.log2_lt h0).mp h1
theorem B.ok {m n : Nat} {x y : Int} (h : B m x) (g : B n y) (m0 : 0 < m) (n0 : 0 < n) (l : m + n ≤ 90000000) : CMulB x y := by
  have a : ∀ (k : Nat) (z : Int), 0 < k → B k z → z.natAbs.log2 < k := fun k z hk hz => by
    by_cases h0 : z.natAbs = 0
    · rw [h0]
      exact hk
    · exact (Nat.log2_lt h0).mpr hz
  have := a m x m0 h
  have := a n y n0 g
  unfold CMulB
  omega
def TellPair (R : Int → Int → Prop) (H : Hp) (Q : VK) : Prop := (∀ a b, R a b → ∀ H' q, Same H H' → H q = none → H' q = some (.tup [.int a, .int b]) → Q (.ref q) H') ∧ ((∀ a b, ¬ R a b) → ∀ H', Same H H' → Q .non H')
theorem okP_int {v : V} (h : okP v = true) : ∃ p, v = .int p ∧ 3 ≤ p ∧ p ≤ 1000000 ∧ NT.Pr p := by
  cases v with
  | int p =>
    simp only [okP, Bool.and_eq_true, decide_eq_true_eq] at h
    exact ⟨p, rfl, h.1, h.2.1, (isP_iff h.2.1).mp h.2.2⟩
  | _ => cases h
theorem tyx_num {H : Hp} {v : V} {t : String} (h : TyX K H v (.type t)) : (t == "int") = true ∨ ((t == "int") = false ∧ ∀ d, v ≠ .int d) := by
  cases hi : (t == "int") with
  | true => exact .inl rfl
  | false =>
    refine .inr ⟨rfl, fun d e => ?_⟩
    subst e
    cases h with
    | base b =>
      cases b
      exact absurd hi (by decide)
theorem same_new {H : Hp} {p : Addr} {o : HO} (h : H p = none) : Same H (upd H p o) := fun b x e => by
  rw [upd_ne (ne_of_none e h)]
  exact e
/-! ### data of ints -/
def dI (ns : List Int) : List PyData := ns.map PyData.int
theorem canLay_ints : ∀ ns : List Int, PyData.canLayAll0 (dI ns) = true
  | [] => by simp [dI, PyData.canLayAll0]
  | n :: ns => by
    have := canLay_ints ns
    simp only [dI, List.map_cons, PyData.canLayAll0, PyData.canLay0, Bool.true_and] at *
    exact this
theorem depth_ints : ∀ ns : List Int, PyData.depthAll (dI ns) ≤ 1
  | [] => by simp [dI, PyData.depthAll]
  | n :: ns => by
    have := depth_ints ns
    simp only [dI, List.map_cons, PyData.depthAll, PyData.depth] at *
    omega
theorem shaped_list (ns : List Int) : SeqAt.shaped (.list (dI ns)) = true := by
  unfold SeqAt.shaped
  have h := depth_ints ns
  rw [Bool.and_eq_true, decide_eq_true_eq]
  refine ⟨by simp only [PyData.canLay0]; exact canLay_ints ns, ?_⟩
  simp only [PyData.depth]
  omega
theorem shaped_tup (ns : List Int) : SeqAt.shaped (.tuple (dI ns)) = true := by
  unfold SeqAt.shaped
  have h := depth_ints ns
  rw [Bool.and_eq_true, decide_eq_true_eq]
  refine ⟨by simp only [PyData.canLay0]; exact canLay_ints ns, ?_⟩
  simp only [PyData.depth]
  omega
theorem eqvAll_ints : ∀ xs ys : List Int, PyData.eqvAll (dI xs) (dI ys) = decide (xs = ys)
  | [], [] => by simp [dI, PyData.eqvAll]
  | [], y :: ys => by simp [dI, PyData.eqvAll]
  | x :: xs, [] => by simp [dI, PyData.eqvAll]
  | x :: xs, y :: ys => by
    have ih := eqvAll_ints xs ys
    show (PyData.eqv (.int x) (.int y) && PyData.eqvAll (dI xs) (dI ys)) = _
    rw [ih]
    by_cases h : x = y <;> by_cases g : xs = ys <;> simp [PyData.eqv, h, g]
theorem eqv_ints (xs ys : List Int) : PyData.eqv (.list (dI xs)) (.list (dI ys)) = decide (xs = ys) := by
  rw [← eqvAll_ints]
  simp only [PyData.eqv]
theorem eqv_tups (xs ys : List Int) : PyData.eqv (.tuple (dI xs)) (.tuple (dI ys)) = decide (xs = ys) := by
  rw [← eqvAll_ints]
  simp only [PyData.eqv]
theorem dpAll_ints {K : PySem.W.Frag} {H : Hp} : ∀ ns : List Int, DpAll K H (ns.map V.int) (dI ns)
  | [] => .nil
  | n :: ns => .cons (.int n) (dpAll_ints ns)
theorem dp_list {K : PySem.W.Frag} {H : Hp} {a : Addr} {ns : List Int} (h : SqL K H a (ns.map V.int)) : Dp K H (.ref a) (.list (dI ns)) := .lst h (dpAll_ints ns)
theorem dp_tup {K : PySem.W.Frag} {H : Hp} {a : Addr} {ns : List Int} (h : SqT K H a (ns.map V.int)) : Dp K H (.ref a) (.tuple (dI ns)) := .tup h (dpAll_ints ns)
theorem sq_of {K : PySem.W.Frag} {H : Hp} {a : Addr} {xs : List V} (h : H a = some (.lst xs)) : SqL K H a xs := .inl (.inl h)
theorem sqt_of {K : PySem.W.Frag} {H : Hp} {a : Addr} {xs : List V} (h : H a = some (.tup xs)) : SqT K H a xs := .inl (.inl h)
theorem cut_take (xs : List V) (n : Nat) : cutV xs none (some (n : Int)) = xs.take n := by
  unfold cutV
  rw [HT.sIx_none, HT.sIx_nat]
  show (xs.drop 0).take (min n xs.length - 0) = _
  rw [List.drop_zero, Nat.sub_zero]
  rcases Nat.le_total n xs.length with h | h
  · rw [Nat.min_eq_left h]
  · rw [Nat.min_eq_right h, List.take_length, List.take_of_length_le h]
theorem cut_all (xs : List V) (n : Nat) (h : xs.length ≤ n) : cutV xs none (some (n : Int)) = xs := by
  rw [cut_take, List.take_of_length_le h]
theorem at_lt {xs : List Int} {i : Int} (h0 : 0 ≤ i) (h : i < (xs.length : Int)) : ∃ v, v ∈ xs ∧ atI (xs.map V.int) i = some (.int v) := by
  obtain ⟨j, rfl⟩ := Int.eq_ofNat_of_zero_le h0
  have hj : j < xs.length := by omega
  exact ⟨xs[j], List.getElem_mem hj, atI_nat (by rw [List.getElem?_map, List.getElem?_eq_getElem hj]; rfl)⟩
theorem at_mod {xs : List Int} (a : Int) (h : xs ≠ []) : ∃ v, v ∈ xs ∧ atI (xs.map V.int) (a % ((xs.map V.int).length : Int)) = some (.int v) := by
  have := List.length_pos_iff.mpr h
  refine at_lt ?_ ?_
  · rw [List.length_map]
    exact Int.emod_nonneg _ (by omega)
  · rw [List.length_map]
    exact Int.emod_lt_of_pos _ (by omega)
/-! ### the cells -/
def cellsOf (n : Nat) (ns : List Int) (c : Int) : List Int := if ns = [] then [c] else ns.take n
theorem cells_ok {K : PySem.W.Frag} {σ : L2.St} {H : Hp} {Q : VK} {a : Addr} {ns : List Int} {n : Nat} {c : Int} (hv : σ[0]? = some (some (.ref a))) (hS : SqL K H a (ns.map V.int))
    (q : ∀ H' p, Same H H' → H p = none → H' p = some (.lst ((cellsOf n ns c).map V.int)) → Q (.ref p) H') :
    tIf (tTest (tOp (rNeD K) (tVar 0) (tLst tNil))) (tSl (rSlL K) (tVar 0) tNoPart (tPart (tC (.int (n : Int))))) (tLst (tCons (tC (.int c)) tNil)) σ H Q := by
  refine ⟨_, hv, Nat.zero_le _, fun p hp => ?_⟩
  have sm := same_new (o := .lst []) hp
  refine ⟨_, _, dp_list (sm.seq hS), dp_list (ns := []) (sq_of upd_same), shaped_list _, shaped_list _, _, rfl, ?_⟩
  rw [eqv_ints]
  by_cases h : ns = []
  · rw [decide_eq_true h]
    refine iteF ⟨by show 1 ≤ sizeLine; decide, fun r hr => q _ r (sm.trans (same_new hr)) (sm.free hr) ?_⟩
    unfold cellsOf
    rw [if_pos h, upd_same]
    rfl
  · rw [decide_eq_false h]
    refine iteT ⟨_, hv, _, rfl, a, _, rfl, sm.seq hS, fun r hr => q _ r (sm.trans (same_new hr)) (sm.free hr) ?_⟩
    unfold cellsOf
    rw [if_neg h, upd_same, cut_take, List.map_take]
theorem cells_pos {n : Nat} {ns : List Int} {c : Int} (h : 0 < n) : 0 < (cellsOf n ns c).length := by
  unfold cellsOf
  split
  · exact Nat.one_pos
  · rename_i h2
    rw [List.length_take]
    have := List.length_pos_iff.mpr h2
    omega
theorem cells_len {n : Nat} {ns : List Int} {c : Int} (h : 0 < n) : (cellsOf n ns c).length ≤ n := by
  unfold cellsOf
  split
  · exact h
  · rw [List.length_take]
    omega
theorem cells_mem {n : Nat} {ns : List Int} {c : Int} {k : Nat} (hn : ∀ z ∈ ns, B k z) (hc : B k c) : ∀ z ∈ cellsOf n ns c, B k z := fun z hz => by
  unfold cellsOf at hz
  split at hz
  · rw [List.mem_singleton] at hz
    rw [hz]
    exact hc
  · exact hn z (List.mem_of_mem_take hz)
theorem sum_bits {k : Nat} : ∀ {ns : List Int}, (∀ z ∈ ns, B k z) → B (k + ns.length) ns.sum
  | [], _ => by
    show (0 : Nat) < 2 ^ _
    exact Nat.pow_pos (by decide)
  | n :: ns, h => by
    have ih := sum_bits (ns := ns) fun z hz => h z (List.mem_cons_of_mem _ hz)
    have h1 := (h n List.mem_cons_self).mono (Nat.le_add_right k ns.length)
    have := h1.add ih
    rw [List.sum_cons, List.length_cons]
    exact this
/-! ### the law's own number -/
def spNumber : Sp := fun vs H Q _ => ∃ (c a s : Int) (n : Nat), vs = [.int c, .int a, .int s] ∧ B n c ∧ B n s ∧ 0 ≤ a ∧ a ≤ 100000 ∧ n ≤ 20000000 ∧ ∀ z : Int, B (2 * n + 300) z → Q (.int z) H
/-- a tuple of two whole numbers -/
def spTwo (K : PySem.W.Frag) : Sp := fun vs H Q _ => ∃ (p : Addr) (a b : Int), vs = [.ref p] ∧ H p = some (.tup [.int a, .int b]) ∧ Q (.bl true) H
/-! ### the law's prime -/
theorem big_prime : isP 999983 = true := by decide +kernel
def spLawPrime (K : PySem.W.Frag) : Sp := fun vs H Q _ => ∃ (l : Addr) (ns : List Int) (a : Int), vs = [.ref l, .int a] ∧ SqL K H l (ns.map V.int) ∧ ns.length ≤ 63 ∧ (∀ z ∈ ns, B 1048577 z) ∧ 0 ≤ a ∧ a ≤ 1000 ∧ ∀ (H' : Hp) (p : Int), Same H H' → okP (.int p) = true → p ≤ 999983 → Q (.int p) H'
end
end Sa
namespace Sa
open PySem PySem.Spec PyProof.Rows L2 Evl
theorem mk_b {p n : Int} (p0 : 0 < p) (p6 : p ≤ 1000000) (n0 : 0 ≤ n) (n1 : n < p) : 0 ≤ NT.mk p n ∧ NT.mk p n < 4000000000000 := by
  have h := NT.sq_b (n := n) p0
  have h1 : 0 ≤ p * n := Int.mul_nonneg (by omega) n0
  have h2 : p * n ≤ 1000000 * 1000000 := Int.mul_le_mul (by omega) (by omega) n0 (by omega)
  have h3 : 2 * p * n = 2 * (p * n) := Int.mul_assoc 2 p n
  unfold NT.mk
  omega
theorem mk_lt {p a b : Int} (p0 : 0 < p) (h : a < b) : NT.mk p a < NT.mk p b := by
  have x := NT.sq_b (n := a) p0
  have y := NT.sq_b (n := b) p0
  have h1 : 2 * p * 1 ≤ 2 * p * (b - a) := Int.mul_le_mul_of_nonneg_left (by omega) (by omega)
  rw [Int.mul_sub] at h1
  unfold NT.mk
  omega
theorem map_at {ns : List Int} {i : Nat} {x : V} (h : (ns.map V.int)[i]? = some x) : ∃ d, d ∈ ns ∧ x = .int d := by
  rw [List.getElem?_map] at h
  cases e : ns[i]? with
  | none =>
    rw [e] at h
    cases h
  | some d =>
    rw [e] at h
    exact ⟨d, List.mem_of_getElem? e, (Option.some.inj h).symm⟩
def tri : Nat → Nat
  | 0 => 0
  | n + 1 => tri n + n
section
variable {P : Program} {w : World} {K : PySem.W.Frag} {mg : Str → Option Value} {base : Heap}
theorem sum63_ok {σ : L2.St} {H : Hp} {Q : VK} {a : Addr} {ns : List Int} (hv : σ[0]? = some (some (.ref a))) (hS : SqL K H a (ns.map V.int)) (hl : ns.length ≤ 63) (q : ∀ H', Same H H' → Q (.int ns.sum) H') :
    tCB (rSum K) (tCons (tSl (rSlL K) (tVar 0) tNoPart (tPart (tC (.int 63)))) tNil) σ H Q := by
  refine ⟨_, hv, _, rfl, a, _, rfl, hS, fun p hp => ⟨p, ns, rfl, .inl (.inl ?_), q _ (same_new hp)⟩⟩
  rw [upd_same, show (63 : Int) = ((63 : Nat) : Int) from rfl, cut_all _ 63 (by rw [List.length_map]; exact hl)]
def spLaw (K : PySem.W.Frag) : Sp := fun vs H Q _ => ∃ (a : Addr) (ns : List Int), vs = [.ref a] ∧ SqL K H a (ns.map V.int) ∧ ns.length ≤ 63 ∧ (∀ z ∈ ns, B 1048577 z) ∧ ∀ H', Q (.bl true) H'
end
end Sa
/-! list(range(a, b, c)); displays of tuples of ints, told at a later heap -/
namespace Sa
open PySem PySem.Spec PyProof.Rows L2 Evl
def rg3 (i c : Int) (n : Nat) : List Int := (List.range n).map fun k : Nat => i + (k : Int) * c
def tLst3 (ta : TA) : TE := fun σ H Q => ta σ H fun vs H1 => ∃ (i j c : Int) (n : Nat), vs = [.int i, .int j, .int c] ∧ RgC i j c n ∧ n ≤ 1000 ∧ ∀ q, H1 q = none → Q (.ref q) (upd H1 q (.lst ((rg3 i c n).map V.int)))
theorem pe_list3 {X : Cx} {a b c : Expr} {ta : TA} {p p2 pos pos2 : Pos} (hg2 : Gl X "list") (hm2 : X.mg "list" = none) (hg : Gl X "range") (hm : X.mg "range" = none) (ha : PA X [a, b, c] ta) (hc : X.calm = true := by rfl)
    (hs : starEach [a, b, c] X.env = (false, eval a X.env) :: starEach [b, c] X.env := by rfl) (hpl : (backTo pos (starEach [b, c] X.env)).any (·.1) = false := by rfl)
    (na : starEach [Expr.Call (.Name "range" p) [a, b, c] [] pos] X.env = (false, eval (.Call (.Name "range" p) [a, b, c] [] pos) X.env) :: starEach [] X.env := by rfl) :
    PE X (.Call (.Name "list" p2) [.Call (.Name "range" p) [a, b, c] [] pos] [] pos2) (tLst3 ta) := by
  refine ⟨fun pins s σ H Q I h => ?_⟩
  refine Call_ (ld_blt I hg2 hm2 boot_list (PyProof.Rows.callWith_type1 (PyProof.Rows.args_cons ?_ na) na))
  refine Call_ (ld_blt I hg hm boot_range (PyProof.Rows.callWith_type1 (thn (ha.run pos pins s σ H _ I h) fun us s1 ⟨vs, H1, I1, r1, q1⟩ => ?_) hs hpl))
  obtain ⟨i, j, k, n, e, ⟨c0, c1, c2, c3⟩, hn, q⟩ := q1
  subst e
  cases r1 with
  | cons r rr =>
    cases rr with
    | cons r' rr =>
      cases rr with
      | cons r'' rr =>
        cases rr
        obtain ⟨t, rfl⟩ := r
        obtain ⟨t', rfl⟩ := r'
        obtain ⟨t'', rfl⟩ := r''
        refine call_range_3 c0 ?_ (.inl (PyProof.noPylong_small c1))
        refine PyProof.Rows.args_nil ?_
        have I2 : Inv X pins σ H1 { s1 with heap := s1.heap.push { cls := .type "range", data := .fields #[.int i t, .int j t', .int k t''] } } := I1.kept (t' := s1.toks) fun b o e => Heap.get?_push_of_some _ e
        refine call_list_range (I1.ok.hd hc) (IsRange.new ..) c2 c3 (Nat.le_trans hn (by decide)) fun h' tk acc c' hk e' hi => ?_
        refine ⟨.ref _, upd H1 _ (.lst ((rg3 i k n).map V.int)), I2.laid hk (Nat.le_refl _) (show ObjOk X.prog X.w _ _ _ (.lst ((rg3 i k n).map V.int)) from ⟨?_, acc.toList, c', ?_, ?_⟩), rfl, q _ (I2.hok.fresh (Nat.le_refl _))⟩
        · unfold rg3
          rw [List.length_map, List.length_map, List.length_range, sizeLine_eq]
          omega
        · have e : acc.toList.length = n := by rw [Array.length_toList]; exact hi.1
          unfold rg3
          rw [List.map_map, ← e]
          refine vals_of_get acc.toList _ fun j u hj => ?_
          obtain ⟨t, rfl⟩ := hi.2 j u (by rw [← hj, Array.getElem?_toList])
          exact ⟨t, rfl⟩
        · rw [Array.toArray_toList]
          exact e'
/-! ### evaluated at a heap behind H0 -/
def EvEH (H0 : Hp) (te : TE) (σ : L2.St) (v : V) : Prop := ∀ (H : Hp) (Q : VK), Same H0 H → Q v H → te σ H Q
def EvIs (H0 : Hp) (ta : TA) (σ : L2.St) (ns : List Int) : Prop := ∀ (H : Hp) (Q : List V → Hp → Prop), Same H0 H → Q (ns.map V.int) H → ta σ H Q
/-- a tuple of ints -/
def EvT (H0 : Hp) (te : TE) (σ : L2.St) (ns : List Int) : Prop := ∀ (H : Hp) (Q : VK), Same H0 H → (∀ p H2, Same H H2 → H2 p = some (.tup (ns.map V.int)) → Q (.ref p) H2) → te σ H Q
def IPP : List (List Int × List Int) → List V → Hp → Prop
  | [], xs, _ => xs = []
  | (a, b) :: r, xs, H => ∃ p p1 p2 ys, xs = .ref p :: ys ∧ H p = some (.tup [.ref p1, .ref p2]) ∧ H p1 = some (.tup (a.map V.int)) ∧ H p2 = some (.tup (b.map V.int)) ∧ IPP r ys H
def EvPP (H0 : Hp) (ta : TA) (σ : L2.St) (ab : List (List Int × List Int)) : Prop := ∀ (H : Hp) (Q : List V → Hp → Prop), Same H0 H → (∀ xs H2, Same H H2 → IPP ab xs H2 → Q xs H2) → ta σ H Q
section
variable {K : PySem.W.Frag} {H0 : Hp} {σ : L2.St}
theorem IPP.mono : ∀ {ab : List (List Int × List Int)} {xs : List V} {H H' : Hp}, Same H H' → IPP ab xs H → IPP ab xs H'
  | [], _, _, _, _, h => h
  | (a, b) :: r, _, _, _, s, ⟨p, p1, p2, ys, e, h0, h1, h2, h⟩ => ⟨p, p1, p2, ys, e, s _ _ h0, s _ _ h1, s _ _ h2, IPP.mono s h⟩
theorem IPP.len : ∀ {ab : List (List Int × List Int)} {xs : List V} {H : Hp}, IPP ab xs H → xs.length = ab.length
  | [], _, _, h => by rw [h]; rfl
  | (a, b) :: r, _, _, ⟨p, p1, p2, ys, e, _, _, _, h⟩ => by rw [e, List.length_cons, List.length_cons, IPP.len h]
theorem IPP.cat : ∀ {ab cd : List (List Int × List Int)} {xs ys : List V} {H : Hp}, IPP ab xs H → IPP cd ys H → IPP (ab ++ cd) (xs ++ ys) H
  | [], _, _, _, _, h, g => by rw [h]; exact g
  | (a, b) :: r, _, _, _, _, ⟨p, p1, p2, ys, e, h0, h1, h2, h⟩, g => ⟨p, p1, p2, _, by rw [e]; rfl, h0, h1, h2, IPP.cat h g⟩
theorem IPP.at : ∀ {ab : List (List Int × List Int)} {xs : List V} {H : Hp} {i : Nat} {x : V}, IPP ab xs H → xs[i]? = some x → ∃ a b p p1 p2, ab[i]? = some (a, b) ∧ x = .ref p ∧ H p = some (.tup [.ref p1, .ref p2]) ∧ H p1 = some (.tup (a.map V.int)) ∧ H p2 = some (.tup (b.map V.int))
  | [], _, _, i, x, h, e => by rw [h] at e; simp at e
  | (a, b) :: r, _, _, 0, x, ⟨p, p1, p2, ys, e, h0, h1, h2, h⟩, ex => by
    rw [e] at ex
    cases ex
    exact ⟨a, b, p, p1, p2, rfl, rfl, h0, h1, h2⟩
  | (a, b) :: r, _, _, i + 1, x, ⟨p, p1, p2, ys, e, h0, h1, h2, h⟩, ex => by
    rw [e] at ex
    exact IPP.at (i := i) h ex
theorem eh_var {n : Nat} {v : V} (h : σ[n]? = some (some v)) : EvEH H0 (tVar n) σ v := fun H Q _ q => ⟨v, h, q⟩
theorem eh_c {v : V} : EvEH H0 (tC v) σ v := fun H Q _ q => q
theorem eh_U {ta : TE} {f : Int → V} {i : Int} (h : EvEH H0 ta σ (.int i)) : EvEH H0 (tUn (rU f) ta) σ (f i) := fun H Q s q => h H _ s ⟨i, rfl, q⟩
theorem eh_I0 {ta tb : TE} {f : Int → Int → V} {i j : Int} (h : EvEH H0 ta σ (.int i)) (g : EvEH H0 tb σ (.int j)) : EvEH H0 (tOp (rI0 f) ta tb) σ (f i j) := fun H Q s q => h H _ s (g H _ s ⟨i, j, rfl, rfl, q⟩)
theorem eh_ixL {ta tb : TE} {p : Addr} {xs : List V} {i : Int} {v : V} (h : EvEH H0 ta σ (.ref p)) (g : EvEH H0 tb σ (.int i)) (hs : SqL K H0 p xs) (e : atI xs i = some v) : EvEH H0 (tOp (rIxL K) ta tb) σ v := fun H Q s q => h H _ s (g H _ s (ixL (s.seq hs) e q))
theorem is_nil : EvIs H0 tNil σ [] := fun H Q _ q => q
theorem is_cons {te : TE} {ta : TA} {n : Int} {ns : List Int} (h : EvEH H0 te σ (.int n)) (g : EvIs H0 ta σ ns) : EvIs H0 (tCons te ta) σ (n :: ns) := fun H Q s q => h H _ s (g H _ s q)
theorem et_tup {ta : TA} {ns : List Int} (h : EvIs H0 ta σ ns) (hl : ns.length ≤ 1000) : EvT H0 (tTup ta) σ ns := fun H Q s q => h H _ s ⟨by
  rw [List.length_map]
  exact Nat.le_trans hl (show 1000 ≤ sizeLine by decide), fun p hp => q p _ (same_newO hp) upd_same⟩
theorem pp_nil : EvPP H0 tNil σ [] := fun H Q _ q => q [] H (Same.refl H) rfl
theorem pp_cons {t1 t2 : TE} {ta : TA} {a b : List Int} {ab : List (List Int × List Int)} (h1 : EvT H0 t1 σ a) (h2 : EvT H0 t2 σ b) (g : EvPP H0 ta σ ab) : EvPP H0 (tCons (tTup (tCons t1 (tCons t2 tNil))) ta) σ ((a, b) :: ab) := fun H Q s q =>
  h1 H _ s fun p1 H1 s1 e1 => h2 H1 _ (s.trans s1) fun p2 H2 s2 e2 => ⟨by show 2 ≤ sizeLine; decide, fun p np => g _ _ (s.trans (s1.trans (s2.trans (same_newO np)))) fun xs H3 s3 i =>
    q _ H3 (s1.trans (s2.trans ((same_newO np).trans s3))) ⟨p, p1, p2, xs, rfl, s3 _ _ upd_same, s3 _ _ ((same_newO np) _ _ (s2 _ _ e1)), s3 _ _ ((same_newO np) _ _ e2), i⟩⟩
/-- x = [(..), ..] -/
theorem asg_pp {ta : TA} {H : Hp} {Q : VK} {ab : List (List Int × List Int)} (h : EvPP H ta σ ab) (hl : ab.length ≤ 1000) (q : ∀ l xs H', Same H H' → H l = none → H' l = some (.lst xs) → IPP ab xs H' → Q (.ref l) H') : tLst ta σ H Q :=
  h H _ (Same.refl H) fun xs H2 s i => ⟨by rw [i.len]; exact Nat.le_trans hl (show 1000 ≤ sizeLine by decide), fun l nl => q l xs _ (s.trans (same_newO nl)) (s.free nl) upd_same (i.mono (same_newO nl))⟩
/-- x = y + [(..), ..] -/
theorem cat_pp {ty : TE} {ta : TA} {H : Hp} {Q : VK} {l0 : Addr} {xs0 : List V} {ab cd : List (List Int × List Int)} (hy : EvEH H ty σ (.ref l0)) (h0 : H l0 = some (.lst xs0)) (i0 : IPP ab xs0 H) (h : EvPP H ta σ cd) (hl : ab.length + cd.length ≤ 1000)
    (q : ∀ l xs H', Same H H' → H l = none → H' l = some (.lst xs) → IPP (ab ++ cd) xs H' → Q (.ref l) H') : tOp rCat ty (tLst ta) σ H Q :=
  hy H _ (Same.refl H) (asg_pp h (by omega) fun l1 xs1 H1 s1 n1 e1 i1 => ⟨l0, l1, xs0, xs1, rfl, rfl, s1 _ _ h0, e1, by
    rw [i0.len, i1.len]
    exact Nat.le_trans hl (show 1000 ≤ sizeLine by decide), fun l nl => q l _ _ (s1.trans (same_newO nl)) (s1.free nl) upd_same (((i0.mono s1).cat i1).mono (same_newO nl))⟩)
end
theorem lc_mapL {K : PySem.W.Frag} {a : Addr} {xs : List V} {j : Nat} {te : TE} {vs : List Nat} {σ : L2.St} {H1 : Hp} {Q : VK} (v : Nat → V) (hw : ∀ x, wipe ((wipe σ vs).set j (some x)) vs = wipe σ vs) (hS : SqL K H1 a xs) (hn : xs.length ≤ 1000000)
    (he : ∀ (i : Nat) (x : V) (H' : Hp), xs[i]? = some x → Same H1 H' → ∀ Q : VK, (∀ H2, Same H' H2 → Q (v i) H2) → te ((wipe σ vs).set j (some x)) H' Q)
    (hd : ∀ D H', H1 D = none → Same H1 H' → H' D = some (.lst ((List.range xs.length).map v)) → Q (.ref D) H') : tLc (itI (Itl K a)) (gName j) tYes te vs σ H1 Q := fun D hD => by
  refine lc_list (xs := xs) (fun i H' => Same H1 H' ∧ H' D = some (.lst ((List.range i).map v))) ⟨same_mut (Same.refl _) hD, upd_same⟩ (fun i H' _ ⟨s, _⟩ => s.seq hS) (fun i x H' hi ⟨s, e⟩ => ?_) (fun H' ⟨s, e⟩ => hd D H' hD s e)
  refine ⟨hw _, ?_⟩
  unfold tYes
  dsimp only
  rw [if_pos rfl]
  refine he i x H' hi s _ fun H2 s2 => ⟨(List.range i).map v, s2 _ _ e, ?_, same_mut (s.trans s2) hD, ?_⟩
  · rw [List.length_map, List.length_range]
    have := (List.getElem?_eq_some_iff.mp hi).1
    exact Nat.lt_of_lt_of_le (Nat.lt_of_lt_of_le this hn) (show 1000000 ≤ sizeLine by decide)
  · rw [upd_same, List.range_succ, List.map_append]
    rfl
/-! tuples of two tuples of ints, compared -/
def dII (xs ys : List Int) : PyData := .tuple [.tuple (dI xs), .tuple (dI ys)]
theorem shaped_II (xs ys : List Int) : SeqAt.shaped (dII xs ys) = true := by
  unfold SeqAt.shaped dII
  have h := depth_ints xs
  have h' := depth_ints ys
  have c := canLay_ints xs
  have c' := canLay_ints ys
  rw [Bool.and_eq_true, decide_eq_true_eq]
  refine ⟨by simp only [PyData.canLay0, PyData.canLayAll0, c, c', Bool.and_self], ?_⟩
  simp only [PyData.depth, PyData.depthAll]
  omega
theorem eqv_II (xs ys zs ws : List Int) : PyData.eqv (dII xs ys) (dII zs ws) = (decide (xs = zs) && decide (ys = ws)) := by
  unfold dII
  have h1 := eqv_tups xs zs
  have h2 := eqv_tups ys ws
  simp only [PyData.eqv, PyData.eqvAll] at *
  rw [h1, h2, Bool.and_true]
theorem dp_II {K : PySem.W.Frag} {H : Hp} {a p q : Addr} {xs ys : List Int} (h : H a = some (.tup [.ref p, .ref q])) (h1 : H p = some (.tup (xs.map V.int))) (h2 : H q = some (.tup (ys.map V.int))) : Dp K H (.ref a) (dII xs ys) :=
  .tup (sqt_of h) (.cons (dp_tup (sqt_of h1)) (.cons (dp_tup (sqt_of h2)) .nil))
theorem rd_lst3 {ta : TA} {σ : L2.St} {H : Hp} {Q : VK} : tLst3 ta σ H Q = ta σ H fun vs H1 => ∃ (i j c : Int) (n : Nat), vs = [.int i, .int j, .int c] ∧ RgC i j c n ∧ n ≤ 1000 ∧ ∀ q, H1 q = none → Q (.ref q) (upd H1 q (.lst ((rg3 i c n).map V.int))) := rfl
theorem rg3_len {i c : Int} {n : Nat} : (rg3 i c n).length = n := by unfold rg3; rw [List.length_map, List.length_range]
end Sa
/-! xs[::2] -/
namespace Sa
open PySem PySem.Spec PyProof.Rows L2 Evl
def ev2 {α : Type} : List α → List α
  | [] => []
  | [x] => [x]
  | x :: _ :: r => x :: ev2 r
def idx2 (k : Nat) : Nat → List Nat
  | 0 => []
  | 1 => [k]
  | n + 2 => k :: idx2 (k + 2) n
theorem pick2 {α : Type} (f : Nat → Option α) : ∀ (xs : List α) (k : Nat), (∀ i, i < xs.length → f (k + i) = xs[i]?) → (idx2 k xs.length).filterMap f = ev2 xs
  | [], k, _ => rfl
  | [x], k, h => by
    have h0 := h 0 Nat.one_pos
    show [k].filterMap f = [x]
    rw [List.filterMap_cons, show f k = some x from h0]
    rfl
  | x :: y :: r, k, h => by
    have h0 : f k = some x := h 0 (Nat.succ_pos _)
    have ih := pick2 f r (k + 2) fun i hi => by
      have := h (i + 2) (by show i + 2 < r.length + 2; omega)
      rw [show k + 2 + i = k + (i + 2) by omega, this]
      rfl
    show (k :: idx2 (k + 2) r.length).filterMap f = x :: ev2 r
    rw [List.filterMap_cons, h0, ih]
def chkS (n : Nat) : Bool := decide (sliceRange (sliceBounds none none (some 2) n).1 (sliceBounds none none (some 2) n).2.1 (sliceBounds none none (some 2) n).2.2 = idx2 0 n)
theorem chkS_all : (List.range 65).all chkS = true := by decide +kernel
theorem pick_two {items : Array Value} (h : items.size ≤ 64) : slicePick items none none (some 2) = (ev2 items.toList).toArray := by
  have := List.all_eq_true.mp chkS_all items.size (List.mem_range.mpr (by omega))
  unfold slicePick
  rw [of_decide_eq_true this]
  have h2 := pick2 (fun i => items[i]?) items.toList 0 (fun i _ => by rw [Nat.zero_add, Array.getElem?_toList])
  rw [Array.length_toList] at h2
  rw [h2]
theorem vals_ev2 : ∀ {xs : List V} {us : List Value}, Vals xs us → Vals (ev2 xs) (ev2 us)
  | _, _, .nil => .nil
  | _, _, .cons r .nil => .cons r .nil
  | _, _, .cons r (.cons _ t) => .cons r (vals_ev2 t)
theorem ev2_len {α : Type} : ∀ xs : List α, (ev2 xs).length ≤ xs.length
  | [] => Nat.le_refl _
  | [x] => Nat.le_refl _
  | x :: y :: r => by
    have := ev2_len r
    show (ev2 r).length + 1 ≤ r.length + 2
    omega
theorem ev2_map {α β : Type} (f : α → β) : ∀ xs : List α, ev2 (xs.map f) = (ev2 xs).map f
  | [] => rfl
  | [x] => rfl
  | x :: y :: r => by
    show f x :: ev2 (r.map f) = f x :: (ev2 r).map f
    rw [ev2_map f r]
def tEv2 (K : PySem.W.Frag) (te : TE) : TE := fun σ H Q => te σ H fun x H1 => ∃ a xs, x = .ref a ∧ SqL K H1 a xs ∧ xs.length ≤ 64 ∧ ∀ p, H1 p = none → Q (.ref p) (upd H1 p (.lst (ev2 xs)))
theorem pe_sl2 {X : Cx} {K : PySem.W.Frag} {e : Expr} {te : TE} {k : Nat} {p1 p3 pos : Pos} (he : PE X e te) (hK : X.K = K := by rfl) : PE X (.Subscript e (.Slice none none (some (.Constant (.int 2) k p1)) p3) pos) (tEv2 K te) := by
  subst hK
  refine ⟨fun pins s σ H Q I h => ?_⟩
  refine Subscript_ (thn (he.run pins s σ H _ I h) fun v s1 ⟨x, H1, I1, r1, q1⟩ => ?_)
  obtain ⟨a, xs, ex, hx, hl, q⟩ := q1
  subst ex
  cases r1
  have hst : PO X (some (.Constant (.int 2) k p1)) (tPart (tC (.int 2))) := po_some pe_int
  refine wpAny_Slice (thn (po_none.run pins s1 σ H1 (fun o H2 => o = none ∧ H2 = H1) I1 ⟨rfl, rfl⟩) fun vl s2 ⟨l, H2, I2, pl, el, e2⟩ => ?_)
  subst el e2
  refine thn (po_none.run pins s2 σ H2 (fun o H3 => o = none ∧ H3 = H2) I2 ⟨rfl, rfl⟩) fun vu s3 ⟨u, H3, I3, pu, eu, e3⟩ => ?_
  subst eu e3
  refine thn (hst.run pins s3 σ H3 (fun o H4 => o = some 2 ∧ H4 = H3) I3 ⟨2, rfl, rfl, rfl⟩) fun vs s4 ⟨o, H4, I4, ps, eo, e4⟩ => ?_
  subst eo e4
  have I5 : Inv X pins σ H4 { s4 with heap := s4.heap.push { cls := .type "slice", data := .fields #[vl, vu, vs] } } := I4.kept (t' := s4.toks) fun b ob q => Heap.get?_push_of_some _ q
  obtain ⟨its, r, ht, hz⟩ := I5.list hx
  have hlen := r.length
  show wpAny (model X.prog X.w) X.A (subscriptTail e (.Slice none none (some (.Constant (.int 2) k p1)) p3) (.ref a) (.ref s4.heap.objs.size)) (EP X pins σ Q) X.xe { s4 with heap := s4.heap.push { cls := .type "slice", data := .fields #[vl, vu, vs] } }
  refine tail_any (ops := [.ref a, .ref s4.heap.objs.size]) ht.isList.typeIs (PySem.slot_list_getitem.lookup) ?_ (by with_unfolding_all rfl)
  refine wpAny_getItem_list_slice ht.isList (Heap.IsSliceOf.new _ vl vu vs) pl pu ps (by decide) ?_ (by rw [List.size_toArray]; omega)
  rw [pick_two (by rw [List.size_toArray]; omega)]
  refine ⟨.ref _, _, I5.laid (t' := s4.toks) (o := .lst (ev2 xs)) (fun b ob q => Heap.get?_push_of_some _ q) (Nat.le_refl _) ?_, rfl, q _ (I5.hok.fresh (Nat.le_refl _))⟩
  exact ⟨Nat.le_trans (ev2_len xs) hz, _, 0, vals_ev2 r, Heap.get?_push_size _ rfl⟩
theorem rd_ev2 {K : PySem.W.Frag} {te : TE} {σ : L2.St} {H : Hp} {Q : VK} : tEv2 K te σ H Q = te σ H fun x H1 => ∃ a xs, x = .ref a ∧ SqL K H1 a xs ∧ xs.length ≤ 64 ∧ ∀ p, H1 p = none → Q (.ref p) (upd H1 p (.lst (ev2 xs))) := rfl
theorem rd_rev {K : PySem.W.Frag} {te : TE} {σ : L2.St} {H : Hp} {Q : VK} : tRevL K te σ H Q = te σ H fun x H1 => ∃ a xs, x = .ref a ∧ SqL K H1 a xs ∧ ∀ p, H1 p = none → Q (.ref p) (upd H1 p (.lst xs.reverse)) := rfl
theorem pe_revk {X : Cx} {K : PySem.W.Frag} {e : Expr} {te : TE} {k : Nat} {p1 p2 p3 pos : Pos} (he : PE X e te) (hK : X.K = K := by rfl) : PE X (.Subscript e (.Slice none none (some (.UnaryOp .USub (.Constant (.int 1) k p1) p2)) p3) pos) (tRevL K te) := by
  subst hK
  exact pe_revL he
end Sa
/-! comprehensions over lists of ints, sorted pairs, rising lists, pairs compared -/
namespace Sa
open PySem PySem.Spec PyProof.Rows L2 Evl
theorem cut_ints {ms : List Int} {n : Nat} : cutV (ms.map V.int) none (some (n : Int)) = (ms.take n).map V.int := by
  rw [cut_take, List.map_take]
theorem lc_mapI {K : PySem.W.Frag} {a : Addr} {ns : List Int} {j : Nat} {te : TE} {vs : List Nat} {σ : L2.St} {H1 : Hp} {Q : VK} (f : Int → Int) (hw : ∀ x, wipe ((wipe σ vs).set j (some x)) vs = wipe σ vs) (hS : SqL K H1 a (ns.map V.int)) (hn : ns.length ≤ 1000000)
    (he : ∀ (z : Int) (H' : Hp), z ∈ ns → Same H1 H' → ∀ Q : VK, (∀ H2, Same H' H2 → Q (.int (f z)) H2) → te ((wipe σ vs).set j (some (.int z))) H' Q)
    (hd : ∀ D H', H1 D = none → Same H1 H' → H' D = some (.lst ((ns.map f).map V.int)) → Q (.ref D) H') : tLc (itI (Itl K a)) (gName j) tYes te vs σ H1 Q := by
  refine lc_mapL (xs := ns.map V.int) (fun i => .int (f (ns.getD i 0))) hw hS (by rw [List.length_map]; exact hn) (fun i x H' hi s Q k => ?_) (fun D H' nD s e => hd D H' nD s ?_)
  · rw [List.getElem?_map] at hi
    cases e : ns[i]? with
    | none => rw [e] at hi; cases hi
    | some z =>
      rw [e] at hi
      cases hi
      refine he z H' (List.mem_of_getElem? e) s Q fun H2 s2 => ?_
      have := k H2 s2
      rw [List.getD_eq_getElem?_getD, e] at this
      exact this
  · rw [e, List.length_map]
    have : (List.range ns.length).map (fun i => V.int (f (ns.getD i 0))) = (ns.map f).map V.int := List.ext_getElem (by simp) fun i h1 h2 => by
      have h3 : i < ns.length := by simpa using h2
      simp [List.getElem?_eq_getElem h3]
    rw [this]
/-! rising lists -/
theorem rise_turned {ms : List Int} (h : ms.Pairwise (· < ·)) : (ms.reverse.map fun z => -z).Pairwise (· < ·) := by
  rw [List.pairwise_map, List.pairwise_reverse]
  exact h.imp fun {a b} h => Int.neg_lt_neg h
theorem rise_lin {ms : List Int} (h : ms.Pairwise (· < ·)) : (ms.map fun z => 7 * z - 3).Pairwise (· < ·) := by
  rw [List.pairwise_map]
  exact h.imp fun {a b} h => by omega
theorem ev2_sub {α : Type} : ∀ xs : List α, (ev2 xs).Sublist xs
  | [] => List.Sublist.slnil
  | [x] => List.Sublist.refl _
  | x :: y :: r => List.Sublist.cons₂ x (List.Sublist.cons y (ev2_sub r))
theorem rise_range {f : Nat → Int} {n : Nat} (h : ∀ i j, i < j → f i < f j) : ((List.range n).map f).Pairwise (· < ·) := by
  rw [List.pairwise_map]
  exact (List.pairwise_lt_range (n := n)).imp fun {a b} h' => h a b h'
/-! sorted pairs -/
theorem cr_sortedPOk {X : Cx} {K : PySem.W.Frag} (hK : X.K = K := by rfl) : CallR X (.builtin "sorted") (rSortedPO K) := by subst hK; exact cr_sortedPO
theorem perm2 {α : Type} {ys : List α} {u v : α} (h : ys.Perm [u, v]) : ys = [u, v] ∨ ys = [v, u] := by
  match ys, h.length_eq with
  | [x, y], _ =>
    rcases List.mem_cons.mp (h.mem_iff.mp List.mem_cons_self) with e | e
    · subst e
      have := h.cons_inv.eq_singleton
      exact .inl (by rw [List.cons.inj this |>.1])
    · rw [List.mem_singleton] at e
      subst e
      have := (h.trans (List.Perm.swap x u [])).cons_inv.eq_singleton
      exact .inr (by rw [List.cons.inj this |>.1])
def kf (p1 : Addr) (a b c d : Int) (v : V) : Int × Int := if v = .ref p1 then (a, b) else (c, d)
theorem sorted2 {K : PySem.W.Frag} {H : Hp} {Q : VK} {p p1 p2 : Addr} {a b c d : Int} (hS : SqL K H p [.ref p1, .ref p2]) (e1 : H p1 = some (.tup [.int a, .int b])) (e2 : H p2 = some (.tup [.int c, .int d])) (lt : SrtO.lexB (a, b) (c, d) = true)
    (q : ∀ r, H r = none → Q (.ref r) (upd H r (.lst [.ref p1, .ref p2]))) : rSortedPO K [.ref p] H Q := by
  have ne : p2 ≠ p1 := fun e => by
    rw [e, e1] at e2
    cases e2
    exact absurd (SrtO.lexB_iff.mp lt) (by dsimp only; omega)
  have k1 : kf p1 a b c d (.ref p1) = (a, b) := if_pos rfl
  have k2 : kf p1 a b c d (.ref p2) = (c, d) := if_neg (by intro z; cases z; exact ne rfl)
  refine ⟨p, [.ref p1, .ref p2], kf p1 a b c d, rfl, hS, fun x hx => ?_, fun ys r hs hb nr => ?_⟩
  · rcases List.mem_cons.mp hx with e | e
    · exact ⟨p1, e, by rw [e, k1]; exact e1⟩
    · rw [List.mem_singleton] at e
      exact ⟨p2, e, by rw [e, k2]; exact e2⟩
  · rcases perm2 hb.perm with e | e
    · rw [e]
      exact q r nr
    · rw [e] at hs
      have h1 : SrtO.lexB (kf p1 a b c d (.ref p1)) (kf p1 a b c d (.ref p2)) = false := (List.pairwise_cons.mp hs).1 _ List.mem_cons_self
      rw [k1, k2, lt] at h1
      cases h1
theorem sorted2' {K : PySem.W.Frag} {H : Hp} {Q : VK} {p p1 p2 : Addr} {a b c d : Int} (hS : SqL K H p [.ref p1, .ref p2]) (e1 : H p1 = some (.tup [.int a, .int b])) (e2 : H p2 = some (.tup [.int c, .int d])) (lt : SrtO.lexB (c, d) (a, b) = true)
    (q : ∀ r, H r = none → Q (.ref r) (upd H r (.lst [.ref p2, .ref p1]))) : rSortedPO K [.ref p] H Q := by
  have ne : p2 ≠ p1 := fun e => by
    rw [e, e1] at e2
    cases e2
    exact absurd (SrtO.lexB_iff.mp lt) (by dsimp only; omega)
  have k1 : kf p1 a b c d (.ref p1) = (a, b) := if_pos rfl
  have k2 : kf p1 a b c d (.ref p2) = (c, d) := if_neg (by intro z; cases z; exact ne rfl)
  refine ⟨p, [.ref p1, .ref p2], kf p1 a b c d, rfl, hS, fun x hx => ?_, fun ys r hs hb nr => ?_⟩
  · rcases List.mem_cons.mp hx with e | e
    · exact ⟨p1, e, by rw [e, k1]; exact e1⟩
    · rw [List.mem_singleton] at e
      exact ⟨p2, e, by rw [e, k2]; exact e2⟩
  · rcases perm2 hb.perm with e | e
    · rw [e] at hs
      have h1 : SrtO.lexB (kf p1 a b c d (.ref p2)) (kf p1 a b c d (.ref p1)) = false := (List.pairwise_cons.mp hs).1 _ List.mem_cons_self
      rw [k1, k2, lt] at h1
      cases h1
    · rw [e]
      exact q r nr
/-- data of two pairs -/
def dPP (a b c d : Int) : PyData := .list [.tuple (dI [a, b]), .tuple (dI [c, d])]
theorem shaped_PP (a b c d : Int) : SeqAt.shaped (dPP a b c d) = true := by
  unfold SeqAt.shaped dPP
  have h := depth_ints [a, b]
  have h' := depth_ints [c, d]
  have e := canLay_ints [a, b]
  have e' := canLay_ints [c, d]
  rw [Bool.and_eq_true, decide_eq_true_eq]
  refine ⟨by simp only [PyData.canLay0, PyData.canLayAll0, e, e', Bool.and_self], ?_⟩
  simp only [PyData.depth, PyData.depthAll]
  omega
theorem eqv_PP (a b c d : Int) : PyData.eqv (dPP a b c d) (dPP a b c d) = true := by
  unfold dPP
  have h1 := eqv_tups [a, b] [a, b]
  have h2 := eqv_tups [c, d] [c, d]
  simp only [PyData.eqv, PyData.eqvAll] at *
  rw [h1, h2]
  simp
theorem dp_PP {K : PySem.W.Frag} {H : Hp} {l p q : Addr} {a b c d : Int} (h : SqL K H l [.ref p, .ref q]) (h1 : H p = some (.tup [.int a, .int b])) (h2 : H q = some (.tup [.int c, .int d])) : Dp K H (.ref l) (dPP a b c d) :=
  .lst h (.cons (dp_tup (ns := [a, b]) (sqt_of h1)) (.cons (dp_tup (ns := [c, d]) (sqt_of h2)) .nil))
theorem two_012 {a b c d : Int} (h : SD.Two [0, 1, 2] a b c d) : (a = 0 ∧ b = 2 ∧ c = 1 ∧ d = 1) ∨ (a = 1 ∧ b = 1 ∧ c = 0 ∧ d = 2) := by
  obtain ⟨a0, ab, bn, c0, cd, dn, ne, e⟩ := h
  have hb : b < 3 := bn
  have hd : d < 3 := dn
  have v : ∀ x : Int, 0 ≤ x → x < 3 → SD.ix [0, 1, 2] x.toNat = x := fun x h0 h1 => by
    have : x = 0 ∨ x = 1 ∨ x = 2 := by omega
    rcases this with rfl | rfl | rfl <;> rfl
  rw [v a a0 (by omega), v b (by omega) hb, v c c0 (by omega), v d (by omega) hd] at e
  omega
theorem sorted_012 {K : PySem.W.Frag} {H : Hp} {Q : VK} {p p1 p2 : Addr} {a b c d : Int} (two : SD.Two [0, 1, 2] a b c d) (hS : SqL K H p [.ref p1, .ref p2]) (e1 : H p1 = some (.tup [.int a, .int b])) (e2 : H p2 = some (.tup [.int c, .int d]))
    (q : ∀ r H' qa qb, Same H H' → H' r = some (.lst [.ref qa, .ref qb]) → H' qa = some (.tup [.int 0, .int 2]) → H' qb = some (.tup [.int 1, .int 1]) → Q (.ref r) H') : rSortedPO K [.ref p] H Q := by
  rcases two_012 two with ⟨rfl, rfl, rfl, rfl⟩ | ⟨rfl, rfl, rfl, rfl⟩
  · exact sorted2 hS e1 e2 (by decide) fun r nr => q r _ p1 p2 (same_new nr) upd_same (same_new nr _ _ e1) (same_new nr _ _ e2)
  · exact sorted2' hS e1 e2 (by decide) fun r nr => q r _ p2 p1 (same_new nr) upd_same (same_new nr _ _ e2) (same_new nr _ _ e1)
end Sa
/-! a comprehension over a range with an if; lists of truths compared -/
namespace Sa
open PySem PySem.Spec PyProof.Rows L2 Evl
theorem lc_filtR {lo : Int} {n j : Nat} {tt : TT} {te : TE} {vs : List Nat} {σ : L2.St} {H1 : Hp} {Q : VK} (p : Nat → Bool) (v : Nat → V) (hw : ∀ x, wipe ((wipe σ vs).set j (some x)) vs = wipe σ vs) (hn : n ≤ 1000000)
    (ht : ∀ (i : Nat) (H' : Hp), i < n → ∀ R : Bool → Hp → Prop, R (p i) H' → tt ((wipe σ vs).set j (some (.int (lo + (i : Int))))) H' R)
    (he : ∀ (i : Nat) (H' : Hp), i < n → Same H1 H' → ∀ Q : VK, (∀ H2, Same H' H2 → Q (v i) H2) → te ((wipe σ vs).set j (some (.int (lo + (i : Int))))) H' Q)
    (hd : ∀ D H', H1 D = none → Same H1 H' → H' D = some (.lst (((List.range n).filter p).map v)) → Q (.ref D) H') : tLc (itI (Itr lo n)) (gName j) tt te vs σ H1 Q := fun D hD => by
  refine lc_range (fun i H' => Same H1 H' ∧ H' D = some (.lst (((List.range i).filter p).map v))) ⟨same_mut (Same.refl _) hD, upd_same⟩ (fun i H' hi ⟨s, e⟩ => ?_) (fun H' ⟨s, e⟩ => hd D H' hD s e)
  refine ⟨hw _, ht i H' hi _ ?_⟩
  have e1 : (List.range (i + 1)).filter p = (List.range i).filter p ++ (if p i = true then [i] else []) := by
    rw [List.range_succ, List.filter_append]
    by_cases h : p i = true
    · rw [List.filter_cons_of_pos h, if_pos h]
      rfl
    · rw [List.filter_cons_of_neg h, if_neg h]
      rfl
  by_cases h : p i = true
  · rw [if_pos h]
    rw [if_pos h] at e1
    refine he i H' hi s _ fun H2 s2 => ⟨((List.range i).filter p).map v, s2 _ _ e, ?_, same_mut (s.trans s2) hD, ?_⟩
    · rw [List.length_map]
      have := List.length_filter_le p (List.range i)
      rw [List.length_range] at this
      exact Nat.lt_of_lt_of_le (Nat.lt_of_le_of_lt this (Nat.lt_of_lt_of_le hi hn)) (show 1000000 ≤ sizeLine by decide)
    · rw [upd_same, e1, List.map_append]
      rfl
  · rw [if_neg h]
    rw [if_neg h, List.append_nil] at e1
    refine ⟨s, ?_⟩
    rw [e1]
    exact e
/-! lists of truths -/
def dB (bs : List Bool) : List PyData := bs.map PyData.bool
theorem canLay_bls : ∀ bs : List Bool, PyData.canLayAll0 (dB bs) = true
  | [] => by simp [dB, PyData.canLayAll0]
  | b :: bs => by
    have := canLay_bls bs
    simp only [dB, List.map_cons, PyData.canLayAll0, PyData.canLay0, Bool.true_and] at *
    exact this
theorem depth_bls : ∀ bs : List Bool, PyData.depthAll (dB bs) ≤ 1
  | [] => by simp [dB, PyData.depthAll]
  | b :: bs => by
    have := depth_bls bs
    simp only [dB, List.map_cons, PyData.depthAll, PyData.depth] at *
    omega
theorem shaped_bls (bs : List Bool) : SeqAt.shaped (.list (dB bs)) = true := by
  unfold SeqAt.shaped
  have h := depth_bls bs
  rw [Bool.and_eq_true, decide_eq_true_eq]
  refine ⟨by simp only [PyData.canLay0]; exact canLay_bls bs, ?_⟩
  simp only [PyData.depth]
  omega
theorem eqv_bls : ∀ bs : List Bool, PyData.eqv (.list (dB bs)) (.list (dB bs)) = true := fun bs => by
  have : ∀ bs : List Bool, PyData.eqvAll (dB bs) (dB bs) = true := fun bs => by
    induction bs with
    | nil => simp [dB, PyData.eqvAll]
    | cons b bs ih =>
      show (PyData.eqv (.bool b) (.bool b) && PyData.eqvAll (dB bs) (dB bs)) = true
      rw [ih]
      cases b <;> simp [PyData.eqv]
  simp only [PyData.eqv]
  exact this bs
theorem dpAll_bls {K : PySem.W.Frag} {H : Hp} : ∀ bs : List Bool, DpAll K H (bs.map V.bl) (dB bs)
  | [] => .nil
  | b :: bs => .cons (.bl b) (dpAll_bls bs)
theorem dp_bls {K : PySem.W.Frag} {H : Hp} {a : Addr} {bs : List Bool} (h : SqL K H a (bs.map V.bl)) : Dp K H (.ref a) (.list (dB bs)) := .lst h (dpAll_bls bs)
/-- what any finds among the parts below 80 -/
theorem parted {n : Int} (h3 : 3 ≤ n) (h5 : n < 6000) : (((List.range 78).filter fun i : Nat => decide ((2 + (i : Int)) * (2 + (i : Int)) ≤ n)).map fun i : Nat => decide (n % (2 + (i : Int)) = 0)).any id = !isP n := by
  have key : (((List.range 78).filter fun i : Nat => decide ((2 + (i : Int)) * (2 + (i : Int)) ≤ n)).map fun i : Nat => decide (n % (2 + (i : Int)) = 0)).any id = true ↔ ¬ NT.Pr n := by
    rw [List.any_eq_true]
    constructor
    · rintro ⟨b, hb, e⟩ pr
      obtain ⟨i, hi, rfl⟩ := List.mem_map.mp hb
      have h1 := of_decide_eq_true (List.mem_filter.mp hi).2
      have h2 : n % (2 + (i : Int)) = 0 := of_decide_eq_true e
      exact pr.2 (2 + (i : Int)) (by omega) h1 (Int.dvd_of_emod_eq_zero h2)
    · intro np
      have : ∃ d : Int, 2 ≤ d ∧ d * d ≤ n ∧ d ∣ n := Classical.byContradiction fun z => np ⟨by omega, fun d h1 h2 h4 => z ⟨d, h1, h2, h4⟩⟩
      obtain ⟨d, d2, dd, dn⟩ := this
      have hd : d < 80 := by
        rcases Int.lt_or_le d 80 with h | h
        · exact h
        · have : 80 * 80 ≤ d * d := Int.mul_le_mul h h (by omega) (by omega)
          omega
      have ed : 2 + (((d - 2).toNat : Nat) : Int) = d := by omega
      refine ⟨true, List.mem_map.mpr ⟨(d - 2).toNat, List.mem_filter.mpr ⟨List.mem_range.mpr (by omega), ?_⟩, ?_⟩, rfl⟩
      · rw [ed]
        exact decide_eq_true dd
      · rw [ed]
        exact decide_eq_true (Int.emod_eq_zero_of_dvd dn)
  have e2 := isP_iff (n := n) (by omega)
  cases hp : isP n with
  | true =>
    cases ha : (((List.range 78).filter fun i : Nat => decide ((2 + (i : Int)) * (2 + (i : Int)) ≤ n)).map fun i : Nat => decide (n % (2 + (i : Int)) = 0)).any id with
    | true => exact absurd (e2.mp hp) (key.mp ha)
    | false => rfl
  | false =>
    refine key.mpr fun z => ?_
    rw [e2.mpr z] at hp
    cases hp
theorem take_many {K : PySem.W.Frag} {c cls : Value} {ts : Addr → Value → Option Addr → TS} {Wout : WX} {D : Ends} {d : Option Addr} {σ : L2.St} {H : Hp} (e : PySem.W.exmOne K cls c = some true) (k : ∀ a, H a = none → ts a cls d D σ H) : wMany K Wout D [(c, ts)] cls d σ H :=
  ⟨true, e, fun _ => k, fun z => Bool.noConfusion z⟩
end Sa
/-! walks of a list or of a tuple; comprehensions over a tuple, over an enumeration -/
namespace Sa
open PySem PySem.Spec PyProof.Rows L2 Evl
def iAlt (u w : TI) : TI := fun σ H R => u σ H R ∨ w σ H R
theorem pi_alt {X : Cx} {tg e : Expr} {u w : TI} (h : PI X tg e u) (g : PI X tg e w) : PI X tg e (iAlt u w) := ⟨fun pins s σ H R I q => q.elim (h.run pins s σ H R I) (g.run pins s σ H R I)⟩
theorem rd_lcA {u w : TI} {g : TG} {tt : TT} {te : TE} {vs : List Nat} {σ : L2.St} {H : Hp} {Q : VK} (h : tLc u g tt te vs σ H Q ∨ tLc w g tt te vs σ H Q) : tLc (iAlt u w) g tt te vs σ H Q := h.elim (fun h => .inl h) (fun h => .inr h)
theorem lc_mapT {K : PySem.W.Frag} {a : Addr} {xs : List V} {j : Nat} {te : TE} {vs : List Nat} {σ : L2.St} {H1 : Hp} {Q : VK} (v : Nat → V) (hw : ∀ x, wipe ((wipe σ vs).set j (some x)) vs = wipe σ vs) (hS : H1 a = some (.tup xs)) (hn : xs.length ≤ 1000000)
    (he : ∀ (i : Nat) (x : V) (H' : Hp), xs[i]? = some x → Same H1 H' → ∀ Q : VK, (∀ H2, Same H' H2 → Q (v i) H2) → te ((wipe σ vs).set j (some x)) H' Q)
    (hd : ∀ D H', H1 D = none → Same H1 H' → H' D = some (.lst ((List.range xs.length).map v)) → Q (.ref D) H') : tLc (itI (Itt K a)) (gName j) tYes te vs σ H1 Q := fun D hD => by
  refine lc_tup (xs := xs) (fun i H' => Same H1 H' ∧ H' D = some (.lst ((List.range i).map v))) ⟨same_mut (Same.refl _) hD, upd_same⟩ (fun i H' _ ⟨s, _⟩ => sqt_of (s _ _ hS)) (fun i x H' hi ⟨s, e⟩ => ?_) (fun H' ⟨s, e⟩ => hd D H' hD s e)
  refine ⟨hw _, ?_⟩
  unfold tYes
  dsimp only
  rw [if_pos rfl]
  refine he i x H' hi s _ fun H2 s2 => ⟨(List.range i).map v, s2 _ _ e, ?_, same_mut (s.trans s2) hD, ?_⟩
  · rw [List.length_map, List.length_range]
    have := (List.getElem?_eq_some_iff.mp hi).1
    exact Nat.lt_of_lt_of_le (Nat.lt_of_lt_of_le this hn) (show 1000000 ≤ sizeLine by decide)
  · rw [upd_same, List.range_succ, List.map_append]
    rfl
theorem pg_tupk {X : Cx} {K : PySem.W.Frag} {tg : Expr} {t : TGs} {n : Nat} (h : PG X tg (gTup X.K n t)) (hK : X.K = K := by rfl) : PG X tg (gTup K n t) := by
  subst hK
  exact h
theorem rd_lcE {K : PySem.W.Frag} {ta : TA} {g : TG} {tt : TT} {te : TE} {vs : List Nat} {σ : L2.St} {H : Hp} {Q : VK} : tLc (iEnum K ta) g tt te vs σ H Q = ta σ H fun us H1 => ∃ a xs, us = [.ref a] ∧ SqL K H1 a xs ∧ tLc (itI (Ite K a)) g tt te vs σ H1 Q := rfl
/-- [.. for i, x in enumerate(xs)], each element an int -/
theorem lc_enumI {K : PySem.W.Frag} {a : Addr} {xs : List V} {g : TG} {te : TE} {vs : List Nat} {σ : L2.St} {H1 : Hp} {Q : VK} (hS : SqL K H1 a xs) (hn : xs.length ≤ 1000000)
    (he : ∀ (i : Nat) (x : V) (T : Addr) (H' : Hp), xs[i]? = some x → Same H1 H' → H' T = none → ∀ R : VK, (∀ z H2, Same H' H2 → R (.int z) H2) →
      g (.ref T) (wipe σ vs) (upd H' T (.tup [.int (i : Nat), x])) fun σ2 H2 => wipe σ2 vs = wipe σ vs ∧ te σ2 H2 R)
    (hd : ∀ D H' (ns : List Int), H1 D = none → Same H1 H' → H' D = some (.lst (ns.map V.int)) → ns.length = xs.length → Q (.ref D) H') : tLc (itI (Ite K a)) g tYes te vs σ H1 Q := fun D hD => by
  refine ⟨fun i m H => m = xs.length - i ∧ i ≤ xs.length ∧ Same H1 H ∧ ∃ ns : List Int, H D = some (.lst (ns.map V.int)) ∧ ns.length = i, ⟨xs.length, by simp, Nat.zero_le _, same_mut (Same.refl _) hD, [], upd_same, rfl⟩, ?_⟩
  rintro i m H ⟨rfl, hi, s, ns, e, l⟩
  have q := s.seq hS
  by_cases hlt : i < xs.length
  · refine .inr ⟨⟨xs, xs[i], q, by simp [hlt]⟩, fun H' => i + 1 ≤ xs.length ∧ Same H1 H' ∧ ∃ ns : List Int, H' D = some (.lst (ns.map V.int)) ∧ ns.length = i + 1, fun H' ⟨p1, p2⟩ => ⟨xs.length - (i + 1), by omega, rfl, p1, p2⟩, fun v H' y => ?_⟩
    obtain ⟨T, x, rfl, nT, rfl, hx⟩ := y
    exact he i x T H (hx xs q) s nT (fun y H3 => ∃ acc, H3 D = some (.lst acc) ∧ acc.length < sizeLine ∧ (i + 1 ≤ xs.length ∧ Same H1 (upd H3 D (.lst (acc ++ [y]))) ∧ ∃ ns : List Int, upd H3 D (.lst (acc ++ [y])) D = some (.lst (ns.map V.int)) ∧ ns.length = i + 1))
      (fun z H2 s2 => ⟨_, s2 _ _ e, by rw [List.length_map, l]; exact Nat.lt_of_lt_of_le (Nat.lt_of_lt_of_le hlt hn) (show 1000000 ≤ sizeLine by decide), hlt, same_mut (s.trans s2) hD, ns ++ [z], by rw [upd_same, List.map_append]; rfl, by rw [List.length_append, l]; rfl⟩)
  · have : i = xs.length := by omega
    subst this
    exact .inl ⟨⟨xs, q, Nat.le_refl _⟩, hd D H ns hD s e l⟩
/-- what holds as long as the tuples stay -/
def TupsStay (H H' : Hp) : Prop := ∀ b t, H b = some (.tup t) → H' b = some (.tup t)
theorem TupsStay.of {H H' : Hp} (s : Same H H') : TupsStay H H' := fun b t e => s b _ e
/-- a comprehension over a tuple whose elements are told by a relation that asks for tuples alone -/
theorem lc_relT {K : PySem.W.Frag} {a : Addr} {xs : List V} {j : Nat} {te : TE} {vs : List Nat} {σ : L2.St} {H1 : Hp} {Q : VK} (R : Nat → V → Hp → Prop) (mono : ∀ i y H H', TupsStay H H' → R i y H → R i y H') (hw : ∀ x, wipe ((wipe σ vs).set j (some x)) vs = wipe σ vs) (hS : H1 a = some (.tup xs)) (hn : xs.length ≤ 1000000)
    (he : ∀ (i : Nat) (x : V) (H' : Hp), xs[i]? = some x → Same H1 H' → ∀ Q : VK, (∀ y H2, Same H' H2 → R i y H2 → Q y H2) → te ((wipe σ vs).set j (some x)) H' Q)
    (hd : ∀ D H' ys, H1 D = none → Same H1 H' → H' D = some (.lst ys) → ys.length = xs.length → (∀ i y, ys[i]? = some y → R i y H') → Q (.ref D) H') : tLc (itI (Itt K a)) (gName j) tYes te vs σ H1 Q := fun D hD => by
  refine lc_tup (xs := xs) (fun i H' => Same H1 H' ∧ ∃ ys, H' D = some (.lst ys) ∧ ys.length = i ∧ ∀ k y, ys[k]? = some y → R k y H') ⟨same_mut (Same.refl _) hD, [], upd_same, rfl, fun k y h => by simp at h⟩ (fun i H' _ ⟨s, _⟩ => sqt_of (s _ _ hS)) (fun i x H' hi ⟨s, ys, e, l, r⟩ => ?_)
    (fun H' ⟨s, ys, e, l, r⟩ => hd D H' ys hD s e l r)
  refine ⟨hw _, ?_⟩
  unfold tYes
  dsimp only
  rw [if_pos rfl]
  refine he i x H' hi s _ fun y H2 s2 ry => ⟨ys, s2 _ _ e, ?_, same_mut (s.trans s2) hD, ys ++ [y], upd_same, by rw [List.length_append, l]; rfl, ?_⟩
  · have := (List.getElem?_eq_some_iff.mp hi).1
    rw [l]
    exact Nat.lt_of_lt_of_le (Nat.lt_of_lt_of_le this hn) (show 1000000 ≤ sizeLine by decide)
  · have st : TupsStay H2 (upd H2 D (.lst (ys ++ [y]))) := fun b t eb => by
      rw [upd_ne (fun z => by rw [z, s2 _ _ e] at eb; cases eb)]
      exact eb
    intro k z hk
    rcases Nat.lt_or_ge k ys.length with h | h
    · rw [List.getElem?_append_left h] at hk
      exact mono k z _ _ st (mono k z _ _ (TupsStay.of s2) (r k z hk))
    · rw [List.getElem?_append_right h] at hk
      have hk0 : k - ys.length = 0 := by
        rcases Nat.eq_zero_or_pos (k - ys.length) with q | q
        · exact q
        · rw [List.getElem?_eq_none (by simp; omega)] at hk
          cases hk
      rw [hk0] at hk
      cases hk
      have : k = i := by omega
      rw [this]
      exact mono i _ _ _ st ry
end Sa
/-! a lambda handed to a def; list.count of flat things; the error in a suite of either kind -/
namespace Sa
open PySem PySem.Spec PyProof.Rows L2 Evl
/-! an error whose context is known is an error -/
theorem trZ {base h : Heap} {e : Addr} {Z Z' : Obj → Prop} {fl : Value} {l : List Env} (m : ∀ o, Z o → Z' o) (x : HandSPX.FlyingZ base l e Z h) : HandSPX.FlyingZ base l e Z' h := by
  obtain ⟨k1, k2, k3, oe, vs, T, oT, ts', he, hz, r⟩ := x
  exact ⟨k1, k2, k3, oe, vs, T, oT, ts', he, m _ hz, r⟩
theorem cxN_cx {P : Program} {w : World} {outer : List Env} {H : Hp} {s : Shared} {E : XK} {u : Value} {s' : Shared} (c : L2N.CX P w outer H s E u s') : L2.CX P w outer H s E u s' := by
  obtain ⟨a, B, H', cls, d, e, fl, r⟩ := c
  exact ⟨a, B, H', cls, d, e, trZ (fl := .none) (fun o z => z.zc) fl, r⟩
theorem fnN {P : Program} {w : World} {K : PySem.W.Frag} {mg : Str → Option Value} {base : Heap} {k : Nat} {f : Addr} {fd : FuncData} {ps : List Str} {sp : Sp} (F : FnOk P w K mg base (L2N.CX P w) k f fd ps sp) : FnOk P w K mg base (L2.CX P w) k f fd ps sp :=
  ⟨F.len, fun A outer s H args us vs Q E hr e0 hb r q => codeAny_mono (F.run A outer s H args us vs Q E hr e0 hb r q) fun r s' h => by
    cases r with
    | error e => exact cxN_cx h
    | ok fl => cases fl <;> exact h⟩
theorem call_isXc {X : Cx} {K : PySem.W.Frag} {cls : Value} {a : Addr} {oe : Obj} {pn : List (Addr × Obj)} {d : Option Addr} (hz : Zc cls d oe) (hf : ∃ vs, oe.data = .fields vs) (hK : X.K = K := by rfl) : CallR (X.suite a ((a, oe) :: pn)) (.builtin "isinstance") (rIsX K cls d a) := by
  subst hK
  intro pins s σ H xs us Q I r h
  obtain ⟨D, c, cv, b, rfl, rfl, C, rfl, hcv, hk, q⟩ := h
  exact call_isE C hz hf pins s σ H _ us Q I r ⟨c, cv, b, rfl, hcv, hk, q⟩
def rCntF (K : PySem.W.Frag) : V → List V → Hp → VK → Prop := fun x xs H Q => ∃ (p : Addr) (ys : List V) (y : V), x = .ref p ∧ xs = [y] ∧ SqL K H p ys ∧ flatV y = true ∧ ys.all flatV = true ∧ Q (.int ((ys.countP fun z => eqV z y : Nat) : Int)) H
theorem cnt_eq {y : V} : ∀ {us : List Value} {ys : List V}, Vals ys us → ys.all flatV = true → us.countP (eqU y) = ys.countP fun z => eqV z y
  | _, _, .nil, _ => rfl
  | _, _, .cons r t, f => by
    rw [List.all_cons, Bool.and_eq_true] at f
    rw [List.countP_cons, List.countP_cons, cnt_eq t f.2, eqU_of r f.1]
theorem mt_lcountF {X : Cx} {K : PySem.W.Frag} (hK : X.K = K := by rfl) : MtR X "list.count" (rCntF K) := by
  subst hK
  intro pins s σ H x xs v us Q I rx rxs h
  obtain ⟨p, ys, y, rfl, rfl, hs, fy, fys, q⟩ := h
  cases rx
  obtain ⟨u, rfl, ru⟩ := rxs.one
  obtain ⟨its, rv, ⟨⟨cls, dd, data, sl⟩, n, ho, hc, hdn, hd⟩, hlen⟩ := I.list hs
  simp only at hc hd
  subst hc hd
  refine call_meets PySem.F.slot_list_count ⟨_, ho, rfl⟩ PySem.F.entry_list_count (PySem.F.args_list_count_2 _ _)
    (SeqAt.list_countAt p its.toArray n dd sl u (eqU y)) ⟨ho, fun z hz => mem_eqAt ru fy rv fys z (by simpa using hz), ?_⟩
  have ec : its.toArray.toList.countP (eqU y) = ys.countP fun z => eqV z y := cnt_eq rv fys
  refine ⟨.int ((ys.countP fun z => eqV z y : Nat) : Int), H, I.tok _, ⟨s.toks, ?_⟩, q⟩
  show Value.int ((its.toArray.toList.countP (eqU y) : Nat) : Int) s.toks = Value.int ((ys.countP fun z => eqV z y : Nat) : Int) s.toks
  rw [ec]
theorem mt_indexk {X : Cx} {K : PySem.W.Frag} (hK : X.K = K := by rfl) : MtR X "list.index" (rIndex K) := by subst hK; exact mt_index
theorem pe_bmk {X : Cx} {K : PySem.W.Frag} {e : Expr} {to : TE} {t : TA} {T : String} {r : V → List V → Hp → VK → Prop} (h : PE X e (tBM X.K T r to t)) (hK : X.K = K := by rfl) : PE X e (tBM K T r to t) := by
  subst hK
  exact h
theorem takes_len {X : Cx} {W : WX} {E : XK} (tk : L2.Takes X W) (h : ∀ cls d σ H, σ.length = X.N.length → E cls d H → W cls d σ H) : L2.Takes X (fun cls d _ H => E cls d H) := fun u s' ⟨a, B, sI, pins, σ, H, cls, d, e, I, nb, up, sky, na, os, ag, w⟩ =>
  tk u s' ⟨a, B, sI, pins, σ, H, cls, d, e, I, nb, up, sky, na, os, ag, h _ _ _ _ I.len w⟩
/-- a def that raises nothing, its code object known -/
theorem okC {P : Program} {w : World} {K : PySem.W.Frag} {mg : Str → Option Value} {base : Heap} {x qual : Str} {st : Stmt} {f : Addr} {N ps : List Str} {k : Nat} {sp : Sp} {oc kV doc pm cdv ct : Value} {od an : Option Addr} {osl : Array (Option Value)}
    (lk : K.lookup f = some ⟨oc, od, .func (PySem.W.fnOf x qual (defArgs st) (defBody st) (defScope st) .none kV doc pm an cdv ct), osl⟩) (hcd : PySem.W.codeIn K cdv qual = true) (S : FnScope N ps (defScope st)) (len : ∀ vs H Q E, sp vs H Q E → vs.length = ps.length)
    (hbody : ∀ (A : Around) (outer : List Env) (s : Shared) (H : Hp) (vs : List V) (Q : VK) (E : XK), Room k (A.deeper (envOfC qual (defScope st) s.heap.objs.size f cdv)) → sp vs H Q E →
      ∃ t, PSs (cxOf CX0 P w K mg base N qual (defScope st) f cdv A outer s H E).nox (defBody st) t ∧ t { nx := fun _ H' => Q .non H', rt := Q } (start N vs) H) :
    FnOk P w K mg base CX0 (k + 1) f (PySem.W.fnOf x qual (defArgs st) (defBody st) (defScope st) .none kV doc pm an cdv ct) ps sp := fn_of lk hcd S len fun A outer s H vs Q E hr hsp => by
  obtain ⟨t, h, q⟩ := hbody A outer s H vs Q E hr hsp
  exact ⟨t, h.nox, q⟩
/-! heaps in which the tables alone may grow -/
theorem extN_of {H H' : Hp} (s : Same H H') : LamX.ExtN H H' := fun b o e _ => s b o e
theorem extN_lst {H H' : Hp} {a : Addr} {xs : List V} (s : LamX.ExtN H H') (e : H a = some (.lst xs)) : H' a = some (.lst xs) := s _ _ e fun ps z => by cases z
theorem extN_tup {H H' : Hp} {a : Addr} {xs : List V} (s : LamX.ExtN H H') (e : H a = some (.tup xs)) : H' a = some (.tup xs) := s _ _ e fun ps z => by cases z
theorem extN_seq {K : PySem.W.Frag} {H H' : Hp} {a : Addr} {xs : List V} (s : LamX.ExtN H H') (h : SqL K H a xs) : SqL K H' a xs := by
  rcases h with (h | ⟨o, h⟩) | h
  · exact .inl (.inl (extN_lst s h))
  · exact .inl (.inr ⟨o, s _ _ h fun ps z => by cases z⟩)
  · exact .inr h
end Sa
/-! pairs or None, told and compared; cases: two tuples and a truth -/
namespace Sa
open PySem PySem.Spec PyProof.Rows L2 Evl
/-- a pair of ints, or None -/
def RP : Option (Int × Int) → V → Hp → Prop
  | none, y, _ => y = .non
  | some (a, b), y, H => ∃ q, y = .ref q ∧ H q = some (.tup [.int a, .int b])
theorem RP.stay {o : Option (Int × Int)} {y : V} {H H' : Hp} (s : TupsStay H H') (h : RP o y H) : RP o y H' := by
  match o, h with
  | none, h => exact h
  | some (a, b), ⟨q, e, hq⟩ => exact ⟨q, e, s _ _ hq⟩
def dO : Option (Int × Int) → PyData
  | none => .none
  | some (a, b) => .tuple (dI [a, b])
theorem RP.dp {K : PySem.W.Frag} {o : Option (Int × Int)} {y : V} {H : Hp} (h : RP o y H) : Dp K H y (dO o) := by
  match o, h with
  | none, h => rw [show y = .non from h]; exact .non
  | some (a, b), ⟨q, e, hq⟩ => rw [e]; exact dp_tup (ns := [a, b]) (sqt_of hq)
theorem canLay_os : ∀ os : List (Option (Int × Int)), PyData.canLayAll0 (os.map dO) = true
  | [] => by simp [PyData.canLayAll0]
  | o :: os => by
    have ih := canLay_os os
    cases o with
    | none => simp only [List.map_cons, dO, PyData.canLayAll0, PyData.canLay0, ih, Bool.and_self]
    | some x => simp only [List.map_cons, dO, PyData.canLayAll0, PyData.canLay0, canLay_ints, ih, Bool.and_self]
theorem depth_os : ∀ os : List (Option (Int × Int)), PyData.depthAll (os.map dO) ≤ 2
  | [] => by simp [PyData.depthAll]
  | o :: os => by
    have ih := depth_os os
    cases o with
    | none => simp only [List.map_cons, dO, PyData.depthAll, PyData.depth]; omega
    | some x =>
      have := depth_ints [x.1, x.2]
      simp only [List.map_cons, dO, PyData.depthAll, PyData.depth]
      omega
theorem shaped_os (os : List (Option (Int × Int))) : SeqAt.shaped (.list (os.map dO)) = true := by
  unfold SeqAt.shaped
  have h := depth_os os
  rw [Bool.and_eq_true, decide_eq_true_eq]
  refine ⟨by simp only [PyData.canLay0]; exact canLay_os os, ?_⟩
  simp only [PyData.depth]
  omega
theorem eqv_dO : ∀ o : Option (Int × Int), PyData.eqv (dO o) (dO o) = true
  | none => by simp [dO, PyData.eqv]
  | some x => by
    have := eqv_tups [x.1, x.2] [x.1, x.2]
    rw [decide_eq_true rfl] at this
    exact this
theorem eqv_os (os : List (Option (Int × Int))) : PyData.eqv (.list (os.map dO)) (.list (os.map dO)) = true := by
  have : ∀ os : List (Option (Int × Int)), PyData.eqvAll (os.map dO) (os.map dO) = true := fun os => by
    induction os with
    | nil => simp [PyData.eqvAll]
    | cons o os ih =>
      show (PyData.eqv (dO o) (dO o) && PyData.eqvAll (os.map dO) (os.map dO)) = true
      rw [ih, eqv_dO]
      rfl
  simp only [PyData.eqv]
  exact this os
theorem dpAll_os {K : PySem.W.Frag} {H : Hp} : ∀ {os : List (Option (Int × Int))} {ys : List V}, ys.length = os.length → (∀ (i : Nat) (y : V), ys[i]? = some y → ∃ o, os[i]? = some o ∧ RP o y H) → DpAll K H ys (os.map dO)
  | [], [], _, _ => .nil
  | o :: os, y :: ys, l, h => by
    obtain ⟨o', e, r⟩ := h 0 y rfl
    cases e
    exact .cons r.dp (dpAll_os (by simpa using l) fun i z hz => h (i + 1) z hz)
  | [], y :: ys, l, _ => by simp at l
  | o :: os, [], l, _ => by simp at l
theorem dp_os {K : PySem.W.Frag} {H : Hp} {a : Addr} {os : List (Option (Int × Int))} {ys : List V} (h : H a = some (.lst ys)) (l : ys.length = os.length) (r : ∀ (i : Nat) (y : V), ys[i]? = some y → ∃ o, os[i]? = some o ∧ RP o y H) : Dp K H (.ref a) (.list (os.map dO)) := .lst (sq_of h) (dpAll_os l r)
/-- written out -/
inductive RPs (H : Hp) : List (Option (Int × Int)) → List V → Prop
  | nil : RPs H [] []
  | non {os : List (Option (Int × Int))} {ys : List V} (r : RPs H os ys) : RPs H (none :: os) (.non :: ys)
  | pair {a b : Int} {q : Addr} {os : List (Option (Int × Int))} {ys : List V} (e : H q = some (.tup [.int a, .int b])) (r : RPs H os ys) : RPs H (some (a, b) :: os) (.ref q :: ys)
theorem RPs.dpAll {K : PySem.W.Frag} {H : Hp} {os : List (Option (Int × Int))} {ys : List V} (h : RPs H os ys) : DpAll K H ys (os.map dO) := by
  induction h with
  | nil => exact .nil
  | non r ih => exact .cons .non ih
  | pair e r ih => exact .cons (dp_tup (ns := [_, _]) (sqt_of e)) ih
theorem neD_same {K : PySem.W.Frag} {H : Hp} {Q : VK} {a b : Addr} {d : PyData} (h : Dp K H (.ref a) d) (h' : Dp K H (.ref b) d) (s : SeqAt.shaped d = true) (e : PyData.eqv d d = true) (q : Q (.bl false) H) : rNeD K (.ref a) (.ref b) H Q :=
  ⟨d, d, h, h', s, s, by rw [e]; exact q⟩
theorem neD_ints {K : PySem.W.Frag} {H : Hp} {Q : VK} {a b : Addr} (ns : List Int) (h : H a = some (.lst (ns.map V.int))) (h' : H b = some (.lst (ns.map V.int))) (q : Q (.bl false) H) : rNeD K (.ref a) (.ref b) H Q :=
  neD_same (dp_list (sq_of h)) (dp_list (sq_of h')) (shaped_list ns) (by rw [eqv_ints, decide_eq_true rfl]) q
/-! the least prime's pairs -/
theorem mk3 {n : Int} (h0 : 0 ≤ n) (h1 : n < 3) : NT.mk 3 n = if n = 0 then 0 else if n = 1 then 7 else 13 := by
  have : n = 0 ∨ n = 1 ∨ n = 2 := by omega
  rcases this with rfl | rfl | rfl <;> decide
def sum3 (t : Int) : Option (Int × Int) := if t = 0 then some (0, 0) else if t = 7 then some (0, 1) else if t = 13 then some (0, 2) else if t = 14 then some (1, 1) else if t = 20 then some (1, 2) else if t = 26 then some (2, 2) else none
theorem pairS3 {t a b : Int} (h : NT.PairS 3 t a b) : sum3 t = some (a, b) := by
  obtain ⟨a0, ab, b3, e⟩ := h
  rw [mk3 a0 (by omega), mk3 (by omega) b3] at e
  have ha : a = 0 ∨ a = 1 ∨ a = 2 := by omega
  have hb : b = 0 ∨ b = 1 ∨ b = 2 := by omega
  rcases ha with rfl | rfl | rfl <;> rcases hb with rfl | rfl | rfl <;> first | omega | (rw [← e]; decide)
theorem sum3_some {t a b : Int} (h : sum3 t = some (a, b)) : NT.PairS 3 t a b := by
  unfold sum3 at h
  repeat' split at h
  all_goals first | (cases h; subst_vars; exact ⟨by decide, by decide, by decide, by decide⟩) | cases h
def diff3 (t : Int) : Option (Int × Int) := if t = 6 then some (1, 2) else if t = 7 then some (0, 1) else if t = 13 then some (0, 2) else none
theorem pairD3 {t a b : Int} (h : NT.PairD 3 t a b) : diff3 t = some (a, b) := by
  obtain ⟨a0, ab, b3, e⟩ := h
  rw [mk3 a0 (by omega), mk3 (by omega) b3] at e
  have ha : a = 0 ∨ a = 1 ∨ a = 2 := by omega
  have hb : b = 0 ∨ b = 1 ∨ b = 2 := by omega
  rcases ha with rfl | rfl | rfl <;> rcases hb with rfl | rfl | rfl <;> first | omega | (rw [← e]; decide)
theorem diff3_some {t a b : Int} (h : diff3 t = some (a, b)) : NT.PairD 3 t a b := by
  unfold diff3 at h
  repeat' split at h
  all_goals first | (cases h; subst_vars; exact ⟨by decide, by decide, by decide, by decide⟩) | cases h
/-! cases -/
def IPB : List (List Int × List Int × Bool) → List V → Hp → Prop
  | [], xs, _ => xs = []
  | (a, b, c) :: r, xs, H => ∃ p p1 p2 ys, xs = .ref p :: ys ∧ H p = some (.tup [.ref p1, .ref p2, .bl c]) ∧ H p1 = some (.tup (a.map V.int)) ∧ H p2 = some (.tup (b.map V.int)) ∧ IPB r ys H
def EvPB (H0 : Hp) (ta : TA) (σ : L2.St) (ab : List (List Int × List Int × Bool)) : Prop := ∀ (H : Hp) (Q : List V → Hp → Prop), Same H0 H → (∀ xs H2, Same H H2 → IPB ab xs H2 → Q xs H2) → ta σ H Q
section
variable {K : PySem.W.Frag} {H0 : Hp} {σ : L2.St}
theorem IPB.mono : ∀ {ab : List (List Int × List Int × Bool)} {xs : List V} {H H' : Hp}, Same H H' → IPB ab xs H → IPB ab xs H'
  | [], _, _, _, _, h => h
  | (a, b, c) :: r, _, _, _, s, ⟨p, p1, p2, ys, e, h0, h1, h2, h⟩ => ⟨p, p1, p2, ys, e, s _ _ h0, s _ _ h1, s _ _ h2, IPB.mono s h⟩
theorem IPB.len : ∀ {ab : List (List Int × List Int × Bool)} {xs : List V} {H : Hp}, IPB ab xs H → xs.length = ab.length
  | [], _, _, h => by rw [h]; rfl
  | (a, b, c) :: r, _, _, ⟨p, p1, p2, ys, e, _, _, _, h⟩ => by rw [e, List.length_cons, List.length_cons, IPB.len h]
theorem IPB.cat : ∀ {ab cd : List (List Int × List Int × Bool)} {xs ys : List V} {H : Hp}, IPB ab xs H → IPB cd ys H → IPB (ab ++ cd) (xs ++ ys) H
  | [], _, _, _, _, h, g => by rw [h]; exact g
  | (a, b, c) :: r, _, _, _, _, ⟨p, p1, p2, ys, e, h0, h1, h2, h⟩, g => ⟨p, p1, p2, _, by rw [e]; rfl, h0, h1, h2, IPB.cat h g⟩
theorem IPB.at : ∀ {ab : List (List Int × List Int × Bool)} {xs : List V} {H : Hp} {i : Nat} {x : V}, IPB ab xs H → xs[i]? = some x → ∃ a b c p p1 p2, (a, b, c) ∈ ab ∧ x = .ref p ∧ H p = some (.tup [.ref p1, .ref p2, .bl c]) ∧ H p1 = some (.tup (a.map V.int)) ∧ H p2 = some (.tup (b.map V.int))
  | [], _, _, i, x, h, e => by rw [h] at e; simp at e
  | (a, b, c) :: r, _, _, 0, x, ⟨p, p1, p2, ys, e, h0, h1, h2, h⟩, ex => by
    rw [e] at ex
    cases ex
    exact ⟨a, b, c, p, p1, p2, List.mem_cons_self, rfl, h0, h1, h2⟩
  | (a, b, c) :: r, _, _, i + 1, x, ⟨p, p1, p2, ys, e, h0, h1, h2, h⟩, ex => by
    rw [e] at ex
    obtain ⟨a', b', c', q, q1, q2, m, z⟩ := IPB.at (i := i) h ex
    exact ⟨a', b', c', q, q1, q2, List.mem_cons_of_mem _ m, z⟩
theorem pb_nil : EvPB H0 tNil σ [] := fun H Q _ q => q [] H (Same.refl H) rfl
theorem pb_cons {t1 t2 : TE} {ta : TA} {a b : List Int} {c : Bool} {ab : List (List Int × List Int × Bool)} (h1 : EvT H0 t1 σ a) (h2 : EvT H0 t2 σ b) (g : EvPB H0 ta σ ab) : EvPB H0 (tCons (tTup (tCons t1 (tCons t2 (tCons (tC (.bl c)) tNil)))) ta) σ ((a, b, c) :: ab) := fun H Q s q =>
  h1 H _ s fun p1 H1 s1 e1 => h2 H1 _ (s.trans s1) fun p2 H2 s2 e2 => ⟨by show 3 ≤ sizeLine; decide, fun p np => g _ _ (s.trans (s1.trans (s2.trans (same_newO np)))) fun xs H3 s3 i =>
    q _ H3 (s1.trans (s2.trans ((same_newO np).trans s3))) ⟨p, p1, p2, xs, rfl, s3 _ _ upd_same, s3 _ _ ((same_newO np) _ _ (s2 _ _ e1)), s3 _ _ ((same_newO np) _ _ e2), i⟩⟩
theorem asg_pb {ta : TA} {H : Hp} {Q : VK} {ab : List (List Int × List Int × Bool)} (h : EvPB H ta σ ab) (hl : ab.length ≤ 1000) (q : ∀ l xs H', Same H H' → H l = none → H' l = some (.lst xs) → IPB ab xs H' → Q (.ref l) H') : tLst ta σ H Q :=
  h H _ (Same.refl H) fun xs H2 s i => ⟨by rw [i.len]; exact Nat.le_trans hl (show 1000 ≤ sizeLine by decide), fun l nl => q l xs _ (s.trans (same_newO nl)) (s.free nl) upd_same (i.mono (same_newO nl))⟩
theorem cat_pb {ty : TE} {ta : TA} {H : Hp} {Q : VK} {l0 : Addr} {xs0 : List V} {ab cd : List (List Int × List Int × Bool)} (hy : EvEH H ty σ (.ref l0)) (h0 : H l0 = some (.lst xs0)) (i0 : IPB ab xs0 H) (h : EvPB H ta σ cd) (hl : ab.length + cd.length ≤ 1000)
    (q : ∀ l xs H', Same H H' → H l = none → H' l = some (.lst xs) → IPB (ab ++ cd) xs H' → Q (.ref l) H') : tOp rCat ty (tLst ta) σ H Q :=
  hy H _ (Same.refl H) (asg_pb h (by omega) fun l1 xs1 H1 s1 n1 e1 i1 => ⟨l0, l1, xs0, xs1, rfl, rfl, s1 _ _ h0, e1, by
    rw [i0.len, i1.len]
    exact Nat.le_trans hl (show 1000 ≤ sizeLine by decide), fun l nl => q l _ _ (s1.trans (same_newO nl)) (s1.free nl) upd_same (((i0.mono s1).cat i1).mono (same_newO nl))⟩)
end
/-- a tuple of written ints -/
theorem et_lit {H0 : Hp} {σ : L2.St} {ta : TA} {ns : List Int} (h : EvIs H0 ta σ ns) (hl : ns.length ≤ 1000) : EvT H0 (tTup ta) σ ns := et_tup h hl
end Sa
/-! the numbers that are barred behind marks, and the least that is not -/
namespace BH
open SD
def bar (ms : List Int) : List Int := ms.flatMap fun a => ms.flatMap fun b => ms.map fun c => a + b - c
theorem mem_bar {ms : List Int} {x : Int} : x ∈ bar ms ↔ ∃ a ∈ ms, ∃ b ∈ ms, ∃ c ∈ ms, a + b - c = x := by
  simp only [bar, List.mem_flatMap, List.mem_map]
def Least (ms : List Int) (x : Int) : Prop := ∃ l, ms.getLast? = some l ∧ l < x ∧ x ∉ bar ms ∧ ∀ y, l < y → y < x → y ∈ bar ms
def Next (ms : List Int) (x : Int) : Prop := (ms = [] ∧ x = 0) ∨ Least ms x
theorem Least.uniq {ms : List Int} {x y : Int} (h : Least ms x) (g : Least ms y) : x = y := by
  obtain ⟨l, e, h1, h2, h3⟩ := h
  obtain ⟨l', e', g1, g2, g3⟩ := g
  rw [e] at e'
  cases e'
  rcases Int.lt_trichotomy x y with k | k | k
  · exact absurd (g3 x h1 k) h2
  · exact k
  · exact absurd (h3 y g1 k) g2
theorem Least.ne {ms : List Int} {x : Int} (h : Least ms x) : ms ≠ [] := by
  obtain ⟨l, e, _⟩ := h
  intro z
  rw [z] at e
  cases e
theorem Next.uniq {ms : List Int} {x y : Int} (h : Next ms x) (g : Next ms y) : x = y := by
  rcases h with ⟨h1, h2⟩ | h <;> rcases g with ⟨g1, g2⟩ | g
  · rw [h2, g2]
  · exact absurd h1 g.ne
  · exact absurd g1 h.ne
  · exact h.uniq g
theorem ix_get {ms : List Int} {i : Nat} (h : i < ms.length) : ix ms i = ms[i] := by
  unfold ix
  rw [List.getD_eq_getElem?_getD, List.getElem?_eq_getElem h]
  rfl
theorem ix_lt {ms : List Int} (h : ms.Pairwise (· < ·)) {i j : Nat} (hj : j < ms.length) (hij : i < j) : ix ms i < ix ms j := by
  rw [ix_get hj, ix_get (show i < ms.length by omega)]
  exact List.pairwise_iff_getElem.mp h i j (by omega) hj hij
theorem ix_inj {ms : List Int} (h : ms.Pairwise (· < ·)) {i j : Nat} (hi : i < ms.length) (hj : j < ms.length) (e : ix ms i = ix ms j) : i = j := by
  rcases Nat.lt_trichotomy i j with k | k | k
  · have := ix_lt h hj k
    omega
  · exact k
  · have := ix_lt h hi k
    omega
theorem mem_ix {ms : List Int} {x : Int} (h : x ∈ ms) : ∃ i, i < ms.length ∧ ix ms i = x := by
  obtain ⟨i, hi, e⟩ := List.getElem_of_mem h
  exact ⟨i, hi, by rw [ix_get hi, e]⟩
theorem ix_mem {ms : List Int} {i : Nat} (h : i < ms.length) : ix ms i ∈ ms := by
  rw [ix_get h]
  exact List.getElem_mem h
def SidV (ms : List Int) : Prop := ∀ a ∈ ms, ∀ b ∈ ms, ∀ c ∈ ms, ∀ d ∈ ms, a ≤ b → c ≤ d → a + b = c + d → a = c ∧ b = d
theorem sidV {ms : List Int} (h : ms.Pairwise (· < ·)) : Sid ms ↔ SidV ms := by
  constructor
  · intro s a ha b hb c hc d hd ab cd e
    obtain ⟨i, hi, rfl⟩ := mem_ix ha
    obtain ⟨j, hj, rfl⟩ := mem_ix hb
    obtain ⟨k, hk, rfl⟩ := mem_ix hc
    obtain ⟨l, hl, rfl⟩ := mem_ix hd
    have o : ∀ i j, i < ms.length → ix ms i ≤ ix ms j → i ≤ j := fun i j hi le => by
      rcases Nat.lt_or_ge j i with q | q
      · have := ix_lt h hi q
        omega
      · exact q
    have := s (i, j) (mem_prs.mpr ⟨o i j hi ab, hj⟩) (k, l) (mem_prs.mpr ⟨o k l hk cd, hl⟩) e
    cases this
    exact ⟨rfl, rfl⟩
  · intro s x hx y hy e
    obtain ⟨x1, x2⟩ := mem_prs.mp hx
    obtain ⟨y1, y2⟩ := mem_prs.mp hy
    have o : ∀ i j, i ≤ j → j < ms.length → ix ms i ≤ ix ms j := fun i j l m => by
      rcases Nat.lt_or_ge i j with q | q
      · exact Int.le_of_lt (ix_lt h m q)
      · have : i = j := by omega
        rw [this]
        exact Int.le_refl _
    obtain ⟨e1, e2⟩ := s _ (ix_mem (show x.1 < ms.length by omega)) _ (ix_mem x2) _ (ix_mem (show y.1 < ms.length by omega)) _ (ix_mem y2) (o _ _ x1 x2) (o _ _ y1 y2) e
    exact Prod.ext (ix_inj h (by omega) (by omega) e1) (ix_inj h x2 y2 e2)
theorem sid_sub {ms ns : List Int} (h : ms.Pairwise (· < ·)) (s : ns.Sublist ms) (sd : Sid ms) : Sid ns :=
  (sidV (h.sublist s)).mpr fun a ha b hb c hc d hd => (sidV h).mp sd a (s.subset ha) b (s.subset hb) c (s.subset hc) d (s.subset hd)
theorem rise_snoc {ms : List Int} {x : Int} (pw : ms.Pairwise (· < ·)) (hx : ∀ m ∈ ms, m < x) : (ms ++ [x]).Pairwise (· < ·) := by
  rw [List.pairwise_append]
  refine ⟨pw, List.pairwise_singleton _ _, fun a ha b hb => ?_⟩
  rw [List.mem_singleton] at hb
  rw [hb]
  exact hx a ha
theorem sid_snoc {ms : List Int} {x : Int} (pw : ms.Pairwise (· < ·)) (sd : Sid ms) (hx : ∀ m ∈ ms, m < x) (nb : x ∉ bar ms) : Sid (ms ++ [x]) := by
  have sv := (sidV pw).mp sd
  refine (sidV (rise_snoc pw hx)).mpr fun a ha b hb c hc d hd ab cd e => ?_
  have inn : ∀ z, z ∈ ms ++ [x] → z ∈ ms ∨ z = x := fun z hz => by
    rcases List.mem_append.mp hz with h | h
    · exact .inl h
    · exact .inr (List.mem_singleton.mp h)
  have no : ∀ a c d, a ∈ ms → c ∈ ms → d ∈ ms → a + x = c + d → False := fun a c d ha hc hd e => nb (mem_bar.mpr ⟨c, hc, d, hd, a, ha, by omega⟩)
  rcases inn b hb with hb1 | hb1 <;> rcases inn d hd with hd1 | hd1
  · have ha' : a ∈ ms := (inn a ha).resolve_right fun z => by have := hx b hb1; omega
    have hc' : c ∈ ms := (inn c hc).resolve_right fun z => by have := hx d hd1; omega
    exact sv a ha' b hb1 c hc' d hd1 ab cd e
  · have ha' : a ∈ ms := (inn a ha).resolve_right fun z => by have := hx b hb1; omega
    rcases inn c hc with hc1 | hc1
    · exact (no c a b hc1 ha' hb1 (by omega)).elim
    · have := hx a ha'
      have := hx b hb1
      omega
  · have hc' : c ∈ ms := (inn c hc).resolve_right fun z => by have := hx d hd1; omega
    rcases inn a ha with ha1 | ha1
    · exact (no a c d ha1 hc' hd1 (by omega)).elim
    · have := hx c hc'
      have := hx d hd1
      omega
  · omega
theorem last_ge {ms : List Int} {l : Int} (pw : ms.Pairwise (· < ·)) (e : ms.getLast? = some l) : ∀ m ∈ ms, m ≤ l := fun m hm => by
  obtain ⟨i, hi, rfl⟩ := mem_ix hm
  have h0 : ms.length - 1 < ms.length := by omega
  have el : l = ix ms (ms.length - 1) := by
    rw [List.getLast?_eq_getElem?, List.getElem?_eq_getElem h0] at e
    rw [ix_get h0]
    exact (Option.some.inj e).symm
  rcases Nat.lt_or_ge i (ms.length - 1) with k | k
  · have := ix_lt pw h0 k
    omega
  · have : i = ms.length - 1 := by omega
    rw [el, this]
    exact Int.le_refl _
theorem Next.grow {ms : List Int} {x : Int} (h : Next ms x) (pw : ms.Pairwise (· < ·)) (sd : Sid ms) : Sid (ms ++ [x]) ∧ (ms ++ [x]).Pairwise (· < ·) := by
  rcases h with ⟨rfl, rfl⟩ | ⟨l, e, h1, h2, h3⟩
  · exact ⟨by decide, by simp⟩
  · have hx : ∀ m ∈ ms, m < x := fun m hm => by
      have := last_ge pw e m hm
      omega
    exact ⟨sid_snoc pw sd hx h2, rise_snoc pw hx⟩
/-- a written list -/
def chk (ms : List Int) (x : Int) : Bool :=
  match ms.getLast? with
  | none => x == 0
  | some l => decide (l < x) && !(bar ms).contains x && (List.range (x - l - 1).toNat).all fun i => (bar ms).contains (l + 1 + (i : Int))
theorem next_of {ms : List Int} {x : Int} (h : chk ms x = true) : Next ms x := by
  unfold chk at h
  cases e : ms.getLast? with
  | none =>
    rw [e] at h
    exact .inl ⟨List.getLast?_eq_none_iff.mp e, eq_of_beq h⟩
  | some l =>
    rw [e] at h
    simp only [Bool.and_eq_true, decide_eq_true_eq, Bool.not_eq_true', List.all_eq_true, List.mem_range] at h
    obtain ⟨⟨h1, h2⟩, h3⟩ := h
    refine .inr ⟨l, e, h1, fun z => ?_, fun y y1 y2 => ?_⟩
    · rw [List.contains_iff_mem.mpr z] at h2
      cases h2
    · have := h3 (y - l - 1).toNat (by omega)
      rw [show l + 1 + (((y - l - 1).toNat : Nat) : Int) = y by omega] at this
      exact List.contains_iff_mem.mp this
end BH
/-! a dict of which only the keys count; three loops over marks; the last of a list -/
namespace Sa
open PySem PySem.Spec PyProof.Rows L2 Evl
def FD (H : Hp) (d : Addr) (n : Nat) (zs : Int → Prop) : Prop := ∃ kvs : List (Key × V), H d = some (.dK kvs) ∧ kvs.length ≤ n ∧ ∀ k, (valV kvs (Sum.inl k)).isSome = true ↔ zs k
theorem FD.imp {H : Hp} {d : Addr} {n m : Nat} {zs zs' : Int → Prop} (h : FD H d n zs) (l : n ≤ m) (e : ∀ k, zs k ↔ zs' k) : FD H d m zs' := by
  obtain ⟨kvs, e1, e2, e3⟩ := h
  exact ⟨kvs, e1, by omega, fun k => (e3 k).trans (e k)⟩
theorem FD.mono {H H' : Hp} {d : Addr} {n : Nat} {zs : Int → Prop} (s : Same H H') (h : FD H d n zs) : FD H' d n zs := by
  obtain ⟨kvs, e1, e⟩ := h
  exact ⟨kvs, s _ _ e1, e⟩
theorem FD.new {H : Hp} {d : Addr} : FD (upd H d (.dK [])) d 0 fun _ => False := ⟨[], upd_same, Nat.le_refl _, fun k => ⟨fun z => (by cases z), fun z => z.elim⟩⟩
theorem FD.put {H : Hp} {d : Addr} {n : Nat} {zs : Int → Prop} (h : FD H d n zs) (hz : n < 1000000) (z : Int) (v : V) : ∃ H', DPut H d (.int z) v H' ∧ FD H' d (n + 1) (fun k => zs k ∨ k = z) ∧ ∀ G, Same G H → G d = none → Same G H' := by
  obtain ⟨kvs, e1, e2, e3⟩ := h
  refine ⟨_, DPut.k (k := Sum.inl z) e1 (Nat.lt_of_lt_of_le (by omega) (show 1000000 ≤ sizeLine by decide)), ⟨putK kvs (Sum.inl z) v, upd_same, ?_, fun k => ?_⟩, fun G g gd => same_mut g gd⟩
  · have := length_putK kvs (Sum.inl z) v
    omega
  · rw [valV_put]
    by_cases e : k = z
    · rw [if_pos (by rw [e])]
      exact ⟨fun _ => .inr e, fun _ => rfl⟩
    · rw [if_neg (by intro x; cases x; exact e rfl)]
      exact (e3 k).trans ⟨.inl, fun x => x.resolve_right e⟩
/-- what is in it -/
theorem FD.get {H : Hp} {d : Addr} {n : Nat} {zs : Int → Prop} (h : FD H d n zs) (z : Int) : ∃ o, DGet H d (.int z) o ∧ (o.isSome = true ↔ zs z) := by
  obtain ⟨kvs, e1, e2, e3⟩ := h
  exact ⟨_, DGet.k (k := Sum.inl z) e1, e3 z⟩
theorem mem_take_succ {ms : List Int} {i : Nat} {m x : Int} (h : (ms.map V.int)[i]? = some (.int m)) : x ∈ ms.take (i + 1) ↔ x ∈ ms.take i ∨ x = m := by
  rw [List.getElem?_map] at h
  cases e : ms[i]? with
  | none => rw [e] at h; cases h
  | some y =>
    rw [e] at h
    cases h
    rw [List.take_succ, e, List.mem_append]
    simp
def Z1 (ms : List Int) (i : Nat) (k : Int) : Prop := ∃ a ∈ ms.take i, ∃ b ∈ ms, ∃ c ∈ ms, a + b - c = k
def Z2 (ms : List Int) (i : Nat) (x : Int) (j : Nat) (k : Int) : Prop := Z1 ms i k ∨ ∃ b ∈ ms.take j, ∃ c ∈ ms, x + b - c = k
def Z3 (ms : List Int) (i : Nat) (x : Int) (j : Nat) (y : Int) (m : Nat) (k : Int) : Prop := Z2 ms i x j k ∨ ∃ c ∈ ms.take m, x + y - c = k
theorem z1_0 {ms : List Int} {k : Int} : False ↔ Z1 ms 0 k := ⟨fun z => z.elim, fun ⟨a, h, _⟩ => by cases h⟩
theorem z1_2 {ms : List Int} {i : Nat} {x k : Int} : Z1 ms i k ↔ Z2 ms i x 0 k := ⟨.inl, fun z => z.elim id fun ⟨b, h, _⟩ => by cases h⟩
theorem z2_3 {ms : List Int} {i j : Nat} {x y k : Int} : Z2 ms i x j k ↔ Z3 ms i x j y 0 k := ⟨.inl, fun z => z.elim id fun ⟨b, h, _⟩ => by cases h⟩
theorem z3_s {ms : List Int} {i j m : Nat} {x y z k : Int} (h : (ms.map V.int)[m]? = some (.int z)) : (Z3 ms i x j y m k ∨ k = x + y - z) ↔ Z3 ms i x j y (m + 1) k := by
  constructor
  · rintro ((h1 | ⟨c, hc, e⟩) | e)
    · exact .inl h1
    · exact .inr ⟨c, (mem_take_succ h).mpr (.inl hc), e⟩
    · exact .inr ⟨z, (mem_take_succ h).mpr (.inr rfl), e.symm⟩
  · rintro (h1 | ⟨c, hc, e⟩)
    · exact .inl (.inl h1)
    · rcases (mem_take_succ h).mp hc with h2 | h2
      · exact .inl (.inr ⟨c, h2, e⟩)
      · exact .inr (by rw [← e, h2])
theorem z2_s {ms : List Int} {i j : Nat} {x y k : Int} (h : (ms.map V.int)[j]? = some (.int y)) : Z3 ms i x j y ms.length k ↔ Z2 ms i x (j + 1) k := by
  unfold Z3
  rw [List.take_length]
  constructor
  · rintro ((h1 | ⟨b, hb, r⟩) | r)
    · exact .inl h1
    · exact .inr ⟨b, (mem_take_succ h).mpr (.inl hb), r⟩
    · exact .inr ⟨y, (mem_take_succ h).mpr (.inr rfl), r⟩
  · rintro (h1 | ⟨b, hb, r⟩)
    · exact .inl (.inl h1)
    · rcases (mem_take_succ h).mp hb with h2 | h2
      · exact .inl (.inr ⟨b, h2, r⟩)
      · exact .inr (h2 ▸ r)
theorem z1_s {ms : List Int} {i : Nat} {x k : Int} (h : (ms.map V.int)[i]? = some (.int x)) : Z2 ms i x ms.length k ↔ Z1 ms (i + 1) k := by
  unfold Z2
  rw [List.take_length]
  constructor
  · rintro (⟨a, ha, r⟩ | r)
    · exact ⟨a, (mem_take_succ h).mpr (.inl ha), r⟩
    · exact ⟨x, (mem_take_succ h).mpr (.inr rfl), r⟩
  · rintro ⟨a, ha, r⟩
    rcases (mem_take_succ h).mp ha with h2 | h2
    · exact .inl ⟨a, h2, r⟩
    · exact .inr (h2 ▸ r)
theorem z1_bar {ms : List Int} {k : Int} : Z1 ms ms.length k ↔ k ∈ BH.bar ms := by
  unfold Z1
  rw [List.take_length, BH.mem_bar]
theorem at_last {ms : List Int} {l : Int} (h : ms.getLast? = some l) : atI (ms.map V.int) (-1) = some (.int l) := by
  obtain ⟨r, rfl⟩ := List.getLast?_eq_some_iff.mp h
  rw [List.map_append]
  exact atI_last _ _
theorem last_of {ms : List Int} (h : ms ≠ []) : ∃ l, ms.getLast? = some l := by
  cases e : ms.getLast? with
  | none => exact absurd (List.getLast?_eq_none_iff.mp e) h
  | some l => exact ⟨l, rfl⟩
/-- how many of the barred ones are left -/
def leftOf (ms : List Int) (x : Int) : Nat := ((BH.bar ms).filter fun y => decide (x ≤ y)).length
theorem left_lt {ms : List Int} {x : Int} (h : x ∈ BH.bar ms) : leftOf ms (x + 1) < leftOf ms x := by
  unfold leftOf
  generalize BH.bar ms = bs at h
  have le : ∀ bs : List Int, (bs.filter fun y => decide (x + 1 ≤ y)).length ≤ (bs.filter fun y => decide (x ≤ y)).length := fun bs => by
    induction bs with
    | nil => exact Nat.le_refl _
    | cons b bs ih =>
      by_cases h1 : x + 1 ≤ b
      · rw [List.filter_cons_of_pos (by simpa using h1), List.filter_cons_of_pos (by simp; omega)]
        exact Nat.succ_le_succ ih
      · rw [List.filter_cons_of_neg (by simpa using h1)]
        by_cases h2 : x ≤ b
        · rw [List.filter_cons_of_pos (by simpa using h2)]
          exact Nat.le_succ_of_le ih
        · rw [List.filter_cons_of_neg (by simpa using h2)]
          exact ih
  induction bs with
  | nil => cases h
  | cons b bs ih =>
    rcases List.mem_cons.mp h with e | h
    · subst e
      rw [List.filter_cons_of_neg (by simp; omega), List.filter_cons_of_pos (by simp)]
      exact Nat.lt_succ_of_le (le bs)
    · by_cases h1 : x + 1 ≤ b
      · rw [List.filter_cons_of_pos (by simpa using h1), List.filter_cons_of_pos (by simp; omega)]
        exact Nat.succ_lt_succ (ih h)
      · rw [List.filter_cons_of_neg (by simpa using h1)]
        by_cases h2 : x ≤ b
        · rw [List.filter_cons_of_pos (by simpa using h2)]
          exact Nat.lt_succ_of_lt (ih h)
        · rw [List.filter_cons_of_neg (by simpa using h2)]
          exact ih h
end Sa
namespace Sa
open PySem PySem.Spec PyProof.Rows L2 Evl
def top (i : Nat) : Stmt := PySem.Challenge.pw_sumsapart_k07_whole_numbers.main.body.getD i (.Pass ⟨0, 0, 0, 0⟩)
abbrev s_is_number : Stmt := top 9
theorem sc_is_number : FnScope ["thing"] ["thing"] (defScope s_is_number) := ⟨rfl, rfl, rfl, by decide +kernel, rfl, by decide +kernel, by decide +kernel⟩
abbrev s_is_prime : Stmt := top 10
theorem sc_is_prime : FnScope ["number", "by"] ["number"] (defScope s_is_prime) := ⟨rfl, rfl, rfl, by decide +kernel, rfl, by decide +kernel, by decide +kernel⟩
abbrev s_asked_prime : Stmt := top 11
theorem sc_asked_prime : FnScope ["prime"] ["prime"] (defScope s_asked_prime) := ⟨rfl, rfl, rfl, by decide +kernel, rfl, by decide +kernel, by decide +kernel⟩
abbrev s_power : Stmt := top 12
theorem sc_power : FnScope ["number", "often", "prime", "found", "base"] ["number", "often", "prime"] (defScope s_power) := ⟨rfl, rfl, rfl, by decide +kernel, rfl, by decide +kernel, by decide +kernel⟩
abbrev s_root_of : Stmt := top 13
theorem sc_root_of : FnScope ["number", "prime", "odd", "twos", "strange", "step", "found", "left", "often", "now", "part"] ["number", "prime"] (defScope s_root_of) := ⟨rfl, rfl, rfl, by decide +kernel, rfl, by decide +kernel, by decide +kernel⟩
abbrev s_mark_of : Stmt := top 15
theorem sc_mark_of : FnScope ["prime", "number"] ["prime", "number"] (defScope s_mark_of) := ⟨rfl, rfl, rfl, by decide +kernel, rfl, by decide +kernel, by decide +kernel⟩
abbrev s_mark : Stmt := top 16
theorem sc_mark : FnScope ["prime", "number"] ["prime", "number"] (defScope s_mark) := ⟨rfl, rfl, rfl, by decide +kernel, rfl, by decide +kernel, by decide +kernel⟩
abbrev s_number_of : Stmt := top 17
theorem sc_number_of : FnScope ["prime", "found", "number"] ["prime", "found"] (defScope s_number_of) := ⟨rfl, rfl, rfl, by decide +kernel, rfl, by decide +kernel, by decide +kernel⟩
abbrev s_two_of : Stmt := top 18
theorem sc_two_of : FnScope ["prime", "total", "both", "half", "root", "sign", "one", "other"] ["prime", "total"] (defScope s_two_of) := ⟨rfl, rfl, rfl, by decide +kernel, rfl, by decide +kernel, by decide +kernel⟩
abbrev s_apart_by : Stmt := top 19
theorem sc_apart_by : FnScope ["prime", "difference", "steps", "both", "low"] ["prime", "difference"] (defScope s_apart_by) := ⟨rfl, rfl, rfl, by decide +kernel, rfl, by decide +kernel, by decide +kernel⟩
abbrev s_first_same : Stmt := top 22
theorem sc_first_same : FnScope ["marks", "seen", "other", "one", "total"] ["marks"] (defScope s_first_same) := ⟨rfl, rfl, rfl, by decide +kernel, rfl, by decide +kernel, by decide +kernel⟩
abbrev s_Apart_shows : Stmt := inClass (top 23) 0
theorem sc_Apart_shows : FnScope ["self", "marks"] ["self", "marks"] (defScope s_Apart_shows) := ⟨rfl, rfl, rfl, by decide +kernel, rfl, by decide +kernel, by decide +kernel⟩
abbrev s_Same_init : Stmt := inClass (top 24) 0
theorem sc_Same_init : FnScope ["self", "one", "other"] ["self", "one", "other"] (defScope s_Same_init) := ⟨rfl, rfl, rfl, by decide +kernel, rfl, by decide +kernel, by decide +kernel⟩
abbrev s_Same_shows : Stmt := inClass (top 24) 1
theorem sc_Same_shows : FnScope ["self", "marks", "pair"] ["self", "marks"] (defScope s_Same_shows) := ⟨rfl, rfl, rfl, by decide +kernel, rfl, by decide +kernel, by decide +kernel⟩
abbrev s_asked_marks : Stmt := top 27
theorem sc_asked_marks : FnScope ["marks", "mark", "at"] ["marks"] (defScope s_asked_marks) := ⟨rfl, rfl, rfl, by decide +kernel, rfl, by decide +kernel, by decide +kernel⟩
abbrev s_told : Stmt := top 28
theorem sc_told : FnScope ["marks", "found"] ["marks"] (defScope s_told) := ⟨rfl, rfl, rfl, by decide +kernel, rfl, by decide +kernel, by decide +kernel⟩
abbrev s_behind : Stmt := top 29
theorem sc_behind : FnScope ["marks", "barred", "one", "other", "third", "found"] ["marks"] (defScope s_behind) := ⟨rfl, rfl, rfl, by decide +kernel, rfl, by decide +kernel, by decide +kernel⟩
abbrev s__law_number : Stmt := top 31
theorem sc__law_number : FnScope ["_law_cell", "_law_at", "_law_whole", "_law_blend", "_law_more"] ["_law_cell", "_law_at", "_law_whole"] (defScope s__law_number) := ⟨rfl, rfl, rfl, by decide +kernel, rfl, by decide +kernel, by decide +kernel⟩
abbrev s__law_plain : Stmt := top 32
theorem sc__law_plain : FnScope ["_law_thing", "_law_one"] ["_law_thing"] (defScope s__law_plain) := ⟨rfl, rfl, rfl, by decide +kernel, rfl, by decide +kernel, by decide +kernel⟩
abbrev s__law_truths : Stmt := top 33
theorem sc__law_truths : FnScope ["_law_things", "_law_one"] ["_law_things"] (defScope s__law_truths) := ⟨rfl, rfl, rfl, by decide +kernel, rfl, by decide +kernel, by decide +kernel⟩
abbrev s__law_no_of : Stmt := top 34
theorem sc__law_no_of : FnScope ["_law_ask", "error", "_law_sorts"] ["_law_ask"] (defScope s__law_no_of) := ⟨rfl, rfl, rfl, by decide +kernel, rfl, by decide +kernel, by decide +kernel⟩
abbrev s__law_promises_right : Stmt := top 35
theorem sc__law_promises_right : FnScope ["_law_found", "_law_sums", "_law_cases", "_law_one", "_law_other", "_law_due", "_law_number_here", "_law_total", "_law_far", "_law_marks"] [] (defScope s__law_promises_right) := ⟨rfl, rfl, rfl, by decide +kernel, rfl, by decide +kernel, by decide +kernel⟩
abbrev s_law : Stmt := top 36
theorem sc_law : FnScope ["_law_script", "_law_whole", "_law_cells", "_law_drawn", "_law_found", "_law_shown", "_law_prime", "_law_row", "_law_marks", "_law_answer", "_law_at", "_law_cell", "_law_number_here", "_law_built"] ["_law_script"] (defScope s_law) := ⟨rfl, rfl, rfl, by decide +kernel, rfl, by decide +kernel, by decide +kernel⟩
end Sa
local macro_rules | `(tactic| walk_at "rd") => `(tactic| ((try simp only [L2.start, L2.wipe, List.set_cons_succ, List.set_cons_zero, List.map_cons, List.map_nil, List.length_cons, List.length_nil, List.cons_append, List.nil_append, List.replicate_succ, List.replicate_zero, Nat.reduceSub, Nat.reduceAdd, Nat.zero_add]); try simp only [↓Sa.rd_seq,  ↓Sa.rd_next, ↓Sa.rd_brk, ↓Sa.rd_asg, ↓Sa.rp_name, ↓Sa.rp_par, ↓Sa.rd_ret, ↓Sa.rd_retN, ↓Sa.rd_drop, ↓Sa.rd_if, ↓Sa.rp_var, ↓Sa.rd_c, ↓Sa.rd_op, ↓Sa.rd_un, ↓Sa.rd_I0, ↓Sa.rd_I, ↓Sa.rd_U, ↓Sa.rd_eqI, ↓Sa.rd_neI, ↓Sa.rd_test, ↓Sa.rd_B, ↓Sa.rd_and, ↓Sa.rd_or, ↓Sa.rd_not, ↓Sa.rd_andV, ↓Sa.rd_orV, ↓Sa.rd_notV, ↓Sa.rd_ifE, ↓Sa.rd_isN, ↓Sa.rd_notN, ↓Sa.rd_chain, ↓Sa.rd_chain3, ↓Sa.rd_nil, ↓Sa.rd_cons, ↓Sa.rd_tup, ↓Sa.rd_lst, ↓Sa.rd_call, ↓Sa.rd_CB, ↓Sa.rd_ixL, ↓Sa.rd_ixT, ↓Sa.rd_sl, ↓Sa.rd_noPart, ↓Sa.rd_part, ↓Sa.rd_slL, ↓Sa.rd_sum, ↓Sa.rd_all, ↓Sa.rd_any, ↓Sa.ex_int, ↓Sa.ex_int1, ↓Sa.ex_int2, ↓Sa.rd_len, ↓Sa.ex_len, ↓Sa.ex_bl, ↓Sa.ex_two, ↓Sa.slot_z, ↓Sa.slot_n, ↓Sa.setS_z, ↓Sa.setS_n, ↓Sa.if_tt, ↓Sa.if_ff, ↓Sa.if_dec, ↓Sa.if_ndec, ↓Sa.if_nb, ↓Sa.rd_forL, ↓Sa.rd_forT, ↓Sa.rd_forR1, ↓Sa.rd_forR2, ↓Sa.rd_forR3, ↓Sa.ex_ref, ↓Sa.cx_K, ↓List.append_nil, List.length_cons, List.length_nil, Nat.reduceAdd, Nat.zero_add]))
namespace Sa
open PySem PySem.Spec PyProof.Rows L2 Evl
section
variable {P : Program} {w : World} {K : PySem.W.Frag} {mg : Str → Option Value} {base : Heap}
theorem ok_is_number {f : Addr} {fd : FuncData} (T : Blt mg) (F : Fun K "is_number" "is_number" s_is_number f fd) : FnOk P w K mg base CX0 1 f fd ["thing"] (spIsNum K) := by
  refine F.ok sc_is_number (fun vs H Q E h => ?_) (fun cdv A outer s H vs Q E hr h => ?_)
  · obtain ⟨v, t, rfl, _⟩ := h
    rfl
  · obtain ⟨v, t, rfl, ty, ht, q⟩ := h
    refine ⟨_, pss_one (ps_ret (pe_and (pe_callB (call_isik (K := K)) (by rfl) T.b_isinstance (by decide +kernel) (pa_cons (pv 0) (pa_cons (pe_bltn (v := .ty "int") (by rfl) T.b_int (by decide +kernel) rfl) pa_nil))) (pe_one (pe_not (pe_callB (call_isik (K := K)) (by rfl) T.b_isinstance (by decide +kernel) (pa_cons (pv 0) (pa_cons (pe_bltn (v := .ty "bool") (by rfl) T.b_bool (by decide +kernel) rfl) pa_nil))))))), ?_⟩
    walk_at "rd"
    refine ⟨v, _, _, _, _, rfl, .ty _, ty, kit_ty (isi_int ht), _, rfl, ?_⟩
    rw [← ty_num ht] at q
    cases hb : (t == "int" || t == "bool") with
    | false =>
      rw [hb] at q
      exact iteF q
    | true =>
      rw [hb] at q
      exact iteT ⟨v, _, _, _, _, rfl, .ty _, ty, kit_ty (isi_bool ht), _, rfl, q⟩
end
end Sa
local macro_rules | `(tactic| walk_at "rd") => `(tactic| ((try simp only [L2.start, L2.wipe, List.set_cons_succ, List.set_cons_zero, List.map_cons, List.map_nil, List.length_cons, List.length_nil, List.cons_append, List.nil_append, List.replicate_succ, List.replicate_zero, Nat.reduceSub, Nat.reduceAdd, Nat.zero_add]); try simp only [↓Sa.rd_seq,  ↓Sa.rd_next, ↓Sa.rd_brk, ↓Sa.rd_asg, ↓Sa.rp_name, ↓Sa.rp_par, ↓Sa.rd_ret, ↓Sa.rd_retN, ↓Sa.rd_drop, ↓Sa.rd_if, ↓Sa.rp_var, ↓Sa.rd_c, ↓Sa.rd_op, ↓Sa.rd_un, ↓Sa.rd_I0, ↓Sa.rd_I, ↓Sa.rd_U, ↓Sa.rd_eqI, ↓Sa.rd_neI, ↓Sa.rd_test, ↓Sa.rd_B, ↓Sa.rd_and, ↓Sa.rd_or, ↓Sa.rd_not, ↓Sa.rd_andV, ↓Sa.rd_orV, ↓Sa.rd_notV, ↓Sa.rd_ifE, ↓Sa.rd_isN, ↓Sa.rd_notN, ↓Sa.rd_chain, ↓Sa.rd_chain3, ↓Sa.rd_nil, ↓Sa.rd_cons, ↓Sa.rd_tup, ↓Sa.rd_lst, ↓Sa.rd_call, ↓Sa.rd_CB, ↓Sa.rd_ixL, ↓Sa.rd_ixT, ↓Sa.rd_sl, ↓Sa.rd_noPart, ↓Sa.rd_part, ↓Sa.rd_slL, ↓Sa.rd_sum, ↓Sa.rd_all, ↓Sa.rd_any, ↓Sa.ex_int, ↓Sa.ex_int1, ↓Sa.ex_int2, ↓Sa.rd_len, ↓Sa.ex_len, ↓Sa.ex_bl, ↓Sa.ex_two, ↓Sa.slot_z, ↓Sa.slot_n, ↓Sa.setS_z, ↓Sa.setS_n, ↓Sa.if_tt, ↓Sa.if_ff, ↓Sa.if_dec, ↓Sa.if_ndec, ↓Sa.if_nb, ↓Sa.rd_forL, ↓Sa.rd_forT, ↓Sa.rd_forR1, ↓Sa.rd_forR2, ↓Sa.rd_forR3, ↓Sa.ex_ref, ↓Sa.cx_K, ↓List.append_nil, List.length_cons, List.length_nil, Nat.reduceAdd, Nat.zero_add]))
namespace Sa
open PySem PySem.Spec PyProof.Rows L2 Evl
section
variable {P : Program} {w : World} {K : PySem.W.Frag} {mg : Str → Option Value} {base : Heap}
theorem ok_is_prime {f : Addr} {fd : FuncData} (F : Fun K "is_prime" "is_prime" s_is_prime f fd) : FnOk P w K mg base CX0 1 f fd ["number"] spIsPrime := by
  refine F.ok sc_is_prime (fun vs H Q E h => ?_) (fun cdv A outer s H vs Q E hr h => ?_)
  · obtain ⟨n, rfl, _⟩ := h
    rfl
  · obtain ⟨n, rfl, hn, q⟩ := h
    refine ⟨_, pss_cons (ps_set (i := 1) sc_is_prime.nd rfl (by first | exact Or.inl rfl | exact Or.inr rfl) (pe_int))
      (pss_cut (ps_while PassesOwn.never (pt_cmpR op_le (pe_op op_mulB (pv 1) (pv 1)) (pv 0) (nomark _)) (pss_cons (ps_if (pt_cmpR op_eq (pe_op op_mod (pv 0) (pv 1)) (pe_int) (nomark _)) (pss_one (ps_ret (pe_bl))) (pss_nil))
      (pss_one (ps_set (i := 1) sc_is_prime.nd rfl (by first | exact Or.inl rfl | exact Or.inr rfl) (pe_op op_add (pv 1) (pe_int))))))
      (pss_one (ps_ret (pe_cmpR op_gt (pv 0) (pe_int) (nomark _))))), ?_⟩
    walk_at "rd"
    refine ⟨fun σ H' => H' = H ∧ ∃ d : Int, σ = [some (.int n), some (.int d)] ∧ 2 ≤ d ∧ d ≤ 1001 ∧ (∀ e, 2 ≤ e → e < d → ¬ e ∣ n) ∧ ¬ d * d ≤ n, ?_, ?_⟩
    · refine ⟨fun m σ H' => H' = H ∧ ∃ d : Int, σ = [some (.int n), some (.int d)] ∧ 2 ≤ d ∧ d ≤ 1001 ∧ (∀ e, 2 ≤ e → e < d → ¬ e ∣ n) ∧ m = (1002 - d).toNat, ⟨1000, rfl, 2, rfl, by omega, by omega, fun e h1 h2 => by omega, rfl⟩, ?_⟩
      rintro m σ H' ⟨rfl, d, rfl, h2, h3, h4, hm⟩
      walk_at "rd"
      refine ⟨mulB_small (by omega) (by omega), ?_⟩
      refine ite2 (fun hl => ?_) (fun hl => ⟨by trivial, d, rfl, h2, h3, h4, hl⟩)
      have hd := sq_le h2 hl hn
      refine ⟨fun σ H'' => H'' = H' ∧ ∃ d' : Int, σ = [some (.int n), some (.int d')] ∧ 2 ≤ d' ∧ d' ≤ 1001 ∧ (∀ e, 2 ≤ e → e < d' → ¬ e ∣ n) ∧ (1002 - d').toNat < m, fun σ' H'' ⟨e1, d', e2, a, b, c, e⟩ => ⟨_, e, e1, d', e2, a, b, c, rfl⟩, by omega, ?_⟩
      refine ite2 (fun h0 => ?_) (fun h0 => ?_)
      · rw [(is_prime_loop hn h2 h4).1 hl h0] at q
        exact q
      · refine ⟨by trivial, d + 1, rfl, by omega, by omega, fun e h1 h5 => ?_, by omega⟩
        by_cases ee : e = d
        · subst ee
          exact fun z => h0 (Int.emod_eq_zero_of_dvd z)
        · exact h4 e h1 (by omega)
    · rintro σ H' ⟨rfl, d, rfl, h2, h3, h4, hl⟩
      walk_at "rd"
      rw [(is_prime_loop hn h2 h4).2 hl] at q
      exact q
theorem ok_asked_prime {f f1 f2 C_BadPrime : Addr} {fd fd1 fd2 : FuncData} {tG : Tok} (T : Blt mg) (F : Fun K "asked_prime" "asked_prime" s_asked_prime f fd) (X_BadPrime : ErrAt K mg "BadPrime" C_BadPrime) (C_GREATEST : mg "GREATEST" = some (.int 1000000 tG))
    (D_is_number : DefAt K mg "is_number" "is_number" s_is_number ["thing"] f1 fd1) (D_is_prime : DefAt K mg "is_prime" "is_prime" s_is_prime ["number"] f2 fd2) : FnOk P w K mg base (L2N.CX P w) 2 f fd ["prime"] (spAskedPrime K C_BadPrime) := by
  have G_is_number : FnOk P w K mg base CX0 1 f1 fd1 ["thing"] (spIsNum K) := ok_is_number T D_is_number.F
  have G_is_prime : FnOk P w K mg base CX0 1 f2 fd2 ["number"] spIsPrime := ok_is_prime D_is_prime.F
  refine okN F sc_asked_prime (fun vs H Q E h => ?_) (fun cdv A outer s H vs Q E hr h => ?_)
  · obtain ⟨v, t, rfl, _⟩ := h
    rfl
  · obtain ⟨v, t, rfl, ty, ht, q, qE⟩ := h
    refine ⟨_, pss_one (ps_if (PW.pt (pw_or (pt_not (pt_val (pe_call G_is_number (hr.mono (by decide)) (by rfl) D_is_number.g D_is_number.kp D_is_number.b .nil pass0 (pa_cons (pv 0) pa_nil)))) (pw_or (pt_not (pt_chain op_le op_le (pe_int) (pv 0) (pe_glob (v := .int 1000000) (by rfl) C_GREATEST ⟨_, rfl⟩))) (pw_or1 (pt_not (pt_val (pe_call G_is_prime (hr.mono (by decide)) (by rfl) D_is_prime.g D_is_prime.kp D_is_prime.b .nil pass0 (pa_cons (pv 0) pa_nil)))))))) (pss_one (L2N.ps_raise rfl (L2N.takes_of rfl rfl rfl rfl) (L2N.pmk_own PySem.F.excBase_ValueError X_BadPrime.x X_BadPrime.g X_BadPrime.kp (raises_own X_BadPrime.sb X_BadPrime.ty) rfl))) (pss_nil)), ?_⟩
    walk_at "rd"
    refine ⟨v, t, rfl, ty, ht, _, rfl, ?_⟩
    refine ite2 (fun hi => ?_) (fun hi => qE ?_)
    · obtain rfl : t = "int" := eq_of_beq hi
      obtain ⟨p, rfl⟩ := tyx_int ty
      have no : ¬ (3 ≤ p ∧ p ≤ 1000000 ∧ isP p = true) → E (.ref C_BadPrime) none H := fun z => qE (by
        cases e : okP (.int p) with
        | false => rfl
        | true =>
          simp only [okP, Bool.and_eq_true, decide_eq_true_eq] at e
          exact absurd ⟨e.1, e.2.1, e.2.2⟩ z)
      have yes : 3 ≤ p → p ≤ 1000000 → isP p = true → Q .non H := fun a b c => q (by
        simp only [okP, Bool.and_eq_true, decide_eq_true_eq]
        exact ⟨a, b, c⟩)
      walk_at "rd"
      refine ite2 (fun h3 => ?_) (fun h3 => no fun z => h3 z.1)
      refine ite2 (fun h6 => ⟨p, rfl, by omega, _, rfl, ite2 (fun e => yes h3 h6 e) (fun e => no fun z => e z.2.2)⟩) (fun h6 => no fun z => h6 z.2.1)
    · cases v with
      | int i =>
        exfalso
        cases ty with
        | base b =>
          cases b
          exact hi (by decide)
      | _ => rfl
theorem ok_power {f : Addr} {fd : FuncData} (F : Fun K "power" "power" s_power f fd) : FnOk P w K mg base CX0 1 f fd ["number", "often", "prime"] spPower := by
  refine F.ok sc_power (fun vs H Q E h => ?_) (fun cdv A outer s H vs Q E hr h => ?_)
  · obtain ⟨b, e, p, rfl, _⟩ := h
    rfl
  · obtain ⟨b, e, p, rfl, h0, h1, h2, q⟩ := h
    refine ⟨_, pss_cons (ps_set (i := 3) sc_power.nd rfl (by first | exact Or.inl rfl | exact Or.inr rfl) (pe_int))
      (pss_cons (ps_set (i := 4) sc_power.nd rfl (by first | exact Or.inl rfl | exact Or.inr rfl) (pe_op op_mod (pv 0) (pv 2)))
      (pss_cut (ps_while PassesOwn.never (pt_cmpR op_gt (pv 1) (pe_int) (nomark _)) (pss_cons (ps_if (pt_cmpR op_eq (pe_op op_mod (pv 1) (pe_int)) (pe_int) (nomark _)) (pss_one (ps_set (i := 3) sc_power.nd rfl (by first | exact Or.inl rfl | exact Or.inr rfl) (pe_op op_mod (pe_op op_mulB (pv 3) (pv 4)) (pv 2)))) (pss_nil))
      (pss_cons (ps_set (i := 4) sc_power.nd rfl (by first | exact Or.inl rfl | exact Or.inr rfl) (pe_op op_mod (pe_op op_mulB (pv 4) (pv 4)) (pv 2)))
      (pss_one (ps_set (i := 1) sc_power.nd rfl (by first | exact Or.inl rfl | exact Or.inr rfl) (pe_op op_fdiv (pv 1) (pe_int)))))))
      (pss_one (ps_ret (pv 3))))), ?_⟩
    walk_at "rd"
    refine ⟨by omega, fun σ H' => H' = H ∧ ∃ b' : Int, ∃ e' : Int, σ = [some (.int b), some (.int e'), some (.int p), some (.int (b ^ e.toNat % p)), some (.int b')], ?_, ?_⟩
    · refine ⟨fun m σ H' => H' = H ∧ ∃ b' e' x : Int, σ = [some (.int b), some (.int e'), some (.int p), some (.int x), some (.int b')] ∧ 0 ≤ x ∧ x < p ∧ 0 ≤ b' ∧ b' < p ∧ 0 ≤ e' ∧ NT.C p (x * b' ^ e'.toNat) (b ^ e.toNat) ∧ m = e'.toNat,
        ⟨e.toNat, rfl, b % p, e, 1, rfl, by omega, by omega, (mod_b (by omega)).1, (mod_b (by omega)).2, h0, ?_, rfl⟩, ?_⟩
      · rw [Int.one_mul]
        exact NT.C.pow (NT.C.mod p b) _
      rintro m σ H' ⟨rfl, b', e', x, rfl, x0, x1, b0, b1, e0, hc, hm⟩
      walk_at "rd"
      refine ite2 (fun hl => ?_) (fun hl => ⟨by trivial, b', e', ?_⟩)
      · have e2 : (e' / 2).toNat < m := by omega
        have e3 := power_turn hc hl
        have bb := mod_b (a := b' * b') (show 0 < p by omega)
        have xb := mod_b (a := x * b') (show 0 < p by omega)
        refine ⟨fun σ H'' => H'' = H' ∧ ∃ b' e' x : Int, σ = [some (.int b), some (.int e'), some (.int p), some (.int x), some (.int b')] ∧ 0 ≤ x ∧ x < p ∧ 0 ≤ b' ∧ b' < p ∧ 0 ≤ e' ∧ NT.C p (x * b' ^ e'.toNat) (b ^ e.toNat) ∧ e'.toNat < m, fun σ' H'' ⟨e1, b2, e2, x2, e3, a1, a2, a3, a4, a5, a6, a7⟩ => ⟨_, a7, e1, b2, e2, x2, e3, a1, a2, a3, a4, a5, a6, rfl⟩, by omega, ?_⟩
        refine ite2 (fun hb => ?_) (fun hb => ?_)
        · rw [if_pos hb] at e3
          exact ⟨mulB_small (by omega) (by omega), by omega, mulB_small (by omega) (by omega), by omega, ⟨by decide, by decide⟩, by trivial, _, _, _, rfl, xb.1, xb.2, bb.1, bb.2, by omega, e3, e2⟩
        · rw [if_neg hb] at e3
          exact ⟨mulB_small (by omega) (by omega), by omega, ⟨by decide, by decide⟩, by trivial, _, _, _, rfl, x0, x1, bb.1, bb.2, by omega, e3, e2⟩
      · have e1 : e' = 0 := by omega
        subst e1
        have : x = b ^ e.toNat % p := by
          have h3 : NT.C p x (b ^ e.toNat) := by
            have := hc
            rw [show (0 : Int).toNat = 0 from rfl, Int.pow_zero, Int.mul_one] at this
            exact this
          exact (h3.trans (NT.C.mod p _).symm).eq x0 x1 (mod_b (by omega)).1 (mod_b (by omega)).2
        rw [this]
    · rintro σ H' ⟨rfl, b', e', rfl⟩
      walk_at "rd"
      exact q
theorem ok_mark_of {f : Addr} {fd : FuncData} (F : Fun K "mark_of" "mark_of" s_mark_of f fd) : FnOk P w K mg base CX0 1 f fd ["prime", "number"] spMarkOf := by
  refine F.ok sc_mark_of (fun vs H Q E h => ?_) (fun cdv A outer s H vs Q E hr h => ?_)
  · obtain ⟨p, n, rfl, _⟩ := h
    rfl
  · obtain ⟨p, n, rfl, h0, h1, h2, q⟩ := h
    refine ⟨_, pss_one (ps_ret (pe_op op_add (pe_op op_mulB (pe_op op_mulB (pe_int) (pv 0)) (pv 1)) (pe_op op_mod (pe_op op_mulB (pv 1) (pv 1)) (pv 0)))), ?_⟩
    walk_at "rd"
    exact ⟨mulB_small (by omega) (by omega), mulB_small (by omega) (by omega), mulB_small (by omega) (by omega), h0, q⟩
end
end Sa
local macro_rules | `(tactic| walk_at "rd") => `(tactic| ((try simp only [L2.start, L2.wipe, List.set_cons_succ, List.set_cons_zero, List.map_cons, List.map_nil, List.length_cons, List.length_nil, List.cons_append, List.nil_append, List.replicate_succ, List.replicate_zero, Nat.reduceSub, Nat.reduceAdd, Nat.zero_add]); try simp only [↓Sa.rd_seq, ↓Sa.rd_power, ↓Sa.rd_markOf,  ↓Sa.rd_next, ↓Sa.rd_brk, ↓Sa.rd_asg, ↓Sa.rp_name, ↓Sa.rp_par, ↓Sa.rd_ret, ↓Sa.rd_retN, ↓Sa.rd_drop, ↓Sa.rd_if, ↓Sa.rp_var, ↓Sa.rd_c, ↓Sa.rd_op, ↓Sa.rd_un, ↓Sa.rd_I0, ↓Sa.rd_I, ↓Sa.rd_U, ↓Sa.rd_eqI, ↓Sa.rd_neI, ↓Sa.rd_test, ↓Sa.rd_B, ↓Sa.rd_and, ↓Sa.rd_or, ↓Sa.rd_not, ↓Sa.rd_andV, ↓Sa.rd_orV, ↓Sa.rd_notV, ↓Sa.rd_ifE, ↓Sa.rd_isN, ↓Sa.rd_notN, ↓Sa.rd_chain, ↓Sa.rd_chain3, ↓Sa.rd_nil, ↓Sa.rd_cons, ↓Sa.rd_tup, ↓Sa.rd_lst, ↓Sa.rd_call, ↓Sa.rd_CB, ↓Sa.rd_ixL, ↓Sa.rd_ixT, ↓Sa.rd_sl, ↓Sa.rd_noPart, ↓Sa.rd_part, ↓Sa.rd_slL, ↓Sa.rd_sum, ↓Sa.rd_all, ↓Sa.rd_any, ↓Sa.ex_int, ↓Sa.ex_int1, ↓Sa.ex_int2, ↓Sa.rd_len, ↓Sa.ex_len, ↓Sa.ex_bl, ↓Sa.ex_two, ↓Sa.slot_z, ↓Sa.slot_n, ↓Sa.setS_z, ↓Sa.setS_n, ↓Sa.if_tt, ↓Sa.if_ff, ↓Sa.if_dec, ↓Sa.if_ndec, ↓Sa.if_nb, ↓Sa.rd_forL, ↓Sa.rd_forT, ↓Sa.rd_forR1, ↓Sa.rd_forR2, ↓Sa.rd_forR3, ↓Sa.ex_ref, ↓Sa.cx_K, ↓List.append_nil, List.length_cons, List.length_nil, Nat.reduceAdd, Nat.zero_add]))
namespace Sa
open PySem PySem.Spec PyProof.Rows L2 Evl
def rw1 (n p : Int) (H : Hp) (m : Nat) (σ : L2.St) (H' : Hp) : Prop := H' = H ∧ ∃ (odd : Int) (t : Nat), σ = [some (.int (n % p)), some (.int p), some (.int odd), some (.int (t : Int)), none, none, none, none, none, none, none] ∧ 0 < odd ∧ odd * 2 ^ t = p - 1 ∧ (1 ≤ t ∨ odd = p - 1) ∧ m = odd.toNat
def rw2 (n p odd z0 : Int) (t : Nat) (H : Hp) (m : Nat) (σ : L2.St) (H' : Hp) : Prop := H' = H ∧ ∃ z : Int, σ = [some (.int (n % p)), some (.int p), some (.int odd), some (.int (t : Int)), some (.int z), none, none, none, none, none, none] ∧ 2 ≤ z ∧ z ≤ z0 ∧ m = (z0 - z).toNat
def rw3 (n p odd z : Int) (H : Hp) (m : Nat) (σ : L2.St) (H' : Hp) : Prop := H' = H ∧ ∃ (t : Nat) (found left step : Int) (y8 y9 y10 : Option V), σ = [some (.int (n % p)), some (.int p), some (.int odd), some (.int (t : Int)), some (.int z), some (.int step), some (.int found), some (.int left), y8, y9, y10] ∧ NT.TS p (n % p) t found left step ∧ t ≤ 1000 ∧ 0 ≤ found ∧ found < p ∧ 0 ≤ left ∧ left < p ∧ 0 ≤ step ∧ step < p ∧ m = t
def rw4 (n p odd z step found left : Int) (t : Nat) (H : Hp) (m : Nat) (σ : L2.St) (H' : Hp) : Prop := H' = H ∧ ∃ (k : Nat) (now : Int) (y10 : Option V), σ = [some (.int (n % p)), some (.int p), some (.int odd), some (.int (t : Int)), some (.int z), some (.int step), some (.int found), some (.int left), some (.int (k : Int)), some (.int now), y10] ∧ 0 ≤ now ∧ now < p ∧ NT.C p now (left ^ 2 ^ k) ∧ k ≤ t - 1 ∧ (∀ j, j < k → ¬ NT.C p (left ^ 2 ^ j) 1) ∧ m = t - k
section
variable {P : Program} {w : World} {K : PySem.W.Frag} {mg : Str → Option Value} {base : Heap}
def spRoot : Sp := fun vs H Q _ => ∃ n p : Int, vs = [.int n, .int p] ∧ NT.Pr p ∧ 3 ≤ p ∧ p ≤ 1000000 ∧ (∀ r, 0 ≤ r → r < p → NT.C p (r * r) n → Q (.int r) H) ∧ ((∀ x, ¬ NT.C p (x * x) n) → Q .non H)
theorem ok_root_of {f f1 : Addr} {fd fd1 : FuncData} (F : Fun K "root_of" "root_of" s_root_of f fd) (D_power : DefAt K mg "power" "power" s_power ["number", "often", "prime"] f1 fd1) :
    FnOk P w K mg base CX0 2 f fd ["number", "prime"] spRoot := by
  have G_power : FnOk P w K mg base CX0 1 f1 fd1 ["number", "often", "prime"] spPower := ok_power D_power.F
  refine F.ok sc_root_of (fun vs H Q E h => ?_) (fun cdv A outer s H vs Q E hr h => ?_)
  · obtain ⟨n, p, rfl, _⟩ := h
    rfl
  · obtain ⟨n, p, rfl, pp, p3, p6, q, qN⟩ := h
    refine ⟨_, pss_cons (ps_set (i := 0) sc_root_of.nd rfl (by first | exact Or.inl rfl | exact Or.inr rfl) (pe_op op_mod (pv 0) (pv 1)))
      (pss_cons (ps_if (pt_cmpR op_eq (pv 0) (pe_int) (nomark _)) (pss_one (ps_ret (pe_int))) (pss_nil))
      (pss_cons (ps_if (pt_cmpR op_ne (pe_call G_power (hr.mono (by decide)) (by rfl) D_power.g D_power.kp D_power.b .nil pass0 (pa_cons (pv 0) (pa_cons (pe_op op_fdiv (pe_op op_sub (pv 1) (pe_int)) (pe_int)) (pa_cons (pv 1) pa_nil)))) (pe_int) (nomark _)) (pss_one (ps_ret (pe_non))) (pss_nil))
      (pss_cons (ps_par (i := 2) (j := 3) (by rfl) sc_root_of.nd rfl rfl (by decide) rfl rfl (pa_cons (pe_op op_sub (pv 1) (pe_int)) (pa_cons (pe_int) pa_nil)) (by rfl))
      (pss_cut (ps_while PassesOwn.never (pt_cmpR op_eq (pe_op op_mod (pv 2) (pe_int)) (pe_int) (nomark _)) (pss_one (ps_par (i := 2) (j := 3) (by rfl) sc_root_of.nd rfl rfl (by decide) rfl rfl (pa_cons (pe_op op_fdiv (pv 2) (pe_int)) (pa_cons (pe_op op_add (pv 3) (pe_int)) pa_nil)) (by rfl))))
      (pss_cons (ps_set (i := 4) sc_root_of.nd rfl (by first | exact Or.inl rfl | exact Or.inr rfl) (pe_int))
      (pss_cut (ps_while PassesOwn.never (pt_cmpR op_eq (pe_call G_power (hr.mono (by decide)) (by rfl) D_power.g D_power.kp D_power.b .nil pass0 (pa_cons (pv 4) (pa_cons (pe_op op_fdiv (pe_op op_sub (pv 1) (pe_int)) (pe_int)) (pa_cons (pv 1) pa_nil)))) (pe_int) (nomark _)) (pss_one (ps_set (i := 4) sc_root_of.nd rfl (by first | exact Or.inl rfl | exact Or.inr rfl) (pe_op op_add (pv 4) (pe_int)))))
      (pss_cons (ps_set (i := 5) sc_root_of.nd rfl (by first | exact Or.inl rfl | exact Or.inr rfl) (pe_call G_power (hr.mono (by decide)) (by rfl) D_power.g D_power.kp D_power.b .nil pass0 (pa_cons (pv 4) (pa_cons (pv 2) (pa_cons (pv 1) pa_nil)))))
      (pss_cons (ps_set (i := 6) sc_root_of.nd rfl (by first | exact Or.inl rfl | exact Or.inr rfl) (pe_call G_power (hr.mono (by decide)) (by rfl) D_power.g D_power.kp D_power.b .nil pass0 (pa_cons (pv 0) (pa_cons (pe_op op_fdiv (pe_op op_add (pv 2) (pe_int)) (pe_int)) (pa_cons (pv 1) pa_nil)))))
      (pss_cons (ps_set (i := 7) sc_root_of.nd rfl (by first | exact Or.inl rfl | exact Or.inr rfl) (pe_call G_power (hr.mono (by decide)) (by rfl) D_power.g D_power.kp D_power.b .nil pass0 (pa_cons (pv 0) (pa_cons (pv 2) (pa_cons (pv 1) pa_nil)))))
      (pss_cut (ps_while PassesOwn.never (pt_cmpR op_ne (pv 7) (pe_int) (nomark _)) (pss_cons (ps_par (i := 8) (j := 9) (by rfl) sc_root_of.nd rfl rfl (by decide) rfl rfl (pa_cons (pe_int) (pa_cons (pv 7) pa_nil)) (by rfl))
      (pss_cut (ps_while PassesOwn.never (pt_cmpR op_ne (pv 9) (pe_int) (nomark _)) (pss_one (ps_par (i := 9) (j := 8) (by rfl) sc_root_of.nd rfl rfl (by decide) rfl rfl (pa_cons (pe_op op_mod (pe_op op_mulB (pv 9) (pv 9)) (pv 1)) (pa_cons (pe_op op_add (pv 8) (pe_int)) pa_nil)) (by rfl))))
      (pss_cons (ps_set (i := 10) sc_root_of.nd rfl (by first | exact Or.inl rfl | exact Or.inr rfl) (pe_call G_power (hr.mono (by decide)) (by rfl) D_power.g D_power.kp D_power.b .nil pass0 (pa_cons (pv 5) (pa_cons (pe_op op_shl (pe_int) (pe_op op_sub (pe_op op_sub (pv 3) (pv 8)) (pe_int))) (pa_cons (pv 1) pa_nil)))))
      (pss_cons (ps_set (i := 6) sc_root_of.nd rfl (by first | exact Or.inl rfl | exact Or.inr rfl) (pe_op op_mod (pe_op op_mulB (pv 6) (pv 10)) (pv 1)))
      (pss_cons (ps_set (i := 5) sc_root_of.nd rfl (by first | exact Or.inl rfl | exact Or.inr rfl) (pe_op op_mod (pe_op op_mulB (pv 10) (pv 10)) (pv 1)))
      (pss_cons (ps_set (i := 7) sc_root_of.nd rfl (by first | exact Or.inl rfl | exact Or.inr rfl) (pe_op op_mod (pe_op op_mulB (pv 7) (pv 5)) (pv 1)))
      (pss_one (ps_set (i := 3) sc_root_of.nd rfl (by first | exact Or.inl rfl | exact Or.inr rfl) (pv 8))))))))))
      (pss_one (ps_ret (pv 6))))))))))))), ?_⟩
    walk_at "rd"
    refine ⟨by omega, ite2 (fun h0 => q 0 (Int.le_refl 0) (by omega) ?_) (fun h0 => ?_)⟩
    · exact NT.C.of_emod (by rw [h0]; rfl)
    have hnd : ¬ p ∣ n % p := fun z => h0 (by
      have := Int.emod_eq_zero_of_dvd z
      rwa [Int.emod_emod_of_dvd n (Int.dvd_refl p)] at this)
    have hnn := mod_b (a := n) (show 0 < p by omega)
    refine ⟨⟨by decide, by decide⟩, ⟨by omega, by omega, by omega⟩, ite2 (fun h1 => ?_) (fun h1 => qN fun x hx => h1 ?_)⟩
    · have e1 : NT.C p ((n % p) ^ NT.hf p) 1 := (NT.mod1 (by omega)).mp h1
      -- odd and twos
      refine ⟨fun σ H' => H' = H ∧ ∃ (odd : Int) (t : Nat), σ = [some (.int (n % p)), some (.int p), some (.int odd), some (.int (t : Int)), none, none, none, none, none, none, none] ∧ 0 < odd ∧ odd * 2 ^ t = p - 1 ∧ 1 ≤ t ∧ odd % 2 = 1, ?_, ?_⟩
      · refine ⟨rw1 n p H, ⟨_, rfl, p - 1, 0, rfl, by omega, by rw [Int.pow_zero, Int.mul_one], .inr rfl, rfl⟩, ?_⟩
        rintro m σ H' ⟨rfl, odd, t, rfl, o0, ot, o1, em⟩
        walk_at "rd"
        refine ⟨by decide, ite2 (fun hb => ⟨fun σ2 H2 => ∃ m', m' < m ∧ rw1 n p H' m' σ2 H2, fun _ _ z => z, ⟨by decide, by decide⟩, (odd / 2).toNat, by omega, rfl, odd / 2, t + 1, rfl, by omega, ?_, .inl (by omega), rfl⟩) (fun hb => ⟨by trivial, odd, t, rfl, o0, ot, ?_, by omega⟩)⟩
        · rw [← ot, Int.pow_succ]
          have : odd / 2 * 2 = odd := by omega
          rw [Int.mul_comm (2 ^ t) 2, ← Int.mul_assoc, this]
        · have := pp.odd p3
          omega
      rintro σ H' ⟨rfl, odd, t, rfl, o0, ot, t1, o2⟩
      have ht : t ≤ 1000 := by
        rcases Nat.lt_or_ge 1000 t with h | h
        · exfalso
          have a0 : 2 ^ 20 ≤ 2 ^ t := Nat.pow_le_pow_right (by decide) (by omega)
          have a1 : (2 : Int) ^ 20 ≤ 2 ^ t := by exact_mod_cast a0
          have a2 : 1 * 2 ^ t ≤ odd * 2 ^ t := Int.mul_le_mul_of_nonneg_right (by omega) (Int.le_of_lt (Int.pow_pos (by decide)))
          omega
        · exact h
      have hodd : odd ≤ p - 1 := by
        have a2 : odd * 1 ≤ odd * 2 ^ t := Int.mul_le_mul_of_nonneg_left (show (1 : Int) ≤ 2 ^ t from Int.pow_pos (by decide)) (by omega)
        omega
      walk_at "rd"
      obtain ⟨z0, z2, zp, zs⟩ := NT.strange_is pp p3
      refine ⟨fun σ H'' => H'' = H' ∧ ∃ z : Int, σ = [some (.int (n % p)), some (.int p), some (.int odd), some (.int (t : Int)), some (.int z), none, none, none, none, none, none] ∧ 2 ≤ z ∧ z < p ∧ ¬ NT.C p (z ^ NT.hf p) 1, ?_, ?_⟩
      · refine ⟨rw2 n p odd z0 t H', ⟨_, rfl, 2, rfl, by omega, z2, rfl⟩, ?_⟩
        rintro m σ H'' ⟨rfl, z, rfl, a1, a2, em⟩
        walk_at "rd"
        refine ⟨⟨by decide, by decide⟩, ⟨by omega, by omega, by omega⟩, ite2 (fun hb => ?_) (fun hb => ⟨by trivial, z, rfl, a1, by omega, fun c => hb ((NT.mod1 (by omega)).mpr c)⟩)⟩
        have hz : z ≠ z0 := fun e => zs (e ▸ (NT.mod1 (by omega)).mp hb)
        exact ⟨fun σ2 H2 => ∃ m', m' < m ∧ rw2 n p odd z0 t H'' m' σ2 H2, fun _ _ z => z, (z0 - (z + 1)).toNat, by omega, rfl, z + 1, rfl, by omega, by omega, rfl⟩
      rintro σ H'' ⟨rfl, z, rfl, a1, a2, hz⟩
      walk_at "rd"
      have hznd : ¬ p ∣ z := NT.small_nd (by omega) a2
      have TS0 := NT.TS.start pp p3 t1 o2 o0 ot e1 hznd hz
      have hm : ∀ a : Int, 0 ≤ a % p ∧ a % p < p := fun a => mod_b (by omega)
      refine ⟨⟨by omega, by omega, by omega⟩, ⟨by decide, by decide⟩, ⟨by omega, by omega, by omega⟩, ⟨by omega, by omega, by omega⟩, fun σ H3 => H3 = H'' ∧ ∃ (found : Int) (y2 y3 y4 y5 y7 y8 y9 y10 : Option V), σ = [some (.int (n % p)), some (.int p), y2, y3, y4, y5, some (.int found), y7, y8, y9, y10] ∧ 0 ≤ found ∧ found < p ∧ NT.C p (found * found) (n % p), ?_, ?_⟩
      · refine ⟨rw3 n p odd z H'', ⟨_, rfl, t, _, _, _, _, _, _, rfl, TS0, ht, (hm _).1, (hm _).2, (hm _).1, (hm _).2, (hm _).1, (hm _).2, rfl⟩, ?_⟩
        rintro m σ H3 ⟨rfl, t, found, left, step, y8, y9, y10, rfl, ts, t3, f0, f1, l0, l1, s0, s1, em⟩
        walk_at "rd"
        refine ite2 (fun hb => ⟨by trivial, found, _, _, _, _, _, _, _, _, rfl, f0, f1, ?_⟩) (fun hl => ?_)
        · subst hb
          exact ts.done
        have tt1 := ts.t1
        refine ⟨fun σ2 H2 => ∃ m', m' < m ∧ rw3 n p odd z H3 m' σ2 H2, fun _ _ z => z, fun σ H4 => H4 = H3 ∧ ∃ (k : Nat) (y10 : Option V), σ = [some (.int (n % p)), some (.int p), some (.int odd), some (.int (t : Int)), some (.int z), some (.int step), some (.int found), some (.int left), some (.int (k : Int)), some (.int 1), y10] ∧ 1 ≤ k ∧ k ≤ t - 1 ∧ NT.C p (left ^ 2 ^ k) 1 ∧ ¬ NT.C p (left ^ 2 ^ (k - 1)) 1, ?_, ?_⟩
        · refine ⟨rw4 n p odd z step found left t H3, ⟨_, rfl, 0, left, _, rfl, l0, l1, ?_, by omega, fun j hj => absurd hj (Nat.not_lt_zero j), rfl⟩, ?_⟩
          · exact NT.C.of_eq (by rw [Nat.pow_zero, Int.pow_succ, Int.pow_zero, Int.one_mul])
          rintro m σ H4 ⟨rfl, k, now, y10, rfl, n0, n1, hnow, hk, hj, em⟩
          walk_at "rd"
          refine ite2 (fun hb => ?_) (fun hb => ?_)
          · subst hb
            have k1 : 1 ≤ k := by
              rcases Nat.eq_zero_or_pos k with h | h
              · exfalso
                subst h
                have c := hnow
                rw [Nat.pow_zero, Int.pow_succ, Int.pow_zero, Int.one_mul] at c
                exact hl (c.symm.eq l0 l1 (by omega) (by omega))
              · exact h
            exact ⟨by trivial, k, _, rfl, k1, hk, hnow.symm, hj (k - 1) (by omega)⟩
          · have hnow1 : ¬ NT.C p (left ^ 2 ^ k) 1 := fun c => hb ((hnow.trans c).eq n0 n1 (by omega) (by omega))
            have hkt : k ≠ t - 1 := fun e => hnow1 (e ▸ ts.l)
            refine ⟨fun σ2 H2 => ∃ m', m' < m ∧ rw4 n p odd z step found left t H4 m' σ2 H2, fun _ _ z => z, mulB_small (by omega) (by omega), by omega, t - (k + 1), by omega, rfl, k + 1, now * now % p, _, rfl, (hm _).1, (hm _).2, ?_, by omega, fun j hj2 => ?_, rfl⟩
            · refine (NT.C.mod p _).trans ((NT.C.mul hnow hnow).trans (NT.C.of_eq ?_))
              rw [← Int.pow_add, Nat.pow_succ, Nat.mul_two]
            · by_cases e : j = k
              · subst e
                exact hnow1
              · exact hj j (by omega)
        · rintro σ H4 ⟨rfl, k, y10, rfl, k1, k2, hk, hk1⟩
          walk_at "rd"
          have e5 : (1 : Int) * 2 ^ ((t : Int) - (k : Int) - 1).toNat = 2 ^ (t - k - 1) := by
            rw [Int.one_mul, show ((t : Int) - (k : Int) - 1).toNat = t - k - 1 by omega]
          have e6 : ((1 : Int) * 2 ^ ((t : Int) - (k : Int) - 1).toNat).toNat = 2 ^ (t - k - 1) := by
            rw [e5]
            have : (2 : Int) ^ (t - k - 1) = ((2 ^ (t - k - 1) : Nat) : Int) := by rw [Int.natCast_pow]; rfl
            rw [this, Int.toNat_natCast]
          have e7 : (0 : Int) ≤ 1 * 2 ^ ((t : Int) - (k : Int) - 1).toNat := by
            rw [e5]
            exact Int.le_of_lt (Int.pow_pos (by decide))
          have ts2 := ts.turn pp p3 k1 k2 hk hk1 (part := step ^ 2 ^ (t - k - 1) % p) rfl
          rw [e6]
          have h1 := hm (step ^ 2 ^ (t - k - 1))
          have h2 := hm (step ^ 2 ^ (t - k - 1) % p * (step ^ 2 ^ (t - k - 1) % p))
          exact ⟨⟨by omega, by omega, by decide⟩, ⟨e7, by omega, by omega⟩, mulB_small (by omega) (by omega), by omega, mulB_small (by omega) (by omega), by omega, mulB_small (by omega) (by omega), by omega, k, by omega, rfl, k, _, _, _, _, _, _, rfl, ts2, by omega, (hm _).1, (hm _).2, (hm _).1, (hm _).2, (hm _).1, (hm _).2, rfl⟩
      · rintro σ H3 ⟨rfl, found, y2, y3, y4, y5, y7, y8, y9, y10, rfl, f0, f1, hf⟩
        walk_at "rd"
        exact q found f0 f1 (hf.trans (NT.C.mod p n))
    · have := NT.euler_sq pp p3 hnd (hx.trans (NT.C.mod p n).symm)
      exact (NT.mod1 (by omega)).mpr this
end
end Sa
local macro_rules | `(tactic| walk_at "rd") => `(tactic| ((try simp only [L2.start, L2.wipe, List.set_cons_succ, List.set_cons_zero, List.map_cons, List.map_nil, List.length_cons, List.length_nil, List.cons_append, List.nil_append, List.replicate_succ, List.replicate_zero, Nat.reduceSub, Nat.reduceAdd, Nat.zero_add]); try simp only [↓Sa.rd_seq, ↓Sa.rd_power, ↓Sa.rd_markOf,  ↓Sa.rd_next, ↓Sa.rd_brk, ↓Sa.rd_asg, ↓Sa.rp_name, ↓Sa.rp_par, ↓Sa.rd_ret, ↓Sa.rd_retN, ↓Sa.rd_drop, ↓Sa.rd_if, ↓Sa.rp_var, ↓Sa.rd_c, ↓Sa.rd_op, ↓Sa.rd_un, ↓Sa.rd_I0, ↓Sa.rd_I, ↓Sa.rd_U, ↓Sa.rd_eqI, ↓Sa.rd_neI, ↓Sa.rd_test, ↓Sa.rd_B, ↓Sa.rd_and, ↓Sa.rd_or, ↓Sa.rd_not, ↓Sa.rd_andV, ↓Sa.rd_orV, ↓Sa.rd_notV, ↓Sa.rd_ifE, ↓Sa.rd_isN, ↓Sa.rd_notN, ↓Sa.rd_chain, ↓Sa.rd_chain3, ↓Sa.rd_nil, ↓Sa.rd_cons, ↓Sa.rd_tup, ↓Sa.rd_lst, ↓Sa.rd_call, ↓Sa.rd_CB, ↓Sa.rd_ixL, ↓Sa.rd_ixT, ↓Sa.rd_sl, ↓Sa.rd_noPart, ↓Sa.rd_part, ↓Sa.rd_slL, ↓Sa.rd_sum, ↓Sa.rd_all, ↓Sa.rd_any, ↓Sa.ex_int, ↓Sa.ex_int1, ↓Sa.ex_int2, ↓Sa.rd_len, ↓Sa.ex_len, ↓Sa.ex_bl, ↓Sa.ex_two, ↓Sa.slot_z, ↓Sa.slot_n, ↓Sa.setS_z, ↓Sa.setS_n, ↓Sa.if_tt, ↓Sa.if_ff, ↓Sa.if_dec, ↓Sa.if_ndec, ↓Sa.if_nb, ↓Sa.rd_forL, ↓Sa.rd_forT, ↓Sa.rd_forR1, ↓Sa.rd_forR2, ↓Sa.rd_forR3, ↓Sa.ex_ref, ↓Sa.cx_K, ↓List.append_nil, List.length_cons, List.length_nil, Nat.reduceAdd, Nat.zero_add]))
namespace Sa
open PySem PySem.Spec PyProof.Rows L2 Evl
section
variable {P : Program} {w : World} {K : PySem.W.Frag} {mg : Str → Option Value} {base : Heap}
def spMark (K : PySem.W.Frag) (CP CN : Addr) : Sp := fun vs H Q E => ∃ (v u : V) (t t' : String), vs = [v, u] ∧ TyX K H v (.type t) ∧ t ∈ tys ∧ TyX K H u (.type t') ∧ t' ∈ tys ∧
  (okP v = false → E (.ref CP) none H) ∧ (okP v = true → ((∀ d, u ≠ .int d) → E (.ref CN) none H) ∧ ∀ p n, v = .int p → u = .int n → (¬ (0 ≤ n ∧ n < p) → E (.ref CN) none H) ∧ (0 ≤ n → n < p → Q (.int (NT.mk p n)) H))
def spNumberOf (K : PySem.W.Frag) (CP CN CK : Addr) : Sp := fun vs H Q E => ∃ (v u : V) (t t' : String), vs = [v, u] ∧ TyX K H v (.type t) ∧ t ∈ tys ∧ TyX K H u (.type t') ∧ t' ∈ tys ∧
  (okP v = false → E (.ref CP) none H) ∧ (okP v = true → ((∀ d, u ≠ .int d) → E (.ref CN) none H) ∧ ∀ p x, v = .int p → u = .int x → (∀ n, 0 ≤ n → n < p → NT.mk p n = x → Q (.int n) H) ∧ ((∀ n, 0 ≤ n → n < p → NT.mk p n ≠ x) → E (.ref CK) none H))
def spTwoOf (K : PySem.W.Frag) (CP CN : Addr) : Sp := fun vs H Q E => ∃ (v u : V) (t t' : String), vs = [v, u] ∧ TyX K H v (.type t) ∧ t ∈ tys ∧ TyX K H u (.type t') ∧ t' ∈ tys ∧
  (okP v = false → E (.ref CP) none H) ∧ (okP v = true → ((∀ d, u ≠ .int d) → E (.ref CN) none H) ∧ ∀ p d, v = .int p → u = .int d → B 40000000 d ∧ TellPair (NT.PairS p d) H Q)
theorem ok_mark {f f1 f2 f3 C_BadPrime C_BadNumber : Addr} {fd fd1 fd2 fd3 : FuncData} (F : Fun K "mark" "mark" s_mark f fd) (X_BadNumber : ErrAt K mg "BadNumber" C_BadNumber)
    (D_is_number : DefAt K mg "is_number" "is_number" s_is_number ["thing"] f1 fd1) (G_is_number : FnOk P w K mg base CX0 1 f1 fd1 ["thing"] (spIsNum K)) (D_asked_prime : DefAt K mg "asked_prime" "asked_prime" s_asked_prime ["prime"] f2 fd2) (G_asked_prime : FnOk P w K mg base (L2N.CX P w) 2 f2 fd2 ["prime"] (spAskedPrime K C_BadPrime))
    (D_mark_of : DefAt K mg "mark_of" "mark_of" s_mark_of ["prime", "number"] f3 fd3) (G_mark_of : FnOk P w K mg base CX0 1 f3 fd3 ["prime", "number"] spMarkOf) :
    FnOk P w K mg base (L2N.CX P w) 3 f fd ["prime", "number"] (spMark K C_BadPrime C_BadNumber) := by
  refine okN F sc_mark (fun vs H Q E h => ?_) (fun cdv A outer s H vs Q E hr h => ?_)
  · obtain ⟨v, u, t, t', rfl, _⟩ := h
    rfl
  · obtain ⟨v, u, t, t', rfl, ty, ht, ty', ht', hE, hQ⟩ := h
    refine ⟨_, pss_cons (ps_expr (pe_call G_asked_prime (hr.mono (by decide)) (by rfl) D_asked_prime.g D_asked_prime.kp D_asked_prime.b .nil (L2N.passes_call (L2N.takes_of rfl rfl rfl rfl) (fun _ _ _ _ h => h)) (pa_cons (pv 0) pa_nil)))
      (pss_cons (ps_if (PW.pt (pw_or (pt_not (pt_val (pe_call G_is_number (hr.mono (by decide)) (by rfl) D_is_number.g D_is_number.kp D_is_number.b .nil pass0 (pa_cons (pv 1) pa_nil)))) (pw_or1 (pt_not (pt_chain op_le op_lt (pe_int) (pv 1) (pv 0)))))) (pss_one (L2N.ps_raise rfl (L2N.takes_of rfl rfl rfl rfl) (L2N.pmk_own PySem.F.excBase_ValueError X_BadNumber.x X_BadNumber.g X_BadNumber.kp (raises_own X_BadNumber.sb X_BadNumber.ty) rfl))) (pss_nil))
      (pss_one (ps_ret (pe_call G_mark_of (hr.mono (by decide)) (by rfl) D_mark_of.g D_mark_of.kp D_mark_of.b .nil pass0 (pa_cons (pv 0) (pa_cons (pv 1) pa_nil)))))), ?_⟩
    walk_at "rd"
    refine ⟨v, t, rfl, ty, ht, fun hv => ?_, hE⟩
    obtain ⟨h2, h3⟩ := hQ hv
    obtain ⟨p, rfl, p3, p6, hp⟩ := okP_int hv
    refine ⟨u, t', rfl, ty', ht', _, rfl, ?_⟩
    rcases tyx_num ty' with e | ⟨e, hn⟩
    · rw [e]
      obtain rfl : t' = "int" := eq_of_beq e
      obtain ⟨d, rfl⟩ := tyx_int ty'
      obtain ⟨k1, k2⟩ := h3 p d rfl rfl
      refine iteT ?_
      walk_at "rd"
      exact ite2 (fun a => ite2 (fun b => ⟨⟨by omega, by omega, by omega⟩, k2 a b⟩) (fun b => k1 fun z => b z.2)) (fun a => k1 fun z => a z.1)
    · rw [e]
      exact iteF (h2 hn)
theorem ok_number_of {f f1 f2 f3 C_BadPrime C_BadNumber C_NoMark : Addr} {fd fd1 fd2 fd3 : FuncData} (F : Fun K "number_of" "number_of" s_number_of f fd) (X_BadNumber : ErrAt K mg "BadNumber" C_BadNumber) (X_NoMark : ErrAt K mg "NoMark" C_NoMark)
    (D_is_number : DefAt K mg "is_number" "is_number" s_is_number ["thing"] f1 fd1) (G_is_number : FnOk P w K mg base CX0 1 f1 fd1 ["thing"] (spIsNum K)) (D_asked_prime : DefAt K mg "asked_prime" "asked_prime" s_asked_prime ["prime"] f2 fd2) (G_asked_prime : FnOk P w K mg base (L2N.CX P w) 2 f2 fd2 ["prime"] (spAskedPrime K C_BadPrime))
    (D_mark_of : DefAt K mg "mark_of" "mark_of" s_mark_of ["prime", "number"] f3 fd3) (G_mark_of : FnOk P w K mg base CX0 1 f3 fd3 ["prime", "number"] spMarkOf) :
    FnOk P w K mg base (L2N.CX P w) 3 f fd ["prime", "found"] (spNumberOf K C_BadPrime C_BadNumber C_NoMark) := by
  refine okN F sc_number_of (fun vs H Q E h => ?_) (fun cdv A outer s H vs Q E hr h => ?_)
  · obtain ⟨v, u, t, t', rfl, _⟩ := h
    rfl
  · obtain ⟨v, u, t, t', rfl, ty, ht, ty', ht', hE, hQ⟩ := h
    refine ⟨_, pss_cons (ps_expr (pe_call G_asked_prime (hr.mono (by decide)) (by rfl) D_asked_prime.g D_asked_prime.kp D_asked_prime.b .nil (L2N.passes_call (L2N.takes_of rfl rfl rfl rfl) (fun _ _ _ _ h => h)) (pa_cons (pv 0) pa_nil)))
      (pss_cons (ps_if (pt_not (pt_val (pe_call G_is_number (hr.mono (by decide)) (by rfl) D_is_number.g D_is_number.kp D_is_number.b .nil pass0 (pa_cons (pv 1) pa_nil)))) (pss_one (L2N.ps_raise rfl (L2N.takes_of rfl rfl rfl rfl) (L2N.pmk_own PySem.F.excBase_ValueError X_BadNumber.x X_BadNumber.g X_BadNumber.kp (raises_own X_BadNumber.sb X_BadNumber.ty) rfl))) (pss_nil))
      (pss_cons (ps_set (i := 2) sc_number_of.nd rfl (by first | exact Or.inl rfl | exact Or.inr rfl) (pe_op op_fdiv (pv 1) (pe_op op_mulB (pe_int) (pv 0))))
      (pss_cons (ps_if (PW.pt (pw_or (pt_not (pt_chain op_le op_lt (pe_int) (pv 2) (pv 0))) (pw_or1 (pt_cmpR op_ne (pe_call G_mark_of (hr.mono (by decide)) (by rfl) D_mark_of.g D_mark_of.kp D_mark_of.b .nil pass0 (pa_cons (pv 0) (pa_cons (pv 2) pa_nil))) (pv 1) (nomark _))))) (pss_one (L2N.ps_raise rfl (L2N.takes_of rfl rfl rfl rfl) (L2N.pmk_own PySem.F.excBase_ValueError X_NoMark.x X_NoMark.g X_NoMark.kp (raises_own X_NoMark.sb X_NoMark.ty) rfl))) (pss_nil))
      (pss_one (ps_ret (pv 2)))))), ?_⟩
    walk_at "rd"
    refine ⟨v, t, rfl, ty, ht, fun hv => ?_, hE⟩
    obtain ⟨h2, h3⟩ := hQ hv
    obtain ⟨p, rfl, p3, p6, hp⟩ := okP_int hv
    refine ⟨u, t', rfl, ty', ht', _, rfl, ?_⟩
    rcases tyx_num ty' with e | ⟨e, hn⟩
    · rw [e]
      obtain rfl : t' = "int" := eq_of_beq e
      obtain ⟨d, rfl⟩ := tyx_int ty'
      obtain ⟨k1, k2⟩ := h3 p d rfl rfl
      refine iteT ?_
      walk_at "rd"
      refine ⟨mulB_small (by omega) (by omega), ⟨by omega, by omega⟩, ?_⟩
      obtain ⟨n, en⟩ : ∃ n, n = d / (2 * p) := ⟨_, rfl⟩
      rw [← en]
      have no : (0 ≤ n → n < p → NT.mk p n ≠ d) → E (.ref C_NoMark) none H := fun z => k2 fun m m0 m1 e => by
        have := NT.mk_div (n := m) (show 0 < p by omega)
        rw [e, ← en] at this
        subst this
        exact z m0 m1 e
      exact ite2 (fun a => ite2 (fun b => ⟨⟨by omega, by omega, by omega⟩, ite2 (fun c => k1 n a b c) (fun c => no fun _ _ => c)⟩) (fun b => no fun _ z => absurd z b)) (fun a => no fun z => absurd z a)
    · rw [e]
      exact iteF (h2 hn)
theorem ok_two_of {f f1 f2 f3 f4 f5 C_BadPrime C_BadNumber : Addr} {fd fd1 fd2 fd3 fd4 fd5 : FuncData} (T : Blt mg) (F : Fun K "two_of" "two_of" s_two_of f fd) (X_BadNumber : ErrAt K mg "BadNumber" C_BadNumber)
    (D_is_number : DefAt K mg "is_number" "is_number" s_is_number ["thing"] f1 fd1) (G_is_number : FnOk P w K mg base CX0 1 f1 fd1 ["thing"] (spIsNum K)) (D_asked_prime : DefAt K mg "asked_prime" "asked_prime" s_asked_prime ["prime"] f2 fd2) (G_asked_prime : FnOk P w K mg base (L2N.CX P w) 2 f2 fd2 ["prime"] (spAskedPrime K C_BadPrime))
    (D_power : DefAt K mg "power" "power" s_power ["number", "often", "prime"] f3 fd3) (G_power : FnOk P w K mg base CX0 1 f3 fd3 ["number", "often", "prime"] spPower) (D_mark_of : DefAt K mg "mark_of" "mark_of" s_mark_of ["prime", "number"] f4 fd4) (G_mark_of : FnOk P w K mg base CX0 1 f4 fd4 ["prime", "number"] spMarkOf)
    (D_root_of : DefAt K mg "root_of" "root_of" s_root_of ["number", "prime"] f5 fd5) (G_root_of : FnOk P w K mg base CX0 2 f5 fd5 ["number", "prime"] spRoot) :
    FnOk P w K mg base (L2N.CX P w) 3 f fd ["prime", "total"] (spTwoOf K C_BadPrime C_BadNumber) := by
  refine okN F sc_two_of (fun vs H Q E h => ?_) (fun cdv A outer s H vs Q E hr h => ?_)
  · obtain ⟨v, u, t, t', rfl, _⟩ := h
    rfl
  · obtain ⟨v, u, t, t', rfl, ty, ht, ty', ht', hE, hQ⟩ := h
    refine ⟨_, pss_cons (ps_expr (pe_call G_asked_prime (hr.mono (by decide)) (by rfl) D_asked_prime.g D_asked_prime.kp D_asked_prime.b .nil (L2N.passes_call (L2N.takes_of rfl rfl rfl rfl) (fun _ _ _ _ h => h)) (pa_cons (pv 0) pa_nil)))
      (pss_cons (ps_if (pt_not (pt_val (pe_call G_is_number (hr.mono (by decide)) (by rfl) D_is_number.g D_is_number.kp D_is_number.b .nil pass0 (pa_cons (pv 1) pa_nil)))) (pss_one (L2N.ps_raise rfl (L2N.takes_of rfl rfl rfl rfl) (L2N.pmk_own PySem.F.excBase_ValueError X_BadNumber.x X_BadNumber.g X_BadNumber.kp (raises_own X_BadNumber.sb X_BadNumber.ty) rfl))) (pss_nil))
      (pss_cons (ps_set (i := 2) sc_two_of.nd rfl (by first | exact Or.inl rfl | exact Or.inr rfl) (pe_op op_fdiv (pv 1) (pe_op op_mulB (pe_int) (pv 0))))
      (pss_cons (ps_set (i := 3) sc_two_of.nd rfl (by first | exact Or.inl rfl | exact Or.inr rfl) (pe_call G_power (hr.mono (by decide)) (by rfl) D_power.g D_power.kp D_power.b .nil pass0 (pa_cons (pe_int) (pa_cons (pe_op op_sub (pv 0) (pe_int)) (pa_cons (pv 0) pa_nil)))))
      (pss_cons (ps_set (i := 4) sc_two_of.nd rfl (by first | exact Or.inl rfl | exact Or.inr rfl) (pe_call G_root_of (hr.mono (by decide)) (by rfl) D_root_of.g D_root_of.kp D_root_of.b .nil pass0 (pa_cons (pe_op op_sub (pe_op op_mulB (pe_int) (pe_op op_mod (pv 1) (pe_op op_mulB (pe_int) (pv 0)))) (pe_op op_mulB (pv 2) (pv 2))) (pa_cons (pv 0) pa_nil))))
      (pss_cons (ps_if (pt_cmp (pc_isN (pv 4))) (pss_one (ps_ret (pe_non))) (pss_nil))
      (pss_cut (ps_for PassesOwn.leaving rfl (pi_tup (pe_tup (pa_cons (pe_int) (pa_cons (pe_un un_neg (pe_int)) pa_nil)))) (pg_name (i := 5) sc_two_of.nd rfl (by first | exact Or.inl rfl | exact Or.inr rfl)) (pss_cut (ps_set (i := 6) sc_two_of.nd rfl (by first | exact Or.inl rfl | exact Or.inr rfl) (pe_op op_mod (pe_op op_mulB (pe_op op_add (pv 2) (pe_op op_mulB (pv 5) (pv 4))) (pv 3)) (pv 0)))
      (pss_one (ps_for PassesOwn.leaving rfl (pi_tup (pe_tup (pa_cons (pe_op op_sub (pv 2) (pv 6)) (pa_cons (pv 6) pa_nil)))) (pg_name (i := 7) sc_two_of.nd rfl (by first | exact Or.inl rfl | exact Or.inr rfl)) (pss_one (ps_if (PW.pt (pw_and (pt_chain op_le op_lt (pe_int) (pv 7) (pv 0)) (pw_and1 (pt_chain op_le op_lt (pe_int) (pe_op op_sub (pv 2) (pv 7)) (pv 0))))) (pss_one (ps_if (pt_cmpR op_eq (pe_op op_add (pe_call G_mark_of (hr.mono (by decide)) (by rfl) D_mark_of.g D_mark_of.kp D_mark_of.b .nil pass0 (pa_cons (pv 0) (pa_cons (pv 7) pa_nil))) (pe_call G_mark_of (hr.mono (by decide)) (by rfl) D_mark_of.g D_mark_of.kp D_mark_of.b .nil pass0 (pa_cons (pv 0) (pa_cons (pe_op op_sub (pv 2) (pv 7)) pa_nil)))) (pv 1) (nomark _)) (pss_one (ps_ret (pe_tup (pa_cons (pe_callB (call_min2 rfl) (by rfl) T.b_min (by decide +kernel) (pa_cons (pv 7) (pa_cons (pe_op op_sub (pv 2) (pv 7)) pa_nil))) (pa_cons (pe_callB (call_max2 rfl) (by rfl) T.b_max (by decide +kernel) (pa_cons (pv 7) (pa_cons (pe_op op_sub (pv 2) (pv 7)) pa_nil))) pa_nil))))) (pss_nil))) (pss_nil)))))))
      (pss_one (ps_ret (pe_non))))))))), ?_⟩
    walk_at "rd"
    refine ⟨v, t, rfl, ty, ht, fun hv => ?_, hE⟩
    obtain ⟨h2, h3⟩ := hQ hv
    obtain ⟨p, rfl, p3, p6, hp⟩ := okP_int hv
    refine ⟨u, t', rfl, ty', ht', _, rfl, ?_⟩
    rcases tyx_num ty' with e | ⟨e, hn⟩
    · rw [e]
      obtain rfl : t' = "int" := eq_of_beq e
      obtain ⟨d, rfl⟩ := tyx_int ty'
      obtain ⟨hB, k1, k2⟩ := h3 p d rfl rfl
      refine iteT ?_
      walk_at "rd"
      have hBb : B 40000000 (d / (2 * p)) := hB.ediv (by omega)
      have hd := mod_b (a := d) (show 0 < 2 * p by omega)
      refine ⟨mulB_small (by omega) (by omega), ⟨by omega, by omega⟩, ⟨by omega, by omega, by omega⟩, mulB_small (by omega) (by omega), by omega, mulB_small (by omega) (by omega), hBb.ok hBb (by decide) (by decide) (by decide), ?_⟩
      obtain ⟨both, eb⟩ : ∃ b, b = d / (2 * p) := ⟨_, rfl⟩
      obtain ⟨rest, er⟩ : ∃ r, r = d % (2 * p) := ⟨_, rfl⟩
      obtain ⟨half, eh⟩ : ∃ h, h = (2 : Int) ^ (p - 2).toNat % p := ⟨_, rfl⟩
      have hh := mod_b (a := (2 : Int) ^ (p - 2).toNat) (show 0 < p by omega)
      rw [← eh] at hh
      rw [← eb] at hBb
      rw [← eb, ← er, ← eh]
      have parts : ∀ a b, NT.PairS p d a b → both = a + b ∧ rest = a * a % p + b * b % p := fun a b z => by
        have := NT.sum_parts (show 0 < p by omega) z.2.2.2
        rw [← eb, ← er] at this
        exact this
      have sq : ∀ a b, NT.PairS p d a b → NT.C p ((a - b) * (a - b)) (2 * rest - both * both) := fun a b z => by
        obtain ⟨e1, e2⟩ := parts a b z
        rw [e1, e2]
        exact NT.sum_sq.symm
      refine ⟨2 * rest - both * both, p, rfl, hp, p3, p6, fun r r0 r1 hr => ?_, fun hno => (if_pos rfl).mpr (k2 (fun a b z => hno _ (sq a b z)) H (Same.refl H))⟩
      refine (if_neg (by intro z; cases z)).mpr ⟨fun σ H' => Same H H' ∧ ∀ a b, ¬ NT.PairS p d a b, ?_, fun σ H' ⟨s, no⟩ => k2 no H' s⟩
      refine for_dispT (n := 2) (I := IInts [1, -1]) (fun _ _ _ _ h => h) (fun xs _ h => by rw [show xs = _ from h]; rfl) (by decide) (al_consI ee_c (al_consI (ee_U ee_c) al_nilI))
        (fun i σ H' => Same H H' ∧ (1 ≤ i → ∀ a b, ¬ NT.PairS p d a b) ∧ ∃ y5 y6 y7, σ = [some (.int p), some (.int d), some (.int both), some (.int half), some (.int r), y5, y6, y7])
        (fun H1 s => ⟨s, fun z => absurd z (by decide), _, _, _, rfl⟩) ?_ (fun σ H' s h => ⟨h.1, h.2.1 (by decide)⟩)
      rintro Hf l sf i x xs σ' H' hx hi sH hI ⟨s, hno, y5, y6, y7, rfl⟩
      have hI' : xs = [V.int 1, V.int (-1)] := hI
      obtain ⟨sg, rfl, hsg⟩ : ∃ sg : Int, x = .int sg ∧ (i = 0 ∧ sg = 1 ∨ 1 ≤ i ∧ sg = -1) := by
        rw [hI'] at hx
        match i, hx with
        | 0, hx => cases hx; exact ⟨1, rfl, .inl ⟨rfl, rfl⟩⟩
        | 1, hx => cases hx; exact ⟨-1, rfl, .inr ⟨by decide, rfl⟩⟩
        | n + 2, hx => simp at hx
      refine ⟨fun σ H'' => H'' = H' ∧ σ = [some (.int p), some (.int d), some (.int both), some (.int half), some (.int r), some (.int sg), some (.int ((both + sg * r) * half % p)), y7], ?_, ?_⟩
      · walk_at "rd"
        have hsr : (sg * r).natAbs < 2 ^ 62 := by
          rcases hsg with ⟨_, rfl⟩ | ⟨_, rfl⟩ <;> omega
        exact ⟨mulB_small (by omega) (by omega), ((hBb.add ((B.small hsr).mono (by decide))).ok (B.small (x := half) (by omega)) (by decide) (by decide) (by decide)), by omega, by trivial, by trivial⟩
      rintro σ H'' ⟨rfl, rfl⟩
      obtain ⟨one, eo⟩ : ∃ o, o = (both + sg * r) * half % p := ⟨_, rfl⟩
      rw [← eo]
      refine for_dispT (n := 2) (I := IInts [both - one, one]) (fun _ _ _ _ h => h) (fun xs _ h => by rw [show xs = _ from h]; rfl) (by decide) (al_consI (ee_I0 (ee_var rfl) (ee_var rfl)) (al_consI (ee_var rfl) al_nilI))
        (fun j σ H' => Same H'' H' ∧ (1 ≤ j → ∀ a b, ¬ NT.PairS p d a b) ∧ ∃ y7, σ = [some (.int p), some (.int d), some (.int both), some (.int half), some (.int r), some (.int sg), some (.int one), y7])
        (fun H1 s => ⟨s, fun z => absurd z (by decide), _, rfl⟩) ?_ (fun σ H' s4 ⟨s5, no, y7, e⟩ => ⟨sH.trans s4, s.trans s4, fun _ => no (by decide), _, _, _, e⟩)
      rintro Hg l2 sg2 j x2 xs2 σ2 H2 hx2 hj sH2 hI2 ⟨s2, hno2, y7, rfl⟩
      have hI2' : xs2 = [V.int (both - one), V.int one] := hI2
      obtain ⟨o, rfl, ho⟩ : ∃ o : Int, x2 = .int o ∧ (j = 0 ∧ o = both - one ∨ 1 ≤ j) := by
        rw [hI2'] at hx2
        match j, hx2 with
        | 0, hx2 => cases hx2; exact ⟨_, rfl, .inl ⟨rfl, rfl⟩⟩
        | 1, hx2 => cases hx2; exact ⟨_, rfl, .inr (by decide)⟩
        | n + 2, hx2 => simp at hx2
      have nxt : ¬ (0 ≤ o ∧ o < p ∧ 0 ≤ both - o ∧ both - o < p ∧ NT.mk p o + NT.mk p (both - o) = d) → ∀ a b, ¬ NT.PairS p d a b := fun hf a b z => by
        rcases ho with ⟨rfl, rfl⟩ | ho
        · rcases hsg with ⟨rfl, rfl⟩ | ⟨hsg, _⟩
          · have h1 := NT.sum_one hp p3 z.1 (by have := z.2.1; have := z.2.2.1; omega) (by have := z.1; have := z.2.1; omega) z.2.2.1 (hr.trans (sq a b z).symm)
            rw [← (parts a b z).1, ← eh, ← eo] at h1
            have h2 := (parts a b z).1
            have h3 := z.1
            have h4 := z.2.1
            have h5 := z.2.2.1
            have h6 := z.2.2.2
            rcases h1 with h1 | h1
            · refine hf ⟨by omega, by omega, by omega, by omega, ?_⟩
              rw [show both - (both - one) = a by omega, show both - one = b by omega, Int.add_comm]
              exact h6
            · refine hf ⟨by omega, by omega, by omega, by omega, ?_⟩
              rw [show both - (both - one) = b by omega, show both - one = a by omega]
              exact h6
          · exact hno hsg a b z
        · exact hno2 ho a b z
      have s3 := s.trans s2
      walk_at "rd"
      refine ite2 (fun c1 => ite2 (fun c2 => ite2 (fun c3 => ite2 (fun c4 => ?_) (fun c4 => ?_)) (fun c3 => ?_)) (fun c2 => ?_)) (fun c1 => ?_)
      · refine ⟨⟨by omega, by omega, by omega⟩, ⟨by omega, by omega, by omega⟩, ite2 (fun c5 => ?_) (fun c5 => ?_)⟩
        · refine ⟨by decide, fun q hq => k1 _ _ ?_ _ q (s3.trans (same_new hq)) (s3.free hq) upd_same⟩
          by_cases hlt : both - o < o
          · rw [if_pos hlt, if_neg (by omega)]
            exact ⟨by omega, by omega, by omega, by rw [Int.add_comm]; exact c5⟩
          · rw [if_neg hlt]
            by_cases hgt : both - o > o
            · rw [if_pos hgt]
              exact ⟨by omega, by omega, by omega, c5⟩
            · rw [if_neg hgt]
              have : both - o = o := by omega
              rw [this] at c5
              exact ⟨by omega, by omega, by omega, c5⟩
        · exact ⟨sH2, s2, fun _ => nxt fun z => c5 z.2.2.2.2, _, rfl⟩
      · exact ⟨sH2, s2, fun _ => nxt fun z => c4 z.2.2.2.1, _, rfl⟩
      · exact ⟨sH2, s2, fun _ => nxt fun z => c3 z.2.2.1, _, rfl⟩
      · exact ⟨sH2, s2, fun _ => nxt fun z => c2 z.2.1, _, rfl⟩
      · exact ⟨sH2, s2, fun _ => nxt fun z => c1 z.1, _, rfl⟩
    · rw [e]
      exact iteF (h2 hn)
end
end Sa
local macro_rules | `(tactic| walk_at "rd") => `(tactic| ((try simp only [L2.start, L2.wipe, List.set_cons_succ, List.set_cons_zero, List.map_cons, List.map_nil, List.length_cons, List.length_nil, List.cons_append, List.nil_append, List.replicate_succ, List.replicate_zero, Nat.reduceSub, Nat.reduceAdd, Nat.zero_add]); try simp only [↓Sa.rd_seq, ↓Sa.rd_power, ↓Sa.rd_markOf,  ↓Sa.rd_next, ↓Sa.rd_brk, ↓Sa.rd_asg, ↓Sa.rp_name, ↓Sa.rp_par, ↓Sa.rd_ret, ↓Sa.rd_retN, ↓Sa.rd_drop, ↓Sa.rd_if, ↓Sa.rp_var, ↓Sa.rd_c, ↓Sa.rd_op, ↓Sa.rd_un, ↓Sa.rd_I0, ↓Sa.rd_I, ↓Sa.rd_U, ↓Sa.rd_eqI, ↓Sa.rd_neI, ↓Sa.rd_test, ↓Sa.rd_B, ↓Sa.rd_and, ↓Sa.rd_or, ↓Sa.rd_not, ↓Sa.rd_andV, ↓Sa.rd_orV, ↓Sa.rd_notV, ↓Sa.rd_ifE, ↓Sa.rd_isN, ↓Sa.rd_notN, ↓Sa.rd_chain, ↓Sa.rd_chain3, ↓Sa.rd_nil, ↓Sa.rd_cons, ↓Sa.rd_tup, ↓Sa.rd_lst, ↓Sa.rd_call, ↓Sa.rd_CB, ↓Sa.rd_ixL, ↓Sa.rd_ixT, ↓Sa.rd_sl, ↓Sa.rd_noPart, ↓Sa.rd_part, ↓Sa.rd_slL, ↓Sa.rd_sum, ↓Sa.rd_all, ↓Sa.rd_any, ↓Sa.ex_int, ↓Sa.ex_int1, ↓Sa.ex_int2, ↓Sa.rd_len, ↓Sa.ex_len, ↓Sa.ex_bl, ↓Sa.ex_two, ↓Sa.slot_z, ↓Sa.slot_n, ↓Sa.setS_z, ↓Sa.setS_n, ↓Sa.if_tt, ↓Sa.if_ff, ↓Sa.if_dec, ↓Sa.if_ndec, ↓Sa.if_nb, ↓Sa.rd_forL, ↓Sa.rd_forT, ↓Sa.rd_forR1, ↓Sa.rd_forR2, ↓Sa.rd_forR3, ↓Sa.ex_ref, ↓Sa.cx_K, ↓List.append_nil, List.length_cons, List.length_nil, Nat.reduceAdd, Nat.zero_add]))
namespace Sa
open PySem PySem.Spec PyProof.Rows L2 Evl
section
variable {P : Program} {w : World} {K : PySem.W.Frag} {mg : Str → Option Value} {base : Heap}
def spApartBy (K : PySem.W.Frag) (CP CN : Addr) : Sp := fun vs H Q E => ∃ (v u : V) (t t' : String), vs = [v, u] ∧ TyX K H v (.type t) ∧ t ∈ tys ∧ TyX K H u (.type t') ∧ t' ∈ tys ∧
  (okP v = false → E (.ref CP) none H) ∧ (okP v = true → (∀ d, u = .int d → d < 1 → E (.ref CN) none H) ∧ ((∀ d, u ≠ .int d) → E (.ref CN) none H) ∧ ∀ p d, v = .int p → u = .int d → 1 ≤ d → B 50000000 d ∧ TellPair (NT.PairD p d) H Q)
theorem ok_apart_by {f f1 f2 f3 f4 C_BadPrime C_BadNumber : Addr} {fd fd1 fd2 fd3 fd4 : FuncData} (F : Fun K "apart_by" "apart_by" s_apart_by f fd) (X_BadNumber : ErrAt K mg "BadNumber" C_BadNumber)
    (D_is_number : DefAt K mg "is_number" "is_number" s_is_number ["thing"] f1 fd1) (G_is_number : FnOk P w K mg base CX0 1 f1 fd1 ["thing"] (spIsNum K)) (D_asked_prime : DefAt K mg "asked_prime" "asked_prime" s_asked_prime ["prime"] f2 fd2) (G_asked_prime : FnOk P w K mg base (L2N.CX P w) 2 f2 fd2 ["prime"] (spAskedPrime K C_BadPrime))
    (D_power : DefAt K mg "power" "power" s_power ["number", "often", "prime"] f3 fd3) (G_power : FnOk P w K mg base CX0 1 f3 fd3 ["number", "often", "prime"] spPower) (D_mark_of : DefAt K mg "mark_of" "mark_of" s_mark_of ["prime", "number"] f4 fd4) (G_mark_of : FnOk P w K mg base CX0 1 f4 fd4 ["prime", "number"] spMarkOf) :
    FnOk P w K mg base (L2N.CX P w) 3 f fd ["prime", "difference"] (spApartBy K C_BadPrime C_BadNumber) := by
  refine okN F sc_apart_by (fun vs H Q E h => ?_) (fun cdv A outer s H vs Q E hr h => ?_)
  · obtain ⟨v, u, t, t', rfl, _⟩ := h
    rfl
  · obtain ⟨v, u, t, t', rfl, ty, ht, ty', ht', hE, hQ⟩ := h
    refine ⟨_, pss_cons (ps_expr (pe_call G_asked_prime (hr.mono (by decide)) (by rfl) D_asked_prime.g D_asked_prime.kp D_asked_prime.b .nil (L2N.passes_call (L2N.takes_of rfl rfl rfl rfl) (fun _ _ _ _ h => h)) (pa_cons (pv 0) pa_nil)))
      (pss_cons (ps_if (PW.pt (pw_or (pt_not (pt_val (pe_call G_is_number (hr.mono (by decide)) (by rfl) D_is_number.g D_is_number.kp D_is_number.b .nil pass0 (pa_cons (pv 1) pa_nil)))) (pw_or1 (pt_cmpR op_lt (pv 1) (pe_int) (nomark _))))) (pss_one (L2N.ps_raise rfl (L2N.takes_of rfl rfl rfl rfl) (L2N.pmk_own PySem.F.excBase_ValueError X_BadNumber.x X_BadNumber.g X_BadNumber.kp (raises_own X_BadNumber.sb X_BadNumber.ty) rfl))) (pss_nil))
      (pss_cons (ps_set (i := 2) sc_apart_by.nd rfl (by first | exact Or.inl rfl | exact Or.inr rfl) (pe_op op_fdiv (pe_op op_add (pv 1) (pv 0)) (pe_op op_mulB (pe_int) (pv 0))))
      (pss_cons (ps_if (pt_not (pt_chain op_le op_lt (pe_int) (pv 2) (pv 0))) (pss_one (ps_ret (pe_non))) (pss_nil))
      (pss_cons (ps_set (i := 3) sc_apart_by.nd rfl (by first | exact Or.inl rfl | exact Or.inr rfl) (pe_op op_mod (pe_op op_mulB (pv 1) (pe_call G_power (hr.mono (by decide)) (by rfl) D_power.g D_power.kp D_power.b .nil pass0 (pa_cons (pv 2) (pa_cons (pe_op op_sub (pv 0) (pe_int)) (pa_cons (pv 0) pa_nil))))) (pv 0)))
      (pss_cons (ps_set (i := 4) sc_apart_by.nd rfl (by first | exact Or.inl rfl | exact Or.inr rfl) (pe_op op_mod (pe_op op_mulB (pe_op op_sub (pv 3) (pv 2)) (pe_call G_power (hr.mono (by decide)) (by rfl) D_power.g D_power.kp D_power.b .nil pass0 (pa_cons (pe_int) (pa_cons (pe_op op_sub (pv 0) (pe_int)) (pa_cons (pv 0) pa_nil))))) (pv 0)))
      (pss_cons (ps_if (PW.pt (pw_and (pt_cmpR op_lt (pe_op op_add (pv 4) (pv 2)) (pv 0) (nomark _)) (pw_and1 (pt_cmpR op_eq (pe_op op_sub (pe_call G_mark_of (hr.mono (by decide)) (by rfl) D_mark_of.g D_mark_of.kp D_mark_of.b .nil pass0 (pa_cons (pv 0) (pa_cons (pe_op op_add (pv 4) (pv 2)) pa_nil))) (pe_call G_mark_of (hr.mono (by decide)) (by rfl) D_mark_of.g D_mark_of.kp D_mark_of.b .nil pass0 (pa_cons (pv 0) (pa_cons (pv 4) pa_nil)))) (pv 1) (nomark _))))) (pss_one (ps_ret (pe_tup (pa_cons (pv 4) (pa_cons (pe_op op_add (pv 4) (pv 2)) pa_nil))))) (pss_nil))
      (pss_one (ps_ret (pe_non))))))))), ?_⟩
    walk_at "rd"
    refine ⟨v, t, rfl, ty, ht, fun hv => ?_, hE⟩
    obtain ⟨h1, h2, h3⟩ := hQ hv
    obtain ⟨p, rfl, p3, p6, hp⟩ := okP_int hv
    refine ⟨u, t', rfl, ty', ht', _, rfl, ?_⟩
    rcases tyx_num ty' with e | ⟨e, hn⟩
    · rw [e]
      obtain rfl : t' = "int" := eq_of_beq e
      obtain ⟨d, rfl⟩ := tyx_int ty'
      refine iteT ?_
      walk_at "rd"
      refine ite2 (fun hd => h1 d rfl hd) (fun hd => ?_)
      obtain ⟨hB, k1, k2⟩ := h3 p d rfl rfl (by omega)
      have hpow : ∀ a : Int, 0 ≤ a % p ∧ a % p < p := fun a => mod_b (by omega)
      refine ⟨mulB_small (by omega) (by omega), ⟨by omega, by show 2 * p < 1073741824; omega⟩, ?_⟩
      have none' : (∀ a b, ¬ NT.PairD p d a b) → Q .non H := fun z => k2 z H (Same.refl H)
      refine ite2 (fun hs1 => ite2 (fun hs2 => ?_) (fun hs2 => none' fun a b z => ?_)) (fun hs1 => none' fun a b z => ?_)
      · obtain ⟨s, es⟩ : ∃ s, s = (d + p) / (2 * p) := ⟨_, rfl⟩
        rw [← es] at hs1 hs2 ⊢
        obtain ⟨q1, e1⟩ : ∃ q1, q1 = s ^ (p - 2).toNat % p := ⟨_, rfl⟩
        obtain ⟨q2, e2⟩ : ∃ q2, q2 = (2 : Int) ^ (p - 2).toNat % p := ⟨_, rfl⟩
        obtain ⟨bo, e3⟩ : ∃ bo, bo = d * q1 % p := ⟨_, rfl⟩
        obtain ⟨low, e4⟩ : ∃ low, low = (bo - s) * q2 % p := ⟨_, rfl⟩
        have b1 := hpow (s ^ (p - 2).toNat)
        have b2 := hpow (2 ^ (p - 2).toNat)
        rw [← e1] at b1
        rw [← e2] at b2
        have b3 := hpow (d * q1)
        rw [← e3] at b3
        have b4 := hpow ((bo - s) * q2)
        rw [← e4] at b4
        rw [← e1, ← e2, ← e3, ← e4]
        have key : ∀ a b, NT.PairD p d a b → low = a ∧ s = b - a := fun a b z => by
          have hs := NT.pairD_steps p3 z
          rw [← es] at hs
          have hl := NT.pairD_low hp p3 z hs (both := bo) (by rw [e3, e1])
          rw [← e2, ← e4] at hl
          exact ⟨hl, hs⟩
        refine ⟨⟨by omega, by omega, by omega⟩, B.ok hB (B.small (by omega)) (by decide) (by decide) (by decide), by omega, ⟨by omega, by omega, by omega⟩, mulB_small (by omega) (by omega), by omega, ite2 (fun c1 => ?_) (fun c1 => none' fun a b z => ?_)⟩
        · refine ⟨⟨by omega, by omega, by omega⟩, ⟨by omega, by omega, by omega⟩, ite2 (fun c2 => ?_) (fun c2 => none' fun a b z => ?_)⟩
          · exact ⟨by decide, fun q hq => k1 low (low + s) ⟨b4.1, by omega, c1, c2⟩ _ q (same_new hq) hq upd_same⟩
          · obtain ⟨ha, hb⟩ := key a b z
            have := z.2.2.2
            rw [show low + s = b by omega, ha] at c2
            exact c2 this
        · obtain ⟨ha, hb⟩ := key a b z
          have := z.2.2.1
          omega
      · have := NT.pairD_steps p3 z
        have := z.1
        have := z.2.2.1
        omega
      · have := NT.pairD_steps p3 z
        have := z.2.1
        omega
    · rw [e]
      exact iteF (h2 hn)
end
end Sa
local macro_rules | `(tactic| walk_at "rd") => `(tactic| ((try simp only [L2.start, L2.wipe, List.set_cons_succ, List.set_cons_zero, List.map_cons, List.map_nil, List.length_cons, List.length_nil, List.cons_append, List.nil_append, List.replicate_succ, List.replicate_zero, Nat.reduceSub, Nat.reduceAdd, Nat.zero_add]); try simp only [↓Sa.rd_seq, ↓Sa.rd_dput, ↓Sa.rd_dget1, ↓Sa.rd_dnew, ↓Sa.rd_din, ↓Sa.rd_dget, ↓Sa.rd_fld, ↓Sa.rd_sfld, ↓Sa.rd_meth, ↓Sa.rd_make, ↓Sa.rd_made, ↓Sa.rd_lenSet,  ↓Sa.rd_next, ↓Sa.rd_brk, ↓Sa.rd_asg, ↓Sa.rp_name, ↓Sa.rp_par, ↓Sa.rd_ret, ↓Sa.rd_retN, ↓Sa.rd_drop, ↓Sa.rd_if, ↓Sa.rp_var, ↓Sa.rd_c, ↓Sa.rd_op, ↓Sa.rd_un, ↓Sa.rd_I0, ↓Sa.rd_I, ↓Sa.rd_U, ↓Sa.rd_eqI, ↓Sa.rd_neI, ↓Sa.rd_test, ↓Sa.rd_B, ↓Sa.rd_and, ↓Sa.rd_or, ↓Sa.rd_not, ↓Sa.rd_andV, ↓Sa.rd_orV, ↓Sa.rd_notV, ↓Sa.rd_ifE, ↓Sa.rd_isN, ↓Sa.rd_notN, ↓Sa.rd_chain, ↓Sa.rd_chain3, ↓Sa.rd_nil, ↓Sa.rd_cons, ↓Sa.rd_tup, ↓Sa.rd_lst, ↓Sa.rd_call, ↓Sa.rd_CB, ↓Sa.rd_ixL, ↓Sa.rd_ixT, ↓Sa.rd_sl, ↓Sa.rd_noPart, ↓Sa.rd_part, ↓Sa.rd_slL, ↓Sa.rd_sum, ↓Sa.rd_all, ↓Sa.rd_any, ↓Sa.ex_int, ↓Sa.ex_int1, ↓Sa.ex_int2, ↓Sa.rd_len, ↓Sa.ex_len, ↓Sa.ex_bl, ↓Sa.ex_two, ↓Sa.slot_z, ↓Sa.slot_n, ↓Sa.setS_z, ↓Sa.setS_n, ↓Sa.if_tt, ↓Sa.if_ff, ↓Sa.if_dec, ↓Sa.if_ndec, ↓Sa.if_nb, ↓Sa.rd_forL, ↓Sa.rd_forT, ↓Sa.rd_forR1, ↓Sa.rd_forR2, ↓Sa.rd_forR3, ↓Sa.ex_ref, ↓Sa.cx_K, ↓List.append_nil, List.length_cons, List.length_nil, Nat.reduceAdd, Nat.zero_add]))
namespace Sa
open PySem PySem.Spec PyProof.Rows L2 Evl
/-- the sums that were met, each with its pair -/
def FS (ms : List Int) (H : Hp) (d : Addr) (done : List (Nat × Nat)) : Prop :=
  ∃ kvs : List (Key × V), H d = some (.dK kvs) ∧ kvs.length = done.length ∧ (∀ k v, valV kvs (Sum.inl k) = some v → ∃ x ∈ done, SD.sm ms x = k ∧ ∃ q, v = .ref q ∧ H q = some (.tup [.int (x.1 : Int), .int (x.2 : Int)])) ∧
    (∀ x ∈ done, (valV kvs (Sum.inl (SD.sm ms x))).isSome = true) ∧ ∀ x ∈ done, ∀ y ∈ done, SD.sm ms x = SD.sm ms y → x = y
theorem FS.put {ms : List Int} {H : Hp} {d q : Addr} {done : List (Nat × Nat)} (h : FS ms H d done) {i j : Nat} (nq : H q = none) (hz : done.length < 5000) (new : ∀ kvs, H d = some (.dK kvs) → valV kvs (Sum.inl (SD.sm ms (i, j))) = none) :
    ∃ H', DPut (upd H q (.tup [.int (i : Int), .int (j : Int)])) d (.int (SD.sm ms (i, j))) (.ref q) H' ∧ FS ms H' d (done ++ [(i, j)]) ∧ ∀ G, Same G H → G d = none → Same G H' := by
  obtain ⟨kvs, e1, e2, e3, e4, e5⟩ := h
  have sq : Same H (upd H q (.tup [.int (i : Int), .int (j : Int)])) := same_newO nq
  have new := new kvs e1
  refine ⟨_, DPut.k (k := Sum.inl (SD.sm ms (i, j))) (sq _ _ e1) (Nat.lt_of_lt_of_le (by omega) (show 5000 ≤ sizeLine by decide)), ⟨putK kvs (Sum.inl (SD.sm ms (i, j))) (.ref q), upd_same, ?_, fun k v x => ?_, fun x hx => ?_, fun x hx y hy e => ?_⟩, fun G g gd => same_mut (g.trans sq) gd⟩
  · rw [putK_new _ new, List.length_append, List.length_append, e2]
    rfl
  · rw [valV_put] at x
    split at x
    · rename_i ek
      cases ek
      cases x
      refine ⟨(i, j), List.mem_append_right _ List.mem_cons_self, rfl, q, rfl, ?_⟩
      rw [upd_ne (ne_of_none e1 nq).symm]
      exact upd_same
    · obtain ⟨y, hy, p1, q', p3, p4⟩ := e3 _ _ x
      refine ⟨y, List.mem_append_left _ hy, p1, q', p3, ?_⟩
      rw [upd_ne (ne_of p4 e1 (by intro z; cases z))]
      exact sq _ _ p4
  · rw [valV_put]
    split
    · rfl
    · rename_i ne
      rcases List.mem_append.mp hx with hx | hx
      · exact e4 x hx
      · rw [List.mem_singleton] at hx
        subst hx
        exact absurd rfl ne
  · have no : ∀ z ∈ done, SD.sm ms z ≠ SD.sm ms (i, j) := fun z hz e => by
      have := e4 z hz
      rw [e, new] at this
      cases this
    rcases List.mem_append.mp hx with hx | hx <;> rcases List.mem_append.mp hy with hy | hy
    · exact e5 x hx y hy e
    · rw [List.mem_singleton] at hy
      rw [hy] at e
      exact absurd e (no x hx)
    · rw [List.mem_singleton] at hx
      rw [hx] at e
      exact absurd e.symm (no y hy)
    · rw [List.mem_singleton] at hx hy
      rw [hx, hy]
theorem at_ix {ms : List Int} {i : Nat} (h : i < ms.length) : atI (ms.map V.int) ((0 : Int) + (i : Int)) = some (.int (SD.ix ms i)) := by
  rw [Int.zero_add]
  refine atI_nat ?_
  rw [List.getElem?_map, List.getElem?_eq_getElem h]
  unfold SD.ix
  rw [List.getD_eq_getElem?_getD, List.getElem?_eq_getElem h]
  rfl
theorem at_ixI {ms : List Int} {i : Int} (h0 : 0 ≤ i) (h : i < ms.length) : atI (ms.map V.int) i = some (.int (SD.ix ms i.toNat)) := by
  have := at_ix (ms := ms) (i := i.toNat) (by omega)
  rwa [show (0 : Int) + (i.toNat : Int) = i by omega] at this
section
variable {P : Program} {w : World} {K : PySem.W.Frag} {mg : Str → Option Value} {base : Heap}
def spFirst (K : PySem.W.Frag) : Sp := fun vs H Q _ => ∃ (l : Addr) (ms : List Int), vs = [.ref l] ∧ SqL K H l (ms.map V.int) ∧ ms.length ≤ 64 ∧ (SD.Sid ms → ∀ H', Same H H' → Q .non H') ∧
  (∀ a b c d p q1 q2 H', SD.Two ms a b c d → Same H H' → H p = none → H' p = some (.tup [.ref q1, .ref q2]) → H' q1 = some (.tup [.int a, .int b]) → H' q2 = some (.tup [.int c, .int d]) → Q (.ref p) H')
theorem ok_first {f : Addr} {fd : FuncData} (T : Blt mg) (F : Fun K "first_same" "first_same" s_first_same f fd) : FnOk P w K mg base CX0 1 f fd ["marks"] (spFirst K) := by
  refine F.ok sc_first_same (fun vs H Q E h => ?_) (fun cdv A outer s H vs Q E hr h => ?_)
  · obtain ⟨l, ms, rfl, _⟩ := h
    rfl
  · obtain ⟨l, ms, rfl, hS, hl, qN, qT⟩ := h
    refine ⟨_, pss_cons (ps_set (i := 1) sc_first_same.nd rfl (by first | exact Or.inl rfl | exact Or.inr rfl) (pe_dnewK))
      (pss_cut (ps_for PassesOwn.never rfl (pi_r1 (by rfl) T.b_range (pa_cons (pe_callB (call_lenk (K := K)) (by rfl) T.b_len (by decide +kernel) (pa_cons (pv 0) pa_nil)) pa_nil)) (pg_name (i := 2) sc_first_same.nd rfl (by first | exact Or.inl rfl | exact Or.inr rfl)) (pss_one (ps_for PassesOwn.never rfl (pi_r1 (by rfl) T.b_range (pa_cons (pe_op op_add (pv 2) (pe_int)) pa_nil)) (pg_name (i := 3) sc_first_same.nd rfl (by first | exact Or.inl rfl | exact Or.inr rfl)) (pss_cons (ps_set (i := 4) sc_first_same.nd rfl (by first | exact Or.inl rfl | exact Or.inr rfl) (pe_op op_add (pe_ix (ix_listk (K := K)) (pv 0) (pv 3) (fun _ _ => rfl)) (pe_ix (ix_listk (K := K)) (pv 0) (pv 2) (fun _ _ => rfl))))
      (pss_cons (ps_if (pt_cmp (pc_din (hu_of hr) (pv 4) (pv 1))) (pss_one (ps_ret (pe_tup (pa_cons (pe_dget (hu_of hr) (pv 1) (pv 4) (fun _ _ => rfl)) (pa_cons (pe_tup (pa_cons (pv 3) (pa_cons (pv 2) pa_nil))) pa_nil))))) (pss_nil))
      (pss_one (ps_dput (hu_of hr) (pv 1) (pv 4) (pe_tup (pa_cons (pv 3) (pa_cons (pv 2) pa_nil))) rfl)))))))
      (pss_one (ps_ret (pe_non)))), ?_⟩
    walk_at "rd"
    intro d nd
    have s0 : Same H (upd H d (.dK [])) := same_new nd
    refine ⟨fun σ H' => Same H H' ∧ SD.Sid ms, ?_, fun σ H' ⟨s, sd⟩ => qN sd H' s⟩
    walk_at "rd"
    refine ⟨_, .inl (s0.seq hS), ?_⟩
    refine for_range (fun i σ H' => Same H H' ∧ FS ms H' d (SD.prs i) ∧ ∃ y2 y3 y4, σ = [some (.ref l), some (.ref d), y2, y3, y4])
      ⟨s0, ⟨[], upd_same, rfl, fun k v x => (by cases x), fun x hx => (by cases hx), fun x hx => (by cases hx)⟩, _, _, _, rfl⟩ ?_ (fun σ H' ⟨s, fs, _⟩ => ⟨s, ?_⟩)
    · rintro i σ H' hi ⟨s1, fs, y2, y3, y4, rfl⟩
      have hi' : i < ms.length := by rw [List.length_map] at hi; omega
      walk_at "rd"
      refine for_range (fun j σ H' => Same H H' ∧ FS ms H' d (SD.prs i ++ (List.range j).map fun o => (o, i)) ∧ ∃ y3 y4, σ = [some (.ref l), some (.ref d), some (.int (0 + (i : Int))), y3, y4])
        ⟨s1, by rw [List.range_zero, List.map_nil, List.append_nil]; exact fs, _, _, rfl⟩ ?_ (fun σ H' ⟨s, fs, y3, y4, e⟩ => ⟨s, ?_, _, _, _, e⟩)
      · rintro j σ H'' hj ⟨s2, fs, y3, y4, rfl⟩
        have hj' : j < i + 1 := by omega
        walk_at "rd"
        refine ⟨_, _, s2.seq hS, at_ix (by omega), _, _, s2.seq hS, at_ix hi', ?_⟩
        walk_at "rd"
        have fs' := fs
        obtain ⟨kvs, e1, e2, e3, e4, e5⟩ := fs
        have hsm : SD.ix ms j + SD.ix ms i = SD.sm ms (j, i) := rfl
        rw [hsm]
        have hlen : (SD.prs i ++ (List.range j).map fun o => (o, i)).length < 5000 := by
          rw [List.length_append, List.length_map, List.length_range]
          have := SD.length_prs_le i
          have : i * i ≤ 63 * 63 := Nat.mul_le_mul (by omega) (by omega)
          omega
        refine ⟨d, _, rfl, DGet.k (k := Sum.inl (SD.sm ms (j, i))) e1, ?_⟩
        cases hv : valV kvs (Sum.inl (SD.sm ms (j, i))) with
        | some v =>
          obtain ⟨x, hx, hk, q, rfl, hq⟩ := e3 _ _ hv
          refine iteT ⟨d, _, rfl, by have := DGet.k (k := Sum.inl (SD.sm ms (j, i))) e1; rw [hv] at this; exact this, by decide, fun q2 n2 => ⟨by decide, fun p np => ?_⟩⟩
          have m1 := same_new (o := .tup [V.int (0 + (j : Int)), V.int (0 + (i : Int))]) n2
          have m2 := same_new (o := .tup [V.ref q, V.ref q2]) np
          have hx' : x.1 ≤ x.2 ∧ x.2 < ms.length ∧ ¬ (x.1 = j ∧ x.2 = i) := by
            rcases List.mem_append.mp hx with h | h
            · have := SD.mem_prs.mp h
              exact ⟨this.1, by omega, by omega⟩
            · obtain ⟨o, ho, rfl⟩ := List.mem_map.mp h
              have := List.mem_range.mp ho
              exact ⟨by show o ≤ i; omega, hi', by show ¬ (o = j ∧ i = i); omega⟩
          refine qT x.1 x.2 (0 + (j : Int)) (0 + (i : Int)) p q q2 _ ?_ (s2.trans (m1.trans m2)) (s2.free (m1.free np)) upd_same (m2 _ _ (m1 _ _ hq)) (m2 _ _ upd_same)
          refine ⟨by omega, by omega, by omega, by omega, by omega, by omega, by omega, ?_⟩
          rw [show ((x.1 : Int)).toNat = x.1 by omega, show ((x.2 : Int)).toNat = x.2 by omega, show (0 + (j : Int)).toNat = j by omega, show (0 + (i : Int)).toNat = i by omega]
          exact hk
        | none =>
          refine iteF ⟨by decide, fun q nq => ?_⟩
          obtain ⟨H5, hput, fs5, hsame⟩ := fs'.put (q := q) (i := j) (j := i) nq hlen (fun kvs' e => by rw [e1] at e; cases e; exact hv)
          rw [Int.zero_add, Int.zero_add]
          refine ⟨d, H5, rfl, hput, hsame _ s2 nd, ?_, _, _, rfl⟩
          rw [List.range_succ, List.map_append, ← List.append_assoc]
          exact fs5
      · rw [show (0 + (i : Int) + 1).toNat = i + 1 by omega] at fs
        exact fs
    · obtain ⟨kvs, e1, e2, e3, e4, e5⟩ := fs
      rw [show ((ms.map V.int).length : Int).toNat = ms.length by rw [List.length_map]; omega] at e5
      exact e5
end
end Sa
local macro_rules | `(tactic| walk_at "rd") => `(tactic| ((try simp only [L2.start, L2.wipe, List.set_cons_succ, List.set_cons_zero, List.map_cons, List.map_nil, List.length_cons, List.length_nil, List.cons_append, List.nil_append, List.replicate_succ, List.replicate_zero, Nat.reduceSub, Nat.reduceAdd, Nat.zero_add]); try simp only [↓Sa.rd_seq, ↓Sa.rd_dput, ↓Sa.rd_dget1, ↓Sa.rd_dnew, ↓Sa.rd_din, ↓Sa.rd_dget, ↓Sa.rd_fld, ↓Sa.rd_sfld, ↓Sa.rd_meth, ↓Sa.rd_make, ↓Sa.rd_made, ↓Sa.rd_lenSet,  ↓Sa.rd_next, ↓Sa.rd_brk, ↓Sa.rd_asg, ↓Sa.rp_name, ↓Sa.rp_par, ↓Sa.rd_ret, ↓Sa.rd_retN, ↓Sa.rd_drop, ↓Sa.rd_if, ↓Sa.rp_var, ↓Sa.rd_c, ↓Sa.rd_op, ↓Sa.rd_un, ↓Sa.rd_I0, ↓Sa.rd_I, ↓Sa.rd_U, ↓Sa.rd_eqI, ↓Sa.rd_neI, ↓Sa.rd_test, ↓Sa.rd_B, ↓Sa.rd_and, ↓Sa.rd_or, ↓Sa.rd_not, ↓Sa.rd_andV, ↓Sa.rd_orV, ↓Sa.rd_notV, ↓Sa.rd_ifE, ↓Sa.rd_isN, ↓Sa.rd_notN, ↓Sa.rd_chain, ↓Sa.rd_chain3, ↓Sa.rd_nil, ↓Sa.rd_cons, ↓Sa.rd_tup, ↓Sa.rd_lst, ↓Sa.rd_call, ↓Sa.rd_CB, ↓Sa.rd_ixL, ↓Sa.rd_ixT, ↓Sa.rd_sl, ↓Sa.rd_noPart, ↓Sa.rd_part, ↓Sa.rd_slL, ↓Sa.rd_sum, ↓Sa.rd_all, ↓Sa.rd_any, ↓Sa.ex_int, ↓Sa.ex_int1, ↓Sa.ex_int2, ↓Sa.rd_len, ↓Sa.ex_len, ↓Sa.ex_bl, ↓Sa.ex_two, ↓Sa.slot_z, ↓Sa.slot_n, ↓Sa.setS_z, ↓Sa.setS_n, ↓Sa.if_tt, ↓Sa.if_ff, ↓Sa.if_dec, ↓Sa.if_ndec, ↓Sa.if_nb, ↓Sa.rd_forL, ↓Sa.rd_forT, ↓Sa.rd_forR1, ↓Sa.rd_forR2, ↓Sa.rd_forR3, ↓Sa.ex_ref, ↓Sa.cx_K, ↓List.append_nil, List.length_cons, List.length_nil, Nat.reduceAdd, Nat.zero_add]))
namespace Sa
open PySem PySem.Spec PyProof.Rows L2 Evl
section
variable {P : Program} {w : World} {K : PySem.W.Frag} {mg : Str → Option Value} {base : Heap}
/-! ### Same -/
structure SameAt (K : PySem.W.Frag) (C : Addr) : Prop where
  cl : Cls K C
  n1 : NoAttr K C "one"
  n2 : NoAttr K C "other"
def spSameInit (K : PySem.W.Frag) (C : Addr) : Sp := fun vs H Q _ => ∃ (a dx : Addr) (v u : V), vs = [.ref a, v, u] ∧ H a = some (.ins C dx []) ∧ ∀ H', (∀ b, b ≠ a → H' b = H b) → H' a = some (.ins C dx [("one", v), ("other", u)]) → Q .non H'
theorem ok_same_init {f C : Addr} {fd : FuncData} (S : SameAt K C) (F : Fun K "__init__" "Same.__init__" s_Same_init f fd) : FnOk P w K mg base CX0 1 f fd ["self", "one", "other"] (spSameInit K C) := by
  refine F.ok sc_Same_init (fun vs H Q E h => ?_) (fun cdv A outer s H vs Q E hr h => ?_)
  · obtain ⟨a, dx, v, u, rfl, _⟩ := h
    rfl
  · obtain ⟨a, dx, v, u, rfl, hA, q⟩ := h
    refine ⟨_, pss_cons (ps_fld (pv 0) (pv 1) rfl)
      (pss_one (ps_fld (pv 0) (pv 2) rfl)), ?_⟩
    walk_at "rd"
    exact ⟨_, _, _, _, rfl, hA, S.cl, S.n1, by decide, _, _, _, _, rfl, upd_same, S.cl, S.n2, by show 1 < 1000; decide, q _ (fun b hb => by rw [upd_ne hb, upd_ne hb]) upd_same⟩
theorem make_same {C : Addr} {H : Hp} {Q : Addr → Hp → Prop} {E : XK} {v u : V} (k : ∀ x dx H2, H x = none → Same H H2 → H2 x = some (.ins C dx [("one", v), ("other", u)]) → Q x H2) :
    ∀ x dx, H x = none → H dx = none → dx ≠ x → spSameInit K C [.ref x, v, u] (upd (upd H dx (.own x)) x (.ins C dx [])) (fun v H2 => v = .non ∧ Q x H2) E := fun x dx nx nd ne =>
  ⟨x, dx, v, u, rfl, upd_same, fun H' h1 h2 => ⟨rfl, k x dx H' nx (fun b o e => by rw [h1 b (ne_of_none e nx), upd_ne (ne_of_none e nx), upd_ne (ne_of_none e nd)]; exact e) h2⟩⟩
end
end Sa
local macro_rules | `(tactic| walk_at "rd") => `(tactic| ((try simp only [L2.start, L2.wipe, List.set_cons_succ, List.set_cons_zero, List.map_cons, List.map_nil, List.length_cons, List.length_nil, List.cons_append, List.nil_append, List.replicate_succ, List.replicate_zero, Nat.reduceSub, Nat.reduceAdd, Nat.zero_add]); try simp only [↓Sa.rd_seq, ↓Sa.rd_dput, ↓Sa.rd_dget1, ↓Sa.rd_dnew, ↓Sa.rd_din, ↓Sa.rd_dget, ↓Sa.rd_fld, ↓Sa.rd_sfld, ↓Sa.rd_meth, ↓Sa.rd_make, ↓Sa.rd_made, ↓Sa.rd_lenSet,  ↓Sa.rd_next, ↓Sa.rd_brk, ↓Sa.rd_asg, ↓Sa.rp_name, ↓Sa.rp_par, ↓Sa.rd_ret, ↓Sa.rd_retN, ↓Sa.rd_drop, ↓Sa.rd_if, ↓Sa.rp_var, ↓Sa.rd_c, ↓Sa.rd_op, ↓Sa.rd_un, ↓Sa.rd_I0, ↓Sa.rd_I, ↓Sa.rd_U, ↓Sa.rd_eqI, ↓Sa.rd_neI, ↓Sa.rd_test, ↓Sa.rd_B, ↓Sa.rd_and, ↓Sa.rd_or, ↓Sa.rd_not, ↓Sa.rd_andV, ↓Sa.rd_orV, ↓Sa.rd_notV, ↓Sa.rd_ifE, ↓Sa.rd_isN, ↓Sa.rd_notN, ↓Sa.rd_chain, ↓Sa.rd_chain3, ↓Sa.rd_nil, ↓Sa.rd_cons, ↓Sa.rd_tup, ↓Sa.rd_lst, ↓Sa.rd_call, ↓Sa.rd_CB, ↓Sa.rd_ixL, ↓Sa.rd_ixT, ↓Sa.rd_sl, ↓Sa.rd_noPart, ↓Sa.rd_part, ↓Sa.rd_slL, ↓Sa.rd_sum, ↓Sa.rd_all, ↓Sa.rd_any, ↓Sa.ex_int, ↓Sa.ex_int1, ↓Sa.ex_int2, ↓Sa.rd_len, ↓Sa.ex_len, ↓Sa.ex_bl, ↓Sa.ex_two, ↓Sa.slot_z, ↓Sa.slot_n, ↓Sa.setS_z, ↓Sa.setS_n, ↓Sa.if_tt, ↓Sa.if_ff, ↓Sa.if_dec, ↓Sa.if_ndec, ↓Sa.if_nb, ↓Sa.rd_forL, ↓Sa.rd_forT, ↓Sa.rd_forR1, ↓Sa.rd_forR2, ↓Sa.rd_forR3, ↓Sa.ex_ref, ↓Sa.cx_K, ↓List.append_nil, List.length_cons, List.length_nil, Nat.reduceAdd, Nat.zero_add]))
namespace Sa
open PySem PySem.Spec PyProof.Rows L2 Evl
section
variable {P : Program} {w : World} {K : PySem.W.Frag} {mg : Str → Option Value} {base : Heap}
def spShowsA (K : PySem.W.Frag) : Sp := fun vs H Q _ => ∃ (v : V) (l : Addr) (ms : List Int), vs = [v, .ref l] ∧ SqL K H l (ms.map V.int) ∧ ms.length ≤ 64 ∧ ∀ H', Same H H' → Q (.bl (decide (SD.Sid ms))) H'
theorem ok_shows_a {f f1 : Addr} {fd fd1 : FuncData} (T : Blt mg) (F : Fun K "shows" "Apart.shows" s_Apart_shows f fd) (D_first_same : DefAt K mg "first_same" "first_same" s_first_same ["marks"] f1 fd1) (G_first_same : FnOk P w K mg base CX0 1 f1 fd1 ["marks"] (spFirst K)) : FnOk P w K mg base CX0 2 f fd ["self", "marks"] (spShowsA K) := by
  refine F.ok sc_Apart_shows (fun vs H Q E h => ?_) (fun cdv A outer s H vs Q E hr h => ?_)
  · obtain ⟨v, l, ms, rfl, _⟩ := h
    rfl
  · obtain ⟨v, l, ms, rfl, hS, hl, q⟩ := h
    refine ⟨_, pss_one (ps_ret (pe_cmp (pc_isN (pe_call G_first_same (hr.mono (by decide)) (by rfl) D_first_same.g D_first_same.kp D_first_same.b .nil pass0 (pa_cons (pv 1) pa_nil))) rfl)), ?_⟩
    walk_at "rd"
    refine ⟨l, ms, rfl, hS, hl, fun sd H' s => ?_, fun a b c d p q1 q2 H' two s _ _ _ _ => ?_⟩
    · have := q H' s
      rw [decide_eq_true sd] at this
      exact this
    · have := q H' s
      rw [decide_eq_false two.not_sid] at this
      exact this
def okP2 (n : Nat) : List Int → Bool
  | [a, b] => decide (0 ≤ a ∧ a ≤ b ∧ b < n)
  | _ => false
def sumP (ms : List Int) : List Int → Int
  | [a, b] => SD.ix ms a.toNat + SD.ix ms b.toNat
  | _ => 0
def goodB (ms xs ys : List Int) : Bool := !decide (xs = ys) && (okP2 ms.length xs && (okP2 ms.length ys && decide (sumP ms xs = sumP ms ys)))
theorem okP2_two {n : Nat} {xs : List Int} (h : okP2 n xs = true) : ∃ a b, xs = [a, b] ∧ 0 ≤ a ∧ a ≤ b ∧ b < n := by
  match xs, h with
  | [a, b], h => exact ⟨a, b, rfl, of_decide_eq_true h⟩
def spShowsS (K : PySem.W.Frag) (C : Addr) : Sp := fun vs H Q _ => ∃ (a dx p1 p2 l : Addr) (xs ys ms : List Int), vs = [.ref a, .ref l] ∧ H a = some (.ins C dx [("one", .ref p1), ("other", .ref p2)]) ∧ H p1 = some (.tup (xs.map V.int)) ∧ H p2 = some (.tup (ys.map V.int)) ∧
  SqL K H l (ms.map V.int) ∧ ∀ H', Same H H' → Q (.bl (goodB ms xs ys)) H'
theorem ok_shows_s {f C : Addr} {fd : FuncData} (T : Blt mg) (S : SameAt K C) (F : Fun K "shows" "Same.shows" s_Same_shows f fd) : FnOk P w K mg base CX0 1 f fd ["self", "marks"] (spShowsS K C) := by
  refine F.ok sc_Same_shows (fun vs H Q E h => ?_) (fun cdv A outer s H vs Q E hr h => ?_)
  · obtain ⟨a, dx, p1, p2, l, xs, ys, ms, rfl, _⟩ := h
    rfl
  · obtain ⟨a, dx, p1, p2, l, xs, ys, ms, rfl, hA, h1, h2, hS, q⟩ := h
    refine ⟨_, pss_cons (ps_if (pt_cmpR (op_eqDk (K := K) hr.units) (pe_fld (pv 0) rfl) (pe_fld (pv 0) rfl) (nomark _)) (pss_one (ps_ret (pe_bl))) (pss_nil))
      (pss_cut (ps_for PassesOwn.never rfl (pi_tup (pe_tup (pa_cons (pe_fld (pv 0) rfl) (pa_cons (pe_fld (pv 0) rfl) pa_nil)))) (pg_name (i := 2) sc_Same_shows.nd rfl (by first | exact Or.inl rfl | exact Or.inr rfl)) (pss_one (ps_if (PW.pt (pw_or (pt_cmpR op_ne (pe_callB (call_lenk (K := K)) (by rfl) T.b_len (by decide +kernel) (pa_cons (pv 2) pa_nil)) (pe_int) (nomark _)) (pw_or1 (pt_not (pt_chain3 op_le op_le op_lt (pe_int) (pe_ix (ix_tupk (K := K)) (pv 2) (pe_int) (fun _ _ => rfl)) (pe_ix (ix_tupk (K := K)) (pv 2) (pe_int) (fun _ _ => rfl)) (pe_callB (call_lenk (K := K)) (by rfl) T.b_len (by decide +kernel) (pa_cons (pv 1) pa_nil))))))) (pss_one (ps_ret (pe_bl))) (pss_nil))))
      (pss_one (ps_ret (pe_cmpR op_eq (pe_op op_add (pe_ix (ix_listk (K := K)) (pv 1) (pe_ix (ix_tupk (K := K)) (pe_fld (pv 0) rfl) (pe_int) (fun _ _ => rfl)) (fun _ _ => rfl)) (pe_ix (ix_listk (K := K)) (pv 1) (pe_ix (ix_tupk (K := K)) (pe_fld (pv 0) rfl) (pe_int) (fun _ _ => rfl)) (fun _ _ => rfl))) (pe_op op_add (pe_ix (ix_listk (K := K)) (pv 1) (pe_ix (ix_tupk (K := K)) (pe_fld (pv 0) rfl) (pe_int) (fun _ _ => rfl)) (fun _ _ => rfl)) (pe_ix (ix_listk (K := K)) (pv 1) (pe_ix (ix_tupk (K := K)) (pe_fld (pv 0) rfl) (pe_int) (fun _ _ => rfl)) (fun _ _ => rfl))) (nomark _))))), ?_⟩
    walk_at "rd"
    refine ⟨_, _, _, _, _, rfl, hA, S.cl, S.n1, rfl, _, _, _, _, _, rfl, hA, S.cl, S.n2, rfl, ?_⟩
    refine ⟨_, _, dp_tup (sqt_of h1), dp_tup (sqt_of h2), shaped_tup _, shaped_tup _, _, rfl, ?_⟩
    rw [eqv_tups]
    by_cases hxy : xs = ys
    · rw [decide_eq_true hxy]
      have := q H (Same.refl H)
      unfold goodB at this
      rw [decide_eq_true hxy] at this
      exact iteT this
    rw [decide_eq_false hxy]
    refine iteF ?_
    have bad : (okP2 ms.length xs = false ∨ okP2 ms.length ys = false) → goodB ms xs ys = false := fun h => by
      unfold goodB
      rcases h with h | h <;> simp [h]
    refine ⟨fun σ H' => Same H H' ∧ okP2 ms.length xs = true ∧ okP2 ms.length ys = true ∧ ∃ y2, σ = [some (.ref a), some (.ref l), y2], ?_, ?_⟩
    · walk_at "rd"
      refine ⟨_, _, _, _, _, rfl, hA, S.cl, S.n1, rfl, _, _, _, _, _, rfl, hA, S.cl, S.n2, rfl, by decide, fun p np => ⟨⟨_, sqt_of upd_same⟩, ?_⟩⟩
      have sp := same_new (o := .tup [V.ref p1, V.ref p2]) np
      refine for_tup (K := K) (a := p) (xs := [.ref p1, .ref p2]) (fun i σ H' => Same (upd H p (.tup [.ref p1, .ref p2])) H' ∧ (1 ≤ i → okP2 ms.length xs = true) ∧ (2 ≤ i → okP2 ms.length ys = true) ∧ ∃ y2, σ = [some (.ref a), some (.ref l), y2])
        ⟨Same.refl _, fun z => absurd z (by decide), fun z => absurd z (by decide), _, rfl⟩ (fun i σ H' _ ⟨s, _⟩ => sqt_of (s _ _ upd_same)) ?_ (fun σ H' ⟨s, a1, a2, e⟩ => ⟨sp.trans s, a1 (by show 1 ≤ 2; decide), a2 (by show 2 ≤ 2; decide), e⟩)
      rintro i x σ H' hi ⟨s1, a1, a2, y2, rfl⟩
      obtain ⟨pp, zs, rfl, hz, hbad, hgood⟩ : ∃ (pp : Addr) (zs : List Int), x = .ref pp ∧ H pp = some (.tup (zs.map V.int)) ∧ (okP2 ms.length zs = false → goodB ms xs ys = false) ∧ (okP2 ms.length zs = true → (1 ≤ i + 1 → okP2 ms.length xs = true) ∧ (2 ≤ i + 1 → okP2 ms.length ys = true)) := by
        match i, hi with
        | 0, hi =>
          cases hi
          exact ⟨p1, xs, rfl, h1, fun z => bad (.inl z), fun z => ⟨fun _ => z, fun z2 => absurd z2 (by decide)⟩⟩
        | 1, hi =>
          cases hi
          exact ⟨p2, ys, rfl, h2, fun z => bad (.inr z), fun z => ⟨fun _ => a1 (by decide), fun _ => z⟩⟩
        | n + 2, hi => simp at hi
      have s2 : Same H H' := sp.trans s1
      have hz' := s2 _ _ hz
      have qbad : okP2 ms.length zs = false → Q (.bl false) H' := fun z => by
        have := q H' s2
        rw [hbad z] at this
        exact this
      walk_at "rd"
      refine ⟨_, .inr (sqt_of hz'), ?_⟩
      match zs, hz', qbad, hgood with
      | [], hz', qbad, _ => exact ite2 (fun z => by simp at z) (fun _ => qbad rfl)
      | [c], hz', qbad, _ => exact ite2 (fun z => by simp at z) (fun _ => qbad rfl)
      | c :: c2 :: c3 :: r, hz', qbad, _ => exact ite2 (fun z => by simp at z; omega) (fun _ => qbad rfl)
      | [c1, c2], hz', qbad, hgood =>
        have e2 : okP2 ms.length [c1, c2] = decide (0 ≤ c1 ∧ c1 ≤ c2 ∧ c2 < ms.length) := rfl
        refine ite2 (fun _ => ?_) (fun z => absurd rfl z)
        refine ⟨_, _, sqt_of hz', atI_nat (j := 0) rfl, ?_⟩
        walk_at "rd"
        refine ite2 (fun k1 => ⟨_, _, sqt_of hz', atI_nat (j := 1) rfl, ?_⟩) (fun k1 => qbad (by rw [e2, decide_eq_false (fun z => k1 z.1)]))
        walk_at "rd"
        refine ite2 (fun k2 => ⟨_, .inl (s2.seq hS), ?_⟩) (fun k2 => qbad (by rw [e2, decide_eq_false (fun z => k2 z.2.1)]))
        walk_at "rd"
        have el : ((ms.map V.int).length : Int) = (ms.length : Int) := by rw [List.length_map]
        refine ite2 (fun k3 => ?_) (fun k3 => qbad (by rw [e2, decide_eq_false (fun z => k3 (by rw [el]; exact z.2.2))]))
        rw [el] at k3
        obtain ⟨b1, b2⟩ := hgood (by rw [e2, decide_eq_true ⟨k1, k2, k3⟩])
        exact ⟨s1, b1, b2, _, rfl⟩
    · rintro σ H' ⟨s1, a1, a2, y2, rfl⟩
      have hA' := s1 _ _ hA
      obtain ⟨c1, c2, rfl, c0, cc, cn⟩ := okP2_two a1
      obtain ⟨d1, d2, rfl, d0, dd, dn⟩ := okP2_two a2
      have qq := q H' s1
      rw [show goodB ms [c1, c2] [d1, d2] = decide (SD.ix ms c1.toNat + SD.ix ms c2.toNat = SD.ix ms d1.toNat + SD.ix ms d2.toNat) by
        unfold goodB
        rw [decide_eq_false hxy, a1, a2]
        rfl] at qq
      have aT : ∀ (zs : List Int) (pp : Addr) (i : Nat) (v : Int), H pp = some (.tup (zs.map V.int)) → zs[i]? = some v → ∃ v', SqT K H' pp (zs.map V.int) ∧ atI (zs.map V.int) (i : Int) = some v' ∧ v' = .int v := fun zs pp i v e ei =>
        ⟨_, sqt_of (s1 _ _ e), atI_nat (by rw [List.getElem?_map, ei]; rfl), rfl⟩
      walk_at "rd"
      refine ⟨_, _, _, _, _, rfl, hA', S.cl, S.n1, rfl, ?_⟩
      have fo : ∀ {R : V → Prop}, R (.ref p1) → ∃ a1 C1 dx1 fs v, V.ref a = V.ref a1 ∧ H' a1 = some (.ins C1 dx1 fs) ∧ Cls K C1 ∧ NoAttr K C1 (Str.ofString "one") ∧ List.lookup (Str.ofString "one") fs = some v ∧ R v := fun r => ⟨_, _, _, _, _, rfl, hA', S.cl, S.n1, rfl, r⟩
      have fp : ∀ {R : V → Prop}, R (.ref p2) → ∃ a1 C1 dx1 fs v, V.ref a = V.ref a1 ∧ H' a1 = some (.ins C1 dx1 fs) ∧ Cls K C1 ∧ NoAttr K C1 (Str.ofString "other") ∧ List.lookup (Str.ofString "other") fs = some v ∧ R v := fun r => ⟨_, _, _, _, _, rfl, hA', S.cl, S.n2, rfl, r⟩
      have hl := s1.seq hS
      have t1 := sqt_of (K := K) (s1 _ _ h1)
      have t2 := sqt_of (K := K) (s1 _ _ h2)
      refine ixT t1 (atI_nat (j := 0) rfl) (ixL hl (at_ixI c0 (by omega)) (fo (ixT t1 (atI_nat (j := 1) rfl) (ixL hl (at_ixI (by omega) cn) ?_))))
      walk_at "rd"
      refine fp (ixT t2 (atI_nat (j := 0) rfl) (ixL hl (at_ixI d0 (by omega)) (fp (ixT t2 (atI_nat (j := 1) rfl) (ixL hl (at_ixI (by omega) dn) ?_)))))
      walk_at "rd"
      exact qq
end
end Sa
local macro_rules | `(tactic| walk_at "rd") => `(tactic| ((try simp only [L2.start, L2.wipe, List.set_cons_succ, List.set_cons_zero, List.map_cons, List.map_nil, List.length_cons, List.length_nil, List.cons_append, List.nil_append, List.replicate_succ, List.replicate_zero, Nat.reduceSub, Nat.reduceAdd, Nat.zero_add]); try simp only [↓Sa.rd_seq, ↓Sa.rd_fld, ↓Sa.rd_make, ↓Sa.rd_made, ↓Sa.rd_lcL, ↓Sa.rd_lcR2,  ↓Sa.rd_next, ↓Sa.rd_brk, ↓Sa.rd_asg, ↓Sa.rp_name, ↓Sa.rp_par, ↓Sa.rd_ret, ↓Sa.rd_retN, ↓Sa.rd_drop, ↓Sa.rd_if, ↓Sa.rp_var, ↓Sa.rd_c, ↓Sa.rd_op, ↓Sa.rd_un, ↓Sa.rd_I0, ↓Sa.rd_I, ↓Sa.rd_U, ↓Sa.rd_eqI, ↓Sa.rd_neI, ↓Sa.rd_test, ↓Sa.rd_B, ↓Sa.rd_and, ↓Sa.rd_or, ↓Sa.rd_not, ↓Sa.rd_andV, ↓Sa.rd_orV, ↓Sa.rd_notV, ↓Sa.rd_ifE, ↓Sa.rd_isN, ↓Sa.rd_notN, ↓Sa.rd_chain, ↓Sa.rd_chain3, ↓Sa.rd_nil, ↓Sa.rd_cons, ↓Sa.rd_tup, ↓Sa.rd_lst, ↓Sa.rd_call, ↓Sa.rd_CB, ↓Sa.rd_ixL, ↓Sa.rd_ixT, ↓Sa.rd_sl, ↓Sa.rd_noPart, ↓Sa.rd_part, ↓Sa.rd_slL, ↓Sa.rd_sum, ↓Sa.rd_all, ↓Sa.rd_any, ↓Sa.ex_int, ↓Sa.ex_int1, ↓Sa.ex_int2, ↓Sa.rd_len, ↓Sa.ex_len, ↓Sa.ex_bl, ↓Sa.ex_two, ↓Sa.slot_z, ↓Sa.slot_n, ↓Sa.setS_z, ↓Sa.setS_n, ↓Sa.if_tt, ↓Sa.if_ff, ↓Sa.if_dec, ↓Sa.if_ndec, ↓Sa.if_nb, ↓Sa.rd_forL, ↓Sa.rd_forT, ↓Sa.rd_forR1, ↓Sa.rd_forR2, ↓Sa.rd_forR3, ↓Sa.ex_ref, ↓Sa.cx_K, ↓List.append_nil, List.length_cons, List.length_nil, Nat.reduceAdd, Nat.zero_add]))
namespace Sa
open PySem PySem.Spec PyProof.Rows L2 Evl
theorem tyof_mono {K : PySem.W.Frag} {H H' : Hp} {x : V} {t : Value} (s : Same H H') (h : TyOf K H x t) : TyOf K H' x t := by
  cases h with
  | non => exact .non
  | bl x => exact .bl x
  | int i => exact .int i
  | str x => exact .str x
  | flt x => exact .flt x
  | lst e => exact .lst (s _ _ e)
  | frz e => exact .frz (s _ _ e)
  | tup e => exact .tup (s _ _ e)
  | dK e => exact .dK (s _ _ e)
  | dT e => exact .dT (s _ _ e)
  | ins e cl ha hn htk hm => exact .ins (s _ _ e) cl ha hn htk hm
theorem tyx_mono {K : PySem.W.Frag} {H H' : Hp} {x : V} {t : Value} (s : Same H H') (h : TyX K H x t) : TyX K H' x t := by
  cases h with
  | base h => exact .base (tyof_mono s h)
  | byt b => exact .byt b
  | set e => exact .set (s _ _ e)
  | kList e c => exact .kList e c
  | kTuple e c => exact .kTuple e c
  | kDict e c => exact .kDict e c
  | fTuple e => exact .fTuple (s _ _ e)
  | fDict e => exact .fDict (s _ _ e)
theorem isi_list {t : String} (h : t ∈ tys) : kitB t "list" = some (t == "list") := by
  simp only [tys, List.mem_cons, List.not_mem_nil, or_false] at h
  rcases h with rfl | rfl | rfl | rfl | rfl | rfl | rfl <;> decide +kernel
def isI : V → Bool
  | .int _ => true
  | _ => false
theorem isI_ty {K : PySem.W.Frag} {H : Hp} {x : V} {t : String} (h : TyX K H x (.type t)) : (t == "int") = isI x := by
  rcases tyx_num h with e | ⟨e, n⟩
  · obtain rfl : t = "int" := eq_of_beq e
    obtain ⟨i, rfl⟩ := tyx_int h
    rfl
  · rw [e]
    cases x with
    | int i => exact absurd rfl (n i)
    | _ => rfl
theorem all_ints : ∀ xs : List V, (xs.map isI).all id = true → ∃ ms : List Int, xs = ms.map V.int
  | [], _ => ⟨[], rfl⟩
  | x :: xs, h => by
    rw [List.map_cons, List.all_cons, Bool.and_eq_true] at h
    obtain ⟨ms, e⟩ := all_ints xs h.2
    cases x with
    | int i => exact ⟨i :: ms, by rw [e]; rfl⟩
    | _ => exact Bool.noConfusion (show false = true from h.1)
theorem ints_all : ∀ ms : List Int, ((ms.map V.int).map isI).all id = true
  | [] => rfl
  | m :: ms => by
    rw [List.map_cons, List.map_cons, List.all_cons, ints_all ms]
    rfl
theorem map_int_inj : ∀ {a b : List Int}, a.map V.int = b.map V.int → a = b
  | [], [], _ => rfl
  | [], _ :: _, h => by simp at h
  | _ :: _, [], h => by simp at h
  | x :: a, y :: b, h => by
    rw [List.map_cons, List.map_cons] at h
    obtain ⟨h1, h2⟩ := List.cons.inj h
    rw [V.int.inj h1, map_int_inj h2]
/-- what is handed in as marks -/
def MarksIn (K : PySem.W.Frag) (H : Hp) (v : V) (ok : List Int → Addr → Prop) (bad : Prop) : Prop := ∃ t, TyX K H v (.type t) ∧ t ∈ tys ∧ (t ≠ "list" → bad) ∧ (t = "list" → ∃ l xs, v = .ref l ∧ SqL K H l xs ∧ (∀ x ∈ xs, ∃ t, TyX K H x (.type t) ∧ t ∈ tys) ∧
  (∀ ms : List Int, xs = ms.map V.int → ms.length ≤ 40 → ms.Pairwise (· < ·) → ok ms l) ∧ ((∀ ms : List Int, xs = ms.map V.int → ms.length ≤ 40 → ¬ ms.Pairwise (· < ·)) → bad))
theorem MarksIn.of_list {K : PySem.W.Frag} {H : Hp} {l : Addr} {ms : List Int} {ok : List Int → Addr → Prop} {bad : Prop} (h : H l = some (.lst (ms.map V.int))) (hl : ms.length ≤ 40) (hp : ms.Pairwise (· < ·)) (q : ok ms l) : MarksIn K H (.ref l) ok bad :=
  ⟨"list", .base (.lst h), by decide, fun z => absurd rfl z, fun _ => ⟨l, _, rfl, .inl (.inl h), fun x hx => (by obtain ⟨i, _, rfl⟩ := List.mem_map.mp hx; exact ⟨"int", .base (.int i), by decide⟩),
    fun ms' e _ _ => (by rw [← map_int_inj e]; exact q), fun z => absurd hp (z ms rfl hl)⟩⟩
theorem rises {ms : List Int} : ms.Pairwise (· < ·) ↔ ∀ i, i + 1 < ms.length → SD.ix ms i < SD.ix ms (i + 1) := by
  constructor
  · intro h i hi
    unfold SD.ix
    rw [List.getD_eq_getElem?_getD, List.getD_eq_getElem?_getD, List.getElem?_eq_getElem (show i < ms.length by omega), List.getElem?_eq_getElem hi]
    exact List.pairwise_iff_getElem.mp h i (i + 1) (by omega) hi (by omega)
  · intro h
    refine List.pairwise_iff_getElem.mpr fun i j hi hj hij => ?_
    have key : ∀ k, i + k + 1 < ms.length → SD.ix ms i < SD.ix ms (i + k + 1) := fun k => by
      induction k with
      | zero => exact h i
      | succ k ih => exact fun hk => Int.lt_trans (ih (by omega)) (h (i + (k + 1)) hk)
    have := key (j - i - 1) (by omega)
    rw [show i + (j - i - 1) + 1 = j by omega] at this
    unfold SD.ix at this
    rw [List.getD_eq_getElem?_getD, List.getD_eq_getElem?_getD, List.getElem?_eq_getElem hi, List.getElem?_eq_getElem hj] at this
    exact this
section
variable {P : Program} {w : World} {K : PySem.W.Frag} {mg : Str → Option Value} {base : Heap}
def spAskedMarks (K : PySem.W.Frag) (C : Addr) : Sp := fun vs H Q E => ∃ v, vs = [v] ∧ MarksIn K H v (fun _ _ => ∀ H', Same H H' → Q .non H') (∀ H', Same H H' → E (.ref C) none H')
theorem ok_asked_marks {f f1 C_BadMarks : Addr} {fd fd1 : FuncData} {tM : Tok} (T : Blt mg) (F : Fun K "asked_marks" "asked_marks" s_asked_marks f fd) (X_BadMarks : ErrAt K mg "BadMarks" C_BadMarks) (C_MOST : mg "MOST" = some (.int 40 tM))
    (D_is_number : DefAt K mg "is_number" "is_number" s_is_number ["thing"] f1 fd1) : FnOk P w K mg base (L2N.CX P w) 2 f fd ["marks"] (spAskedMarks K C_BadMarks) := by
  have G_is_number : FnOk P w K mg base CX0 1 f1 fd1 ["thing"] (spIsNum K) := ok_is_number T D_is_number.F
  refine okN F sc_asked_marks (fun vs H Q E h => ?_) (fun cdv A outer s H vs Q E hr h => ?_)
  · obtain ⟨v, rfl, _⟩ := h
    rfl
  · obtain ⟨v, rfl, t, ty, ht, b1, b2⟩ := h
    refine ⟨_, pss_cons (ps_if (PW.pt (pw_or (pt_not (pt_val (pe_callB (call_isik (K := K)) (by rfl) T.b_isinstance (by decide +kernel) (pa_cons (pv 0) (pa_cons (pe_bltn (v := .ty "list") (by rfl) T.b_list (by decide +kernel) rfl) pa_nil))))) (pw_or (pt_cmpR op_gt (pe_callB (call_lenk (K := K)) (by rfl) T.b_len (by decide +kernel) (pa_cons (pv 0) pa_nil)) (pe_glob (v := .int 40) (by rfl) C_MOST ⟨_, rfl⟩) (nomark _)) (pw_or1 (pt_not (pt_val (pe_callB (cr_allk (K := K) rfl) (by rfl) T.b_all (by decide +kernel) (pa_cons (pe_lc (own := [("mark", 1)]) (g := gName 1) (tt := tYes) (by rfl) sc_asked_marks.nd (pi_list (pv 0)) (blkOk_by (own := [("mark", 1)]) (N := ["marks", "mark", "at"]) (sc := defScope s_asked_marks) (by decide +kernel)) (fun _ _ _ _ _ => pg_name (i := 1) sc_asked_marks.nd rfl (by first | exact Or.inl rfl | exact Or.inr rfl)) (fun _ _ _ _ _ => pts_nil) (fun _ _ _ _ _ => pe_call G_is_number (hr.mono (by decide)) (by rfl) D_is_number.g D_is_number.kp D_is_number.b .nil pass0 (pa_cons (pv 1) pa_nil))) pa_nil)))))))) (pss_one (L2N.ps_raise rfl (L2N.takes_of rfl rfl rfl rfl) (L2N.pmk_own PySem.F.excBase_ValueError X_BadMarks.x X_BadMarks.g X_BadMarks.kp (raises_own X_BadMarks.sb X_BadMarks.ty) rfl))) (pss_nil))
      (pss_one (ps_if (pt_val (pe_callB (cr_anyk (K := K) rfl) (by rfl) T.b_any (by decide +kernel) (pa_cons (pe_lc (own := [("at", 2)]) (g := gName 2) (tt := tYes) (by rfl) sc_asked_marks.nd (pi_r2 (by rfl) T.b_range (pa_cons (pe_int) (pa_cons (pe_callB (call_lenk (K := K)) (by rfl) T.b_len (by decide +kernel) (pa_cons (pv 0) pa_nil)) pa_nil))) (blkOk_by (own := [("at", 2)]) (N := ["marks", "mark", "at"]) (sc := defScope s_asked_marks) (by decide +kernel)) (fun _ _ _ _ _ => pg_name (i := 2) sc_asked_marks.nd rfl (by first | exact Or.inl rfl | exact Or.inr rfl)) (fun _ _ _ _ _ => pts_nil) (fun _ _ _ _ _ => pe_cmpR op_le (pe_ix (ix_listk (K := K)) (pv 0) (pv 2) (fun _ _ => rfl)) (pe_ix (ix_listk (K := K)) (pv 0) (pe_op op_sub (pv 2) (pe_int)) (fun _ _ => rfl)) (nomark _))) pa_nil))) (pss_one (L2N.ps_raise rfl (L2N.takes_of rfl rfl rfl rfl) (L2N.pmk_own PySem.F.excBase_ValueError X_BadMarks.x X_BadMarks.g X_BadMarks.kp (raises_own X_BadMarks.sb X_BadMarks.ty) rfl))) (pss_nil))), ?_⟩
    walk_at "rd"
    refine ⟨v, _, _, _, _, rfl, .ty _, ty, kit_ty (isi_list ht), _, rfl, ?_⟩
    cases hb : (t == "list") with
    | false => exact iteF (b1 (fun e => by rw [e] at hb; exact absurd hb (by decide)) H (Same.refl H))
    | true =>
      obtain ⟨l, xs, rfl, hS, hx, ok, bad⟩ := b2 (eq_of_beq hb)
      refine iteT ?_
      walk_at "rd"
      refine ⟨xs, .inl hS, ite2 (fun hl => bad (fun ms e hl2 => absurd hl2 (by
        rw [e, List.length_map] at hl
        omega)) H (Same.refl H)) (fun hl => ?_)⟩
      have hl' : xs.length ≤ 40 := by omega
      refine ⟨⟨_, hS⟩, lc_mapL (xs := xs) (fun i => .bl (isI (xs.getD i .non))) (fun _ => rfl) hS (by omega) ?_ ?_⟩
      · intro i x H' hi s Q' k
        obtain ⟨t', ty', ht'⟩ := hx x (List.mem_of_getElem? hi)
        walk_at "rd"
        refine ⟨x, t', rfl, tyx_mono s ty', ht', ?_⟩
        rw [isI_ty ty']
        have := k _ (Same.refl _)
        rw [List.getD_eq_getElem?_getD, hi] at this
        exact this
      · intro D H' nD s eD
        have emap : (List.range xs.length).map (fun i => isI (xs.getD i .non)) = xs.map isI := List.ext_getElem (by simp) fun i h1 h2 => by simp [List.getElem?_eq_getElem (show i < xs.length by simpa using h2)]
        refine rd_all.mpr ⟨xs.map isI, sq_of (by rw [eD, ← emap, List.map_map]; rfl), ?_⟩
        cases ha : (xs.map isI).all id with
        | false => exact ⟨false, rfl, iteF (bad (fun ms e _ => by rw [e, ints_all] at ha; cases ha) H' s)⟩
        | true =>
          obtain ⟨ms, rfl⟩ := all_ints xs ha
          refine ⟨true, rfl, iteT ?_⟩
          rw [List.length_map] at hl'
          walk_at "rd"
          refine ⟨_, .inl (s.seq hS), ?_⟩
          rw [List.length_map]
          refine lc_mapR (fun i => .bl (decide (SD.ix ms (i + 1) ≤ SD.ix ms i))) (fun _ => rfl) (by omega) ?_ ?_
          · intro i H2 hi s2 Q' k
            walk_at "rd"
            have s3 := s.trans s2
            have e1 := at_ixI (ms := ms) (i := 1 + (i : Int)) (by omega) (by omega)
            have e2 := at_ixI (ms := ms) (i := 1 + (i : Int) - 1) (by omega) (by omega)
            rw [show (1 + (i : Int)).toNat = i + 1 by omega] at e1
            rw [show (1 + (i : Int) - 1).toNat = i by omega] at e2
            refine ⟨_, _, s3.seq hS, e1, _, _, s3.seq hS, e2, ?_⟩
            walk_at "rd"
            exact k _ (Same.refl _)
          · intro D2 H2 nD2 s2 eD2
            refine rd_any.mpr ⟨(List.range ((ms.length : Int) - 1).toNat).map fun i => decide (SD.ix ms (i + 1) ≤ SD.ix ms i), sq_of (by rw [eD2, List.map_map]; rfl), ?_⟩
            have s3 := s.trans s2
            cases hy : ((List.range ((ms.length : Int) - 1).toNat).map fun i => decide (SD.ix ms (i + 1) ≤ SD.ix ms i)).any id with
            | true =>
              refine ⟨true, rfl, iteT (bad (fun ms' e _ hp => ?_) H2 s3)⟩
              obtain rfl : ms = ms' := map_int_inj e
              obtain ⟨b, hbm, hb2⟩ := List.any_eq_true.mp hy
              obtain ⟨i, hi, rfl⟩ := List.mem_map.mp hbm
              have h1 := List.mem_range.mp hi
              have h2 := rises.mp hp i (by omega)
              have h3 : SD.ix ms (i + 1) ≤ SD.ix ms i := of_decide_eq_true hb2
              omega
            | false =>
              refine ⟨false, rfl, iteF (ok ms rfl hl' (rises.mpr fun i hi => ?_) H2 s3)⟩
              rcases Int.lt_or_le (SD.ix ms i) (SD.ix ms (i + 1)) with h | h
              · exact h
              · have : ((List.range ((ms.length : Int) - 1).toNat).map fun i => decide (SD.ix ms (i + 1) ≤ SD.ix ms i)).any id = true := List.any_eq_true.mpr ⟨true, List.mem_map.mpr ⟨i, List.mem_range.mpr (by omega), decide_eq_true h⟩, rfl⟩
                rw [hy] at this
                cases this
theorem MarksIn.imp {K : PySem.W.Frag} {H : Hp} {v : V} {ok ok' : List Int → Addr → Prop} {bad bad' : Prop} (h : MarksIn K H v ok bad) (g : ∀ ms l, v = .ref l → SqL K H l (ms.map V.int) → ms.length ≤ 40 → ms.Pairwise (· < ·) → ok ms l → ok' ms l) (b : bad → bad') : MarksIn K H v ok' bad' := by
  obtain ⟨t, ty, ht, b1, b2⟩ := h
  refine ⟨t, ty, ht, fun z => b (b1 z), fun z => ?_⟩
  obtain ⟨l, xs, e, hS, hx, o, bd⟩ := b2 z
  exact ⟨l, xs, e, hS, hx, fun ms em hl hp => g ms l e (em ▸ hS) hl hp (o ms em hl hp), fun z => b (bd z)⟩
end
end Sa
local macro_rules | `(tactic| walk_at "rd") => `(tactic| ((try simp only [L2.start, L2.wipe, List.set_cons_succ, List.set_cons_zero, List.map_cons, List.map_nil, List.length_cons, List.length_nil, List.cons_append, List.nil_append, List.replicate_succ, List.replicate_zero, Nat.reduceSub, Nat.reduceAdd, Nat.zero_add]); try simp only [↓Sa.rd_seq, ↓Sa.rd_fld, ↓Sa.rd_make, ↓Sa.rd_made, ↓Sa.rd_lcL, ↓Sa.rd_lcR2,  ↓Sa.rd_next, ↓Sa.rd_brk, ↓Sa.rd_asg, ↓Sa.rp_name, ↓Sa.rp_par, ↓Sa.rd_ret, ↓Sa.rd_retN, ↓Sa.rd_drop, ↓Sa.rd_if, ↓Sa.rp_var, ↓Sa.rd_c, ↓Sa.rd_op, ↓Sa.rd_un, ↓Sa.rd_I0, ↓Sa.rd_I, ↓Sa.rd_U, ↓Sa.rd_eqI, ↓Sa.rd_neI, ↓Sa.rd_test, ↓Sa.rd_B, ↓Sa.rd_and, ↓Sa.rd_or, ↓Sa.rd_not, ↓Sa.rd_andV, ↓Sa.rd_orV, ↓Sa.rd_notV, ↓Sa.rd_ifE, ↓Sa.rd_isN, ↓Sa.rd_notN, ↓Sa.rd_chain, ↓Sa.rd_chain3, ↓Sa.rd_nil, ↓Sa.rd_cons, ↓Sa.rd_tup, ↓Sa.rd_lst, ↓Sa.rd_call, ↓Sa.rd_CB, ↓Sa.rd_ixL, ↓Sa.rd_ixT, ↓Sa.rd_sl, ↓Sa.rd_noPart, ↓Sa.rd_part, ↓Sa.rd_slL, ↓Sa.rd_sum, ↓Sa.rd_all, ↓Sa.rd_any, ↓Sa.ex_int, ↓Sa.ex_int1, ↓Sa.ex_int2, ↓Sa.rd_len, ↓Sa.ex_len, ↓Sa.ex_bl, ↓Sa.ex_two, ↓Sa.slot_z, ↓Sa.slot_n, ↓Sa.setS_z, ↓Sa.setS_n, ↓Sa.if_tt, ↓Sa.if_ff, ↓Sa.if_dec, ↓Sa.if_ndec, ↓Sa.if_nb, ↓Sa.rd_forL, ↓Sa.rd_forT, ↓Sa.rd_forR1, ↓Sa.rd_forR2, ↓Sa.rd_forR3, ↓Sa.ex_ref, ↓Sa.cx_K, ↓List.append_nil, List.length_cons, List.length_nil, Nat.reduceAdd, Nat.zero_add]))
namespace Sa
open PySem PySem.Spec PyProof.Rows L2 Evl
section
variable {P : Program} {w : World} {K : PySem.W.Frag} {mg : Str → Option Value} {base : Heap}
/-- of marks the answer -/
def TellM (K : PySem.W.Frag) (CA CS : Addr) (H : Hp) (Q : VK) (ms : List Int) : Prop :=
  (SD.Sid ms → ∀ x dx H', Same H H' → H x = none → H' x = some (.ins CA dx []) → Q (.ref x) H') ∧
  (∀ a b c d x dx p1 p2 H', SD.Two ms a b c d → Same H H' → H x = none → H' x = some (.ins CS dx [("one", .ref p1), ("other", .ref p2)]) → H' p1 = some (.tup [.int a, .int b]) → H' p2 = some (.tup [.int c, .int d]) → Q (.ref x) H')
def spTold (K : PySem.W.Frag) (C CA CS : Addr) : Sp := fun vs H Q E => ∃ v, vs = [v] ∧ MarksIn K H v (fun ms _ => TellM K CA CS H Q ms) (∀ H', Same H H' → E (.ref C) none H')
theorem ok_told {f f1 f2 f3 C_BadMarks C_Apart C_Same : Addr} {fd fd1 fd2 fd3 : FuncData} (T : Blt mg) (F : Fun K "told" "told" s_told f fd) (S : SameAt K C_Same) (X_Same : ClsX K mg "Same" C_Same) (M_Same : Mk K C_Same f3) (X_Apart : ClsX K mg "Apart" C_Apart) (M_Apart : Mk0 K C_Apart)
    (D_asked_marks : DefAt K mg "asked_marks" "asked_marks" s_asked_marks ["marks"] f1 fd1) (G_asked_marks : FnOk P w K mg base (L2N.CX P w) 2 f1 fd1 ["marks"] (spAskedMarks K C_BadMarks))
    (D_first_same : DefAt K mg "first_same" "first_same" s_first_same ["marks"] f2 fd2) (G_first_same : FnOk P w K mg base CX0 1 f2 fd2 ["marks"] (spFirst K))
    (D_Same_init : MethAt K C_Same "__init__" "Same.__init__" s_Same_init ["self", "one", "other"] f3 fd3) : FnOk P w K mg base (L2N.CX P w) 3 f fd ["marks"] (spTold K C_BadMarks C_Apart C_Same) := by
  have G_Same_init : FnOk P w K mg base CX0 1 f3 fd3 ["self", "one", "other"] (spSameInit K C_Same) := ok_same_init S D_Same_init.F
  refine okN F sc_told (fun vs H Q E h => ?_) (fun cdv A outer s H vs Q E hr h => ?_)
  · obtain ⟨v, rfl, _⟩ := h
    rfl
  · obtain ⟨v, rfl, hM⟩ := h
    refine ⟨_, pss_cons (ps_expr (pe_call G_asked_marks (hr.mono (by decide)) (by rfl) D_asked_marks.g D_asked_marks.kp D_asked_marks.b .nil (L2N.passes_call (L2N.takes_of rfl rfl rfl rfl) (fun _ _ _ _ h => h)) (pa_cons (pv 0) pa_nil)))
      (pss_cons (ps_set (i := 1) sc_told.nd rfl (by first | exact Or.inl rfl | exact Or.inr rfl) (pe_call G_first_same (hr.mono (by decide)) (by rfl) D_first_same.g D_first_same.kp D_first_same.b .nil pass0 (pa_cons (pv 0) pa_nil)))
      (pss_one (ps_ret (pe_ifExp (pt_cmp (pc_isN (pv 1))) (pe_made M_Apart (by rfl) X_Apart.g) (pe_make M_Same G_Same_init (hr.mono (by decide)) (by rfl) X_Same.g D_Same_init.b .nil pass0 (pa_cons (pe_ix (ix_tupk (K := K)) (pv 1) (pe_int) (fun _ _ => rfl)) (pa_cons (pe_ix (ix_tupk (K := K)) (pv 1) (pe_int) (fun _ _ => rfl)) pa_nil))))))), ?_⟩
    walk_at "rd"
    refine ⟨v, rfl, hM.imp (fun ms l e hS hl hp tell H1 s1 => ?_) fun z => z⟩
    subst e
    refine ⟨l, ms, rfl, s1.seq hS, by omega, fun sd H2 s2 => ?_, fun a b c d p q1 q2 H2 two s2 np ep e1 e2 => ?_⟩
    · refine (if_pos rfl).mpr fun x dx nx nd ne => ?_
      have s12 := s1.trans s2
      exact tell.1 sd x dx _ (s12.trans fun b o e => by rw [upd_ne (ne_of_none e nx), upd_ne (ne_of_none e nd)]; exact e) (s12.free nx) upd_same
    · refine (if_neg (by intro z; cases z)).mpr (ixT (sqt_of ep) (atI_nat (j := 0) rfl) (ixT (sqt_of ep) (atI_nat (j := 1) rfl) (make_same fun x dx H3 nx s3 ex => ?_)))
      have s12 := s1.trans s2
      exact tell.2 a b c d x dx q1 q2 H3 two (s12.trans s3) (s12.free nx) ex (s3 _ _ e1) (s3 _ _ e2)
end
end Sa
local macro_rules | `(tactic| walk_at "rd") => `(tactic| ((try simp only [L2.start, L2.wipe, List.set_cons_succ, List.set_cons_zero, List.map_cons, List.map_nil, List.length_cons, List.length_nil, List.cons_append, List.nil_append, List.replicate_succ, List.replicate_zero, Nat.reduceSub, Nat.reduceAdd, Nat.zero_add]); try simp only [↓Sa.rd_seq, ↓Sa.rd_dput, ↓Sa.rd_dnew, ↓Sa.rd_din,  ↓Sa.rd_next, ↓Sa.rd_brk, ↓Sa.rd_asg, ↓Sa.rp_name, ↓Sa.rp_par, ↓Sa.rd_ret, ↓Sa.rd_retN, ↓Sa.rd_drop, ↓Sa.rd_if, ↓Sa.rp_var, ↓Sa.rd_c, ↓Sa.rd_op, ↓Sa.rd_un, ↓Sa.rd_I0, ↓Sa.rd_I, ↓Sa.rd_U, ↓Sa.rd_eqI, ↓Sa.rd_neI, ↓Sa.rd_test, ↓Sa.rd_B, ↓Sa.rd_and, ↓Sa.rd_or, ↓Sa.rd_not, ↓Sa.rd_andV, ↓Sa.rd_orV, ↓Sa.rd_notV, ↓Sa.rd_ifE, ↓Sa.rd_isN, ↓Sa.rd_notN, ↓Sa.rd_chain, ↓Sa.rd_chain3, ↓Sa.rd_nil, ↓Sa.rd_cons, ↓Sa.rd_tup, ↓Sa.rd_lst, ↓Sa.rd_call, ↓Sa.rd_CB, ↓Sa.rd_ixL, ↓Sa.rd_ixT, ↓Sa.rd_sl, ↓Sa.rd_noPart, ↓Sa.rd_part, ↓Sa.rd_slL, ↓Sa.rd_sum, ↓Sa.rd_all, ↓Sa.rd_any, ↓Sa.ex_int, ↓Sa.ex_int1, ↓Sa.ex_int2, ↓Sa.rd_len, ↓Sa.ex_len, ↓Sa.ex_bl, ↓Sa.ex_two, ↓Sa.slot_z, ↓Sa.slot_n, ↓Sa.setS_z, ↓Sa.setS_n, ↓Sa.if_tt, ↓Sa.if_ff, ↓Sa.if_dec, ↓Sa.if_ndec, ↓Sa.if_nb, ↓Sa.rd_forL, ↓Sa.rd_forT, ↓Sa.rd_forR1, ↓Sa.rd_forR2, ↓Sa.rd_forR3, ↓Sa.ex_ref, ↓Sa.cx_K, ↓List.append_nil, List.length_cons, List.length_nil, Nat.reduceAdd, Nat.zero_add]))
namespace Sa
open PySem PySem.Spec PyProof.Rows L2 Evl
section
variable {P : Program} {w : World} {K : PySem.W.Frag} {mg : Str → Option Value} {base : Heap}
/-- what is told of marks -/
def BehindM (CN : Addr) (H : Hp) (Q : VK) (E : XK) (ms : List Int) : Prop := (¬ SD.Sid ms → ∀ H', Same H H' → E (.ref CN) none H') ∧ (SD.Sid ms → ∀ x H', BH.Next ms x → Same H H' → Q (.int x) H')
def spBehind (K : PySem.W.Frag) (CB CN : Addr) : Sp := fun vs H Q E => ∃ v, vs = [v] ∧ MarksIn K H v (fun ms _ => BehindM CN H Q E ms) (∀ H', Same H H' → E (.ref CB) none H')
theorem ok_behind {f f1 f2 C_BadMarks C_NotApart : Addr} {fd fd1 fd2 : FuncData} (T : Blt mg) (F : Fun K "behind" "behind" s_behind f fd) (X_NotApart : ErrAt K mg "NotApart" C_NotApart)
    (D_asked_marks : DefAt K mg "asked_marks" "asked_marks" s_asked_marks ["marks"] f1 fd1) (G_asked_marks : FnOk P w K mg base (L2N.CX P w) 2 f1 fd1 ["marks"] (spAskedMarks K C_BadMarks))
    (D_first_same : DefAt K mg "first_same" "first_same" s_first_same ["marks"] f2 fd2) (G_first_same : FnOk P w K mg base CX0 1 f2 fd2 ["marks"] (spFirst K)) : FnOk P w K mg base (L2N.CX P w) 3 f fd ["marks"] (spBehind K C_BadMarks C_NotApart) := by
  refine okN F sc_behind (fun vs H Q E h => ?_) (fun cdv A outer s H vs Q E hr h => ?_)
  · obtain ⟨v, rfl, _⟩ := h
    rfl
  · obtain ⟨v, rfl, hM⟩ := h
    refine ⟨_, pss_cons (ps_expr (pe_call G_asked_marks (hr.mono (by decide)) (by rfl) D_asked_marks.g D_asked_marks.kp D_asked_marks.b .nil (L2N.passes_call (L2N.takes_of rfl rfl rfl rfl) (fun _ _ _ _ h => h)) (pa_cons (pv 0) pa_nil)))
      (pss_cons (ps_if (pt_cmp (pc_notN (pe_call G_first_same (hr.mono (by decide)) (by rfl) D_first_same.g D_first_same.kp D_first_same.b .nil pass0 (pa_cons (pv 0) pa_nil)))) (pss_one (L2N.ps_raise rfl (L2N.takes_of rfl rfl rfl rfl) (L2N.pmk_own PySem.F.excBase_ValueError X_NotApart.x X_NotApart.g X_NotApart.kp (raises_own X_NotApart.sb X_NotApart.ty) rfl))) (pss_nil))
      (pss_cons (ps_if (pt_cmpR (op_eqDk (K := K) hr.units) (pv 0) (pe_lst pa_nil) (nomark _)) (pss_one (ps_ret (pe_int))) (pss_nil))
      (pss_cons (ps_set (i := 1) sc_behind.nd rfl (by first | exact Or.inl rfl | exact Or.inr rfl) (pe_dnewK))
      (pss_cut (ps_for PassesOwn.leaving rfl (pi_list (pv 0)) (pg_name (i := 2) sc_behind.nd rfl (by first | exact Or.inl rfl | exact Or.inr rfl)) (pss_one (ps_for PassesOwn.leaving rfl (pi_list (pv 0)) (pg_name (i := 3) sc_behind.nd rfl (by first | exact Or.inl rfl | exact Or.inr rfl)) (pss_one (ps_for PassesOwn.leaving rfl (pi_list (pv 0)) (pg_name (i := 4) sc_behind.nd rfl (by first | exact Or.inl rfl | exact Or.inr rfl)) (pss_one (ps_dput (hu_of hr) (pv 1) (pe_op op_sub (pe_op op_add (pv 2) (pv 3)) (pv 4)) (pe_bl) rfl)))))))
      (pss_cons (ps_set (i := 5) sc_behind.nd rfl (by first | exact Or.inl rfl | exact Or.inr rfl) (pe_op op_add (pe_ix (ix_listk (K := K)) (pv 0) (pe_un un_neg (pe_int)) (fun _ _ => rfl)) (pe_int)))
      (pss_cut (ps_while PassesOwn.leaving (pt_cmp (pc_din (hu_of hr) (pv 5) (pv 1))) (pss_one (ps_set (i := 5) sc_behind.nd rfl (by first | exact Or.inl rfl | exact Or.inr rfl) (pe_op op_add (pv 5) (pe_int)))))
      (pss_one (ps_ret (pv 5))))))))), ?_⟩
    walk_at "rd"
    refine ⟨v, rfl, hM.imp (fun ms l e hS hl hp tell H1 s1 => ?_) fun z => z⟩
    subst e
    refine ⟨l, ms, rfl, s1.seq hS, by omega, fun sd H2 s2 => ?_, fun a b c d p q1 q2 H2 two s2 np ep e1 e2 => ?_⟩
    · have s12 := s1.trans s2
      refine (if_pos rfl).mpr ?_
      walk_at "rd"
      refine ⟨Nat.zero_le _, fun p hp => ?_⟩
      have mp := same_new (o := .lst []) hp
      refine ⟨_, _, dp_list (mp.seq (s12.seq hS)), dp_list (ns := []) (sq_of upd_same), shaped_list _, shaped_list _, _, rfl, ?_⟩
      rw [eqv_ints]
      by_cases hne : ms = []
      · rw [decide_eq_true hne]
        exact iteT (tell.2 sd 0 _ (.inl ⟨hne, rfl⟩) (s12.trans mp))
      rw [decide_eq_false hne]
      refine iteF fun d nd => ?_
      obtain ⟨la, hla⟩ := last_of hne
      have m0 := same_new (o := .dK []) nd
      obtain ⟨H3, e3⟩ : ∃ t, t = upd H2 p (.lst []) := ⟨_, rfl⟩
      rw [← e3] at mp nd m0 ⊢
      have hS3 : SqL K H3 l (ms.map V.int) := (s12.trans mp).seq hS
      refine ⟨fun σ H' => Same H3 H' ∧ FD H' d 64000 (fun k => k ∈ BH.bar ms) ∧ ∃ y2 y3 y4, σ = [some (.ref l), some (.ref d), y2, y3, y4, none], ?_, ?_⟩
      · walk_at "rd"
        refine ⟨⟨_, m0.seq hS3⟩, for_list (K := K) (a := l) (xs := ms.map V.int) (fun i σ H' => Same H3 H' ∧ FD H' d (i * 1600) (Z1 ms i) ∧ ∃ y2 y3 y4, σ = [some (.ref l), some (.ref d), y2, y3, y4, none]) ⟨m0, FD.new.imp (Nat.zero_le _) fun k => z1_0, _, _, _, rfl⟩ (fun i σ H' _ ⟨s, _⟩ => s.seq hS3) ?_
          (fun σ H' ⟨s, fd, e⟩ => ⟨s, fd.imp (m := 64000) (by rw [List.length_map]; omega) (fun k => by rw [List.length_map]; exact z1_bar), e⟩)⟩
        rintro i x σ H4 hx ⟨s4, fd4, y2, y3, y4, rfl⟩
        obtain ⟨x, hxm, rfl⟩ := map_at hx
        have hi : i < 40 := by
          have := (List.getElem?_eq_some_iff.mp hx).1
          rw [List.length_map] at this
          omega
        walk_at "rd"
        refine ⟨⟨_, s4.seq hS3⟩, for_list (K := K) (a := l) (xs := ms.map V.int) (fun j σ H' => Same H3 H' ∧ FD H' d (i * 1600 + j * 40) (Z2 ms i x j) ∧ ∃ y3 y4, σ = [some (.ref l), some (.ref d), some (.int x), y3, y4, none]) ⟨s4, fd4.imp (by omega) fun k => z1_2, _, _, rfl⟩ (fun i σ H' _ ⟨s, _⟩ => s.seq hS3) ?_
          (fun σ H' ⟨s, fd, y3, y4, e⟩ => ⟨s, fd.imp (by rw [List.length_map]; omega) (fun k => by rw [List.length_map]; exact z1_s hx), _, _, _, e⟩)⟩
        rintro j y σ H5 hy ⟨s5, fd5, y3, y4, rfl⟩
        obtain ⟨y, hym, rfl⟩ := map_at hy
        have hj : j < 40 := by
          have := (List.getElem?_eq_some_iff.mp hy).1
          rw [List.length_map] at this
          omega
        walk_at "rd"
        refine ⟨⟨_, s5.seq hS3⟩, for_list (K := K) (a := l) (xs := ms.map V.int) (fun m σ H' => Same H3 H' ∧ FD H' d (i * 1600 + j * 40 + m) (Z3 ms i x j y m) ∧ ∃ y4, σ = [some (.ref l), some (.ref d), some (.int x), some (.int y), y4, none]) ⟨s5, fd5.imp (by omega) fun k => z2_3, _, rfl⟩ (fun i σ H' _ ⟨s, _⟩ => s.seq hS3) ?_
          (fun σ H' ⟨s, fd, y4, e⟩ => ⟨s, fd.imp (by rw [List.length_map]; omega) (fun k => by rw [List.length_map]; exact z2_s hy), _, _, e⟩)⟩
        rintro m z σ H6 hz ⟨s6, fd6, y4, rfl⟩
        obtain ⟨z, hzm, rfl⟩ := map_at hz
        have hm : m < 40 := by
          have := (List.getElem?_eq_some_iff.mp hz).1
          rw [List.length_map] at this
          omega
        walk_at "rd"
        obtain ⟨H7, hput, fd7, hsame⟩ := fd6.put (by omega) (x + y - z) (.bl true)
        exact ⟨d, H7, rfl, hput, hsame _ s6 nd, fd7.imp (by omega) fun k => z3_s hz, _, rfl⟩
      rintro σ H4 ⟨s4, fd4, y2, y3, y4, rfl⟩
      walk_at "rd"
      refine ⟨_, _, s4.seq hS3, at_last hla, ?_⟩
      walk_at "rd"
      refine ⟨fun σ H' => H' = H4 ∧ ∃ f, σ = [some (.ref l), some (.ref d), y2, y3, y4, some (.int f)] ∧ BH.Least ms f, ?_, ?_⟩
      · refine ⟨fun m σ H' => H' = H4 ∧ ∃ f, σ = [some (.ref l), some (.ref d), y2, y3, y4, some (.int f)] ∧ la < f ∧ (∀ y, la < y → y < f → y ∈ BH.bar ms) ∧ m = leftOf ms f, ⟨_, rfl, la + 1, rfl, by omega, fun y h1 h2 => by omega, rfl⟩, ?_⟩
        rintro m σ H' ⟨rfl, f, rfl, lf, hf, rfl⟩
        walk_at "rd"
        obtain ⟨o, hg, ho⟩ := fd4.get f
        refine ⟨d, o, rfl, hg, ?_⟩
        cases e : o.isSome with
        | false => exact iteF ⟨trivial, f, rfl, la, hla, lf, fun z => (by rw [ho.mpr z] at e; cases e), hf⟩
        | true =>
          have hin := ho.mp e
          refine iteT ⟨fun σ H'' => H'' = H' ∧ ∃ f', σ = [some (.ref l), some (.ref d), y2, y3, y4, some (.int f')] ∧ la < f' ∧ (∀ y, la < y → y < f' → y ∈ BH.bar ms) ∧ leftOf ms f' < leftOf ms f, fun σ' H'' ⟨e1, f', e2, e3, e4, e5⟩ => ⟨_, e5, e1, f', e2, e3, e4, rfl⟩, ?_⟩
          walk_at "rd"
          refine ⟨trivial, f + 1, rfl, by omega, fun y h1 h2 => ?_, left_lt hin⟩
          by_cases h : y = f
          · rw [h]
            exact hin
          · exact hf y h1 (by omega)
      rintro σ H' ⟨rfl, f, rfl, hL⟩
      walk_at "rd"
      exact tell.2 sd f _ (.inr hL) (s12.trans (mp.trans s4))
    · exact (if_neg (by intro z; cases z)).mpr (tell.1 two.not_sid H2 (s1.trans s2))
end
end Sa
local macro_rules | `(tactic| walk_at "rd") => `(tactic| ((try simp only [L2.start, L2.wipe, List.set_cons_succ, List.set_cons_zero, List.map_cons, List.map_nil, List.length_cons, List.length_nil, List.cons_append, List.nil_append, List.replicate_succ, List.replicate_zero, Nat.reduceSub, Nat.reduceAdd, Nat.zero_add]); try simp only [↓Sa.rd_seq, ↓Sa.rd_lcL, ↓Sa.rd_lcT,  ↓Sa.rd_next, ↓Sa.rd_brk, ↓Sa.rd_asg, ↓Sa.rp_name, ↓Sa.rp_par, ↓Sa.rd_ret, ↓Sa.rd_retN, ↓Sa.rd_drop, ↓Sa.rd_if, ↓Sa.rp_var, ↓Sa.rd_c, ↓Sa.rd_op, ↓Sa.rd_un, ↓Sa.rd_I0, ↓Sa.rd_I, ↓Sa.rd_U, ↓Sa.rd_eqI, ↓Sa.rd_neI, ↓Sa.rd_test, ↓Sa.rd_B, ↓Sa.rd_and, ↓Sa.rd_or, ↓Sa.rd_not, ↓Sa.rd_andV, ↓Sa.rd_orV, ↓Sa.rd_notV, ↓Sa.rd_ifE, ↓Sa.rd_isN, ↓Sa.rd_notN, ↓Sa.rd_chain, ↓Sa.rd_chain3, ↓Sa.rd_nil, ↓Sa.rd_cons, ↓Sa.rd_tup, ↓Sa.rd_lst, ↓Sa.rd_call, ↓Sa.rd_CB, ↓Sa.rd_ixL, ↓Sa.rd_ixT, ↓Sa.rd_sl, ↓Sa.rd_noPart, ↓Sa.rd_part, ↓Sa.rd_slL, ↓Sa.rd_sum, ↓Sa.rd_all, ↓Sa.rd_any, ↓Sa.ex_int, ↓Sa.ex_int1, ↓Sa.ex_int2, ↓Sa.rd_len, ↓Sa.ex_len, ↓Sa.ex_bl, ↓Sa.ex_two, ↓Sa.slot_z, ↓Sa.slot_n, ↓Sa.setS_z, ↓Sa.setS_n, ↓Sa.if_tt, ↓Sa.if_ff, ↓Sa.if_dec, ↓Sa.if_ndec, ↓Sa.if_nb, ↓Sa.rd_forL, ↓Sa.rd_forT, ↓Sa.rd_forR1, ↓Sa.rd_forR2, ↓Sa.rd_forR3, ↓Sa.ex_ref, ↓Sa.cx_K, ↓List.append_nil, List.length_cons, List.length_nil, Nat.reduceAdd, Nat.zero_add]))
namespace Sa
open PySem PySem.Spec PyProof.Rows L2 Evl
section
variable {P : Program} {w : World} {K : PySem.W.Frag} {mg : Str → Option Value} {base : Heap}
/-- whole numbers, texts, None; lists and tuples of such -/
def PD : Nat → Hp → V → Prop
  | 0, _, v => v = .non ∨ (∃ s, v = .str s) ∨ ∃ i, v = .int i
  | n + 1, H, v => PD n H v ∨ ∃ p xs, v = .ref p ∧ (H p = some (.lst xs) ∨ H p = some (.tup xs)) ∧ xs.length ≤ 1000000 ∧ ∀ x ∈ xs, PD n H x
theorem PD.mono : ∀ {n : Nat} {H H' : Hp} {v : V}, Same H H' → PD n H v → PD n H' v
  | 0, _, _, _, _, h => h
  | n + 1, _, _, _, s, .inl h => .inl (PD.mono s h)
  | n + 1, _, _, _, s, .inr ⟨p, xs, e, h, l, g⟩ => .inr ⟨p, xs, e, h.elim (fun h => .inl (s _ _ h)) (fun h => .inr (s _ _ h)), l, fun x hx => PD.mono s (g x hx)⟩
theorem PD.up : ∀ {n m : Nat} {H : Hp} {v : V}, n ≤ m → PD n H v → PD m H v
  | n, 0, _, _, l, h => by
    have : n = 0 := by omega
    subst this
    exact h
  | n, m + 1, _, _, l, h => by
    rcases Nat.lt_or_ge m n with q | q
    · have : n = m + 1 := by omega
      subst this
      exact h
    · exact .inl (PD.up q h)
theorem PD.split : ∀ {n : Nat} {H : Hp} {v : V}, PD n H v → (v = .non ∨ (∃ s, v = .str s) ∨ ∃ i, v = .int i) ∨ (0 < n ∧ ∃ p xs, v = .ref p ∧ (H p = some (.lst xs) ∨ H p = some (.tup xs)) ∧ xs.length ≤ 1000000 ∧ ∀ x ∈ xs, PD (n - 1) H x)
  | 0, _, _, h => .inl h
  | n + 1, _, _, .inl h => (PD.split h).imp id fun ⟨_, p, xs, e, h, l, g⟩ => ⟨Nat.succ_pos _, p, xs, e, h, l, fun x hx => PD.up (by omega) (g x hx)⟩
  | n + 1, _, _, .inr ⟨p, xs, e, h, l, g⟩ => .inr ⟨Nat.succ_pos _, p, xs, e, h, l, g⟩
def spPlain (n : Nat) : Sp := fun vs H Q _ => ∃ v, vs = [v] ∧ PD n H v ∧ ∀ H', Same H H' → Q (.bl true) H'
theorem isi_tuple {t : String} (h : t ∈ tys) : kitB t "tuple" = some (t == "tuple") := by
  simp only [tys, List.mem_cons, List.not_mem_nil, or_false] at h
  rcases h with rfl | rfl | rfl | rfl | rfl | rfl | rfl <;> decide +kernel
theorem isi_str {t : String} (h : t ∈ tys) : kitB t "str" = some (t == "str") := by
  simp only [tys, List.mem_cons, List.not_mem_nil, or_false] at h
  rcases h with rfl | rfl | rfl | rfl | rfl | rfl | rfl <;> decide +kernel
/-- isinstance(v, t) of a thing of a known sort -/
theorem isi_ty {H : Hp} {Q : VK} {v : V} {t u : String} {b : Bool} (ty : TyX K H v (.type t)) (k : kitB t u = some b) (q : Q (.bl b) H) : rIsi K [v, .ty u] H Q := ⟨v, _, _, _, b, rfl, .ty _, ty, kit_ty k, q⟩
theorem plain_step {f : Addr} {fd : FuncData} {n : Nat} {sp' : Sp} (T : Blt mg) (D__law_plain : DefAt K mg "_law_plain" "_law_plain" s__law_plain ["_law_thing"] f fd) (G__law_plain : FnOk P w K mg base CX0 n f fd ["_law_thing"] sp') (N : Nat)
    (use : ∀ x H Q E, 0 < N → PD (N - 1) H x → (∀ H', Same H H' → Q (.bl true) H') → sp' [x] H Q E) : FnOk P w K mg base CX0 (n + 1) f fd ["_law_thing"] (spPlain N) := by
  refine D__law_plain.F.ok sc__law_plain (fun vs H Q E h => ?_) (fun cdv A outer s H vs Q E hr h => ?_)
  · obtain ⟨v, rfl, _⟩ := h
    rfl
  · obtain ⟨v, rfl, hv, q⟩ := h
    refine ⟨_, pss_cons (ps_if (PW.pt (pw_or (pt_val (pe_callB (call_isik (K := K)) (by rfl) T.b_isinstance (by decide +kernel) (pa_cons (pv 0) (pa_cons (pe_bltn (v := .ty "list") (by rfl) T.b_list (by decide +kernel) rfl) pa_nil)))) (pw_or1 (pt_val (pe_callB (call_isik (K := K)) (by rfl) T.b_isinstance (by decide +kernel) (pa_cons (pv 0) (pa_cons (pe_bltn (v := .ty "tuple") (by rfl) T.b_tuple (by decide +kernel) rfl) pa_nil))))))) (pss_one (ps_ret (pe_callB (cr_allk (K := K) rfl) (by rfl) T.b_all (by decide +kernel) (pa_cons (pe_lc (own := [("_law_one", 1)]) (g := gName 1) (tt := tYes) (by rfl) sc__law_plain.nd (pi_alt (pi_list (pv 0)) (pi_tup (pv 0))) (blkOk_by (own := [("_law_one", 1)]) (N := ["_law_thing", "_law_one"]) (sc := defScope s__law_plain) (by decide +kernel)) (fun _ _ _ _ _ => pg_name (i := 1) sc__law_plain.nd rfl (by first | exact Or.inl rfl | exact Or.inr rfl)) (fun _ _ _ _ _ => pts_nil) (fun _ _ _ _ _ => pe_call G__law_plain hr (by rfl) D__law_plain.g D__law_plain.kp D__law_plain.b .nil pass0 (pa_cons (pv 1) pa_nil))) pa_nil)))) (pss_nil))
      (pss_one (ps_ret (pe_or (pe_cmp (pc_isN (pv 0)) rfl) (pe_or (pe_callB (call_isik (K := K)) (by rfl) T.b_isinstance (by decide +kernel) (pa_cons (pv 0) (pa_cons (pe_bltn (v := .ty "str") (by rfl) T.b_str (by decide +kernel) rfl) pa_nil))) (pe_one (pe_and (pe_callB (call_isik (K := K)) (by rfl) T.b_isinstance (by decide +kernel) (pa_cons (pv 0) (pa_cons (pe_bltn (v := .ty "int") (by rfl) T.b_int (by decide +kernel) rfl) pa_nil))) (pe_one (pe_not (pe_callB (call_isik (K := K)) (by rfl) T.b_isinstance (by decide +kernel) (pa_cons (pv 0) (pa_cons (pe_bltn (v := .ty "bool") (by rfl) T.b_bool (by decide +kernel) rfl) pa_nil))))))))))), ?_⟩
    walk_at "rd"
    have allT : ∀ n : Nat, ((List.range n).map fun _ => true).all id = true := fun n => List.all_eq_true.mpr fun b hb => by
      obtain ⟨i, _, rfl⟩ := List.mem_map.mp hb
      rfl
    have fin : ∀ (D : Addr) (n : Nat) (H' : Hp), Same H H' → H' D = some (.lst ((List.range n).map fun _ => V.bl true)) → rAll K [.ref D] H' Q := fun D n H' s e => by
      have := q H' s
      rw [← allT n] at this
      exact rd_all.mpr ⟨(List.range n).map fun _ => true, sq_of (by rw [e, List.map_map]; rfl), this⟩
    rcases hv.split with hf | ⟨h0, p, xs, rfl, hp, hl, hx⟩
    · have q0 := q H (Same.refl H)
      rcases hf with rfl | ⟨s, rfl⟩ | ⟨i, rfl⟩
      · exact isi_ty (.base .non) (isi_list (by decide)) ⟨false, rfl, iteF (isi_ty (.base .non) (isi_tuple (by decide)) ⟨false, rfl, iteF ((if_pos rfl).mpr q0)⟩)⟩
      · exact isi_ty (.base (.str s)) (isi_list (by decide)) ⟨false, rfl, iteF (isi_ty (.base (.str s)) (isi_tuple (by decide)) ⟨false, rfl, iteF ((if_neg (by intro z; cases z)).mpr (isi_ty (.base (.str s)) (isi_str (by decide)) ⟨true, rfl, iteT q0⟩))⟩)⟩
      · exact isi_ty (.base (.int i)) (isi_list (by decide)) ⟨false, rfl, iteF (isi_ty (.base (.int i)) (isi_tuple (by decide)) ⟨false, rfl, iteF ((if_neg (by intro z; cases z)).mpr (isi_ty (.base (.int i)) (isi_str (by decide)) ⟨false, rfl, iteF (isi_ty (.base (.int i)) (isi_int (by decide)) ⟨true, rfl, iteT (isi_ty (.base (.int i)) (isi_bool (by decide)) ⟨false, rfl, q0⟩)⟩)⟩))⟩)⟩
    · rcases hp with hp | hp
      · refine isi_ty (.base (.lst hp)) (isi_list (by decide)) ⟨true, rfl, iteT (rd_lcA (.inl ?_))⟩
        rw [rd_lcL]
        refine ⟨_, rfl, p, rfl, ⟨xs, sq_of hp⟩, lc_mapL (fun _ => .bl true) (fun _ => rfl) (sq_of hp) hl (fun i x H' hi s Q' k => ?_) (fun D H' _ s e => fin D _ H' s e)⟩
        exact ⟨x, rfl, use x H' _ _ h0 ((hx x (List.mem_of_getElem? hi)).mono s) k⟩
      · refine isi_ty (.base (.tup hp)) (isi_list (by decide)) ⟨false, rfl, iteF (isi_ty (.base (.tup hp)) (isi_tuple (by decide)) ⟨true, rfl, iteT (rd_lcA (.inr ?_))⟩)⟩
        rw [rd_lcT]
        refine ⟨_, rfl, p, rfl, ⟨xs, sqt_of hp⟩, lc_mapT (fun _ => .bl true) (fun _ => rfl) hp hl (fun i x H' hi s Q' k => ?_) (fun D H' _ s e => fin D _ H' s e)⟩
        exact ⟨x, rfl, use x H' _ _ h0 ((hx x (List.mem_of_getElem? hi)).mono s) k⟩
theorem ok_plain {f : Addr} {fd : FuncData} (T : Blt mg) (D__law_plain : DefAt K mg "_law_plain" "_law_plain" s__law_plain ["_law_thing"] f fd) : ∀ n : Nat, FnOk P w K mg base CX0 (n + 1) f fd ["_law_thing"] (spPlain n)
  | 0 => plain_step (n := 0) (sp' := fun _ _ _ _ => False) T D__law_plain ⟨fun _ _ _ _ z => z.elim, fun _ _ _ _ _ _ _ _ _ _ _ _ _ z => z.elim⟩ 0 fun _ _ _ _ z => absurd z (by decide)
  | n + 1 => plain_step T D__law_plain (ok_plain T D__law_plain n) (n + 1) fun x H Q E _ h q => ⟨x, rfl, h, q⟩
/-- truths alone -/
def spTruths (K : PySem.W.Frag) : Sp := fun vs H Q _ => ∃ (l : Addr) (bs : List Bool), vs = [.ref l] ∧ H l = some (.lst (bs.map V.bl)) ∧ bs.length ≤ 1000000 ∧ Same H H ∧ ∀ H', Same H H' → Q (.bl true) H'
theorem ok_truths {f : Addr} {fd : FuncData} (T : Blt mg) (F : Fun K "_law_truths" "_law_truths" s__law_truths f fd) : FnOk P w K mg base CX0 1 f fd ["_law_things"] (spTruths K) := by
  refine F.ok sc__law_truths (fun vs H Q E h => ?_) (fun cdv A outer s H vs Q E hr h => ?_)
  · obtain ⟨l, bs, rfl, _⟩ := h
    rfl
  · obtain ⟨l, bs, rfl, hl, hn, _, q⟩ := h
    refine ⟨_, pss_one (ps_ret (pe_callB (cr_allk (K := K) rfl) (by rfl) T.b_all (by decide +kernel) (pa_cons (pe_lc (own := [("_law_one", 1)]) (g := gName 1) (tt := tYes) (by rfl) sc__law_truths.nd (pi_list (pv 0)) (blkOk_by (own := [("_law_one", 1)]) (N := ["_law_things", "_law_one"]) (sc := defScope s__law_truths) (by decide +kernel)) (fun _ _ _ _ _ => pg_name (i := 1) sc__law_truths.nd rfl (by first | exact Or.inl rfl | exact Or.inr rfl)) (fun _ _ _ _ _ => pts_nil) (fun _ _ _ _ _ => pe_callB (call_isik (K := K)) (by rfl) T.b_isinstance (by decide +kernel) (pa_cons (pv 1) (pa_cons (pe_bltn (v := .ty "bool") (by rfl) T.b_bool (by decide +kernel) rfl) pa_nil)))) pa_nil))), ?_⟩
    walk_at "rd"
    refine ⟨⟨_, sq_of hl⟩, lc_mapL (fun _ => .bl true) (fun _ => rfl) (sq_of hl) (by rw [List.length_map]; exact hn) (fun i x H' hi s Q' k => ?_) (fun D H' _ s e => ?_)⟩
    · rw [List.getElem?_map] at hi
      cases e : bs[i]? with
      | none => rw [e] at hi; cases hi
      | some b =>
        rw [e] at hi
        cases hi
        walk_at "rd"
        exact isi_ty (.base (.bl b)) (isi_bool (by decide)) (k _ (Same.refl _))
    · have := q H' s
      rw [← (show ((List.range (bs.map V.bl).length).map fun _ => true).all id = true from List.all_eq_true.mpr fun b hb => by
        obtain ⟨i, _, rfl⟩ := List.mem_map.mp hb
        rfl)] at this
      exact rd_all.mpr ⟨(List.range (bs.map V.bl).length).map fun _ => true, sq_of (by rw [e, List.map_map]; rfl), this⟩
end
end Sa
local macro_rules | `(tactic| walk_at "rd") => `(tactic| ((try simp only [L2.start, L2.wipe, List.set_cons_succ, List.set_cons_zero, List.map_cons, List.map_nil, List.length_cons, List.length_nil, List.cons_append, List.nil_append, List.replicate_succ, List.replicate_zero, Nat.reduceSub, Nat.reduceAdd, Nat.zero_add]); try simp only [↓Sa.rd_seq, ↓Sa.rd_bm,  ↓Sa.rd_next, ↓Sa.rd_brk, ↓Sa.rd_asg, ↓Sa.rp_name, ↓Sa.rp_par, ↓Sa.rd_ret, ↓Sa.rd_retN, ↓Sa.rd_drop, ↓Sa.rd_if, ↓Sa.rp_var, ↓Sa.rd_c, ↓Sa.rd_op, ↓Sa.rd_un, ↓Sa.rd_I0, ↓Sa.rd_I, ↓Sa.rd_U, ↓Sa.rd_eqI, ↓Sa.rd_neI, ↓Sa.rd_test, ↓Sa.rd_B, ↓Sa.rd_and, ↓Sa.rd_or, ↓Sa.rd_not, ↓Sa.rd_andV, ↓Sa.rd_orV, ↓Sa.rd_notV, ↓Sa.rd_ifE, ↓Sa.rd_isN, ↓Sa.rd_notN, ↓Sa.rd_chain, ↓Sa.rd_chain3, ↓Sa.rd_nil, ↓Sa.rd_cons, ↓Sa.rd_tup, ↓Sa.rd_lst, ↓Sa.rd_call, ↓Sa.rd_CB, ↓Sa.rd_ixL, ↓Sa.rd_ixT, ↓Sa.rd_sl, ↓Sa.rd_noPart, ↓Sa.rd_part, ↓Sa.rd_slL, ↓Sa.rd_sum, ↓Sa.rd_all, ↓Sa.rd_any, ↓Sa.ex_int, ↓Sa.ex_int1, ↓Sa.ex_int2, ↓Sa.rd_len, ↓Sa.ex_len, ↓Sa.ex_bl, ↓Sa.ex_two, ↓Sa.slot_z, ↓Sa.slot_n, ↓Sa.setS_z, ↓Sa.setS_n, ↓Sa.if_tt, ↓Sa.if_ff, ↓Sa.if_dec, ↓Sa.if_ndec, ↓Sa.if_nb, ↓Sa.rd_forL, ↓Sa.rd_forT, ↓Sa.rd_forR1, ↓Sa.rd_forR2, ↓Sa.rd_forR3, ↓Sa.ex_ref, ↓Sa.cx_K, ↓List.append_nil, List.length_cons, List.length_nil, Nat.reduceAdd, Nat.zero_add]))
namespace Sa
open PySem PySem.Spec PyProof.Rows L2 Evl LamX
/-- what _law_no_of makes of what it asks: no error, or one of two -/
def TTno (K : PySem.W.Frag) (CM CA : Addr) : (XK → Hp → VK → Prop) → Hp → VK → Prop := fun tl H Q =>
  tl (fun cls d H' => ∃ z : Bool, cls = .ref (if z then CM else CA) ∧ d = none ∧ ∀ H'', Same H' H'' → Q (.str (if z then "mark" else "apart")) H'') H fun _ H' => Q (.str "") H'
theorem no_of_gives {CX : CXT} {P : Program} {w : World} {K : PySem.W.Frag} {mg : Str → Option Value} {base : Heap} {N0 : List Str} {q0 q : Str} {sc0 : Scope} {f0 : Addr} {cd0 : Value} {A0 : Around} {o0 : List Env} {s0 : Shared} {H0 : Hp} {E0' : XK} {g C_MarkError C_NoMark C_NotApart : Addr} {cdg : Value}
    (T : Blt mg) (E_MarkError : ErrC K mg "MarkError" C_MarkError) (E_NoMark : ErrC K mg "NoMark" C_NoMark) (E_NotApart : ErrC K mg "NotApart" C_NotApart)
    (YM : ExcC K C_NoMark) (YA : ExcC K C_NotApart) (m0 : PySem.W.subIn K (.ref C_NoMark) (.ref C_MarkError) = some true) (a0 : PySem.W.subIn K (.ref C_NotApart) (.ref C_MarkError) = some true) (m2 : PySem.W.subIn K (.ref C_NoMark) (.ref C_NotApart) = some false) (a1 : PySem.W.subIn K (.ref C_NotApart) (.ref C_NoMark) = some false) :
    GivesTo (cxOf CX P w K mg base N0 q0 sc0 f0 cd0 A0 o0 s0 H0 E0').nox ["_law_ask", "error", "_law_sorts"] "_law_no_of" (defScope s__law_no_of) g cdg (defBody s__law_no_of) "_law_ask" q (TTno K C_NoMark C_NotApart) := by
  intro f c' s H Q tl act hc h
  refine ⟨_, pss_one (L2.ps_try_as (i := 1) (tb := fun W D σ H => ∃ Ech : XK, (∀ cls d (σ' : L2.St) H', σ'.length = 3 → Ech cls d H' → W cls d σ' H') ∧ σ[0]? = some (some (.ref f)) ∧ H c' = some (CodeO c' q) ∧ tl Ech H (fun _ H1 => D.rt (.str "") H1))
    rfl rfl sc__law_no_of.nd rfl rfl ⟨rfl, by decide, .inl E_MarkError.g⟩ LamX.takes0 (fun W pn xe tk _ => ⟨fun pins s' σ H D I ⟨Ech, hW, h1, h2, h3⟩ => (pss_cons (ps_expr (act (fun cls d _ H => Ech cls d H) pn xe Ech _ _ (takes_len tk hW) (fun _ _ _ _ h => h))) (pss_one (ps_ret pe_str))).run pins s' σ H D I ⟨h1, h2, h3⟩⟩)
    (fun a oe cls d pn hz hf => pss_cons (ps_set (i := 2) sc__law_no_of.nd rfl (by first | exact Or.inl rfl | exact Or.inr rfl) (pe_lst (pa_cons (pe_callB (call_isXc (K := K) hz hf) (by rfl) T.b_isinstance (by decide +kernel) (pa_cons (pv 1) (pa_cons (pe_glob (v := .ref C_NoMark) (by rfl) E_NoMark.g rfl) pa_nil))) (pa_cons (pe_callB (call_isXc (K := K) hz hf) (by rfl) T.b_isinstance (by decide +kernel) (pa_cons (pv 1) (pa_cons (pe_glob (v := .ref C_NotApart) (by rfl) E_NotApart.g rfl) pa_nil))) pa_nil))))
      (pss_one (ps_ret (pe_ifExp (pt_cmpR op_eq (pe_bmk (K := K) (pe_bm PySem.F.plainAttrs_list PySem.F.slot_list_count PySem.F.type_list_count (mt_lcountF (K := K)) (pv 2) (pa_cons (pe_bl) pa_nil))) (pe_int) (nomark _)) (pe_ix (ix_listk (K := K)) (pe_lst (pa_cons (pe_str) (pa_cons (pe_str) pa_nil))) (pe_bmk (K := K) (pe_bm PySem.F.plainAttrs_list PySem.F.slot_list_index PySem.F.type_list_index (mt_indexk (K := K)) (pv 2) (pa_cons (pe_bl) pa_nil))) (fun _ _ => rfl)) (pe_str)))))), ?_⟩
  refine ⟨_, fun cls d σ' H' hl hE => ?_, rfl, hc, h⟩
  obtain ⟨z, rfl, rfl, q'⟩ := hE
  match σ', hl with
  | [x0, x1, x2], _ =>
    refine take_as (show PySem.W.exmOne K (.ref (if z then C_NoMark else C_NotApart)) (.ref C_MarkError) = some true from ?_) fun a na => ?_
    · cases z with
      | true => exact E_MarkError.exm m0
      | false => exact E_MarkError.exm a0
    walk_at "rd"
    have Y : ExcC K (if z then C_NoMark else C_NotApart) := by cases z <;> assumption
    have k1 : PySem.W.kitOne K (.ref (if z then C_NoMark else C_NotApart)) (.ref C_NoMark) = some z := by
      cases z with
      | true => exact E_NoMark.kit E_NoMark.ss
      | false => exact E_NoMark.kit a1
    have k2 : PySem.W.kitOne K (.ref (if z then C_NoMark else C_NotApart)) (.ref C_NotApart) = some !z := by
      cases z with
      | true => exact E_NotApart.kit m2
      | false => exact E_NotApart.kit E_NotApart.ss
    refine isX Y k1 (isX Y k2 ⟨by decide, fun l nl => ⟨ty_list (sq_of upd_same), ?_⟩⟩)
    have ml := same_new (o := .lst [V.bl z, V.bl !z]) nl
    refine ⟨l, [.bl z, .bl !z], .bl true, rfl, rfl, sq_of upd_same, rfl, by cases z <;> rfl, ?_⟩
    rw [show ([V.bl z, V.bl !z].countP fun w => eqV w (.bl true)) = 1 by cases z <;> rfl]
    refine rd_eqI.mpr ⟨true, by rw [decide_eq_true (show ((1 : Nat) : Int) = 1 from rfl)], iteT ⟨by decide, fun p np => ?_⟩⟩
    have mp := same_new (o := .lst [V.str (Str.ofString "mark"), V.str (Str.ofString "apart")]) np
    have e1 := mp _ _ (show (upd H' l (.lst [V.bl z, V.bl !z])) l = some (.lst [V.bl z, V.bl !z]) from upd_same)
    have qq := q' _ (ml.trans mp)
    refine ⟨ty_list (sq_of e1), ?_⟩
    cases z with
    | true => exact ⟨l, _, .bl true, 0, .bl true, rfl, rfl, sq_of e1, rfl, rfl, rfl, rfl, fun m z' h => absurd h (Nat.not_lt_zero m), ixL (sq_of upd_same) (atI_nat (j := 0) rfl) qq⟩
    | false =>
      refine ⟨l, _, .bl true, 1, .bl true, rfl, rfl, sq_of e1, rfl, rfl, rfl, rfl, fun m z' h hz => ?_, ixL (sq_of upd_same) (atI_nat (j := 1) rfl) qq⟩
      have : m = 0 := by omega
      subst this
      cases hz
      rfl
end Sa
local macro_rules | `(tactic| walk_at "rd") => `(tactic| ((try simp only [L2.start, L2.wipe, List.set_cons_succ, List.set_cons_zero, List.map_cons, List.map_nil, List.length_cons, List.length_nil, List.cons_append, List.nil_append, List.replicate_succ, List.replicate_zero, Nat.reduceSub, Nat.reduceAdd, Nat.zero_add]); try simp only [↓Sa.rd_seq, ↓Sa.rd_power, ↓Sa.rd_markOf,  ↓Sa.rd_next, ↓Sa.rd_brk, ↓Sa.rd_asg, ↓Sa.rp_name, ↓Sa.rp_par, ↓Sa.rd_ret, ↓Sa.rd_retN, ↓Sa.rd_drop, ↓Sa.rd_if, ↓Sa.rp_var, ↓Sa.rd_c, ↓Sa.rd_op, ↓Sa.rd_un, ↓Sa.rd_I0, ↓Sa.rd_I, ↓Sa.rd_U, ↓Sa.rd_eqI, ↓Sa.rd_neI, ↓Sa.rd_test, ↓Sa.rd_B, ↓Sa.rd_and, ↓Sa.rd_or, ↓Sa.rd_not, ↓Sa.rd_andV, ↓Sa.rd_orV, ↓Sa.rd_notV, ↓Sa.rd_ifE, ↓Sa.rd_isN, ↓Sa.rd_notN, ↓Sa.rd_chain, ↓Sa.rd_chain3, ↓Sa.rd_nil, ↓Sa.rd_cons, ↓Sa.rd_tup, ↓Sa.rd_lst, ↓Sa.rd_call, ↓Sa.rd_CB, ↓Sa.rd_ixL, ↓Sa.rd_ixT, ↓Sa.rd_sl, ↓Sa.rd_noPart, ↓Sa.rd_part, ↓Sa.rd_slL, ↓Sa.rd_sum, ↓Sa.rd_all, ↓Sa.rd_any, ↓Sa.ex_int, ↓Sa.ex_int1, ↓Sa.ex_int2, ↓Sa.rd_len, ↓Sa.ex_len, ↓Sa.ex_bl, ↓Sa.ex_two, ↓Sa.slot_z, ↓Sa.slot_n, ↓Sa.setS_z, ↓Sa.setS_n, ↓Sa.if_tt, ↓Sa.if_ff, ↓Sa.if_dec, ↓Sa.if_ndec, ↓Sa.if_nb, ↓Sa.rd_forL, ↓Sa.rd_forT, ↓Sa.rd_forR1, ↓Sa.rd_forR2, ↓Sa.rd_forR3, ↓Sa.ex_ref, ↓Sa.cx_K, ↓List.append_nil, List.length_cons, List.length_nil, Nat.reduceAdd, Nat.zero_add]))
namespace Sa
open PySem PySem.Spec PyProof.Rows L2 Evl
section
variable {P : Program} {w : World} {K : PySem.W.Frag} {mg : Str → Option Value} {base : Heap}
theorem ok_number {f : Addr} {fd : FuncData} (F : Fun K "_law_number" "_law_number" s__law_number f fd) : FnOk P w K mg base CX0 1 f fd ["_law_cell", "_law_at", "_law_whole"] spNumber := by
  refine F.ok sc__law_number (fun vs H Q E h => ?_) (fun cdv A outer s H vs Q E hr h => ?_)
  · obtain ⟨c, a, s, n, rfl, _⟩ := h
    rfl
  · obtain ⟨c, a, s, n, rfl, hc, hs, h0, h1, hn, q⟩ := h
    refine ⟨_, pss_cons (ps_if (pt_cmpR op_ge (pv 0) (pe_op op_pow (pe_int) (pe_int)) (nomark _)) (pss_one (ps_ret (pe_op op_fdiv (pv 0) (pe_op op_add (pe_int) (pe_op op_mod (pv 1) (pe_int)))))) (pss_nil))
      (pss_cons (ps_set (i := 3) sc__law_number.nd rfl (by first | exact Or.inl rfl | exact Or.inr rfl) (pe_op op_mod (pe_op op_add (pe_op op_mulB (pe_op op_add (pv 0) (pe_op op_mulB (pe_int) (pv 1))) (pe_int)) (pv 2)) (pe_int)))
      (pss_cons (ps_set (i := 4) sc__law_number.nd rfl (by first | exact Or.inl rfl | exact Or.inr rfl) (pe_op op_mulB (pv 3) (pe_op op_add (pe_op op_add (pv 0) (pe_op op_mulB (pe_int) (pv 1))) (pe_int))))
      (pss_one (ps_ret (pe_op op_fdiv (pe_op op_mulB (pe_op op_mulB (pv 4) (pe_op op_add (pe_op op_add (pv 3) (pv 0)) (pe_int))) (pe_op op_add (pe_op op_mulB (pv 3) (pv 3)) (pe_int))) (pe_op op_add (pe_int) (pv 1))))))), ?_⟩
    walk_at "rd"
    obtain ⟨m, em⟩ : ∃ m, m = ((c + 977 * a) * 48271 + s) % 2147483647 := ⟨_, rfl⟩
    have m0 : 0 ≤ m ∧ m < 2147483647 := by omega
    have sm : ∀ x : Int, x.natAbs < 2 ^ 62 → B (n + 62) x := fun x hx => (B.small hx).mono (by omega)
    have hc' : B (n + 62) c := hc.mono (by omega)
    have mm : m * m ≤ 2147483646 * 2147483646 := Int.mul_le_mul (by omega) (by omega) (by omega) (by omega)
    have mm0 : 0 ≤ m * m := Int.mul_nonneg m0.1 m0.1
    rw [← em]
    have b1 : B (n + 63) (c + 977 * a) := hc'.add (sm _ (by omega))
    have b2 : B (n + 64) (c + 31 * a + 7) := (hc'.add (sm _ (by omega))).add ((sm 7 (by decide)).mono (by omega))
    have b3 : B (n + 64) (m + c + 5) := ((sm m (by omega)).add hc').add ((sm 5 (by decide)).mono (by omega))
    have b4 : B 62 m := B.small (by omega)
    have b5 : B 62 (m * m + 11) := B.small (by omega)
    have b6 := (b4.mul b2).mul b3
    refine ⟨⟨by decide, by decide, by decide⟩, ite2 (fun _ => ⟨by decide, ⟨by omega, by omega⟩, q _ ((hc.ediv (by omega)).mono (by omega))⟩) (fun _ => ⟨mulB_small (by decide) (by omega), b1.ok (B.small (x := 48271) (by decide)) (by omega) (by omega) (by omega), by decide, mulB_small (by decide) (by omega), b4.ok b2 (by omega) (by omega) (by omega), (b4.mul b2).ok b3 (by omega) (by omega) (by omega), mulB_small (by omega) (by omega), b6.ok b5 (by omega) (by omega) (by omega), ⟨by omega, by omega⟩, q _ (((b6.mul b5).ediv (by omega)).mono (by omega))⟩)⟩
end
end Sa
local macro_rules | `(tactic| walk_at "rd") => `(tactic| ((try simp only [L2.start, L2.wipe, List.set_cons_succ, List.set_cons_zero, List.map_cons, List.map_nil, List.length_cons, List.length_nil, List.cons_append, List.nil_append, List.replicate_succ, List.replicate_zero, Nat.reduceSub, Nat.reduceAdd, Nat.zero_add]); try simp only [↓Sa.rd_seq, ↓Sa.rd_lcR1, ↓Sa.rd_lcT, ↓Sa.rd_made, ↓Sa.rd_make, ↓Sa.rd_meth,  ↓Sa.rd_next, ↓Sa.rd_brk, ↓Sa.rd_asg, ↓Sa.rp_name, ↓Sa.rp_par, ↓Sa.rd_ret, ↓Sa.rd_retN, ↓Sa.rd_drop, ↓Sa.rd_if, ↓Sa.rp_var, ↓Sa.rd_c, ↓Sa.rd_op, ↓Sa.rd_un, ↓Sa.rd_I0, ↓Sa.rd_I, ↓Sa.rd_U, ↓Sa.rd_eqI, ↓Sa.rd_neI, ↓Sa.rd_test, ↓Sa.rd_B, ↓Sa.rd_and, ↓Sa.rd_or, ↓Sa.rd_not, ↓Sa.rd_andV, ↓Sa.rd_orV, ↓Sa.rd_notV, ↓Sa.rd_ifE, ↓Sa.rd_isN, ↓Sa.rd_notN, ↓Sa.rd_chain, ↓Sa.rd_chain3, ↓Sa.rd_nil, ↓Sa.rd_cons, ↓Sa.rd_tup, ↓Sa.rd_lst, ↓Sa.rd_call, ↓Sa.rd_CB, ↓Sa.rd_ixL, ↓Sa.rd_ixT, ↓Sa.rd_sl, ↓Sa.rd_noPart, ↓Sa.rd_part, ↓Sa.rd_slL, ↓Sa.rd_sum, ↓Sa.rd_all, ↓Sa.rd_any, ↓Sa.ex_int, ↓Sa.ex_int1, ↓Sa.ex_int2, ↓Sa.rd_len, ↓Sa.ex_len, ↓Sa.ex_bl, ↓Sa.ex_two, ↓Sa.slot_z, ↓Sa.slot_n, ↓Sa.setS_z, ↓Sa.setS_n, ↓Sa.if_tt, ↓Sa.if_ff, ↓Sa.if_dec, ↓Sa.if_ndec, ↓Sa.if_nb, ↓Sa.rd_forL, ↓Sa.rd_forT, ↓Sa.rd_forR1, ↓Sa.rd_forR2, ↓Sa.rd_forR3, ↓Sa.ex_ref, ↓Sa.cx_K, ↓List.append_nil, List.length_cons, List.length_nil, Nat.reduceAdd, Nat.zero_add]))
namespace Sa
open PySem PySem.Spec PyProof.Rows L2 Evl LamX
local macro_rules | `(tactic| walk_at "kp") => `(tactic| (repeat (first | exact upd_same | refine same_new (by assumption) _ _ ?_)))
local macro_rules | `(tactic| walk_at "sm") => `(tactic| ((repeat (refine Same.trans ?_ (same_new (by assumption)))); exact Same.refl _))
section
variable {P : Program} {w : World} {K : PySem.W.Frag} {mg : Str → Option Value} {base : Heap}
theorem mark_call {p n : Int} {CP CN : Addr} {H : Hp} {Q : VK} {E : XK} (hp : okP (.int p) = true) (h0 : 0 ≤ n) (h1 : n < p) (q : Q (.int (NT.mk p n)) H) : spMark K CP CN [.int p, .int n] H Q E :=
  ⟨.int p, .int n, "int", "int", rfl, .base (.int p), by decide, .base (.int n), by decide, fun z => (by rw [hp] at z; cases z), fun _ => ⟨fun h => absurd rfl (h n), fun p' n' e e' => (by cases e; cases e'; exact ⟨fun z => absurd ⟨h0, h1⟩ z, fun _ _ => q⟩)⟩⟩
theorem number_call {p x : Int} {CP CN CK : Addr} {H : Hp} {Q : VK} {E : XK} (hp : okP (.int p) = true) (q : ∀ n, 0 ≤ n → n < p → NT.mk p n = x → Q (.int n) H) (qE : (∀ n, 0 ≤ n → n < p → NT.mk p n ≠ x) → E (.ref CK) none H) : spNumberOf K CP CN CK [.int p, .int x] H Q E :=
  ⟨.int p, .int x, "int", "int", rfl, .base (.int p), by decide, .base (.int x), by decide, fun z => (by rw [hp] at z; cases z), fun _ => ⟨fun h => absurd rfl (h x), fun p' n' e e' => (by cases e; cases e'; exact ⟨q, qE⟩)⟩⟩
theorem number_mk {p n : Int} {CP CN CK : Addr} {H : Hp} {Q : VK} {E : XK} (hp : okP (.int p) = true) (h0 : 0 ≤ n) (h1 : n < p) (q : Q (.int n) H) : spNumberOf K CP CN CK [.int p, .int (NT.mk p n)] H Q E := number_call hp (fun m m0 m1 em => by
    have hp0 := okP_int hp
    obtain ⟨_, e, p3, _⟩ := hp0
    cases e
    have k1 := NT.mk_div (n := m) (show 0 < p by omega)
    have k2 := NT.mk_div (n := n) (show 0 < p by omega)
    have : m = n := by rw [← k1, ← k2, em]
    rw [this]
    exact q) fun z => absurd rfl (z n h0 h1)
theorem two_call {p d : Int} {CP CN : Addr} {H : Hp} {Q : VK} {E : XK} (hp : okP (.int p) = true) (hB : B 40000000 d) (t : TellPair (NT.PairS p d) H Q) : spTwoOf K CP CN [.int p, .int d] H Q E :=
  ⟨.int p, .int d, "int", "int", rfl, .base (.int p), by decide, .base (.int d), by decide, fun z => (by rw [hp] at z; cases z), fun _ => ⟨fun h => absurd rfl (h d), fun p' d' e e' => (by cases e; cases e'; exact ⟨hB, t⟩)⟩⟩
theorem apart_call {p d : Int} {CP CN : Addr} {H : Hp} {Q : VK} {E : XK} (hp : okP (.int p) = true) (h1 : 1 ≤ d) (hB : B 50000000 d) (t : TellPair (NT.PairD p d) H Q) : spApartBy K CP CN [.int p, .int d] H Q E :=
  ⟨.int p, .int d, "int", "int", rfl, .base (.int p), by decide, .base (.int d), by decide, fun z => (by rw [hp] at z; cases z), fun _ => ⟨fun d' e l => (by cases e; omega), fun h => absurd rfl (h d), fun p' d' e e' _ => (by cases e; cases e'; exact ⟨hB, t⟩)⟩⟩
theorem ok3 : okP (.int 3) = true := by decide +kernel
theorem ok5 : okP (.int 5) = true := by decide +kernel
theorem two3 {t : Int} {CP CN : Addr} {H : Hp} {Q : VK} {E : XK} (hB : B 62 t) (q : ∀ y H', Same H H' → RP (sum3 t) y H' → Q y H') : spTwoOf K CP CN [.int 3, .int t] H Q E :=
  two_call ok3 (hB.mono (by decide)) ⟨fun a b r H' p s np ep => q _ _ s (by rw [pairS3 r]; exact ⟨p, rfl, ep⟩), fun no H' s => q _ _ s (by
    cases e : sum3 t with
    | none => exact rfl
    | some x => exact absurd (sum3_some e) (no x.1 x.2))⟩
theorem apart3 {t : Int} {CP CN : Addr} {H : Hp} {Q : VK} {E : XK} (h1 : 1 ≤ t) (hB : B 62 t) (q : ∀ y H', Same H H' → RP (diff3 t) y H' → Q y H') : spApartBy K CP CN [.int 3, .int t] H Q E :=
  apart_call ok3 h1 (hB.mono (by decide)) ⟨fun a b r H' p s np ep => q _ _ s (by rw [pairD3 r]; exact ⟨p, rfl, ep⟩), fun no H' s => q _ _ s (by
    cases e : diff3 t with
    | none => exact rfl
    | some x => exact absurd (diff3_some e) (no x.1 x.2))⟩
theorem isi_own {H : Hp} {Q : VK} {v : V} {C D : Addr} {b : Bool} (t : TyX K H v (.ref D)) (k : PySem.W.kitOne K (.ref D) (.ref C) = some b) (q : Q (.bl b) H) : rIsi K [v, .ref C] H Q := ⟨_, _, _, _, b, rfl, .own _, t, k, q⟩
theorem told_apart {l CB CA CS : Addr} {H : Hp} {Q : VK} {E : XK} {ms : List Int} (XA : ClsX K mg "Apart" CA) (h : H l = some (.lst (ms.map V.int))) (hl : ms.length ≤ 40) (hp : ms.Pairwise (· < ·)) (sd : SD.Sid ms) (q : ∀ H', Same H H' → Q (.bl true) H') :
    spTold K CB CA CS [.ref l] H (fun x H1 => rIsi K [x, .ref CA] H1 Q) E :=
  ⟨_, rfl, .of_list h hl hp ⟨fun _ x dx H' s _ e => isi_own (XA.tyx e) (XA.kit XA.ss) (q H' s), fun a b c d x dx p1 p2 H' two _ _ _ _ _ => absurd sd two.not_sid⟩⟩
theorem told_same {l CB CA CS : Addr} {H : Hp} {Q : VK} {E : XK} {ms : List Int} (XS : ClsX K mg "Same" CS) (h : H l = some (.lst (ms.map V.int))) (hl : ms.length ≤ 40) (hp : ms.Pairwise (· < ·)) (sd : ¬ SD.Sid ms) (q : ∀ H', Same H H' → Q (.bl true) H') :
    spTold K CB CA CS [.ref l] H (fun x H1 => rIsi K [x, .ref CS] H1 Q) E :=
  ⟨_, rfl, .of_list h hl hp ⟨fun z => absurd z sd, fun a b c d x dx p1 p2 H' two s _ e _ _ => isi_own (XS.tyx e) (XS.kit XS.ss) (q H' s)⟩⟩
theorem behind_call {l CB CN : Addr} {H : Hp} {Q : VK} {E : XK} {ms : List Int} (h : H l = some (.lst (ms.map V.int))) (hl : ms.length ≤ 40) (hp : ms.Pairwise (· < ·)) (sd : SD.Sid ms)
    (q : ∀ x H', BH.Next ms x → Same H H' → Q (.int x) H') : spBehind K CB CN [.ref l] H Q E :=
  ⟨_, rfl, .of_list h hl hp ⟨fun z => absurd sd z, fun _ x H' => q x H'⟩⟩
theorem behind_bad {l CB CN : Addr} {H : Hp} {Q : VK} {E : XK} {ms : List Int} (h : H l = some (.lst (ms.map V.int))) (hl : ms.length ≤ 40) (hp : ms.Pairwise (· < ·)) (sd : ¬ SD.Sid ms)
    (q : ∀ H', Same H H' → E (.ref CN) none H') : spBehind K CB CN [.ref l] H Q E :=
  ⟨_, rfl, .of_list h hl hp ⟨fun _ => q, fun z => absurd z sd⟩⟩
abbrev qL : Str := (envOfC "_law_promises_right" (defScope s__law_promises_right) 0 0 .none).qual ++ "<lambda>"
def spPromises (T : List (Addr × Str)) : Sp := fun vs H Q _ => vs = [] ∧ Tabs T H ∧ ∀ H', ExtN H H' → Q (.bl true) H'
theorem ok_promises {f c PT f1 f2 f3 f4 f5 f6 f7 f8 f9 f10 C_BadPrime C_BadNumber C_NoMark C_NotApart C_MarkError C_BadMarks C_Apart C_Same : Addr} {oc kV doc pm ct : Value} {od an : Option Addr} {osl : Array (Option Value)} {fd1 fd2 fd3 fd4 fd5 fd6 fd7 fd8 fd9 fd10 : FuncData} (T : Blt mg)
    (lk : K.lookup f = some ⟨oc, od, .func (PySem.W.fnOf "_law_promises_right" "_law_promises_right" (defArgs s__law_promises_right) (defBody s__law_promises_right) (defScope s__law_promises_right) .none kV doc pm an (.ref c) ct), osl⟩) (hcd : PySem.W.codeIn K (.ref c) "_law_promises_right" = true) (TB : TabB base mg c PT)
    (E_MarkError : ErrC K mg "MarkError" C_MarkError) (E_NoMark : ErrC K mg "NoMark" C_NoMark) (E_NotApart : ErrC K mg "NotApart" C_NotApart)
    (YM : ExcC K C_NoMark) (YA : ExcC K C_NotApart) (m0 : PySem.W.subIn K (.ref C_NoMark) (.ref C_MarkError) = some true) (a0 : PySem.W.subIn K (.ref C_NotApart) (.ref C_MarkError) = some true) (m2 : PySem.W.subIn K (.ref C_NoMark) (.ref C_NotApart) = some false) (a1 : PySem.W.subIn K (.ref C_NotApart) (.ref C_NoMark) = some false)
    (S : SameAt K C_Same) (X_Same : ClsX K mg "Same" C_Same) (M_Same : Mk K C_Same f8) (X_Apart : ClsX K mg "Apart" C_Apart) (M_Apart : Mk0 K C_Apart) (u1 : PySem.W.subIn K (.ref C_Apart) (.ref C_Same) = some false) (u2 : PySem.W.subIn K (.ref C_Same) (.ref C_Apart) = some false)
    (D_mark : DefAt K mg "mark" "mark" s_mark ["prime", "number"] f1 fd1) (G_mark : FnOk P w K mg base (L2N.CX P w) 3 f1 fd1 ["prime", "number"] (spMark K C_BadPrime C_BadNumber))
    (D_number_of : DefAt K mg "number_of" "number_of" s_number_of ["prime", "found"] f2 fd2) (G_number_of : FnOk P w K mg base (L2N.CX P w) 3 f2 fd2 ["prime", "found"] (spNumberOf K C_BadPrime C_BadNumber C_NoMark))
    (D_two_of : DefAt K mg "two_of" "two_of" s_two_of ["prime", "total"] f3 fd3) (G_two_of : FnOk P w K mg base (L2N.CX P w) 3 f3 fd3 ["prime", "total"] (spTwoOf K C_BadPrime C_BadNumber))
    (D_apart_by : DefAt K mg "apart_by" "apart_by" s_apart_by ["prime", "difference"] f4 fd4) (G_apart_by : FnOk P w K mg base (L2N.CX P w) 3 f4 fd4 ["prime", "difference"] (spApartBy K C_BadPrime C_BadNumber))
    (D_told : DefAt K mg "told" "told" s_told ["marks"] f5 fd5) (G_told : FnOk P w K mg base (L2N.CX P w) 3 f5 fd5 ["marks"] (spTold K C_BadMarks C_Apart C_Same))
    (D_behind : DefAt K mg "behind" "behind" s_behind ["marks"] f6 fd6) (G_behind : FnOk P w K mg base (L2N.CX P w) 3 f6 fd6 ["marks"] (spBehind K C_BadMarks C_NotApart))
    (D__law_no_of : DefAt K mg "_law_no_of" "_law_no_of" s__law_no_of ["_law_ask"] f7 fd7)
    (D_Same_init : MethAt K C_Same "__init__" "Same.__init__" s_Same_init ["self", "one", "other"] f8 fd8)
    (D_Apart_shows : MethAt K C_Apart "shows" "Apart.shows" s_Apart_shows ["self", "marks"] f9 fd9) (G_Apart_shows : FnOk P w K mg base CX0 2 f9 fd9 ["self", "marks"] (spShowsA K))
    (D_Same_shows : MethAt K C_Same "shows" "Same.shows" s_Same_shows ["self", "marks"] f10 fd10) (G_Same_shows : FnOk P w K mg base CX0 1 f10 fd10 ["self", "marks"] (spShowsS K C_Same)) :
    FnOk P w K mg base CX0 7 f (PySem.W.fnOf "_law_promises_right" "_law_promises_right" (defArgs s__law_promises_right) (defBody s__law_promises_right) (defScope s__law_promises_right) .none kV doc pm an (.ref c) ct) [] (spPromises [(PT, qL)]) := by
  have G_Same_init : FnOk P w K mg base CX0 1 f8 fd8 ["self", "one", "other"] (spSameInit K C_Same) := ok_same_init S D_Same_init.F
  obtain ⟨ocN, odN, kVN, docN, pmN, anN, cdN, ctN, oslN, rfl, lkN, hcN⟩ := D__law_no_of.F.ex
  refine okC lk hcd sc__law_promises_right (fun vs H Q E h => ?_) (fun A outer s H vs Q E hr h => ?_)
  · obtain ⟨rfl, _⟩ := h
    rfl
  · obtain ⟨rfl, hT, q⟩ := h
    refine ⟨_, pss_cons (ps_if (pt_cmpR (op_neDk (K := K) hr.units) (pe_lc (own := [("_law_number_here", 6)]) (g := gName 6) (tt := tYes) (by rfl) sc__law_promises_right.nd (pi_r1 (by rfl) T.b_range (pa_cons (pe_int) pa_nil)) (blkOk_by (own := [("_law_number_here", 6)]) (N := ["_law_found", "_law_sums", "_law_cases", "_law_one", "_law_other", "_law_due", "_law_number_here", "_law_total", "_law_far", "_law_marks"]) (sc := defScope s__law_promises_right) (by decide +kernel)) (fun _ _ _ _ _ => pg_name (i := 6) sc__law_promises_right.nd rfl (by first | exact Or.inl rfl | exact Or.inr rfl)) (fun _ _ _ _ _ => pts_nil) (fun _ _ _ _ _ => pe_call G_mark (hr.mono (by decide)) (by rfl) D_mark.g D_mark.kp D_mark.b .nil passN (pa_cons (pe_int) (pa_cons (pv 6) pa_nil)))) (pe_lst (pa_cons (pe_int) (pa_cons (pe_int) (pa_cons (pe_int) pa_nil)))) (nomark _)) (pss_one (ps_ret (pe_bl))) (pss_nil))
      (pss_cons (ps_if (pt_cmpR (op_neDk (K := K) hr.units) (pe_lc (own := [("_law_number_here", 6)]) (g := gName 6) (tt := tYes) (by rfl) sc__law_promises_right.nd (pi_r1 (by rfl) T.b_range (pa_cons (pe_int) pa_nil)) (blkOk_by (own := [("_law_number_here", 6)]) (N := ["_law_found", "_law_sums", "_law_cases", "_law_one", "_law_other", "_law_due", "_law_number_here", "_law_total", "_law_far", "_law_marks"]) (sc := defScope s__law_promises_right) (by decide +kernel)) (fun _ _ _ _ _ => pg_name (i := 6) sc__law_promises_right.nd rfl (by first | exact Or.inl rfl | exact Or.inr rfl)) (fun _ _ _ _ _ => pts_nil) (fun _ _ _ _ _ => pe_call G_mark (hr.mono (by decide)) (by rfl) D_mark.g D_mark.kp D_mark.b .nil passN (pa_cons (pe_int) (pa_cons (pv 6) pa_nil)))) (pe_lst (pa_cons (pe_int) (pa_cons (pe_int) (pa_cons (pe_int) (pa_cons (pe_int) (pa_cons (pe_int) pa_nil)))))) (nomark _)) (pss_one (ps_ret (pe_bl))) (pss_nil))
      (pss_cons (ps_if (PW.pt (pw_or (pt_cmpR (op_neDk (K := K) hr.units) (pe_lc (own := [("_law_found", 0)]) (g := gName 0) (tt := tYes) (by rfl) sc__law_promises_right.nd (pi_tup (pe_tup (pa_cons (pe_int) (pa_cons (pe_int) (pa_cons (pe_int) pa_nil))))) (blkOk_by (own := [("_law_found", 0)]) (N := ["_law_found", "_law_sums", "_law_cases", "_law_one", "_law_other", "_law_due", "_law_number_here", "_law_total", "_law_far", "_law_marks"]) (sc := defScope s__law_promises_right) (by decide +kernel)) (fun _ _ _ _ _ => pg_name (i := 0) sc__law_promises_right.nd rfl (by first | exact Or.inl rfl | exact Or.inr rfl)) (fun _ _ _ _ _ => pts_nil) (fun _ _ _ _ _ => pe_call G_number_of (hr.mono (by decide)) (by rfl) D_number_of.g D_number_of.kp D_number_of.b .nil passN (pa_cons (pe_int) (pa_cons (pv 0) pa_nil)))) (pe_lst (pa_cons (pe_int) (pa_cons (pe_int) (pa_cons (pe_int) pa_nil)))) (nomark _)) (pw_or1 (pt_cmpR op_ne (pe_call G_number_of (hr.mono (by decide)) (by rfl) D_number_of.g D_number_of.kp D_number_of.b .nil passN (pa_cons (pe_int) (pa_cons (pe_op op_add (pe_op op_mulB (pe_op op_mulB (pe_int) (pe_int)) (pe_int)) (pe_int)) pa_nil))) (pe_int) (nomark _))))) (pss_one (ps_ret (pe_bl))) (pss_nil))
      (pss_cut (ps_for PassesOwn.never rfl (pi_list (pe_lst (pa_cons (pe_int) (pa_cons (pe_int) (pa_cons (pe_int) (pa_cons (pe_int) (pa_cons (pe_int) (pa_cons (pe_un un_neg (pe_int)) (pa_cons (pe_un un_neg (pe_int)) (pa_cons (pe_int) (pa_cons (pe_op op_pow (pe_int) (pe_int)) pa_nil))))))))))) (pg_name (i := 0) sc__law_promises_right.nd rfl (by first | exact Or.inl rfl | exact Or.inr rfl)) (pss_one (ps_if (pt_cmpR op_ne (pe_lamcall (T := [(PT, qL)]) (TT := TTno K C_NoMark C_NotApart) (Ng := ["_law_ask", "error", "_law_sorts"]) (k := 3) (by rfl) D__law_no_of.g D__law_no_of.kp lkN hcN D__law_no_of.b sc__law_no_of rfl (.inl rfl) (no_of_gives T E_MarkError E_NoMark E_NotApart YM YA m0 a0 m2 a1) TB rfl List.mem_cons_self (fun p hp _ => by rw [List.mem_singleton] at hp; rw [hp]; rfl) (hr.mono (by decide)) (lamS_by (show lamSB (defScope s__law_promises_right) _ = true from by decide +kernel)) rfl (fun _ _ _ _ _ => rfl) (fun A outer s H E f c' hr2 => pe_call (fnN G_number_of) (hr2.mono (by decide)) (by rfl) D_number_of.g D_number_of.kp D_number_of.b .nil (L2.passes_call (L2.takes_of rfl rfl rfl rfl) (fun _ _ _ _ h => h)) (pa_cons pe_int (pa_cons (pv 0) pa_nil)))) (pe_str) (nomark _)) (pss_one (ps_ret (pe_bl))) (pss_nil))))
      (pss_cut (ps_setLc (i := 1) (own := [("_law_total", 7)]) (g := gName 7) (tt := tYes) (by rfl) sc__law_promises_right.nd rfl rfl (sw_true rfl rfl rfl (by decide +kernel)) (pi_tup (pe_tup (pa_cons (pe_int) (pa_cons (pe_int) (pa_cons (pe_int) (pa_cons (pe_int) (pa_cons (pe_int) (pa_cons (pe_int) (pa_cons (pe_int) (pa_cons (pe_int) (pa_cons (pe_un un_neg (pe_int)) (pa_cons (pe_int) pa_nil)))))))))))) (blkOk_by (own := [("_law_total", 7)]) (N := ["_law_found", "_law_sums", "_law_cases", "_law_one", "_law_other", "_law_due", "_law_number_here", "_law_total", "_law_far", "_law_marks"]) (sc := defScope s__law_promises_right) (by decide +kernel)) (fun _ _ _ _ _ => pg_name (i := 7) sc__law_promises_right.nd rfl (by first | exact Or.inl rfl | exact Or.inr rfl)) (fun _ _ _ _ _ => pts_nil) (fun _ _ _ _ _ => pe_call G_two_of (hr.mono (by decide)) (by rfl) D_two_of.g D_two_of.kp D_two_of.b .nil passN (pa_cons (pe_int) (pa_cons (pv 7) pa_nil))))
      (pss_cons (ps_if (pt_cmpR (op_neDk (K := K) hr.units) (pv 1) (pe_lst (pa_cons (pe_tup (pa_cons (pe_int) (pa_cons (pe_int) pa_nil))) (pa_cons (pe_tup (pa_cons (pe_int) (pa_cons (pe_int) pa_nil))) (pa_cons (pe_tup (pa_cons (pe_int) (pa_cons (pe_int) pa_nil))) (pa_cons (pe_tup (pa_cons (pe_int) (pa_cons (pe_int) pa_nil))) (pa_cons (pe_tup (pa_cons (pe_int) (pa_cons (pe_int) pa_nil))) (pa_cons (pe_tup (pa_cons (pe_int) (pa_cons (pe_int) pa_nil))) (pa_cons (pe_non) (pa_cons (pe_non) (pa_cons (pe_non) (pa_cons (pe_non) pa_nil))))))))))) (nomark _)) (pss_one (ps_ret (pe_bl))) (pss_nil))
      (pss_cons (ps_if (pt_cmpR (op_neDk (K := K) hr.units) (pe_lc (own := [("_law_far", 8)]) (g := gName 8) (tt := tYes) (by rfl) sc__law_promises_right.nd (pi_tup (pe_tup (pa_cons (pe_int) (pa_cons (pe_int) (pa_cons (pe_int) (pa_cons (pe_int) (pa_cons (pe_int) (pa_cons (pe_int) pa_nil)))))))) (blkOk_by (own := [("_law_far", 8)]) (N := ["_law_found", "_law_sums", "_law_cases", "_law_one", "_law_other", "_law_due", "_law_number_here", "_law_total", "_law_far", "_law_marks"]) (sc := defScope s__law_promises_right) (by decide +kernel)) (fun _ _ _ _ _ => pg_name (i := 8) sc__law_promises_right.nd rfl (by first | exact Or.inl rfl | exact Or.inr rfl)) (fun _ _ _ _ _ => pts_nil) (fun _ _ _ _ _ => pe_call G_apart_by (hr.mono (by decide)) (by rfl) D_apart_by.g D_apart_by.kp D_apart_by.b .nil passN (pa_cons (pe_int) (pa_cons (pv 8) pa_nil)))) (pe_lst (pa_cons (pe_tup (pa_cons (pe_int) (pa_cons (pe_int) pa_nil))) (pa_cons (pe_tup (pa_cons (pe_int) (pa_cons (pe_int) pa_nil))) (pa_cons (pe_tup (pa_cons (pe_int) (pa_cons (pe_int) pa_nil))) (pa_cons (pe_non) (pa_cons (pe_non) (pa_cons (pe_non) pa_nil))))))) (nomark _)) (pss_one (ps_ret (pe_bl))) (pss_nil))
      (pss_cons (ps_if (pt_cmpR (op_neDk (K := K) hr.units) (pe_call G_two_of (hr.mono (by decide)) (by rfl) D_two_of.g D_two_of.kp D_two_of.b .nil passN (pa_cons (pe_int) (pa_cons (pe_int) pa_nil))) (pe_tup (pa_cons (pe_int) (pa_cons (pe_int) pa_nil))) (nomark _)) (pss_one (ps_ret (pe_bl))) (pss_nil))
      (pss_cons (ps_if (PW.pt (pw_or (pt_not (pt_val (pe_callB (call_isik (K := K)) (by rfl) T.b_isinstance (by decide +kernel) (pa_cons (pe_call G_told (hr.mono (by decide)) (by rfl) D_told.g D_told.kp D_told.b .nil passN (pa_cons (pe_lst pa_nil) pa_nil)) (pa_cons (pe_glob (v := .ref C_Apart) (by rfl) X_Apart.g rfl) pa_nil))))) (pw_or1 (pt_not (pt_val (pe_callB (call_isik (K := K)) (by rfl) T.b_isinstance (by decide +kernel) (pa_cons (pe_call G_told (hr.mono (by decide)) (by rfl) D_told.g D_told.kp D_told.b .nil passN (pa_cons (pe_lst (pa_cons (pe_un un_neg (pe_int)) pa_nil)) pa_nil)) (pa_cons (pe_glob (v := .ref C_Apart) (by rfl) X_Apart.g rfl) pa_nil)))))))) (pss_one (ps_ret (pe_bl))) (pss_nil))
      (pss_cons (ps_if (PW.pt (pw_or (pt_not (pt_val (pe_callB (call_isik (K := K)) (by rfl) T.b_isinstance (by decide +kernel) (pa_cons (pe_call G_told (hr.mono (by decide)) (by rfl) D_told.g D_told.kp D_told.b .nil passN (pa_cons (pe_lst (pa_cons (pe_int) (pa_cons (pe_int) (pa_cons (pe_int) pa_nil)))) pa_nil)) (pa_cons (pe_glob (v := .ref C_Same) (by rfl) X_Same.g rfl) pa_nil))))) (pw_or1 (pt_not (pt_val (pe_callB (call_isik (K := K)) (by rfl) T.b_isinstance (by decide +kernel) (pa_cons (pe_call G_told (hr.mono (by decide)) (by rfl) D_told.g D_told.kp D_told.b .nil passN (pa_cons (pe_lst (pa_cons (pe_int) (pa_cons (pe_int) (pa_cons (pe_int) pa_nil)))) pa_nil)) (pa_cons (pe_glob (v := .ref C_Apart) (by rfl) X_Apart.g rfl) pa_nil)))))))) (pss_one (ps_ret (pe_bl))) (pss_nil))
      (pss_cut (ps_set (i := 2) sc__law_promises_right.nd rfl (by first | exact Or.inl rfl | exact Or.inr rfl) (pe_lst (pa_cons (pe_tup (pa_cons (pe_tup (pa_cons (pe_int) (pa_cons (pe_int) pa_nil))) (pa_cons (pe_tup (pa_cons (pe_int) (pa_cons (pe_int) pa_nil))) (pa_cons (pe_bl) pa_nil)))) (pa_cons (pe_tup (pa_cons (pe_tup (pa_cons (pe_int) (pa_cons (pe_int) pa_nil))) (pa_cons (pe_tup (pa_cons (pe_int) (pa_cons (pe_int) pa_nil))) (pa_cons (pe_bl) pa_nil)))) (pa_cons (pe_tup (pa_cons (pe_tup (pa_cons (pe_int) (pa_cons (pe_int) pa_nil))) (pa_cons (pe_tup (pa_cons (pe_int) (pa_cons (pe_int) pa_nil))) (pa_cons (pe_bl) pa_nil)))) pa_nil)))))
      (pss_cut (ps_set (i := 2) sc__law_promises_right.nd rfl (by first | exact Or.inl rfl | exact Or.inr rfl) (pe_op op_cat (pv 2) (pe_lst (pa_cons (pe_tup (pa_cons (pe_tup (pa_cons (pe_int) (pa_cons (pe_int) pa_nil))) (pa_cons (pe_tup (pa_cons (pe_int) (pa_cons (pe_int) pa_nil))) (pa_cons (pe_bl) pa_nil)))) (pa_cons (pe_tup (pa_cons (pe_tup (pa_cons (pe_int) pa_nil)) (pa_cons (pe_tup (pa_cons (pe_int) (pa_cons (pe_int) pa_nil))) (pa_cons (pe_bl) pa_nil)))) (pa_cons (pe_tup (pa_cons (pe_tup (pa_cons (pe_int) (pa_cons (pe_int) pa_nil))) (pa_cons (pe_tup (pa_cons (pe_int) (pa_cons (pe_int) pa_nil))) (pa_cons (pe_bl) pa_nil)))) pa_nil))))))
      (pss_cut (ps_set (i := 2) sc__law_promises_right.nd rfl (by first | exact Or.inl rfl | exact Or.inr rfl) (pe_op op_cat (pv 2) (pe_lst (pa_cons (pe_tup (pa_cons (pe_tup (pa_cons (pe_int) (pa_cons (pe_int) pa_nil))) (pa_cons (pe_tup (pa_cons (pe_int) (pa_cons (pe_int) pa_nil))) (pa_cons (pe_bl) pa_nil)))) (pa_cons (pe_tup (pa_cons (pe_tup pa_nil) (pa_cons (pe_tup pa_nil) (pa_cons (pe_bl) pa_nil)))) (pa_cons (pe_tup (pa_cons (pe_tup (pa_cons (pe_un un_neg (pe_int)) (pa_cons (pe_int) pa_nil))) (pa_cons (pe_tup (pa_cons (pe_int) (pa_cons (pe_int) pa_nil))) (pa_cons (pe_bl) pa_nil)))) pa_nil))))))
      (pss_cut (ps_for PassesOwn.never rfl (pi_list (pv 2)) (pg_tup rfl (pgs_cons (pg_name (i := 3) sc__law_promises_right.nd rfl (by first | exact Or.inl rfl | exact Or.inr rfl)) (pgs_cons (pg_name (i := 4) sc__law_promises_right.nd rfl (by first | exact Or.inl rfl | exact Or.inr rfl)) (pgs_cons (pg_name (i := 5) sc__law_promises_right.nd rfl (by first | exact Or.inl rfl | exact Or.inr rfl)) pgs_nil)))) (pss_one (ps_if (pt_cmpR op_ne (pe_meth (pe_make M_Same G_Same_init (hr.mono (by decide)) (by rfl) X_Same.g D_Same_init.b .nil pass0 (pa_cons (pv 3) (pa_cons (pv 4) pa_nil))) X_Same.cl D_Same_shows.m G_Same_shows (hr.mono (by decide)) D_Same_shows.b .nil pass0 (pa_cons (pe_lst (pa_cons (pe_int) (pa_cons (pe_int) (pa_cons (pe_int) pa_nil)))) pa_nil)) (pv 5) (nomark _)) (pss_one (ps_ret (pe_bl))) (pss_nil))))
      (pss_cons (ps_if (pt_cmpR (op_neDk (K := K) hr.units) (pe_lc (own := [("_law_marks", 9)]) (g := gName 9) (tt := tYes) (by rfl) sc__law_promises_right.nd (pi_tup (pe_tup (pa_cons (pe_lst pa_nil) (pa_cons (pe_lst (pa_cons (pe_int) pa_nil)) (pa_cons (pe_lst (pa_cons (pe_int) (pa_cons (pe_int) pa_nil))) (pa_cons (pe_lst (pa_cons (pe_un un_neg (pe_op op_pow (pe_int) (pe_int))) pa_nil)) (pa_cons (pe_lst (pa_cons (pe_int) (pa_cons (pe_int) (pa_cons (pe_int) pa_nil)))) pa_nil))))))) (blkOk_by (own := [("_law_marks", 9)]) (N := ["_law_found", "_law_sums", "_law_cases", "_law_one", "_law_other", "_law_due", "_law_number_here", "_law_total", "_law_far", "_law_marks"]) (sc := defScope s__law_promises_right) (by decide +kernel)) (fun _ _ _ _ _ => pg_name (i := 9) sc__law_promises_right.nd rfl (by first | exact Or.inl rfl | exact Or.inr rfl)) (fun _ _ _ _ _ => pts_nil) (fun _ _ _ _ _ => pe_call G_behind (hr.mono (by decide)) (by rfl) D_behind.g D_behind.kp D_behind.b .nil passN (pa_cons (pv 9) pa_nil))) (pe_lst (pa_cons (pe_int) (pa_cons (pe_int) (pa_cons (pe_int) (pa_cons (pe_op op_sub (pe_int) (pe_op op_pow (pe_int) (pe_int))) (pa_cons (pe_int) pa_nil)))))) (nomark _)) (pss_one (ps_ret (pe_bl))) (pss_nil))
      (pss_cons (ps_if (pt_not (pt_cmpR op_eq (pe_lamcall (T := [(PT, qL)]) (TT := TTno K C_NoMark C_NotApart) (Ng := ["_law_ask", "error", "_law_sorts"]) (k := 3) (by rfl) D__law_no_of.g D__law_no_of.kp lkN hcN D__law_no_of.b sc__law_no_of rfl (.inl rfl) (no_of_gives T E_MarkError E_NoMark E_NotApart YM YA m0 a0 m2 a1) TB rfl List.mem_cons_self (fun p hp _ => by rw [List.mem_singleton] at hp; rw [hp]; rfl) (hr.mono (by decide)) (lamS_by (show lamSB (defScope s__law_promises_right) _ = true from by decide +kernel)) rfl (fun _ _ _ _ _ => rfl) (fun A outer s H E f c' hr2 => pe_call (fnN G_behind) (hr2.mono (by decide)) (by rfl) D_behind.g D_behind.kp D_behind.b .nil (L2.passes_call (L2.takes_of rfl rfl rfl rfl) (fun _ _ _ _ h => h)) (pa_cons (pe_lst (pa_cons pe_int (pa_cons pe_int (pa_cons pe_int pa_nil)))) pa_nil))) (pe_str) (nomark _))) (pss_one (ps_ret (pe_bl))) (pss_nil))
      (pss_cons (ps_if (pt_not (pt_not (pt_val (pe_meth (pe_made M_Apart (by rfl) X_Apart.g) X_Apart.cl D_Apart_shows.m G_Apart_shows (hr.mono (by decide)) D_Apart_shows.b .nil pass0 (pa_cons (pe_lst (pa_cons (pe_int) (pa_cons (pe_int) (pa_cons (pe_int) pa_nil)))) pa_nil))))) (pss_one (ps_ret (pe_bl))) (pss_nil))
      (pss_cons (ps_if (pt_not (pt_val (pe_meth (pe_made M_Apart (by rfl) X_Apart.g) X_Apart.cl D_Apart_shows.m G_Apart_shows (hr.mono (by decide)) D_Apart_shows.b .nil pass0 (pa_cons (pe_lst pa_nil) pa_nil)))) (pss_one (ps_ret (pe_bl))) (pss_nil))
      (pss_one (ps_ret (pe_meth (pe_made M_Apart (by rfl) X_Apart.g) X_Apart.cl D_Apart_shows.m G_Apart_shows (hr.mono (by decide)) D_Apart_shows.b .nil pass0 (pa_cons (pe_lst (pa_cons (pe_int) (pa_cons (pe_int) (pa_cons (pe_int) pa_nil)))) pa_nil))))))))))))))))))))), ?_⟩
    walk_at "rd"
    refine lc_mapR (fun i => .int (NT.mk 3 i)) (fun _ => rfl) (by decide) (fun i H' hi s Q' k => ?_) (fun D1 H1 _ s1 e1 => ?_)
    · walk_at "rd"
      rw [Int.zero_add]
      exact mark_call ok3 (by omega) (by omega) (k _ (Same.refl _))
    refine ⟨by decide, fun p1 n1 => neD_ints [0, 7, 13] (same_new n1 _ _ e1) upd_same ⟨false, rfl, iteF ?_⟩⟩
    have t1 := s1.trans (same_new (o := .lst [V.int 0, V.int 7, V.int 13]) n1)
    refine lc_mapR (fun i => .int (NT.mk 5 i)) (fun _ => rfl) (by decide) (fun i H' hi s Q' k => ?_) (fun D2 H2 _ s2 e2 => ?_)
    · walk_at "rd"
      rw [Int.zero_add]
      exact mark_call ok5 (by omega) (by omega) (k _ (Same.refl _))
    refine ⟨by decide, fun p2 n2 => neD_ints [0, 11, 24, 34, 41] (same_new n2 _ _ e2) upd_same ⟨false, rfl, iteF ⟨by decide, fun p3 n3 => ⟨⟨_, sqt_of upd_same⟩, ?_⟩⟩⟩⟩
    have t2 := t1.trans (s2.trans (same_new (o := .lst [V.int 0, V.int 11, V.int 24, V.int 34, V.int 41]) n2))
    have t3 := t2.trans (same_new (o := .tup [V.int 0, V.int 7, V.int 13]) n3)
    refine lc_mapT (xs := [V.int 0, V.int 7, V.int 13]) (fun i => .int (i : Int)) (fun _ => rfl) upd_same (by show 3 ≤ 1000000; decide) (fun i x H' hi s Q' k => ?_) (fun D3 H3 _ s3 e3 => ?_)
    · walk_at "rd"
      match i, hi with
      | 0, hi => cases hi; exact number_mk (n := 0) ok3 (by decide) (by decide) (k _ (Same.refl _))
      | 1, hi => cases hi; exact number_mk (n := 1) ok3 (by decide) (by decide) (k _ (Same.refl _))
      | 2, hi => cases hi; exact number_mk (n := 2) ok3 (by decide) (by decide) (k _ (Same.refl _))
      | n + 3, hi => simp at hi
    refine ⟨by decide, fun p4 n4 => neD_ints [0, 1, 2] (same_new n4 _ _ e3) upd_same ⟨false, rfl, iteF ⟨mulB_small (by decide) (by decide), mulB_small (by decide) (by decide), ?_⟩⟩⟩
    have t4 := t3.trans (s3.trans (same_new (o := .lst [V.int 0, V.int 1, V.int 2]) n4))
    have p9 : okP (.int 999983) = true := by
      show (decide ((3 : Int) ≤ 999983) && (decide ((999983 : Int) ≤ 1000000) && isP 999983)) = true
      rw [big_prime]
      rfl
    rw [show (2 * 999983 * 5 + 25 : Int) = NT.mk 999983 5 by decide +kernel]
    refine number_mk p9 (by decide) (by decide) ⟨rfl, ?_⟩
    rw [decide_eq_true rfl]
    refine ⟨false, rfl, iteF ?_⟩
    obtain ⟨H4, e4⟩ : ∃ t, t = upd H3 p4 (.lst [V.int 0, V.int 1, V.int 2]) := ⟨_, rfl⟩
    rw [← e4] at t4 ⊢
    have T4 : Tabs [(PT, qL)] H4 := hT.ext t4
    have x4 : ExtN H H4 := extN_of t4
    clear e4 t1 t2 t3 s3 n4 e3 n3 s2 n2 e2 s1 n1 e1
    refine ⟨fun σ H' => ExtN H H' ∧ Tabs [(PT, qL)] H' ∧ ∃ y0, σ = [y0, none, none, none, none, none, none, none, none, none], ?_, ?_⟩
    · walk_at "rd"
      refine ⟨⟨by decide, by decide, by decide⟩, by decide, fun lo no => ⟨⟨_, sq_of upd_same⟩, ?_⟩⟩
      have so := same_new (o := .lst [V.int 1, V.int 6, V.int 8, V.int 12, V.int 14, V.int (-1), V.int (-7), V.int 19, V.int (10 ^ Int.toNat 30)]) no
      refine for_list (K := K) (a := lo) (xs := [V.int 1, V.int 6, V.int 8, V.int 12, V.int 14, V.int (-1), V.int (-7), V.int 19, V.int (10 ^ Int.toNat 30)]) (fun i σ H' => ExtN (upd H4 lo (.lst [V.int 1, V.int 6, V.int 8, V.int 12, V.int 14, V.int (-1), V.int (-7), V.int 19, V.int (10 ^ Int.toNat 30)])) H' ∧ Tabs [(PT, qL)] H' ∧ ∃ y0, σ = [y0, none, none, none, none, none, none, none, none, none])
        ⟨ExtN.refl _, T4.ext so, _, rfl⟩ (fun i σ H' _ ⟨s, _⟩ => sq_of (extN_lst s upd_same)) ?_ (fun σ H' ⟨s, t, e⟩ => ⟨x4.trans ((extN_of so).trans s), t, e⟩)
      rintro i x σ H5 hi ⟨x5, T5, y0, rfl⟩
      obtain ⟨z, rfl, hz⟩ : ∃ z, x = .int z ∧ ∀ n, 0 ≤ n → n < 3 → NT.mk 3 n ≠ z := by
        have no : ∀ z : Int, z ≠ 0 ∧ z ≠ 7 ∧ z ≠ 13 → ∀ n, 0 ≤ n → n < 3 → NT.mk 3 n ≠ z := fun z ⟨a, b, c⟩ n h0 h1 e => by
          rw [mk3 h0 h1] at e
          split at e
          · exact a e.symm
          · split at e
            · exact b e.symm
            · exact c e.symm
        match i, hi with
        | 0, hi => cases hi; exact ⟨_, rfl, no _ (by decide)⟩
        | 1, hi => cases hi; exact ⟨_, rfl, no _ (by decide)⟩
        | 2, hi => cases hi; exact ⟨_, rfl, no _ (by decide)⟩
        | 3, hi => cases hi; exact ⟨_, rfl, no _ (by decide)⟩
        | 4, hi => cases hi; exact ⟨_, rfl, no _ (by decide)⟩
        | 5, hi => cases hi; exact ⟨_, rfl, no _ (by decide)⟩
        | 6, hi => cases hi; exact ⟨_, rfl, no _ (by decide)⟩
        | 7, hi => cases hi; exact ⟨_, rfl, no _ (by decide)⟩
        | 8, hi => cases hi; exact ⟨_, rfl, no _ (by decide)⟩
        | n + 9, hi => simp at hi
      walk_at "rd"
      refine ⟨T5, fun H6 x6 T6 => ⟨_, rfl, ?_⟩⟩
      walk_at "rd"
      refine number_call ok3 (fun n h0 h1 e => absurd e (hz n h0 h1)) fun _ => ⟨true, rfl, rfl, fun H7 s7 => ⟨rfl, ?_⟩⟩
      rw [decide_eq_true (show V.str (if (true : Bool) = true then Str.ofString "mark" else Str.ofString "apart") = V.str (Str.ofString "mark") from rfl)]
      exact ⟨false, rfl, iteF ⟨x5.trans (x6.trans (extN_of s7)), T6.ext s7, _, rfl⟩⟩
    rintro σ H5 ⟨x5, T5, y0, rfl⟩
    obtain ⟨sums, esums⟩ : ∃ sums : List (Option (Int × Int)), sums = [some (0, 0), some (0, 1), some (0, 2), some (1, 1), some (1, 2), some (2, 2), none, none, none, none] := ⟨_, rfl⟩
    refine ⟨fun σ H' => Same H5 H' ∧ ∃ (l : Addr) (ys : List V), σ = [y0, some (.ref l), none, none, none, none, none, none, none, none] ∧ H' l = some (.lst ys) ∧ ys.length = 10 ∧ ∀ (i : Nat) (y : V), ys[i]? = some y → ∃ o, sums[i]? = some o ∧ RP o y H', ?_, ?_⟩
    · walk_at "rd"
      refine ⟨by decide, fun pt npt => ⟨⟨_, sqt_of upd_same⟩, ?_⟩⟩
      refine lc_relT (xs := [V.int 0, V.int 7, V.int 13, V.int 14, V.int 20, V.int 26, V.int 1, V.int 21, V.int (-7), V.int 27]) (fun i y H => ∃ o, sums[i]? = some o ∧ RP o y H) (fun i y H H' s ⟨o, e, r⟩ => ⟨o, e, r.stay s⟩) (fun _ => rfl) upd_same (by show 10 ≤ 1000000; decide) (fun i x H' hi s Q' k => ?_) (fun D H' ys _ s e l r => ⟨(same_new npt).trans s, D, ys, rfl, e, l, r⟩)
      rw [esums] at k
      walk_at "rd"
      match i, hi with
      | 0, hi => cases hi; exact two3 (B.small (by decide)) fun y H2 s2 r => k y H2 s2 ⟨_, rfl, r⟩
      | 1, hi => cases hi; exact two3 (B.small (by decide)) fun y H2 s2 r => k y H2 s2 ⟨_, rfl, r⟩
      | 2, hi => cases hi; exact two3 (B.small (by decide)) fun y H2 s2 r => k y H2 s2 ⟨_, rfl, r⟩
      | 3, hi => cases hi; exact two3 (B.small (by decide)) fun y H2 s2 r => k y H2 s2 ⟨_, rfl, r⟩
      | 4, hi => cases hi; exact two3 (B.small (by decide)) fun y H2 s2 r => k y H2 s2 ⟨_, rfl, r⟩
      | 5, hi => cases hi; exact two3 (B.small (by decide)) fun y H2 s2 r => k y H2 s2 ⟨_, rfl, r⟩
      | 6, hi => cases hi; exact two3 (B.small (by decide)) fun y H2 s2 r => k y H2 s2 ⟨_, rfl, r⟩
      | 7, hi => cases hi; exact two3 (B.small (by decide)) fun y H2 s2 r => k y H2 s2 ⟨_, rfl, r⟩
      | 8, hi => cases hi; exact two3 (B.small (by decide)) fun y H2 s2 r => k y H2 s2 ⟨_, rfl, r⟩
      | 9, hi => cases hi; exact two3 (B.small (by decide)) fun y H2 s2 r => k y H2 s2 ⟨_, rfl, r⟩
      | n + 10, hi => simp at hi
    rintro σ H6 ⟨s6, lsum, ys, rfl, e6, hl6, r6⟩
    walk_at "rd"
    refine ⟨by decide, fun q1 n1 => ⟨by decide, fun q2 n2 => ⟨by decide, fun q3 n3 => ⟨by decide, fun q4 n4 => ⟨by decide, fun q5 n5 => ⟨by decide, fun q6 n6 => ⟨by decide, fun lq nq => ?_⟩⟩⟩⟩⟩⟩⟩
    refine neD_same (d := .list (sums.map dO)) (dp_os (by walk_at "kp"; exact e6) (by rw [hl6, esums]; rfl) (fun i y h => let ⟨o, e, r⟩ := r6 i y h; ⟨o, e, r.stay (TupsStay.of (by walk_at "sm"))⟩)) (.lst (sq_of upd_same) (by rw [esums]; exact (RPs.pair (by walk_at "kp") (.pair (by walk_at "kp") (.pair (by walk_at "kp") (.pair (by walk_at "kp") (.pair (by walk_at "kp") (.pair (by walk_at "kp") (.non (.non (.non (.non .nil)))))))))).dpAll)) (shaped_os sums) (eqv_os sums) ⟨false, rfl, iteF ?_⟩
    have s7 := s6.trans (show Same H6 _ from Same.trans (Same.trans (Same.trans (Same.trans (Same.trans (Same.trans (same_new (o := .tup [V.int 0, V.int 0]) n1) (same_new (o := .tup [V.int 0, V.int 1]) n2)) (same_new (o := .tup [V.int 0, V.int 2]) n3)) (same_new (o := .tup [V.int 1, V.int 1]) n4)) (same_new (o := .tup [V.int 1, V.int 2]) n5)) (same_new (o := .tup [V.int 2, V.int 2]) n6)) (same_new (o := .lst [V.ref q1, V.ref q2, V.ref q3, V.ref q4, V.ref q5, V.ref q6, V.non, V.non, V.non, V.non]) nq))
    obtain ⟨H7, e7⟩ : ∃ t, t = upd (upd (upd (upd (upd (upd (upd H6 q1 (.tup [V.int 0, V.int 0])) q2 (.tup [V.int 0, V.int 1])) q3 (.tup [V.int 0, V.int 2])) q4 (.tup [V.int 1, V.int 1])) q5 (.tup [V.int 1, V.int 2])) q6 (.tup [V.int 2, V.int 2])) lq (.lst [V.ref q1, V.ref q2, V.ref q3, V.ref q4, V.ref q5, V.ref q6, V.non, V.non, V.non, V.non]) := ⟨_, rfl⟩
    rw [← e7] at s7 ⊢
    clear e7 nq n6 n5 n4 n3 n2 n1 r6 e6 s6 hl6
    obtain ⟨difs, edifs⟩ : ∃ difs : List (Option (Int × Int)), difs = [some (1, 2), some (0, 1), some (0, 2), none, none, none] := ⟨_, rfl⟩
    refine ⟨by decide, fun pt npt => ⟨⟨_, sqt_of upd_same⟩, ?_⟩⟩
    refine lc_relT (xs := [V.int 6, V.int 7, V.int 13, V.int 1, V.int 12, V.int 14]) (fun i y H => ∃ o, difs[i]? = some o ∧ RP o y H) (fun i y H H' s ⟨o, e, r⟩ => ⟨o, e, r.stay s⟩) (fun _ => rfl) upd_same (by show 6 ≤ 1000000; decide) (fun i x H' hi s Q' k => ?_) (fun D8 H8 ys _ s8 e8 hl8 r8 => ?_)
    · rw [edifs] at k
      walk_at "rd"
      match i, hi with
      | 0, hi => cases hi; exact apart3 (by decide) (B.small (by decide)) fun y H2 s2 r => k y H2 s2 ⟨_, rfl, r⟩
      | 1, hi => cases hi; exact apart3 (by decide) (B.small (by decide)) fun y H2 s2 r => k y H2 s2 ⟨_, rfl, r⟩
      | 2, hi => cases hi; exact apart3 (by decide) (B.small (by decide)) fun y H2 s2 r => k y H2 s2 ⟨_, rfl, r⟩
      | 3, hi => cases hi; exact apart3 (by decide) (B.small (by decide)) fun y H2 s2 r => k y H2 s2 ⟨_, rfl, r⟩
      | 4, hi => cases hi; exact apart3 (by decide) (B.small (by decide)) fun y H2 s2 r => k y H2 s2 ⟨_, rfl, r⟩
      | 5, hi => cases hi; exact apart3 (by decide) (B.small (by decide)) fun y H2 s2 r => k y H2 s2 ⟨_, rfl, r⟩
      | n + 6, hi => simp at hi
    have s78 := s7.trans ((same_new (o := .tup [V.int 6, V.int 7, V.int 13, V.int 1, V.int 12, V.int 14]) npt).trans s8)
    refine ⟨by decide, fun q1 n1 => ⟨by decide, fun q2 n2 => ⟨by decide, fun q3 n3 => ⟨by decide, fun lq nq => ?_⟩⟩⟩⟩
    refine neD_same (d := .list (difs.map dO)) (dp_os (by walk_at "kp"; exact e8) (by rw [hl8, edifs]; rfl) (fun i y h => let ⟨o, e, r⟩ := r8 i y h; ⟨o, e, r.stay (TupsStay.of (by walk_at "sm"))⟩)) (.lst (sq_of upd_same) (by rw [edifs]; exact (RPs.pair (by walk_at "kp") (.pair (by walk_at "kp") (.pair (by walk_at "kp") (.non (.non (.non .nil)))))).dpAll)) (shaped_os difs) (eqv_os difs) ⟨false, rfl, iteF ?_⟩
    have s9 := s78.trans (Same.trans (Same.trans (Same.trans (same_new (o := .tup [V.int 1, V.int 2]) n1) (same_new (o := .tup [V.int 0, V.int 1]) n2)) (same_new (o := .tup [V.int 0, V.int 2]) n3)) (same_new (o := .lst [V.ref q1, V.ref q2, V.ref q3, V.non, V.non, V.non]) nq))
    obtain ⟨H9, e9⟩ : ∃ t, t = upd (upd (upd (upd H8 q1 (.tup [V.int 1, V.int 2])) q2 (.tup [V.int 0, V.int 1])) q3 (.tup [V.int 0, V.int 2])) lq (.lst [V.ref q1, V.ref q2, V.ref q3, V.non, V.non, V.non]) := ⟨_, rfl⟩
    rw [← e9] at s9 ⊢
    clear e9 nq n3 n2 n1 r8 e8 hl8 s8 s78 npt s7
    -- two_of(5, 35)
    obtain ⟨_, e5, _, _, pp5⟩ := okP_int ok5
    cases e5
    have r5 : NT.PairS 5 35 1 2 := ⟨by decide, by decide, by decide, by decide⟩
    refine two_call ok5 (B.mono (m := 62) (B.small (by decide)) (by decide)) ⟨fun a b r H10 q1 s10 nq1 eq1 => ⟨by decide, fun p np => ?_⟩, fun z => absurd r5 (z 1 2)⟩
    obtain ⟨rfl, rfl⟩ := NT.pairS_one pp5 (by decide) r r5
    have mp := same_new (o := .tup [V.int 1, V.int 2]) np
    refine neD_same (dp_tup (ns := [1, 2]) (sqt_of (mp _ _ eq1))) (dp_tup (ns := [1, 2]) (sqt_of upd_same)) (shaped_tup _) (by rw [eqv_tups, decide_eq_true rfl]) ⟨false, rfl, iteF ?_⟩
    have s10' := s9.trans (s10.trans mp)
    clear s9 s10 nq1 eq1 mp
    obtain ⟨H11, e11⟩ : ∃ t, t = upd H10 p (.tup [V.int 1, V.int 2]) := ⟨_, rfl⟩
    rw [← e11] at s10' ⊢
    clear e11 np
    -- told
    refine ⟨by decide, fun l1 n1 => told_apart X_Apart (ms := []) upd_same (by decide) (by decide) (by decide) fun H12 s12 => ⟨true, rfl, iteT ⟨by decide, fun l2 n2 => told_apart X_Apart (ms := [-5]) upd_same (by decide) (by decide) (by decide) fun H13 s13 => ⟨true, rfl, iteT ⟨by decide, fun l3 n3 => told_same X_Same (ms := [2, 4, 6]) upd_same (by decide) (by decide) (by decide) fun H14 s14 => ⟨true, rfl, iteT ⟨by decide, fun l4 n4 => told_apart X_Apart (ms := [0, 7, 13]) upd_same (by decide) (by decide) (by decide) fun H15 s15 => ⟨true, rfl, iteT ?_⟩⟩⟩⟩⟩⟩⟩⟩
    have s16 : Same H5 H15 := s10'.trans ((same_new (o := .lst []) n1).trans (s12.trans ((same_new (o := .lst [V.int (-5)]) n2).trans (s13.trans ((same_new (o := .lst [V.int 2, V.int 4, V.int 6]) n3).trans (s14.trans ((same_new (o := .lst [V.int 0, V.int 7, V.int 13]) n4).trans s15)))))))
    clear s15 n4 s14 n3 s13 n2 s12 n1 s10'
    refine ⟨fun σ H' => Same H15 H' ∧ ∃ (l : Addr) (xs : List V) (L : List (List Int × List Int × Bool)), σ = [y0, some (.ref lsum), some (.ref l), none, none, none, none, none, none, none] ∧ H' l = some (.lst xs) ∧ IPB L xs H' ∧ L.length ≤ 3 ∧ ∀ t ∈ L, goodB [1, 2, 3] t.1 t.2.1 = t.2.2, ?_, ?_⟩
    · refine asg_pb (σ := [y0, some (.ref lsum), none, none, none, none, none, none, none, none]) (pb_cons (et_tup (is_cons eh_c (is_cons eh_c is_nil)) (Nat.le_of_ble_eq_true rfl)) (et_tup (is_cons eh_c (is_cons eh_c is_nil)) (Nat.le_of_ble_eq_true rfl)) (pb_cons (et_tup (is_cons eh_c (is_cons eh_c is_nil)) (Nat.le_of_ble_eq_true rfl)) (et_tup (is_cons eh_c (is_cons eh_c is_nil)) (Nat.le_of_ble_eq_true rfl)) (pb_cons (et_tup (is_cons eh_c (is_cons eh_c is_nil)) (Nat.le_of_ble_eq_true rfl)) (et_tup (is_cons eh_c (is_cons eh_c is_nil)) (Nat.le_of_ble_eq_true rfl)) pb_nil))) (by show 3 ≤ 1000; decide) fun l xs H' s n e i => ⟨s, l, xs, _, rfl, e, i, by show 3 ≤ 3; decide, by decide⟩
    rintro σ H16 ⟨s17, lc, xs1, L1, rfl, ec1, i1, ll1, g1⟩
    refine ⟨fun σ H' => Same H15 H' ∧ ∃ (l : Addr) (xs : List V) (L : List (List Int × List Int × Bool)), σ = [y0, some (.ref lsum), some (.ref l), none, none, none, none, none, none, none] ∧ H' l = some (.lst xs) ∧ IPB L xs H' ∧ L.length ≤ 6 ∧ ∀ t ∈ L, goodB [1, 2, 3] t.1 t.2.1 = t.2.2, ?_, ?_⟩
    · refine cat_pb (eh_var rfl) ec1 i1 (pb_cons (et_tup (is_cons eh_c (is_cons eh_c is_nil)) (Nat.le_of_ble_eq_true rfl)) (et_tup (is_cons eh_c (is_cons eh_c is_nil)) (Nat.le_of_ble_eq_true rfl)) (pb_cons (et_tup (is_cons eh_c is_nil) (Nat.le_of_ble_eq_true rfl)) (et_tup (is_cons eh_c (is_cons eh_c is_nil)) (Nat.le_of_ble_eq_true rfl)) (pb_cons (et_tup (is_cons eh_c (is_cons eh_c is_nil)) (Nat.le_of_ble_eq_true rfl)) (et_tup (is_cons eh_c (is_cons eh_c is_nil)) (Nat.le_of_ble_eq_true rfl)) pb_nil))) (by show L1.length + 3 ≤ 1000; omega) fun l xs H' s n e i => ⟨s17.trans s, l, xs, _, rfl, e, i, by rw [List.length_append]; show L1.length + 3 ≤ 6; omega, fun t ht => (List.mem_append.mp ht).elim (g1 t) (fun h => (by decide : ∀ t ∈ [(([0, 2] : List Int), ([0, 2] : List Int), false), ([0], [1, 1], false), ([0, 1], [1, 1], false)], goodB [1, 2, 3] t.1 t.2.1 = t.2.2) t h)⟩
    rintro σ H17 ⟨s18, lc2, xs2, L2, rfl, ec2, i2, ll2, g2⟩
    refine ⟨fun σ H' => Same H15 H' ∧ ∃ (l : Addr) (xs : List V) (L : List (List Int × List Int × Bool)), σ = [y0, some (.ref lsum), some (.ref l), none, none, none, none, none, none, none] ∧ H' l = some (.lst xs) ∧ IPB L xs H' ∧ ∀ t ∈ L, goodB [1, 2, 3] t.1 t.2.1 = t.2.2, ?_, ?_⟩
    · refine cat_pb (eh_var rfl) ec2 i2 (pb_cons (et_tup (is_cons eh_c (is_cons eh_c is_nil)) (Nat.le_of_ble_eq_true rfl)) (et_tup (is_cons eh_c (is_cons eh_c is_nil)) (Nat.le_of_ble_eq_true rfl)) (pb_cons (et_tup is_nil (Nat.le_of_ble_eq_true rfl)) (et_tup is_nil (Nat.le_of_ble_eq_true rfl)) (pb_cons (et_tup (is_cons (eh_U eh_c) (is_cons eh_c is_nil)) (Nat.le_of_ble_eq_true rfl)) (et_tup (is_cons eh_c (is_cons eh_c is_nil)) (Nat.le_of_ble_eq_true rfl)) pb_nil))) (by show L2.length + 3 ≤ 1000; omega) fun l xs H' s n e i => ⟨s18.trans s, l, xs, _, rfl, e, i, fun t ht => (List.mem_append.mp ht).elim (g2 t) (fun h => (by decide : ∀ t ∈ [(([0, 2] : List Int), ([1, 3] : List Int), false), ([], [], false), ([-1, 2], [1, 1], false)], goodB [1, 2, 3] t.1 t.2.1 = t.2.2) t h)⟩
    rintro σ H18 ⟨s19, lc3, xs3, L3, rfl, ec3, i3, g3⟩
    clear ec2 i2 s18 ec1 i1 s17
    refine ⟨fun σ H' => Same H18 H' ∧ ∃ y3 y4 y5, σ = [y0, some (.ref lsum), some (.ref lc3), y3, y4, y5, none, none, none, none], ?_, ?_⟩
    · walk_at "rd"
      refine ⟨⟨_, sq_of ec3⟩, for_list (K := K) (a := lc3) (xs := xs3) (fun i σ H' => Same H18 H' ∧ ∃ y3 y4 y5, σ = [y0, some (.ref lsum), some (.ref lc3), y3, y4, y5, none, none, none, none])
        ⟨Same.refl _, _, _, _, rfl⟩ (fun i σ H' _ ⟨s, _⟩ => sq_of (s _ _ ec3)) ?_ (fun σ H' h => h)⟩
      rintro i x σ H19 hi ⟨s20, y3, y4, y5, rfl⟩
      obtain ⟨a, b, c', p, q1, q2, hm, rfl, hp, h1, h2⟩ := (i3.mono s20).at hi
      have hg := g3 _ hm
      dsimp only at hg
      refine ⟨p, _, rfl, sqt_of hp, rfl, _, _, rfl, _, _, rfl, _, _, rfl, rfl, ?_⟩
      walk_at "rd"
      refine make_same fun x dx H20 nx s21 ex => ⟨x, dx, _, rfl, ex, rfl, by decide, fun l5 n5 => ?_⟩
      have m5 := same_new (o := .lst [V.int 1, V.int 2, V.int 3]) n5
      refine ⟨x, dx, q1, q2, l5, a, b, [1, 2, 3], rfl, m5 _ _ ex, m5 _ _ (s21 _ _ h1), m5 _ _ (s21 _ _ h2), sq_of upd_same, fun H21 s22 => ⟨rfl, ?_⟩⟩
      rw [hg, decide_eq_true (show V.bl c' = V.bl c' from rfl)]
      exact ⟨false, rfl, iteF ⟨s20.trans (s21.trans (m5.trans s22)), _, _, _, rfl⟩⟩
    rintro σ H19 ⟨s20, y3, y4, y5, rfl⟩
    have s21 : Same H5 H19 := s16.trans (s19.trans s20)
    clear s20 s19 ec3 i3
    walk_at "rd"
    refine ⟨Nat.zero_le _, fun k0 n0 => ⟨by decide, fun k1 n1 => ⟨by decide, fun k2 n2 => ⟨⟨by decide, by decide, by decide⟩, by decide, fun k3 n3 => ⟨by decide, fun k4 n4 => ⟨by decide, fun k5 n5 => ⟨⟨_, sqt_of upd_same⟩, ?_⟩⟩⟩⟩⟩⟩⟩
    obtain ⟨ex, eex⟩ : ∃ ex : List Int, ex = [0, 6, 4, 1 - 10 ^ Int.toNat 30, 7] := ⟨_, rfl⟩
    refine lc_mapT (xs := [V.ref k0, V.ref k1, V.ref k2, V.ref k3, V.ref k4]) (fun i => .int (ex.getD i 0)) (fun _ => rfl) upd_same (by show 5 ≤ 1000000; decide) (fun i x H' hi s Q' k => ?_) (fun D20 H20 _ s22 e20 => ?_)
    · obtain ⟨lk', ms, rfl, hk, hl, hp, sd, hn⟩ : ∃ (lk' : Addr) (ms : List Int), x = .ref lk' ∧ H' lk' = some (.lst (ms.map V.int)) ∧ ms.length ≤ 40 ∧ ms.Pairwise (· < ·) ∧ SD.Sid ms ∧ BH.Next ms (ex.getD i 0) := by
        rw [eex]
        match i, hi with
        | 0, hi => cases hi; exact ⟨k0, [], rfl, s _ _ (by walk_at "kp"), by decide, by decide, by decide, BH.next_of (by decide +kernel)⟩
        | 1, hi => cases hi; exact ⟨k1, [5], rfl, s _ _ (by walk_at "kp"), by decide, by decide, by decide, BH.next_of (by decide +kernel)⟩
        | 2, hi => cases hi; exact ⟨k2, [1, 2], rfl, s _ _ (by walk_at "kp"), by decide, by decide, by decide, BH.next_of (by decide +kernel)⟩
        | 3, hi => cases hi; exact ⟨k3, [-10 ^ Int.toNat 30], rfl, s _ _ (by walk_at "kp"), by decide, by simp, by decide +kernel, BH.next_of (by decide +kernel)⟩
        | 4, hi => cases hi; exact ⟨k4, [0, 1, 3], rfl, s _ _ (by walk_at "kp"), by decide, by decide, by decide, BH.next_of (by decide +kernel)⟩
        | n + 5, hi => simp at hi
      walk_at "rd"
      exact behind_call hk hl hp sd fun y H2 nx s2 => (by rw [nx.uniq hn]; exact k H2 s2)
    have s23 : Same H5 H20 := s21.trans (Same.trans (Same.trans (Same.trans (Same.trans (Same.trans (Same.trans (same_new (o := .lst []) n0) (same_new (o := .lst [V.int 5]) n1)) (same_new (o := .lst [V.int 1, V.int 2]) n2)) (same_new (o := .lst [V.int (-10 ^ Int.toNat 30)]) n3)) (same_new (o := .lst [V.int 0, V.int 1, V.int 3]) n4)) (same_new (o := .tup [V.ref k0, V.ref k1, V.ref k2, V.ref k3, V.ref k4]) n5)) s22)
    clear s22 s21 n5 n4 n3 n2 n1 n0
    refine ⟨⟨by decide, by decide, by decide⟩, by decide, fun l6 n6 => neD_ints [0, 6, 4, 1 - 10 ^ Int.toNat 30, 7] (same_new n6 _ _ (by rw [e20, eex]; rfl)) upd_same ⟨false, rfl, iteF ?_⟩⟩
    have s24 := s23.trans (same_new (o := .lst [V.int 0, V.int 6, V.int 4, V.int (1 - 10 ^ Int.toNat 30), V.int 7]) n6)
    refine ⟨T5.ext s24, fun H21 x21 T21 => ?_⟩
    show tCall (spBehind K C_BadMarks C_NotApart) [] _ (tCons (tLst (tCons (tC (V.int 1)) (tCons (tC (V.int 2)) (tCons (tC (V.int 3)) tNil)))) tNil) _ H21 _
    refine ⟨by decide, fun l7 n7 => ?_⟩
    have m7 := same_new (o := .lst [V.int 1, V.int 2, V.int 3]) n7
    show spBehind K C_BadMarks C_NotApart [.ref l7] _ _ _
    refine behind_bad (ms := [1, 2, 3]) upd_same (by decide) (by decide) (by decide) fun H22 s25 => ⟨false, rfl, rfl, fun H23 s26 => ⟨rfl, ?_⟩⟩
    rw [decide_eq_true (show V.str (if (false : Bool) = true then Str.ofString "mark" else Str.ofString "apart") = V.str (Str.ofString "apart") from rfl)]
    have xA : ExtN H H23 := x5.trans ((extN_of s24).trans (x21.trans (extN_of (m7.trans (s25.trans s26)))))
    clear s26 s25 m7 n7 x21 T21 s24 n6 s23 e20 T5 x5
    have made : ∀ (H' : Hp) (x dx : Addr), H' x = none → H' dx = none → Same H' (upd (upd H' dx (.own x)) x (.ins C_Apart dx [])) := fun H' x dx nx nd b o e => by
      rw [upd_ne (ne_of_none e nx), upd_ne (ne_of_none e nd)]
      exact e
    refine ⟨true, rfl, iteT fun y1 d1 ny1 nd1 _ => ⟨y1, d1, _, rfl, upd_same, rfl, by decide, fun p1 np1 => ⟨_, p1, [1, 2, 3], rfl, sq_of upd_same, by decide, fun H24 s27 => ?_⟩⟩⟩
    have z1 := (made _ _ _ ny1 nd1).trans ((same_new (o := .lst [V.int 1, V.int 2, V.int 3]) np1).trans s27)
    rw [show decide (SD.Sid [1, 2, 3]) = false by decide]
    refine ⟨false, rfl, iteF fun y2 d2 ny2 nd2 _ => ⟨y2, d2, _, rfl, upd_same, rfl, by decide, fun p2 np2 => ⟨_, p2, [], rfl, sq_of upd_same, by decide, fun H25 s28 => ?_⟩⟩⟩
    have z2 := (made _ _ _ ny2 nd2).trans ((same_new (o := .lst []) np2).trans s28)
    rw [show decide (SD.Sid []) = true by decide]
    refine ⟨true, rfl, iteT fun y3 d3 ny3 nd3 _ => ⟨y3, d3, _, rfl, upd_same, rfl, by decide, fun p3 np3 => ⟨_, p3, [1, 2, 4], rfl, sq_of upd_same, by decide, fun H26 s29 => ?_⟩⟩⟩
    have z3 := (made _ _ _ ny3 nd3).trans ((same_new (o := .lst [V.int 1, V.int 2, V.int 4]) np3).trans s29)
    rw [show decide (SD.Sid [1, 2, 4]) = true by decide]
    exact q _ (xA.trans (extN_of (z1.trans (z2.trans z3))))
end
end Sa
local macro_rules | `(tactic| walk_at "rd") => `(tactic| ((try simp only [L2.start, L2.wipe, List.set_cons_succ, List.set_cons_zero, List.map_cons, List.map_nil, List.length_cons, List.length_nil, List.cons_append, List.nil_append, List.replicate_succ, List.replicate_zero, Nat.reduceSub, Nat.reduceAdd, Nat.zero_add]); try simp only [↓Sa.rd_seq, ↓Sa.rd_lcR1, ↓Sa.rd_lcT, ↓Sa.rd_lcL, ↓Sa.rd_lcE, ↓Sa.rd_made, ↓Sa.rd_make, ↓Sa.rd_meth, ↓Sa.rd_fld, ↓Sa.rd_bm, ↓Sa.rd_alt,  ↓Sa.rd_next, ↓Sa.rd_brk, ↓Sa.rd_asg, ↓Sa.rp_name, ↓Sa.rp_par, ↓Sa.rd_ret, ↓Sa.rd_retN, ↓Sa.rd_drop, ↓Sa.rd_if, ↓Sa.rp_var, ↓Sa.rd_c, ↓Sa.rd_op, ↓Sa.rd_un, ↓Sa.rd_I0, ↓Sa.rd_I, ↓Sa.rd_U, ↓Sa.rd_eqI, ↓Sa.rd_neI, ↓Sa.rd_test, ↓Sa.rd_B, ↓Sa.rd_and, ↓Sa.rd_or, ↓Sa.rd_not, ↓Sa.rd_andV, ↓Sa.rd_orV, ↓Sa.rd_notV, ↓Sa.rd_ifE, ↓Sa.rd_isN, ↓Sa.rd_notN, ↓Sa.rd_chain, ↓Sa.rd_chain3, ↓Sa.rd_nil, ↓Sa.rd_cons, ↓Sa.rd_tup, ↓Sa.rd_lst, ↓Sa.rd_call, ↓Sa.rd_CB, ↓Sa.rd_ixL, ↓Sa.rd_ixT, ↓Sa.rd_sl, ↓Sa.rd_noPart, ↓Sa.rd_part, ↓Sa.rd_slL, ↓Sa.rd_sum, ↓Sa.rd_all, ↓Sa.rd_any, ↓Sa.ex_int, ↓Sa.ex_int1, ↓Sa.ex_int2, ↓Sa.rd_len, ↓Sa.ex_len, ↓Sa.ex_bl, ↓Sa.ex_two, ↓Sa.slot_z, ↓Sa.slot_n, ↓Sa.setS_z, ↓Sa.setS_n, ↓Sa.if_tt, ↓Sa.if_ff, ↓Sa.if_dec, ↓Sa.if_ndec, ↓Sa.if_nb, ↓Sa.rd_forL, ↓Sa.rd_forT, ↓Sa.rd_forR1, ↓Sa.rd_forR2, ↓Sa.rd_forR3, ↓Sa.ex_ref, ↓Sa.cx_K, ↓List.append_nil, List.length_cons, List.length_nil, Nat.reduceAdd, Nat.zero_add]))
namespace Sa
open PySem PySem.Spec PyProof.Rows L2 Evl LamX
local macro_rules | `(tactic| walk_at "kp") => `(tactic| (repeat (first | exact upd_same | refine same_new (by assumption) _ _ ?_)))
local macro_rules | `(tactic| walk_at "sm") => `(tactic| ((repeat (refine Same.trans ?_ (same_new (by assumption)))); exact Same.refl _))
section
variable {P : Program} {w : World} {K : PySem.W.Frag} {mg : Str → Option Value} {base : Heap}
/-- what told gave: apart, or two pairs -/
inductive Ans (CA CS : Addr) (H : Hp) : V → Option (Int × Int × Int × Int) → Prop where
  | ap {x dx : Addr} (e : H x = some (.ins CA dx [])) : Ans CA CS H (.ref x) none
  | sm {x dx p1 p2 : Addr} {a b c d : Int} (e : H x = some (.ins CS dx [("one", .ref p1), ("other", .ref p2)])) (e1 : H p1 = some (.tup [.int a, .int b])) (e2 : H p2 = some (.tup [.int c, .int d])) : Ans CA CS H (.ref x) (some (a, b, c, d))
theorem Ans.mono {CA CS : Addr} {H H' : Hp} {v : V} {o : Option (Int × Int × Int × Int)} (s : Same H H') (h : Ans CA CS H v o) : Ans CA CS H' v o := by
  cases h with
  | ap e => exact .ap (s _ _ e)
  | sm e e1 e2 => exact .sm (s _ _ e) (s _ _ e1) (s _ _ e2)
def dueB (ms : List Int) : Option (Int × Int × Int × Int) → Bool
  | none => decide (SD.Sid ms)
  | some (a, b, c, d) => goodB ms [a, b] [c, d]
theorem due_two {ms : List Int} {a b c d : Int} (h : SD.Two ms a b c d) : dueB ms (some (a, b, c, d)) = true := by
  obtain ⟨a0, ab, bn, c0, cd, dn, ne, e⟩ := h
  show (!decide ([a, b] = [c, d]) && (decide (0 ≤ a ∧ a ≤ b ∧ b < (ms.length : Int)) && (decide (0 ≤ c ∧ c ≤ d ∧ d < (ms.length : Int)) && decide (SD.ix ms a.toNat + SD.ix ms b.toNat = SD.ix ms c.toNat + SD.ix ms d.toNat)))) = true
  rw [decide_eq_true (show 0 ≤ a ∧ a ≤ b ∧ b < (ms.length : Int) from ⟨a0, ab, bn⟩), decide_eq_true (show 0 ≤ c ∧ c ≤ d ∧ d < (ms.length : Int) from ⟨c0, cd, dn⟩), decide_eq_true e, decide_eq_false (show ¬ [a, b] = [c, d] from fun z => ne (by simpa using z))]
  rfl
theorem told_call {l CB CA CS : Addr} {H : Hp} {Q : VK} {E : XK} {ms : List Int} (h : H l = some (.lst (ms.map V.int))) (hl : ms.length ≤ 40) (hp : ms.Pairwise (· < ·))
    (q : ∀ x o H', Same H H' → Ans CA CS H' (.ref x) o → dueB ms o = true → o.isNone = decide (SD.Sid ms) → Q (.ref x) H') : spTold K CB CA CS [.ref l] H Q E :=
  ⟨_, rfl, .of_list h hl hp ⟨fun sd x dx H' s _ e => q x none H' s (.ap e) (decide_eq_true sd) (by rw [decide_eq_true sd]; rfl), fun a b c d x dx p1 p2 H' two s _ e e1 e2 => q x _ H' s (.sm e e1 e2) (due_two two) (by rw [decide_eq_false two.not_sid]; rfl)⟩⟩
theorem ans_ty {K : PySem.W.Frag} {mg : Str → Option Value} {CA CS : Addr} {H : Hp} {v : V} {o : Option (Int × Int × Int × Int)} (XA : ClsX K mg "Apart" CA) (XS : ClsX K mg "Same" CS) (h : Ans CA CS H v o) : TyX K H v (.ref (if o.isNone then CA else CS)) := by
  cases h with
  | ap e => exact XA.tyx e
  | sm e _ _ => exact XS.tyx e
theorem ans_shows {K : PySem.W.Frag} {CA CS l x : Addr} {H : Hp} {Q : VK} {o : Option (Int × Int × Int × Int)} {ms : List Int} (h : Ans CA CS H (.ref x) o) (hS : SqL K H l (ms.map V.int)) (hl : ms.length ≤ 60) (q : ∀ H', Same H H' → Q (.bl (dueB ms o)) H') :
    (∃ a dx fs, V.ref x = .ref a ∧ H a = some (.ins CA dx fs) ∧ List.lookup (Str.ofString "shows") fs = none ∧ spShowsA K [.ref x, .ref l] H Q E0) ∨ (∃ a dx fs, V.ref x = .ref a ∧ H a = some (.ins CS dx fs) ∧ List.lookup (Str.ofString "shows") fs = none ∧ spShowsS K CS [.ref x, .ref l] H Q E0) := by
  cases h with
  | ap e => exact .inl ⟨_, _, _, rfl, e, rfl, _, l, ms, rfl, hS, by omega, q⟩
  | sm e e1 e2 => exact .inr ⟨_, _, _, rfl, e, rfl, _, _, _, _, l, [_, _], [_, _], ms, rfl, e, e1, e2, hS, q⟩
/-- things told, all whole numbers, texts, None or lists and tuples of such -/
def FND (H : Hp) (lf : Addr) (vs : List V) (n : Nat) : Prop := H lf = some (.lst vs) ∧ vs.length ≤ n ∧ ∀ v ∈ vs, PD 1 H v
theorem FND.mono {H H' : Hp} {lf : Addr} {vs : List V} {n m : Nat} (s : Same H H') (l : n ≤ m) (h : FND H lf vs n) : FND H' lf vs m := ⟨s _ _ h.1, by have := h.2.1; omega, fun v hv => (h.2.2 v hv).mono s⟩
def EvPD (H0 : Hp) (ta : TA) (σ : L2.St) (k : Nat) : Prop := ∀ (H : Hp) (Q : List V → Hp → Prop), Same H0 H → (∀ xs H2, Same H H2 → xs.length = k → (∀ x ∈ xs, PD 1 H2 x) → Q xs H2) → ta σ H Q
theorem epd_nil {H0 : Hp} {σ : L2.St} : EvPD H0 tNil σ 0 := fun H Q _ q => q [] H (Same.refl H) rfl fun x h => by cases h
theorem epd_cons {H0 : Hp} {σ : L2.St} {te : TE} {ta : TA} {k : Nat} (h : ∀ (H : Hp) (Q : VK), Same H0 H → (∀ v H2, Same H H2 → PD 1 H2 v → Q v H2) → te σ H Q) (g : EvPD H0 ta σ k) : EvPD H0 (tCons te ta) σ (k + 1) := fun H Q s q =>
  h H _ s fun v H2 s2 pv => g H2 _ (s.trans s2) fun xs H3 s3 l px => q _ H3 (s2.trans s3) (by rw [List.length_cons, l]) fun x hx => by
    rcases List.mem_cons.mp hx with rfl | hx
    · exact pv.mono s3
    · exact px x hx
theorem cat_pd {H0 : Hp} {σ : L2.St} {ta : TA} {Q : VK} {i k n : Nat} {lf : Addr} {vs : List V} (hv : σ[i]? = some (some (.ref lf))) (F : FND H0 lf vs n) (hn : n + k ≤ 1000) (g : EvPD H0 ta σ k)
    (q : ∀ r Hb vs', Same H0 Hb → Hb r = none → vs'.length ≤ n + k → (∀ v ∈ vs', PD 1 Hb v) → Q (.ref r) (upd Hb r (.lst vs'))) : tOp rCat (tVar i) (tLst ta) σ H0 Q :=
  ⟨_, hv, g H0 _ (Same.refl H0) fun xs H2 s2 l px => ⟨by rw [l]; exact Nat.le_trans (show k ≤ 1000 by omega) (show 1000 ≤ sizeLine by decide), fun l2 nl2 => by
    have m := same_new (o := .lst xs) nl2
    have hl := F.2.1
    refine ⟨lf, l2, vs, xs, rfl, rfl, m _ _ (s2 _ _ F.1), upd_same, Nat.le_trans (show vs.length + xs.length ≤ 1000 by omega) (show 1000 ≤ sizeLine by decide), fun r nr => q r _ (vs ++ xs) (s2.trans m) nr (by rw [List.length_append]; omega) fun v hv => ?_⟩
    rcases List.mem_append.mp hv with hv | hv
    · exact (F.2.2 v hv).mono (s2.trans m)
    · exact (px v hv).mono m⟩⟩
theorem fnd_new {Hb : Hp} {r : Addr} {vs : List V} {n : Nat} (nr : Hb r = none) (l : vs.length ≤ n) (p : ∀ v ∈ vs, PD 1 Hb v) : FND (upd Hb r (.lst vs)) r vs n := ⟨upd_same, l, fun v hv => (p v hv).mono (same_new nr)⟩
theorem pd_int {H : Hp} {i : Int} : PD 1 H (.int i) := .inl (.inr (.inr ⟨i, rfl⟩))
theorem pd_tup {H : Hp} {p : Addr} {a b : Int} (e : H p = some (.tup [.int a, .int b])) : PD 1 H (.ref p) := .inr ⟨p, _, rfl, .inr e, by show 2 ≤ 1000000; decide, fun x hx => by
  simp only [List.mem_cons, List.not_mem_nil, or_false] at hx
  rcases hx with rfl | rfl
  · exact .inr (.inr ⟨_, rfl⟩)
  · exact .inr (.inr ⟨_, rfl⟩)⟩
theorem pd_row {H : Hp} {p : Addr} {ns : List Int} (e : H p = some (.lst (ns.map V.int))) (l : ns.length ≤ 1000000) : PD 1 H (.ref p) := .inr ⟨p, _, rfl, .inl e, by rw [List.length_map]; exact l, fun x hx => by
  obtain ⟨i, _, rfl⟩ := List.mem_map.mp hx
  exact .inr (.inr ⟨i, rfl⟩)⟩
theorem two_pd {p d : Int} {CP CN : Addr} {H : Hp} {Q : VK} {E : XK} (hp : okP (.int p) = true) (hB : B 62 d) (q : ∀ v H', Same H H' → PD 1 H' v → Q v H') : spTwoOf K CP CN [.int p, .int d] H Q E :=
  two_call hp (hB.mono (by decide)) ⟨fun a b _ H' x s _ e => q _ H' s (pd_tup e), fun _ H' s => q _ H' s (.inl (.inl rfl))⟩
theorem apart_pd {p d : Int} {CP CN : Addr} {H : Hp} {Q : VK} {E : XK} (hp : okP (.int p) = true) (h1 : 1 ≤ d) (hB : B 62 d) (q : ∀ v H', Same H H' → PD 1 H' v → Q v H') : spApartBy K CP CN [.int p, .int d] H Q E :=
  apart_call hp h1 (hB.mono (by decide)) ⟨fun a b _ H' x s _ e => q _ H' s (pd_tup e), fun _ H' s => q _ H' s (.inl (.inl rfl))⟩
theorem rd_sortSet {ta : TE} {σ : L2.St} {H : Hp} {Q : VK} : tSortSetL K ta σ H Q = ta σ H fun x H1 => ∃ (l : Addr) (ns : List Int), x = .ref l ∧ SqL K H1 l (ns.map V.int) ∧ ns.length ≤ 63 ∧ ∀ (ms : List Int) (b : Addr), ms.Pairwise (· < ·) → (∀ k : Int, k ∈ ms ↔ k ∈ ns) → ms.length ≤ ns.length → H1 b = none → Q (.ref b) (upd H1 b (.lst (ms.map V.int))) := rfl
def spLaw7 (K : PySem.W.Frag) (T : List (Addr × Str)) : Sp := fun vs H Q _ => ∃ (a : Addr) (ns : List Int), vs = [.ref a] ∧ SqL K H a (ns.map V.int) ∧ ns.length ≤ 63 ∧ (∀ z ∈ ns, B 1048577 z) ∧ Tabs T H ∧ ∀ H', Q (.bl true) H'
theorem ok_law {f PT f1 f2 f3 f4 f5 f6 f7 f8 f9 f10 f11 f12 f13 C_BadPrime C_BadNumber C_NoMark C_NotApart C_BadMarks C_Apart C_Same : Addr} {fd fd1 fd2 fd3 fd4 fd5 fd6 fd7 fd8 fd9 fd10 fd11 fd12 fd13 : FuncData} (T : Blt mg) (z_abs : mg "abs" = none) (F : Fun K "law" "law" s_law f fd)
    (S : SameAt K C_Same) (X_Same : ClsX K mg "Same" C_Same) (M_Same : Mk K C_Same f8) (X_Apart : ClsX K mg "Apart" C_Apart) (M_Apart : Mk0 K C_Apart) (u1 : PySem.W.subIn K (.ref C_Apart) (.ref C_Same) = some false)
    (D_mark : DefAt K mg "mark" "mark" s_mark ["prime", "number"] f1 fd1) (G_mark : FnOk P w K mg base (L2N.CX P w) 3 f1 fd1 ["prime", "number"] (spMark K C_BadPrime C_BadNumber))
    (D_number_of : DefAt K mg "number_of" "number_of" s_number_of ["prime", "found"] f2 fd2) (G_number_of : FnOk P w K mg base (L2N.CX P w) 3 f2 fd2 ["prime", "found"] (spNumberOf K C_BadPrime C_BadNumber C_NoMark))
    (D_two_of : DefAt K mg "two_of" "two_of" s_two_of ["prime", "total"] f3 fd3) (G_two_of : FnOk P w K mg base (L2N.CX P w) 3 f3 fd3 ["prime", "total"] (spTwoOf K C_BadPrime C_BadNumber))
    (D_apart_by : DefAt K mg "apart_by" "apart_by" s_apart_by ["prime", "difference"] f4 fd4) (G_apart_by : FnOk P w K mg base (L2N.CX P w) 3 f4 fd4 ["prime", "difference"] (spApartBy K C_BadPrime C_BadNumber))
    (D_told : DefAt K mg "told" "told" s_told ["marks"] f5 fd5) (G_told : FnOk P w K mg base (L2N.CX P w) 3 f5 fd5 ["marks"] (spTold K C_BadMarks C_Apart C_Same))
    (D_behind : DefAt K mg "behind" "behind" s_behind ["marks"] f6 fd6) (G_behind : FnOk P w K mg base (L2N.CX P w) 3 f6 fd6 ["marks"] (spBehind K C_BadMarks C_NotApart))
    (D__law_promises_right : DefAt K mg "_law_promises_right" "_law_promises_right" s__law_promises_right [] f7 fd7) (G__law_promises_right : FnOk P w K mg base CX0 7 f7 fd7 [] (spPromises [(PT, qL)]))
    (D_Same_init : MethAt K C_Same "__init__" "Same.__init__" s_Same_init ["self", "one", "other"] f8 fd8)
    (D_Apart_shows : MethAt K C_Apart "shows" "Apart.shows" s_Apart_shows ["self", "marks"] f9 fd9) (G_Apart_shows : FnOk P w K mg base CX0 2 f9 fd9 ["self", "marks"] (spShowsA K))
    (D_Same_shows : MethAt K C_Same "shows" "Same.shows" s_Same_shows ["self", "marks"] f10 fd10) (G_Same_shows : FnOk P w K mg base CX0 1 f10 fd10 ["self", "marks"] (spShowsS K C_Same))
    (D__law_number : DefAt K mg "_law_number" "_law_number" s__law_number ["_law_cell", "_law_at", "_law_whole"] f11 fd11) (G__law_number : FnOk P w K mg base CX0 1 f11 fd11 ["_law_cell", "_law_at", "_law_whole"] spNumber)
    (D__law_plain : DefAt K mg "_law_plain" "_law_plain" s__law_plain ["_law_thing"] f12 fd12) (G__law_plain : FnOk P w K mg base CX0 3 f12 fd12 ["_law_thing"] (spPlain 2))
    (D__law_truths : DefAt K mg "_law_truths" "_law_truths" s__law_truths ["_law_things"] f13 fd13) (G__law_truths : FnOk P w K mg base CX0 1 f13 fd13 ["_law_things"] (spTruths K)) :
    FnOk P w K mg base CX0 8 f fd ["_law_script"] (spLaw7 K [(PT, qL)]) := by
  have G_Same_init : FnOk P w K mg base CX0 1 f8 fd8 ["self", "one", "other"] (spSameInit K C_Same) := ok_same_init S D_Same_init.F
  refine F.ok sc_law (fun vs H Q E h => ?_) (fun cdv A outer s H vs Q E hr h => ?_)
  · obtain ⟨a, ns, rfl, _⟩ := h
    rfl
  · obtain ⟨a, ns, rfl, hS, hl, hb, hT, q⟩ := h
    refine ⟨_, pss_cut (ps_if (pt_not (pt_val (pe_call0 G__law_promises_right (hr.mono (by decide)) (by rfl) D__law_promises_right.g D__law_promises_right.kp D__law_promises_right.b .nil pass0))) (pss_one (ps_ret (pe_bl))) (pss_nil))
      (pss_cons (ps_set (i := 1) sc_law.nd rfl (by first | exact Or.inl rfl | exact Or.inr rfl) (pe_callB call_abs (by rfl) T.b_abs (by decide +kernel) (pa_cons (pe_callB (cr_sumk (K := K) rfl) (by rfl) T.b_sum (by decide +kernel) (pa_cons (pe_slice (sl_listk (K := K)) (pv 0) po_none (po_some (pe_int))) pa_nil)) pa_nil)))
      (pss_cut (ps_set (i := 2) sc_law.nd rfl (by first | exact Or.inl rfl | exact Or.inr rfl) (pe_ifExp (pt_cmpR (op_neDk (K := K) hr.units) (pv 0) (pe_lst pa_nil) (nomark _)) (pe_slice (sl_listk (K := K)) (pv 0) po_none (po_some (pe_int))) (pe_lst (pa_cons (pe_int) pa_nil))))
      (pss_cut (ps_set (i := 3) sc_law.nd rfl (by first | exact Or.inl rfl | exact Or.inr rfl) (pe_sortSet (K := K) (by rfl) T.b_sorted (by rfl) T.b_set (pe_lc (own := [("_law_at", 10), ("_law_cell", 11)]) (g := _) (tt := tYes) (by rfl) sc_law.nd (pi_enumk (K := K) (by rfl) T.b_enumerate (pa_cons (pv 2) pa_nil)) (blkOk_by (own := [("_law_at", 10), ("_law_cell", 11)]) (N := ["_law_script", "_law_whole", "_law_cells", "_law_drawn", "_law_found", "_law_shown", "_law_prime", "_law_row", "_law_marks", "_law_answer", "_law_at", "_law_cell", "_law_number_here", "_law_built"]) (sc := defScope s_law) (by decide +kernel)) (fun _ _ _ _ _ => pg_tupk (K := K) (n := 2) (pg_tup (n := 2) rfl (pgs_cons (pg_name (i := 10) sc_law.nd rfl (by first | exact Or.inl rfl | exact Or.inr rfl)) (pgs_cons (pg_name (i := 11) sc_law.nd rfl (by first | exact Or.inl rfl | exact Or.inr rfl)) pgs_nil)))) (fun _ _ _ _ _ => pts_nil) (fun _ _ _ _ _ => pe_op op_sub (pe_op op_mod (pe_op op_fdiv (pe_callB call_abs (by rfl) T.b_abs (by decide +kernel) (pa_cons (pe_call G__law_number (hr.mono (by decide)) (by rfl) D__law_number.g D__law_number.kp D__law_number.b .nil pass0 (pa_cons (pv 11) (pa_cons (pv 10) (pa_cons (pv 1) pa_nil)))) pa_nil)) (pe_int)) (pe_int)) (pe_int)))))
      (pss_cons (ps_par (i := 4) (j := 5) (by rfl) sc_law.nd rfl rfl (by decide) rfl rfl (pa_cons (pe_lst pa_nil) (pa_cons (pe_lst pa_nil) pa_nil)) (by rfl))
      (pss_cut (ps_for PassesOwn.never rfl (pi_list (pe_lst (pa_cons (pe_int) (pa_cons (pe_int) (pa_cons (pe_ix (ix_tupk (K := K)) (pe_tup (pa_cons (pe_int) (pa_cons (pe_int) (pa_cons (pe_int) pa_nil)))) (pe_op op_mod (pv 1) (pe_int)) (fun _ _ => rfl)) pa_nil))))) (pg_name (i := 6) sc_law.nd rfl (by first | exact Or.inl rfl | exact Or.inr rfl)) (pss_cons (ps_setLc (i := 7) (own := [("_law_number_here", 12)]) (g := gName 12) (tt := tYes) (by rfl) sc_law.nd rfl rfl (sw_true rfl rfl rfl (by decide +kernel)) (pi_r1 (by rfl) T.b_range (pa_cons (pe_callB (call_min2 rfl) (by rfl) T.b_min (by decide +kernel) (pa_cons (pv 6) (pa_cons (pe_int) pa_nil))) pa_nil)) (blkOk_by (own := [("_law_number_here", 12)]) (N := ["_law_script", "_law_whole", "_law_cells", "_law_drawn", "_law_found", "_law_shown", "_law_prime", "_law_row", "_law_marks", "_law_answer", "_law_at", "_law_cell", "_law_number_here", "_law_built"]) (sc := defScope s_law) (by decide +kernel)) (fun _ _ _ _ _ => pg_name (i := 12) sc_law.nd rfl (by first | exact Or.inl rfl | exact Or.inr rfl)) (fun _ _ _ _ _ => pts_nil) (fun _ _ _ _ _ => pe_call G_mark (hr.mono (by decide)) (by rfl) D_mark.g D_mark.kp D_mark.b .nil passN (pa_cons (pv 6) (pa_cons (pv 12) pa_nil))))
      (pss_cut (ps_set (i := 4) sc_law.nd rfl (by first | exact Or.inl rfl | exact Or.inr rfl) (pe_op op_cat (pv 4) (pe_lst (pa_cons (pv 7) (pa_cons (pe_call G_number_of (hr.mono (by decide)) (by rfl) D_number_of.g D_number_of.kp D_number_of.b .nil passN (pa_cons (pv 6) (pa_cons (pe_ix (ix_listk (K := K)) (pv 7) (pe_un un_neg (pe_int)) (fun _ _ => rfl)) pa_nil))) (pa_cons (pe_call G_number_of (hr.mono (by decide)) (by rfl) D_number_of.g D_number_of.kp D_number_of.b .nil passN (pa_cons (pv 6) (pa_cons (pe_ix (ix_listk (K := K)) (pv 7) (pe_int) (fun _ _ => rfl)) pa_nil))) (pa_cons (pe_call G_two_of (hr.mono (by decide)) (by rfl) D_two_of.g D_two_of.kp D_two_of.b .nil passN (pa_cons (pv 6) (pa_cons (pe_op op_add (pe_ix (ix_listk (K := K)) (pv 7) (pe_int) (fun _ _ => rfl)) (pe_ix (ix_listk (K := K)) (pv 7) (pe_int) (fun _ _ => rfl))) pa_nil))) pa_nil)))))))
      (pss_cut (ps_set (i := 4) sc_law.nd rfl (by first | exact Or.inl rfl | exact Or.inr rfl) (pe_op op_cat (pv 4) (pe_lst (pa_cons (pe_call G_two_of (hr.mono (by decide)) (by rfl) D_two_of.g D_two_of.kp D_two_of.b .nil passN (pa_cons (pv 6) (pa_cons (pe_op op_mulB (pe_int) (pe_ix (ix_listk (K := K)) (pv 7) (pe_int) (fun _ _ => rfl))) pa_nil))) (pa_cons (pe_call G_two_of (hr.mono (by decide)) (by rfl) D_two_of.g D_two_of.kp D_two_of.b .nil passN (pa_cons (pv 6) (pa_cons (pe_un un_neg (pe_int)) pa_nil))) (pa_cons (pe_call G_apart_by (hr.mono (by decide)) (by rfl) D_apart_by.g D_apart_by.kp D_apart_by.b .nil passN (pa_cons (pv 6) (pa_cons (pe_op op_sub (pe_ix (ix_listk (K := K)) (pv 7) (pe_int) (fun _ _ => rfl)) (pe_ix (ix_listk (K := K)) (pv 7) (pe_int) (fun _ _ => rfl))) pa_nil))) pa_nil))))))
      (pss_cut (ps_set (i := 4) sc_law.nd rfl (by first | exact Or.inl rfl | exact Or.inr rfl) (pe_op op_cat (pv 4) (pe_lst (pa_cons (pe_call G_apart_by (hr.mono (by decide)) (by rfl) D_apart_by.g D_apart_by.kp D_apart_by.b .nil passN (pa_cons (pv 6) (pa_cons (pe_int) pa_nil))) pa_nil))))
      (pss_one (ps_expr (pe_bm PySem.F.plainAttrs_list PySem.F.slot_list_append PySem.F.type_list_append mt_append (pv 4) (pa_cons (pe_call G_behind (hr.mono (by decide)) (by rfl) D_behind.g D_behind.kp D_behind.b .nil passN (pa_cons (pv 7) pa_nil)) pa_nil)))))))))
      (pss_cut (ps_for PassesOwn.never rfl (pi_list (pe_lst (pa_cons (pv 3) (pa_cons (pe_lst pa_nil) (pa_cons (pe_lst (pa_cons (pe_int) pa_nil)) (pa_cons (pe_lst (pa_cons (pe_int) (pa_cons (pe_int) (pa_cons (pe_int) pa_nil)))) (pa_cons (pe_lst (pa_cons (pe_int) (pa_cons (pe_int) (pa_cons (pe_int) pa_nil)))) (pa_cons (pe_lc (own := [("_law_number_here", 12)]) (g := gName 12) (tt := tYes) (by rfl) sc_law.nd (pi_r1 (by rfl) T.b_range (pa_cons (pe_int) pa_nil)) (blkOk_by (own := [("_law_number_here", 12)]) (N := ["_law_script", "_law_whole", "_law_cells", "_law_drawn", "_law_found", "_law_shown", "_law_prime", "_law_row", "_law_marks", "_law_answer", "_law_at", "_law_cell", "_law_number_here", "_law_built"]) (sc := defScope s_law) (by decide +kernel)) (fun _ _ _ _ _ => pg_name (i := 12) sc_law.nd rfl (by first | exact Or.inl rfl | exact Or.inr rfl)) (fun _ _ _ _ _ => pts_nil) (fun _ _ _ _ _ => pe_call G_mark (hr.mono (by decide)) (by rfl) D_mark.g D_mark.kp D_mark.b .nil passN (pa_cons (pe_int) (pa_cons (pv 12) pa_nil)))) pa_nil)))))))) (pg_name (i := 8) sc_law.nd rfl (by first | exact Or.inl rfl | exact Or.inr rfl)) (pss_cons (ps_set (i := 9) sc_law.nd rfl (by first | exact Or.inl rfl | exact Or.inr rfl) (pe_call G_told (hr.mono (by decide)) (by rfl) D_told.g D_told.kp D_told.b .nil passN (pa_cons (pv 8) pa_nil)))
      (pss_cut (ps_if (pt_val (pe_callB (call_isik (K := K)) (by rfl) T.b_isinstance (by decide +kernel) (pa_cons (pv 9) (pa_cons (pe_glob (v := .ref C_Same) (by rfl) X_Same.g rfl) pa_nil)))) (pss_cut (ps_set (i := 4) sc_law.nd rfl (by first | exact Or.inl rfl | exact Or.inr rfl) (pe_op op_cat (pv 4) (pe_lst (pa_cons (pe_fld (pv 9) rfl) (pa_cons (pe_fld (pv 9) rfl) pa_nil)))))
      (pss_one (ps_if (PW.pt (pw_or (pt_not (pt_val (pe_callB (call_isik (K := K)) (by rfl) T.b_isinstance (by decide +kernel) (pa_cons (pe_fld (pv 9) rfl) (pa_cons (pe_bltn (v := .ty "tuple") (by rfl) T.b_tuple (by decide +kernel) rfl) pa_nil))))) (pw_or1 (pt_not (pt_val (pe_callB (call_isik (K := K)) (by rfl) T.b_isinstance (by decide +kernel) (pa_cons (pe_fld (pv 9) rfl) (pa_cons (pe_bltn (v := .ty "tuple") (by rfl) T.b_tuple (by decide +kernel) rfl) pa_nil)))))))) (pss_one (ps_ret (pe_bl))) (pss_nil)))) (pss_nil))
      (pss_one (ps_set (i := 5) sc_law.nd rfl (by first | exact Or.inl rfl | exact Or.inr rfl) (pe_op op_cat (pv 5) (pe_lc (own := [("_law_built", 13)]) (g := gName 13) (tt := tYes) (by rfl) sc_law.nd (pi_list (pe_lst (pa_cons (pv 9) (pa_cons (pe_made M_Apart (by rfl) X_Apart.g) (pa_cons (pe_make M_Same G_Same_init (hr.mono (by decide)) (by rfl) X_Same.g D_Same_init.b .nil pass0 (pa_cons (pe_tup (pa_cons (pe_int) (pa_cons (pe_int) pa_nil))) (pa_cons (pe_tup (pa_cons (pe_int) (pa_cons (pe_int) pa_nil))) pa_nil))) pa_nil))))) (blkOk_by (own := [("_law_built", 13)]) (N := ["_law_script", "_law_whole", "_law_cells", "_law_drawn", "_law_found", "_law_shown", "_law_prime", "_law_row", "_law_marks", "_law_answer", "_law_at", "_law_cell", "_law_number_here", "_law_built"]) (sc := defScope s_law) (by decide +kernel)) (fun _ _ _ _ _ => pg_name (i := 13) sc_law.nd rfl (by first | exact Or.inl rfl | exact Or.inr rfl)) (fun _ _ _ _ _ => pts_nil) (fun _ _ _ _ _ => pe_alt (pe_meth (pv 13) X_Apart.cl D_Apart_shows.m G_Apart_shows (hr.mono (by decide)) D_Apart_shows.b .nil pass0 (pa_cons (pv 8) pa_nil)) (pe_meth (pv 13) X_Same.cl D_Same_shows.m G_Same_shows (hr.mono (by decide)) D_Same_shows.b .nil pass0 (pa_cons (pv 8) pa_nil))))))))))
      (pss_one (ps_ret (pe_and (pe_call G__law_plain (hr.mono (by decide)) (by rfl) D__law_plain.g D__law_plain.kp D__law_plain.b .nil pass0 (pa_cons (pv 4) pa_nil)) (pe_one (pe_call G__law_truths (hr.mono (by decide)) (by rfl) D__law_truths.g D__law_truths.kp D__law_truths.b .nil pass0 (pa_cons (pv 5) pa_nil)))))))))))), ?_⟩
    refine ⟨fun σ H' => σ = [some (.ref a), none, none, none, none, none, none, none, none, none, none, none, none, none] ∧ SqL K H' a (ns.map V.int), ?_, ?_⟩
    · walk_at "rd"
      exact ⟨rfl, hT, fun H1 x1 => ⟨true, rfl, iteT ⟨trivial, extN_seq x1 hS⟩⟩⟩
    rintro σ H1 ⟨rfl, hS1⟩
    walk_at "rd"
    refine ⟨_, hS1, fun p hp => ⟨ns, .inl (.inl (by rw [upd_same, show (63 : Int) = ((63 : Nat) : Int) from rfl, cut_all _ 63 (by rw [List.length_map]; exact hl)])), ?_⟩⟩
    have sp := same_new (o := .lst (cutV (ns.map V.int) none (some 63))) hp
    obtain ⟨H2, e2⟩ : ∃ t, t = upd H1 p (.lst (cutV (ns.map V.int) none (some 63))) := ⟨_, rfl⟩
    rw [← e2] at sp ⊢
    obtain ⟨wh, ewh⟩ : ∃ wh, wh = (if ns.sum < 0 then -ns.sum else ns.sum) := ⟨_, rfl⟩
    have hw : B 1048640 wh := by
      have := (sum_bits hb).mono (show 1048577 + ns.length ≤ 1048640 by omega)
      rw [ewh]
      split
      · exact this.neg
      · exact this
    rw [← ewh]
    refine ⟨fun σ H' => ∃ (cs : List Int) (lc : Addr), σ = [some (.ref a), some (.int wh), some (.ref lc), none, none, none, none, none, none, none, none, none, none, none] ∧ H' lc = some (.lst (cs.map V.int)) ∧ cs.length ≤ 7 ∧ ∀ z ∈ cs, B 1048577 z, ?_, ?_⟩
    · refine cells_ok (n := 7) (c := 5) rfl (sp.seq hS1) fun H4 lc s4 nc ec => ?_
      exact ⟨_, _, rfl, ec, cells_len (by decide), cells_mem hb ((B.small (x := 5) (by decide)).mono (by decide))⟩
    rintro σ H3 ⟨cs, lc, rfl, ec, hcl, hcb⟩
    refine ⟨fun σ H' => ∃ (ms : List Int) (ld : Addr), σ = [some (.ref a), some (.int wh), some (.ref lc), some (.ref ld), none, none, none, none, none, none, none, none, none, none] ∧ H' ld = some (.lst (ms.map V.int)) ∧ ms.Pairwise (· < ·) ∧ ms.length ≤ 40, ?_, ?_⟩
    · rw [rd_asg, rd_sortSet]
      walk_at "rd"
      refine ⟨_, sq_of ec, lc_enumI (sq_of ec) (by rw [List.length_map]; omega) (fun i x T H' hx s nT R k => ?_) (fun D H' zs nD s e l => ⟨D, zs, rfl, sq_of e, by rw [List.length_map] at l; omega, fun ms b pw _ hm nb => ⟨ms, b, rfl, upd_same, pw, by rw [List.length_map] at l; omega⟩⟩)⟩
      obtain ⟨z, hz, rfl⟩ := map_at hx
      have hi : i < 7 := by
        have := (List.getElem?_eq_some_iff.mp hx).1
        rw [List.length_map] at this
        omega
      have mT := same_new (o := .tup [V.int (i : Nat), V.int z]) nT
      refine ⟨T, _, rfl, sqt_of upd_same, rfl, _, _, rfl, _, _, rfl, rfl, rfl, ?_⟩
      walk_at "rd"
      refine ⟨z, i, wh, 1048640, rfl, (hcb z hz).mono (by decide), hw, by omega, by omega, by decide, fun num _ => ?_⟩
      walk_at "rd"
      exact ⟨⟨by decide, by decide⟩, by decide, k _ _ mT⟩
    rintro σ H4 ⟨ms, ld, rfl, ed, pd, hdl⟩
    walk_at "rd"
    refine ⟨by decide, fun lf nf => ⟨by decide, fun ls nls => ?_⟩⟩
    have mf := same_new (o := .lst []) nf
    have ml := same_new (o := .lst []) nls
    obtain ⟨H5, e5⟩ : ∃ t, t = upd (upd H4 lf (.lst [])) ls (.lst []) := ⟨_, rfl⟩
    have kf : H5 lf = some (.lst []) := e5 ▸ ml _ _ upd_same
    have kls : H5 ls = some (.lst []) := e5 ▸ upd_same
    have kd : H5 ld = some (.lst (ms.map V.int)) := e5 ▸ ml _ _ (mf _ _ ed)
    rw [← e5]
    clear e5 ml mf nls
    refine ⟨fun σ H' => Same H5 H' ∧ ∃ (lf : Addr) (vs : List V) (y6 y7 : Option V), σ = [some (.ref a), some (.int wh), some (.ref lc), some (.ref ld), some (.ref lf), some (.ref ls), y6, y7, none, none, none, none, none, none] ∧ FND H' lf vs 100, ?_, ?_⟩
    · walk_at "rd"
      obtain ⟨pr, hpr, epr⟩ := at_lt (xs := [7, 11, 101]) (i := wh % 3) (by omega) (by show wh % 3 < 3; omega)
      refine ⟨by decide, fun pt npt => ⟨by decide, _, .int pr, sqt_of (xs := [7, 11, 101].map V.int) upd_same, epr, by decide, fun lp nlp => ⟨⟨_, sq_of upd_same⟩, ?_⟩⟩⟩
      have mt := same_new (o := .tup [V.int 7, V.int 11, V.int 101]) npt
      have mp := same_new (o := .lst [V.int 3, V.int 5, V.int pr]) nlp
      obtain ⟨H6, e6⟩ : ∃ t, t = upd (upd H5 pt (.tup [V.int 7, V.int 11, V.int 101])) lp (.lst [V.int 3, V.int 5, V.int pr]) := ⟨_, rfl⟩
      have s6 : Same H5 H6 := e6 ▸ mt.trans mp
      have k6 : H6 lp = some (.lst [V.int 3, V.int 5, V.int pr]) := e6 ▸ upd_same
      rw [← e6]
      clear e6 mp mt nlp
      refine for_list (K := K) (a := lp) (xs := [V.int 3, V.int 5, V.int pr]) (fun i σ H' => Same H6 H' ∧ ∃ (lf : Addr) (vs : List V) (y6 y7 : Option V), σ = [some (.ref a), some (.int wh), some (.ref lc), some (.ref ld), some (.ref lf), some (.ref ls), y6, y7, none, none, none, none, none, none] ∧ FND H' lf vs (20 * i))
        ⟨Same.refl _, lf, [], _, _, rfl, s6 _ _ kf, Nat.le_refl _, fun v hv => (by cases hv)⟩ (fun i σ H' _ ⟨s, _⟩ => sq_of (s _ _ k6)) ?_ (fun σ H' ⟨s, lf, vs, y6, y7, e, F⟩ => ⟨s6.trans s, lf, vs, y6, y7, e, F.mono (Same.refl _) (by show 20 * 3 ≤ 100; decide)⟩)
      rintro i x σ H7 hi ⟨s7, lf, vs, y6, y7, rfl, F⟩
      have hi3 : i < 3 := (List.getElem?_eq_some_iff.mp hi).1
      obtain ⟨p, rfl, hp⟩ : ∃ p : Int, x = .int p ∧ (p = 3 ∨ p = 5 ∨ p = 7 ∨ p = 11 ∨ p = 101) := by
        simp only [List.mem_cons, List.not_mem_nil, or_false] at hpr
        match i, hi with
        | 0, hi => cases hi; exact ⟨3, rfl, by decide⟩
        | 1, hi => cases hi; exact ⟨5, rfl, by decide⟩
        | 2, hi => cases hi; exact ⟨pr, rfl, by omega⟩
        | n + 3, hi => simp at hi
      have hok : okP (.int p) = true := by rcases hp with rfl | rfl | rfl | rfl | rfl <;> decide +kernel
      obtain ⟨n9, en⟩ : ∃ n9, n9 = (if 9 < p then (9 : Int) else p).toNat := ⟨_, rfl⟩
      have hn9 : 3 ≤ n9 ∧ n9 ≤ 9 ∧ (n9 : Int) ≤ p := by
        rw [en]
        split <;> omega
      obtain ⟨row, erow⟩ : ∃ row : List Int, row = (List.range n9).map fun i : Nat => NT.mk p i := ⟨_, rfl⟩
      have hrl : row.length = n9 := by rw [erow, List.length_map, List.length_range]
      have hrise : row.Pairwise (· < ·) := by
        rw [erow]
        exact rise_range fun i j h => mk_lt (by omega) (by omega)
      have hsid : SD.Sid row := by
        rw [erow, en]
        rcases hp with rfl | rfl | rfl | rfl | rfl <;> decide +kernel
      have hat : ∀ j : Nat, j < n9 → atI (row.map V.int) (j : Int) = some (.int (NT.mk p j)) := fun j hj => atI_nat (by
        rw [erow, List.map_map, List.getElem?_map, List.getElem?_range hj]
        rfl)
      have hlast : row.getLast? = some (NT.mk p ((n9 - 1 : Nat) : Int)) := by
        rw [List.getLast?_eq_getElem?, hrl, erow, List.getElem?_map, List.getElem?_range (by omega)]
        rfl
      have hB : ∀ j : Nat, j < n9 → 0 ≤ NT.mk p j ∧ NT.mk p j < 4000000000000 := fun j hj => mk_b (by omega) (by omega) (by omega) (by omega)
      walk_at "rd"
      rw [← en]
      refine lc_mapR (fun i => .int (NT.mk p i)) (fun _ => rfl) (by omega) (fun j H' hj s Q' k => ?_) (fun D H8 _ s8 eD => ?_)
      · walk_at "rd"
        rw [Int.zero_add]
        exact mark_call hok (by omega) (by omega) (k _ (Same.refl _))
      have eD : H8 D = some (.lst (row.map V.int)) := by rw [eD, erow, List.map_map]; rfl
      have F8 := F.mono s8 (Nat.le_refl _)
      have s78 := s7.trans s8
      have b0 := hB 0 (by omega)
      have b1 := hB 1 (by omega)
      have b2 := hB 2 (by omega)
      have a0 := hat 0 (by omega)
      have a1 := hat 1 (by omega)
      have a2 := hat 2 (by omega)
      have l01 : NT.mk p ((1 : Nat) : Int) < NT.mk p ((2 : Nat) : Int) := mk_lt (by omega) (by decide)
      refine ⟨fun σ H' => ∃ (r : Addr) (Hb : Hp) (vs' : List V), Same H8 Hb ∧ Hb r = none ∧ vs'.length ≤ 20 * i + 4 ∧ (∀ v ∈ vs', PD 1 Hb v) ∧ H' = upd Hb r (.lst vs') ∧ σ = [some (.ref a), some (.int wh), some (.ref lc), some (.ref ld), some (.ref r), some (.ref ls), some (.int p), some (.ref D), none, none, none, none, none, none], ?_, ?_⟩
      · refine cat_pd rfl F8 (by omega) (epd_cons (fun H Q s k => ⟨_, rfl, k _ _ (Same.refl _) (pd_row (s _ _ eD) (by omega))⟩) (epd_cons (fun H Q s k => ?_) (epd_cons (fun H Q s k => ?_) (epd_cons (fun H Q s k => ?_) epd_nil)))) fun r Hb vs' s n l p => ⟨r, Hb, vs', s, n, l, p, rfl, rfl⟩
        · walk_at "rd"
          exact ⟨_, _, sq_of (s _ _ eD), at_last hlast, number_mk hok (by omega) (by omega) (k _ _ (Same.refl _) pd_int)⟩
        · walk_at "rd"
          exact ⟨_, _, sq_of (s _ _ eD), a0, number_mk hok (by omega) (by omega) (k _ _ (Same.refl _) pd_int)⟩
        · walk_at "rd"
          refine ⟨_, _, sq_of (s _ _ eD), a0, _, _, sq_of (s _ _ eD), a1, ?_⟩
          walk_at "rd"
          exact two_pd hok (B.small (by omega)) k
      rintro σ H9 ⟨r1, Hb1, v1, t1, nr1, lv1, pv1, rfl, rfl⟩
      refine ⟨fun σ H' => ∃ (r : Addr) (Hb : Hp) (vs' : List V), Same H8 Hb ∧ Hb r = none ∧ vs'.length ≤ 20 * i + 7 ∧ (∀ v ∈ vs', PD 1 Hb v) ∧ H' = upd Hb r (.lst vs') ∧ σ = [some (.ref a), some (.int wh), some (.ref lc), some (.ref ld), some (.ref r), some (.ref ls), some (.int p), some (.ref D), none, none, none, none, none, none], ?_, ?_⟩
      · have t2 := t1.trans (same_new (o := .lst v1) nr1)
        refine cat_pd rfl (fnd_new nr1 lv1 pv1) (by omega) (epd_cons (fun H Q s k => ?_) (epd_cons (fun H Q s k => ?_) (epd_cons (fun H Q s k => ?_) epd_nil))) fun r Hb vs' s n l p => ⟨r, Hb, vs', t2.trans s, n, l, p, rfl, rfl⟩
        · walk_at "rd"
          refine ⟨_, _, sq_of (s _ _ (t2 _ _ eD)), a1, ?_⟩
          walk_at "rd"
          exact ⟨mulB_small (by decide) (by omega), two_pd hok (B.small (by omega)) k⟩
        · walk_at "rd"
          exact two_pd hok (B.small (by decide)) k
        · walk_at "rd"
          refine ⟨_, _, sq_of (s _ _ (t2 _ _ eD)), a2, _, _, sq_of (s _ _ (t2 _ _ eD)), a1, ?_⟩
          walk_at "rd"
          exact apart_pd hok (by omega) (B.small (by omega)) k
      rintro σ H9 ⟨r2, Hb2, v2, t2, nr2, lv2, pv2, rfl, rfl⟩
      refine ⟨fun σ H' => ∃ (r : Addr) (Hb : Hp) (vs' : List V), Same H8 Hb ∧ Hb r = none ∧ vs'.length ≤ 20 * i + 8 ∧ (∀ v ∈ vs', PD 1 Hb v) ∧ H' = upd Hb r (.lst vs') ∧ σ = [some (.ref a), some (.int wh), some (.ref lc), some (.ref ld), some (.ref r), some (.ref ls), some (.int p), some (.ref D), none, none, none, none, none, none], ?_, ?_⟩
      · have t3 := t2.trans (same_new (o := .lst v2) nr2)
        refine cat_pd rfl (fnd_new nr2 lv2 pv2) (by omega) (epd_cons (fun H Q s k => ?_) epd_nil) fun r Hb vs' s n l p => ⟨r, Hb, vs', t3.trans s, n, l, p, rfl, rfl⟩
        walk_at "rd"
        exact apart_pd hok (by decide) (B.small (by decide)) k
      rintro σ H9 ⟨r3, Hb3, v3, t3, nr3, lv3, pv3, rfl, rfl⟩
      walk_at "rd"
      have m3 := same_new (o := .lst v3) nr3
      refine ⟨ty_list (sq_of upd_same), behind_call (m3 _ _ (t3 _ _ eD)) (by omega) hrise hsid fun x H' nx s => ⟨r3, _, _, rfl, rfl, s _ _ upd_same, ?_, ?_⟩⟩
      · exact Nat.lt_of_lt_of_le (by omega) (show 1000 ≤ sizeLine by decide)
      · have sm := same_mut (o := .lst (v3 ++ [.int x])) (m3.trans s) nr3
        exact ⟨s78.trans (t3.trans sm), r3, _, _, _, rfl, upd_same, by rw [List.length_append, List.length_singleton]; omega, fun v hv => by
          rcases List.mem_append.mp hv with hv | hv
          · exact (pv3 v hv).mono sm
          · rw [List.mem_singleton] at hv
            rw [hv]
            exact pd_int⟩
    rintro σ H6 ⟨s6, lf, vs, y6, y7, rfl, F⟩
    have kls6 := s6 _ _ kls
    have kd6 := s6 _ _ kd
    refine ⟨fun σ H' => ∃ (lf ls : Addr) (vs : List V) (bs : List Bool) (y6 y7 y8 y9 : Option V), σ = [some (.ref a), some (.int wh), some (.ref lc), some (.ref ld), some (.ref lf), some (.ref ls), y6, y7, y8, y9, none, none, none, none] ∧ FND H' lf vs 200 ∧ H' ls = some (.lst (bs.map V.bl)) ∧ bs.length ≤ 20, ?_, ?_⟩
    · walk_at "rd"
      refine ⟨Nat.zero_le _, fun q0 n0 => ⟨by decide, fun q1 n1 => ⟨by decide, fun q2 n2 => ⟨by decide, fun q3 n3 => lc_mapR (fun i => .int (NT.mk 5 i)) (fun _ => rfl) (by decide) (fun j H' hj s Q' k => ?_) (fun D5 H7 _ s7 e7 => ⟨by decide, fun lo nlo => ⟨⟨_, sq_of upd_same⟩, ?_⟩⟩)⟩⟩⟩⟩
      · walk_at "rd"
        rw [Int.zero_add]
        exact mark_call ok5 (by omega) (by omega) (k _ (Same.refl _))
      have s67 : Same H6 H7 := Same.trans (by walk_at "sm") s7
      have k0 : H7 q0 = some (.lst (([] : List Int).map V.int)) := s7 _ _ (by walk_at "kp")
      have k1 : H7 q1 = some (.lst (([7] : List Int).map V.int)) := s7 _ _ (by walk_at "kp")
      have k2 : H7 q2 = some (.lst (([0, 1, 2] : List Int).map V.int)) := s7 _ _ (by walk_at "kp")
      have k3 : H7 q3 = some (.lst (([0, 1, 3] : List Int).map V.int)) := s7 _ _ (by walk_at "kp")
      have k5 : H7 D5 = some (.lst (([0, 11, 24, 34, 41] : List Int).map V.int)) := e7
      have mo := same_new (o := .lst [V.ref ld, V.ref q0, V.ref q1, V.ref q2, V.ref q3, V.ref D5]) nlo
      obtain ⟨H8, e8⟩ : ∃ t, t = upd H7 lo (.lst [V.ref ld, V.ref q0, V.ref q1, V.ref q2, V.ref q3, V.ref D5]) := ⟨_, rfl⟩
      have k8 : H8 lo = some (.lst [V.ref ld, V.ref q0, V.ref q1, V.ref q2, V.ref q3, V.ref D5]) := e8 ▸ upd_same
      have s78 : Same H7 H8 := e8 ▸ mo
      rw [← e8]
      clear e8 mo nlo s7 n3 n2 n1 n0 e7
      refine for_list (K := K) (a := lo) (xs := [V.ref ld, V.ref q0, V.ref q1, V.ref q2, V.ref q3, V.ref D5]) (fun i σ H' => Same H8 H' ∧ ∃ (lf ls : Addr) (vs : List V) (bs : List Bool) (y6 y7 y8 y9 : Option V), σ = [some (.ref a), some (.int wh), some (.ref lc), some (.ref ld), some (.ref lf), some (.ref ls), y6, y7, y8, y9, none, none, none, none] ∧ FND H' lf vs (100 + 2 * i) ∧ H' ls = some (.lst (bs.map V.bl)) ∧ bs.length ≤ 3 * i)
        ⟨Same.refl _, lf, ls, vs, [], _, _, _, _, rfl, F.mono (s67.trans s78) (by omega), s78 _ _ (s67 _ _ kls6), Nat.le_refl _⟩ (fun i σ H' _ ⟨s, _⟩ => sq_of (s _ _ k8)) ?_ (fun σ H' ⟨s, lf, ls, vs, bs, y6, y7, y8, y9, e, F, eb, lb⟩ => ⟨lf, ls, vs, bs, y6, y7, y8, y9, e, F.mono (Same.refl _) (by show 100 + 2 * 6 ≤ 200; decide), eb, Nat.le_trans lb (by show 3 * 6 ≤ 20; decide)⟩)
      rintro i x σ H9 hi ⟨s9, lf, ls, vs, bs, y6, y7, y8, y9, rfl, F, eb, lb⟩
      have hi6 : i < 6 := (List.getElem?_eq_some_iff.mp hi).1
      obtain ⟨lx, xs, rfl, hx, px, lxs⟩ : ∃ (lx : Addr) (xs : List Int), x = .ref lx ∧ H8 lx = some (.lst (xs.map V.int)) ∧ xs.Pairwise (· < ·) ∧ xs.length ≤ 40 := by
        match i, hi with
        | 0, hi => cases hi; exact ⟨ld, ms, rfl, s78 _ _ (s67 _ _ kd6), pd, hdl⟩
        | 1, hi => cases hi; exact ⟨q0, _, rfl, s78 _ _ k0, by decide, by decide⟩
        | 2, hi => cases hi; exact ⟨q1, _, rfl, s78 _ _ k1, by decide, by decide⟩
        | 3, hi => cases hi; exact ⟨q2, _, rfl, s78 _ _ k2, by decide, by decide⟩
        | 4, hi => cases hi; exact ⟨q3, _, rfl, s78 _ _ k3, by decide, by decide⟩
        | 5, hi => cases hi; exact ⟨D5, _, rfl, s78 _ _ k5, by decide, by decide⟩
        | n + 6, hi => simp at hi
      have hx9 := s9 _ _ hx
      walk_at "rd"
      refine told_call hx9 lxs px fun xa o H10 s10 ha hd hn => ?_
      have F10 := F.mono s10 (Nat.le_refl _)
      have hM : ∀ o : Option (Int × Int × Int × Int), PySem.W.kitOne K (.ref (if o.isNone then C_Apart else C_Same)) (.ref C_Same) = some !o.isNone := fun o => by
        cases o with
        | none => exact X_Same.kit u1
        | some _ => exact X_Same.kit X_Same.ss
      refine ⟨fun σ H' => Same H10 H' ∧ ∃ (lf : Addr) (vs : List V), σ = [some (.ref a), some (.int wh), some (.ref lc), some (.ref ld), some (.ref lf), some (.ref ls), y6, y7, some (.ref lx), some (.ref xa), none, none, none, none] ∧ FND H' lf vs (100 + 2 * i + 2), ?_, ?_⟩
      · walk_at "rd"
        refine isi_own (ans_ty X_Apart X_Same ha) (hM o) ⟨_, rfl, ?_⟩
        cases ha with
        | ap e => exact iteF ⟨Same.refl _, lf, vs, rfl, F10.mono (Same.refl _) (by omega)⟩
        | @sm x' dx p1 p2 a' b' c' d' e e1 e2 =>
          refine iteT ⟨fun σ H' => Same H10 H' ∧ ∃ (lf : Addr) (vs : List V), σ = [some (.ref a), some (.int wh), some (.ref lc), some (.ref ld), some (.ref lf), some (.ref ls), y6, y7, some (.ref lx), some (.ref xa), none, none, none, none] ∧ FND H' lf vs (100 + 2 * i + 2), ?_, ?_⟩
          · refine cat_pd rfl F10 (by omega) (epd_cons (fun H Q s k => ?_) (epd_cons (fun H Q s k => ?_) epd_nil)) fun r Hb vs' s n l p => ⟨s.trans (same_new n), r, vs', rfl, fnd_new n l p⟩
            · walk_at "rd"
              exact ⟨_, _, _, _, _, rfl, s _ _ e, S.cl, S.n1, rfl, k _ _ (Same.refl _) (pd_tup (s _ _ e1))⟩
            · walk_at "rd"
              exact ⟨_, _, _, _, _, rfl, s _ _ e, S.cl, S.n2, rfl, k _ _ (Same.refl _) (pd_tup (s _ _ e2))⟩
          · rintro σ H11 ⟨s11, lf', vs', rfl, F11⟩
            walk_at "rd"
            exact ⟨_, _, _, _, _, rfl, s11 _ _ e, S.cl, S.n1, rfl, isi_ty (.base (.tup (s11 _ _ e1))) (isi_tuple (by decide)) ⟨true, rfl, iteT ⟨_, _, _, _, _, rfl, s11 _ _ e, S.cl, S.n2, rfl, isi_ty (.base (.tup (s11 _ _ e2))) (isi_tuple (by decide)) ⟨true, rfl, iteT ⟨s11, lf', vs', rfl, F11⟩⟩⟩⟩⟩
      rintro σ H11 ⟨s11, lf', vs', rfl, F11⟩
      walk_at "rd"
      refine fun xb db nb ndb _ => ⟨by decide, fun t1 nt1 => ⟨by decide, fun t2 nt2 => make_same fun xc dc H12 nxc s12 exc => ⟨by decide, fun l3 nl3 => ⟨⟨_, sq_of upd_same⟩, ?_⟩⟩⟩⟩
      have mA : Same H11 (upd (upd H11 db (.own xb)) xb (.ins C_Apart db [])) := fun b o e => by
        rw [upd_ne (ne_of_none e nb), upd_ne (ne_of_none e ndb)]
        exact e
      have m1 := same_new (o := .tup [V.int 0, V.int 0]) nt1
      have m2 := same_new (o := .tup [V.int 0, V.int 0]) nt2
      have m3 := same_new (o := .lst [V.ref xa, V.ref xb, V.ref xc]) nl3
      have sA := m1.trans (m2.trans (s12.trans m3))
      have s13 := mA.trans sA
      obtain ⟨b3, eb3⟩ : ∃ b3 : List Bool, b3 = [dueB xs o, decide (SD.Sid xs), goodB xs [0, 0] [0, 0]] := ⟨_, rfl⟩
      refine lc_mapL (xs := [V.ref xa, V.ref xb, V.ref xc]) (fun j => .bl (b3.getD j false)) (fun _ => rfl) (sq_of upd_same) (by show 3 ≤ 1000000; decide) (fun j y H' hj s Q' k => ?_) (fun D H' _ s eD => ?_)
      · obtain ⟨y', o', rfl, hA, hb'⟩ : ∃ (y' : Addr) (o' : Option (Int × Int × Int × Int)), y = .ref y' ∧ Ans C_Apart C_Same H' (.ref y') o' ∧ b3.getD j false = dueB xs o' := by
          rw [eb3]
          match j, hj with
          | 0, hj => cases hj; exact ⟨xa, o, rfl, ha.mono (s11.trans (s13.trans s)), rfl⟩
          | 1, hj => cases hj; exact ⟨xb, none, rfl, .ap (s _ _ (sA _ _ upd_same)), rfl⟩
          | 2, hj => cases hj; exact ⟨xc, some (0, 0, 0, 0), rfl, .sm (s _ _ (m3 _ _ exc)) (s _ _ (m3 _ _ (s12 _ _ (m2 _ _ upd_same)))) (s _ _ (m3 _ _ (s12 _ _ upd_same))), rfl⟩
          | n + 3, hj => simp at hj
        rw [hb'] at k
        walk_at "rd"
        exact ans_shows hA (sq_of (s _ _ (s13 _ _ (s11 _ _ (s10 _ _ hx9))))) (by omega) k
      have sB := s11.trans (s13.trans s)
      refine ⟨ls, D, bs.map V.bl, _, rfl, rfl, sB _ _ (s10 _ _ eb), eD, ?_, fun r nr => ⟨s9.trans (s10.trans (sB.trans (same_new nr))), lf', r, vs', bs ++ b3, _, _, _, _, rfl, F11.mono (s13.trans (s.trans (same_new nr))) (by omega), ?_, ?_⟩⟩
      · rw [List.length_map, List.length_map, List.length_range]
        exact Nat.le_trans (show bs.length + 3 ≤ 1000 by omega) (show 1000 ≤ sizeLine by decide)
      · rw [upd_same, List.map_append, eb3]
        rfl
      · rw [List.length_append, eb3]
        show bs.length + 3 ≤ _
        omega
    rintro σ H7 ⟨lf, ls, vs, bs, y6, y7, y8, y9, rfl, F, eb, lb⟩
    walk_at "rd"
    exact ⟨.ref lf, rfl, .inr ⟨lf, vs, rfl, .inl F.1, Nat.le_trans F.2.1 (by decide), F.2.2⟩, fun H8 s8 => ⟨true, rfl, iteT ⟨ls, bs, rfl, s8 _ _ eb, by omega, Same.refl _, fun H9 _ => q _⟩⟩⟩
end
end Sa
namespace Sa
open PySem PySem.Spec PyProof.Rows L2 Evl
theorem def_mk {K : PySem.W.Frag} {h : Heap} {mg : Str → Option Value} {x : Str} {st : Stmt} {ps : List Str} {f : Addr} {oc : Value} {od an : Option Addr} {osl : Array (Option Value)} {kV doc pm cdv ct : Value} (X : K.In h) (G : h.Ns mainGlobals mg)
    (a : PySem.W.nsIn K mainGlobals x = some (some (.ref f))) (l : K.lookup f = some ⟨oc, od, .func (PySem.W.fnOf x x (defArgs st) (defBody st) (defScope st) .none kV doc pm an cdv ct), osl⟩) (c : PySem.W.codeIn K cdv x = true) (k : PySem.W.keepIn K (.ref f) = true)
    (hb : ∀ (kV doc pm : Value) (an : Option Addr) (cdv ct : Value) (us : List Value), us.length = ps.length → bindArgs (PySem.W.fnOf x x (defArgs st) (defBody st) (defScope st) .none kV doc pm an cdv ct) ⟨us, []⟩ = pure (ps.zip us)) :
    DefAt K mg x x st ps f (PySem.W.fnOf x x (defArgs st) (defBody st) (defScope st) .none kV doc pm an cdv ct) :=
  ⟨fun_mk l c k, (fun_mk l c k).binds hb, PySem.W.mg_of X G a⟩
theorem meth_mk {K : PySem.W.Frag} {C : Addr} {m q : Str} {st : Stmt} {ps : List Str} {f : Addr} {oc : Value} {od an : Option Addr} {osl : Array (Option Value)} {kV doc pm cdv ct : Value}
    (a : PySem.W.findIn K (.ref C) m = some (some (.ref f))) (i : PySem.W.isFn K (.ref f) = true) (l : K.lookup f = some ⟨oc, od, .func (PySem.W.fnOf m q (defArgs st) (defBody st) (defScope st) .none kV doc pm an cdv ct), osl⟩) (c : PySem.W.codeIn K cdv q = true) (k : PySem.W.keepIn K (.ref f) = true)
    (hb : ∀ (kV doc pm : Value) (an : Option Addr) (cdv ct : Value) (us : List Value), us.length = ps.length → bindArgs (PySem.W.fnOf m q (defArgs st) (defBody st) (defScope st) .none kV doc pm an cdv ct) ⟨us, []⟩ = pure (ps.zip us)) :
    MethAt K C m q st ps f (PySem.W.fnOf m q (defArgs st) (defBody st) (defScope st) .none kV doc pm an cdv ct) :=
  ⟨fun_mk l c k, (fun_mk l c k).binds hb, ⟨a, i, k⟩⟩
theorem all_mk {l : PySem.W.OpenLaw} {w : World} {K : PySem.W.Frag} {h : Heap} {mg : Str → Option Value} {fa : Addr} (X : K.In h) (G : h.Ns mainGlobals mg) (hfa : mg "law" = some (.ref fa))
    {f_is_number : Addr} {od_is_number an_is_number : Option Addr} {sl_is_number : Array (Option Value)} {oc_is_number kV_is_number dc_is_number pm_is_number cd_is_number ct_is_number : Value}
    {f_is_prime : Addr} {od_is_prime an_is_prime : Option Addr} {sl_is_prime : Array (Option Value)} {oc_is_prime kV_is_prime dc_is_prime pm_is_prime cd_is_prime ct_is_prime : Value}
    {f_asked_prime : Addr} {od_asked_prime an_asked_prime : Option Addr} {sl_asked_prime : Array (Option Value)} {oc_asked_prime kV_asked_prime dc_asked_prime pm_asked_prime cd_asked_prime ct_asked_prime : Value}
    {f_power : Addr} {od_power an_power : Option Addr} {sl_power : Array (Option Value)} {oc_power kV_power dc_power pm_power cd_power ct_power : Value}
    {f_root_of : Addr} {od_root_of an_root_of : Option Addr} {sl_root_of : Array (Option Value)} {oc_root_of kV_root_of dc_root_of pm_root_of cd_root_of ct_root_of : Value}
    {f_mark_of : Addr} {od_mark_of an_mark_of : Option Addr} {sl_mark_of : Array (Option Value)} {oc_mark_of kV_mark_of dc_mark_of pm_mark_of cd_mark_of ct_mark_of : Value}
    {f_mark : Addr} {od_mark an_mark : Option Addr} {sl_mark : Array (Option Value)} {oc_mark kV_mark dc_mark pm_mark cd_mark ct_mark : Value}
    {f_number_of : Addr} {od_number_of an_number_of : Option Addr} {sl_number_of : Array (Option Value)} {oc_number_of kV_number_of dc_number_of pm_number_of cd_number_of ct_number_of : Value}
    {f_two_of : Addr} {od_two_of an_two_of : Option Addr} {sl_two_of : Array (Option Value)} {oc_two_of kV_two_of dc_two_of pm_two_of cd_two_of ct_two_of : Value}
    {f_apart_by : Addr} {od_apart_by an_apart_by : Option Addr} {sl_apart_by : Array (Option Value)} {oc_apart_by kV_apart_by dc_apart_by pm_apart_by cd_apart_by ct_apart_by : Value}
    {f_first_same : Addr} {od_first_same an_first_same : Option Addr} {sl_first_same : Array (Option Value)} {oc_first_same kV_first_same dc_first_same pm_first_same cd_first_same ct_first_same : Value}
    {f_asked_marks : Addr} {od_asked_marks an_asked_marks : Option Addr} {sl_asked_marks : Array (Option Value)} {oc_asked_marks kV_asked_marks dc_asked_marks pm_asked_marks cd_asked_marks ct_asked_marks : Value}
    {f_told : Addr} {od_told an_told : Option Addr} {sl_told : Array (Option Value)} {oc_told kV_told dc_told pm_told cd_told ct_told : Value}
    {f_behind : Addr} {od_behind an_behind : Option Addr} {sl_behind : Array (Option Value)} {oc_behind kV_behind dc_behind pm_behind cd_behind ct_behind : Value}
    {f__law_number : Addr} {od__law_number an__law_number : Option Addr} {sl__law_number : Array (Option Value)} {oc__law_number kV__law_number dc__law_number pm__law_number cd__law_number ct__law_number : Value}
    {f__law_plain : Addr} {od__law_plain an__law_plain : Option Addr} {sl__law_plain : Array (Option Value)} {oc__law_plain kV__law_plain dc__law_plain pm__law_plain cd__law_plain ct__law_plain : Value}
    {f__law_truths : Addr} {od__law_truths an__law_truths : Option Addr} {sl__law_truths : Array (Option Value)} {oc__law_truths kV__law_truths dc__law_truths pm__law_truths cd__law_truths ct__law_truths : Value}
    {f__law_no_of : Addr} {od__law_no_of an__law_no_of : Option Addr} {sl__law_no_of : Array (Option Value)} {oc__law_no_of kV__law_no_of dc__law_no_of pm__law_no_of cd__law_no_of ct__law_no_of : Value}
    {f__law_promises_right : Addr} {od__law_promises_right an__law_promises_right : Option Addr} {sl__law_promises_right : Array (Option Value)} {oc__law_promises_right kV__law_promises_right dc__law_promises_right pm__law_promises_right ct__law_promises_right : Value}
    {cT PT : Addr} {eT : Value} {ddT : Option Addr} {vsT : Array Value} {slT : Array (Option Value)}
    {f_law : Addr} {od_law an_law : Option Addr} {sl_law : Array (Option Value)} {oc_law kV_law dc_law pm_law cd_law ct_law : Value}
    {C_BadPrime : Addr}
    {C_BadNumber : Addr}
    {C_BadMarks : Addr}
    {C_NoMark : Addr}
    {C_NotApart : Addr}
    {C_MarkError : Addr}
    {t_GREATEST : Tok}
    {t_MOST : Tok}
    {C_Apart : Addr}
    {f_Apart_shows : Addr} {od_Apart_shows an_Apart_shows : Option Addr} {sl_Apart_shows : Array (Option Value)} {oc_Apart_shows kV_Apart_shows dc_Apart_shows pm_Apart_shows cd_Apart_shows ct_Apart_shows : Value}
    {C_Same : Addr}
    {f_Same_init : Addr} {od_Same_init an_Same_init : Option Addr} {sl_Same_init : Array (Option Value)} {oc_Same_init kV_Same_init dc_Same_init pm_Same_init cd_Same_init ct_Same_init : Value}
    {f_Same_shows : Addr} {od_Same_shows an_Same_shows : Option Addr} {sl_Same_shows : Array (Option Value)} {oc_Same_shows kV_Same_shows dc_Same_shows pm_Same_shows cd_Same_shows ct_Same_shows : Value}
    (a_is_number : PySem.W.nsIn K mainGlobals "is_number" = some (some (.ref f_is_number))) (l_is_number : K.lookup f_is_number = some ⟨oc_is_number, od_is_number, .func (PySem.W.fnOf "is_number" "is_number" (defArgs s_is_number) (defBody s_is_number) (defScope s_is_number) .none kV_is_number dc_is_number pm_is_number an_is_number cd_is_number ct_is_number), sl_is_number⟩) (c_is_number : PySem.W.codeIn K cd_is_number "is_number" = true) (k_is_number : PySem.W.keepIn K (.ref f_is_number) = true)
    (a_is_prime : PySem.W.nsIn K mainGlobals "is_prime" = some (some (.ref f_is_prime))) (l_is_prime : K.lookup f_is_prime = some ⟨oc_is_prime, od_is_prime, .func (PySem.W.fnOf "is_prime" "is_prime" (defArgs s_is_prime) (defBody s_is_prime) (defScope s_is_prime) .none kV_is_prime dc_is_prime pm_is_prime an_is_prime cd_is_prime ct_is_prime), sl_is_prime⟩) (c_is_prime : PySem.W.codeIn K cd_is_prime "is_prime" = true) (k_is_prime : PySem.W.keepIn K (.ref f_is_prime) = true)
    (a_asked_prime : PySem.W.nsIn K mainGlobals "asked_prime" = some (some (.ref f_asked_prime))) (l_asked_prime : K.lookup f_asked_prime = some ⟨oc_asked_prime, od_asked_prime, .func (PySem.W.fnOf "asked_prime" "asked_prime" (defArgs s_asked_prime) (defBody s_asked_prime) (defScope s_asked_prime) .none kV_asked_prime dc_asked_prime pm_asked_prime an_asked_prime cd_asked_prime ct_asked_prime), sl_asked_prime⟩) (c_asked_prime : PySem.W.codeIn K cd_asked_prime "asked_prime" = true) (k_asked_prime : PySem.W.keepIn K (.ref f_asked_prime) = true)
    (a_power : PySem.W.nsIn K mainGlobals "power" = some (some (.ref f_power))) (l_power : K.lookup f_power = some ⟨oc_power, od_power, .func (PySem.W.fnOf "power" "power" (defArgs s_power) (defBody s_power) (defScope s_power) .none kV_power dc_power pm_power an_power cd_power ct_power), sl_power⟩) (c_power : PySem.W.codeIn K cd_power "power" = true) (k_power : PySem.W.keepIn K (.ref f_power) = true)
    (a_root_of : PySem.W.nsIn K mainGlobals "root_of" = some (some (.ref f_root_of))) (l_root_of : K.lookup f_root_of = some ⟨oc_root_of, od_root_of, .func (PySem.W.fnOf "root_of" "root_of" (defArgs s_root_of) (defBody s_root_of) (defScope s_root_of) .none kV_root_of dc_root_of pm_root_of an_root_of cd_root_of ct_root_of), sl_root_of⟩) (c_root_of : PySem.W.codeIn K cd_root_of "root_of" = true) (k_root_of : PySem.W.keepIn K (.ref f_root_of) = true)
    (a_mark_of : PySem.W.nsIn K mainGlobals "mark_of" = some (some (.ref f_mark_of))) (l_mark_of : K.lookup f_mark_of = some ⟨oc_mark_of, od_mark_of, .func (PySem.W.fnOf "mark_of" "mark_of" (defArgs s_mark_of) (defBody s_mark_of) (defScope s_mark_of) .none kV_mark_of dc_mark_of pm_mark_of an_mark_of cd_mark_of ct_mark_of), sl_mark_of⟩) (c_mark_of : PySem.W.codeIn K cd_mark_of "mark_of" = true) (k_mark_of : PySem.W.keepIn K (.ref f_mark_of) = true)
    (a_mark : PySem.W.nsIn K mainGlobals "mark" = some (some (.ref f_mark))) (l_mark : K.lookup f_mark = some ⟨oc_mark, od_mark, .func (PySem.W.fnOf "mark" "mark" (defArgs s_mark) (defBody s_mark) (defScope s_mark) .none kV_mark dc_mark pm_mark an_mark cd_mark ct_mark), sl_mark⟩) (c_mark : PySem.W.codeIn K cd_mark "mark" = true) (k_mark : PySem.W.keepIn K (.ref f_mark) = true)
    (a_number_of : PySem.W.nsIn K mainGlobals "number_of" = some (some (.ref f_number_of))) (l_number_of : K.lookup f_number_of = some ⟨oc_number_of, od_number_of, .func (PySem.W.fnOf "number_of" "number_of" (defArgs s_number_of) (defBody s_number_of) (defScope s_number_of) .none kV_number_of dc_number_of pm_number_of an_number_of cd_number_of ct_number_of), sl_number_of⟩) (c_number_of : PySem.W.codeIn K cd_number_of "number_of" = true) (k_number_of : PySem.W.keepIn K (.ref f_number_of) = true)
    (a_two_of : PySem.W.nsIn K mainGlobals "two_of" = some (some (.ref f_two_of))) (l_two_of : K.lookup f_two_of = some ⟨oc_two_of, od_two_of, .func (PySem.W.fnOf "two_of" "two_of" (defArgs s_two_of) (defBody s_two_of) (defScope s_two_of) .none kV_two_of dc_two_of pm_two_of an_two_of cd_two_of ct_two_of), sl_two_of⟩) (c_two_of : PySem.W.codeIn K cd_two_of "two_of" = true) (k_two_of : PySem.W.keepIn K (.ref f_two_of) = true)
    (a_apart_by : PySem.W.nsIn K mainGlobals "apart_by" = some (some (.ref f_apart_by))) (l_apart_by : K.lookup f_apart_by = some ⟨oc_apart_by, od_apart_by, .func (PySem.W.fnOf "apart_by" "apart_by" (defArgs s_apart_by) (defBody s_apart_by) (defScope s_apart_by) .none kV_apart_by dc_apart_by pm_apart_by an_apart_by cd_apart_by ct_apart_by), sl_apart_by⟩) (c_apart_by : PySem.W.codeIn K cd_apart_by "apart_by" = true) (k_apart_by : PySem.W.keepIn K (.ref f_apart_by) = true)
    (a_first_same : PySem.W.nsIn K mainGlobals "first_same" = some (some (.ref f_first_same))) (l_first_same : K.lookup f_first_same = some ⟨oc_first_same, od_first_same, .func (PySem.W.fnOf "first_same" "first_same" (defArgs s_first_same) (defBody s_first_same) (defScope s_first_same) .none kV_first_same dc_first_same pm_first_same an_first_same cd_first_same ct_first_same), sl_first_same⟩) (c_first_same : PySem.W.codeIn K cd_first_same "first_same" = true) (k_first_same : PySem.W.keepIn K (.ref f_first_same) = true)
    (a_asked_marks : PySem.W.nsIn K mainGlobals "asked_marks" = some (some (.ref f_asked_marks))) (l_asked_marks : K.lookup f_asked_marks = some ⟨oc_asked_marks, od_asked_marks, .func (PySem.W.fnOf "asked_marks" "asked_marks" (defArgs s_asked_marks) (defBody s_asked_marks) (defScope s_asked_marks) .none kV_asked_marks dc_asked_marks pm_asked_marks an_asked_marks cd_asked_marks ct_asked_marks), sl_asked_marks⟩) (c_asked_marks : PySem.W.codeIn K cd_asked_marks "asked_marks" = true) (k_asked_marks : PySem.W.keepIn K (.ref f_asked_marks) = true)
    (a_told : PySem.W.nsIn K mainGlobals "told" = some (some (.ref f_told))) (l_told : K.lookup f_told = some ⟨oc_told, od_told, .func (PySem.W.fnOf "told" "told" (defArgs s_told) (defBody s_told) (defScope s_told) .none kV_told dc_told pm_told an_told cd_told ct_told), sl_told⟩) (c_told : PySem.W.codeIn K cd_told "told" = true) (k_told : PySem.W.keepIn K (.ref f_told) = true)
    (a_behind : PySem.W.nsIn K mainGlobals "behind" = some (some (.ref f_behind))) (l_behind : K.lookup f_behind = some ⟨oc_behind, od_behind, .func (PySem.W.fnOf "behind" "behind" (defArgs s_behind) (defBody s_behind) (defScope s_behind) .none kV_behind dc_behind pm_behind an_behind cd_behind ct_behind), sl_behind⟩) (c_behind : PySem.W.codeIn K cd_behind "behind" = true) (k_behind : PySem.W.keepIn K (.ref f_behind) = true)
    (a__law_number : PySem.W.nsIn K mainGlobals "_law_number" = some (some (.ref f__law_number))) (l__law_number : K.lookup f__law_number = some ⟨oc__law_number, od__law_number, .func (PySem.W.fnOf "_law_number" "_law_number" (defArgs s__law_number) (defBody s__law_number) (defScope s__law_number) .none kV__law_number dc__law_number pm__law_number an__law_number cd__law_number ct__law_number), sl__law_number⟩) (c__law_number : PySem.W.codeIn K cd__law_number "_law_number" = true) (k__law_number : PySem.W.keepIn K (.ref f__law_number) = true)
    (a__law_plain : PySem.W.nsIn K mainGlobals "_law_plain" = some (some (.ref f__law_plain))) (l__law_plain : K.lookup f__law_plain = some ⟨oc__law_plain, od__law_plain, .func (PySem.W.fnOf "_law_plain" "_law_plain" (defArgs s__law_plain) (defBody s__law_plain) (defScope s__law_plain) .none kV__law_plain dc__law_plain pm__law_plain an__law_plain cd__law_plain ct__law_plain), sl__law_plain⟩) (c__law_plain : PySem.W.codeIn K cd__law_plain "_law_plain" = true) (k__law_plain : PySem.W.keepIn K (.ref f__law_plain) = true)
    (a__law_truths : PySem.W.nsIn K mainGlobals "_law_truths" = some (some (.ref f__law_truths))) (l__law_truths : K.lookup f__law_truths = some ⟨oc__law_truths, od__law_truths, .func (PySem.W.fnOf "_law_truths" "_law_truths" (defArgs s__law_truths) (defBody s__law_truths) (defScope s__law_truths) .none kV__law_truths dc__law_truths pm__law_truths an__law_truths cd__law_truths ct__law_truths), sl__law_truths⟩) (c__law_truths : PySem.W.codeIn K cd__law_truths "_law_truths" = true) (k__law_truths : PySem.W.keepIn K (.ref f__law_truths) = true)
    (a__law_no_of : PySem.W.nsIn K mainGlobals "_law_no_of" = some (some (.ref f__law_no_of))) (l__law_no_of : K.lookup f__law_no_of = some ⟨oc__law_no_of, od__law_no_of, .func (PySem.W.fnOf "_law_no_of" "_law_no_of" (defArgs s__law_no_of) (defBody s__law_no_of) (defScope s__law_no_of) .none kV__law_no_of dc__law_no_of pm__law_no_of an__law_no_of cd__law_no_of ct__law_no_of), sl__law_no_of⟩) (c__law_no_of : PySem.W.codeIn K cd__law_no_of "_law_no_of" = true) (k__law_no_of : PySem.W.keepIn K (.ref f__law_no_of) = true)
    (a__law_promises_right : PySem.W.nsIn K mainGlobals "_law_promises_right" = some (some (.ref f__law_promises_right))) (l__law_promises_right : K.lookup f__law_promises_right = some ⟨oc__law_promises_right, od__law_promises_right, .func (PySem.W.fnOf "_law_promises_right" "_law_promises_right" (defArgs s__law_promises_right) (defBody s__law_promises_right) (defScope s__law_promises_right) .none kV__law_promises_right dc__law_promises_right pm__law_promises_right an__law_promises_right (.ref cT) ct__law_promises_right), sl__law_promises_right⟩) (c__law_promises_right : PySem.W.codeIn K (.ref cT) "_law_promises_right" = true) (k__law_promises_right : PySem.W.keepIn K (.ref f__law_promises_right) = true)
    (lcT : K.lookup cT = some ⟨eT, ddT, .fields vsT, slT⟩) (v11T : vsT[11]? = some (.ref PT)) (hhT : PySem.W.codeHdIn K cT PT = true) (nPT : K.lookup PT = none)
    (a_law : PySem.W.nsIn K mainGlobals "law" = some (some (.ref f_law))) (l_law : K.lookup f_law = some ⟨oc_law, od_law, .func (PySem.W.fnOf "law" "law" (defArgs s_law) (defBody s_law) (defScope s_law) .none kV_law dc_law pm_law an_law cd_law ct_law), sl_law⟩) (c_law : PySem.W.codeIn K cd_law "law" = true) (k_law : PySem.W.keepIn K (.ref f_law) = true)
    (z_len : PySem.W.nsIn K mainGlobals "len" = some none)
    (z_isinstance : PySem.W.nsIn K mainGlobals "isinstance" = some none)
    (z_int : PySem.W.nsIn K mainGlobals "int" = some none)
    (z_bool : PySem.W.nsIn K mainGlobals "bool" = some none)
    (z_list : PySem.W.nsIn K mainGlobals "list" = some none)
    (z_tuple : PySem.W.nsIn K mainGlobals "tuple" = some none)
    (z_str : PySem.W.nsIn K mainGlobals "str" = some none)
    (z_range : PySem.W.nsIn K mainGlobals "range" = some none)
    (z_sum : PySem.W.nsIn K mainGlobals "sum" = some none)
    (z_min : PySem.W.nsIn K mainGlobals "min" = some none)
    (z_max : PySem.W.nsIn K mainGlobals "max" = some none)
    (z_any : PySem.W.nsIn K mainGlobals "any" = some none)
    (z_all : PySem.W.nsIn K mainGlobals "all" = some none)
    (z_sorted : PySem.W.nsIn K mainGlobals "sorted" = some none)
    (z_set : PySem.W.nsIn K mainGlobals "set" = some none)
    (z_enumerate : PySem.W.nsIn K mainGlobals "enumerate" = some none)
    (z_abs : PySem.W.nsIn K mainGlobals "abs" = some none)
    (h_MarkError : PySem.W.nsIn K mainGlobals "MarkError" = some (some (.ref C_MarkError))) (ic_MarkError : PySem.W.isClsIn K C_MarkError = true) (tt_MarkError : PySem.W.typeIn K (.ref C_MarkError) = some (.type "type")) (ss_MarkError : PySem.W.subIn K (.ref C_MarkError) (.ref C_MarkError) = some true) (bb_MarkError : PySem.W.subIn K (.ref C_MarkError) (.type "BaseException") = some true)
    (h_NoMark : PySem.W.nsIn K mainGlobals "NoMark" = some (some (.ref C_NoMark))) (ic_NoMark : PySem.W.isClsIn K C_NoMark = true) (tt_NoMark : PySem.W.typeIn K (.ref C_NoMark) = some (.type "type")) (ss_NoMark : PySem.W.subIn K (.ref C_NoMark) (.ref C_NoMark) = some true) (bb_NoMark : PySem.W.subIn K (.ref C_NoMark) (.type "BaseException") = some true)
    (h_NotApart : PySem.W.nsIn K mainGlobals "NotApart" = some (some (.ref C_NotApart))) (ic_NotApart : PySem.W.isClsIn K C_NotApart = true) (tt_NotApart : PySem.W.typeIn K (.ref C_NotApart) = some (.type "type")) (ss_NotApart : PySem.W.subIn K (.ref C_NotApart) (.ref C_NotApart) = some true) (bb_NotApart : PySem.W.subIn K (.ref C_NotApart) (.type "BaseException") = some true)
    (e1_NoMark : PySem.W.findIn K (.ref C_NoMark) "__getattribute__" = some (some (.builtin "BaseException.__getattribute__"))) (e2_NoMark : PySem.W.findIn K (.ref C_NoMark) "__getattr__" = some none) (e3_NoMark : PySem.W.subIn K (.ref C_NoMark) (.type "BaseException") = some true) (e4_NoMark : PySem.W.hasDictIn K C_NoMark = true) (e5_NoMark : PySem.W.findIn K (.ref C_NoMark) "__class__" = some (some (.builtin "object.__class__"))) (e6_NoMark : PySem.W.specialIn K (.builtin "object.__class__") "__get__" = some (some (.builtin "getset_descriptor.__get__"))) (e7_NoMark : PySem.W.takesIn K (.builtin "object.__class__") = some true) (e8_NoMark : PySem.W.mroIn K C_NoMark (.type "object") = some true)
    (s_NoMark_MarkError : PySem.W.subIn K (.ref C_NoMark) (.ref C_MarkError) = some true)
    (s_NoMark_NoMark : PySem.W.subIn K (.ref C_NoMark) (.ref C_NoMark) = some true)
    (s_NoMark_NotApart : PySem.W.subIn K (.ref C_NoMark) (.ref C_NotApart) = some false)
    (e1_NotApart : PySem.W.findIn K (.ref C_NotApart) "__getattribute__" = some (some (.builtin "BaseException.__getattribute__"))) (e2_NotApart : PySem.W.findIn K (.ref C_NotApart) "__getattr__" = some none) (e3_NotApart : PySem.W.subIn K (.ref C_NotApart) (.type "BaseException") = some true) (e4_NotApart : PySem.W.hasDictIn K C_NotApart = true) (e5_NotApart : PySem.W.findIn K (.ref C_NotApart) "__class__" = some (some (.builtin "object.__class__"))) (e6_NotApart : PySem.W.specialIn K (.builtin "object.__class__") "__get__" = some (some (.builtin "getset_descriptor.__get__"))) (e7_NotApart : PySem.W.takesIn K (.builtin "object.__class__") = some true) (e8_NotApart : PySem.W.mroIn K C_NotApart (.type "object") = some true)
    (s_NotApart_MarkError : PySem.W.subIn K (.ref C_NotApart) (.ref C_MarkError) = some true)
    (s_NotApart_NoMark : PySem.W.subIn K (.ref C_NotApart) (.ref C_NoMark) = some false)
    (s_NotApart_NotApart : PySem.W.subIn K (.ref C_NotApart) (.ref C_NotApart) = some true)
    (g_BadPrime : PySem.W.nsIn K mainGlobals "BadPrime" = some (some (.ref C_BadPrime))) (x_BadPrime : PySem.W.excIn K C_BadPrime [.type "ValueError", .type "Exception", .type "BaseException", .type "object"] "ValueError.__new__" = true) (kp_BadPrime : PySem.W.keepIn K (.ref C_BadPrime) = true) (sb_BadPrime : PySem.W.subIn K (.ref C_BadPrime) (.type "BaseException") = some true) (ty_BadPrime : PySem.W.typeIn K (.ref C_BadPrime) = some (.type "type"))
    (g_BadNumber : PySem.W.nsIn K mainGlobals "BadNumber" = some (some (.ref C_BadNumber))) (x_BadNumber : PySem.W.excIn K C_BadNumber [.type "ValueError", .type "Exception", .type "BaseException", .type "object"] "ValueError.__new__" = true) (kp_BadNumber : PySem.W.keepIn K (.ref C_BadNumber) = true) (sb_BadNumber : PySem.W.subIn K (.ref C_BadNumber) (.type "BaseException") = some true) (ty_BadNumber : PySem.W.typeIn K (.ref C_BadNumber) = some (.type "type"))
    (g_BadMarks : PySem.W.nsIn K mainGlobals "BadMarks" = some (some (.ref C_BadMarks))) (x_BadMarks : PySem.W.excIn K C_BadMarks [.type "ValueError", .type "Exception", .type "BaseException", .type "object"] "ValueError.__new__" = true) (kp_BadMarks : PySem.W.keepIn K (.ref C_BadMarks) = true) (sb_BadMarks : PySem.W.subIn K (.ref C_BadMarks) (.type "BaseException") = some true) (ty_BadMarks : PySem.W.typeIn K (.ref C_BadMarks) = some (.type "type"))
    (g_NoMark : PySem.W.nsIn K mainGlobals "NoMark" = some (some (.ref C_NoMark))) (x_NoMark : PySem.W.excIn K C_NoMark [.type "ValueError", .type "Exception", .type "BaseException", .type "object"] "ValueError.__new__" = true) (kp_NoMark : PySem.W.keepIn K (.ref C_NoMark) = true) (sb_NoMark : PySem.W.subIn K (.ref C_NoMark) (.type "BaseException") = some true) (ty_NoMark : PySem.W.typeIn K (.ref C_NoMark) = some (.type "type"))
    (g_NotApart : PySem.W.nsIn K mainGlobals "NotApart" = some (some (.ref C_NotApart))) (x_NotApart : PySem.W.excIn K C_NotApart [.type "ValueError", .type "Exception", .type "BaseException", .type "object"] "ValueError.__new__" = true) (kp_NotApart : PySem.W.keepIn K (.ref C_NotApart) = true) (sb_NotApart : PySem.W.subIn K (.ref C_NotApart) (.type "BaseException") = some true) (ty_NotApart : PySem.W.typeIn K (.ref C_NotApart) = some (.type "type"))
    (n_GREATEST : PySem.W.nsIn K mainGlobals "GREATEST" = some (some (.int 1000000 t_GREATEST)))
    (n_MOST : PySem.W.nsIn K mainGlobals "MOST" = some (some (.int 40 t_MOST)))
    (oh_Apart : PySem.W.nsIn K mainGlobals "Apart" = some (some (.ref C_Apart))) (o1_Apart : PySem.W.plainGet K C_Apart Str.empty = true) (o2_Apart : PySem.W.hasDictIn K C_Apart = true) (o3_Apart : PySem.W.plainOver K C_Apart = true) (o4_Apart : PySem.W.findIn K (.ref C_Apart) "__setattr__" = some (some (.builtin "object.__setattr__")))
    (o5_Apart : PySem.W.findIn K (.ref C_Apart) "__class__" = some (some (.builtin "object.__class__"))) (o6_Apart : PySem.W.specialIn K (.builtin "object.__class__") "__get__" = some (some (.builtin "getset_descriptor.__get__"))) (o7_Apart : PySem.W.takesIn K (.builtin "object.__class__") = some true) (o8_Apart : PySem.W.mroIn K C_Apart (.type "object") = some true) (o9_Apart : PySem.W.isClsIn K C_Apart = true) (oa_Apart : PySem.W.typeIn K (.ref C_Apart) = some (.type "type")) (ob_Apart : PySem.W.subIn K (.ref C_Apart) (.ref C_Apart) = some true)
    (mm_Apart : PySem.W.makesIn K C_Apart = true) (mp_Apart : PySem.W.keepIn K (.ref C_Apart) = true)
    (mi_Apart : PySem.W.findIn K (.ref C_Apart) "__init__" = some (some (.builtin "object.__init__")))
    (a_Apart_shows : PySem.W.findIn K (.ref C_Apart) "shows" = some (some (.ref f_Apart_shows))) (l_Apart_shows : K.lookup f_Apart_shows = some ⟨oc_Apart_shows, od_Apart_shows, .func (PySem.W.fnOf "shows" "Apart.shows" (defArgs s_Apart_shows) (defBody s_Apart_shows) (defScope s_Apart_shows) .none kV_Apart_shows dc_Apart_shows pm_Apart_shows an_Apart_shows cd_Apart_shows ct_Apart_shows), sl_Apart_shows⟩) (c_Apart_shows : PySem.W.codeIn K cd_Apart_shows "Apart.shows" = true) (k_Apart_shows : PySem.W.keepIn K (.ref f_Apart_shows) = true) (i_Apart_shows : PySem.W.isFn K (.ref f_Apart_shows) = true)
    (oh_Same : PySem.W.nsIn K mainGlobals "Same" = some (some (.ref C_Same))) (o1_Same : PySem.W.plainGet K C_Same Str.empty = true) (o2_Same : PySem.W.hasDictIn K C_Same = true) (o3_Same : PySem.W.plainOver K C_Same = true) (o4_Same : PySem.W.findIn K (.ref C_Same) "__setattr__" = some (some (.builtin "object.__setattr__")))
    (o5_Same : PySem.W.findIn K (.ref C_Same) "__class__" = some (some (.builtin "object.__class__"))) (o6_Same : PySem.W.specialIn K (.builtin "object.__class__") "__get__" = some (some (.builtin "getset_descriptor.__get__"))) (o7_Same : PySem.W.takesIn K (.builtin "object.__class__") = some true) (o8_Same : PySem.W.mroIn K C_Same (.type "object") = some true) (o9_Same : PySem.W.isClsIn K C_Same = true) (oa_Same : PySem.W.typeIn K (.ref C_Same) = some (.type "type")) (ob_Same : PySem.W.subIn K (.ref C_Same) (.ref C_Same) = some true)
    (mm_Same : PySem.W.makesIn K C_Same = true) (mp_Same : PySem.W.keepIn K (.ref C_Same) = true)
    (a_Same_init : PySem.W.findIn K (.ref C_Same) "__init__" = some (some (.ref f_Same_init))) (l_Same_init : K.lookup f_Same_init = some ⟨oc_Same_init, od_Same_init, .func (PySem.W.fnOf "__init__" "Same.__init__" (defArgs s_Same_init) (defBody s_Same_init) (defScope s_Same_init) .none kV_Same_init dc_Same_init pm_Same_init an_Same_init cd_Same_init ct_Same_init), sl_Same_init⟩) (c_Same_init : PySem.W.codeIn K cd_Same_init "Same.__init__" = true) (k_Same_init : PySem.W.keepIn K (.ref f_Same_init) = true) (i_Same_init : PySem.W.isFn K (.ref f_Same_init) = true)
    (nn_Same_one : PySem.W.findIn K (.ref C_Same) "one" = some none) (nn_Same_other : PySem.W.findIn K (.ref C_Same) "other" = some none)
    (a_Same_shows : PySem.W.findIn K (.ref C_Same) "shows" = some (some (.ref f_Same_shows))) (l_Same_shows : K.lookup f_Same_shows = some ⟨oc_Same_shows, od_Same_shows, .func (PySem.W.fnOf "shows" "Same.shows" (defArgs s_Same_shows) (defBody s_Same_shows) (defScope s_Same_shows) .none kV_Same_shows dc_Same_shows pm_Same_shows an_Same_shows cd_Same_shows ct_Same_shows), sl_Same_shows⟩) (c_Same_shows : PySem.W.codeIn K cd_Same_shows "Same.shows" = true) (k_Same_shows : PySem.W.keepIn K (.ref f_Same_shows) = true) (i_Same_shows : PySem.W.isFn K (.ref f_Same_shows) = true)
    (u_Apart_Same : PySem.W.subIn K (.ref C_Apart) (.ref C_Same) = some false)
    (u_Same_Apart : PySem.W.subIn K (.ref C_Same) (.ref C_Apart) = some false) (tbT : h.get? PT = some (PySem.W.tabObj #[])) :
    LamX.LawAtS l w K CX0 8 63 "_law_script" mg fa h := by
  have e := hfa.symm.trans (PySem.W.mg_of X G a_law)
  cases e
  have D_is_number := def_mk (x := "is_number") (st := s_is_number) (ps := ["thing"]) X G a_is_number l_is_number c_is_number k_is_number fun _ _ _ _ _ _ us hl => match us, hl with | [_], _ => rfl
  have D_is_prime := def_mk (x := "is_prime") (st := s_is_prime) (ps := ["number"]) X G a_is_prime l_is_prime c_is_prime k_is_prime fun _ _ _ _ _ _ us hl => match us, hl with | [_], _ => rfl
  have D_asked_prime := def_mk (x := "asked_prime") (st := s_asked_prime) (ps := ["prime"]) X G a_asked_prime l_asked_prime c_asked_prime k_asked_prime fun _ _ _ _ _ _ us hl => match us, hl with | [_], _ => rfl
  have D_power := def_mk (x := "power") (st := s_power) (ps := ["number", "often", "prime"]) X G a_power l_power c_power k_power fun _ _ _ _ _ _ us hl => match us, hl with | [_, _, _], _ => rfl
  have D_root_of := def_mk (x := "root_of") (st := s_root_of) (ps := ["number", "prime"]) X G a_root_of l_root_of c_root_of k_root_of fun _ _ _ _ _ _ us hl => match us, hl with | [_, _], _ => rfl
  have D_mark_of := def_mk (x := "mark_of") (st := s_mark_of) (ps := ["prime", "number"]) X G a_mark_of l_mark_of c_mark_of k_mark_of fun _ _ _ _ _ _ us hl => match us, hl with | [_, _], _ => rfl
  have D_mark := def_mk (x := "mark") (st := s_mark) (ps := ["prime", "number"]) X G a_mark l_mark c_mark k_mark fun _ _ _ _ _ _ us hl => match us, hl with | [_, _], _ => rfl
  have D_number_of := def_mk (x := "number_of") (st := s_number_of) (ps := ["prime", "found"]) X G a_number_of l_number_of c_number_of k_number_of fun _ _ _ _ _ _ us hl => match us, hl with | [_, _], _ => rfl
  have D_two_of := def_mk (x := "two_of") (st := s_two_of) (ps := ["prime", "total"]) X G a_two_of l_two_of c_two_of k_two_of fun _ _ _ _ _ _ us hl => match us, hl with | [_, _], _ => rfl
  have D_apart_by := def_mk (x := "apart_by") (st := s_apart_by) (ps := ["prime", "difference"]) X G a_apart_by l_apart_by c_apart_by k_apart_by fun _ _ _ _ _ _ us hl => match us, hl with | [_, _], _ => rfl
  have D_first_same := def_mk (x := "first_same") (st := s_first_same) (ps := ["marks"]) X G a_first_same l_first_same c_first_same k_first_same fun _ _ _ _ _ _ us hl => match us, hl with | [_], _ => rfl
  have D_asked_marks := def_mk (x := "asked_marks") (st := s_asked_marks) (ps := ["marks"]) X G a_asked_marks l_asked_marks c_asked_marks k_asked_marks fun _ _ _ _ _ _ us hl => match us, hl with | [_], _ => rfl
  have D_told := def_mk (x := "told") (st := s_told) (ps := ["marks"]) X G a_told l_told c_told k_told fun _ _ _ _ _ _ us hl => match us, hl with | [_], _ => rfl
  have D_behind := def_mk (x := "behind") (st := s_behind) (ps := ["marks"]) X G a_behind l_behind c_behind k_behind fun _ _ _ _ _ _ us hl => match us, hl with | [_], _ => rfl
  have D__law_number := def_mk (x := "_law_number") (st := s__law_number) (ps := ["_law_cell", "_law_at", "_law_whole"]) X G a__law_number l__law_number c__law_number k__law_number fun _ _ _ _ _ _ us hl => match us, hl with | [_, _, _], _ => rfl
  have D__law_plain := def_mk (x := "_law_plain") (st := s__law_plain) (ps := ["_law_thing"]) X G a__law_plain l__law_plain c__law_plain k__law_plain fun _ _ _ _ _ _ us hl => match us, hl with | [_], _ => rfl
  have D__law_truths := def_mk (x := "_law_truths") (st := s__law_truths) (ps := ["_law_things"]) X G a__law_truths l__law_truths c__law_truths k__law_truths fun _ _ _ _ _ _ us hl => match us, hl with | [_], _ => rfl
  have D__law_no_of := def_mk (x := "_law_no_of") (st := s__law_no_of) (ps := ["_law_ask"]) X G a__law_no_of l__law_no_of c__law_no_of k__law_no_of fun _ _ _ _ _ _ us hl => match us, hl with | [_], _ => rfl
  have D__law_promises_right := def_mk (x := "_law_promises_right") (st := s__law_promises_right) (ps := []) X G a__law_promises_right l__law_promises_right c__law_promises_right k__law_promises_right fun _ _ _ _ _ _ us hl => match us, hl with | [], _ => rfl
  have D_law := def_mk (x := "law") (st := s_law) (ps := ["_law_script"]) X G a_law l_law c_law k_law fun _ _ _ _ _ _ us hl => match us, hl with | [_], _ => rfl
  have T : Blt mg := ⟨PySem.W.mg_none_of X G z_len, PySem.W.mg_none_of X G z_isinstance, PySem.W.mg_none_of X G z_int, PySem.W.mg_none_of X G z_bool, PySem.W.mg_none_of X G z_list, PySem.W.mg_none_of X G z_tuple, PySem.W.mg_none_of X G z_str, PySem.W.mg_none_of X G z_range, PySem.W.mg_none_of X G z_sum, PySem.W.mg_none_of X G z_min, PySem.W.mg_none_of X G z_max, PySem.W.mg_none_of X G z_any, PySem.W.mg_none_of X G z_all, PySem.W.mg_none_of X G z_sorted, PySem.W.mg_none_of X G z_set, PySem.W.mg_none_of X G z_enumerate, PySem.W.mg_none_of X G z_abs⟩
  have E_MarkError : ErrC K mg "MarkError" C_MarkError := ⟨PySem.W.mg_of X G h_MarkError, ic_MarkError, tt_MarkError, ss_MarkError, bb_MarkError⟩
  have E_NoMark : ErrC K mg "NoMark" C_NoMark := ⟨PySem.W.mg_of X G h_NoMark, ic_NoMark, tt_NoMark, ss_NoMark, bb_NoMark⟩
  have E_NotApart : ErrC K mg "NotApart" C_NotApart := ⟨PySem.W.mg_of X G h_NotApart, ic_NotApart, tt_NotApart, ss_NotApart, bb_NotApart⟩
  have Y_NoMark : ExcC K C_NoMark := ⟨e1_NoMark, e2_NoMark, e3_NoMark, e4_NoMark, e5_NoMark, e6_NoMark, e7_NoMark, e8_NoMark⟩
  have Y_NotApart : ExcC K C_NotApart := ⟨e1_NotApart, e2_NotApart, e3_NotApart, e4_NotApart, e5_NotApart, e6_NotApart, e7_NotApart, e8_NotApart⟩
  have X_BadPrime : ErrAt K mg "BadPrime" C_BadPrime := ⟨PySem.W.mg_of X G g_BadPrime, x_BadPrime, kp_BadPrime, sb_BadPrime, ty_BadPrime⟩
  have X_BadNumber : ErrAt K mg "BadNumber" C_BadNumber := ⟨PySem.W.mg_of X G g_BadNumber, x_BadNumber, kp_BadNumber, sb_BadNumber, ty_BadNumber⟩
  have X_BadMarks : ErrAt K mg "BadMarks" C_BadMarks := ⟨PySem.W.mg_of X G g_BadMarks, x_BadMarks, kp_BadMarks, sb_BadMarks, ty_BadMarks⟩
  have X_NoMark : ErrAt K mg "NoMark" C_NoMark := ⟨PySem.W.mg_of X G g_NoMark, x_NoMark, kp_NoMark, sb_NoMark, ty_NoMark⟩
  have X_NotApart : ErrAt K mg "NotApart" C_NotApart := ⟨PySem.W.mg_of X G g_NotApart, x_NotApart, kp_NotApart, sb_NotApart, ty_NotApart⟩
  have C_GREATEST := PySem.W.mg_of X G n_GREATEST
  have C_MOST := PySem.W.mg_of X G n_MOST
  have cl_Apart : Cls K C_Apart := ⟨o1_Apart, o2_Apart, o3_Apart, o4_Apart⟩
  have X_Apart : ClsX K mg "Apart" C_Apart := ⟨PySem.W.mg_of X G oh_Apart, cl_Apart, o5_Apart, o6_Apart, o7_Apart, o8_Apart, o9_Apart, oa_Apart, ob_Apart⟩
  have M_Apart : Mk0 K C_Apart := ⟨mm_Apart, mi_Apart, o8_Apart, mp_Apart⟩
  have D_Apart_shows := meth_mk (C := C_Apart) (m := "shows") (q := "Apart.shows") (st := s_Apart_shows) (ps := ["self", "marks"]) a_Apart_shows i_Apart_shows l_Apart_shows c_Apart_shows k_Apart_shows fun _ _ _ _ _ _ us hl => match us, hl with | [_, _], _ => rfl
  have cl_Same : Cls K C_Same := ⟨o1_Same, o2_Same, o3_Same, o4_Same⟩
  have X_Same : ClsX K mg "Same" C_Same := ⟨PySem.W.mg_of X G oh_Same, cl_Same, o5_Same, o6_Same, o7_Same, o8_Same, o9_Same, oa_Same, ob_Same⟩
  have D_Same_init := meth_mk (C := C_Same) (m := "__init__") (q := "Same.__init__") (st := s_Same_init) (ps := ["self", "one", "other"]) a_Same_init i_Same_init l_Same_init c_Same_init k_Same_init fun _ _ _ _ _ _ us hl => match us, hl with | [_, _, _], _ => rfl
  have M_Same : Mk K C_Same f_Same_init := ⟨mm_Same, a_Same_init, i_Same_init, mp_Same⟩
  have D_Same_shows := meth_mk (C := C_Same) (m := "shows") (q := "Same.shows") (st := s_Same_shows) (ps := ["self", "marks"]) a_Same_shows i_Same_shows l_Same_shows c_Same_shows k_Same_shows fun _ _ _ _ _ _ us hl => match us, hl with | [_, _], _ => rfl
  refine ⟨PySem.W.fnOf "law" "law" (defArgs s_law) (defBody s_law) (defScope s_law) .none kV_law dc_law pm_law an_law cd_law ct_law, [(cT, PT)], spLaw7 K [(PT, qL)], fun p hp => ?_, fun p hp => ?_, fun p hp => ?_, fun s v => .of_eq rfl, fun H a ns hl hb hT hS => ⟨a, ns, rfl, hS, hl, fun z hz => B.bits (hb z hz), fun p hp => ?_, fun _ => rfl⟩, fun base _ _ hTB => ?_⟩
  · rw [List.mem_singleton] at hp
    rw [hp]
    exact tbT
  · rw [List.mem_singleton] at hp
    rw [hp]
    exact nPT
  · rw [List.mem_singleton] at hp
    rw [hp]
    exact PySem.W.codeHd_of_K X hhT
  · rw [List.mem_singleton] at hp
    rw [hp]
    exact LamX.TabS.nil (hT (cT, PT) List.mem_cons_self)
  have TB : LamX.TabB base mg cT PT := hTB (cT, PT) List.mem_cons_self
  have S : SameAt K C_Same := ⟨cl_Same, nn_Same_one, nn_Same_other⟩
  have G_is_number : FnOk l.prog w K mg base CX0 1 _ _ ["thing"] (spIsNum K) := ok_is_number T D_is_number.F
  have G_asked_prime : FnOk l.prog w K mg base (L2N.CX l.prog w) 2 _ _ ["prime"] (spAskedPrime K C_BadPrime) := ok_asked_prime T D_asked_prime.F X_BadPrime C_GREATEST D_is_number D_is_prime
  have G_power : FnOk l.prog w K mg base CX0 1 _ _ ["number", "often", "prime"] spPower := ok_power D_power.F
  have G_mark_of : FnOk l.prog w K mg base CX0 1 _ _ ["prime", "number"] spMarkOf := ok_mark_of D_mark_of.F
  have G_root_of : FnOk l.prog w K mg base CX0 2 _ _ ["number", "prime"] spRoot := ok_root_of D_root_of.F D_power
  have G_mark : FnOk l.prog w K mg base (L2N.CX l.prog w) 3 _ _ ["prime", "number"] (spMark K C_BadPrime C_BadNumber) := ok_mark D_mark.F X_BadNumber D_is_number G_is_number D_asked_prime G_asked_prime D_mark_of G_mark_of
  have G_number_of : FnOk l.prog w K mg base (L2N.CX l.prog w) 3 _ _ ["prime", "found"] (spNumberOf K C_BadPrime C_BadNumber C_NoMark) := ok_number_of D_number_of.F X_BadNumber X_NoMark D_is_number G_is_number D_asked_prime G_asked_prime D_mark_of G_mark_of
  have G_two_of : FnOk l.prog w K mg base (L2N.CX l.prog w) 3 _ _ ["prime", "total"] (spTwoOf K C_BadPrime C_BadNumber) := ok_two_of T D_two_of.F X_BadNumber D_is_number G_is_number D_asked_prime G_asked_prime D_power G_power D_mark_of G_mark_of D_root_of G_root_of
  have G_apart_by : FnOk l.prog w K mg base (L2N.CX l.prog w) 3 _ _ ["prime", "difference"] (spApartBy K C_BadPrime C_BadNumber) := ok_apart_by D_apart_by.F X_BadNumber D_is_number G_is_number D_asked_prime G_asked_prime D_power G_power D_mark_of G_mark_of
  have G_first_same : FnOk l.prog w K mg base CX0 1 _ _ ["marks"] (spFirst K) := ok_first T D_first_same.F
  have G_asked_marks : FnOk l.prog w K mg base (L2N.CX l.prog w) 2 _ _ ["marks"] (spAskedMarks K C_BadMarks) := ok_asked_marks T D_asked_marks.F X_BadMarks C_MOST D_is_number
  have G_told : FnOk l.prog w K mg base (L2N.CX l.prog w) 3 _ _ ["marks"] (spTold K C_BadMarks C_Apart C_Same) := ok_told T D_told.F S X_Same M_Same X_Apart M_Apart D_asked_marks G_asked_marks D_first_same G_first_same D_Same_init
  have G_behind : FnOk l.prog w K mg base (L2N.CX l.prog w) 3 _ _ ["marks"] (spBehind K C_BadMarks C_NotApart) := ok_behind T D_behind.F X_NotApart D_asked_marks G_asked_marks D_first_same G_first_same
  have G_sa : FnOk l.prog w K mg base CX0 2 _ _ ["self", "marks"] (spShowsA K) := ok_shows_a T D_Apart_shows.F D_first_same G_first_same
  have G_ss : FnOk l.prog w K mg base CX0 1 _ _ ["self", "marks"] (spShowsS K C_Same) := ok_shows_s T S D_Same_shows.F
  have G_pr := ok_promises (P := l.prog) (w := w) T l__law_promises_right c__law_promises_right TB E_MarkError E_NoMark E_NotApart Y_NoMark Y_NotApart s_NoMark_MarkError s_NotApart_MarkError s_NoMark_NotApart s_NotApart_NoMark S X_Same M_Same X_Apart M_Apart u_Apart_Same u_Same_Apart D_mark G_mark D_number_of G_number_of D_two_of G_two_of D_apart_by G_apart_by D_told G_told D_behind G_behind D__law_no_of D_Same_init D_Apart_shows G_sa D_Same_shows G_ss
  exact ok_law T T.b_abs D_law.F S X_Same M_Same X_Apart M_Apart u_Apart_Same D_mark G_mark D_number_of G_number_of D_two_of G_two_of D_apart_by G_apart_by D_told G_told D_behind G_behind D__law_promises_right G_pr D_Same_init D_Apart_shows G_sa D_Same_shows G_ss D__law_number (ok_number D__law_number.F) D__law_plain (ok_plain T D__law_plain 2) D__law_truths (ok_truths T D__law_truths.F)
end Sa
open PySem PySem.W PyProof.Rows
set_option maxHeartbeats 0 in
theorem PySem.Challenge.cw_sumsapart_k07_whole_numbers_holds : PySem.Challenge.rw_sumsapart_k07_whole_numbers.Holds := by
  w_on; o_law; k_head; (case hw => w_witness2)
  k_fill
  refine LamX.walk_ofTs (l := PySem.Challenge.rw_sumsapart_k07_whole_numbers) (n := 63) (k := 8) (x := "_law_script") (CX := fun _ => L2.CX0) rfl (by decide) rfl ⟨rfl, by decide, by decide⟩ (fun w h Y => PySem.W.km_in_of Y) ?F (fun _ _ _ _ _ h => h)
  case F =>
    intro w mg fa h Y KX G hmg
    refine' Sa.all_mk KX G hmg ?a_is_number ?l_is_number ?c_is_number ?k_is_number ?a_is_prime ?l_is_prime ?c_is_prime ?k_is_prime ?a_asked_prime ?l_asked_prime ?c_asked_prime ?k_asked_prime ?a_power ?l_power ?c_power ?k_power ?a_root_of ?l_root_of ?c_root_of ?k_root_of ?a_mark_of ?l_mark_of ?c_mark_of ?k_mark_of ?a_mark ?l_mark ?c_mark ?k_mark ?a_number_of ?l_number_of ?c_number_of ?k_number_of ?a_two_of ?l_two_of ?c_two_of ?k_two_of ?a_apart_by ?l_apart_by ?c_apart_by ?k_apart_by ?a_first_same ?l_first_same ?c_first_same ?k_first_same ?a_asked_marks ?l_asked_marks ?c_asked_marks ?k_asked_marks ?a_told ?l_told ?c_told ?k_told ?a_behind ?l_behind ?c_behind ?k_behind ?a__law_number ?l__law_number ?c__law_number ?k__law_number ?a__law_plain ?l__law_plain ?c__law_plain ?k__law_plain ?a__law_truths ?l__law_truths ?c__law_truths ?k__law_truths ?a__law_no_of ?l__law_no_of ?c__law_no_of ?k__law_no_of ?a__law_promises_right ?l__law_promises_right ?c__law_promises_right ?k__law_promises_right ?lcT ?v11T ?hhT ?nPT ?a_law ?l_law ?c_law ?k_law ?z_len ?z_isinstance ?z_int ?z_bool ?z_list ?z_tuple ?z_str ?z_range ?z_sum ?z_min ?z_max ?z_any ?z_all ?z_sorted ?z_set ?z_enumerate ?z_abs ?h_MarkError ?ic_MarkError ?tt_MarkError ?ss_MarkError ?bb_MarkError ?h_NoMark ?ic_NoMark ?tt_NoMark ?ss_NoMark ?bb_NoMark ?h_NotApart ?ic_NotApart ?tt_NotApart ?ss_NotApart ?bb_NotApart ?e1_NoMark ?e2_NoMark ?e3_NoMark ?e4_NoMark ?e5_NoMark ?e6_NoMark ?e7_NoMark ?e8_NoMark ?s_NoMark_MarkError ?s_NoMark_NoMark ?s_NoMark_NotApart ?e1_NotApart ?e2_NotApart ?e3_NotApart ?e4_NotApart ?e5_NotApart ?e6_NotApart ?e7_NotApart ?e8_NotApart ?s_NotApart_MarkError ?s_NotApart_NoMark ?s_NotApart_NotApart ?g_BadPrime ?x_BadPrime ?kp_BadPrime ?sb_BadPrime ?ty_BadPrime ?g_BadNumber ?x_BadNumber ?kp_BadNumber ?sb_BadNumber ?ty_BadNumber ?g_BadMarks ?x_BadMarks ?kp_BadMarks ?sb_BadMarks ?ty_BadMarks ?g_NoMark ?x_NoMark ?kp_NoMark ?sb_NoMark ?ty_NoMark ?g_NotApart ?x_NotApart ?kp_NotApart ?sb_NotApart ?ty_NotApart ?n_GREATEST ?n_MOST ?oh_Apart ?o1_Apart ?o2_Apart ?o3_Apart ?o4_Apart ?o5_Apart ?o6_Apart ?o7_Apart ?o8_Apart ?o9_Apart ?oa_Apart ?ob_Apart ?mm_Apart ?mp_Apart ?mi_Apart ?a_Apart_shows ?l_Apart_shows ?c_Apart_shows ?k_Apart_shows ?i_Apart_shows ?oh_Same ?o1_Same ?o2_Same ?o3_Same ?o4_Same ?o5_Same ?o6_Same ?o7_Same ?o8_Same ?o9_Same ?oa_Same ?ob_Same ?mm_Same ?mp_Same ?a_Same_init ?l_Same_init ?c_Same_init ?k_Same_init ?i_Same_init ?nn_Same_one ?nn_Same_other ?a_Same_shows ?l_Same_shows ?c_Same_shows ?k_Same_shows ?i_Same_shows ?u_Apart_Same ?u_Same_Apart (PySem.W.km_tabs_of Y _ ?tbm)
    (case a_is_number => k_is)
    (case l_is_number => k_is)
    (case c_is_number => k_is)
    (case k_is_number => k_is)
    (case a_is_prime => k_is)
    (case l_is_prime => k_is)
    (case c_is_prime => k_is)
    (case k_is_prime => k_is)
    (case a_asked_prime => k_is)
    (case l_asked_prime => k_is)
    (case c_asked_prime => k_is)
    (case k_asked_prime => k_is)
    (case a_power => k_is)
    (case l_power => k_is)
    (case c_power => k_is)
    (case k_power => k_is)
    (case a_root_of => k_is)
    (case l_root_of => k_is)
    (case c_root_of => k_is)
    (case k_root_of => k_is)
    (case a_mark_of => k_is)
    (case l_mark_of => k_is)
    (case c_mark_of => k_is)
    (case k_mark_of => k_is)
    (case a_mark => k_is)
    (case l_mark => k_is)
    (case c_mark => k_is)
    (case k_mark => k_is)
    (case a_number_of => k_is)
    (case l_number_of => k_is)
    (case c_number_of => k_is)
    (case k_number_of => k_is)
    (case a_two_of => k_is)
    (case l_two_of => k_is)
    (case c_two_of => k_is)
    (case k_two_of => k_is)
    (case a_apart_by => k_is)
    (case l_apart_by => k_is)
    (case c_apart_by => k_is)
    (case k_apart_by => k_is)
    (case a_first_same => k_is)
    (case l_first_same => k_is)
    (case c_first_same => k_is)
    (case k_first_same => k_is)
    (case a_asked_marks => k_is)
    (case l_asked_marks => k_is)
    (case c_asked_marks => k_is)
    (case k_asked_marks => k_is)
    (case a_told => k_is)
    (case l_told => k_is)
    (case c_told => k_is)
    (case k_told => k_is)
    (case a_behind => k_is)
    (case l_behind => k_is)
    (case c_behind => k_is)
    (case k_behind => k_is)
    (case a__law_number => k_is)
    (case l__law_number => k_is)
    (case c__law_number => k_is)
    (case k__law_number => k_is)
    (case a__law_plain => k_is)
    (case l__law_plain => k_is)
    (case c__law_plain => k_is)
    (case k__law_plain => k_is)
    (case a__law_truths => k_is)
    (case l__law_truths => k_is)
    (case c__law_truths => k_is)
    (case k__law_truths => k_is)
    (case a__law_no_of => k_is)
    (case l__law_no_of => k_is)
    (case c__law_no_of => k_is)
    (case k__law_no_of => k_is)
    (case a__law_promises_right => k_is)
    (case l__law_promises_right => k_is)
    (case c__law_promises_right => k_is)
    (case k__law_promises_right => k_is)
    (case lcT => k_is)
    (case v11T => rfl)
    (case hhT => rfl)
    (case nPT => rfl)
    (case a_law => k_is)
    (case l_law => k_is)
    (case c_law => k_is)
    (case k_law => k_is)
    (case z_len => k_is)
    (case z_isinstance => k_is)
    (case z_int => k_is)
    (case z_bool => k_is)
    (case z_list => k_is)
    (case z_tuple => k_is)
    (case z_str => k_is)
    (case z_range => k_is)
    (case z_sum => k_is)
    (case z_min => k_is)
    (case z_max => k_is)
    (case z_any => k_is)
    (case z_all => k_is)
    (case z_sorted => k_is)
    (case z_set => k_is)
    (case z_enumerate => k_is)
    (case z_abs => k_is)
    (case h_MarkError => k_is)
    (case ic_MarkError => k_is)
    (case tt_MarkError => k_is)
    (case ss_MarkError => k_is)
    (case bb_MarkError => k_is)
    (case h_NoMark => k_is)
    (case ic_NoMark => k_is)
    (case tt_NoMark => k_is)
    (case ss_NoMark => k_is)
    (case bb_NoMark => k_is)
    (case h_NotApart => k_is)
    (case ic_NotApart => k_is)
    (case tt_NotApart => k_is)
    (case ss_NotApart => k_is)
    (case bb_NotApart => k_is)
    (case e1_NoMark => k_is)
    (case e2_NoMark => k_is)
    (case e3_NoMark => k_is)
    (case e4_NoMark => k_is)
    (case e5_NoMark => k_is)
    (case e6_NoMark => k_is)
    (case e7_NoMark => k_is)
    (case e8_NoMark => k_is)
    (case s_NoMark_MarkError => k_is)
    (case s_NoMark_NoMark => k_is)
    (case s_NoMark_NotApart => k_is)
    (case e1_NotApart => k_is)
    (case e2_NotApart => k_is)
    (case e3_NotApart => k_is)
    (case e4_NotApart => k_is)
    (case e5_NotApart => k_is)
    (case e6_NotApart => k_is)
    (case e7_NotApart => k_is)
    (case e8_NotApart => k_is)
    (case s_NotApart_MarkError => k_is)
    (case s_NotApart_NoMark => k_is)
    (case s_NotApart_NotApart => k_is)
    (case g_BadPrime => k_is)
    (case x_BadPrime => k_exc)
    (case kp_BadPrime => k_is)
    (case sb_BadPrime => k_is)
    (case ty_BadPrime => k_is)
    (case g_BadNumber => k_is)
    (case x_BadNumber => k_exc)
    (case kp_BadNumber => k_is)
    (case sb_BadNumber => k_is)
    (case ty_BadNumber => k_is)
    (case g_BadMarks => k_is)
    (case x_BadMarks => k_exc)
    (case kp_BadMarks => k_is)
    (case sb_BadMarks => k_is)
    (case ty_BadMarks => k_is)
    (case g_NoMark => k_is)
    (case x_NoMark => k_exc)
    (case kp_NoMark => k_is)
    (case sb_NoMark => k_is)
    (case ty_NoMark => k_is)
    (case g_NotApart => k_is)
    (case x_NotApart => k_exc)
    (case kp_NotApart => k_is)
    (case sb_NotApart => k_is)
    (case ty_NotApart => k_is)
    (case n_GREATEST => k_is)
    (case n_MOST => k_is)
    (case oh_Apart => k_is)
    (case o1_Apart => k_is)
    (case o2_Apart => k_is)
    (case o3_Apart => k_is)
    (case o4_Apart => k_is)
    (case o5_Apart => k_is)
    (case o6_Apart => k_is)
    (case o7_Apart => k_is)
    (case o8_Apart => k_is)
    (case o9_Apart => k_is)
    (case oa_Apart => k_is)
    (case ob_Apart => k_is)
    (case mm_Apart => k_is)
    (case mp_Apart => k_is)
    (case mi_Apart => k_is)
    (case a_Apart_shows => k_is)
    (case l_Apart_shows => k_is)
    (case c_Apart_shows => k_is)
    (case k_Apart_shows => k_is)
    (case i_Apart_shows => k_is)
    (case oh_Same => k_is)
    (case o1_Same => k_is)
    (case o2_Same => k_is)
    (case o3_Same => k_is)
    (case o4_Same => k_is)
    (case o5_Same => k_is)
    (case o6_Same => k_is)
    (case o7_Same => k_is)
    (case o8_Same => k_is)
    (case o9_Same => k_is)
    (case oa_Same => k_is)
    (case ob_Same => k_is)
    (case mm_Same => k_is)
    (case mp_Same => k_is)
    (case a_Same_init => k_is)
    (case l_Same_init => k_is)
    (case c_Same_init => k_is)
    (case k_Same_init => k_is)
    (case i_Same_init => k_is)
    (case nn_Same_one => k_is)
    (case nn_Same_other => k_is)
    (case a_Same_shows => k_is)
    (case l_Same_shows => k_is)
    (case c_Same_shows => k_is)
    (case k_Same_shows => k_is)
    (case i_Same_shows => k_is)
    (case u_Apart_Same => k_is)
    (case u_Same_Apart => k_is)
    (case tbm => decide)
