import PyProof.Rows.All
import Wide.All
import OpenK.AllK
import Wide.FinOn
import HandS.Base
import HandS.Call
import HandS.List
import HandS.Comp
import HandS.Ends
import HandS.Dict
import HandS.Iter
import HandS.Words
import HandS.Evl
import HandS.Exc
import HandS.ExcOwn
import HandS.TryOnly
import HandS.WordsList
import HandS.WordsDict
import HandS.WordsExc
import HandS.IsInst
import HandS.EndBits
import HandS.Flow
import PyProof.LongRange
import HandS.ExcCtx
import HandS.ExcIs
import HandS.Hot
import HandS.HotCalls
import HandS.New0
import HandS.SetFor
import HandS.Strs
import HandS.Zip
import HandS.Style
import HandS.Conv
import PySem.Challenge.RW_sumsapart_k05_answers_by_hand
set_option Elab.async false
set_option linter.all false
set_option maxRecDepth 100000
set_option maxHeartbeats 4000000
namespace NT
/-- p divides a - b -/
def C (p a b : Int) : Prop := p ∣ a - b
theorem C.refl (p a : Int) : C p a a := ⟨0, by grind⟩
theorem C.symm {p a b : Int} (h : C p a b) : C p b a := by obtain ⟨k, hk⟩ := h; exact ⟨-k, by grind⟩
theorem C.trans {p a b c : Int} (h : C p a b) (g : C p b c) : C p a c := by obtain ⟨k, hk⟩ := h; obtain ⟨l, hl⟩ := g; exact ⟨k + l, by grind⟩
theorem C.add {p a b c d : Int} (h : C p a b) (g : C p c d) : C p (a + c) (b + d) := by obtain ⟨k, hk⟩ := h; obtain ⟨l, hl⟩ := g; exact ⟨k + l, by grind⟩
theorem C.sub {p a b c d : Int} (h : C p a b) (g : C p c d) : C p (a - c) (b - d) := by obtain ⟨k, hk⟩ := h; obtain ⟨l, hl⟩ := g; exact ⟨k - l, by grind⟩
theorem C.mul {p a b c d : Int} (h : C p a b) (g : C p c d) : C p (a * c) (b * d) := by obtain ⟨k, hk⟩ := h; obtain ⟨l, hl⟩ := g; exact ⟨k * c + b * l, by grind⟩
theorem C.neg {p a b : Int} (h : C p a b) : C p (-a) (-b) := by obtain ⟨k, hk⟩ := h; exact ⟨-k, by grind⟩
theorem C.pow {p a b : Int} (h : C p a b) (n : Nat) : C p (a ^ n) (b ^ n) := by
  induction n with
  | zero => rw [Int.pow_zero, Int.pow_zero]; exact C.refl _ _
  | succ n ih => rw [Int.pow_succ, Int.pow_succ]; exact C.mul ih h
theorem C.of_eq {p a b : Int} (h : a = b) : C p a b := h ▸ C.refl _ _
theorem C.mod (p a : Int) : C p (a % p) a := by
  refine ⟨-(a / p), ?_⟩
  have := Int.mul_ediv_add_emod a p
  grind
theorem C.emod {p a b : Int} (h : C p a b) : a % p = b % p := Int.emod_eq_emod_iff_emod_sub_eq_zero.mpr (Int.emod_eq_zero_of_dvd h)
theorem C.of_emod {p a b : Int} (h : a % p = b % p) : C p a b := Int.dvd_of_emod_eq_zero (Int.emod_eq_emod_iff_emod_sub_eq_zero.mp h)
theorem C.eq {p a b : Int} (h : C p a b) (a0 : 0 ≤ a) (a1 : a < p) (b0 : 0 ≤ b) (b1 : b < p) : a = b := by
  have := h.emod
  rwa [Int.emod_eq_of_lt a0 a1, Int.emod_eq_of_lt b0 b1] at this
theorem C.zero {p a : Int} : C p a 0 ↔ p ∣ a := by unfold C; rw [Int.sub_zero]

/-- a prime, by trial -/
def Pr (p : Int) : Prop := 2 ≤ p ∧ ∀ d : Int, 2 ≤ d → d * d ≤ p → ¬ d ∣ p
theorem Pr.div {p : Int} (hp : Pr p) {d : Int} (h0 : 0 < d) (h : d ∣ p) : d = 1 ∨ d = p := by
  obtain ⟨h2, ht⟩ := hp
  obtain ⟨e, he⟩ := h
  have e0 : 0 < e := by
    rcases Int.lt_or_le 0 e with h | h
    · exact h
    · have : d * e ≤ 0 := Int.mul_nonpos_of_nonneg_of_nonpos (by omega) h
      omega
  rcases Int.lt_or_le 1 d with hd | hd
  · rcases Int.lt_or_le 1 e with h1 | h1
    · exfalso
      rcases Int.lt_or_le e d with hl | hl
      · refine ht e (by omega) ?_ ⟨d, by grind⟩
        have : e * e ≤ d * e := Int.mul_le_mul_of_nonneg_right (by omega) (by omega)
        omega
      · refine ht d (by omega) ?_ ⟨e, he⟩
        have : d * d ≤ d * e := Int.mul_le_mul_of_nonneg_left hl (by omega)
        omega
    · have e1 : e = 1 := by omega
      subst e1
      right; omega
  · left; omega
theorem Pr.euclid {p a b : Int} (hp : Pr p) (h : p ∣ a * b) : p ∣ a ∨ p ∣ b := by
  have hg : ((Int.gcd p a : Nat) : Int) ∣ p := Int.gcd_dvd_left p a
  have hg2 : ((Int.gcd p a : Nat) : Int) ∣ a := Int.gcd_dvd_right p a
  have g0 : 0 < ((Int.gcd p a : Nat) : Int) := by
    have : 0 < Int.gcd p a := Int.gcd_pos_of_ne_zero_left a (by have := hp.1; omega)
    omega
  rcases hp.div g0 hg with e | e
  · right
    have e1 : Nat.Coprime p.natAbs a.natAbs := by
      show Int.gcd p a = 1
      omega
    have h2 := Int.natAbs_dvd_natAbs.mpr h
    rw [Int.natAbs_mul] at h2
    exact Int.natAbs_dvd_natAbs.mp (e1.dvd_of_dvd_mul_left h2)
  · left
    rw [e] at hg2
    exact hg2
theorem Pr.pow {p a : Int} (hp : Pr p) {n : Nat} (h : p ∣ a ^ n) : p ∣ a := by
  induction n with
  | zero =>
    exfalso
    rw [Int.pow_zero] at h
    have := Int.le_of_dvd (by decide) h
    have := hp.1
    omega
  | succ n ih =>
    rw [Int.pow_succ] at h
    rcases hp.euclid h with h | h
    · exact ih h
    · exact h
theorem Pr.cancel {p a b c : Int} (hp : Pr p) (h : C p (a * b) (a * c)) (ha : ¬ p ∣ a) : C p b c := by
  have : p ∣ a * (b - c) := by
    have h' : p ∣ a * b - a * c := h
    rwa [Int.mul_sub]
  rcases hp.euclid this with h | h
  · exact absurd h ha
  · exact h
theorem small_nd {p a : Int} (h0 : 0 < a) (h1 : a < p) : ¬ p ∣ a := fun h => by
  have := Int.le_of_dvd h0 h
  omega
/-! ### Fermat -/
def fac : Nat → Int
  | 0 => 1
  | n + 1 => ((n : Int) + 1) * fac n
def prod (l : List Int) : Int := l.foldr (· * ·) 1
theorem prod_perm {l m : List Int} (h : l.Perm m) : prod l = prod m := by
  induction h with
  | nil => rfl
  | cons x _ ih => simp only [prod, List.foldr_cons] at *; rw [ih]
  | swap x y l => simp only [prod, List.foldr_cons]; grind
  | trans _ _ a b => exact a.trans b
theorem len_le : ∀ (n : Nat) (l : List Int), l.Nodup → (∀ x ∈ l, 1 ≤ x ∧ x ≤ (n : Int)) → l.length ≤ n := by
  intro n
  induction n with
  | zero =>
    intro l _ h
    cases l with
    | nil => exact Nat.le_refl _
    | cons x r => have := h x (List.mem_cons_self); omega
  | succ n ih =>
    intro l hn h
    have h2 := ih (l.erase ((n : Int) + 1)) (hn.erase _) fun x hx => by
      have h3 := (List.Nodup.mem_erase_iff hn).mp hx
      have h4 := h x h3.2
      have h5 := h3.1
      omega
    have h3 : l.length ≤ (l.erase ((n : Int) + 1)).length + 1 := by
      rw [List.length_erase]
      split <;> omega
    omega
theorem prod_fac : ∀ (n : Nat) (l : List Int), l.Nodup → (∀ x ∈ l, 1 ≤ x ∧ x ≤ (n : Int)) → l.length = n → prod l = fac n := by
  intro n
  induction n with
  | zero =>
    intro l _ _ h
    cases l with
    | nil => rfl
    | cons x r => cases h
  | succ n ih =>
    intro l hn h hl
    have hm : ((n : Int) + 1) ∈ l := by
      by_cases hm : ((n : Int) + 1) ∈ l
      · exact hm
      · exfalso
        have := len_le n l hn fun x hx => by
          have h4 := h x hx
          have h5 : x ≠ (n : Int) + 1 := fun e => hm (e ▸ hx)
          omega
        omega
    have hp := List.perm_cons_erase hm
    rw [prod_perm hp]
    have h2 := ih (l.erase ((n : Int) + 1)) (hn.erase _) (fun x hx => by
      have h3 := (List.Nodup.mem_erase_iff hn).mp hx
      have h4 := h x h3.2
      have h5 := h3.1
      omega) (by rw [List.length_erase_of_mem hm]; omega)
    show ((n : Int) + 1) * prod (l.erase ((n : Int) + 1)) = ((n : Int) + 1) * fac n
    rw [h2]
/-- 1 .. n -/
def one : Nat → List Int
  | 0 => []
  | n + 1 => ((n : Int) + 1) :: one n
theorem one_mem : ∀ (n : Nat) (x : Int), x ∈ one n ↔ 1 ≤ x ∧ x ≤ (n : Int) := by
  intro n
  induction n with
  | zero => intro x; simp [one]; omega
  | succ n ih => intro x; simp only [one, List.mem_cons, ih]; omega
theorem one_len (n : Nat) : (one n).length = n := by
  induction n with
  | zero => rfl
  | succ n ih => simp only [one, List.length_cons, ih]
theorem one_nodup (n : Nat) : (one n).Nodup := by
  induction n with
  | zero => exact List.nodup_nil
  | succ n ih =>
    refine List.nodup_cons.mpr ⟨fun h => ?_, ih⟩
    have := (one_mem n _).mp h
    omega
theorem prod_one (n : Nat) : prod (one n) = fac n := by
  induction n with
  | zero => rfl
  | succ n ih => show ((n : Int) + 1) * prod (one n) = _; rw [ih]; rfl
theorem prod_map (p a : Int) : ∀ l : List Int, C p (prod (l.map fun x => a * x % p)) (a ^ l.length * prod l)
  | [] => C.of_eq (by simp [prod])
  | x :: l => by
    have ih := prod_map p a l
    have h := C.mul (C.mod p (a * x)) ih
    refine C.trans (show C p (prod ((x :: l).map fun x => a * x % p)) _ from h) (C.of_eq ?_)
    show a * x * (a ^ l.length * prod l) = a ^ (l.length + 1) * (x * prod l)
    rw [Int.pow_succ]
    grind
theorem fac_nd {p : Int} (hp : Pr p) : ∀ n : Nat, (n : Int) < p → ¬ p ∣ fac n
  | 0, _ => fun h => by
    have := Int.le_of_dvd (by decide) (show p ∣ 1 from h)
    have := hp.1
    omega
  | n + 1, hn => fun h => by
    rcases hp.euclid h with h | h
    · exact small_nd (by omega) (by omega) h
    · exact fac_nd hp n (by omega) h
theorem fermat {p a : Int} (hp : Pr p) (ha : ¬ p ∣ a) : C p (a ^ (p - 1).toNat) 1 := by
  have h2 := hp.1
  have hn : (((p - 1).toNat : Nat) : Int) = p - 1 := by omega
  have hl : ((one (p - 1).toNat).map fun x => a * x % p).length = (p - 1).toNat := by rw [List.length_map, one_len]
  have hmem : ∀ x ∈ (one (p - 1).toNat).map (fun x => a * x % p), 1 ≤ x ∧ x ≤ (((p - 1).toNat : Nat) : Int) := fun x hx => by
    obtain ⟨y, hy, rfl⟩ := List.mem_map.mp hx
    have hy2 := (one_mem _ _).mp hy
    have m0 := Int.emod_nonneg (a * y) (show p ≠ 0 by omega)
    have m1 := Int.emod_lt_of_pos (a * y) (show 0 < p by omega)
    have : a * y % p ≠ 0 := fun e => by
      rcases hp.euclid (Int.dvd_of_emod_eq_zero e) with h | h
      · exact ha h
      · exact small_nd (by omega) (by omega) h
    omega
  have hnd : ((one (p - 1).toNat).map fun x => a * x % p).Nodup := by
    refine List.pairwise_map.mpr ?_
    refine List.Pairwise.imp_of_mem (R := fun x y => x ≠ y) ?_ (one_nodup _)
    intro x y hx hy hne e
    have hx2 := (one_mem _ _).mp hx
    have hy2 := (one_mem _ _).mp hy
    exact hne ((hp.cancel (C.of_emod e) ha).eq (by omega) (by omega) (by omega) (by omega))
  have h1 := prod_fac _ _ hnd hmem hl
  have h3 := prod_map p a (one (p - 1).toNat)
  rw [h1, prod_one, one_len] at h3
  have h4 : C p (fac (p - 1).toNat * 1) (fac (p - 1).toNat * a ^ (p - 1).toNat) := by
    rw [Int.mul_one, Int.mul_comm]; exact h3
  exact (hp.cancel h4 (fac_nd hp _ (by omega))).symm
/-! ### roots of a monic polynomial -/
def evm : List Int → Int → Int
  | [], _ => 1
  | c :: cs, x => c + x * evm cs x
def qu (a : Int) : List Int → List Int
  | [] => []
  | [_] => []
  | _ :: d :: cs => evm (d :: cs) a :: qu a (d :: cs)
theorem qu_len (a : Int) : ∀ cs : List Int, (qu a cs).length = cs.length - 1
  | [] => rfl
  | [_] => rfl
  | _ :: d :: cs => by
    have := qu_len a (d :: cs)
    simp only [qu, List.length_cons] at *
    omega
theorem qu_eq (a x : Int) : ∀ cs : List Int, cs ≠ [] → evm cs x - evm cs a = (x - a) * evm (qu a cs) x
  | [], h => absurd rfl h
  | [c], _ => by simp only [evm, qu]; grind
  | c :: d :: cs, _ => by
    have ih := qu_eq a x (d :: cs) (by simp)
    have e1 : evm (c :: d :: cs) x = c + x * evm (d :: cs) x := rfl
    have e2 : evm (c :: d :: cs) a = c + a * evm (d :: cs) a := rfl
    have e3 : evm (qu a (c :: d :: cs)) x = evm (d :: cs) a + x * evm (qu a (d :: cs)) x := rfl
    rw [e1, e2, e3]
    grind
theorem roots {p : Int} (hp : Pr p) (s : Int) : ∀ (m : Nat) (cs : List Int), cs.length = m → (m : Int) < p → ¬ ∀ i : Nat, i ≤ m → p ∣ evm cs (s + i) := by
  intro m
  induction m with
  | zero =>
    intro cs hc _ h
    cases cs with
    | nil =>
      have := Int.le_of_dvd (by decide) (show p ∣ 1 from h 0 (Nat.le_refl _))
      have := hp.1
      omega
    | cons _ _ => cases hc
  | succ m ih =>
    intro cs hc hm h
    have hne : cs ≠ [] := fun e => by rw [e] at hc; cases hc
    refine ih (qu (s + ((m + 1 : Nat) : Int)) cs) (by rw [qu_len]; omega) (by omega) fun i hi => ?_
    have h1 := h i (by omega)
    have h2 := h (m + 1) (Nat.le_refl _)
    have h3 := qu_eq (s + ((m + 1 : Nat) : Int)) (s + (i : Int)) cs hne
    have h4 : p ∣ (s + (i : Int) - (s + ((m + 1 : Nat) : Int))) * evm (qu (s + ((m + 1 : Nat) : Int)) cs) (s + (i : Int)) := by
      rw [← h3]; exact Int.dvd_sub h1 h2
    rcases hp.euclid h4 with h5 | h5
    · exfalso
      have h6 : p ∣ ((m + 1 : Nat) : Int) - (i : Int) := by
        obtain ⟨k, hk⟩ := h5
        exact ⟨-k, by grind⟩
      exact small_nd (by omega) (by omega) h6
    · exact h5
theorem evm_rep (x : Int) : ∀ n : Nat, evm (List.replicate n 0) x = x ^ n
  | 0 => by rw [Int.pow_zero]; rfl
  | n + 1 => by
    show 0 + x * evm (List.replicate n 0) x = x ^ (n + 1)
    rw [evm_rep x n, Int.pow_succ]; grind
/-- not all of 1 .. n + 1 have 1 as their n-th power -/
theorem strange {p : Int} (hp : Pr p) (n : Nat) (hn : 0 < n) (h1 : (n : Int) < p) : ∃ z : Int, 2 ≤ z ∧ z ≤ (n : Int) + 1 ∧ ¬ C p (z ^ n) 1 := by
  have h := roots hp 1 n (-1 :: List.replicate (n - 1) 0) (by simp; omega) h1
  obtain ⟨i, hi⟩ := Classical.not_forall.mp h
  obtain ⟨hi, h2⟩ := Classical.not_imp.mp hi
  have e : evm (-1 :: List.replicate (n - 1) 0) (1 + (i : Int)) = (1 + (i : Int)) ^ n - 1 := by
    show -1 + (1 + (i : Int)) * evm (List.replicate (n - 1) 0) (1 + (i : Int)) = _
    rw [evm_rep]
    obtain ⟨k, rfl⟩ : ∃ k, n = k + 1 := ⟨n - 1, by omega⟩
    rw [show k + 1 - 1 = k by omega, Int.pow_succ]; grind
  rw [e] at h2
  refine ⟨1 + (i : Int), ?_, by omega, h2⟩
  rcases Nat.eq_zero_or_pos i with h0 | h0
  · exfalso
    rw [h0] at h2
    apply h2
    have : (1 + ((0 : Nat) : Int)) ^ n - 1 = 0 := by
      show (1 : Int) ^ n - 1 = 0
      rw [Int.one_pow]; rfl
    rw [this]
    exact Int.dvd_zero _
  · omega
theorem half_pow {p z : Int} (hp : Pr p) (h : C p (z * z) 1) : C p z 1 ∨ C p z (-1) := by
  have : p ∣ (z - 1) * (z + 1) := by
    obtain ⟨k, hk⟩ := h
    exact ⟨k, by grind⟩
  rcases hp.euclid this with h | h
  · exact .inl h
  · refine .inr ?_
    obtain ⟨k, hk⟩ := h
    exact ⟨k, by grind⟩
end NT
namespace NT
theorem mod1 {p a : Int} (h : 2 ≤ p) : a % p = 1 ↔ C p a 1 := by
  refine ⟨fun e => C.of_emod (by rw [e, Int.emod_eq_of_lt (by omega) (by omega)]), fun c => ?_⟩
  have := c.emod
  rwa [Int.emod_eq_of_lt (a := 1) (by omega) (by omega)] at this
theorem Pr.odd {p : Int} (hp : Pr p) (h3 : 3 ≤ p) : p % 2 = 1 := by
  rcases Int.lt_or_le p 4 with h | h
  · omega
  · have := hp.2 2 (by omega) (by omega)
    omega
def hf (p : Int) : Nat := ((p - 1) / 2).toNat
theorem hf_two {p : Int} (hp : Pr p) (h3 : 3 ≤ p) : (p - 1).toNat = hf p + hf p := by
  have := hp.odd h3
  unfold hf
  omega
theorem hf_pos {p : Int} (h3 : 3 ≤ p) : 0 < hf p := by unfold hf; omega
theorem half_sq {p a : Int} (hp : Pr p) (h3 : 3 ≤ p) (ha : ¬ p ∣ a) : C p (a ^ hf p * a ^ hf p) 1 := by
  have := fermat hp ha
  rwa [hf_two hp h3, Int.pow_add] at this
theorem euler_pm {p a : Int} (hp : Pr p) (h3 : 3 ≤ p) (ha : ¬ p ∣ a) : C p (a ^ hf p) 1 ∨ C p (a ^ hf p) (-1) := half_pow hp (half_sq hp h3 ha)
theorem euler_sq {p n x : Int} (hp : Pr p) (h3 : 3 ≤ p) (hn : ¬ p ∣ n) (h : C p (x * x) n) : C p (n ^ hf p) 1 := by
  have hx : ¬ p ∣ x := fun hx => hn (by
    have h1 : p ∣ x * x := Int.dvd_mul_of_dvd_left hx
    have h2 : p ∣ x * x - n := h
    have := Int.dvd_sub h1 h2
    rwa [show x * x - (x * x - n) = n by omega] at this)
  refine (C.pow h.symm (hf p)).trans ?_
  rw [Int.mul_pow]
  exact half_sq hp h3 hx
theorem strange_is {p : Int} (hp : Pr p) (h3 : 3 ≤ p) : ∃ z : Int, 2 ≤ z ∧ z < p ∧ ¬ C p (z ^ hf p) 1 := by
  obtain ⟨z, h1, h2, h4⟩ := strange hp (hf p) (hf_pos h3) (by unfold hf; omega)
  refine ⟨z, h1, ?_, h4⟩
  have := hp.odd h3
  unfold hf at h2
  omega
theorem not_both {p a : Int} (h3 : 3 ≤ p) (h1 : C p a 1) (h2 : C p a (-1)) : False := by
  have h : p ∣ 1 - (-1) := h1.symm.trans h2
  have := Int.le_of_dvd (by decide) h
  omega
/-- the state of the loop that finds a root -/
structure TS (p n : Int) (t : Nat) (found left step : Int) : Prop where
  t1 : 1 ≤ t
  f : C p (found * found) (n * left)
  l : C p (left ^ 2 ^ (t - 1)) 1
  s : C p (step ^ 2 ^ (t - 1)) (-1)
theorem TS.start {p n z odd : Int} {t : Nat} (hp : Pr p) (h3 : 3 ≤ p) (t1 : 1 ≤ t) (ho : odd % 2 = 1) (o0 : 0 < odd) (hot : odd * 2 ^ t = p - 1) (hn : C p (n ^ hf p) 1) (hz : ¬ p ∣ z) (hz1 : ¬ C p (z ^ hf p) 1) :
    TS p n t (n ^ ((odd + 1) / 2).toNat % p) (n ^ odd.toNat % p) (z ^ odd.toNat % p) := by
  have e : odd.toNat * 2 ^ (t - 1) = hf p := by
    obtain ⟨k, rfl⟩ : ∃ k, t = k + 1 := ⟨t - 1, by omega⟩
    rw [Int.pow_succ] at hot
    have h2 : (p - 1) / 2 = odd * 2 ^ k := by
      have : p - 1 = odd * 2 ^ k * 2 := by rw [← hot, Int.mul_assoc]
      omega
    unfold hf
    rw [h2, Nat.add_sub_cancel]
    have h4 : ((odd.toNat * 2 ^ k : Nat) : Int) = odd * 2 ^ k := by
      rw [Int.natCast_mul, Int.natCast_pow, Int.toNat_of_nonneg (by omega)]
      rfl
    omega
  refine ⟨t1, ?_, ?_, ?_⟩
  · refine (C.mul (C.mod p _) (C.mod p _)).trans ?_
    refine C.trans ?_ (C.mul (C.refl p n) (C.mod p (n ^ odd.toNat)).symm)
    rw [← Int.pow_add, show ((odd + 1) / 2).toNat + ((odd + 1) / 2).toNat = odd.toNat + 1 by omega, Int.pow_succ, Int.mul_comm]
    exact C.refl _ _
  · refine (C.pow (C.mod p _) _).trans ?_
    rw [← Int.pow_mul, e]
    exact hn
  · refine (C.pow (C.mod p _) _).trans ?_
    rw [← Int.pow_mul, e]
    rcases euler_pm hp h3 hz with h | h
    · exact absurd h hz1
    · exact h
theorem TS.turn {p n found left step : Int} {t k : Nat} (x : TS p n t found left step) (hp : Pr p) (h3 : 3 ≤ p) (k1 : 1 ≤ k) (k2 : k ≤ t - 1) (hk : C p (left ^ 2 ^ k) 1) (hk1 : ¬ C p (left ^ 2 ^ (k - 1)) 1) {part : Int} (hpt : part = step ^ 2 ^ (t - k - 1) % p) :
    TS p n k (found * part % p) (left * (part * part % p) % p) (part * part % p) := by
  have hk2 : C p (left ^ 2 ^ (k - 1)) (-1) := by
    rcases half_pow hp (z := left ^ 2 ^ (k - 1)) (by
      rw [← Int.pow_add, show 2 ^ (k - 1) + 2 ^ (k - 1) = 2 ^ k by
        obtain ⟨j, rfl⟩ : ∃ j, k = j + 1 := ⟨k - 1, by omega⟩
        rw [Nat.add_sub_cancel, Nat.pow_succ]; omega]
      exact hk) with h | h
    · exact absurd h hk1
    · exact h
  have hpp : C p part (step ^ 2 ^ (t - k - 1)) := by rw [hpt]; exact C.mod p _
  have hs : C p ((part * part % p) ^ 2 ^ (k - 1)) (-1) := by
    refine (C.pow (C.mod p _) _).trans ?_
    refine (C.pow (C.mul hpp hpp) _).trans ?_
    rw [← Int.pow_add, ← Int.pow_mul, show (2 ^ (t - k - 1) + 2 ^ (t - k - 1)) * 2 ^ (k - 1) = 2 ^ (t - 1) by
      rw [show 2 ^ (t - k - 1) + 2 ^ (t - k - 1) = 2 ^ (t - k - 1 + 1) by rw [Nat.pow_succ]; omega, ← Nat.pow_add]
      congr 1; omega]
    exact x.s
  refine ⟨k1, ?_, ?_, hs⟩
  · refine (C.mul (C.mod p _) (C.mod p _)).trans ?_
    have h1 : C p (found * part * (found * part)) (n * left * (part * part)) := by
      refine C.trans (C.of_eq (by grind)) (C.mul x.f (C.refl p (part * part)))
    refine h1.trans ?_
    refine C.trans ?_ (C.mul (C.refl p n) ((C.mod p _).trans (C.mul (C.refl p left) (C.mod p _))).symm)
    exact C.of_eq (by grind)
  · refine (C.pow (C.mod p _) _).trans ?_
    rw [Int.mul_pow]
    exact C.mul hk2 hs
theorem TS.done {p n found step : Int} {t : Nat} (x : TS p n t found 1 step) : C p (found * found) n := by
  have := x.f
  rwa [Int.mul_one] at this
end NT
/-! marks of a prime: sums and differences, in plain words -/
namespace NT
def mk (p n : Int) : Int := 2 * p * n + n * n % p
theorem sq_b {p n : Int} (h : 0 < p) : 0 ≤ n * n % p ∧ n * n % p < p := ⟨Int.emod_nonneg _ (by omega), Int.emod_lt_of_pos _ h⟩
/-- q times 2 p, and a rest: the floor and what is left -/
theorem fl {p q r x : Int} (h : x = 2 * p * q + r) (r0 : 0 ≤ r) (r1 : r < 2 * p) : x / (2 * p) = q ∧ x % (2 * p) = r := by
  subst h
  have hp : 0 < 2 * p := by omega
  constructor
  · rw [Int.add_comm, Int.add_mul_ediv_left _ _ (by omega), Int.ediv_eq_zero_of_lt r0 r1, Int.zero_add]
  · rw [Int.add_comm, Int.add_mul_emod_self_left, Int.emod_eq_of_lt r0 r1]
theorem mk_div {p n : Int} (h : 0 < p) : mk p n / (2 * p) = n := (fl rfl (sq_b h).1 (by have := (sq_b (n := n) h).2; omega)).1
/-- an inverse, by a power -/
theorem inv_pow {p a : Int} (hp : Pr p) (h3 : 3 ≤ p) (ha : ¬ p ∣ a) : C p (a * a ^ (p - 2).toNat) 1 := by
  have := fermat hp ha
  rwa [show (p - 1).toNat = (p - 2).toNat + 1 by omega, Int.pow_succ, Int.mul_comm] at this
theorem two_nd {p : Int} (h3 : 3 ≤ p) : ¬ p ∣ 2 := small_nd (by omega) (by omega)
theorem half {p a x : Int} (hp : Pr p) (h3 : 3 ≤ p) (h : C p a (2 * x)) : C p (a * (2 ^ (p - 2).toNat % p) % p) x := by
  refine (C.mod p _).trans ?_
  refine (C.mul h (C.mod p _)).trans ?_
  refine C.trans (C.of_eq (by grind)) ((C.mul (C.refl p x) (inv_pow hp h3 (two_nd h3))).trans (C.of_eq (by grind)))
/-! ### differences -/
def PairD (p d a b : Int) : Prop := 0 ≤ a ∧ a < b ∧ b < p ∧ mk p b - mk p a = d
theorem pairD_steps {p d a b : Int} (h3 : 3 ≤ p) (h : PairD p d a b) : (d + p) / (2 * p) = b - a := by
  obtain ⟨h0, h1, h2, e⟩ := h
  have x := sq_b (n := a) (show 0 < p by omega)
  have y := sq_b (n := b) (show 0 < p by omega)
  refine (fl (p := p) (q := b - a) (r := b * b % p - a * a % p + p) ?_ (by omega) (by omega)).1
  rw [← e]
  unfold mk
  grind
theorem pairD_low {p d a b : Int} (hp : Pr p) (h3 : 3 ≤ p) (h : PairD p d a b) {s both : Int} (hs : s = b - a) (hb : both = d * (s ^ (p - 2).toNat % p) % p) : (both - s) * (2 ^ (p - 2).toNat % p) % p = a := by
  obtain ⟨h0, h1, h2, e⟩ := h
  have hsd : ¬ p ∣ s := small_nd (by omega) (by omega)
  have h4 : C p d (s * (a + b)) := by
    rw [← e, hs]
    unfold mk
    have hb2 : C p (2 * p * b + b * b % p) (b * b) := by
      refine (C.add ⟨2 * b, by grind⟩ (C.mod p (b * b))).trans (C.of_eq (Int.zero_add _)) 
    have ha2 : C p (2 * p * a + a * a % p) (a * a) := by
      refine (C.add ⟨2 * a, by grind⟩ (C.mod p (a * a))).trans (C.of_eq (Int.zero_add _)) 
    exact (C.sub hb2 ha2).trans (C.of_eq (by grind))
  have h5 : C p both (a + b) := by
    rw [hb]
    refine (C.mod p _).trans ((C.mul h4 (C.mod p _)).trans ?_)
    exact C.trans (C.of_eq (by grind)) ((C.mul (C.refl p (a + b)) (inv_pow hp h3 hsd)).trans (C.of_eq (by grind)))
  have h6 : C p (both - s) (2 * a) := (C.sub h5 (C.refl p s)).trans (C.of_eq (by omega))
  exact (half hp h3 h6).eq (Int.emod_nonneg _ (by omega)) (Int.emod_lt_of_pos _ (by omega)) h0 (by omega)
theorem pairD_one {p d a b x y : Int} (hp : Pr p) (h3 : 3 ≤ p) (h : PairD p d a b) (g : PairD p d x y) : a = x ∧ b = y := by
  have s1 := pairD_steps h3 h
  have s2 := pairD_steps h3 g
  have l1 := pairD_low hp h3 h rfl rfl
  have l2 := pairD_low hp h3 g rfl rfl
  rw [show b - a = y - x by omega, l2] at l1
  omega
/-! ### sums -/
def PairS (p s a b : Int) : Prop := 0 ≤ a ∧ a ≤ b ∧ b < p ∧ mk p a + mk p b = s
theorem sum_parts {p s a b : Int} (p0 : 0 < p) (e : mk p a + mk p b = s) : s / (2 * p) = a + b ∧ s % (2 * p) = a * a % p + b * b % p := by
  have x := sq_b (n := a) p0
  have y := sq_b (n := b) p0
  refine fl (p := p) ?_ (by omega) (by omega)
  rw [← e]
  unfold mk
  grind
theorem sum_sq {p a b : Int} : C p (2 * (a * a % p + b * b % p) - (a + b) * (a + b)) ((a - b) * (a - b)) := by
  have h : C p (2 * (a * a % p + b * b % p) - (a + b) * (a + b)) (2 * (a * a + b * b) - (a + b) * (a + b)) :=
    C.sub (C.mul (C.refl p 2) (C.add (C.mod p _) (C.mod p _))) (C.refl p _)
  exact h.trans (C.of_eq (by grind))
theorem root_two {p r x : Int} (hp : Pr p) (h : C p (r * r) (x * x)) : C p r x ∨ C p r (-x) := by
  have : p ∣ (r - x) * (r + x) := by
    obtain ⟨k, hk⟩ := h
    exact ⟨k, by grind⟩
  rcases hp.euclid this with h | h
  · exact .inl h
  · refine .inr ?_
    obtain ⟨k, hk⟩ := h
    exact ⟨k, by grind⟩
/-- the first try hits one of the two -/
theorem sum_one {p a b r : Int} (hp : Pr p) (h3 : 3 ≤ p) (a0 : 0 ≤ a) (a1 : a < p) (b0 : 0 ≤ b) (b1 : b < p) (h : C p (r * r) ((a - b) * (a - b))) :
    (a + b + 1 * r) * (2 ^ (p - 2).toNat % p) % p = a ∨ (a + b + 1 * r) * (2 ^ (p - 2).toNat % p) % p = b := by
  have m0 := Int.emod_nonneg ((a + b + 1 * r) * (2 ^ (p - 2).toNat % p)) (show p ≠ 0 by omega)
  have m1 := Int.emod_lt_of_pos ((a + b + 1 * r) * (2 ^ (p - 2).toNat % p)) (show 0 < p by omega)
  rcases root_two hp h with h | h
  · exact .inl ((half hp h3 (x := a) ((C.add (C.refl p (a + b)) (C.mul (C.refl p 1) h)).trans (C.of_eq (by grind)))).eq m0 m1 a0 a1)
  · exact .inr ((half hp h3 (x := b) ((C.add (C.refl p (a + b)) (C.mul (C.refl p 1) h)).trans (C.of_eq (by grind)))).eq m0 m1 b0 b1)
theorem pairS_one {p s a b x y : Int} (hp : Pr p) (h3 : 3 ≤ p) (h : PairS p s a b) (g : PairS p s x y) : a = x ∧ b = y := by
  obtain ⟨a0, ab, b1, e⟩ := h
  obtain ⟨x0, xy, y1, e'⟩ := g
  have s1 := sum_parts (by omega) e
  have s2 := sum_parts (by omega) e'
  have hs : a + b = x + y := by omega
  have h1 := sum_sq (p := p) (a := a) (b := b)
  have h2 := sum_sq (p := p) (a := x) (b := y)
  rw [← s1.2, hs] at h1
  rw [← s2.2] at h2
  have h4 : C p ((a - b) * (a - b)) ((x - y) * (x - y)) := h1.symm.trans h2
  have o1 := sum_one hp h3 x0 (by omega) (by omega) y1 h4
  have o2 := sum_one hp h3 a0 (by omega) (by omega) b1 (C.refl p ((a - b) * (a - b)))
  rw [← hs] at o1
  omega
end NT
namespace Sa
open PySem PySem.Spec PyProof.Rows L2 Evl
section
variable {X : Cx}
/-! ### products of any ints below 2^50000000 -/
def CMulB (i j : Int) : Prop := i.natAbs.log2 + j.natAbs.log2 < 100000000
theorem CMulB.ok {i j : Int} (h : CMulB i j) : IntMulOk i j := by
  have b : ∀ x : Int, Builtin.Int.intBits x ≤ x.natAbs.log2 + 1 := fun x => by
    unfold Builtin.Int.intBits
    split <;> omega
  have h1 := b i
  have h2 := b j
  have h3 : i.natAbs.log2 + j.natAbs.log2 < 100000000 := h
  have e : bitsLine = 134217728 := by decide
  unfold IntMulOk
  intro z
  rw [Bool.and_eq_true] at z
  have z2 := z.2
  unfold Builtin.Int.intTooBig at z2
  have z3 := of_decide_eq_true z2
  rw [e] at z3
  omega
theorem op_mulB : OpR X (binaryOp .Mult) (rI CMulB fun i j => .int (i * j)) := opI fun _ _ _ _ _ _ _ hc q => mul_int q hc.ok
theorem mulB_small {i j : Int} (h1 : i.natAbs < 2 ^ 64) (h2 : j.natAbs < 2 ^ 64) : CMulB i j := by
  unfold CMulB
  have a : i.natAbs.log2 < 64 ∨ i.natAbs = 0 := by
    rcases Nat.eq_zero_or_pos i.natAbs with h | h
    · exact .inr h
    · exact .inl ((Nat.log2_lt (by omega)).mpr h1)
  have b : j.natAbs.log2 < 64 ∨ j.natAbs = 0 := by
    rcases Nat.eq_zero_or_pos j.natAbs with h | h
    · exact .inr h
    · exact .inl ((Nat.log2_lt (by omega)).mpr h2)
  rcases a with a | a <;> rcases b with b | b <;> (try rw [a]) <;> (try rw [b]) <;> simp <;> omega
end
/-! ### ranges of any ends -/
theorem turn_long {P : Program} {w : World} {K : PySem.W.Frag} {tg : Expr} (it : Addr) (lo : Int) (n : Nat) : Turn P w K tg (Itr lo n) [it] it (fun i h => IsLongIter h it (lo + (i : Nat) * 1) ((n : Int) - (i : Nat)) 1) where
  mem := by simp
  obj := fun i h st b hb => by
    have e : b = it := by simpa using hb
    subst e
    exact ⟨_, st, fun v z => by
      have z' : Data.fields _ = Data.cell v := z
      cases z'⟩
  keep := fun i h h' st k => k it (by simp) _ st
  item := by
    intro X hP hw hK hc i pins s σ H E I hf st hg
    subst hP hw hK
    obtain ⟨f0, f1, f2, f3, f4, f5⟩ := hf it (by simp)
    have W := Walks.longrange (prog := X.prog) (w := X.w) (I.ok.hd hc) it lo 1 n
    refine W.item i s _ _ hg st fun v h' tk hv st' kk => ?_
    obtain ⟨t, rfl⟩ := hv
    have I1 : Inv X pins σ H { s with heap := h', toks := tk } := I.turned (fun b o hb e => kk b o (by simpa using hb) e) f0 f1 f3 f4 f5
    refine ⟨_, rfl, go_of (s := { s with heap := h', toks := tk }) (n := "longrange_iterator") st' rfl rfl (by decide) ⟨.int (lo + i), H, I1, ⟨t, ?_⟩, ⟨rfl, rfl⟩, st', fun b hb => (hf b hb).1⟩⟩
    rw [Int.mul_one]
  done := by
    intro X hP hw hK hc i pins s σ H E I hf st hg
    subst hP hw hK
    obtain ⟨f0, f1, f2, f3, f4, f5⟩ := hf it (by simp)
    exact wpAny_pyNext_long_end (I.ok.hd hc) st (by have : n ≤ i := hg; omega) fun h' eb => ⟨rfl, I.turned (t' := s.toks) (fun b o hb e => eb b o hb e) f0 f1 f3 f4 f5⟩
  self := fun _ _ _ _ _ st h => wpAny_pyIter_longiter st h
theorem range_itB {X : Cx} {tg : Expr} {pins : List (Addr × Obj)} {σ : L2.St} {H : Hp} {s : Shared} {R : It → Hp → Prop} {E : Value → Shared → Prop} {lo hi : Int} {t u v : Tok} {tk : Nat} (I : Inv X pins σ H s)
    (q : R (Itr lo (hi - lo).toNat) H) : wpAny (model X.prog X.w) X.A (pyIter (.ref s.heap.objs.size)) (PIE X pins σ tg R) E { s with heap := s.heap.push { cls := .type "range", data := .fields #[.int lo t, .int hi u, .int 1 v] }, toks := tk } := by
  have I1 : Inv X pins σ H { s with heap := s.heap.push { cls := .type "range", data := .fields #[.int lo t, .int hi u, .int 1 v] }, toks := tk } := I.kept fun b o e => Heap.get?_push_of_some _ e
  have e1 : lo + ((0 : Nat) : Int) * 1 = lo := by simp
  have e2 : (((hi - lo).toNat : Nat) : Int) - ((0 : Nat) : Int) = Builtin.Range.rangeSize lo hi 1 := by rw [rangeSize_one]; split <;> omega
  cases hs : Builtin.Range.small lo hi 1 with
  | true =>
    refine wpAny_pyIter_range (IsRange.new ..) hs ?_
    refine ⟨(s.heap.push { cls := .type "range", data := .fields #[.int lo t, .int hi u, .int 1 v] }).objs.size, [(s.heap.push { cls := .type "range", data := .fields #[.int lo t, .int hi u, .int 1 v] }).objs.size], _, _, H, rfl,
      I1.kept (t' := tk) fun b o e => Heap.get?_push_of_some _ e, turn_range _ lo (hi - lo).toNat, ?_, fun b hb => ?_, q⟩
    · show IsRangeIter _ _ (lo + ((0 : Nat) : Int) * 1) ((((hi - lo).toNat : Nat) : Int) - ((0 : Nat) : Int)) 1
      rw [e1, e2]
      exact Heap.get?_push_size _ rfl
    · have e : b = (s.heap.push { cls := .type "range", data := .fields #[.int lo t, .int hi u, .int 1 v] }).objs.size := by simpa using hb
      subst e
      exact I1.fpOk (Nat.le_refl _) (I1.hok.fresh (Nat.le_refl _))
  | false =>
    refine wpAny_pyIter_longrange (IsRange.new ..) hs ?_
    refine ⟨(s.heap.push { cls := .type "range", data := .fields #[.int lo t, .int hi u, .int 1 v] }).objs.size, [(s.heap.push { cls := .type "range", data := .fields #[.int lo t, .int hi u, .int 1 v] }).objs.size], _, _, H, rfl,
      I1.kept (t' := tk) fun b o e => Heap.get?_push_of_some _ e, turn_long _ lo (hi - lo).toNat, ?_, fun b hb => ?_, q⟩
    · show IsLongIter _ _ (lo + ((0 : Nat) : Int) * 1) ((((hi - lo).toNat : Nat) : Int) - ((0 : Nat) : Int)) 1
      rw [e1, e2]
      exact Heap.get?_push_size _ rfl
    · have e : b = (s.heap.push { cls := .type "range", data := .fields #[.int lo t, .int hi u, .int 1 v] }).objs.size := by simpa using hb
      subst e
      exact I1.fpOk (Nat.le_refl _) (I1.hok.fresh (Nat.le_refl _))
def iR1 (ta : TA) : TI := fun σ H R => ta σ H fun vs H1 => ∃ j : Int, vs = [.int j] ∧ R (Itr 0 j.toNat) H1
def iR2 (ta : TA) : TI := fun σ H R => ta σ H fun vs H1 => ∃ i j : Int, vs = [.int i, .int j] ∧ R (Itr i (j - i).toNat) H1
theorem pi_r1 {X : Cx} {tg : Expr} {a : Expr} {ta : TA} {p pos : Pos} (hg : Gl X "range") (hm : X.mg "range" = none) (ha : PA X [a] ta) (hs : starEach [a] X.env = [(false, eval a X.env)] := by rfl) : PI X tg (.Call (.Name "range" p) [a] [] pos) (iR1 ta) := by
  refine ⟨fun pins s σ H R I h => ?_⟩
  refine Call_ (ld_blt I hg hm boot_range (PyProof.Rows.callWith_type1 (thn (ha.run pos pins s σ H _ I h) fun us s1 ⟨vs, H1, I1, r1, q1⟩ => ?_) hs rfl))
  obtain ⟨j, e, q⟩ := q1
  subst e
  cases r1 with
  | cons r rr =>
    cases rr
    obtain ⟨t, rfl⟩ := r
    exact call_range_1 (range_itB I1 (by simpa using q))
theorem pi_r2 {X : Cx} {tg : Expr} {a b : Expr} {ta : TA} {p pos : Pos} (hg : Gl X "range") (hm : X.mg "range" = none) (ha : PA X [a, b] ta) (hs : starEach [a, b] X.env = [(false, eval a X.env), (false, eval b X.env)] := by rfl) (hs2 : starEach [b] X.env = [(false, eval b X.env)] := by rfl) :
    PI X tg (.Call (.Name "range" p) [a, b] [] pos) (iR2 ta) := by
  refine ⟨fun pins s σ H R I h => ?_⟩
  refine Call_ (ld_blt I hg hm boot_range (PyProof.Rows.callWith_type1 (thn (ha.run pos pins s σ H _ I h) fun us s1 ⟨vs, H1, I1, r1, q1⟩ => ?_) (by rw [hs, hs2]) (by rw [hs2]; rfl)))
  obtain ⟨i, j, e, q⟩ := q1
  subst e
  cases r1 with
  | cons r rr =>
    cases rr with
    | cons r' rr =>
      cases rr
      obtain ⟨t, rfl⟩ := r
      obtain ⟨t', rfl⟩ := r'
      exact call_range_2 (range_itB I1 q)
/-! ### three comparisons in a chain -/
def tChain3 (r r' r'' : R2) (ta tb tc td : TE) : TE := fun σ H Q => ta σ H fun x H1 => tb σ H1 fun y H2 => r x y H2 fun z H3 => ∃ k, z = .bl k ∧
  (if k = true then tc σ H3 fun y' H4 => r' y y' H4 fun z' H5 => ∃ k', z' = .bl k' ∧ (if k' = true then td σ H5 fun w' H6 => r'' y' w' H6 Q else Q (.bl false) H5) else Q (.bl false) H3)
theorem pt_chain3 {X : Cx} {a b c d : Expr} {ta tb tc td : TE} {pos : Pos} {op op' op'' : CmpOp} {r r' r'' : R2} (ho : OpR X (compareOp op) r) (ho' : OpR X (compareOp op') r') (ho'' : OpR X (compareOp op'') r'') (ha : PE X a ta) (hb : PE X b tb) (hc : PE X c tc) (hd : PE X d td)
    (hm : lastMarks [op, op', op''] [b, c, d] = false := by with_unfolding_all rfl) : PT X (.Compare a [op, op', op''] [b, c, d] pos) (tTest (tChain3 r r' r'' ta tb tc td)) := by
  refine ⟨fun pins s σ H Q I h => ?_⟩
  refine isTrue_chain (thn (ha.run pins s σ H _ I h) fun v s1 ⟨x, H1, I1, r1, q1⟩ => test_link (thn (hb.run pins s1 σ H1 _ I1 q1) fun u s2 ⟨y, H2, I2, r2, q2⟩ =>
    thn (ho pins s2 σ H2 x y v u _ I2 r1 r2 q2) fun d s3 ⟨z, H3, I3, r3, k, e, q3⟩ => ?_)) hm
  subst e
  cases r3
  refine wpAny_truthy_bool ?_
  cases k with
  | false =>
    obtain ⟨k', e', q'⟩ := q3
    cases e'
    exact ite_ff ⟨H3, I3, q'⟩
  | true =>
    refine ite_tt (test_link (thn (hc.run pins s3 σ H3 _ I3 q3) fun w' s4 ⟨z', H4, I4, r4, q4⟩ => thn (ho' pins s4 σ H4 y z' u w' _ I4 r2 r4 q4) fun d' s5 ⟨z2, H5, I5, r5, k2, e2, q5⟩ => ?_))
    subst e2
    cases r5
    refine wpAny_truthy_bool ?_
    cases k2 with
    | false =>
      obtain ⟨k', e', q'⟩ := q5
      cases e'
      exact ite_ff ⟨H5, I5, q'⟩
    | true =>
      refine ite_tt (test_last (thn (hd.run pins s5 σ H5 _ I5 q5) fun w6 s6 ⟨z6, H6, I6, r6, q6⟩ => thn (ho'' pins s6 σ H6 z' z6 w' w6 _ I6 r4 r6 q6) fun d7 s7 ⟨z7, H7, I7, r7, k7, e7, q7⟩ => ?_))
      subst e7
      cases r7
      exact wpAny_truthy_bool ⟨H7, I7, q7⟩
/-! ### the rules with the written part named -/
section
variable {X : Cx} {K : PySem.W.Frag}
theorem op_eqDk (hu : X.A.units + 64 < cLine) (hK : X.K = K := by rfl) : OpR X (compareOp .Eq) (rEqD K) := by subst hK; exact op_eqD hu
theorem op_neDk (hu : X.A.units + 64 < cLine) (hK : X.K = K := by rfl) : OpR X (compareOp .NotEq) (rNeD K) := by subst hK; exact op_neD hu
theorem ix_listk (hK : X.K = K := by rfl) : IxR X (rIxL K) := by subst hK; exact ix_list
theorem ix_tupk (hK : X.K = K := by rfl) : IxR X (rIxT K) := by subst hK; exact ix_tup
theorem call_isik (hK : X.K = K := by rfl) : CallR X (.builtin "isinstance") (rIsi K) := by subst hK; exact call_isi
def rLen (K : PySem.W.Frag) : List V → Hp → VK → Prop := fun xs H Q => ∃ p ys, xs = [.ref p] ∧ (SqL K H p ys ∨ SqT K H p ys) ∧ Q (.int ys.length) H
theorem call_lenk (hK : X.K = K := by rfl) : CallR X (.builtin "len") (rLen K) := by subst hK; exact call_len_seq
theorem sl_listk (hK : X.K = K := by rfl) : SlR X (rSlL K) := by subst hK; exact sl_list
theorem cr_sumk (hc : X.calm = true) (hK : X.K = K := by rfl) : CallR X (.builtin "sum") (rSum K) := by subst hK; exact cr_sum hc
theorem cr_allk (hc : X.calm = true) (hK : X.K = K := by rfl) : CallR X (.builtin "all") (rAll K) := by subst hK; exact cr_all hc
theorem cr_anyk (hc : X.calm = true) (hK : X.K = K := by rfl) : CallR X (.builtin "any") (rAny K) := by subst hK; exact cr_any hc
end
/-! ### readings, by rewriting -/
section
variable {K : PySem.W.Frag} {D : Ends} {σ : L2.St} {H : Hp} {Q : VK} {t u : TS} {te ta tb tc : TE} {g : TG} {c d : TT} {v x y : V} {i j : Int} {n : Nat}
theorem rd_seq : tSeq t u D σ H = t { D with nx := u D } σ H := rfl
theorem rd_next : tNext D σ H = D.nx σ H := rfl
theorem rd_brk : tBreak D σ H = D.bk σ H := rfl
theorem rd_asg : tAsg te g D σ H = te σ H fun x H1 => g x σ H1 D.nx := rfl
theorem rd_name {R : L2.St → Hp → Prop} : gName n v σ H R = R (σ.set n (some v)) H := rfl
theorem rd_par {ta : TA} {k l : Nat} : tPar k l ta D σ H = ta σ H fun vs H1 => ∃ v w, vs = [v, w] ∧ D.nx ((σ.set k (some v)).set l (some w)) H1 := rfl
theorem rd_ret : tRet te D σ H = te σ H D.rt := rfl
theorem rd_retN : tRetN D σ H = D.rt .non H := rfl
theorem rd_drop : tDrop te D σ H = te σ H fun _ H1 => D.nx σ H1 := rfl
theorem rd_if : tIfS c t u D σ H = c σ H fun b H1 => if b = true then t D σ H1 else u D σ H1 := rfl
theorem rd_var : tVar n σ H Q = ∃ v, σ[n]? = some (some v) ∧ Q v H := rfl
theorem rd_c : tC v σ H Q = Q v H := rfl
theorem rd_op {r : R2} : tOp r ta tb σ H Q = ta σ H fun x H1 => tb σ H1 fun y H2 => r x y H2 Q := rfl
theorem rd_un {r : V → Hp → VK → Prop} : tUn r ta σ H Q = ta σ H fun x H1 => r x H1 Q := rfl
theorem rd_I0 {f : Int → Int → V} : rI0 f (.int i) (.int j) H Q ↔ Q (f i j) H := ⟨fun ⟨_, _, a, b, q⟩ => by cases a; cases b; exact q, fun q => ⟨i, j, rfl, rfl, q⟩⟩
theorem rd_I {C : Int → Int → Prop} {f : Int → Int → V} : rI C f (.int i) (.int j) H Q ↔ C i j ∧ Q (f i j) H := ⟨fun ⟨_, _, a, b, q⟩ => by cases a; cases b; exact q, fun q => ⟨i, j, rfl, rfl, q⟩⟩
theorem rd_U {f : Int → V} : rU f (.int i) H Q ↔ Q (f i) H := ⟨fun ⟨_, a, q⟩ => by cases a; exact q, fun q => ⟨i, rfl, q⟩⟩
theorem dec_int : decide (V.int i = V.int j) = decide (i = j) := by by_cases h : i = j <;> simp [h]
theorem rd_eqI : rEq (.int i) (.int j) H Q ↔ Q (.bl (decide (i = j))) H := ⟨fun ⟨_, q⟩ => by rw [dec_int] at q; exact q, fun q => ⟨rfl, by rw [dec_int]; exact q⟩⟩
theorem rd_neI : rNe (.int i) (.int j) H Q ↔ Q (.bl (!decide (i = j))) H := ⟨fun ⟨_, q⟩ => by rw [dec_int] at q; exact q, fun q => ⟨rfl, by rw [dec_int]; exact q⟩⟩
theorem rd_test {R : Bool → Hp → Prop} : tTest te σ H R = te σ H fun x H' => ∃ k, x = .bl k ∧ R k H' := rfl
theorem rd_B {R : Bool → Hp → Prop} : tB te σ H R = te σ H fun x H' => ∃ k, x = .bl k ∧ R k H' := rfl
theorem rd_and {R : Bool → Hp → Prop} : tAnd c d σ H R = c σ H fun k H1 => if k = true then d σ H1 R else R false H1 := rfl
theorem rd_or {R : Bool → Hp → Prop} : tOr c d σ H R = c σ H fun k H1 => if k = true then R true H1 else d σ H1 R := rfl
theorem rd_not {R : Bool → Hp → Prop} : tNot c σ H R = c σ H fun k H1 => R (!k) H1 := rfl
theorem rd_andV : tAndV ta tb σ H Q = ta σ H fun x H1 => ∃ c, x = .bl c ∧ if c = true then tb σ H1 Q else Q (.bl false) H1 := rfl
theorem rd_orV : tOrV ta tb σ H Q = ta σ H fun x H1 => ∃ c, x = .bl c ∧ if c = true then Q (.bl true) H1 else tb σ H1 Q := rfl
theorem rd_notV : tNotV ta σ H Q = ta σ H fun x H1 => ∃ c, x = .bl c ∧ Q (.bl (!c)) H1 := rfl
theorem rd_ifE : tIf c ta tb σ H Q = c σ H fun k H1 => if k = true then ta σ H1 Q else tb σ H1 Q := rfl
theorem rd_isN : tIsN ta σ H Q = ta σ H fun x H1 => Q (.bl (decide (x = .non))) H1 := rfl
theorem rd_notN : tNotN ta σ H Q = ta σ H fun x H1 => Q (.bl (!decide (x = .non))) H1 := rfl
theorem rd_chain {r r' : R2} : tChain r r' ta tb tc σ H Q = ta σ H fun x H1 => tb σ H1 fun y H2 => r x y H2 fun z H3 => ∃ k, z = .bl k ∧ (if k = true then tc σ H3 fun w' H4 => r' y w' H4 Q else Q (.bl false) H3) := rfl
theorem rd_chain3 {r r' r'' : R2} {td : TE} : tChain3 r r' r'' ta tb tc td σ H Q = ta σ H fun x H1 => tb σ H1 fun y H2 => r x y H2 fun z H3 => ∃ k, z = .bl k ∧ (if k = true then tc σ H3 fun y' H4 => r' y y' H4 fun z' H5 => ∃ k', z' = .bl k' ∧ (if k' = true then td σ H5 fun w' H6 => r'' y' w' H6 Q else Q (.bl false) H5) else Q (.bl false) H3) := rfl
theorem rd_nil {R : List V → Hp → Prop} : tNil σ H R = R [] H := rfl
theorem rd_cons {t : TA} {R : List V → Hp → Prop} : tCons ta t σ H R = ta σ H fun x H1 => t σ H1 fun xs H2 => R (x :: xs) H2 := rfl
theorem rd_tup {t : TA} : tTup t σ H Q = t σ H fun xs H1 => xs.length ≤ sizeLine ∧ ∀ p, H1 p = none → Q (.ref p) (upd H1 p (.tup xs)) := rfl
theorem rd_lst {t : TA} : tLst t σ H Q = t σ H fun xs H1 => xs.length ≤ sizeLine ∧ ∀ p, H1 p = none → Q (.ref p) (upd H1 p (.lst xs)) := rfl
theorem rd_call {sp : Sp} {ds : List V} {E : XK} {t : TA} : tCall sp ds E t σ H Q = t σ H fun vs H1 => sp (vs ++ ds) H1 Q E := rfl
theorem rd_CB {r : List V → Hp → VK → Prop} {t : TA} : tCB r t σ H Q = t σ H fun vs H1 => r vs H1 Q := rfl
theorem rd_ixL {p : Addr} : rIxL K (.ref p) (.int i) H Q ↔ ∃ xs v, SqL K H p xs ∧ atI xs i = some v ∧ Q v H := ⟨fun ⟨_, xs, _, v, a, b, q⟩ => by cases a; cases b; exact ⟨xs, v, q⟩, fun ⟨xs, v, q⟩ => ⟨p, xs, i, v, rfl, rfl, q⟩⟩
theorem rd_ixT {p : Addr} : rIxT K (.ref p) (.int i) H Q ↔ ∃ xs v, SqT K H p xs ∧ atI xs i = some v ∧ Q v H := ⟨fun ⟨_, xs, _, v, a, b, q⟩ => by cases a; cases b; exact ⟨xs, v, q⟩, fun ⟨xs, v, q⟩ => ⟨p, xs, i, v, rfl, rfl, q⟩⟩
theorem rd_sl {r : V → Option Int → Option Int → Hp → VK → Prop} {tl th : TO} : tSl r te tl th σ H Q = te σ H fun x H1 => tl σ H1 fun l H2 => th σ H2 fun u H3 => r x l u H3 Q := rfl
theorem rd_noPart {R : Option Int → Hp → Prop} : tNoPart σ H R = R none H := rfl
theorem rd_part {R : Option Int → Hp → Prop} : tPart te σ H R = te σ H fun x H1 => ∃ i, x = .int i ∧ R (some i) H1 := rfl
theorem rd_slL {p : Addr} {lo hi : Option Int} : rSlL K (.ref p) lo hi H Q ↔ ∃ xs, SqL K H p xs ∧ ∀ q, H q = none → Q (.ref q) (upd H q (.lst (cutV xs lo hi))) := ⟨fun ⟨_, xs, a, q⟩ => by cases a; exact ⟨xs, q⟩, fun ⟨xs, q⟩ => ⟨p, xs, rfl, q⟩⟩
theorem rd_sum {p : Addr} : rSum K [.ref p] H Q ↔ ∃ ns : List Int, SqL K H p (ns.map V.int) ∧ Q (.int ns.sum) H := ⟨fun ⟨_, xs, a, q⟩ => by cases a; exact ⟨xs, q⟩, fun ⟨xs, q⟩ => ⟨p, xs, rfl, q⟩⟩
theorem rd_all {p : Addr} : rAll K [.ref p] H Q ↔ ∃ bs : List Bool, SqL K H p (bs.map V.bl) ∧ Q (.bl (bs.all id)) H := ⟨fun ⟨_, xs, a, q⟩ => by cases a; exact ⟨xs, q⟩, fun ⟨xs, q⟩ => ⟨p, xs, rfl, q⟩⟩
theorem rd_any {p : Addr} : rAny K [.ref p] H Q ↔ ∃ bs : List Bool, SqL K H p (bs.map V.bl) ∧ Q (.bl (bs.any id)) H := ⟨fun ⟨_, xs, a, q⟩ => by cases a; exact ⟨xs, q⟩, fun ⟨xs, q⟩ => ⟨p, xs, rfl, q⟩⟩
theorem ex_int {R : Int → Prop} : (∃ k, V.int i = V.int k ∧ R k) ↔ R i := ⟨fun ⟨_, a, q⟩ => by cases a; exact q, fun q => ⟨i, rfl, q⟩⟩
theorem ex_int1 {R : Int → Prop} : (∃ k, [V.int i] = [V.int k] ∧ R k) ↔ R i := ⟨fun ⟨_, a, q⟩ => by cases a; exact q, fun q => ⟨i, rfl, q⟩⟩
theorem ex_int2 {R : Int → Int → Prop} : (∃ k l, [V.int i, V.int j] = [V.int k, V.int l] ∧ R k l) ↔ R i j := ⟨fun ⟨_, _, a, q⟩ => by cases a; exact q, fun q => ⟨i, j, rfl, q⟩⟩
theorem rd_len {p : Addr} : rLen K [.ref p] H Q ↔ ∃ ys : List V, (SqL K H p ys ∨ SqT K H p ys) ∧ Q (.int ys.length) H := ⟨fun ⟨_, xs, a, q⟩ => by cases a; exact ⟨xs, q⟩, fun ⟨xs, q⟩ => ⟨p, xs, rfl, q⟩⟩
theorem ex_len {p : Addr} {R : Addr → List V → Prop} : (∃ q ys, [V.ref p] = [V.ref q] ∧ R q ys) ↔ ∃ ys, R p ys := ⟨fun ⟨_, ys, a, q⟩ => by cases a; exact ⟨ys, q⟩, fun ⟨ys, q⟩ => ⟨p, ys, rfl, q⟩⟩
theorem ex_var {R : V → Prop} : (∃ w, (some (some v) : Option (Option V)) = some (some w) ∧ R w) ↔ R v := ⟨fun ⟨_, a, q⟩ => by cases a; exact q, fun q => ⟨v, rfl, q⟩⟩
theorem ex_bl {b : Bool} {R : Bool → Prop} : (∃ k, V.bl b = V.bl k ∧ R k) ↔ R b := ⟨fun ⟨_, a, q⟩ => by cases a; exact q, fun q => ⟨b, rfl, q⟩⟩
/-- a loop over what is walked -/
def forIt (J : It) (g : TG) (tb : TS) (D : Ends) (σ : L2.St) (H : Hp) : Prop := ∃ W : Nat → Nat → L2.St → Hp → Prop, (∃ m, W 0 m σ H) ∧ ∀ i m σ H, W i m σ H →
  (J.stop i H ∧ D.nx σ H) ∨ (J.go i H ∧ ∃ N : L2.St → Hp → Prop, (∀ σ' H', N σ' H' → ∃ m', m' < m ∧ W (i + 1) m' σ' H') ∧ ∀ x H', J.yld i H x H' → g x σ H' fun σ2 H2 => tb { D with nx := N, ct := N, bk := D.nx } σ2 H2)
theorem rd_forL {tl : TE} : tFor (iList K tl) g t D σ H = tl σ H fun x H1 => ∃ a, x = .ref a ∧ (∃ xs, SqL K H1 a xs) ∧ forIt (Itl K a) g t D σ H1 := rfl
theorem rd_forT {tl : TE} : tFor (iTup K tl) g t D σ H = tl σ H fun x H1 => ∃ a, x = .ref a ∧ (∃ xs, SqT K H1 a xs) ∧ forIt (Itt K a) g t D σ H1 := rfl
theorem rd_forR1 {ta : TA} : tFor (iR1 ta) g t D σ H = ta σ H fun vs H1 => ∃ j : Int, vs = [.int j] ∧ forIt (Itr 0 j.toNat) g t D σ H1 := rfl
theorem rd_forR2 {ta : TA} : tFor (iR2 ta) g t D σ H = ta σ H fun vs H1 => ∃ i j : Int, vs = [.int i, .int j] ∧ forIt (Itr i (j - i).toNat) g t D σ H1 := rfl
theorem rd_forR3 {ta : TA} : tFor (iRng3 ta) g t D σ H = ta σ H fun vs H1 => ∃ (i j c : Int) (n : Nat), vs = [.int i, .int j, .int c] ∧ RgC i j c n ∧ forIt (Itc i c n) g t D σ H1 := rfl
theorem ex_ref {p : Addr} {R : Addr → Prop} : (∃ a, V.ref p = V.ref a ∧ R a) ↔ R p := ⟨fun ⟨_, a, q⟩ => by cases a; exact q, fun q => ⟨p, rfl, q⟩⟩
/-- the value in a slot, handed on -/
def slot : L2.St → Nat → (V → Prop) → Prop
  | [], _, _ => False
  | none :: _, 0, _ => False
  | some v :: _, 0, k => k v
  | _ :: σ, n + 1, k => slot σ n k
theorem slot_z {σ : L2.St} {k : V → Prop} : slot (some v :: σ) 0 k = k v := rfl
theorem slot_n {o : Option V} {σ : L2.St} {k : V → Prop} : slot (o :: σ) (n + 1) k = slot σ n k := by cases o <;> rfl
def setS : L2.St → Nat → V → (L2.St → Prop) → Prop
  | [], _, _, k => k []
  | _ :: σ, 0, v, k => k (some v :: σ)
  | o :: σ, n + 1, v, k => setS σ n v fun σ' => k (o :: σ')
theorem setS_z {o : Option V} {σ : L2.St} {k : L2.St → Prop} : setS (o :: σ) 0 v k = k (some v :: σ) := rfl
theorem setS_n {o : Option V} {σ : L2.St} {k : L2.St → Prop} : setS (o :: σ) (n + 1) v k = setS σ n v fun σ' => k (o :: σ') := rfl
theorem slot_iff : ∀ (σ : L2.St) (n : Nat) (k : V → Prop), (∃ v, σ[n]? = some (some v) ∧ k v) ↔ slot σ n k
  | [], n, k => by simp [slot]
  | none :: σ, 0, k => by simp [slot]
  | some v :: σ, 0, k => by simp [slot]
  | o :: σ, n + 1, k => by
    have ih := slot_iff σ n k
    rw [slot_n, ← ih]
    simp
theorem setS_iff : ∀ (σ : L2.St) (n : Nat) (v : V) (k : L2.St → Prop), k (σ.set n (some v)) ↔ setS σ n v k
  | [], n, v, k => by simp [setS]
  | o :: σ, 0, v, k => by simp [setS]
  | o :: σ, n + 1, v, k => by
    have ih := setS_iff σ n v (fun σ' => k (o :: σ'))
    rw [setS_n, ← ih]
    simp
theorem rp_var : tVar n σ H Q ↔ slot σ n fun v => Q v H := slot_iff σ n _
theorem rp_name {R : L2.St → Hp → Prop} : gName n v σ H R ↔ setS σ n v fun σ' => R σ' H := setS_iff σ n v fun σ' => R σ' H
theorem rp_par {ta : TA} {k l : Nat} : tPar k l ta D σ H ↔ ta σ H fun vs H1 => ∃ v w, vs = [v, w] ∧ setS σ k v fun σ' => setS σ' l w fun σ'' => D.nx σ'' H1 := by
  have e : ∀ (v w : V) (H1 : Hp), D.nx ((σ.set k (some v)).set l (some w)) H1 ↔ setS σ k v fun σ' => setS σ' l w fun σ'' => D.nx σ'' H1 := fun v w H1 => by
    rw [← setS_iff σ k v (fun σ' => setS σ' l w fun σ'' => D.nx σ'' H1), ← setS_iff]
  show (ta σ H fun vs H1 => ∃ v w, vs = [v, w] ∧ D.nx ((σ.set k (some v)).set l (some w)) H1) ↔ _
  have : (fun (vs : List V) (H1 : Hp) => ∃ v w, vs = [v, w] ∧ D.nx ((σ.set k (some v)).set l (some w)) H1) = fun vs H1 => ∃ v w, vs = [v, w] ∧ setS σ k v fun σ' => setS σ' l w fun σ'' => D.nx σ'' H1 := by
    funext vs H1
    refine propext ⟨?_, ?_⟩
    · rintro ⟨v, w, a, b⟩
      exact ⟨v, w, a, (e v w H1).mp b⟩
    · rintro ⟨v, w, a, b⟩
      exact ⟨v, w, a, (e v w H1).mpr b⟩
  rw [this]
theorem cx_K {CX : CXT} {P : Program} {w : World} {mg : Str → Option Value} {base : Heap} {N : List Str} {q : Str} {sc : Scope} {f : Addr} {cd : Value} {A : Around} {o : List Env} {s : Shared} {E : XK} : (cxOf CX P w K mg base N q sc f cd A o s H E).K = K := rfl
theorem if_dec {c : Prop} [Decidable c] {A B : Prop} : (if decide c = true then A else B) = if c then A else B := by by_cases h : c <;> simp [h]
theorem if_ndec {c : Prop} [Decidable c] {A B : Prop} : (if (!decide c) = true then A else B) = if c then B else A := by by_cases h : c <;> simp [h]
theorem if_nb {b : Bool} {A B : Prop} : (if (!b) = true then A else B) = if b = true then B else A := by cases b <;> simp
theorem if_tt {A B : Prop} : (if true = true then A else B) = A := by simp
theorem if_ff {A B : Prop} : (if false = true then A else B) = B := by simp
theorem ex_two {R : V → V → Prop} : (∃ a b, [x, y] = [a, b] ∧ R a b) ↔ R x y := ⟨fun ⟨_, _, a, q⟩ => by cases a; exact q, fun q => ⟨x, y, rfl, q⟩⟩
end
/-! ### a def of the text -/
structure DefAt (K : PySem.W.Frag) (mg : Str → Option Value) (x qual : Str) (st : Stmt) (ps : List Str) (f : Addr) (fd : FuncData) : Prop where
  F : Fun K x qual st f fd
  b : Binds K fd ps []
  g : mg x = some (.ref f)
theorem DefAt.kp {K : PySem.W.Frag} {mg : Str → Option Value} {x qual : Str} {st : Stmt} {ps : List Str} {f : Addr} {fd : FuncData} (d : DefAt K mg x qual st ps f fd) : PySem.W.keepIn K (.ref f) = true := d.F.kp
end Sa
/-! rules over displays, comprehensions over ranges, ranges with a step -/
namespace Sa
open PySem PySem.Spec PyProof.Rows L2 Evl
theorem same_newO {H : Hp} {p : Addr} {o : HO} (h : H p = none) : Same H (upd H p o) := fun b x e => by
  rw [upd_ne (ne_of_none e h)]
  exact e
theorem same_mut {H H' : Hp} {p : Addr} {o : HO} (e : Same H H') (h : H p = none) : Same H (upd H' p o) := fun a u ha => by
  rw [upd_ne (ne_of_none ha h)]
  exact e a u ha
/-! ### what evaluates to what, at any later heap -/
def EvE (te : TE) (σ : L2.St) (v : V) : Prop := ∀ (H : Hp) (Q : VK), Q v H → te σ H Q
def EvAL (ta : TA) (σ : L2.St) (I : List V → Hp → Prop) : Prop := ∀ (H : Hp) (Q : List V → Hp → Prop), (∀ xs H2, Same H H2 → I xs H2 → Q xs H2) → ta σ H Q
def IInts (ns : List Int) (xs : List V) (_ : Hp) : Prop := xs = ns.map V.int
def IPairs : List (Int × Int) → List V → Hp → Prop
  | [], xs, _ => xs = []
  | (a, b) :: r, xs, H => ∃ p ys, xs = .ref p :: ys ∧ H p = some (.tup [.int a, .int b]) ∧ IPairs r ys H
theorem IPairs.mono : ∀ {ab : List (Int × Int)} {xs : List V} {H H' : Hp}, Same H H' → IPairs ab xs H → IPairs ab xs H'
  | [], _, _, _, _, h => h
  | (a, b) :: r, _, _, _, s, ⟨p, ys, e, hp, h⟩ => ⟨p, ys, e, s _ _ hp, IPairs.mono s h⟩
theorem IPairs.len : ∀ {ab : List (Int × Int)} {xs : List V} {H : Hp}, IPairs ab xs H → xs.length = ab.length
  | [], _, _, h => by rw [h]; rfl
  | (a, b) :: r, _, _, ⟨p, ys, e, hp, h⟩ => by rw [e, List.length_cons, List.length_cons, IPairs.len h]
theorem IPairs.at : ∀ {ab : List (Int × Int)} {xs : List V} {H : Hp} {i : Nat} {x : V}, IPairs ab xs H → xs[i]? = some x → ∃ a b p, ab[i]? = some (a, b) ∧ x = .ref p ∧ H p = some (.tup [.int a, .int b])
  | [], _, _, i, x, h, e => by rw [h] at e; simp at e
  | (a, b) :: r, _, _, 0, x, ⟨p, ys, e, hp, h⟩, ex => by
    rw [e] at ex
    cases ex
    exact ⟨a, b, p, rfl, rfl, hp⟩
  | (a, b) :: r, _, _, i + 1, x, ⟨p, ys, e, hp, h⟩, ex => by
    rw [e] at ex
    exact IPairs.at (i := i) h ex
theorem al_nilI {σ : L2.St} : EvAL tNil σ (IInts []) := fun H Q q => q [] H (Same.refl H) rfl
theorem al_consI {σ : L2.St} {te : TE} {ta : TA} {n : Int} {ns : List Int} (h : EvE te σ (.int n)) (g : EvAL ta σ (IInts ns)) : EvAL (tCons te ta) σ (IInts (n :: ns)) := fun H Q q =>
  h H _ (g H _ fun xs H2 s i => q _ H2 s (by rw [show xs = ns.map V.int from i]; rfl))
theorem al_nilP {σ : L2.St} : EvAL tNil σ (IPairs []) := fun H Q q => q [] H (Same.refl H) rfl
theorem al_consP {σ : L2.St} {te tu : TE} {ta : TA} {a b : Int} {ab : List (Int × Int)} (h : EvE te σ (.int a)) (h' : EvE tu σ (.int b)) (g : EvAL ta σ (IPairs ab)) : EvAL (tCons (tTup (tCons te (tCons tu tNil))) ta) σ (IPairs ((a, b) :: ab)) := fun H Q q =>
  h H _ (h' H _ ⟨by show 2 ≤ sizeLine; decide, fun p hp => g _ _ fun xs H2 s i => q _ H2 ((same_newO hp).trans s) ⟨p, xs, rfl, s _ _ upd_same, i⟩⟩)
theorem ee_var {σ : L2.St} {n : Nat} {v : V} (h : σ[n]? = some (some v)) : EvE (tVar n) σ v := fun H Q q => ⟨v, h, q⟩
theorem ee_c {σ : L2.St} {v : V} : EvE (tC v) σ v := fun H Q q => q
theorem ee_U {σ : L2.St} {ta : TE} {f : Int → V} {i : Int} (h : EvE ta σ (.int i)) : EvE (tUn (rU f) ta) σ (f i) := fun H Q q => h H _ ⟨i, rfl, q⟩
theorem ee_I0 {σ : L2.St} {ta tb : TE} {f : Int → Int → V} {i j : Int} (h : EvE ta σ (.int i)) (g : EvE tb σ (.int j)) : EvE (tOp (rI0 f) ta tb) σ (f i j) := fun H Q q => h H _ (g H _ ⟨i, j, rfl, rfl, q⟩)
theorem ee_I {σ : L2.St} {ta tb : TE} {C : Int → Int → Prop} {f : Int → Int → V} {i j : Int} (h : EvE ta σ (.int i)) (g : EvE tb σ (.int j)) (c : C i j) : EvE (tOp (rI C f) ta tb) σ (f i j) := fun H Q q => h H _ (g H _ ⟨i, j, rfl, rfl, c, q⟩)
/-- for x in [.., ..], the items told by I -/
theorem for_disp {K : PySem.W.Frag} {ta : TA} {g : TG} {tb : TS} {D : Ends} {σ : L2.St} {H : Hp} {I : List V → Hp → Prop} {n : Nat} (mono : ∀ xs H H', Same H H' → I xs H → I xs H') (len : ∀ xs H, I xs H → xs.length = n) (hn : n ≤ 1000) (hp : EvAL ta σ I)
    (Pv : Nat → L2.St → Hp → Prop) (h0 : ∀ H1, Same H H1 → Pv 0 σ H1)
    (hs : ∀ (Hf : Hp) (l : Addr), Same H Hf → ∀ i x xs σ' H', xs[i]? = some x → i < n → Same Hf H' → I xs H' → Pv i σ' H' → g x σ' H' fun σ2 H2 => tb { D with nx := fun σ3 H3 => Same Hf H3 ∧ Pv (i + 1) σ3 H3, ct := fun σ3 H3 => Same Hf H3 ∧ Pv (i + 1) σ3 H3, bk := D.nx } σ2 H2)
    (hd : ∀ σ' H', Same H H' → Pv n σ' H' → D.nx σ' H') : tFor (iList K (tLst ta)) g tb D σ H := by
  refine hp H _ fun xs H2 s2 i2 => ?_
  have hl := len xs H2 i2
  refine ⟨Nat.le_trans (by omega) (show 1000 ≤ sizeLine by decide), fun l nl => ⟨l, rfl, ⟨xs, .inl (.inl upd_same)⟩, ?_⟩⟩
  have sl := s2.trans (same_newO (o := .lst xs) nl)
  have h := for_list (K := K) (a := l) (xs := xs) (g := g) (tb := tb) (D := D) (σ := σ) (H := upd H2 l (.lst xs)) (fun i σ' H' => Same (upd H2 l (.lst xs)) H' ∧ Pv i σ' H') ⟨Same.refl _, h0 _ sl⟩
    (fun i σ' H' _ ⟨s, _⟩ => .inl (.inl (s _ _ upd_same)))
    (fun i x σ' H' hi ⟨s, p⟩ => hs _ l sl i x xs σ' H' hi (by rw [← hl]; exact (List.getElem?_eq_some_iff.mp hi).1) s (mono _ _ _ ((same_newO nl).trans s) i2) p)
    (fun σ' H' ⟨s, p⟩ => hd σ' H' (sl.trans s) (by rw [← hl]; exact p))
  exact h
/-- for x in (.., ..), the items told by I -/
theorem for_dispT {K : PySem.W.Frag} {ta : TA} {g : TG} {tb : TS} {D : Ends} {σ : L2.St} {H : Hp} {I : List V → Hp → Prop} {n : Nat} (mono : ∀ xs H H', Same H H' → I xs H → I xs H') (len : ∀ xs H, I xs H → xs.length = n) (hn : n ≤ 1000) (hp : EvAL ta σ I)
    (Pv : Nat → L2.St → Hp → Prop) (h0 : ∀ H1, Same H H1 → Pv 0 σ H1)
    (hs : ∀ (Hf : Hp) (l : Addr), Same H Hf → ∀ i x xs σ' H', xs[i]? = some x → i < n → Same Hf H' → I xs H' → Pv i σ' H' → g x σ' H' fun σ2 H2 => tb { D with nx := fun σ3 H3 => Same Hf H3 ∧ Pv (i + 1) σ3 H3, ct := fun σ3 H3 => Same Hf H3 ∧ Pv (i + 1) σ3 H3, bk := D.nx } σ2 H2)
    (hd : ∀ σ' H', Same H H' → Pv n σ' H' → D.nx σ' H') : tFor (iTup K (tTup ta)) g tb D σ H := by
  refine hp H _ fun xs H2 s2 i2 => ?_
  have hl := len xs H2 i2
  refine ⟨Nat.le_trans (by omega) (show 1000 ≤ sizeLine by decide), fun l nl => ⟨l, rfl, ⟨xs, .inl (.inl upd_same)⟩, ?_⟩⟩
  have sl := s2.trans (same_newO (o := .tup xs) nl)
  have h := for_tup (K := K) (a := l) (xs := xs) (g := g) (tb := tb) (D := D) (σ := σ) (H := upd H2 l (.tup xs)) (fun i σ' H' => Same (upd H2 l (.tup xs)) H' ∧ Pv i σ' H') ⟨Same.refl _, h0 _ sl⟩
    (fun i σ' H' _ ⟨s, _⟩ => .inl (.inl (s _ _ upd_same)))
    (fun i x σ' H' hi ⟨s, p⟩ => hs _ l sl i x xs σ' H' hi (by rw [← hl]; exact (List.getElem?_eq_some_iff.mp hi).1) s (mono _ _ _ ((same_newO nl).trans s) i2) p)
    (fun σ' H' ⟨s, p⟩ => hd σ' H' (sl.trans s) (by rw [← hl]; exact p))
  exact h
/-! ### a comprehension over a range, each element of a value -/
theorem lc_map {lo : Int} {n j : Nat} {te : TE} {vs : List Nat} {σ : L2.St} {H1 : Hp} {D : Addr} {Qd : Hp → Prop} (v : Nat → V) (hw : ∀ x, wipe ((wipe σ vs).set j (some x)) vs = wipe σ vs) (hD : H1 D = none) (hn : n ≤ 1000000)
    (he : ∀ (i : Nat) (H' : Hp), i < n → Same H1 H' → ∀ Q : VK, (∀ H2, Same H' H2 → Q (v i) H2) → te ((wipe σ vs).set j (some (.int (lo + (i : Int))))) H' Q)
    (hd : ∀ H', Same H1 H' → H' D = some (.lst ((List.range n).map v)) → Qd H') :
    ∃ W : Nat → Nat → Hp → Prop, (∃ m, W 0 m (upd H1 D (.lst []))) ∧ ∀ i m H, W i m H →
      ((Itr lo n).stop i H ∧ Qd H) ∨ ((Itr lo n).go i H ∧ ∃ Nx : Hp → Prop, (∀ H', Nx H' → ∃ m', m' < m ∧ W (i + 1) m' H') ∧ ∀ x H', (Itr lo n).yld i H x H' → (gName j) x (wipe σ vs) H' fun σ2 H2 => wipe σ2 vs = wipe σ vs ∧ tYes σ2 H2 fun b H3 =>
        if b = true then te σ2 H3 fun y H4 => ∃ acc, H4 D = some (.lst acc) ∧ acc.length < sizeLine ∧ Nx (upd H4 D (.lst (acc ++ [y]))) else Nx H3) := by
  refine lc_range (fun i H' => Same H1 H' ∧ H' D = some (.lst ((List.range i).map v))) ⟨same_mut (Same.refl _) hD, upd_same⟩ (fun i H' hi ⟨s, e⟩ => ?_) (fun H' ⟨s, e⟩ => hd H' s e)
  refine ⟨hw _, ?_⟩
  unfold tYes
  dsimp only
  rw [if_pos rfl]
  refine he i H' hi s _ fun H2 s2 => ⟨(List.range i).map v, s2 _ _ e, ?_, same_mut (s.trans s2) hD, ?_⟩
  · rw [List.length_map, List.length_range]
    exact Nat.lt_of_lt_of_le (Nat.lt_of_lt_of_le hi hn) (show 1000000 ≤ sizeLine by decide)
  · rw [upd_same, List.range_succ, List.map_append]
    rfl
/-- an iterator that is there -/
def itI (J : It) : TI := fun _ H R => R J H
theorem rd_lcR1 {ta : TA} {g : TG} {tt : TT} {te : TE} {vs : List Nat} {σ : L2.St} {H : Hp} {Q : VK} : tLc (iR1 ta) g tt te vs σ H Q = ta σ H fun ws H1 => ∃ j : Int, ws = [.int j] ∧ tLc (itI (Itr 0 j.toNat)) g tt te vs σ H1 Q := rfl
theorem rd_lcR2 {ta : TA} {g : TG} {tt : TT} {te : TE} {vs : List Nat} {σ : L2.St} {H : Hp} {Q : VK} : tLc (iR2 ta) g tt te vs σ H Q = ta σ H fun ws H1 => ∃ i j : Int, ws = [.int i, .int j] ∧ tLc (itI (Itr i (j - i).toNat)) g tt te vs σ H1 Q := rfl
theorem rd_lcL {K : PySem.W.Frag} {tl : TE} {g : TG} {tt : TT} {te : TE} {vs : List Nat} {σ : L2.St} {H : Hp} {Q : VK} : tLc (iList K tl) g tt te vs σ H Q = tl σ H fun x H1 => ∃ a, x = .ref a ∧ (∃ xs, SqL K H1 a xs) ∧ tLc (itI (Itl K a)) g tt te vs σ H1 Q := rfl
theorem rd_lcT {K : PySem.W.Frag} {tl : TE} {g : TG} {tt : TT} {te : TE} {vs : List Nat} {σ : L2.St} {H : Hp} {Q : VK} : tLc (iTup K tl) g tt te vs σ H Q = tl σ H fun x H1 => ∃ a, x = .ref a ∧ (∃ xs, SqT K H1 a xs) ∧ tLc (itI (Itt K a)) g tt te vs σ H1 Q := rfl
theorem lc_mapR {lo : Int} {n j : Nat} {te : TE} {vs : List Nat} {σ : L2.St} {H1 : Hp} {Q : VK} (v : Nat → V) (hw : ∀ x, wipe ((wipe σ vs).set j (some x)) vs = wipe σ vs) (hn : n ≤ 1000000)
    (he : ∀ (i : Nat) (H' : Hp), i < n → Same H1 H' → ∀ Q : VK, (∀ H2, Same H' H2 → Q (v i) H2) → te ((wipe σ vs).set j (some (.int (lo + (i : Int))))) H' Q)
    (hd : ∀ D H', H1 D = none → Same H1 H' → H' D = some (.lst ((List.range n).map v)) → Q (.ref D) H') : tLc (itI (Itr lo n)) (gName j) tYes te vs σ H1 Q := fun D hD =>
  lc_map v hw hD hn he fun H' s e => hd D H' hD s e
/-! ### range(0, n, 1 + n // 2) -/
def chkR (l : Nat) : Bool :=
  let n := (Builtin.Range.rangeSize 0 (l : Int) (1 + (l : Int) / 2)).toNat
  decide (n ≤ 2) && Builtin.Range.small 0 (l : Int) (1 + (l : Int) / 2) && decide (Builtin.Range.rangeSize 0 (l : Int) (1 + (l : Int) / 2) = (n : Int)) && (List.range n).all fun i => decide ((i : Int) * (1 + (l : Int) / 2) < (l : Int))
theorem chkR_all : (List.range 64).all (fun l => l == 0 || chkR l) = true := by decide +kernel
theorem rgc {l : Nat} (h0 : 0 < l) (h1 : l ≤ 63) : ∃ n : Nat, n ≤ 2 ∧ RgC 0 (l : Int) (1 + (l : Int) / 2) n ∧ ∀ i : Nat, i < n → (i : Int) * (1 + (l : Int) / 2) < (l : Int) := by
  have h := List.all_eq_true.mp chkR_all l (List.mem_range.mpr (by omega))
  have e : (l == 0) = false := by
    rw [beq_eq_false_iff_ne]
    omega
  rw [e, Bool.false_or] at h
  unfold chkR at h
  simp only [Bool.and_eq_true, decide_eq_true_eq, List.all_eq_true, List.mem_range] at h
  obtain ⟨⟨⟨a, b⟩, c⟩, d⟩ := h
  exact ⟨_, a, ⟨by omega, by omega, b, c⟩, d⟩
section
variable {D : Ends} {σ : L2.St} {H : Hp} {Q : VK} {td ty tv : TE}
theorem rd_dput : sDPut td ty tv D σ H = tv σ H fun v H1 => td σ H1 fun x H2 => ty σ H2 fun y H3 => ∃ a H4, x = .ref a ∧ DPut H3 a y v H4 ∧ D.nx σ H4 := rfl
theorem rd_dget1 : tDGet1 td ty σ H Q = td σ H fun x H1 => ∃ a, x = .ref a ∧ IsD H1 a ∧ ty σ H1 fun y H2 => ∃ o, DGet H2 a y o ∧ Q (o.getD .non) H2 := rfl
theorem rd_din : tDIn ty td σ H Q = ty σ H fun y H1 => td σ H1 fun x H2 => ∃ a o, x = .ref a ∧ DGet H2 a y o ∧ Q (.bl o.isSome) H2 := rfl
theorem rd_dget : tDGet td ty σ H Q = td σ H fun x H1 => ty σ H1 fun y H2 => ∃ a v, x = .ref a ∧ DGet H2 a y (some v) ∧ Q v H2 := rfl
theorem rd_dnew : tDNewK σ H Q = ∀ p, H p = none → Q (.ref p) (upd H p (.dK [])) := rfl
end
end Sa
/-! defs that raise where nothing is handled (the error's context is None), and what is walked while an error is handled -/
namespace Sa
open PySem PySem.Spec PyProof.Rows L2 Evl
theorem passN {X : Cx} : Passes (L2N.CX X.prog X.w) X E0 := fun _ _ _ _ _ _ _ h => by
  obtain ⟨_, _, _, _, _, _, _, _, _, _, _, _, z⟩ := h
  exact z.elim
theorem takesN {X : Cx} : L2N.Takes X (fun _ _ _ _ => False) := fun _ _ x => by
  obtain ⟨_, _, _, _, _, _, _, _, _, _, _, _, _, _, _, _, z⟩ := x
  exact z.elim
section
variable {P : Program} {w : World} {K : PySem.W.Frag} {mg : Str → Option Value} {base : Heap}
theorem okN {x qual : Str} {st : Stmt} {f : Addr} {fd : FuncData} {N ps : List Str} {k : Nat} {sp : Sp} (F : Fun K x qual st f fd) (S : FnScope N ps (defScope st)) (len : ∀ vs H Q E, sp vs H Q E → vs.length = ps.length)
    (hbody : ∀ (cdv : Value) (A : Around) (outer : List Env) (s : Shared) (H : Hp) (vs : List V) (Q : VK) (E : XK), Room k (A.deeper (envOfC qual (defScope st) s.heap.objs.size f cdv)) → sp vs H Q E →
      ∃ t, PSs (cxOf (L2N.CX P w) P w K mg base N qual (defScope st) f cdv A outer s H E) (defBody st) t ∧ t { nx := fun _ H' => Q .non H', rt := Q } (start N vs) H) : FnOk P w K mg base (L2N.CX P w) (k + 1) f fd ps sp := by
  obtain ⟨oc, od, kV, doc, pm, an, cdv, ct, osl, rfl, lk, hcd⟩ := F.ex
  exact fn_of lk hcd S len fun A outer s H vs Q E hr hsp => hbody cdv A outer s H vs Q E hr hsp
end
/-! ### any(xs) while an error is handled -/
theorem pyNext_list_end_hot {prog : Program} {w : World} {A : Around} {E : Value → Shared → Prop} {s : Shared} {it l x1 : Addr} {i : Nat} {items : Array Value} {Q : Option Value → Shared → Prop} (hot : HotX.HotAt A x1 s.heap) (hne : x1 ≠ it)
    (hit : s.heap.IsListIter it l i) (hl : s.heap.IsList l items) (hx : items[i]? = none)
    (hQ : ∀ h', (∀ b o, b ≠ it → s.heap.get? b = some o → h'.get? b = some o) → Q none { s with heap := h' }) : wpAny (model prog w) A (pyNext (.ref it)) Q E s := by
  obtain ⟨o, ho, hc, hd⟩ := id hit
  obtain ⟨ol, hol, _, nl, hdl⟩ := hl
  obtain ⟨hh, o1, vs1, h1, d1, c1⟩ := hot
  unfold pyNext
  refine wpAny_bind (wpAny_attempt (wpAny_callSpecial?_slot (name := Str.ofString "__next__") hit.typeIs slot_listiter_next
    (wpAny_call_entry slot_listiter_next hit.typeIs entry_listiter_next ?_ (args_listiter_next _))))
  show wpAny _ _ (field (.ref it) 0 >>= _) _ _ s
  refine wpAny_bind (wpAny_field ho hd (x := .ref l) rfl ?_)
  show wpAny _ _ (if (Value.ref l == Value.none) = true then _ else _) _ _ s
  rw [if_neg (show ¬ ((Value.ref l == Value.none) = true) from Bool.false_ne_true)]
  show wpAny _ _ (field (.ref it) 1 >>= _) _ _ s
  refine wpAny_bind (wpAny_field ho hd (x := .int i 0) rfl ?_)
  show wpAny _ _ (seqItems? (.ref l) >>= _) _ _ s
  refine wpAny_bind (wpAny_seqItems hol hdl ?_)
  simp only [Int.toNat_natCast, hx]
  refine wpAny_bind (wpAny_rule (wpAny_bind (wpAny_setField ho hd (by simp) ?_)))
  show wpAny _ _ (newExc (.type "StopIteration") [] >>= _) _ _ _
  refine wpAny_bind ?_
  simp only [newExc, newTuple]
  refine wpAny_bind (wpAny_newObj_type ?_ (by size_fits))
  refine wpAny_bind (m := firstArgMember _ _) (wpAny_of_eq (a := Value.none) (by first | rfl | (simp only [firstArgMember]; rfl)) ?_)
  refine wpAny_newObj_type ?_ (by size_fits)
  have k1 : ∀ b o', b ≠ it → s.heap.get? b = some o' → (s.heap.update it (Obj.mapFields (·.setIfInBounds 0 .none))).get? b = some o' := fun b o' hb e => by
    rw [Heap.get?_update_other _ _ hb.symm]
    exact e
  have x2 := k1 _ _ hne h1
  refine HotX.raiseNew_hot ⟨hh, o1, vs1, Heap.get?_push_of_some _ (Heap.get?_push_of_some _ x2), d1, c1⟩ (Nat.ne_of_lt (Heap.lt_size (Heap.get?_push_of_some _ x2))) (Heap.get?_push_size _ rfl) rfl (by first | (simp; done) | (simp; omega) | (simp only [Array.size_append]; simp; omega)) ?_
  refine wpAny_bind (wpAny_isInstance (T := "StopIteration") (b := true) ⟨_, Heap.get?_update_self _ (Heap.get?_push_size _ rfl) rfl, rfl⟩ isSubtype_stop ?_)
  refine wpAny_pure (hQ _ fun b o hb e => ?_)
  have x3 := k1 _ _ hb e
  rw [Heap.get?_update_other _ _ (Nat.ne_of_gt (Heap.lt_size (Heap.get?_push_of_some _ x3)))]
  exact Heap.get?_push_of_some _ (Heap.get?_push_of_some _ x3)
theorem walks_list_hot {prog : Program} {w : World} {A : Around} {x1 : Addr} {o1 : Obj} {vs1 : Array Value} (hh : A.handled = some (.ref x1)) (d1 : o1.data = .fields vs1) (c1 : vs1[2]? = some .none) (I ax : Addr) (hne : ax ≠ I) (hx1 : x1 ≠ I) (items : Array Value) :
    Walks prog w A I [I, ax, x1] [I] items.size (fun i v => items[i]? = some v) (fun i h => h.IsListIter I ax i ∧ h.IsList ax items ∧ h.get? x1 = some o1) where
  sub := fun b hb => by simp at hb; simp [hb]
  frame := fun _ _ _ st hk => ⟨st.1.at fun o e => hk I (by simp) o e, st.2.1.at fun o e => hk ax (by simp) o e, hk x1 (by simp) _ st.2.2⟩
  item := fun i s Q E hi st hQ => by
    refine wpAny_pyNext_list_item st.1 st.2.1 (x := items[i]) (by simp [hi]) fun h' hit' hs' => ?_
    exact hQ _ h' s.toks (by simp [hi]) ⟨hit', st.2.1.extBut hs'.extBut hne, hs'.extBut x1 _ hx1 st.2.2⟩ fun b o hb e => hs'.extBut b o (fun h => hb (by simp [h])) e
  done := fun s Q E st hQ => pyNext_list_end_hot ⟨hh, o1, vs1, st.2.2, d1, c1⟩ hx1 st.1 st.2.1 (by simp) fun h' he' => hQ h' s.toks fun b o hb e => he' b o (fun h => hb (by simp [h])) e
  self := fun _ _ _ _ st hQ => wpAny_pyIter_listiter st.1 hQ
theorem hotC_suite {X : Cx} {a : Addr} {oe : Obj} {cls : Value} {d : Option Addr} {pn : List (Addr × Obj)} (hz : L2N.Zn cls d oe) (hf : ∃ vs, oe.data = .fields vs) : L2H.HotC (X.suite a ((a, oe) :: pn)) := by
  obtain ⟨vs, e⟩ := hf
  exact ⟨(a, oe), ⟨rfl, vs, e, hz.2.2 vs e⟩, List.mem_cons_self⟩
theorem cr_anyH {X : Cx} {K : PySem.W.Frag} (hc : L2H.HotC X) (hK : X.K = K := by rfl) : CallR X (.builtin "any") (rAny K) := by
  subst hK
  intro pins s σ H vs us Q I r h
  obtain ⟨a, bs, rfl, hs, q⟩ := h
  obtain ⟨its, rv, hl, _⟩ := I.list hs
  obtain ⟨p, ⟨hh, v1, e1, c1⟩, hp⟩ := hc
  have hg := (I.pin p (List.mem_append_left _ hp)).1
  rw [Vals.ref1 r]
  have hb := rv.bls
  refine call_any_walk (iter_any hl.isList fun s₂ e2 st hne => ?_)
  subst e2
  have hp2 : p.1 ≠ s.heap.objs.size := Nat.ne_of_lt (Heap.lt_size hg)
  refine ⟨_, _, _, _, _, _, _, rfl, walks_list_hot (A := X.A.in1) hh e1 c1 _ a hne hp2 its.toArray, ⟨st.1, st.2, Heap.get?_push_of_some _ hg⟩, truth_bools hb, fun h' tk hk => ?_⟩
  refine ⟨.bl _, H, I.kept fun b o eo => hk b o (fun hmem => ?_) (Heap.get?_push_of_some _ eo), ?_, q⟩
  · rcases List.mem_cons.mp hmem with e1 | hmem
    · exact absurd (e1 ▸ Heap.lt_size eo) (Nat.lt_irrefl _)
    · cases hmem
  · show Value.bool _ = Value.bool _
    rw [← L2.any_range, hb, List.size_toArray, List.length_map]
/-- isinstance(e, c), e the error that the suite holds -/
def rIsX (K : PySem.W.Frag) (cls : Value) (d : Option Addr) (a : Addr) : List V → Hp → VK → Prop := fun xs H Q => ∃ (D : Addr) (c : V) (cv : Value) (b : Bool), cls = .ref D ∧ d = none ∧ ExcC K D ∧ xs = [.ref a, c] ∧ (∀ u, RelV c u → u = cv) ∧ PySem.W.kitOne K (.ref D) cv = some b ∧ Q (.bl b) H
theorem call_isX {X : Cx} {K : PySem.W.Frag} {cls : Value} {a : Addr} {oe : Obj} {pn : List (Addr × Obj)} {d : Option Addr} (hz : L2N.Zn cls d oe) (hf : ∃ vs, oe.data = .fields vs) (hK : X.K = K := by rfl) : CallR (X.suite a ((a, oe) :: pn)) (.builtin "isinstance") (rIsX K cls d a) := by
  subst hK
  intro pins s σ H xs us Q I r h
  obtain ⟨D, c, cv, b, rfl, rfl, C, rfl, hcv, hk, q⟩ := h
  exact call_isE C hz.zc hf pins s σ H _ us Q I r ⟨c, cv, b, rfl, hcv, hk, q⟩
theorem isX {K : PySem.W.Frag} {D C a : Addr} {b : Bool} {H : Hp} {Q : VK} (x : ExcC K D) (k : PySem.W.kitOne K (.ref D) (.ref C) = some b) (q : Q (.bl b) H) : rIsX K (.ref D) none a [.ref a, .ref C] H Q :=
  ⟨D, .ref C, .ref C, b, rfl, rfl, x, rfl, fun u h => h, k, q⟩
theorem isXT {K : PySem.W.Frag} {D a : Addr} {t : String} {b : Bool} {H : Hp} {Q : VK} (x : ExcC K D) (k : PySem.W.kitOne K (.ref D) (.type t) = some b) (q : Q (.bl b) H) : rIsX K (.ref D) none a [.ref a, .ty t] H Q :=
  ⟨D, .ty t, .type t, b, rfl, rfl, x, rfl, fun u h => h, k, q⟩
/-- an error's class, as clauses and isinstance name it -/
structure ErrC (K : PySem.W.Frag) (mg : Str → Option Value) (x : Str) (C : Addr) : Prop where
  g : mg x = some (.ref C)
  ic : PySem.W.isClsIn K C = true
  ty : PySem.W.typeIn K (.ref C) = some (.type "type")
  ss : PySem.W.subIn K (.ref C) (.ref C) = some true
  sb : PySem.W.subIn K (.ref C) (.type "BaseException") = some true
theorem ErrC.kit {K : PySem.W.Frag} {mg : Str → Option Value} {x : Str} {C D : Addr} {b : Bool} (c : ErrC K mg x C) (h : PySem.W.subIn K (.ref D) (.ref C) = some b) : PySem.W.kitOne K (.ref D) (.ref C) = some b := by
  have e2 : ((PySem.W.clsIn K C).isSome && PySem.W.typeIn K (.ref C) == some (.type "type")) = true := by
    have h2 : (PySem.W.clsIn K C).isSome = true := c.ic
    rw [h2, c.ty]
    rfl
  unfold PySem.W.kitOne
  split
  · rename_i e
    have e' : D = C := by simpa using e
    subst e'
    exact c.ss.symm.trans h
  · show (if ((PySem.W.clsIn K C).isSome && PySem.W.typeIn K (.ref C) == some (.type "type")) = true then PySem.W.subIn K (.ref D) (.ref C) else none) = some b
    rw [if_pos e2]
    exact h
theorem ErrC.exm {K : PySem.W.Frag} {mg : Str → Option Value} {x : Str} {C D : Addr} {b : Bool} (c : ErrC K mg x C) (h : PySem.W.subIn K (.ref D) (.ref C) = some b) : PySem.W.exmOne K (.ref D) (.ref C) = some b := by
  have e1 : (PySem.W.subIn K (.ref C) (.type "BaseException") == some true) = true := by rw [c.sb]; rfl
  have e2 : ((PySem.W.clsIn K C).isSome && PySem.W.typeIn K (.ref C) == some (.type "type")) = true := by
    have h2 : (PySem.W.clsIn K C).isSome = true := c.ic
    rw [h2, c.ty]
    rfl
  show (if (PySem.W.subIn K (.ref C) (.type "BaseException") == some true) = true then (if ((PySem.W.clsIn K C).isSome && PySem.W.typeIn K (.ref C) == some (.type "type")) = true then PySem.W.subIn K (.ref D) (.ref C) else none) else none) = some b
  rw [if_pos e1, if_pos e2]
  exact h
/-! readings -/
theorem rd_callS {K : PySem.W.Frag} {σ : L2.St} {H : Hp} {Q : VK} {sp : Sp} {E : L2.St → XK} {t : TA} : tCallS sp E t σ H Q = t σ H fun vs H1 => sp vs H1 Q (E σ) := rfl
theorem take_as {K : PySem.W.Frag} {c cls : Value} {i : Nat} {ts : Addr → Value → Option Addr → TS} {Wout : WX} {D : Ends} {d : Option Addr} {σ : L2.St} {H : Hp} (e : PySem.W.exmOne K cls c = some true)
    (k : ∀ a, H a = none → ts a cls d { nx := fun σ' H' => D.nx (σ'.set i none) H', rt := D.rt, bk := fun σ' H' => D.bk (σ'.set i none) H', ct := fun σ' H' => D.ct (σ'.set i none) H' } (σ.set i (some (.ref a))) H) : wAs K c i ts Wout D cls d σ H :=
  ⟨true, e, fun _ => k, fun z => Bool.noConfusion z⟩
end Sa
/-! C() of a class without an own __init__ -/
namespace Sa
open PySem PySem.Spec PyProof.Rows L2 Evl
structure Mk0 (K : PySem.W.Frag) (C : Addr) : Prop where
  makes : PySem.W.makesIn K C = true
  init : PySem.W.findIn K (.ref C) "__init__" = some (some (.builtin "object.__init__"))
  top : PySem.W.mroIn K C (.type "object") = some true
  kp : PySem.W.keepIn K (.ref C) = true
def tMade (C : Addr) : TE := fun _ H Q => ∀ x dx, H x = none → H dx = none → dx ≠ x → Q (.ref x) (upd (upd H dx (.own x)) x (.ins C dx []))
theorem pe_made {X : Cx} {C : Addr} {x : Str} {p pos : Pos} (M : Mk0 X.K C) (hg : Gl X x) (hm : X.mg x = some (.ref C)) (hdb : (x == ("__debug__" : Str)) = false := by decide) : PE X (.Call (.Name x p) [] [] pos) (tMade C) := by
  refine ⟨fun pins s σ H Q I h => ?_⟩
  refine wpAny_Call_Name_kw (ld_glob I hg hm ?_ hdb)
  refine PySem.W.callWith_K0 I.kIn M.kp ?_
  have hq := h (s.heap.objs.size + 1) s.heap.objs.size (I.hok.fresh (Nat.le_succ _)) (I.hok.fresh (Nat.le_refl _)) (Nat.ne_of_lt (Nat.lt_succ_self _))
  have I2 := Inv.made (C := C) I
  refine wpAny_call (make_map0 I.kIn M.makes M.init (fun self => PySem.W.Looks.of_pure (PySem.W.oi_bind self)) ?_)
  have ho : ((s.heap.push PySem.W.emptyDict).push (PySem.W.instObj C s.heap.objs.size)).get? (s.heap.objs.size + 1) = some (PySem.W.instObj C s.heap.objs.size) := by
    have e : s.heap.objs.size + 1 = (s.heap.push PySem.W.emptyDict).objs.size := by simp [Heap.push]
    rw [e]
    exact Heap.get?_push_size _ rfl
  have t1 := NwA.type_at (M := model X.prog X.w) ho (C := C) rfl
  have t2 : PySem.W.Looks (model X.prog X.w) ((s.heap.push PySem.W.emptyDict).push (PySem.W.instObj C s.heap.objs.size)) (isInstance (.ref (s.heap.objs.size + 1)) (.type "object")) true := t1.andThen (PySem.W.looks_mroIn I2.kIn M.top)
  refine codeAny_call_builtin PySem.W.oi_plain PySem.W.entry_oi (@PySem.W.check_slot (model X.prog X.w) _ _ _ "object.__init__" "object" "__init__" (.ref (s.heap.objs.size + 1)) [] [] _ PySem.W.oi_kind PySem.W.oi_split t2 (PySem.W.oi_args _) ?_)
  rw [PySem.W.oi_run]
  exact wpAny_pure ⟨rfl, V.ref (s.heap.objs.size + 1), _, I2, rfl, hq⟩
end Sa
/-! len(set(xs)) and sorted(set(xs)) of a list of ints; the lemma of the library over tuples turned to lists -/
namespace Sa
open PySem PySem.Spec PyProof.Rows L2 Evl
section
variable {P : Program} {w : World} {A : Around} {E : Value → Shared → Prop} {s : Shared}
set_option maxRecDepth 100000 in
set_option maxHeartbeats 3200000 in
theorem set_listI {l : Addr} {items : Array Value} (ns : List Int) {Q : Value → Shared → Prop} (hh : A.handled = none) (hl : s.heap.IsList l items) (hit : IntsAre items.toList ns) (hb : ns.length + 1 < scanBound)
    (h : ∀ (h' : Heap) (tk c : Nat), SetR w h' s.heap.objs.size (fun j => decide (j ∈ ns)) c → c ≤ ns.length → (∀ b o, s.heap.get? b = some o → h'.get? b = some o) → Q (.ref s.heap.objs.size) { s with heap := h', toks := tk }) :
    wpAny (model P w) A (call (.type "set") [.ref l]) Q E s := by
  have hisz : items.size = ns.length := by
    have q := IntsAre.length hit
    rw [Array.length_toList] at q
    exact q
  obtain ⟨c, tl, hmro⟩ := F.called_set.mro
  have hmade := F.called_set.made
  have hsub := F.called_set.sub
  refine wpAny_call (codeAny_of_tree ?_)
  show wpAny _ _ (callAny (.type "set") _) _ _ _
  refine wpAny_pure ⟨Code.quiet_builtin _ (by decide +kernel), codeAny_builtin F.entry_type_call ?_⟩
  rw [Around.under_plain (weight_type_call_type "set" [.ref l] []) rfl]
  have h1 := F.called_set.notType
  have h2 := F.called_set.canCreate
  have hct := F.typeCall_set_1 (.ref l)
  repeat (any_goals (first | assumption | wp_step))

  refine codeAny_mono (code_set_led1 (.ref l) (E := E) (Q₁ := fun obj s₁ => obj = .ref s.heap.objs.size ∧ s₁ = { s with heap := s.heap.push { cls := .type "set", dict := none, data := .set #[] 0 (.fresh 0 0 (!w.params.followText "set-order")) } }) ⟨rfl, rfl⟩) fun r s₁ hr => ?_
  cases r with
  | error e => exact hr
  | ok fl =>
    cases fl with
    | ret obj =>
      obtain ⟨rfl, rfl⟩ := hr
      have hS : (s.heap.push { cls := .type "set", dict := none, data := .set #[] 0 (.fresh 0 0 (!w.params.followText "set-order")) }).get? s.heap.objs.size = some { cls := .type "set", dict := none, data := .set #[] 0 (.fresh 0 0 (!w.params.followText "set-order")) } := Heap.get?_push_size _ rfl
      have hT : Shared.TypeIs { s with heap := s.heap.push { cls := .type "set", dict := none, data := .set #[] 0 (.fresh 0 0 (!w.params.followText "set-order")) } } (.ref s.heap.objs.size) "set" := ⟨_, hS, rfl⟩
      have hli := F.called_set.init.lookup
      have hbi := F.called_set.init.bind (.ref s.heap.objs.size)
      repeat (any_goals (first | assumption | wp_step))

      refine codeAny_mono (codeAny_call_builtin (R := wants (fun r s₂ => r = .none ∧ ∃ h' tk c, s₂ = { s with heap := h', toks := tk } ∧ SetR w h' s.heap.objs.size (fun j => decide (j ∈ ns)) c ∧ c ≤ ns.length ∧
          (∀ b o, s.heap.get? b = some o → h'.get? b = some o)) E) F.called_set.init.plain F.entry_set_init (check_set_init_1 hT ?_)) fun r₂ s₂ hr₂ => ?_
      · obtain ⟨ol, hol, hcl, nl, hdl⟩ := hl
        obtain ⟨ocls, odict, odata, oslots⟩ := ol
        simp only at hcl hdl
        subst hcl; subst hdl
        have hol' : (s.heap.push { cls := .type "set", dict := none, data := .set #[] 0 (.fresh 0 0 (!w.params.followText "set-order")) }).get? l = some { cls := .type "list", dict := odict, data := .seq items nl, slots := oslots } := Heap.get?_push_of_some _ hol
        have hsls := F.sub_list_set
        have hslf := F.sub_list_frozenset
        have hne : (Value.type "list" == Value.type "dict") = false := by decide
        have hl1 : (s.heap.push { cls := .type "set", dict := none, data := .set #[] 0 (.fresh 0 0 (!w.params.followText "set-order")) }).IsList l items := ⟨_, hol', rfl, nl, rfl⟩
        unfold Builtin.«set.__init__» noKeywords Builtin.Frozenset.updateFrom
        generalize hPI : pyIter = PI
        wp_walk
        subst hPI

        refine wpAny_pyIter_list hl1 ?_
        refine wpAny_bind (wpAny_runValue ?_)
        have hlS : l < s.heap.objs.size := Heap.lt_size hol
        have hh3 : A.in1.in1.in1.handled = none := by simp [hh]
        have hz1 : (s.heap.push { cls := .type "set", dict := none, data := .set #[] 0 (.fresh 0 0 (!w.params.followText "set-order")) }).objs.size = s.heap.objs.size + 1 := Heap.size_push ..
        have hneI : l ≠ (s.heap.push { cls := .type "set", dict := none, data := .set #[] 0 (.fresh 0 0 (!w.params.followText "set-order")) }).objs.size := by
          rw [Heap.size_push]; exact Nat.ne_of_lt (Nat.lt_succ_of_lt hlS)
        have hSf : s.heap.objs.size ∉ [(s.heap.push { cls := .type "set", dict := none, data := .set #[] 0 (.fresh 0 0 (!w.params.followText "set-order")) }).objs.size, l] := by
          rw [Heap.size_push]; simp only [List.mem_cons, List.mem_singleton, List.not_mem_nil, or_false, not_or]
          exact ⟨Nat.ne_of_lt (Nat.lt_succ_self _), Nat.ne_of_gt hlS⟩
        have hval : ∀ (i : Nat) (v : Value), items[i]? = some v → ∃ k t, ns[i]? = some k ∧ v = .int k t := fun i v hv => by
          have hi : i < ns.length := by rw [← hisz]; exact (Array.getElem?_eq_some_iff.mp hv).1
          obtain ⟨t, e⟩ := PyProof.Rows.IntsAre.int_at hit i v (by rw [Array.getElem?_toList]; exact hv)
          refine ⟨ns[i], t, List.getElem?_eq_getElem hi, ?_⟩
          rw [e, List.getD_eq_getElem?_getD, List.getElem?_eq_getElem hi] <;> rfl
        refine set_update_ints ((Walks.list hh3 _ l hneI items).toS) s.heap.objs.size
          hSf ns hisz hb hval (items.size - 0) 0 _ (by omega) (Nat.zero_le _)
          ⟨⟨_, Heap.get?_push_size _ rfl, rfl, rfl⟩, (hl1.push _)⟩ ?hS0 ?hR
        case hS0 =>
          have hget : ((s.heap.push { cls := .type "set", dict := none, data := .set #[] 0 (.fresh 0 0 (!w.params.followText "set-order")) }).push { cls := .type "list_iterator", data := .fields #[.ref l, .int 0 0] }).get? s.heap.objs.size
              = some { cls := .type "set", dict := none, data := .set #[] 0 (.fresh 0 0 (!w.params.followText "set-order")) } := Heap.get?_push_of_some _ hS
          exact ⟨0, Nat.le_refl 0, setR_new_at hget⟩
        case hR =>
          intro s' c' hm hc' hS'
          obtain ⟨h', g2, d', tk', os'⟩ := s'
          have eg : g2 = s.gens := hm.gens
          have ed : d' = s.drawn := hm.drawn
          have eo : os' = s.os := hm.os
          subst eg; subst ed; subst eo
          show wpAny _ _ _ _ _ _
          refine wpAny_pure ?_
          show wpAny _ _ (ret Value.none) _ _ _
          rw [hisz] at hc'
          refine wpAny_pure ⟨rfl, h', tk', c', rfl, hS', hc', fun b o e => ?_⟩
          have hb0 : b < s.heap.objs.size := Heap.lt_size e
          have hb1 : b ≠ s.heap.objs.size := Nat.ne_of_lt hb0
          have hb2 : b ≠ (s.heap.push { cls := .type "set", dict := none, data := .set #[] 0 (.fresh 0 0 (!w.params.followText "set-order")) }).objs.size := by
            rw [Heap.size_push]; exact Nat.ne_of_lt (Nat.lt_succ_of_lt hb0)
          exact hm.heap b o (by simp only [List.mem_cons, List.mem_singleton, List.not_mem_nil, or_false, not_or]; exact ⟨hb1, hb2⟩) (Heap.get?_push_of_some _ (Heap.get?_push_of_some _ e))

      · cases r₂ with
        | error e => exact hr₂
        | ok fl₂ =>
          cases fl₂ with
          | ret r =>
            obtain ⟨rfl, h', tk, c', rfl, hS', hc', hk'⟩ := hr₂
            repeat (any_goals (first | assumption | wp_step))
            exact h _ _ _ hS' hc' hk'
          | _ => exact hr₂.elim
    | _ => exact hr.elim

end
end Sa
namespace Sa
open PySem PySem.Spec PyProof.Rows L2 Evl
section
variable {X : Cx} {K : PySem.W.Frag} {a : Expr} {ta : TE} {p p2 q pos : Pos}
def dedup (ns : List Int) : List Int := firstMet (fun i => ns.getD i 0) ns.length
def tLenSetL (K : PySem.W.Frag) (ta : TE) : TE := fun σ H Q => ta σ H fun x H1 => ∃ (l : Addr) (ns : List Int), x = .ref l ∧ SqL K H1 l (ns.map V.int) ∧ ns.length ≤ 4000 ∧ Q (.int ((dedup ns).length : Nat)) H1
theorem pe_lenSet (hg : Gl X "len") (hm : X.mg "len" = none) (hg2 : Gl X "set") (hm2 : X.mg "set" = none) (ha : PE X a ta) (hc : X.calm = true := by rfl) (hK : X.K = K := by rfl)
    (na : starEach [a] X.env = (false, eval a X.env) :: starEach [] X.env := by rfl) : PE X (.Call (.Name "len" p) [.Call (.Name "set" p2) [a] [] q] [] pos) (tLenSetL K ta) := by
  subst hK
  refine ⟨fun pins s σ H Q I h => ?_⟩
  refine Call_ (ld_blt I hg hm boot_len ?_)
  refine PyProof.Rows.callWith_builtin1 (PyProof.Rows.args_cons ?_ rfl) rfl rfl
  refine Call_ (ld_blt I hg2 hm2 boot_set ?_)
  refine PyProof.Rows.callWith_type1 (PyProof.Rows.args_cons (thn (ha.run pins s σ H _ I h) fun v s1 ⟨x, H1, I1, r1, q1⟩ => PyProof.Rows.args_nil ?_) na) na rfl
  obtain ⟨l, ns, rfl, hq, hl, q1⟩ := q1
  cases r1
  obtain ⟨its, r, pl, hz⟩ := I1.list hq
  have hlen : its.toArray.size = ns.length := by rw [List.size_toArray, ← r.length, List.length_map]
  refine call_set_list (I1.ok.hd hc) pl.isList (by simpa using RZ.intsAre_vals r) (by rw [hlen]; unfold scanBound; omega) fun h' tk hS hk => ?_
  refine PyProof.Rows.args_nil ?_
  rw [hlen] at hS
  obtain ⟨o, es, ep, t, ho, hex, hd, _, _, _, hf, hn⟩ := hS
  have I2 : Inv X pins σ H1 { s1 with heap := h', toks := tk } := I1.kept fun b o e => hk b o (Heap.lt_size e) e
  have hle := firstMet_length_le (fun i => ns.getD i 0) ns.length
  exact call_len_set ho hex hd hf (by rw [hn] <;> omega) ⟨.int ((dedup ns).length : Nat), H1, I2.tok _, ⟨_, by rw [hn]; rfl⟩, q1⟩
def tSortSetL (K : PySem.W.Frag) (ta : TE) : TE := fun σ H Q => ta σ H fun x H1 => ∃ (l : Addr) (ns : List Int), x = .ref l ∧ SqL K H1 l (ns.map V.int) ∧ ns.length ≤ 63 ∧
  ∀ (ms : List Int) (b : Addr), ms.Pairwise (· < ·) → (∀ k : Int, k ∈ ms ↔ k ∈ ns) → ms.length ≤ ns.length → H1 b = none → Q (.ref b) (upd H1 b (.lst (ms.map V.int)))
theorem pe_sortSet (hg : Gl X "sorted") (hm : X.mg "sorted" = none) (hg2 : Gl X "set") (hm2 : X.mg "set" = none) (ha : PE X a ta) (hc : X.calm = true := by rfl) (hK : X.K = K := by rfl)
    (na : starEach [a] X.env = (false, eval a X.env) :: starEach [] X.env := by rfl) : PE X (.Call (.Name "sorted" p) [.Call (.Name "set" p2) [a] [] q] [] pos) (tSortSetL K ta) := by
  subst hK
  refine ⟨fun pins s σ H Q I h => ?_⟩
  refine Call_ (ld_blt I hg hm (show bootBuiltins "sorted" = some (.builtin "sorted") by decide +kernel) ?_)
  refine PyProof.Rows.callWith_builtin1 (PyProof.Rows.args_cons ?_ rfl) rfl rfl
  refine Call_ (ld_blt I hg2 hm2 boot_set ?_)
  refine PyProof.Rows.callWith_type1 (PyProof.Rows.args_cons (thn (ha.run pins s σ H _ I h) fun v s1 ⟨x, H1, I1, r1, q1⟩ => PyProof.Rows.args_nil ?_) na) na rfl
  obtain ⟨l, ns, rfl, hq, hl, q1⟩ := q1
  cases r1
  obtain ⟨its, r, pl, hz⟩ := I1.list hq
  refine set_listI (w := X.w) ns (I1.ok.hd hc) pl.isList (by simpa using RZ.intsAre_vals r) (by unfold scanBound; omega) fun h' tk c hS hc2 hk => ?_
  refine PyProof.Rows.args_nil ?_
  have I2 : Inv X pins σ H1 { s1 with heap := h', toks := tk } := I1.kept fun b o e => hk b o e
  refine sorted_set (s := { s1 with heap := h', toks := tk }) hS (I1.ok.hd hc) (by omega) fun s' p' out c' ms k g o hp hg' hi hs hm' hl' => ?_
  have hlen : (ms.map V.int).length ≤ sizeLine := by rw [List.length_map, hl', sizeLine_eq]; omega
  have hn : H1 p' = none := I2.hok.fresh hp
  have J : Inv X pins σ (upd H1 p' (.lst (ms.map V.int))) { ({ s1 with heap := h', toks := tk } : Shared) with heap := s'.heap, gens := s'.gens, drawn := s'.drawn, toks := s'.toks } :=
    I2.call (ch := []) (Un.laid k hp hn) (I2.hok.laid k hp ⟨hlen, out.toList, c', vals_of_ints hi, hg'⟩) (by rw [g]; exact I2.bare) (fun _ z => nomatch z)
  have e : s' = { ({ s1 with heap := h', toks := tk } : Shared) with heap := s'.heap, gens := s'.gens, drawn := s'.drawn, toks := s'.toks } := by
    cases s'
    cases s1
    cases o
    rfl
  rw [e]
  exact ⟨.ref p', _, J, rfl, q1 ms p' hs (fun k => by rw [hm' k, decide_eq_true_eq]) (by omega) hn⟩
end
end Sa
/-! sums of pairs, lists of which no two pairs have the same sum -/
namespace SD
def ix (ms : List Int) (i : Nat) : Int := ms.getD i 0
def prs : Nat → List (Nat × Nat)
  | 0 => []
  | n + 1 => prs n ++ (List.range (n + 1)).map fun i => (i, n)
def sm (ms : List Int) (x : Nat × Nat) : Int := ix ms x.1 + ix ms x.2
def sums (ms : List Int) : List Int := (prs ms.length).map (sm ms)
def Sid (ms : List Int) : Prop := ∀ x ∈ prs ms.length, ∀ y ∈ prs ms.length, sm ms x = sm ms y → x = y
instance (ms : List Int) : Decidable (Sid ms) := by unfold Sid; infer_instance
theorem mem_prs : ∀ {n : Nat} {x : Nat × Nat}, x ∈ prs n ↔ x.1 ≤ x.2 ∧ x.2 < n
  | 0, x => by simp [prs]
  | n + 1, (a, b) => by
    simp only [prs, List.mem_append, mem_prs (n := n), List.mem_map, List.mem_range, Prod.mk.injEq]
    constructor
    · rintro (⟨h1, h2⟩ | ⟨i, h1, rfl, rfl⟩)
      · exact ⟨h1, by omega⟩
      · exact ⟨by omega, by omega⟩
    · rintro ⟨h1, h2⟩
      by_cases e : b = n
      · exact .inr ⟨a, by omega, rfl, e.symm⟩
      · exact .inl ⟨h1, by omega⟩
theorem nodup_prs : ∀ n : Nat, (prs n).Nodup
  | 0 => List.nodup_nil
  | n + 1 => by
    have ih := nodup_prs n
    show (prs n ++ (List.range (n + 1)).map fun i => (i, n)).Nodup
    rw [List.nodup_append]
    refine ⟨ih, ?_, ?_⟩
    · show List.Pairwise _ _
      rw [List.pairwise_map]
      have := List.nodup_range (n := n + 1)
      exact List.Pairwise.imp (fun {a b} h e => h (Prod.mk.inj e).1) this
    · intro a ha b hb e
      subst e
      have h1 := mem_prs.mp ha
      obtain ⟨i, _, rfl⟩ := List.mem_map.mp hb
      exact absurd h1.2 (Nat.lt_irrefl _)
theorem nodup_map {α β : Type} (f : α → β) : ∀ {l : List α}, l.Nodup → ((l.map f).Nodup ↔ ∀ x ∈ l, ∀ y ∈ l, f x = f y → x = y)
  | [], _ => by simp
  | a :: l, h => by
    obtain ⟨h1, h2⟩ := List.nodup_cons.mp h
    rw [List.map_cons, List.nodup_cons, nodup_map f h2]
    constructor
    · rintro ⟨n1, n2⟩ x hx y hy e
      rcases List.mem_cons.mp hx with ex | hx2 <;> rcases List.mem_cons.mp hy with ey | hy2
      · rw [ex, ey]
      · exact absurd (List.mem_map.mpr ⟨y, hy2, by rw [← ex]; exact e.symm⟩) n1
      · exact absurd (List.mem_map.mpr ⟨x, hx2, by rw [← ey]; exact e⟩) n1
      · exact n2 x hx2 y hy2 e
    · intro k
      refine ⟨fun z => ?_, fun x hx y hy => k x (List.mem_cons_of_mem _ hx) y (List.mem_cons_of_mem _ hy)⟩
      obtain ⟨y, hy, e⟩ := List.mem_map.mp z
      have := k y (List.mem_cons_of_mem _ hy) a List.mem_cons_self e
      exact h1 (this ▸ hy)
theorem nodup_sums {ms : List Int} : (sums ms).Nodup ↔ Sid ms := nodup_map _ (nodup_prs _)
theorem length_prs_le : ∀ n : Nat, (prs n).length ≤ n * n
  | 0 => Nat.le_refl _
  | n + 1 => by
    have := length_prs_le n
    show (prs n ++ (List.range (n + 1)).map fun i => (i, n)).length ≤ _
    rw [List.length_append, List.length_map, List.length_range, Nat.mul_add, Nat.add_mul]
    omega
/-- two unlike pairs with one sum -/
def Two (ms : List Int) (a b c d : Int) : Prop := 0 ≤ a ∧ a ≤ b ∧ b < ms.length ∧ 0 ≤ c ∧ c ≤ d ∧ d < ms.length ∧ ¬ (a = c ∧ b = d) ∧ ix ms a.toNat + ix ms b.toNat = ix ms c.toNat + ix ms d.toNat
theorem Two.not_sid {ms : List Int} {a b c d : Int} (h : Two ms a b c d) : ¬ Sid ms := fun s => by
  obtain ⟨a0, ab, bn, c0, cd, dn, ne, e⟩ := h
  have := s (a.toNat, b.toNat) (mem_prs.mpr ⟨by show a.toNat ≤ b.toNat; omega, by show b.toNat < _; omega⟩) (c.toNat, d.toNat) (mem_prs.mpr ⟨by show c.toNat ≤ d.toNat; omega, by show d.toNat < _; omega⟩) e
  obtain ⟨h1, h2⟩ := Prod.mk.inj this
  exact ne ⟨by omega, by omega⟩
/-- of a part of a list -/
theorem Sid.of_map {ms ns : List Int} (f : Nat → Nat) (hf : ∀ i, i < ns.length → f i < ms.length ∧ ix ns i = ix ms (f i)) (mono : ∀ i j, i < j → j < ns.length → f i < f j) (h : Sid ms) : Sid ns := fun x hx y hy e => by
  have h1 := mem_prs.mp hx
  have h2 := mem_prs.mp hy
  have le : ∀ i j, i ≤ j → j < ns.length → f i ≤ f j := fun i j l m => by
    rcases Nat.lt_or_ge i j with h | h
    · exact Nat.le_of_lt (mono i j h m)
    · have : i = j := by omega
      rw [this]
      exact Nat.le_refl _
  have inj : ∀ i j, i < ns.length → j < ns.length → f i = f j → i = j := fun i j l m q => by
    rcases Nat.lt_trichotomy i j with h | h | h
    · have := mono i j h m
      omega
    · exact h
    · have := mono j i h l
      omega
  have k := h (f x.1, f x.2) (mem_prs.mpr ⟨le _ _ h1.1 h1.2, (hf _ h1.2).1⟩) (f y.1, f y.2) (mem_prs.mpr ⟨le _ _ h2.1 h2.2, (hf _ h2.2).1⟩) (by
    show ix ms (f x.1) + ix ms (f x.2) = ix ms (f y.1) + ix ms (f y.2)
    rw [← (hf _ h1.2).2, ← (hf x.1 (by omega)).2, ← (hf _ h2.2).2, ← (hf y.1 (by omega)).2]
    exact e)
  obtain ⟨k1, k2⟩ := Prod.mk.inj k
  exact Prod.ext (inj _ _ (by omega) (by omega) k1) (inj _ _ h1.2 h2.2 k2)
end SD
namespace Sa
open PySem PySem.Spec PyProof.Rows L2 Evl
theorem firstMet_full {val : Nat → Int} : ∀ i : Nat, (firstMet val i).length = i → firstMet val i = (List.range i).map val ∧ (firstMet val i).Nodup
  | 0, _ => ⟨rfl, List.nodup_nil⟩
  | i + 1, h => by
    have hle := firstMet_length_le val i
    rw [firstMet_succ] at h ⊢
    unfold step_dedup at h ⊢
    split at h
    · omega
    · rename_i hn
      rw [List.length_append, List.length_singleton] at h
      obtain ⟨e, nd⟩ := firstMet_full (val := val) i (by omega)
      rw [if_neg hn]
      refine ⟨by rw [e, List.range_succ, List.map_append]; rfl, ?_⟩
      rw [List.nodup_append]
      refine ⟨nd, List.nodup_cons.mpr ⟨List.not_mem_nil, List.nodup_nil⟩, fun a ha b hb e2 => ?_⟩
      rw [List.mem_singleton] at hb
      subst e2
      subst hb
      exact hn (List.any_eq_true.mpr ⟨_, ha, by simp⟩)
theorem dedup_len {ns : List Int} : (dedup ns).length = ns.length ↔ ns.Nodup := by
  have e0 : (List.range ns.length).map (fun i => ns.getD i 0) = ns := List.ext_getElem (by simp) fun i h1 h2 => by simp [h2]
  constructor
  · intro h
    obtain ⟨e, nd⟩ := firstMet_full ns.length h
    rw [e, e0] at nd
    exact nd
  · intro h
    unfold dedup
    rw [RZ.firstMet_nodup h ns.length (Nat.le_refl _), List.take_length]
theorem pe_alt {X : Cx} {e : Expr} {t u : TE} (h : PE X e t) (g : PE X e u) : PE X e (fun σ H Q => t σ H Q ∨ u σ H Q) := ⟨fun pins s σ H Q I q => q.elim (h.run pins s σ H Q I) (g.run pins s σ H Q I)⟩
/-- an own class of the program -/
structure ClsX (K : PySem.W.Frag) (mg : Str → Option Value) (x : Str) (C : Addr) : Prop where
  g : mg x = some (.ref C)
  cl : Cls K C
  ha : PySem.W.findIn K (.ref C) "__class__" = some (some (.builtin "object.__class__"))
  hn : PySem.W.specialIn K (.builtin "object.__class__") "__get__" = some (some (.builtin "getset_descriptor.__get__"))
  ht : PySem.W.takesIn K (.builtin "object.__class__") = some true
  hm : PySem.W.mroIn K C (.type "object") = some true
  ic : PySem.W.isClsIn K C = true
  ty : PySem.W.typeIn K (.ref C) = some (.type "type")
  ss : PySem.W.subIn K (.ref C) (.ref C) = some true
theorem ClsX.tyx {K : PySem.W.Frag} {mg : Str → Option Value} {x : Str} {C : Addr} (c : ClsX K mg x C) {H : Hp} {a dx : Addr} {fs : List (Str × V)} (e : H a = some (.ins C dx fs)) : TyX K H (.ref a) (.ref C) := .base (.ins e c.cl c.ha c.hn c.ht c.hm)
theorem ClsX.kit {K : PySem.W.Frag} {mg : Str → Option Value} {x : Str} {C D : Addr} {b : Bool} (c : ClsX K mg x C) (h : PySem.W.subIn K (.ref D) (.ref C) = some b) : PySem.W.kitOne K (.ref D) (.ref C) = some b := by
  have e2 : ((PySem.W.clsIn K C).isSome && PySem.W.typeIn K (.ref C) == some (.type "type")) = true := by
    have h2 : (PySem.W.clsIn K C).isSome = true := c.ic
    rw [h2, c.ty]
    rfl
  unfold PySem.W.kitOne
  split
  · rename_i e
    have e' : D = C := by simpa using e
    subst e'
    exact c.ss.symm.trans h
  · show (if ((PySem.W.clsIn K C).isSome && PySem.W.typeIn K (.ref C) == some (.type "type")) = true then PySem.W.subIn K (.ref D) (.ref C) else none) = some b
    rw [if_pos e2]
    exact h
/-- a method -/
structure MethAt (K : PySem.W.Frag) (C : Addr) (m qual : Str) (st : Stmt) (ps : List Str) (f : Addr) (fd : FuncData) : Prop where
  F : Fun K m qual st f fd
  b : Binds K fd ps []
  m : Meth K C m f
theorem ixT {K : PySem.W.Frag} {H : Hp} {Q : VK} {p : Addr} {xs : List V} {i : Int} {v : V} (s : SqT K H p xs) (e : atI xs i = some v) (q : Q v H) : rIxT K (.ref p) (.int i) H Q := ⟨_, _, _, _, rfl, rfl, s, e, q⟩
theorem ixL {K : PySem.W.Frag} {H : Hp} {Q : VK} {p : Addr} {xs : List V} {i : Int} {v : V} (s : SqL K H p xs) (e : atI xs i = some v) (q : Q v H) : rIxL K (.ref p) (.int i) H Q := ⟨_, _, _, _, rfl, rfl, s, e, q⟩
theorem rd_fld {K : PySem.W.Frag} {ta : TE} {f : Str} {σ : L2.St} {H : Hp} {Q : VK} : tFld K ta f σ H Q = ta σ H fun x H1 => ∃ a C dx fs v, x = .ref a ∧ H1 a = some (.ins C dx fs) ∧ Cls K C ∧ NoAttr K C f ∧ fs.lookup f = some v ∧ Q v H1 := rfl
theorem rd_sfld {K : PySem.W.Frag} {ta tv : TE} {f : Str} {D : Ends} {σ : L2.St} {H : Hp} : sFld K ta tv f D σ H = tv σ H fun y H1 => ta σ H1 fun x H2 => ∃ a C dx fs, x = .ref a ∧ H2 a = some (.ins C dx fs) ∧ Cls K C ∧ NoAttr K C f ∧ fs.length < 1000 ∧ D.nx σ (upd H2 a (.ins C dx (putF f y fs))) := rfl
theorem rd_meth {C : Addr} {m : Str} {sp : Sp} {dvs : List V} {E : XK} {ta : TE} {t : TA} {σ : L2.St} {H : Hp} {Q : VK} : tMeth C m sp dvs E ta t σ H Q = ta σ H fun x H1 => ∃ a dx fs, x = .ref a ∧ H1 a = some (.ins C dx fs) ∧ fs.lookup m = none ∧ t σ H1 fun vs H2 => sp (x :: (vs ++ dvs)) H2 Q E := rfl
theorem rd_make {C : Addr} {sp : Sp} {dvs : List V} {E : XK} {t : TA} {σ : L2.St} {H : Hp} {Q : VK} : tMake C sp dvs E t σ H Q = t σ H fun vs H1 => ∀ x dx, H1 x = none → H1 dx = none → dx ≠ x → sp (.ref x :: (vs ++ dvs)) (upd (upd H1 dx (.own x)) x (.ins C dx [])) (fun v H2 => v = .non ∧ Q (.ref x) H2) E := rfl
theorem rd_made {C : Addr} {σ : L2.St} {H : Hp} {Q : VK} : tMade C σ H Q = ∀ x dx, H x = none → H dx = none → dx ≠ x → Q (.ref x) (upd (upd H dx (.own x)) x (.ins C dx [])) := rfl
theorem rd_lenSet {K : PySem.W.Frag} {ta : TE} {σ : L2.St} {H : Hp} {Q : VK} : tLenSetL K ta σ H Q = ta σ H fun x H1 => ∃ (l : Addr) (ns : List Int), x = .ref l ∧ SqL K H1 l (ns.map V.int) ∧ ns.length ≤ 4000 ∧ Q (.int ((dedup ns).length : Nat)) H1 := rfl
theorem rd_bm {K : PySem.W.Frag} {T : String} {r : V → List V → Hp → VK → Prop} {to : TE} {t : TA} {σ : L2.St} {H : Hp} {Q : VK} : tBM K T r to t σ H Q = to σ H fun x H1 => tyV K T x H1 ∧ t σ H1 fun xs H2 => r x xs H2 Q := rfl
theorem ty_list {K : PySem.W.Frag} {H : Hp} {a : Addr} {xs : List V} (h : SqL K H a xs) : tyV K "list" (.ref a) H := .inl ⟨rfl, _, h⟩
theorem pi_enumk {X : Cx} {K : PySem.W.Frag} {e : Expr} {ta : TA} {p pos tpos : Pos} {elts : List Expr} {kk : Nat} (hg : Gl X "enumerate") (hm : X.mg "enumerate" = none) (ha : PA X [e] ta) (hK : X.K = K := by rfl) (hs : starEach [e] X.env = [(false, eval e X.env)] := by rfl) :
    PI X (.Tuple elts kk tpos) (.Call (.Name "enumerate" p) [e] [] pos) (iEnum K ta) := by
  subst hK
  exact pi_enum hg hm ha hs
theorem rd_forE {K : PySem.W.Frag} {ta : TA} {g : TG} {t : TS} {D : Ends} {σ : L2.St} {H : Hp} : tFor (iEnum K ta) g t D σ H = ta σ H fun vs H1 => ∃ a xs, vs = [.ref a] ∧ SqL K H1 a xs ∧ forIt (Ite K a) g t D σ H1 := rfl
theorem for_enum {K : PySem.W.Frag} {a : Addr} {xs : List V} {g : TG} {tb : TS} {D : Ends} {σ : L2.St} {H : Hp} (Pv : Nat → L2.St → Hp → Prop) (h0 : Pv 0 σ H) (hl : ∀ i σ H, i ≤ xs.length → Pv i σ H → SqL K H a xs)
    (hs : ∀ i x T σ H, xs[i]? = some x → Pv i σ H → H T = none → g (.ref T) σ (upd H T (.tup [.int (i : Nat), x])) fun σ2 H2 => tb { D with nx := Pv (i + 1), ct := Pv (i + 1), bk := D.nx } σ2 H2) (hd : ∀ σ H, Pv xs.length σ H → D.nx σ H) : forIt (Ite K a) g tb D σ H := by
  refine ⟨fun i m σ H => m = xs.length - i ∧ i ≤ xs.length ∧ Pv i σ H, ⟨xs.length, by simp, Nat.zero_le _, h0⟩, ?_⟩
  rintro i m σ H ⟨rfl, hi, p⟩
  have q := hl i σ H hi p
  by_cases hlt : i < xs.length
  · refine .inr ⟨⟨xs, xs[i], q, by simp [hlt]⟩, Pv (i + 1), fun σ' H' p' => ⟨xs.length - (i + 1), by omega, rfl, hlt, p'⟩, fun v H' y => ?_⟩
    obtain ⟨T, x, rfl, nT, rfl, hx⟩ := y
    exact hs i x T σ H (hx xs q) p nT
  · have : i = xs.length := by omega
    subst this
    exact .inl ⟨⟨xs, q, Nat.le_refl _⟩, hd σ H p⟩
theorem pe_chain3 {X : Cx} {a b c d : Expr} {ta tb tc td : TE} {pos : Pos} {op op' op'' : CmpOp} {r r' r'' : R2} (ho : OpR X (compareOp op) r) (ho' : OpR X (compareOp op') r') (ho'' : OpR X (compareOp op'') r'') (ha : PE X a ta) (hb : PE X b tb) (hc : PE X c tc) (hd : PE X d td)
    (hm : lastMarks [op, op', op''] [b, c, d] = false := by with_unfolding_all rfl) : PE X (.Compare a [op, op', op''] [b, c, d] pos) (tChain3 r r' r'' ta tb tc td) := by
  refine ⟨fun pins s σ H Q I h => ?_⟩
  refine Compare_chain (thn (ha.run pins s σ H _ I h) fun v s1 ⟨x, H1, I1, r1, q1⟩ => chain_link (thn (hb.run pins s1 σ H1 _ I1 q1) fun u s2 ⟨y, H2, I2, r2, q2⟩ =>
    thn (ho pins s2 σ H2 x y v u _ I2 r1 r2 q2) fun d s3 ⟨z, H3, I3, r3, k, e, q3⟩ => ?_)) hm
  subst e
  cases r3
  refine wpAny_truthy_bool ?_
  cases k with
  | false => exact ite_ff ⟨.bl false, H3, I3, rfl, q3⟩
  | true =>
    refine ite_tt (chain_link (thn (hc.run pins s3 σ H3 _ I3 q3) fun w' s4 ⟨z', H4, I4, r4, q4⟩ => thn (ho' pins s4 σ H4 y z' u w' _ I4 r2 r4 q4) fun d' s5 ⟨z2, H5, I5, r5, k2, e2, q5⟩ => ?_))
    subst e2
    cases r5
    refine wpAny_truthy_bool ?_
    cases k2 with
    | false => exact ite_ff ⟨.bl false, H5, I5, rfl, q5⟩
    | true => exact ite_tt (chain_last (thn (hd.run pins s5 σ H5 _ I5 q5) fun w'' s6 ⟨z3, H6, I6, r6, q6⟩ => ho'' pins s6 σ H6 z' z3 w' w'' Q I6 r4 r6 q6))
end Sa
namespace Sa
open PySem PySem.Spec PyProof.Rows L2 Evl
section
variable {P : Program} {w : World} {K : PySem.W.Frag} {mg : Str → Option Value} {base : Heap}
/-! ### what the functions give, in plain words -/

def trial (n : Int) : Nat → Int → Bool
  | 0, _ => true
  | k + 1, d => if d * d ≤ n then (if n % d = 0 then false else trial n k (d + 1)) else true
def isP (n : Int) : Bool := decide (1 < n) && trial n 1000 2
theorem trial_iff (n : Int) (h0 : n ≤ 1000000) : ∀ (k : Nat) (d : Int), 2 ≤ d → 1002 ≤ d + (k : Int) → (trial n k d = true ↔ ∀ e : Int, d ≤ e → e * e ≤ n → ¬ e ∣ n)
  | 0, d, h2, hk => by
    refine ⟨fun _ e he hl => ?_, fun _ => rfl⟩
    have : 1002 * 1002 ≤ e * e := Int.mul_le_mul (by omega) (by omega) (by omega) (by omega)
    omega
  | k + 1, d, h2, hk => by
    have ih := trial_iff n h0 k (d + 1) (by omega) (by omega)
    unfold trial
    by_cases hd : d * d ≤ n
    · rw [if_pos hd]
      by_cases hm : n % d = 0
      · rw [if_pos hm]
        exact ⟨fun z => Bool.noConfusion z, fun h => absurd (Int.dvd_of_emod_eq_zero hm) (h d (Int.le_refl _) hd)⟩
      · rw [if_neg hm, ih]
        refine ⟨fun h e he hl => ?_, fun h e he hl => h e (by omega) hl⟩
        by_cases ee : e = d
        · subst ee
          exact fun z => hm (Int.emod_eq_zero_of_dvd z)
        · exact h e (by omega) hl
    · rw [if_neg hd]
      refine ⟨fun _ e he hl => ?_, fun _ => rfl⟩
      have : d * d ≤ e * e := Int.mul_le_mul he he (by omega) (by omega)
      omega
theorem isP_iff {n : Int} (h : n ≤ 1000000) : isP n = true ↔ NT.Pr n := by
  unfold isP NT.Pr
  rw [Bool.and_eq_true, decide_eq_true_eq, trial_iff n h 1000 2 (by omega) (by omega)]
  exact ⟨fun ⟨a, b⟩ => ⟨by omega, b⟩, fun ⟨a, b⟩ => ⟨by omega, b⟩⟩
/-- the sorts of things handed in -/
def tys : List String := ["NoneType", "bool", "int", "str", "list", "tuple", "dict"]
theorem isi_int {t : String} (h : t ∈ tys) : kitB t "int" = some (t == "int" || t == "bool") := by
  simp only [tys, List.mem_cons, List.not_mem_nil, or_false] at h
  rcases h with rfl | rfl | rfl | rfl | rfl | rfl | rfl <;> decide +kernel
theorem isi_bool {t : String} (h : t ∈ tys) : kitB t "bool" = some (t == "bool") := by
  simp only [tys, List.mem_cons, List.not_mem_nil, or_false] at h
  rcases h with rfl | rfl | rfl | rfl | rfl | rfl | rfl <;> decide +kernel
theorem ty_num {t : String} (h : t ∈ tys) : ((t == "int" || t == "bool") && !(t == "bool")) = (t == "int") := by
  simp only [tys, List.mem_cons, List.not_mem_nil, or_false] at h
  rcases h with rfl | rfl | rfl | rfl | rfl | rfl | rfl <;> decide
theorem tyx_int {K : PySem.W.Frag} {H : Hp} {v : V} (h : TyX K H v (.type "int")) : ∃ i, v = .int i := by
  generalize e : (Value.type "int") = t at h
  cases h with
  | base b => cases b <;> first | exact ⟨_, rfl⟩ | (exfalso; revert e; simp)
  | _ => exfalso; revert e; simp
def okP : V → Bool
  | .int p => decide (3 ≤ p) && (decide (p ≤ 1000000) && isP p)
  | _ => false
/-- the built-in names as they are -/
structure Blt (mg : Str → Option Value) : Prop where
  b_len : mg "len" = none
  b_isinstance : mg "isinstance" = none
  b_int : mg "int" = none
  b_bool : mg "bool" = none
  b_list : mg "list" = none
  b_tuple : mg "tuple" = none
  b_str : mg "str" = none
  b_range : mg "range" = none
  b_sum : mg "sum" = none
  b_min : mg "min" = none
  b_max : mg "max" = none
  b_any : mg "any" = none
  b_all : mg "all" = none
  b_sorted : mg "sorted" = none
  b_set : mg "set" = none
  b_enumerate : mg "enumerate" = none
  b_abs : mg "abs" = none
/-- a class of errors -/
structure ErrAt (K : PySem.W.Frag) (mg : Str → Option Value) (x : Str) (C : Addr) : Prop where
  g : mg x = some (.ref C)
  x : PySem.W.excIn K C [.type "ValueError", .type "Exception", .type "BaseException", .type "object"] "ValueError.__new__" = true
  kp : PySem.W.keepIn K (.ref C) = true
  sb : PySem.W.subIn K (.ref C) (.type "BaseException") = some true
  ty : PySem.W.typeIn K (.ref C) = some (.type "type")

/-! ### is_number -/
def spIsNum (K : PySem.W.Frag) : Sp := fun vs H Q _ => ∃ (v : V) (t : String), vs = [v] ∧ TyX K H v (.type t) ∧ t ∈ tys ∧ Q (.bl (t == "int")) H
theorem isNum_int {H : Hp} {Q : VK} {E : XK} {i : Int} (q : Q (.bl true) H) : spIsNum K [.int i] H Q E := ⟨_, "int", rfl, .base (.int i), by decide, q⟩
/-! ### is_prime -/
def spIsPrime : Sp := fun vs H Q _ => ∃ n : Int, vs = [.int n] ∧ n ≤ 1000000 ∧ Q (.bl (isP n)) H
theorem is_prime_loop {n : Int} (hn : n ≤ 1000000) {d : Int} (h2 : 2 ≤ d) (h : ∀ e, 2 ≤ e → e < d → ¬ e ∣ n) :
    (d * d ≤ n → n % d = 0 → isP n = false) ∧ (¬ d * d ≤ n → isP n = decide (1 < n)) := by
  refine ⟨fun h1 h3 => ?_, fun h1 => ?_⟩
  · cases e : isP n with
    | false => rfl
    | true => exact absurd (Int.dvd_of_emod_eq_zero h3) (((isP_iff hn).mp e).2 d h2 h1)
  · by_cases h3 : 1 < n
    · rw [decide_eq_true h3]
      refine (isP_iff hn).mpr ⟨by omega, fun e he hl => h e he ?_⟩
      rcases Int.lt_or_le e d with h4 | h4
      · exact h4
      · have : d * d ≤ e * e := Int.mul_le_mul h4 h4 (by omega) (by omega)
        omega
    · unfold isP
      rw [decide_eq_false h3]
      rfl
theorem sq_le {d n : Int} (h2 : 2 ≤ d) (h : d * d ≤ n) (hn : n ≤ 1000000) : d ≤ 1000 := by
  rcases Int.lt_or_le 1000 d with h1 | h1
  · have : 1001 * 1001 ≤ d * d := Int.mul_le_mul (by omega) (by omega) (by omega) (by omega)
    omega
  · exact h1
/-! ### asked_prime -/
def spAskedPrime (K : PySem.W.Frag) (C : Addr) : Sp := fun vs H Q E => ∃ (v : V) (t : String), vs = [v] ∧ TyX K H v (.type t) ∧ t ∈ tys ∧ (okP v = true → Q .non H) ∧ (okP v = false → E (.ref C) none H)
/-! ### power -/
def spPower : Sp := fun vs H Q _ => ∃ b e p : Int, vs = [.int b, .int e, .int p] ∧ 0 ≤ e ∧ 2 ≤ p ∧ p < 2 ^ 30 ∧ Q (.int (b ^ e.toNat % p)) H
theorem power_turn {b base found p e : Int} {e0 : Nat} (h : NT.C p (found * base ^ e.toNat) (b ^ e0)) (he : 0 < e) :
    NT.C p ((if e % 2 = 1 then found * base % p else found) * (base * base % p) ^ (e / 2).toNat) (b ^ e0) := by
  have h2 : base ^ e.toNat = (if e % 2 = 1 then base else 1) * (base * base) ^ (e / 2).toNat := by
    have e1 : e.toNat = (if e % 2 = 1 then 1 else 0) + ((e / 2).toNat + (e / 2).toNat) := by split <;> omega
    have e2 : ∀ n : Nat, (base * base) ^ n = base ^ (n + n) := fun n => by
      rw [Int.pow_add, Int.mul_pow]
    rw [e2, e1, Int.pow_add]
    split
    · rw [Int.pow_succ, Int.pow_zero, Int.one_mul]
    · rw [Int.pow_zero]
  refine NT.C.trans ?_ h
  rw [h2]
  have h3 := NT.C.pow (NT.C.mod p (base * base)) (e / 2).toNat
  split
  · refine NT.C.trans (NT.C.mul (NT.C.mod p (found * base)) h3) (NT.C.of_eq (by grind))
  · refine NT.C.trans (NT.C.mul (NT.C.refl p found) h3) (NT.C.of_eq (by grind))
theorem mod_b {a p : Int} (h : 0 < p) : 0 ≤ a % p ∧ a % p < p := ⟨Int.emod_nonneg _ (by omega), Int.emod_lt_of_pos _ h⟩
/-! ### mark_of -/
def spMarkOf : Sp := fun vs H Q _ => ∃ p n : Int, vs = [.int p, .int n] ∧ 0 < p ∧ p < 2 ^ 30 ∧ n.natAbs < 2 ^ 30 ∧ Q (.int (NT.mk p n)) H
theorem rd_power {b e p : Int} {H : Hp} {Q : VK} {E : XK} : spPower [.int b, .int e, .int p] H Q E ↔ (0 ≤ e ∧ 2 ≤ p ∧ p < 2 ^ 30) ∧ Q (.int (b ^ e.toNat % p)) H :=
  ⟨fun ⟨_, _, _, h, a, b, c, q⟩ => by cases h; exact ⟨⟨a, b, c⟩, q⟩, fun ⟨⟨a, b, c⟩, q⟩ => ⟨_, _, _, rfl, a, b, c, q⟩⟩
theorem rd_markOf {p n : Int} {H : Hp} {Q : VK} {E : XK} : spMarkOf [.int p, .int n] H Q E ↔ (0 < p ∧ p < 2 ^ 30 ∧ n.natAbs < 2 ^ 30) ∧ Q (.int (NT.mk p n)) H :=
  ⟨fun ⟨_, _, h, a, b, c, q⟩ => by cases h; exact ⟨⟨a, b, c⟩, q⟩, fun ⟨⟨a, b, c⟩, q⟩ => ⟨_, _, rfl, a, b, c, q⟩⟩
theorem rd_isPrime {n : Int} {H : Hp} {Q : VK} {E : XK} : spIsPrime [.int n] H Q E ↔ n ≤ 1000000 ∧ Q (.bl (isP n)) H :=
  ⟨fun ⟨_, h, a, q⟩ => by cases h; exact ⟨a, q⟩, fun ⟨a, q⟩ => ⟨_, rfl, a, q⟩⟩
/-! ### how many bits a number has at most -/
def B (n : Nat) (x : Int) : Prop := x.natAbs < 2 ^ n
theorem B.mono {m n : Nat} {x : Int} (h : B m x) (l : m ≤ n) : B n x := Nat.lt_of_lt_of_le h (Nat.pow_le_pow_right (by decide) l)
theorem B.add {n : Nat} {x y : Int} (h : B n x) (g : B n y) : B (n + 1) (x + y) := by
  unfold B at *
  rw [Nat.pow_succ]
  omega
theorem B.neg {n : Nat} {x : Int} (h : B n x) : B n (-x) := by unfold B at *; omega
theorem B.sub {n : Nat} {x y : Int} (h : B n x) (g : B n y) : B (n + 1) (x - y) := by
  unfold B at *
  rw [Nat.pow_succ]
  omega
theorem B.mul {m n : Nat} {x y : Int} (h : B m x) (g : B n y) : B (m + n) (x * y) := by
  unfold B at *
  rw [Int.natAbs_mul, Nat.pow_add]
  exact Nat.mul_lt_mul'' h g
theorem B.ediv {n : Nat} {x d : Int} (h : B n x) (hd : 0 < d) : B n (x / d) := by
  unfold B at *
  have h1 : (x / d).natAbs ≤ x.natAbs := by
    rcases Int.lt_or_le x 0 with hx | hx
    · have a := Int.ediv_neg_of_neg_of_pos hx hd
      have b : x ≤ x / d := Int.le_ediv_of_mul_le hd (by
        have : x * d ≤ x * 1 := Int.mul_le_mul_of_nonpos_left (by omega) (by omega)
        omega)
      omega
    · have a := Int.ediv_nonneg hx (Int.le_of_lt hd)
      have b : x / d ≤ x := Int.ediv_le_self d hx
      omega
  omega
theorem B.small {x : Int} (h : x.natAbs < 2 ^ 62) : B 62 x := h
theorem B.bits {x : Int} {n : Nat} (h : Builtin.Int.intBits x ≤ n) : B (n + 1) x := by
  unfold B
  unfold Builtin.Int.intBits at h
  split at h
  · rename_i e
    have : x = 0 := by simpa using e
    subst this
    exact Nat.pow_pos (by decide)
  · have h1 : x.natAbs.log2 < n + 1 := by omega
    by_cases h0 : x.natAbs = 0
    · rw [h0]
      exact Nat.pow_pos (by decide)
    · exact (Nat.log2_lt h0).mp h1
theorem B.ok {m n : Nat} {x y : Int} (h : B m x) (g : B n y) (m0 : 0 < m) (n0 : 0 < n) (l : m + n ≤ 90000000) : CMulB x y := by
  have a : ∀ (k : Nat) (z : Int), 0 < k → B k z → z.natAbs.log2 < k := fun k z hk hz => by
    by_cases h0 : z.natAbs = 0
    · rw [h0]
      exact hk
    · exact (Nat.log2_lt h0).mpr hz
  have := a m x m0 h
  have := a n y n0 g
  unfold CMulB
  omega
def TellPair (R : Int → Int → Prop) (H : Hp) (Q : VK) : Prop := (∀ a b, R a b → ∀ H' q, Same H H' → H q = none → H' q = some (.tup [.int a, .int b]) → Q (.ref q) H') ∧ ((∀ a b, ¬ R a b) → ∀ H', Same H H' → Q .non H')
theorem okP_int {v : V} (h : okP v = true) : ∃ p, v = .int p ∧ 3 ≤ p ∧ p ≤ 1000000 ∧ NT.Pr p := by
  cases v with
  | int p =>
    simp only [okP, Bool.and_eq_true, decide_eq_true_eq] at h
    exact ⟨p, rfl, h.1, h.2.1, (isP_iff h.2.1).mp h.2.2⟩
  | _ => cases h
theorem tyx_num {H : Hp} {v : V} {t : String} (h : TyX K H v (.type t)) : (t == "int") = true ∨ ((t == "int") = false ∧ ∀ d, v ≠ .int d) := by
  cases hi : (t == "int") with
  | true => exact .inl rfl
  | false =>
    refine .inr ⟨rfl, fun d e => ?_⟩
    subst e
    cases h with
    | base b =>
      cases b
      exact absurd hi (by decide)
theorem same_new {H : Hp} {p : Addr} {o : HO} (h : H p = none) : Same H (upd H p o) := fun b x e => by
  rw [upd_ne (ne_of_none e h)]
  exact e
/-! ### data of ints -/
def dI (ns : List Int) : List PyData := ns.map PyData.int
theorem canLay_ints : ∀ ns : List Int, PyData.canLayAll0 (dI ns) = true
  | [] => by simp [dI, PyData.canLayAll0]
  | n :: ns => by
    have := canLay_ints ns
    simp only [dI, List.map_cons, PyData.canLayAll0, PyData.canLay0, Bool.true_and] at *
    exact this
theorem depth_ints : ∀ ns : List Int, PyData.depthAll (dI ns) ≤ 1
  | [] => by simp [dI, PyData.depthAll]
  | n :: ns => by
    have := depth_ints ns
    simp only [dI, List.map_cons, PyData.depthAll, PyData.depth] at *
    omega
theorem shaped_list (ns : List Int) : SeqAt.shaped (.list (dI ns)) = true := by
  unfold SeqAt.shaped
  have h := depth_ints ns
  rw [Bool.and_eq_true, decide_eq_true_eq]
  refine ⟨by simp only [PyData.canLay0]; exact canLay_ints ns, ?_⟩
  simp only [PyData.depth]
  omega
theorem shaped_tup (ns : List Int) : SeqAt.shaped (.tuple (dI ns)) = true := by
  unfold SeqAt.shaped
  have h := depth_ints ns
  rw [Bool.and_eq_true, decide_eq_true_eq]
  refine ⟨by simp only [PyData.canLay0]; exact canLay_ints ns, ?_⟩
  simp only [PyData.depth]
  omega
theorem eqvAll_ints : ∀ xs ys : List Int, PyData.eqvAll (dI xs) (dI ys) = decide (xs = ys)
  | [], [] => by simp [dI, PyData.eqvAll]
  | [], y :: ys => by simp [dI, PyData.eqvAll]
  | x :: xs, [] => by simp [dI, PyData.eqvAll]
  | x :: xs, y :: ys => by
    have ih := eqvAll_ints xs ys
    show (PyData.eqv (.int x) (.int y) && PyData.eqvAll (dI xs) (dI ys)) = _
    rw [ih]
    by_cases h : x = y <;> by_cases g : xs = ys <;> simp [PyData.eqv, h, g]
theorem eqv_ints (xs ys : List Int) : PyData.eqv (.list (dI xs)) (.list (dI ys)) = decide (xs = ys) := by
  rw [← eqvAll_ints]
  simp only [PyData.eqv]
theorem eqv_tups (xs ys : List Int) : PyData.eqv (.tuple (dI xs)) (.tuple (dI ys)) = decide (xs = ys) := by
  rw [← eqvAll_ints]
  simp only [PyData.eqv]
theorem dpAll_ints {K : PySem.W.Frag} {H : Hp} : ∀ ns : List Int, DpAll K H (ns.map V.int) (dI ns)
  | [] => .nil
  | n :: ns => .cons (.int n) (dpAll_ints ns)
theorem dp_list {K : PySem.W.Frag} {H : Hp} {a : Addr} {ns : List Int} (h : SqL K H a (ns.map V.int)) : Dp K H (.ref a) (.list (dI ns)) := .lst h (dpAll_ints ns)
theorem dp_tup {K : PySem.W.Frag} {H : Hp} {a : Addr} {ns : List Int} (h : SqT K H a (ns.map V.int)) : Dp K H (.ref a) (.tuple (dI ns)) := .tup h (dpAll_ints ns)
theorem sq_of {K : PySem.W.Frag} {H : Hp} {a : Addr} {xs : List V} (h : H a = some (.lst xs)) : SqL K H a xs := .inl (.inl h)
theorem sqt_of {K : PySem.W.Frag} {H : Hp} {a : Addr} {xs : List V} (h : H a = some (.tup xs)) : SqT K H a xs := .inl (.inl h)
theorem cut_take (xs : List V) (n : Nat) : cutV xs none (some (n : Int)) = xs.take n := by
  unfold cutV
  rw [HT.sIx_none, HT.sIx_nat]
  show (xs.drop 0).take (min n xs.length - 0) = _
  rw [List.drop_zero, Nat.sub_zero]
  rcases Nat.le_total n xs.length with h | h
  · rw [Nat.min_eq_left h]
  · rw [Nat.min_eq_right h, List.take_length, List.take_of_length_le h]
theorem cut_all (xs : List V) (n : Nat) (h : xs.length ≤ n) : cutV xs none (some (n : Int)) = xs := by
  rw [cut_take, List.take_of_length_le h]
theorem at_lt {xs : List Int} {i : Int} (h0 : 0 ≤ i) (h : i < (xs.length : Int)) : ∃ v, v ∈ xs ∧ atI (xs.map V.int) i = some (.int v) := by
  obtain ⟨j, rfl⟩ := Int.eq_ofNat_of_zero_le h0
  have hj : j < xs.length := by omega
  exact ⟨xs[j], List.getElem_mem hj, atI_nat (by rw [List.getElem?_map, List.getElem?_eq_getElem hj]; rfl)⟩
theorem at_mod {xs : List Int} (a : Int) (h : xs ≠ []) : ∃ v, v ∈ xs ∧ atI (xs.map V.int) (a % ((xs.map V.int).length : Int)) = some (.int v) := by
  have := List.length_pos_iff.mpr h
  refine at_lt ?_ ?_
  · rw [List.length_map]
    exact Int.emod_nonneg _ (by omega)
  · rw [List.length_map]
    exact Int.emod_lt_of_pos _ (by omega)
/-! ### the cells -/
def cellsOf (n : Nat) (ns : List Int) (c : Int) : List Int := if ns = [] then [c] else ns.take n
theorem cells_ok {K : PySem.W.Frag} {σ : L2.St} {H : Hp} {Q : VK} {a : Addr} {ns : List Int} {n : Nat} {c : Int} (hv : σ[0]? = some (some (.ref a))) (hS : SqL K H a (ns.map V.int))
    (q : ∀ H' p, Same H H' → H p = none → H' p = some (.lst ((cellsOf n ns c).map V.int)) → Q (.ref p) H') :
    tIf (tTest (tOp (rNeD K) (tVar 0) (tLst tNil))) (tSl (rSlL K) (tVar 0) tNoPart (tPart (tC (.int (n : Int))))) (tLst (tCons (tC (.int c)) tNil)) σ H Q := by
  refine ⟨_, hv, Nat.zero_le _, fun p hp => ?_⟩
  have sm := same_new (o := .lst []) hp
  refine ⟨_, _, dp_list (sm.seq hS), dp_list (ns := []) (sq_of upd_same), shaped_list _, shaped_list _, _, rfl, ?_⟩
  rw [eqv_ints]
  by_cases h : ns = []
  · rw [decide_eq_true h]
    refine iteF ⟨by show 1 ≤ sizeLine; decide, fun r hr => q _ r (sm.trans (same_new hr)) (sm.free hr) ?_⟩
    unfold cellsOf
    rw [if_pos h, upd_same]
    rfl
  · rw [decide_eq_false h]
    refine iteT ⟨_, hv, _, rfl, a, _, rfl, sm.seq hS, fun r hr => q _ r (sm.trans (same_new hr)) (sm.free hr) ?_⟩
    unfold cellsOf
    rw [if_neg h, upd_same, cut_take, List.map_take]
theorem cells_pos {n : Nat} {ns : List Int} {c : Int} (h : 0 < n) : 0 < (cellsOf n ns c).length := by
  unfold cellsOf
  split
  · exact Nat.one_pos
  · rename_i h2
    rw [List.length_take]
    have := List.length_pos_iff.mpr h2
    omega
theorem cells_len {n : Nat} {ns : List Int} {c : Int} (h : 0 < n) : (cellsOf n ns c).length ≤ n := by
  unfold cellsOf
  split
  · exact h
  · rw [List.length_take]
    omega
theorem cells_mem {n : Nat} {ns : List Int} {c : Int} {k : Nat} (hn : ∀ z ∈ ns, B k z) (hc : B k c) : ∀ z ∈ cellsOf n ns c, B k z := fun z hz => by
  unfold cellsOf at hz
  split at hz
  · rw [List.mem_singleton] at hz
    rw [hz]
    exact hc
  · exact hn z (List.mem_of_mem_take hz)
theorem sum_bits {k : Nat} : ∀ {ns : List Int}, (∀ z ∈ ns, B k z) → B (k + ns.length) ns.sum
  | [], _ => by
    show (0 : Nat) < 2 ^ _
    exact Nat.pow_pos (by decide)
  | n :: ns, h => by
    have ih := sum_bits (ns := ns) fun z hz => h z (List.mem_cons_of_mem _ hz)
    have h1 := (h n List.mem_cons_self).mono (Nat.le_add_right k ns.length)
    have := h1.add ih
    rw [List.sum_cons, List.length_cons]
    exact this
/-! ### the law's own number -/
def spNumber : Sp := fun vs H Q _ => ∃ (c a s : Int) (n : Nat), vs = [.int c, .int a, .int s] ∧ B n c ∧ B n s ∧ 0 ≤ a ∧ a ≤ 100000 ∧ n ≤ 20000000 ∧ ∀ z : Int, B (2 * n + 300) z → Q (.int z) H
/-- a tuple of two whole numbers -/
def spTwo (K : PySem.W.Frag) : Sp := fun vs H Q _ => ∃ (p : Addr) (a b : Int), vs = [.ref p] ∧ H p = some (.tup [.int a, .int b]) ∧ Q (.bl true) H
/-! ### the law's prime -/
theorem big_prime : isP 999983 = true := by decide +kernel
def spLawPrime (K : PySem.W.Frag) : Sp := fun vs H Q _ => ∃ (l : Addr) (ns : List Int) (a : Int), vs = [.ref l, .int a] ∧ SqL K H l (ns.map V.int) ∧ ns.length ≤ 63 ∧ (∀ z ∈ ns, B 1048577 z) ∧ 0 ≤ a ∧ a ≤ 1000 ∧ ∀ (H' : Hp) (p : Int), Same H H' → okP (.int p) = true → p ≤ 999983 → Q (.int p) H'
end
end Sa
namespace Sa
open PySem PySem.Spec PyProof.Rows L2 Evl
theorem mk_b {p n : Int} (p0 : 0 < p) (p6 : p ≤ 1000000) (n0 : 0 ≤ n) (n1 : n < p) : 0 ≤ NT.mk p n ∧ NT.mk p n < 4000000000000 := by
  have h := NT.sq_b (n := n) p0
  have h1 : 0 ≤ p * n := Int.mul_nonneg (by omega) n0
  have h2 : p * n ≤ 1000000 * 1000000 := Int.mul_le_mul (by omega) (by omega) n0 (by omega)
  have h3 : 2 * p * n = 2 * (p * n) := Int.mul_assoc 2 p n
  unfold NT.mk
  omega
theorem mk_lt {p a b : Int} (p0 : 0 < p) (h : a < b) : NT.mk p a < NT.mk p b := by
  have x := NT.sq_b (n := a) p0
  have y := NT.sq_b (n := b) p0
  have h1 : 2 * p * 1 ≤ 2 * p * (b - a) := Int.mul_le_mul_of_nonneg_left (by omega) (by omega)
  rw [Int.mul_sub] at h1
  unfold NT.mk
  omega
theorem map_at {ns : List Int} {i : Nat} {x : V} (h : (ns.map V.int)[i]? = some x) : ∃ d, d ∈ ns ∧ x = .int d := by
  rw [List.getElem?_map] at h
  cases e : ns[i]? with
  | none =>
    rw [e] at h
    cases h
  | some d =>
    rw [e] at h
    exact ⟨d, List.mem_of_getElem? e, (Option.some.inj h).symm⟩
def tri : Nat → Nat
  | 0 => 0
  | n + 1 => tri n + n
section
variable {P : Program} {w : World} {K : PySem.W.Frag} {mg : Str → Option Value} {base : Heap}
theorem sum63_ok {σ : L2.St} {H : Hp} {Q : VK} {a : Addr} {ns : List Int} (hv : σ[0]? = some (some (.ref a))) (hS : SqL K H a (ns.map V.int)) (hl : ns.length ≤ 63) (q : ∀ H', Same H H' → Q (.int ns.sum) H') :
    tCB (rSum K) (tCons (tSl (rSlL K) (tVar 0) tNoPart (tPart (tC (.int 63)))) tNil) σ H Q := by
  refine ⟨_, hv, _, rfl, a, _, rfl, hS, fun p hp => ⟨p, ns, rfl, .inl (.inl ?_), q _ (same_new hp)⟩⟩
  rw [upd_same, show (63 : Int) = ((63 : Nat) : Int) from rfl, cut_all _ 63 (by rw [List.length_map]; exact hl)]
def spLaw (K : PySem.W.Frag) : Sp := fun vs H Q _ => ∃ (a : Addr) (ns : List Int), vs = [.ref a] ∧ SqL K H a (ns.map V.int) ∧ ns.length ≤ 63 ∧ (∀ z ∈ ns, B 1048577 z) ∧ ∀ H', Q (.bl true) H'
end
end Sa
/-! list(range(a, b, c)); displays of tuples of ints, told at a later heap -/
namespace Sa
open PySem PySem.Spec PyProof.Rows L2 Evl
def rg3 (i c : Int) (n : Nat) : List Int := (List.range n).map fun k : Nat => i + (k : Int) * c
def tLst3 (ta : TA) : TE := fun σ H Q => ta σ H fun vs H1 => ∃ (i j c : Int) (n : Nat), vs = [.int i, .int j, .int c] ∧ RgC i j c n ∧ n ≤ 1000 ∧ ∀ q, H1 q = none → Q (.ref q) (upd H1 q (.lst ((rg3 i c n).map V.int)))
theorem pe_list3 {X : Cx} {a b c : Expr} {ta : TA} {p p2 pos pos2 : Pos} (hg2 : Gl X "list") (hm2 : X.mg "list" = none) (hg : Gl X "range") (hm : X.mg "range" = none) (ha : PA X [a, b, c] ta) (hc : X.calm = true := by rfl)
    (hs : starEach [a, b, c] X.env = (false, eval a X.env) :: starEach [b, c] X.env := by rfl) (hpl : (backTo pos (starEach [b, c] X.env)).any (·.1) = false := by rfl)
    (na : starEach [Expr.Call (.Name "range" p) [a, b, c] [] pos] X.env = (false, eval (.Call (.Name "range" p) [a, b, c] [] pos) X.env) :: starEach [] X.env := by rfl) :
    PE X (.Call (.Name "list" p2) [.Call (.Name "range" p) [a, b, c] [] pos] [] pos2) (tLst3 ta) := by
  refine ⟨fun pins s σ H Q I h => ?_⟩
  refine Call_ (ld_blt I hg2 hm2 boot_list (PyProof.Rows.callWith_type1 (PyProof.Rows.args_cons ?_ na) na))
  refine Call_ (ld_blt I hg hm boot_range (PyProof.Rows.callWith_type1 (thn (ha.run pos pins s σ H _ I h) fun us s1 ⟨vs, H1, I1, r1, q1⟩ => ?_) hs hpl))
  obtain ⟨i, j, k, n, e, ⟨c0, c1, c2, c3⟩, hn, q⟩ := q1
  subst e
  cases r1 with
  | cons r rr =>
    cases rr with
    | cons r' rr =>
      cases rr with
      | cons r'' rr =>
        cases rr
        obtain ⟨t, rfl⟩ := r
        obtain ⟨t', rfl⟩ := r'
        obtain ⟨t'', rfl⟩ := r''
        refine call_range_3 c0 ?_ (.inl (PyProof.noPylong_small c1))
        refine PyProof.Rows.args_nil ?_
        have I2 : Inv X pins σ H1 { s1 with heap := s1.heap.push { cls := .type "range", data := .fields #[.int i t, .int j t', .int k t''] } } := I1.kept (t' := s1.toks) fun b o e => Heap.get?_push_of_some _ e
        refine call_list_range (I1.ok.hd hc) (IsRange.new ..) c2 c3 (Nat.le_trans hn (by decide)) fun h' tk acc c' hk e' hi => ?_
        refine ⟨.ref _, upd H1 _ (.lst ((rg3 i k n).map V.int)), I2.laid hk (Nat.le_refl _) (show ObjOk X.prog X.w _ _ _ (.lst ((rg3 i k n).map V.int)) from ⟨?_, acc.toList, c', ?_, ?_⟩), rfl, q _ (I2.hok.fresh (Nat.le_refl _))⟩
        · unfold rg3
          rw [List.length_map, List.length_map, List.length_range, sizeLine_eq]
          omega
        · have e : acc.toList.length = n := by rw [Array.length_toList]; exact hi.1
          unfold rg3
          rw [List.map_map, ← e]
          refine vals_of_get acc.toList _ fun j u hj => ?_
          obtain ⟨t, rfl⟩ := hi.2 j u (by rw [← hj, Array.getElem?_toList])
          exact ⟨t, rfl⟩
        · rw [Array.toArray_toList]
          exact e'
/-! ### evaluated at a heap behind H0 -/
def EvEH (H0 : Hp) (te : TE) (σ : L2.St) (v : V) : Prop := ∀ (H : Hp) (Q : VK), Same H0 H → Q v H → te σ H Q
def EvIs (H0 : Hp) (ta : TA) (σ : L2.St) (ns : List Int) : Prop := ∀ (H : Hp) (Q : List V → Hp → Prop), Same H0 H → Q (ns.map V.int) H → ta σ H Q
/-- a tuple of ints -/
def EvT (H0 : Hp) (te : TE) (σ : L2.St) (ns : List Int) : Prop := ∀ (H : Hp) (Q : VK), Same H0 H → (∀ p H2, Same H H2 → H2 p = some (.tup (ns.map V.int)) → Q (.ref p) H2) → te σ H Q
def IPP : List (List Int × List Int) → List V → Hp → Prop
  | [], xs, _ => xs = []
  | (a, b) :: r, xs, H => ∃ p p1 p2 ys, xs = .ref p :: ys ∧ H p = some (.tup [.ref p1, .ref p2]) ∧ H p1 = some (.tup (a.map V.int)) ∧ H p2 = some (.tup (b.map V.int)) ∧ IPP r ys H
def EvPP (H0 : Hp) (ta : TA) (σ : L2.St) (ab : List (List Int × List Int)) : Prop := ∀ (H : Hp) (Q : List V → Hp → Prop), Same H0 H → (∀ xs H2, Same H H2 → IPP ab xs H2 → Q xs H2) → ta σ H Q
section
variable {K : PySem.W.Frag} {H0 : Hp} {σ : L2.St}
theorem IPP.mono : ∀ {ab : List (List Int × List Int)} {xs : List V} {H H' : Hp}, Same H H' → IPP ab xs H → IPP ab xs H'
  | [], _, _, _, _, h => h
  | (a, b) :: r, _, _, _, s, ⟨p, p1, p2, ys, e, h0, h1, h2, h⟩ => ⟨p, p1, p2, ys, e, s _ _ h0, s _ _ h1, s _ _ h2, IPP.mono s h⟩
theorem IPP.len : ∀ {ab : List (List Int × List Int)} {xs : List V} {H : Hp}, IPP ab xs H → xs.length = ab.length
  | [], _, _, h => by rw [h]; rfl
  | (a, b) :: r, _, _, ⟨p, p1, p2, ys, e, _, _, _, h⟩ => by rw [e, List.length_cons, List.length_cons, IPP.len h]
theorem IPP.cat : ∀ {ab cd : List (List Int × List Int)} {xs ys : List V} {H : Hp}, IPP ab xs H → IPP cd ys H → IPP (ab ++ cd) (xs ++ ys) H
  | [], _, _, _, _, h, g => by rw [h]; exact g
  | (a, b) :: r, _, _, _, _, ⟨p, p1, p2, ys, e, h0, h1, h2, h⟩, g => ⟨p, p1, p2, _, by rw [e]; rfl, h0, h1, h2, IPP.cat h g⟩
theorem IPP.at : ∀ {ab : List (List Int × List Int)} {xs : List V} {H : Hp} {i : Nat} {x : V}, IPP ab xs H → xs[i]? = some x → ∃ a b p p1 p2, ab[i]? = some (a, b) ∧ x = .ref p ∧ H p = some (.tup [.ref p1, .ref p2]) ∧ H p1 = some (.tup (a.map V.int)) ∧ H p2 = some (.tup (b.map V.int))
  | [], _, _, i, x, h, e => by rw [h] at e; simp at e
  | (a, b) :: r, _, _, 0, x, ⟨p, p1, p2, ys, e, h0, h1, h2, h⟩, ex => by
    rw [e] at ex
    cases ex
    exact ⟨a, b, p, p1, p2, rfl, rfl, h0, h1, h2⟩
  | (a, b) :: r, _, _, i + 1, x, ⟨p, p1, p2, ys, e, h0, h1, h2, h⟩, ex => by
    rw [e] at ex
    exact IPP.at (i := i) h ex
theorem eh_var {n : Nat} {v : V} (h : σ[n]? = some (some v)) : EvEH H0 (tVar n) σ v := fun H Q _ q => ⟨v, h, q⟩
theorem eh_c {v : V} : EvEH H0 (tC v) σ v := fun H Q _ q => q
theorem eh_U {ta : TE} {f : Int → V} {i : Int} (h : EvEH H0 ta σ (.int i)) : EvEH H0 (tUn (rU f) ta) σ (f i) := fun H Q s q => h H _ s ⟨i, rfl, q⟩
theorem eh_I0 {ta tb : TE} {f : Int → Int → V} {i j : Int} (h : EvEH H0 ta σ (.int i)) (g : EvEH H0 tb σ (.int j)) : EvEH H0 (tOp (rI0 f) ta tb) σ (f i j) := fun H Q s q => h H _ s (g H _ s ⟨i, j, rfl, rfl, q⟩)
theorem eh_ixL {ta tb : TE} {p : Addr} {xs : List V} {i : Int} {v : V} (h : EvEH H0 ta σ (.ref p)) (g : EvEH H0 tb σ (.int i)) (hs : SqL K H0 p xs) (e : atI xs i = some v) : EvEH H0 (tOp (rIxL K) ta tb) σ v := fun H Q s q => h H _ s (g H _ s (ixL (s.seq hs) e q))
theorem is_nil : EvIs H0 tNil σ [] := fun H Q _ q => q
theorem is_cons {te : TE} {ta : TA} {n : Int} {ns : List Int} (h : EvEH H0 te σ (.int n)) (g : EvIs H0 ta σ ns) : EvIs H0 (tCons te ta) σ (n :: ns) := fun H Q s q => h H _ s (g H _ s q)
theorem et_tup {ta : TA} {ns : List Int} (h : EvIs H0 ta σ ns) (hl : ns.length ≤ 1000) : EvT H0 (tTup ta) σ ns := fun H Q s q => h H _ s ⟨by
  rw [List.length_map]
  exact Nat.le_trans hl (show 1000 ≤ sizeLine by decide), fun p hp => q p _ (same_newO hp) upd_same⟩
theorem pp_nil : EvPP H0 tNil σ [] := fun H Q _ q => q [] H (Same.refl H) rfl
theorem pp_cons {t1 t2 : TE} {ta : TA} {a b : List Int} {ab : List (List Int × List Int)} (h1 : EvT H0 t1 σ a) (h2 : EvT H0 t2 σ b) (g : EvPP H0 ta σ ab) : EvPP H0 (tCons (tTup (tCons t1 (tCons t2 tNil))) ta) σ ((a, b) :: ab) := fun H Q s q =>
  h1 H _ s fun p1 H1 s1 e1 => h2 H1 _ (s.trans s1) fun p2 H2 s2 e2 => ⟨by show 2 ≤ sizeLine; decide, fun p np => g _ _ (s.trans (s1.trans (s2.trans (same_newO np)))) fun xs H3 s3 i =>
    q _ H3 (s1.trans (s2.trans ((same_newO np).trans s3))) ⟨p, p1, p2, xs, rfl, s3 _ _ upd_same, s3 _ _ ((same_newO np) _ _ (s2 _ _ e1)), s3 _ _ ((same_newO np) _ _ e2), i⟩⟩
/-- x = [(..), ..] -/
theorem asg_pp {ta : TA} {H : Hp} {Q : VK} {ab : List (List Int × List Int)} (h : EvPP H ta σ ab) (hl : ab.length ≤ 1000) (q : ∀ l xs H', Same H H' → H l = none → H' l = some (.lst xs) → IPP ab xs H' → Q (.ref l) H') : tLst ta σ H Q :=
  h H _ (Same.refl H) fun xs H2 s i => ⟨by rw [i.len]; exact Nat.le_trans hl (show 1000 ≤ sizeLine by decide), fun l nl => q l xs _ (s.trans (same_newO nl)) (s.free nl) upd_same (i.mono (same_newO nl))⟩
/-- x = y + [(..), ..] -/
theorem cat_pp {ty : TE} {ta : TA} {H : Hp} {Q : VK} {l0 : Addr} {xs0 : List V} {ab cd : List (List Int × List Int)} (hy : EvEH H ty σ (.ref l0)) (h0 : H l0 = some (.lst xs0)) (i0 : IPP ab xs0 H) (h : EvPP H ta σ cd) (hl : ab.length + cd.length ≤ 1000)
    (q : ∀ l xs H', Same H H' → H l = none → H' l = some (.lst xs) → IPP (ab ++ cd) xs H' → Q (.ref l) H') : tOp rCat ty (tLst ta) σ H Q :=
  hy H _ (Same.refl H) (asg_pp h (by omega) fun l1 xs1 H1 s1 n1 e1 i1 => ⟨l0, l1, xs0, xs1, rfl, rfl, s1 _ _ h0, e1, by
    rw [i0.len, i1.len]
    exact Nat.le_trans hl (show 1000 ≤ sizeLine by decide), fun l nl => q l _ _ (s1.trans (same_newO nl)) (s1.free nl) upd_same (((i0.mono s1).cat i1).mono (same_newO nl))⟩)
end
theorem lc_mapL {K : PySem.W.Frag} {a : Addr} {xs : List V} {j : Nat} {te : TE} {vs : List Nat} {σ : L2.St} {H1 : Hp} {Q : VK} (v : Nat → V) (hw : ∀ x, wipe ((wipe σ vs).set j (some x)) vs = wipe σ vs) (hS : SqL K H1 a xs) (hn : xs.length ≤ 1000000)
    (he : ∀ (i : Nat) (x : V) (H' : Hp), xs[i]? = some x → Same H1 H' → ∀ Q : VK, (∀ H2, Same H' H2 → Q (v i) H2) → te ((wipe σ vs).set j (some x)) H' Q)
    (hd : ∀ D H', H1 D = none → Same H1 H' → H' D = some (.lst ((List.range xs.length).map v)) → Q (.ref D) H') : tLc (itI (Itl K a)) (gName j) tYes te vs σ H1 Q := fun D hD => by
  refine lc_list (xs := xs) (fun i H' => Same H1 H' ∧ H' D = some (.lst ((List.range i).map v))) ⟨same_mut (Same.refl _) hD, upd_same⟩ (fun i H' _ ⟨s, _⟩ => s.seq hS) (fun i x H' hi ⟨s, e⟩ => ?_) (fun H' ⟨s, e⟩ => hd D H' hD s e)
  refine ⟨hw _, ?_⟩
  unfold tYes
  dsimp only
  rw [if_pos rfl]
  refine he i x H' hi s _ fun H2 s2 => ⟨(List.range i).map v, s2 _ _ e, ?_, same_mut (s.trans s2) hD, ?_⟩
  · rw [List.length_map, List.length_range]
    have := (List.getElem?_eq_some_iff.mp hi).1
    exact Nat.lt_of_lt_of_le (Nat.lt_of_lt_of_le this hn) (show 1000000 ≤ sizeLine by decide)
  · rw [upd_same, List.range_succ, List.map_append]
    rfl
/-! tuples of two tuples of ints, compared -/
def dII (xs ys : List Int) : PyData := .tuple [.tuple (dI xs), .tuple (dI ys)]
theorem shaped_II (xs ys : List Int) : SeqAt.shaped (dII xs ys) = true := by
  unfold SeqAt.shaped dII
  have h := depth_ints xs
  have h' := depth_ints ys
  have c := canLay_ints xs
  have c' := canLay_ints ys
  rw [Bool.and_eq_true, decide_eq_true_eq]
  refine ⟨by simp only [PyData.canLay0, PyData.canLayAll0, c, c', Bool.and_self], ?_⟩
  simp only [PyData.depth, PyData.depthAll]
  omega
theorem eqv_II (xs ys zs ws : List Int) : PyData.eqv (dII xs ys) (dII zs ws) = (decide (xs = zs) && decide (ys = ws)) := by
  unfold dII
  have h1 := eqv_tups xs zs
  have h2 := eqv_tups ys ws
  simp only [PyData.eqv, PyData.eqvAll] at *
  rw [h1, h2, Bool.and_true]
theorem dp_II {K : PySem.W.Frag} {H : Hp} {a p q : Addr} {xs ys : List Int} (h : H a = some (.tup [.ref p, .ref q])) (h1 : H p = some (.tup (xs.map V.int))) (h2 : H q = some (.tup (ys.map V.int))) : Dp K H (.ref a) (dII xs ys) :=
  .tup (sqt_of h) (.cons (dp_tup (sqt_of h1)) (.cons (dp_tup (sqt_of h2)) .nil))
theorem rd_lst3 {ta : TA} {σ : L2.St} {H : Hp} {Q : VK} : tLst3 ta σ H Q = ta σ H fun vs H1 => ∃ (i j c : Int) (n : Nat), vs = [.int i, .int j, .int c] ∧ RgC i j c n ∧ n ≤ 1000 ∧ ∀ q, H1 q = none → Q (.ref q) (upd H1 q (.lst ((rg3 i c n).map V.int))) := rfl
theorem rg3_len {i c : Int} {n : Nat} : (rg3 i c n).length = n := by unfold rg3; rw [List.length_map, List.length_range]
end Sa
namespace Sa
open PySem PySem.Spec PyProof.Rows L2 Evl
def top (i : Nat) : Stmt := PySem.Challenge.pw_sumsapart_k05_answers_by_hand.main.body.getD i (.Pass ⟨0, 0, 0, 0⟩)
abbrev s_first_same : Stmt := top 2
theorem sc_first_same : FnScope ["marks", "seen", "other", "one", "total"] ["marks"] (defScope s_first_same) := ⟨rfl, rfl, rfl, by decide +kernel, rfl, by decide +kernel, by decide +kernel⟩
abbrev s_Apart_shows : Stmt := inClass (top 3) 0
theorem sc_Apart_shows : FnScope ["self", "marks"] ["self", "marks"] (defScope s_Apart_shows) := ⟨rfl, rfl, rfl, by decide +kernel, rfl, by decide +kernel, by decide +kernel⟩
abbrev s_Same_init : Stmt := inClass (top 4) 0
theorem sc_Same_init : FnScope ["self", "one", "other"] ["self", "one", "other"] (defScope s_Same_init) := ⟨rfl, rfl, rfl, by decide +kernel, rfl, by decide +kernel, by decide +kernel⟩
abbrev s_Same_shows : Stmt := inClass (top 4) 1
theorem sc_Same_shows : FnScope ["self", "marks", "pair"] ["self", "marks"] (defScope s_Same_shows) := ⟨rfl, rfl, rfl, by decide +kernel, rfl, by decide +kernel, by decide +kernel⟩
abbrev s__law_number : Stmt := top 6
theorem sc__law_number : FnScope ["_law_cell", "_law_at", "_law_whole_here", "_law_mixed", "_law_more"] ["_law_cell", "_law_at", "_law_whole_here"] (defScope s__law_number) := ⟨rfl, rfl, rfl, by decide +kernel, rfl, by decide +kernel, by decide +kernel⟩
abbrev s__law_whole : Stmt := top 7
theorem sc__law_whole : FnScope ["_law_number_here"] ["_law_number_here"] (defScope s__law_whole) := ⟨rfl, rfl, rfl, by decide +kernel, rfl, by decide +kernel, by decide +kernel⟩
abbrev s__law_marks : Stmt := top 8
theorem sc__law_marks : FnScope ["_law_script", "_law_cells", "_law_whole_here", "_law_kind", "_law_prime", "_law_found", "_law_at", "_law_cell", "_law_wide", "_law_last"] ["_law_script"] (defScope s__law_marks) := ⟨rfl, rfl, rfl, by decide +kernel, rfl, by decide +kernel, by decide +kernel⟩
abbrev s__law_apart : Stmt := top 9
theorem sc__law_apart : FnScope ["_law_marks_here", "_law_sums", "_law_other", "_law_one"] ["_law_marks_here"] (defScope s__law_apart) := ⟨rfl, rfl, rfl, by decide +kernel, rfl, by decide +kernel, by decide +kernel⟩
abbrev s__law_right : Stmt := top 10
theorem sc__law_right : FnScope ["_law_marks_here", "_law_one", "_law_other", "_law_good", "_law_pair", "_law_sums", "_law_answer", "_law_said"] ["_law_marks_here", "_law_one", "_law_other"] (defScope s__law_right) := ⟨rfl, rfl, rfl, by decide +kernel, rfl, by decide +kernel, by decide +kernel⟩
abbrev s_law : Stmt := top 11
theorem sc_law : FnScope ["_law_script", "_law_whole_here", "_law_marks_here", "_law_even", "_law_cells", "_law_some", "_law_said", "_law_size", "_law_k", "_law_cell", "_law_number_here", "_law_spots", "_law_fourth", "_law_tried", "_law_one", "_law_other"] ["_law_script"] (defScope s_law) := ⟨rfl, rfl, rfl, by decide +kernel, rfl, by decide +kernel, by decide +kernel⟩
end Sa
local macro_rules | `(tactic| walk_at "rd") => `(tactic| ((try simp only [L2.start, L2.wipe, List.set_cons_succ, List.set_cons_zero, List.map_cons, List.map_nil, List.length_cons, List.length_nil, List.cons_append, List.nil_append, List.replicate_succ, List.replicate_zero, Nat.reduceSub, Nat.reduceAdd, Nat.zero_add]); try simp only [↓Sa.rd_seq, ↓Sa.rd_power, ↓Sa.rd_markOf,  ↓Sa.rd_next, ↓Sa.rd_brk, ↓Sa.rd_asg, ↓Sa.rp_name, ↓Sa.rp_par, ↓Sa.rd_ret, ↓Sa.rd_retN, ↓Sa.rd_drop, ↓Sa.rd_if, ↓Sa.rp_var, ↓Sa.rd_c, ↓Sa.rd_op, ↓Sa.rd_un, ↓Sa.rd_I0, ↓Sa.rd_I, ↓Sa.rd_U, ↓Sa.rd_eqI, ↓Sa.rd_neI, ↓Sa.rd_test, ↓Sa.rd_B, ↓Sa.rd_and, ↓Sa.rd_or, ↓Sa.rd_not, ↓Sa.rd_andV, ↓Sa.rd_orV, ↓Sa.rd_notV, ↓Sa.rd_ifE, ↓Sa.rd_isN, ↓Sa.rd_notN, ↓Sa.rd_chain, ↓Sa.rd_chain3, ↓Sa.rd_nil, ↓Sa.rd_cons, ↓Sa.rd_tup, ↓Sa.rd_lst, ↓Sa.rd_call, ↓Sa.rd_CB, ↓Sa.rd_ixL, ↓Sa.rd_ixT, ↓Sa.rd_sl, ↓Sa.rd_noPart, ↓Sa.rd_part, ↓Sa.rd_slL, ↓Sa.rd_sum, ↓Sa.rd_all, ↓Sa.rd_any, ↓Sa.ex_int, ↓Sa.ex_int1, ↓Sa.ex_int2, ↓Sa.rd_len, ↓Sa.ex_len, ↓Sa.ex_bl, ↓Sa.ex_two, ↓Sa.slot_z, ↓Sa.slot_n, ↓Sa.setS_z, ↓Sa.setS_n, ↓Sa.if_tt, ↓Sa.if_ff, ↓Sa.if_dec, ↓Sa.if_ndec, ↓Sa.if_nb, ↓Sa.rd_forL, ↓Sa.rd_forT, ↓Sa.rd_forR1, ↓Sa.rd_forR2, ↓Sa.rd_forR3, ↓Sa.ex_ref, ↓Sa.cx_K, ↓List.append_nil, List.length_cons, List.length_nil, Nat.reduceAdd, Nat.zero_add]))
namespace Sa
open PySem PySem.Spec PyProof.Rows L2 Evl
section
variable {P : Program} {w : World} {K : PySem.W.Frag} {mg : Str → Option Value} {base : Heap}
theorem ok_number {f : Addr} {fd : FuncData} (F : Fun K "_law_number" "_law_number" s__law_number f fd) : FnOk P w K mg base CX0 1 f fd ["_law_cell", "_law_at", "_law_whole_here"] spNumber := by
  refine F.ok sc__law_number (fun vs H Q E h => ?_) (fun cdv A outer s H vs Q E hr h => ?_)
  · obtain ⟨c, a, s, n, rfl, _⟩ := h
    rfl
  · obtain ⟨c, a, s, n, rfl, hc, hs, h0, h1, hn, q⟩ := h
    refine ⟨_, pss_cons (ps_if (pt_cmpR op_ge (pv 0) (pe_op op_pow (pe_int) (pe_int)) (nomark _)) (pss_one (ps_ret (pe_op op_fdiv (pv 0) (pe_op op_add (pe_int) (pe_op op_mod (pv 1) (pe_int)))))) (pss_nil))
      (pss_cons (ps_set (i := 3) sc__law_number.nd rfl (by first | exact Or.inl rfl | exact Or.inr rfl) (pe_op op_mod (pe_op op_add (pe_op op_mulB (pe_op op_add (pv 0) (pe_op op_mulB (pe_int) (pv 1))) (pe_int)) (pv 2)) (pe_int)))
      (pss_cons (ps_set (i := 4) sc__law_number.nd rfl (by first | exact Or.inl rfl | exact Or.inr rfl) (pe_op op_mulB (pv 3) (pe_op op_add (pe_op op_add (pv 0) (pe_op op_mulB (pe_int) (pv 1))) (pe_int))))
      (pss_one (ps_ret (pe_op op_fdiv (pe_op op_mulB (pe_op op_mulB (pv 4) (pe_op op_add (pe_op op_add (pv 3) (pv 0)) (pe_int))) (pe_op op_add (pe_op op_mulB (pv 3) (pv 3)) (pe_int))) (pe_op op_add (pe_int) (pv 1))))))), ?_⟩
    walk_at "rd"
    obtain ⟨m, em⟩ : ∃ m, m = ((c + 977 * a) * 48271 + s) % 2147483647 := ⟨_, rfl⟩
    have m0 : 0 ≤ m ∧ m < 2147483647 := by omega
    have sm : ∀ x : Int, x.natAbs < 2 ^ 62 → B (n + 62) x := fun x hx => (B.small hx).mono (by omega)
    have hc' : B (n + 62) c := hc.mono (by omega)
    have mm : m * m ≤ 2147483646 * 2147483646 := Int.mul_le_mul (by omega) (by omega) (by omega) (by omega)
    have mm0 : 0 ≤ m * m := Int.mul_nonneg m0.1 m0.1
    rw [← em]
    have b1 : B (n + 63) (c + 977 * a) := hc'.add (sm _ (by omega))
    have b2 : B (n + 64) (c + 31 * a + 7) := (hc'.add (sm _ (by omega))).add ((sm 7 (by decide)).mono (by omega))
    have b3 : B (n + 64) (m + c + 5) := ((sm m (by omega)).add hc').add ((sm 5 (by decide)).mono (by omega))
    have b4 : B 62 m := B.small (by omega)
    have b5 : B 62 (m * m + 11) := B.small (by omega)
    have b6 := (b4.mul b2).mul b3
    refine ⟨⟨by decide, by decide, by decide⟩, ite2 (fun _ => ⟨by decide, ⟨by omega, by omega⟩, q _ ((hc.ediv (by omega)).mono (by omega))⟩) (fun _ => ⟨mulB_small (by decide) (by omega), b1.ok (B.small (x := 48271) (by decide)) (by omega) (by omega) (by omega), by decide, mulB_small (by decide) (by omega), b4.ok b2 (by omega) (by omega) (by omega), (b4.mul b2).ok b3 (by omega) (by omega) (by omega), mulB_small (by omega) (by omega), b6.ok b5 (by omega) (by omega) (by omega), ⟨by omega, by omega⟩, q _ (((b6.mul b5).ediv (by omega)).mono (by omega))⟩)⟩
end
end Sa
local macro_rules | `(tactic| walk_at "rd") => `(tactic| ((try simp only [L2.start, L2.wipe, List.set_cons_succ, List.set_cons_zero, List.map_cons, List.map_nil, List.length_cons, List.length_nil, List.cons_append, List.nil_append, List.replicate_succ, List.replicate_zero, Nat.reduceSub, Nat.reduceAdd, Nat.zero_add]); try simp only [↓Sa.rd_seq, ↓Sa.rd_dput, ↓Sa.rd_dget1, ↓Sa.rd_dnew, ↓Sa.rd_din, ↓Sa.rd_dget, ↓Sa.rd_fld, ↓Sa.rd_sfld, ↓Sa.rd_meth, ↓Sa.rd_make, ↓Sa.rd_made, ↓Sa.rd_lenSet,  ↓Sa.rd_next, ↓Sa.rd_brk, ↓Sa.rd_asg, ↓Sa.rp_name, ↓Sa.rp_par, ↓Sa.rd_ret, ↓Sa.rd_retN, ↓Sa.rd_drop, ↓Sa.rd_if, ↓Sa.rp_var, ↓Sa.rd_c, ↓Sa.rd_op, ↓Sa.rd_un, ↓Sa.rd_I0, ↓Sa.rd_I, ↓Sa.rd_U, ↓Sa.rd_eqI, ↓Sa.rd_neI, ↓Sa.rd_test, ↓Sa.rd_B, ↓Sa.rd_and, ↓Sa.rd_or, ↓Sa.rd_not, ↓Sa.rd_andV, ↓Sa.rd_orV, ↓Sa.rd_notV, ↓Sa.rd_ifE, ↓Sa.rd_isN, ↓Sa.rd_notN, ↓Sa.rd_chain, ↓Sa.rd_chain3, ↓Sa.rd_nil, ↓Sa.rd_cons, ↓Sa.rd_tup, ↓Sa.rd_lst, ↓Sa.rd_call, ↓Sa.rd_CB, ↓Sa.rd_ixL, ↓Sa.rd_ixT, ↓Sa.rd_sl, ↓Sa.rd_noPart, ↓Sa.rd_part, ↓Sa.rd_slL, ↓Sa.rd_sum, ↓Sa.rd_all, ↓Sa.rd_any, ↓Sa.ex_int, ↓Sa.ex_int1, ↓Sa.ex_int2, ↓Sa.rd_len, ↓Sa.ex_len, ↓Sa.ex_bl, ↓Sa.ex_two, ↓Sa.slot_z, ↓Sa.slot_n, ↓Sa.setS_z, ↓Sa.setS_n, ↓Sa.if_tt, ↓Sa.if_ff, ↓Sa.if_dec, ↓Sa.if_ndec, ↓Sa.if_nb, ↓Sa.rd_forL, ↓Sa.rd_forT, ↓Sa.rd_forR1, ↓Sa.rd_forR2, ↓Sa.rd_forR3, ↓Sa.ex_ref, ↓Sa.cx_K, ↓List.append_nil, List.length_cons, List.length_nil, Nat.reduceAdd, Nat.zero_add]))
namespace Sa
open PySem PySem.Spec PyProof.Rows L2 Evl
/-- the sums that were met, each with its pair -/
def FS (ms : List Int) (H : Hp) (d : Addr) (done : List (Nat × Nat)) : Prop :=
  ∃ kvs : List (Key × V), H d = some (.dK kvs) ∧ kvs.length = done.length ∧ (∀ k v, valV kvs (Sum.inl k) = some v → ∃ x ∈ done, SD.sm ms x = k ∧ ∃ q, v = .ref q ∧ H q = some (.tup [.int (x.1 : Int), .int (x.2 : Int)])) ∧
    (∀ x ∈ done, (valV kvs (Sum.inl (SD.sm ms x))).isSome = true) ∧ ∀ x ∈ done, ∀ y ∈ done, SD.sm ms x = SD.sm ms y → x = y
theorem FS.put {ms : List Int} {H : Hp} {d q : Addr} {done : List (Nat × Nat)} (h : FS ms H d done) {i j : Nat} (nq : H q = none) (hz : done.length < 5000) (new : ∀ kvs, H d = some (.dK kvs) → valV kvs (Sum.inl (SD.sm ms (i, j))) = none) :
    ∃ H', DPut (upd H q (.tup [.int (i : Int), .int (j : Int)])) d (.int (SD.sm ms (i, j))) (.ref q) H' ∧ FS ms H' d (done ++ [(i, j)]) ∧ ∀ G, Same G H → G d = none → Same G H' := by
  obtain ⟨kvs, e1, e2, e3, e4, e5⟩ := h
  have sq : Same H (upd H q (.tup [.int (i : Int), .int (j : Int)])) := same_newO nq
  have new := new kvs e1
  refine ⟨_, DPut.k (k := Sum.inl (SD.sm ms (i, j))) (sq _ _ e1) (Nat.lt_of_lt_of_le (by omega) (show 5000 ≤ sizeLine by decide)), ⟨putK kvs (Sum.inl (SD.sm ms (i, j))) (.ref q), upd_same, ?_, fun k v x => ?_, fun x hx => ?_, fun x hx y hy e => ?_⟩, fun G g gd => same_mut (g.trans sq) gd⟩
  · rw [putK_new _ new, List.length_append, List.length_append, e2]
    rfl
  · rw [valV_put] at x
    split at x
    · rename_i ek
      cases ek
      cases x
      refine ⟨(i, j), List.mem_append_right _ List.mem_cons_self, rfl, q, rfl, ?_⟩
      rw [upd_ne (ne_of_none e1 nq).symm]
      exact upd_same
    · obtain ⟨y, hy, p1, q', p3, p4⟩ := e3 _ _ x
      refine ⟨y, List.mem_append_left _ hy, p1, q', p3, ?_⟩
      rw [upd_ne (ne_of p4 e1 (by intro z; cases z))]
      exact sq _ _ p4
  · rw [valV_put]
    split
    · rfl
    · rename_i ne
      rcases List.mem_append.mp hx with hx | hx
      · exact e4 x hx
      · rw [List.mem_singleton] at hx
        subst hx
        exact absurd rfl ne
  · have no : ∀ z ∈ done, SD.sm ms z ≠ SD.sm ms (i, j) := fun z hz e => by
      have := e4 z hz
      rw [e, new] at this
      cases this
    rcases List.mem_append.mp hx with hx | hx <;> rcases List.mem_append.mp hy with hy | hy
    · exact e5 x hx y hy e
    · rw [List.mem_singleton] at hy
      rw [hy] at e
      exact absurd e (no x hx)
    · rw [List.mem_singleton] at hx
      rw [hx] at e
      exact absurd e.symm (no y hy)
    · rw [List.mem_singleton] at hx hy
      rw [hx, hy]
theorem at_ix {ms : List Int} {i : Nat} (h : i < ms.length) : atI (ms.map V.int) ((0 : Int) + (i : Int)) = some (.int (SD.ix ms i)) := by
  rw [Int.zero_add]
  refine atI_nat ?_
  rw [List.getElem?_map, List.getElem?_eq_getElem h]
  unfold SD.ix
  rw [List.getD_eq_getElem?_getD, List.getElem?_eq_getElem h]
  rfl
section
variable {P : Program} {w : World} {K : PySem.W.Frag} {mg : Str → Option Value} {base : Heap}
def spFirst (K : PySem.W.Frag) : Sp := fun vs H Q _ => ∃ (l : Addr) (ms : List Int), vs = [.ref l] ∧ SqL K H l (ms.map V.int) ∧ ms.length ≤ 64 ∧ (SD.Sid ms → ∀ H', Same H H' → Q .non H') ∧
  (∀ a b c d p q1 q2 H', SD.Two ms a b c d → Same H H' → H p = none → H' p = some (.tup [.ref q1, .ref q2]) → H' q1 = some (.tup [.int a, .int b]) → H' q2 = some (.tup [.int c, .int d]) → Q (.ref p) H')
theorem ok_first {f : Addr} {fd : FuncData} (T : Blt mg) (F : Fun K "first_same" "first_same" s_first_same f fd) : FnOk P w K mg base CX0 1 f fd ["marks"] (spFirst K) := by
  refine F.ok sc_first_same (fun vs H Q E h => ?_) (fun cdv A outer s H vs Q E hr h => ?_)
  · obtain ⟨l, ms, rfl, _⟩ := h
    rfl
  · obtain ⟨l, ms, rfl, hS, hl, qN, qT⟩ := h
    refine ⟨_, pss_cons (ps_set (i := 1) sc_first_same.nd rfl (by first | exact Or.inl rfl | exact Or.inr rfl) (pe_dnewK))
      (pss_cut (ps_for PassesOwn.never rfl (pi_r1 (by rfl) T.b_range (pa_cons (pe_callB (call_lenk (K := K)) (by rfl) T.b_len (by decide +kernel) (pa_cons (pv 0) pa_nil)) pa_nil)) (pg_name (i := 2) sc_first_same.nd rfl (by first | exact Or.inl rfl | exact Or.inr rfl)) (pss_one (ps_for PassesOwn.never rfl (pi_r1 (by rfl) T.b_range (pa_cons (pe_op op_add (pv 2) (pe_int)) pa_nil)) (pg_name (i := 3) sc_first_same.nd rfl (by first | exact Or.inl rfl | exact Or.inr rfl)) (pss_cons (ps_set (i := 4) sc_first_same.nd rfl (by first | exact Or.inl rfl | exact Or.inr rfl) (pe_op op_add (pe_ix (ix_listk (K := K)) (pv 0) (pv 3) (fun _ _ => rfl)) (pe_ix (ix_listk (K := K)) (pv 0) (pv 2) (fun _ _ => rfl))))
      (pss_cons (ps_if (pt_cmp (pc_din (hu_of hr) (pv 4) (pv 1))) (pss_one (ps_ret (pe_tup (pa_cons (pe_dget (hu_of hr) (pv 1) (pv 4) (fun _ _ => rfl)) (pa_cons (pe_tup (pa_cons (pv 3) (pa_cons (pv 2) pa_nil))) pa_nil))))) (pss_nil))
      (pss_one (ps_dput (hu_of hr) (pv 1) (pv 4) (pe_tup (pa_cons (pv 3) (pa_cons (pv 2) pa_nil))) rfl)))))))
      (pss_one (ps_ret (pe_non)))), ?_⟩
    walk_at "rd"
    intro d nd
    have s0 : Same H (upd H d (.dK [])) := same_new nd
    refine ⟨fun σ H' => Same H H' ∧ SD.Sid ms, ?_, fun σ H' ⟨s, sd⟩ => qN sd H' s⟩
    walk_at "rd"
    refine ⟨_, .inl (s0.seq hS), ?_⟩
    refine for_range (fun i σ H' => Same H H' ∧ FS ms H' d (SD.prs i) ∧ ∃ y2 y3 y4, σ = [some (.ref l), some (.ref d), y2, y3, y4])
      ⟨s0, ⟨[], upd_same, rfl, fun k v x => (by cases x), fun x hx => (by cases hx), fun x hx => (by cases hx)⟩, _, _, _, rfl⟩ ?_ (fun σ H' ⟨s, fs, _⟩ => ⟨s, ?_⟩)
    · rintro i σ H' hi ⟨s1, fs, y2, y3, y4, rfl⟩
      have hi' : i < ms.length := by rw [List.length_map] at hi; omega
      walk_at "rd"
      refine for_range (fun j σ H' => Same H H' ∧ FS ms H' d (SD.prs i ++ (List.range j).map fun o => (o, i)) ∧ ∃ y3 y4, σ = [some (.ref l), some (.ref d), some (.int (0 + (i : Int))), y3, y4])
        ⟨s1, by rw [List.range_zero, List.map_nil, List.append_nil]; exact fs, _, _, rfl⟩ ?_ (fun σ H' ⟨s, fs, y3, y4, e⟩ => ⟨s, ?_, _, _, _, e⟩)
      · rintro j σ H'' hj ⟨s2, fs, y3, y4, rfl⟩
        have hj' : j < i + 1 := by omega
        walk_at "rd"
        refine ⟨_, _, s2.seq hS, at_ix (by omega), _, _, s2.seq hS, at_ix hi', ?_⟩
        walk_at "rd"
        have fs' := fs
        obtain ⟨kvs, e1, e2, e3, e4, e5⟩ := fs
        have hsm : SD.ix ms j + SD.ix ms i = SD.sm ms (j, i) := rfl
        rw [hsm]
        have hlen : (SD.prs i ++ (List.range j).map fun o => (o, i)).length < 5000 := by
          rw [List.length_append, List.length_map, List.length_range]
          have := SD.length_prs_le i
          have : i * i ≤ 63 * 63 := Nat.mul_le_mul (by omega) (by omega)
          omega
        refine ⟨d, _, rfl, DGet.k (k := Sum.inl (SD.sm ms (j, i))) e1, ?_⟩
        cases hv : valV kvs (Sum.inl (SD.sm ms (j, i))) with
        | some v =>
          obtain ⟨x, hx, hk, q, rfl, hq⟩ := e3 _ _ hv
          refine iteT ⟨d, _, rfl, by have := DGet.k (k := Sum.inl (SD.sm ms (j, i))) e1; rw [hv] at this; exact this, by decide, fun q2 n2 => ⟨by decide, fun p np => ?_⟩⟩
          have m1 := same_new (o := .tup [V.int (0 + (j : Int)), V.int (0 + (i : Int))]) n2
          have m2 := same_new (o := .tup [V.ref q, V.ref q2]) np
          have hx' : x.1 ≤ x.2 ∧ x.2 < ms.length ∧ ¬ (x.1 = j ∧ x.2 = i) := by
            rcases List.mem_append.mp hx with h | h
            · have := SD.mem_prs.mp h
              exact ⟨this.1, by omega, by omega⟩
            · obtain ⟨o, ho, rfl⟩ := List.mem_map.mp h
              have := List.mem_range.mp ho
              exact ⟨by show o ≤ i; omega, hi', by show ¬ (o = j ∧ i = i); omega⟩
          refine qT x.1 x.2 (0 + (j : Int)) (0 + (i : Int)) p q q2 _ ?_ (s2.trans (m1.trans m2)) (s2.free (m1.free np)) upd_same (m2 _ _ (m1 _ _ hq)) (m2 _ _ upd_same)
          refine ⟨by omega, by omega, by omega, by omega, by omega, by omega, by omega, ?_⟩
          rw [show ((x.1 : Int)).toNat = x.1 by omega, show ((x.2 : Int)).toNat = x.2 by omega, show (0 + (j : Int)).toNat = j by omega, show (0 + (i : Int)).toNat = i by omega]
          exact hk
        | none =>
          refine iteF ⟨by decide, fun q nq => ?_⟩
          obtain ⟨H5, hput, fs5, hsame⟩ := fs'.put (q := q) (i := j) (j := i) nq hlen (fun kvs' e => by rw [e1] at e; cases e; exact hv)
          rw [Int.zero_add, Int.zero_add]
          refine ⟨d, H5, rfl, hput, hsame _ s2 nd, ?_, _, _, rfl⟩
          rw [List.range_succ, List.map_append, ← List.append_assoc]
          exact fs5
      · rw [show (0 + (i : Int) + 1).toNat = i + 1 by omega] at fs
        exact fs
    · obtain ⟨kvs, e1, e2, e3, e4, e5⟩ := fs
      rw [show ((ms.map V.int).length : Int).toNat = ms.length by rw [List.length_map]; omega] at e5
      exact e5
end
end Sa
local macro_rules | `(tactic| walk_at "rd") => `(tactic| ((try simp only [L2.start, L2.wipe, List.set_cons_succ, List.set_cons_zero, List.map_cons, List.map_nil, List.length_cons, List.length_nil, List.cons_append, List.nil_append, List.replicate_succ, List.replicate_zero, Nat.reduceSub, Nat.reduceAdd, Nat.zero_add]); try simp only [↓Sa.rd_seq, ↓Sa.rd_dput, ↓Sa.rd_dget1, ↓Sa.rd_dnew, ↓Sa.rd_din, ↓Sa.rd_dget, ↓Sa.rd_fld, ↓Sa.rd_sfld, ↓Sa.rd_meth, ↓Sa.rd_make, ↓Sa.rd_made, ↓Sa.rd_lenSet,  ↓Sa.rd_next, ↓Sa.rd_brk, ↓Sa.rd_asg, ↓Sa.rp_name, ↓Sa.rp_par, ↓Sa.rd_ret, ↓Sa.rd_retN, ↓Sa.rd_drop, ↓Sa.rd_if, ↓Sa.rp_var, ↓Sa.rd_c, ↓Sa.rd_op, ↓Sa.rd_un, ↓Sa.rd_I0, ↓Sa.rd_I, ↓Sa.rd_U, ↓Sa.rd_eqI, ↓Sa.rd_neI, ↓Sa.rd_test, ↓Sa.rd_B, ↓Sa.rd_and, ↓Sa.rd_or, ↓Sa.rd_not, ↓Sa.rd_andV, ↓Sa.rd_orV, ↓Sa.rd_notV, ↓Sa.rd_ifE, ↓Sa.rd_isN, ↓Sa.rd_notN, ↓Sa.rd_chain, ↓Sa.rd_chain3, ↓Sa.rd_nil, ↓Sa.rd_cons, ↓Sa.rd_tup, ↓Sa.rd_lst, ↓Sa.rd_call, ↓Sa.rd_CB, ↓Sa.rd_ixL, ↓Sa.rd_ixT, ↓Sa.rd_sl, ↓Sa.rd_noPart, ↓Sa.rd_part, ↓Sa.rd_slL, ↓Sa.rd_sum, ↓Sa.rd_all, ↓Sa.rd_any, ↓Sa.ex_int, ↓Sa.ex_int1, ↓Sa.ex_int2, ↓Sa.rd_len, ↓Sa.ex_len, ↓Sa.ex_bl, ↓Sa.ex_two, ↓Sa.slot_z, ↓Sa.slot_n, ↓Sa.setS_z, ↓Sa.setS_n, ↓Sa.if_tt, ↓Sa.if_ff, ↓Sa.if_dec, ↓Sa.if_ndec, ↓Sa.if_nb, ↓Sa.rd_forL, ↓Sa.rd_forT, ↓Sa.rd_forR1, ↓Sa.rd_forR2, ↓Sa.rd_forR3, ↓Sa.ex_ref, ↓Sa.cx_K, ↓List.append_nil, List.length_cons, List.length_nil, Nat.reduceAdd, Nat.zero_add]))
namespace Sa
open PySem PySem.Spec PyProof.Rows L2 Evl
section
variable {P : Program} {w : World} {K : PySem.W.Frag} {mg : Str → Option Value} {base : Heap}
def spShowsA (K : PySem.W.Frag) : Sp := fun vs H Q _ => ∃ (v : V) (l : Addr) (ms : List Int), vs = [v, .ref l] ∧ SqL K H l (ms.map V.int) ∧ ms.length ≤ 64 ∧ ∀ H', Same H H' → Q (.bl (decide (SD.Sid ms))) H'
theorem ok_shows_a {f f1 : Addr} {fd fd1 : FuncData} (T : Blt mg) (F : Fun K "shows" "Apart.shows" s_Apart_shows f fd) (D_first_same : DefAt K mg "first_same" "first_same" s_first_same ["marks"] f1 fd1) (G_first_same : FnOk P w K mg base CX0 1 f1 fd1 ["marks"] (spFirst K)) : FnOk P w K mg base CX0 2 f fd ["self", "marks"] (spShowsA K) := by
  refine F.ok sc_Apart_shows (fun vs H Q E h => ?_) (fun cdv A outer s H vs Q E hr h => ?_)
  · obtain ⟨v, l, ms, rfl, _⟩ := h
    rfl
  · obtain ⟨v, l, ms, rfl, hS, hl, q⟩ := h
    refine ⟨_, pss_one (ps_ret (pe_cmp (pc_isN (pe_call G_first_same (hr.mono (by decide)) (by rfl) D_first_same.g D_first_same.kp D_first_same.b .nil pass0 (pa_cons (pv 1) pa_nil))) rfl)), ?_⟩
    walk_at "rd"
    refine ⟨l, ms, rfl, hS, hl, fun sd H' s => ?_, fun a b c d p q1 q2 H' two s _ _ _ _ => ?_⟩
    · have := q H' s
      rw [decide_eq_true sd] at this
      exact this
    · have := q H' s
      rw [decide_eq_false two.not_sid] at this
      exact this
/-! ### Same -/
structure SameAt (K : PySem.W.Frag) (C : Addr) : Prop where
  cl : Cls K C
  n1 : NoAttr K C "one"
  n2 : NoAttr K C "other"
def spSameInit (K : PySem.W.Frag) (C : Addr) : Sp := fun vs H Q _ => ∃ (a dx : Addr) (v u : V), vs = [.ref a, v, u] ∧ H a = some (.ins C dx []) ∧ ∀ H', (∀ b, b ≠ a → H' b = H b) → H' a = some (.ins C dx [("one", v), ("other", u)]) → Q .non H'
theorem ok_same_init {f C : Addr} {fd : FuncData} (S : SameAt K C) (F : Fun K "__init__" "Same.__init__" s_Same_init f fd) : FnOk P w K mg base CX0 1 f fd ["self", "one", "other"] (spSameInit K C) := by
  refine F.ok sc_Same_init (fun vs H Q E h => ?_) (fun cdv A outer s H vs Q E hr h => ?_)
  · obtain ⟨a, dx, v, u, rfl, _⟩ := h
    rfl
  · obtain ⟨a, dx, v, u, rfl, hA, q⟩ := h
    refine ⟨_, pss_cons (ps_fld (pv 0) (pv 1) rfl)
      (pss_one (ps_fld (pv 0) (pv 2) rfl)), ?_⟩
    walk_at "rd"
    exact ⟨_, _, _, _, rfl, hA, S.cl, S.n1, by decide, _, _, _, _, rfl, upd_same, S.cl, S.n2, by show 1 < 1000; decide, q _ (fun b hb => by rw [upd_ne hb, upd_ne hb]) upd_same⟩
theorem make_same {C : Addr} {H : Hp} {Q : Addr → Hp → Prop} {E : XK} {v u : V} (k : ∀ x dx H2, H x = none → Same H H2 → H2 x = some (.ins C dx [("one", v), ("other", u)]) → Q x H2) :
    ∀ x dx, H x = none → H dx = none → dx ≠ x → spSameInit K C [.ref x, v, u] (upd (upd H dx (.own x)) x (.ins C dx [])) (fun v H2 => v = .non ∧ Q x H2) E := fun x dx nx nd ne =>
  ⟨x, dx, v, u, rfl, upd_same, fun H' h1 h2 => ⟨rfl, k x dx H' nx (fun b o e => by rw [h1 b (ne_of_none e nx), upd_ne (ne_of_none e nx), upd_ne (ne_of_none e nd)]; exact e) h2⟩⟩
def okP2 (n : Nat) : List Int → Bool
  | [a, b] => decide (0 ≤ a ∧ a ≤ b ∧ b < n)
  | _ => false
def sumP (ms : List Int) : List Int → Int
  | [a, b] => SD.ix ms a.toNat + SD.ix ms b.toNat
  | _ => 0
def goodB (ms xs ys : List Int) : Bool := !decide (xs = ys) && (okP2 ms.length xs && (okP2 ms.length ys && decide (sumP ms xs = sumP ms ys)))
theorem okP2_two {n : Nat} {xs : List Int} (h : okP2 n xs = true) : ∃ a b, xs = [a, b] ∧ 0 ≤ a ∧ a ≤ b ∧ b < n := by
  match xs, h with
  | [a, b], h => exact ⟨a, b, rfl, of_decide_eq_true h⟩
theorem at_ixI {ms : List Int} {i : Int} (h0 : 0 ≤ i) (h : i < ms.length) : atI (ms.map V.int) i = some (.int (SD.ix ms i.toNat)) := by
  have := at_ix (ms := ms) (i := i.toNat) (by omega)
  rwa [show (0 : Int) + (i.toNat : Int) = i by omega] at this
def spShowsS (K : PySem.W.Frag) (C : Addr) : Sp := fun vs H Q _ => ∃ (a dx p1 p2 l : Addr) (xs ys ms : List Int), vs = [.ref a, .ref l] ∧ H a = some (.ins C dx [("one", .ref p1), ("other", .ref p2)]) ∧ H p1 = some (.tup (xs.map V.int)) ∧ H p2 = some (.tup (ys.map V.int)) ∧
  SqL K H l (ms.map V.int) ∧ ∀ H', Same H H' → Q (.bl (goodB ms xs ys)) H'
theorem ok_shows_s {f C : Addr} {fd : FuncData} (T : Blt mg) (S : SameAt K C) (F : Fun K "shows" "Same.shows" s_Same_shows f fd) : FnOk P w K mg base CX0 1 f fd ["self", "marks"] (spShowsS K C) := by
  refine F.ok sc_Same_shows (fun vs H Q E h => ?_) (fun cdv A outer s H vs Q E hr h => ?_)
  · obtain ⟨a, dx, p1, p2, l, xs, ys, ms, rfl, _⟩ := h
    rfl
  · obtain ⟨a, dx, p1, p2, l, xs, ys, ms, rfl, hA, h1, h2, hS, q⟩ := h
    refine ⟨_, pss_cons (ps_if (pt_cmpR (op_eqDk (K := K) hr.units) (pe_fld (pv 0) rfl) (pe_fld (pv 0) rfl) (nomark _)) (pss_one (ps_ret (pe_bl))) (pss_nil))
      (pss_cut (ps_for PassesOwn.never rfl (pi_tup (pe_tup (pa_cons (pe_fld (pv 0) rfl) (pa_cons (pe_fld (pv 0) rfl) pa_nil)))) (pg_name (i := 2) sc_Same_shows.nd rfl (by first | exact Or.inl rfl | exact Or.inr rfl)) (pss_one (ps_if (PW.pt (pw_or (pt_cmpR op_ne (pe_callB (call_lenk (K := K)) (by rfl) T.b_len (by decide +kernel) (pa_cons (pv 2) pa_nil)) (pe_int) (nomark _)) (pw_or1 (pt_not (pt_chain3 op_le op_le op_lt (pe_int) (pe_ix (ix_tupk (K := K)) (pv 2) (pe_int) (fun _ _ => rfl)) (pe_ix (ix_tupk (K := K)) (pv 2) (pe_int) (fun _ _ => rfl)) (pe_callB (call_lenk (K := K)) (by rfl) T.b_len (by decide +kernel) (pa_cons (pv 1) pa_nil))))))) (pss_one (ps_ret (pe_bl))) (pss_nil))))
      (pss_one (ps_ret (pe_cmpR op_eq (pe_op op_add (pe_ix (ix_listk (K := K)) (pv 1) (pe_ix (ix_tupk (K := K)) (pe_fld (pv 0) rfl) (pe_int) (fun _ _ => rfl)) (fun _ _ => rfl)) (pe_ix (ix_listk (K := K)) (pv 1) (pe_ix (ix_tupk (K := K)) (pe_fld (pv 0) rfl) (pe_int) (fun _ _ => rfl)) (fun _ _ => rfl))) (pe_op op_add (pe_ix (ix_listk (K := K)) (pv 1) (pe_ix (ix_tupk (K := K)) (pe_fld (pv 0) rfl) (pe_int) (fun _ _ => rfl)) (fun _ _ => rfl)) (pe_ix (ix_listk (K := K)) (pv 1) (pe_ix (ix_tupk (K := K)) (pe_fld (pv 0) rfl) (pe_int) (fun _ _ => rfl)) (fun _ _ => rfl))) (nomark _))))), ?_⟩
    walk_at "rd"
    refine ⟨_, _, _, _, _, rfl, hA, S.cl, S.n1, rfl, _, _, _, _, _, rfl, hA, S.cl, S.n2, rfl, ?_⟩
    refine ⟨_, _, dp_tup (sqt_of h1), dp_tup (sqt_of h2), shaped_tup _, shaped_tup _, _, rfl, ?_⟩
    rw [eqv_tups]
    by_cases hxy : xs = ys
    · rw [decide_eq_true hxy]
      have := q H (Same.refl H)
      unfold goodB at this
      rw [decide_eq_true hxy] at this
      exact iteT this
    rw [decide_eq_false hxy]
    refine iteF ?_
    have bad : (okP2 ms.length xs = false ∨ okP2 ms.length ys = false) → goodB ms xs ys = false := fun h => by
      unfold goodB
      rcases h with h | h <;> simp [h]
    refine ⟨fun σ H' => Same H H' ∧ okP2 ms.length xs = true ∧ okP2 ms.length ys = true ∧ ∃ y2, σ = [some (.ref a), some (.ref l), y2], ?_, ?_⟩
    · walk_at "rd"
      refine ⟨_, _, _, _, _, rfl, hA, S.cl, S.n1, rfl, _, _, _, _, _, rfl, hA, S.cl, S.n2, rfl, by decide, fun p np => ⟨⟨_, sqt_of upd_same⟩, ?_⟩⟩
      have sp := same_new (o := .tup [V.ref p1, V.ref p2]) np
      refine for_tup (K := K) (a := p) (xs := [.ref p1, .ref p2]) (fun i σ H' => Same (upd H p (.tup [.ref p1, .ref p2])) H' ∧ (1 ≤ i → okP2 ms.length xs = true) ∧ (2 ≤ i → okP2 ms.length ys = true) ∧ ∃ y2, σ = [some (.ref a), some (.ref l), y2])
        ⟨Same.refl _, fun z => absurd z (by decide), fun z => absurd z (by decide), _, rfl⟩ (fun i σ H' _ ⟨s, _⟩ => sqt_of (s _ _ upd_same)) ?_ (fun σ H' ⟨s, a1, a2, e⟩ => ⟨sp.trans s, a1 (by show 1 ≤ 2; decide), a2 (by show 2 ≤ 2; decide), e⟩)
      rintro i x σ H' hi ⟨s1, a1, a2, y2, rfl⟩
      obtain ⟨pp, zs, rfl, hz, hbad, hgood⟩ : ∃ (pp : Addr) (zs : List Int), x = .ref pp ∧ H pp = some (.tup (zs.map V.int)) ∧ (okP2 ms.length zs = false → goodB ms xs ys = false) ∧ (okP2 ms.length zs = true → (1 ≤ i + 1 → okP2 ms.length xs = true) ∧ (2 ≤ i + 1 → okP2 ms.length ys = true)) := by
        match i, hi with
        | 0, hi =>
          cases hi
          exact ⟨p1, xs, rfl, h1, fun z => bad (.inl z), fun z => ⟨fun _ => z, fun z2 => absurd z2 (by decide)⟩⟩
        | 1, hi =>
          cases hi
          exact ⟨p2, ys, rfl, h2, fun z => bad (.inr z), fun z => ⟨fun _ => a1 (by decide), fun _ => z⟩⟩
        | n + 2, hi => simp at hi
      have s2 : Same H H' := sp.trans s1
      have hz' := s2 _ _ hz
      have qbad : okP2 ms.length zs = false → Q (.bl false) H' := fun z => by
        have := q H' s2
        rw [hbad z] at this
        exact this
      walk_at "rd"
      refine ⟨_, .inr (sqt_of hz'), ?_⟩
      match zs, hz', qbad, hgood with
      | [], hz', qbad, _ => exact ite2 (fun z => by simp at z) (fun _ => qbad rfl)
      | [c], hz', qbad, _ => exact ite2 (fun z => by simp at z) (fun _ => qbad rfl)
      | c :: c2 :: c3 :: r, hz', qbad, _ => exact ite2 (fun z => by simp at z; omega) (fun _ => qbad rfl)
      | [c1, c2], hz', qbad, hgood =>
        have e2 : okP2 ms.length [c1, c2] = decide (0 ≤ c1 ∧ c1 ≤ c2 ∧ c2 < ms.length) := rfl
        refine ite2 (fun _ => ?_) (fun z => absurd rfl z)
        refine ⟨_, _, sqt_of hz', atI_nat (j := 0) rfl, ?_⟩
        walk_at "rd"
        refine ite2 (fun k1 => ⟨_, _, sqt_of hz', atI_nat (j := 1) rfl, ?_⟩) (fun k1 => qbad (by rw [e2, decide_eq_false (fun z => k1 z.1)]))
        walk_at "rd"
        refine ite2 (fun k2 => ⟨_, .inl (s2.seq hS), ?_⟩) (fun k2 => qbad (by rw [e2, decide_eq_false (fun z => k2 z.2.1)]))
        walk_at "rd"
        have el : ((ms.map V.int).length : Int) = (ms.length : Int) := by rw [List.length_map]
        refine ite2 (fun k3 => ?_) (fun k3 => qbad (by rw [e2, decide_eq_false (fun z => k3 (by rw [el]; exact z.2.2))]))
        rw [el] at k3
        obtain ⟨b1, b2⟩ := hgood (by rw [e2, decide_eq_true ⟨k1, k2, k3⟩])
        exact ⟨s1, b1, b2, _, rfl⟩
    · rintro σ H' ⟨s1, a1, a2, y2, rfl⟩
      have hA' := s1 _ _ hA
      obtain ⟨c1, c2, rfl, c0, cc, cn⟩ := okP2_two a1
      obtain ⟨d1, d2, rfl, d0, dd, dn⟩ := okP2_two a2
      have qq := q H' s1
      rw [show goodB ms [c1, c2] [d1, d2] = decide (SD.ix ms c1.toNat + SD.ix ms c2.toNat = SD.ix ms d1.toNat + SD.ix ms d2.toNat) by
        unfold goodB
        rw [decide_eq_false hxy, a1, a2]
        rfl] at qq
      have aT : ∀ (zs : List Int) (pp : Addr) (i : Nat) (v : Int), H pp = some (.tup (zs.map V.int)) → zs[i]? = some v → ∃ v', SqT K H' pp (zs.map V.int) ∧ atI (zs.map V.int) (i : Int) = some v' ∧ v' = .int v := fun zs pp i v e ei =>
        ⟨_, sqt_of (s1 _ _ e), atI_nat (by rw [List.getElem?_map, ei]; rfl), rfl⟩
      walk_at "rd"
      refine ⟨_, _, _, _, _, rfl, hA', S.cl, S.n1, rfl, ?_⟩
      have fo : ∀ {R : V → Prop}, R (.ref p1) → ∃ a1 C1 dx1 fs v, V.ref a = V.ref a1 ∧ H' a1 = some (.ins C1 dx1 fs) ∧ Cls K C1 ∧ NoAttr K C1 (Str.ofString "one") ∧ List.lookup (Str.ofString "one") fs = some v ∧ R v := fun r => ⟨_, _, _, _, _, rfl, hA', S.cl, S.n1, rfl, r⟩
      have fp : ∀ {R : V → Prop}, R (.ref p2) → ∃ a1 C1 dx1 fs v, V.ref a = V.ref a1 ∧ H' a1 = some (.ins C1 dx1 fs) ∧ Cls K C1 ∧ NoAttr K C1 (Str.ofString "other") ∧ List.lookup (Str.ofString "other") fs = some v ∧ R v := fun r => ⟨_, _, _, _, _, rfl, hA', S.cl, S.n2, rfl, r⟩
      have hl := s1.seq hS
      have t1 := sqt_of (K := K) (s1 _ _ h1)
      have t2 := sqt_of (K := K) (s1 _ _ h2)
      refine ixT t1 (atI_nat (j := 0) rfl) (ixL hl (at_ixI c0 (by omega)) (fo (ixT t1 (atI_nat (j := 1) rfl) (ixL hl (at_ixI (by omega) cn) ?_))))
      walk_at "rd"
      refine fp (ixT t2 (atI_nat (j := 0) rfl) (ixL hl (at_ixI d0 (by omega)) (fp (ixT t2 (atI_nat (j := 1) rfl) (ixL hl (at_ixI (by omega) dn) ?_)))))
      walk_at "rd"
      exact qq
end
end Sa
local macro_rules | `(tactic| walk_at "rd") => `(tactic| ((try simp only [L2.start, L2.wipe, List.set_cons_succ, List.set_cons_zero, List.map_cons, List.map_nil, List.length_cons, List.length_nil, List.cons_append, List.nil_append, List.replicate_succ, List.replicate_zero, Nat.reduceSub, Nat.reduceAdd, Nat.zero_add]); try simp only [↓Sa.rd_seq, ↓Sa.rd_dput, ↓Sa.rd_dget1, ↓Sa.rd_dnew, ↓Sa.rd_din, ↓Sa.rd_dget, ↓Sa.rd_lenSet, ↓Sa.rd_lcR1, ↓Sa.rd_lcR2, ↓Sa.rd_lcL, ↓Sa.rd_lcT, ↓Sa.rd_bm,  ↓Sa.rd_next, ↓Sa.rd_brk, ↓Sa.rd_asg, ↓Sa.rp_name, ↓Sa.rp_par, ↓Sa.rd_ret, ↓Sa.rd_retN, ↓Sa.rd_drop, ↓Sa.rd_if, ↓Sa.rp_var, ↓Sa.rd_c, ↓Sa.rd_op, ↓Sa.rd_un, ↓Sa.rd_I0, ↓Sa.rd_I, ↓Sa.rd_U, ↓Sa.rd_eqI, ↓Sa.rd_neI, ↓Sa.rd_test, ↓Sa.rd_B, ↓Sa.rd_and, ↓Sa.rd_or, ↓Sa.rd_not, ↓Sa.rd_andV, ↓Sa.rd_orV, ↓Sa.rd_notV, ↓Sa.rd_ifE, ↓Sa.rd_isN, ↓Sa.rd_notN, ↓Sa.rd_chain, ↓Sa.rd_chain3, ↓Sa.rd_nil, ↓Sa.rd_cons, ↓Sa.rd_tup, ↓Sa.rd_lst, ↓Sa.rd_call, ↓Sa.rd_CB, ↓Sa.rd_ixL, ↓Sa.rd_ixT, ↓Sa.rd_sl, ↓Sa.rd_noPart, ↓Sa.rd_part, ↓Sa.rd_slL, ↓Sa.rd_sum, ↓Sa.rd_all, ↓Sa.rd_any, ↓Sa.ex_int, ↓Sa.ex_int1, ↓Sa.ex_int2, ↓Sa.rd_len, ↓Sa.ex_len, ↓Sa.ex_bl, ↓Sa.ex_two, ↓Sa.slot_z, ↓Sa.slot_n, ↓Sa.setS_z, ↓Sa.setS_n, ↓Sa.if_tt, ↓Sa.if_ff, ↓Sa.if_dec, ↓Sa.if_ndec, ↓Sa.if_nb, ↓Sa.rd_forL, ↓Sa.rd_forT, ↓Sa.rd_forR1, ↓Sa.rd_forR2, ↓Sa.rd_forR3, ↓Sa.ex_ref, ↓Sa.cx_K, ↓List.append_nil, List.length_cons, List.length_nil, Nat.reduceAdd, Nat.zero_add]))
namespace Sa
open PySem PySem.Spec PyProof.Rows L2 Evl
section
variable {P : Program} {w : World} {K : PySem.W.Frag} {mg : Str → Option Value} {base : Heap}
def spApart (K : PySem.W.Frag) : Sp := fun vs H Q _ => ∃ (l : Addr) (ms : List Int), vs = [.ref l] ∧ SqL K H l (ms.map V.int) ∧ ms.length ≤ 60 ∧ ∀ H', Same H H' → Q (.bl (decide (SD.Sid ms))) H'
theorem ok_apart {f : Addr} {fd : FuncData} (T : Blt mg) (F : Fun K "_law_apart" "_law_apart" s__law_apart f fd) : FnOk P w K mg base CX0 1 f fd ["_law_marks_here"] (spApart K) := by
  refine F.ok sc__law_apart (fun vs H Q E h => ?_) (fun cdv A outer s H vs Q E hr h => ?_)
  · obtain ⟨l, ms, rfl, _⟩ := h
    rfl
  · obtain ⟨l, ms, rfl, hS, hl, q⟩ := h
    refine ⟨_, pss_cons (ps_set (i := 1) sc__law_apart.nd rfl (by first | exact Or.inl rfl | exact Or.inr rfl) (pe_lst pa_nil))
      (pss_cut (ps_for PassesOwn.never rfl (pi_r1 (by rfl) T.b_range (pa_cons (pe_callB (call_lenk (K := K)) (by rfl) T.b_len (by decide +kernel) (pa_cons (pv 0) pa_nil)) pa_nil)) (pg_name (i := 2) sc__law_apart.nd rfl (by first | exact Or.inl rfl | exact Or.inr rfl)) (pss_one (ps_expr (pe_bm PySem.F.plainAttrs_list PySem.F.slot_list_extend PySem.F.type_list_extend mt_extend (pv 1) (pa_cons (pe_lc (own := [("_law_one", 3)]) (g := gName 3) (tt := tYes) (by rfl) sc__law_apart.nd (pi_r1 (by rfl) T.b_range (pa_cons (pe_op op_add (pv 2) (pe_int)) pa_nil)) (blkOk_by (own := [("_law_one", 3)]) (N := ["_law_marks_here", "_law_sums", "_law_other", "_law_one"]) (sc := defScope s__law_apart) (by decide +kernel)) (fun _ _ _ _ _ => pg_name (i := 3) sc__law_apart.nd rfl (by first | exact Or.inl rfl | exact Or.inr rfl)) (fun _ _ _ _ _ => pts_nil) (fun _ _ _ _ _ => pe_op op_add (pe_ix (ix_listk (K := K)) (pv 0) (pv 3) (fun _ _ => rfl)) (pe_ix (ix_listk (K := K)) (pv 0) (pv 2) (fun _ _ => rfl)))) pa_nil)))))
      (pss_one (ps_ret (pe_cmpR op_eq (pe_lenSet (K := K) (by rfl) T.b_len (by rfl) T.b_set (pv 1)) (pe_callB (call_lenk (K := K)) (by rfl) T.b_len (by decide +kernel) (pa_cons (pv 1) pa_nil)) (nomark _))))), ?_⟩
    walk_at "rd"
    refine ⟨by decide, fun p np => ?_⟩
    have s0 : Same H (upd H p (.lst [])) := same_new np
    refine ⟨fun σ H' => Same H H' ∧ H' p = some (.lst ((SD.sums ms).map V.int)) ∧ ∃ y2 y3, σ = [some (.ref l), some (.ref p), y2, y3], ?_, ?_⟩
    · walk_at "rd"
      refine ⟨_, .inl (s0.seq hS), ?_⟩
      refine for_range (fun i σ H' => Same H H' ∧ H' p = some (.lst (((SD.prs i).map (SD.sm ms)).map V.int)) ∧ ∃ y2 y3, σ = [some (.ref l), some (.ref p), y2, y3])
        ⟨s0, upd_same, _, _, rfl⟩ ?_ (fun σ H' ⟨s, e, z⟩ => ⟨s, by rw [e, List.length_map]; rfl, z⟩)
      rintro i σ H' hi ⟨s1, e1, y2, y3, rfl⟩
      have hi' : i < ms.length := by rw [List.length_map] at hi; omega
      walk_at "rd"
      refine ⟨ty_list (sq_of e1), lc_mapR (fun j => .int (SD.sm ms (j, i))) (fun _ => rfl) (by omega) ?_ ?_⟩
      · intro j H2 hj s2 Q' k
        walk_at "rd"
        have s12 := s1.trans s2
        refine ⟨_, _, s12.seq hS, at_ix (by omega), _, _, s12.seq hS, at_ix hi', ?_⟩
        walk_at "rd"
        exact k _ (Same.refl _)
      · intro D H2 hD s2 eD
        have e1' := s2 _ _ e1
        have hlen : (SD.prs i).length ≤ 60 * 60 := Nat.le_trans (SD.length_prs_le i) (Nat.mul_le_mul (by omega) (by omega))
        refine ⟨p, D, _, _, rfl, rfl, e1', eD, ?_, same_mut (s1.trans s2) np, ?_, _, _, rfl⟩
        · rw [List.length_map, List.length_map, List.length_map, List.length_range]
          exact Nat.le_trans (by omega) (show 5000 ≤ sizeLine by decide)
        · rw [upd_same, show (0 + (i : Int) + 1).toNat = i + 1 by omega]
          show _ = some (HO.lst (((SD.prs i ++ (List.range (i + 1)).map fun o => (o, i)).map (SD.sm ms)).map V.int))
          rw [List.map_append, List.map_append, List.map_map, List.map_map, List.map_map]
          rfl
    · rintro σ H' ⟨s1, e1, y2, y3, rfl⟩
      walk_at "rd"
      have hlen : (SD.sums ms).length ≤ 60 * 60 := by
        unfold SD.sums
        rw [List.length_map]
        exact Nat.le_trans (SD.length_prs_le _) (Nat.mul_le_mul (by omega) (by omega))
      refine ⟨p, SD.sums ms, rfl, sq_of e1, by omega, _, .inl (sq_of e1), ?_⟩
      have := q H' s1
      rw [List.length_map, show decide (((dedup (SD.sums ms)).length : Int) = ((SD.sums ms).length : Int)) = decide (SD.Sid ms) from decide_eq_decide.mpr ⟨fun h => SD.nodup_sums.mp (dedup_len.mp (by omega)), fun h => by rw [dedup_len.mpr (SD.nodup_sums.mpr h)]⟩]
      exact this
end
end Sa
local macro_rules | `(tactic| walk_at "rd") => `(tactic| ((try simp only [L2.start, L2.wipe, List.set_cons_succ, List.set_cons_zero, List.map_cons, List.map_nil, List.length_cons, List.length_nil, List.cons_append, List.nil_append, List.replicate_succ, List.replicate_zero, Nat.reduceSub, Nat.reduceAdd, Nat.zero_add]); try simp only [↓Sa.rd_seq, ↓Sa.rd_bm, ↓Sa.rd_forE,  ↓Sa.rd_next, ↓Sa.rd_brk, ↓Sa.rd_asg, ↓Sa.rp_name, ↓Sa.rp_par, ↓Sa.rd_ret, ↓Sa.rd_retN, ↓Sa.rd_drop, ↓Sa.rd_if, ↓Sa.rp_var, ↓Sa.rd_c, ↓Sa.rd_op, ↓Sa.rd_un, ↓Sa.rd_I0, ↓Sa.rd_I, ↓Sa.rd_U, ↓Sa.rd_eqI, ↓Sa.rd_neI, ↓Sa.rd_test, ↓Sa.rd_B, ↓Sa.rd_and, ↓Sa.rd_or, ↓Sa.rd_not, ↓Sa.rd_andV, ↓Sa.rd_orV, ↓Sa.rd_notV, ↓Sa.rd_ifE, ↓Sa.rd_isN, ↓Sa.rd_notN, ↓Sa.rd_chain, ↓Sa.rd_chain3, ↓Sa.rd_nil, ↓Sa.rd_cons, ↓Sa.rd_tup, ↓Sa.rd_lst, ↓Sa.rd_call, ↓Sa.rd_CB, ↓Sa.rd_ixL, ↓Sa.rd_ixT, ↓Sa.rd_sl, ↓Sa.rd_noPart, ↓Sa.rd_part, ↓Sa.rd_slL, ↓Sa.rd_sum, ↓Sa.rd_all, ↓Sa.rd_any, ↓Sa.ex_int, ↓Sa.ex_int1, ↓Sa.ex_int2, ↓Sa.rd_len, ↓Sa.ex_len, ↓Sa.ex_bl, ↓Sa.ex_two, ↓Sa.slot_z, ↓Sa.slot_n, ↓Sa.setS_z, ↓Sa.setS_n, ↓Sa.if_tt, ↓Sa.if_ff, ↓Sa.if_dec, ↓Sa.if_ndec, ↓Sa.if_nb, ↓Sa.rd_forL, ↓Sa.rd_forT, ↓Sa.rd_forR1, ↓Sa.rd_forR2, ↓Sa.rd_forR3, ↓Sa.ex_ref, ↓Sa.cx_K, ↓List.append_nil, List.length_cons, List.length_nil, Nat.reduceAdd, Nat.zero_add]))
namespace Sa
open PySem PySem.Spec PyProof.Rows L2 Evl
section
variable {P : Program} {w : World} {K : PySem.W.Frag} {mg : Str → Option Value} {base : Heap}
def spMarks (K : PySem.W.Frag) : Sp := fun vs H Q _ => ∃ (l : Addr) (ns : List Int), vs = [.ref l] ∧ SqL K H l (ns.map V.int) ∧ (∀ z ∈ ns, B 1048577 z) ∧
  ∀ (ms : List Int) (b : Addr) (H' : Hp), ms.Pairwise (· < ·) → ms.length ≤ 40 → (∀ z ∈ ms, B 200 z) → Same H H' → H b = none → H' b = some (.lst (ms.map V.int)) → Q (.ref b) H'
theorem ok_marks {f f1 : Addr} {fd fd1 : FuncData} (T : Blt mg) (F : Fun K "_law_marks" "_law_marks" s__law_marks f fd)
    (D__law_number : DefAt K mg "_law_number" "_law_number" s__law_number ["_law_cell", "_law_at", "_law_whole_here"] f1 fd1) (G__law_number : FnOk P w K mg base CX0 1 f1 fd1 ["_law_cell", "_law_at", "_law_whole_here"] spNumber) : FnOk P w K mg base CX0 2 f fd ["_law_script"] (spMarks K) := by
  refine F.ok sc__law_marks (fun vs H Q E h => ?_) (fun cdv A outer s H vs Q E hr h => ?_)
  · obtain ⟨l, ns, rfl, _⟩ := h
    rfl
  · obtain ⟨l, ns, rfl, hS, hb, q⟩ := h
    refine ⟨_, pss_cons (ps_set (i := 1) sc__law_marks.nd rfl (by first | exact Or.inl rfl | exact Or.inr rfl) (pe_ifExp (pt_cmpR (op_neDk (K := K) hr.units) (pv 0) (pe_lst pa_nil) (nomark _)) (pe_slice (sl_listk (K := K)) (pv 0) po_none (po_some (pe_int))) (pe_lst (pa_cons (pe_int) pa_nil))))
      (pss_cons (ps_set (i := 2) sc__law_marks.nd rfl (by first | exact Or.inl rfl | exact Or.inr rfl) (pe_callB (cr_sumk (K := K) rfl) (by rfl) T.b_sum (by decide +kernel) (pa_cons (pv 1) pa_nil)))
      (pss_cons (ps_set (i := 3) sc__law_marks.nd rfl (by first | exact Or.inl rfl | exact Or.inr rfl) (pe_op op_mod (pv 2) (pe_int)))
      (pss_cut (ps_if (pt_cmpR op_eq (pv 3) (pe_int) (nomark _)) (pss_cons (ps_set (i := 4) sc__law_marks.nd rfl (by first | exact Or.inl rfl | exact Or.inr rfl) (pe_ix (ix_tupk (K := K)) (pe_tup (pa_cons (pe_int) (pa_cons (pe_int) (pa_cons (pe_int) (pa_cons (pe_int) pa_nil))))) (pe_op op_mod (pe_op op_fdiv (pv 2) (pe_int)) (pe_int)) (fun _ _ => rfl)))
      (pss_cons (ps_set (i := 5) sc__law_marks.nd rfl (by first | exact Or.inl rfl | exact Or.inr rfl) (pe_lst pa_nil))
      (pss_one (ps_for PassesOwn.never rfl (pi_enumk (K := K) (by rfl) T.b_enumerate (pa_cons (pe_slice (sl_listk (K := K)) (pv 1) po_none (po_some (pe_int))) pa_nil)) (pg_tup rfl (pgs_cons (pg_name (i := 6) sc__law_marks.nd rfl (by first | exact Or.inl rfl | exact Or.inr rfl)) (pgs_cons (pg_name (i := 7) sc__law_marks.nd rfl (by first | exact Or.inl rfl | exact Or.inr rfl)) pgs_nil))) (pss_one (ps_if (pt_cmpR op_gt (pe_op op_mod (pe_call G__law_number (hr.mono (by decide)) (by rfl) D__law_number.g D__law_number.kp D__law_number.b .nil pass0 (pa_cons (pv 7) (pa_cons (pv 6) (pa_cons (pv 2) pa_nil)))) (pe_int)) (pe_int) (nomark _)) (pss_one (ps_expr (pe_bm PySem.F.plainAttrs_list PySem.F.slot_list_append PySem.F.type_list_append mt_append (pv 5) (pa_cons (pe_op op_add (pe_op op_mulB (pe_op op_mulB (pe_int) (pv 4)) (pv 6)) (pe_op op_mod (pe_op op_mulB (pv 6) (pv 6)) (pv 4))) pa_nil)))) (pss_nil))))))) (pss_cons (ps_set (i := 8) sc__law_marks.nd rfl (by first | exact Or.inl rfl | exact Or.inr rfl) (pe_ix (ix_tupk (K := K)) (pe_tup (pa_cons (pe_int) (pa_cons (pe_int) (pa_cons (pe_int) (pa_cons (pe_op op_pow (pe_int) (pe_int)) pa_nil))))) (pe_op op_sub (pe_op op_add (pv 3) (pe_op op_mod (pe_op op_fdiv (pv 2) (pe_int)) (pe_int))) (pe_int)) (fun _ _ => rfl)))
      (pss_cons (ps_set (i := 9) sc__law_marks.nd rfl (by first | exact Or.inl rfl | exact Or.inr rfl) (pe_ix (ix_tupk (K := K)) (pe_tup (pa_cons (pe_int) (pa_cons (pe_un un_neg (pe_int)) (pa_cons (pe_op op_pow (pe_int) (pe_int)) (pa_cons (pe_un un_neg (pe_op op_pow (pe_int) (pe_int))) pa_nil))))) (pe_op op_mod (pe_op op_fdiv (pv 2) (pe_int)) (pe_int)) (fun _ _ => rfl)))
      (pss_cons (ps_set (i := 5) sc__law_marks.nd rfl (by first | exact Or.inl rfl | exact Or.inr rfl) (pe_lst pa_nil))
      (pss_one (ps_for PassesOwn.never rfl (pi_enumk (K := K) (by rfl) T.b_enumerate (pa_cons (pe_slice (sl_listk (K := K)) (pv 1) po_none (po_some (pe_ix (ix_tupk (K := K)) (pe_tup (pa_cons (pe_int) (pa_cons (pe_int) (pa_cons (pe_int) pa_nil)))) (pe_op op_mod (pe_op op_fdiv (pv 2) (pe_int)) (pe_int)) (fun _ _ => rfl)))) pa_nil)) (pg_tup rfl (pgs_cons (pg_name (i := 6) sc__law_marks.nd rfl (by first | exact Or.inl rfl | exact Or.inr rfl)) (pgs_cons (pg_name (i := 7) sc__law_marks.nd rfl (by first | exact Or.inl rfl | exact Or.inr rfl)) pgs_nil))) (pss_cons (ps_set (i := 9) sc__law_marks.nd rfl (by first | exact Or.inl rfl | exact Or.inr rfl) (pe_op op_add (pe_op op_add (pv 9) (pe_int)) (pe_op op_mod (pe_op op_fdiv (pe_call G__law_number (hr.mono (by decide)) (by rfl) D__law_number.g D__law_number.kp D__law_number.b .nil pass0 (pa_cons (pv 7) (pa_cons (pv 6) (pa_cons (pv 2) pa_nil)))) (pe_int)) (pv 8))))
      (pss_one (ps_expr (pe_bm PySem.F.plainAttrs_list PySem.F.slot_list_append PySem.F.type_list_append mt_append (pv 5) (pa_cons (pv 9) pa_nil)))))))))))
      (pss_cut (ps_if (PW.pt (pw_and (pt_cmpR op_eq (pe_op op_mod (pe_op op_fdiv (pv 2) (pe_int)) (pe_int)) (pe_int) (nomark _)) (pw_and1 (pt_cmpR op_gt (pe_callB (call_lenk (K := K)) (by rfl) T.b_len (by decide +kernel) (pa_cons (pv 5) pa_nil)) (pe_int) (nomark _))))) (pss_cons (ps_set (i := 6) sc__law_marks.nd rfl (by first | exact Or.inl rfl | exact Or.inr rfl) (pe_op op_mod (pe_op op_fdiv (pv 2) (pe_int)) (pe_callB (call_lenk (K := K)) (by rfl) T.b_len (by decide +kernel) (pa_cons (pv 5) pa_nil))))
      (pss_one (ps_asg (pe_op op_sub (pe_op op_add (pe_ix (ix_listk (K := K)) (pv 5) (pv 6) (fun _ _ => rfl)) (pe_int)) (pe_op op_mod (pe_op op_fdiv (pv 2) (pe_int)) (pe_int))) (pg_sub (pv 5) (pv 6) set_list)))) (pss_nil))
      (pss_one (ps_ret (pe_sortSet (K := K) (by rfl) T.b_sorted (by rfl) T.b_set (pv 5)))))))), ?_⟩
    refine cells_ok (n := 40) (c := 2) rfl hS fun H1 p1 s1 np ep => ?_
    have hc0 := cells_pos (ns := ns) (c := 2) (show 0 < 40 by decide)
    have hc1 := cells_len (ns := ns) (c := 2) (show 0 < 40 by decide)
    have hcm := cells_mem (n := 40) hb ((B.small (x := 2) (by decide)).mono (show 62 ≤ 1048577 by decide))
    obtain ⟨cs, ecs⟩ : ∃ cs, cs = cellsOf 40 ns 2 := ⟨_, rfl⟩
    rw [← ecs] at ep hc0 hc1 hcm
    have hw := sum_bits hcm
    walk_at "rd"
    refine ⟨cs, sq_of ep, ?_⟩
    obtain ⟨wh, ewh⟩ : ∃ wh, wh = cs.sum := ⟨_, rfl⟩
    rw [← ewh] at hw ⊢
    have hw2 : B 1048640 wh := hw.mono (by omega)
    refine ⟨by decide, fun σ H' => Same H H' ∧ ∃ (fs : List Int) (f : Addr) (y4 y6 y7 y8 y9 : Option V), σ = [some (.ref l), some (.ref p1), some (.int wh), some (.int (wh % 4)), y4, some (.ref f), y6, y7, y8, y9] ∧ H f = none ∧ H' f = some (.lst (fs.map V.int)) ∧ fs.length ≤ 40 ∧ ∀ z ∈ fs, B 190 z, ?_, ?_⟩
    · walk_at "rd"
      refine ite2 (fun hk => ?_) (fun hk => ?_)
      · refine ⟨by decide, fun a1 n1 => ⟨⟨by decide, by decide⟩, by decide, ?_⟩⟩
        obtain ⟨pr, hpr, epr⟩ := at_lt (xs := [31, 37, 41, 43]) (i := wh / 4 % 4) (by omega) (by show wh / 4 % 4 < 4; omega)
        have hprb : 31 ≤ pr ∧ pr ≤ 43 := by
          simp only [List.mem_cons, List.not_mem_nil, or_false] at hpr
          rcases hpr with rfl | rfl | rfl | rfl <;> omega
        refine ⟨_, .int pr, sqt_of (xs := [31, 37, 41, 43].map V.int) upd_same, epr, by decide, fun f nf => ?_⟩
        have m1 := s1.trans (same_new (o := .tup [V.int 31, V.int 37, V.int 41, V.int 43]) n1)
        have nfH : H f = none := m1.free nf
        have m2 := same_new (o := .lst []) nf
        have ep2 := m2 _ _ (same_new (o := .tup [V.int 31, V.int 37, V.int 41, V.int 43]) n1 _ _ ep)
        refine ⟨_, sq_of ep2, fun c nc => ⟨_, sq_of upd_same, ?_⟩⟩
        have m3 := same_new (o := .lst (cutV (cs.map V.int) none (some 31))) nc
        have hcf : c ≠ f := fun e => by rw [e, upd_same] at nc; cases nc
        have ecut : cutV (cs.map V.int) none (some 31) = (cs.take 31).map V.int := by
          rw [show (31 : Int) = ((31 : Nat) : Int) from rfl, cut_take, List.map_take]
        rw [ecut] at m3 ⊢
        refine for_enum (K := K) (a := c) (xs := (cs.take 31).map V.int) (fun i σ H' => Same H H' ∧ H' c = some (.lst ((cs.take 31).map V.int)) ∧ ∃ (fs : List Int) (y6 y7 : Option V), σ = [some (.ref l), some (.ref p1), some (.int wh), some (.int (wh % 4)), some (.int pr), some (.ref f), y6, y7, none, none] ∧ H' f = some (.lst (fs.map V.int)) ∧ fs.length ≤ i ∧ ∀ z ∈ fs, B 190 z)
          ⟨m1.trans (m2.trans m3), upd_same, [], _, _, rfl, m3 _ _ upd_same, Nat.le_refl _, fun z hz => (by cases hz)⟩ (fun i σ H' _ ⟨_, e, _⟩ => sq_of e) ?_ (fun σ H' ⟨s, _, fs, y6, y7, e, ef, lf, bf⟩ => ⟨s, fs, f, _, _, _, _, _, e, nfH, ef, Nat.le_trans lf (by rw [List.length_map, List.length_take]; omega), bf⟩)
        rintro i x T σ H' hx ⟨s, ec, fs, y6, y7, rfl, ef, lf, bf⟩ nT
        obtain ⟨z, hz, rfl⟩ := map_at hx
        have hz' := hcm z (List.mem_of_mem_take hz)
        have hi : i < 31 := by
          have := (List.getElem?_eq_some_iff.mp hx).1
          rw [List.length_map, List.length_take] at this
          omega
        have mT := same_new (o := .tup [V.int (i : Nat), V.int z]) nT
        refine ⟨T, _, rfl, sqt_of upd_same, rfl, _, _, rfl, _, _, rfl, rfl, ?_⟩
        walk_at "rd"
        refine ⟨z, i, wh, 1048640, rfl, hz'.mono (by decide), hw2, by omega, by omega, by decide, fun num hnum => ?_⟩
        walk_at "rd"
        have ef' := mT _ _ ef
        refine ⟨by decide, ite2 (fun _ => ⟨ty_list (sq_of ef'), mulB_small (by omega) (by omega), mulB_small (by omega) (by omega), mulB_small (by omega) (by omega), by omega, ?_⟩) (fun _ => ⟨s.trans mT, mT _ _ ec, fs, _, _, rfl, ef', by omega, bf⟩)⟩
        have h1 : pr * (i : Int) ≤ 43 * 31 := Int.mul_le_mul (by omega) (by omega) (by omega) (by omega)
        have h0 : 0 ≤ pr * (i : Int) := Int.mul_nonneg (by omega) (by omega)
        have h2 : 2 * pr * (i : Int) = 2 * (pr * i) := Int.mul_assoc 2 pr i
        have h3 := mod_b (a := (i : Int) * i) (show 0 < pr by omega)
        refine ⟨f, _, _, rfl, rfl, ef', ?_, same_mut (s.trans mT) nfH, by rw [upd_ne hcf]; exact mT _ _ ec, fs ++ [2 * pr * i + (i : Int) * i % pr], _, _, rfl, by rw [upd_same, List.map_append]; rfl, ?_, fun w hw => ?_⟩
        · rw [List.length_map]
          exact Nat.lt_of_lt_of_le (by omega) (show 100 ≤ sizeLine by decide)
        · rw [List.length_append, List.length_singleton]
          omega
        · rcases List.mem_append.mp hw with hw | hw
          · exact bf w hw
          · rw [List.mem_singleton] at hw
            rw [hw]
            exact (B.small (by omega)).mono (by decide)
      · refine ⟨⟨by decide, by decide, by decide⟩, by decide, fun a1 n1 => ⟨⟨by decide, by decide⟩, by decide, ?_⟩⟩
        obtain ⟨wd, hwd, ewd⟩ := at_lt (xs := [1, 6, 400, 10 ^ Int.toNat 30]) (i := wh % 4 + wh / 16 % 2 - 1) (by omega) (by show _ < 4; omega)
        have hwdb : 1 ≤ wd ∧ wd ≤ 10 ^ 30 := by
          simp only [List.mem_cons, List.not_mem_nil, or_false] at hwd
          rcases hwd with rfl | rfl | rfl | rfl <;> decide
        refine ⟨_, .int wd, sqt_of (xs := [1, 6, 400, 10 ^ Int.toNat 30].map V.int) upd_same, ewd, ⟨by decide, by decide, by decide⟩, ⟨by decide, by decide, by decide⟩, by decide, fun a2 n2 => ⟨⟨by decide, by decide⟩, by decide, ?_⟩⟩
        obtain ⟨la, hla, ela⟩ := at_lt (xs := [0, -50, 10 ^ Int.toNat 20, -10 ^ Int.toNat 25]) (i := wh / 32 % 4) (by omega) (by show wh / 32 % 4 < 4; omega)
        have hlab : -(10 ^ 25) ≤ la ∧ la ≤ 10 ^ 25 := by
          simp only [List.mem_cons, List.not_mem_nil, or_false] at hla
          rcases hla with rfl | rfl | rfl | rfl <;> decide
        refine ⟨_, .int la, sqt_of (xs := [0, -50, 10 ^ Int.toNat 20, -10 ^ Int.toNat 25].map V.int) upd_same, ela, by decide, fun f nf => ⟨by decide, fun a3 n3 => ⟨⟨by decide, by decide⟩, by decide, ?_⟩⟩⟩
        obtain ⟨ct, hct, ect⟩ := at_lt (xs := [40, 12, 5]) (i := wh / 128 % 3) (by omega) (by show wh / 128 % 3 < 3; omega)
        obtain ⟨cn, rfl⟩ : ∃ cn : Nat, ct = (cn : Int) := by
          simp only [List.mem_cons, List.not_mem_nil, or_false] at hct
          rcases hct with rfl | rfl | rfl <;> exact ⟨_, rfl⟩
        refine ⟨_, .int cn, sqt_of (xs := [40, 12, 5].map V.int) upd_same, ect, _, rfl, ?_⟩
        obtain ⟨t1, e1⟩ : ∃ t, t = upd H1 a1 (.tup [.int 1, .int 6, .int 400, .int (10 ^ Int.toNat 30)]) := ⟨_, rfl⟩
        rw [← e1] at n2 nf n3 ⊢
        have m1 : Same H1 t1 := e1 ▸ same_new n1
        obtain ⟨t2, e2⟩ : ∃ t, t = upd t1 a2 (.tup [.int 0, .int (-50), .int (10 ^ Int.toNat 20), .int (-10 ^ Int.toNat 25)]) := ⟨_, rfl⟩
        rw [← e2] at nf n3 ⊢
        have m2 : Same t1 t2 := e2 ▸ same_new n2
        have nfH : H f = none := (s1.trans (m1.trans m2)).free nf
        obtain ⟨t3, e3⟩ : ∃ t, t = upd t2 f (.lst []) := ⟨_, rfl⟩
        rw [← e3] at n3 ⊢
        have m3 : Same t2 t3 := e3 ▸ same_new nf
        have k3 : t3 f = some (.lst []) := e3 ▸ upd_same
        obtain ⟨t4, e4⟩ : ∃ t, t = upd t3 a3 (.tup [.int 40, .int 12, .int 5]) := ⟨_, rfl⟩
        rw [← e4]
        have m4 : Same t3 t4 := e4 ▸ same_new n3
        have m14 : Same H1 t4 := m1.trans (m2.trans (m3.trans m4))
        refine ⟨_, sq_of (m14 _ _ ep), fun c nc => ⟨_, sq_of upd_same, ?_⟩⟩
        have hcf : c ≠ f := fun e => by rw [e, m4 _ _ k3] at nc; cases nc
        have m5 := same_new (o := .lst (cutV (cs.map V.int) none (some (cn : Int)))) nc
        have ecut : cutV (cs.map V.int) none (some (cn : Int)) = (cs.take cn).map V.int := by
          rw [cut_take, List.map_take]
        rw [ecut] at m5 ⊢
        refine for_enum (K := K) (a := c) (xs := (cs.take cn).map V.int) (fun i σ H' => Same H H' ∧ H' c = some (.lst ((cs.take cn).map V.int)) ∧ ∃ (fs : List Int) (y6 y7 : Option V) (la' : Int), σ = [some (.ref l), some (.ref p1), some (.int wh), some (.int (wh % 4)), none, some (.ref f), y6, y7, some (.int wd), some (.int la')] ∧ H' f = some (.lst (fs.map V.int)) ∧ fs.length ≤ i ∧ (∀ z ∈ fs, B 190 z) ∧ -(10 ^ 25) ≤ la' ∧ la' ≤ 10 ^ 25 + i * (10 ^ 30 + 1))
          ⟨s1.trans (m14.trans m5), upd_same, [], _, _, la, rfl, m5 _ _ (m4 _ _ k3), Nat.le_refl _, fun z hz => (by cases hz), hlab.1, by omega⟩ (fun i σ H' _ ⟨_, e, _⟩ => sq_of e) ?_ (fun σ H' ⟨s, _, fs, y6, y7, la', e, ef, lf, bf, _⟩ => ⟨s, fs, f, _, _, _, _, _, e, nfH, ef, Nat.le_trans lf (by rw [List.length_map, List.length_take]; omega), bf⟩)
        rintro i x T σ H' hx ⟨s, ec, fs, y6, y7, la', rfl, ef, lf, bf, l0, l1⟩ nT
        obtain ⟨z, hz, rfl⟩ := map_at hx
        have hz' := hcm z (List.mem_of_mem_take hz)
        have hi : i < 40 := by
          have := (List.getElem?_eq_some_iff.mp hx).1
          rw [List.length_map, List.length_take] at this
          omega
        have mT := same_new (o := .tup [V.int (i : Nat), V.int z]) nT
        refine ⟨T, _, rfl, sqt_of upd_same, rfl, _, _, rfl, _, _, rfl, rfl, ?_⟩
        walk_at "rd"
        refine ⟨z, i, wh, 1048640, rfl, hz'.mono (by decide), hw2, by omega, by omega, by decide, fun num hnum => ?_⟩
        walk_at "rd"
        have ef' := mT _ _ ef
        have hmd := mod_b (a := num / 5) (show 0 < wd by omega)
        refine ⟨⟨by decide, by decide⟩, by omega, ty_list (sq_of ef'), ?_⟩
        obtain ⟨nw, enw⟩ : ∃ nw, nw = la' + 1 + num / 5 % wd := ⟨_, rfl⟩
        rw [← enw]
        have hnw : -(10 ^ 25) ≤ nw ∧ nw ≤ 10 ^ 25 + ((i + 1 : Nat) : Int) * (10 ^ 30 + 1) := by
          constructor <;> omega
        refine ⟨f, _, _, rfl, rfl, ef', ?_, same_mut (s.trans mT) nfH, by rw [upd_ne hcf]; exact mT _ _ ec, fs ++ [nw], _, _, nw, rfl, by rw [upd_same, List.map_append]; rfl, ?_, fun w hw => ?_, hnw.1, hnw.2⟩
        · rw [List.length_map]
          exact Nat.lt_of_lt_of_le (by omega) (show 100 ≤ sizeLine by decide)
        · rw [List.length_append, List.length_singleton]
          omega
        · rcases List.mem_append.mp hw with hw | hw
          · exact bf w hw
          · rw [List.mem_singleton] at hw
            rw [hw]
            have h4 : nw.natAbs < 2 ^ 120 := by omega
            exact B.mono (m := 120) h4 (by decide)
    · rintro σ H' ⟨s2, fs, f, y4, y6, y7, y8, y9, rfl, nf, ef, lf, bf⟩
      refine ⟨fun σ H' => Same H H' ∧ ∃ (fs : List Int) (y4 y6 y7 y8 y9 : Option V), σ = [some (.ref l), some (.ref p1), some (.int wh), some (.int (wh % 4)), y4, some (.ref f), y6, y7, y8, y9] ∧ H' f = some (.lst (fs.map V.int)) ∧ fs.length ≤ 40 ∧ ∀ z ∈ fs, B 200 z, ?_, ?_⟩
      · walk_at "rd"
        have keep : ∀ z ∈ fs, B 200 z := fun z hz => (bf z hz).mono (by decide)
        refine ⟨⟨by decide, by decide⟩, by decide, ite2 (fun _ => ⟨_, .inl (sq_of ef), ite2 (fun h2 => ⟨⟨by decide, by decide⟩, _, .inl (sq_of ef), by omega, ?_⟩) (fun _ => ⟨s2, fs, _, _, _, _, _, rfl, ef, lf, keep⟩)⟩) (fun _ => ⟨s2, fs, _, _, _, _, _, rfl, ef, lf, keep⟩)⟩
        rw [List.length_map] at h2 ⊢
        obtain ⟨j, ej⟩ : ∃ j : Nat, wh / 12 % (fs.length : Int) = (j : Int) := ⟨_, (Int.toNat_of_nonneg (Int.emod_nonneg _ (by omega))).symm⟩
        have hj : j < fs.length := by
          have := Int.emod_lt_of_pos (wh / 12) (show 0 < (fs.length : Int) by omega)
          omega
        rw [ej]
        refine ⟨_, .int fs[j], sq_of ef, atI_nat (by rw [List.getElem?_map, List.getElem?_eq_getElem hj]; rfl), ?_⟩
        walk_at "rd"
        refine ⟨⟨by decide, by decide⟩, by decide, _, rfl, _, rfl, f, _, _, j, rfl, rfl, ef, ?_, same_mut s2 nf, fs.set j (fs[j] + 1 - wh / 100 % 3), _, _, _, _, _, rfl, by rw [upd_same, List.map_set], by rw [List.length_set]; exact lf, fun z hz => ?_⟩
        · rw [List.length_map]
          exact ixN_nat hj
        · rcases List.mem_or_eq_of_mem_set hz with hz | hz
          · exact keep z hz
          · rw [hz]
            exact B.mono (m := 192) (((bf _ (List.getElem_mem hj)).add ((B.small (x := 1) (by decide)).mono (by decide))).sub ((B.small (x := wh / 100 % 3) (by omega)).mono (by decide))) (by decide)
      · rintro σ H' ⟨s3, fs, y4, y6, y7, y8, y9, rfl, ef, lf, bf⟩
        refine ⟨_, rfl, f, fs, rfl, sq_of ef, by omega, fun ms b pw hm hl nb => q ms b _ pw (by omega) (fun z hz => bf z ((hm z).mp hz)) (s3.trans (same_new nb)) (s3.free nb) upd_same⟩
end
end Sa
local macro_rules | `(tactic| walk_at "rd") => `(tactic| ((try simp only [L2.start, L2.wipe, List.set_cons_succ, List.set_cons_zero, List.map_cons, List.map_nil, List.length_cons, List.length_nil, List.cons_append, List.nil_append, List.replicate_succ, List.replicate_zero, Nat.reduceSub, Nat.reduceAdd, Nat.zero_add]); try simp only [↓Sa.rd_seq, ↓Sa.rd_dput, ↓Sa.rd_dget1, ↓Sa.rd_dnew, ↓Sa.rd_din, ↓Sa.rd_dget, ↓Sa.rd_fld, ↓Sa.rd_sfld, ↓Sa.rd_meth, ↓Sa.rd_make, ↓Sa.rd_made, ↓Sa.rd_lenSet, ↓Sa.rd_bm, ↓Sa.rd_forE, ↓Sa.rd_lcL,  ↓Sa.rd_next, ↓Sa.rd_brk, ↓Sa.rd_asg, ↓Sa.rp_name, ↓Sa.rp_par, ↓Sa.rd_ret, ↓Sa.rd_retN, ↓Sa.rd_drop, ↓Sa.rd_if, ↓Sa.rp_var, ↓Sa.rd_c, ↓Sa.rd_op, ↓Sa.rd_un, ↓Sa.rd_I0, ↓Sa.rd_I, ↓Sa.rd_U, ↓Sa.rd_eqI, ↓Sa.rd_neI, ↓Sa.rd_test, ↓Sa.rd_B, ↓Sa.rd_and, ↓Sa.rd_or, ↓Sa.rd_not, ↓Sa.rd_andV, ↓Sa.rd_orV, ↓Sa.rd_notV, ↓Sa.rd_ifE, ↓Sa.rd_isN, ↓Sa.rd_notN, ↓Sa.rd_chain, ↓Sa.rd_chain3, ↓Sa.rd_nil, ↓Sa.rd_cons, ↓Sa.rd_tup, ↓Sa.rd_lst, ↓Sa.rd_call, ↓Sa.rd_CB, ↓Sa.rd_ixL, ↓Sa.rd_ixT, ↓Sa.rd_sl, ↓Sa.rd_noPart, ↓Sa.rd_part, ↓Sa.rd_slL, ↓Sa.rd_sum, ↓Sa.rd_all, ↓Sa.rd_any, ↓Sa.ex_int, ↓Sa.ex_int1, ↓Sa.ex_int2, ↓Sa.rd_len, ↓Sa.ex_len, ↓Sa.ex_bl, ↓Sa.ex_two, ↓Sa.slot_z, ↓Sa.slot_n, ↓Sa.setS_z, ↓Sa.setS_n, ↓Sa.if_tt, ↓Sa.if_ff, ↓Sa.if_dec, ↓Sa.if_ndec, ↓Sa.if_nb, ↓Sa.rd_forL, ↓Sa.rd_forT, ↓Sa.rd_forR1, ↓Sa.rd_forR2, ↓Sa.rd_forR3, ↓Sa.ex_ref, ↓Sa.cx_K, ↓List.append_nil, List.length_cons, List.length_nil, Nat.reduceAdd, Nat.zero_add]))
namespace Sa
open PySem PySem.Spec PyProof.Rows L2 Evl
section
variable {P : Program} {w : World} {K : PySem.W.Frag} {mg : Str → Option Value} {base : Heap}
def spRight5 (K : PySem.W.Frag) : Sp := fun vs H Q _ => ∃ (l p1 p2 : Addr) (ms xs ys : List Int), vs = [.ref l, .ref p1, .ref p2] ∧ SqL K H l (ms.map V.int) ∧ H p1 = some (.tup (xs.map V.int)) ∧ H p2 = some (.tup (ys.map V.int)) ∧ ∀ H', Same H H' → Q (.bl true) H'
theorem ok_right5 {f f1 f2 C_Same : Addr} {fd fd1 fd2 : FuncData} (T : Blt mg) (F : Fun K "_law_right" "_law_right" s__law_right f fd) (S : SameAt K C_Same) (X_Same : ClsX K mg "Same" C_Same) (M_Same : Mk K C_Same f1)
    (D_Same_init : MethAt K C_Same "__init__" "Same.__init__" s_Same_init ["self", "one", "other"] f1 fd1) (D_Same_shows : MethAt K C_Same "shows" "Same.shows" s_Same_shows ["self", "marks"] f2 fd2) : FnOk P w K mg base CX0 3 f fd ["_law_marks_here", "_law_one", "_law_other"] (spRight5 K) := by
  have G_Same_init : FnOk P w K mg base CX0 1 f1 fd1 ["self", "one", "other"] (spSameInit K C_Same) := ok_same_init S D_Same_init.F
  have G_Same_shows : FnOk P w K mg base CX0 1 f2 fd2 ["self", "marks"] (spShowsS K C_Same) := ok_shows_s T S D_Same_shows.F
  refine F.ok sc__law_right (fun vs H Q E h => ?_) (fun cdv A outer s H vs Q E hr h => ?_)
  · obtain ⟨l, p1, p2, ms, xs, ys, rfl, _⟩ := h
    rfl
  · obtain ⟨l, p1, p2, ms, xs, ys, rfl, hS, h1, h2, q⟩ := h
    refine ⟨_, pss_cons (ps_set (i := 3) sc__law_right.nd rfl (by first | exact Or.inl rfl | exact Or.inr rfl) (pe_cmpR (op_neDk (K := K) hr.units) (pv 1) (pv 2) (nomark _)))
      (pss_cut (ps_for PassesOwn.never rfl (pi_list (pe_lst (pa_cons (pv 1) (pa_cons (pv 2) pa_nil)))) (pg_name (i := 4) sc__law_right.nd rfl (by first | exact Or.inl rfl | exact Or.inr rfl)) (pss_one (ps_set (i := 3) sc__law_right.nd rfl (by first | exact Or.inl rfl | exact Or.inr rfl) (pe_and (pv 3) (pe_and (pe_cmpR op_eq (pe_callB (call_lenk (K := K)) (by rfl) T.b_len (by decide +kernel) (pa_cons (pv 4) pa_nil)) (pe_int) (nomark _)) (pe_one (pe_chain3 op_le op_le op_lt (pe_int) (pe_ix (ix_tupk (K := K)) (pv 4) (pe_int) (fun _ _ => rfl)) (pe_ix (ix_tupk (K := K)) (pv 4) (pe_int) (fun _ _ => rfl)) (pe_callB (call_lenk (K := K)) (by rfl) T.b_len (by decide +kernel) (pa_cons (pv 0) pa_nil)))))))))
      (pss_cut (ps_if (pt_val (pv 3)) (pss_cons (ps_setLc (i := 5) (own := [("_law_pair", 4)]) (g := gName 4) (tt := tYes) (by rfl) sc__law_right.nd rfl rfl (sw_true rfl rfl rfl (by decide +kernel)) (pi_list (pe_lst (pa_cons (pv 1) (pa_cons (pv 2) pa_nil)))) (blkOk_by (own := [("_law_pair", 4)]) (N := ["_law_marks_here", "_law_one", "_law_other", "_law_good", "_law_pair", "_law_sums", "_law_answer", "_law_said"]) (sc := defScope s__law_right) (by decide +kernel)) (fun _ _ _ _ _ => pg_name (i := 4) sc__law_right.nd rfl (by first | exact Or.inl rfl | exact Or.inr rfl)) (fun _ _ _ _ _ => pts_nil) (fun _ _ _ _ _ => pe_op op_add (pe_ix (ix_listk (K := K)) (pv 0) (pe_ix (ix_tupk (K := K)) (pv 4) (pe_int) (fun _ _ => rfl)) (fun _ _ => rfl)) (pe_ix (ix_listk (K := K)) (pv 0) (pe_ix (ix_tupk (K := K)) (pv 4) (pe_int) (fun _ _ => rfl)) (fun _ _ => rfl))))
      (pss_one (ps_set (i := 3) sc__law_right.nd rfl (by first | exact Or.inl rfl | exact Or.inr rfl) (pe_cmpR op_eq (pe_ix (ix_listk (K := K)) (pv 5) (pe_int) (fun _ _ => rfl)) (pe_ix (ix_listk (K := K)) (pv 5) (pe_int) (fun _ _ => rfl)) (nomark _))))) (pss_nil))
      (pss_cons (ps_set (i := 6) sc__law_right.nd rfl (by first | exact Or.inl rfl | exact Or.inr rfl) (pe_make M_Same G_Same_init (hr.mono (by decide)) (by rfl) X_Same.g D_Same_init.b .nil pass0 (pa_cons (pv 1) (pa_cons (pv 2) pa_nil))))
      (pss_cons (ps_set (i := 7) sc__law_right.nd rfl (by first | exact Or.inl rfl | exact Or.inr rfl) (pe_meth (pv 6) X_Same.cl D_Same_shows.m G_Same_shows (hr.mono (by decide)) D_Same_shows.b .nil pass0 (pa_cons (pv 0) pa_nil)))
      (pss_one (ps_ret (pe_and (pe_cmpR (op_eqDk (K := K) hr.units) (pe_tup (pa_cons (pe_fld (pv 6) rfl) (pa_cons (pe_fld (pv 6) rfl) pa_nil))) (pe_tup (pa_cons (pv 1) (pa_cons (pv 2) pa_nil))) (nomark _)) (pe_and (pe_callB (call_isik (K := K)) (by rfl) T.b_isinstance (by decide +kernel) (pa_cons (pv 7) (pa_cons (pe_bltn (v := .ty "bool") (by rfl) T.b_bool (by decide +kernel) rfl) pa_nil))) (pe_one (pe_cmpR op_eq (pv 7) (pv 3) (nomark _))))))))))), ?_⟩
    walk_at "rd"
    refine ⟨_, _, dp_tup (sqt_of h1), dp_tup (sqt_of h2), shaped_tup _, shaped_tup _, ?_⟩
    rw [eqv_tups]
    obtain ⟨gB, egB⟩ : ∃ gB : Nat → Bool, gB = fun i => !decide (xs = ys) && ((decide (i < 1) || okP2 ms.length xs) && (decide (i < 2) || okP2 ms.length ys)) := ⟨_, rfl⟩
    have g0 : gB 0 = !decide (xs = ys) := by rw [egB]; simp
    have g1 : gB 1 = (gB 0 && okP2 ms.length xs) := by rw [egB]; simp
    have g2 : gB 2 = (gB 1 && okP2 ms.length ys) := by rw [egB]; simp [Bool.and_assoc]
    rw [← g0]
    refine ⟨fun σ H' => Same H H' ∧ ∃ y4, σ = [some (.ref l), some (.ref p1), some (.ref p2), some (.bl (gB 2)), y4, none, none, none], ?_, ?_⟩
    · walk_at "rd"
      refine ⟨by decide, fun b nb => ⟨⟨_, sq_of upd_same⟩, ?_⟩⟩
      have sb := same_new (o := .lst [V.ref p1, V.ref p2]) nb
      refine for_list (K := K) (a := b) (xs := [.ref p1, .ref p2]) (fun i σ H' => Same (upd H b (.lst [.ref p1, .ref p2])) H' ∧ ∃ y4, σ = [some (.ref l), some (.ref p1), some (.ref p2), some (.bl (gB i)), y4, none, none, none])
        ⟨Same.refl _, _, rfl⟩ (fun i σ H' _ ⟨s, _⟩ => sq_of (s _ _ upd_same)) ?_ (fun σ H' ⟨s, e⟩ => ⟨sb.trans s, e⟩)
      rintro i x σ H' hi ⟨s1, y4, rfl⟩
      obtain ⟨pp, zs, rfl, hz, hg⟩ : ∃ (pp : Addr) (zs : List Int), x = .ref pp ∧ H pp = some (.tup (zs.map V.int)) ∧ gB (i + 1) = (gB i && okP2 ms.length zs) := by
        match i, hi with
        | 0, hi =>
          cases hi
          exact ⟨p1, xs, rfl, h1, g1⟩
        | 1, hi =>
          cases hi
          exact ⟨p2, ys, rfl, h2, g2⟩
        | n + 2, hi => simp at hi
      have s2 : Same H H' := sb.trans s1
      have hz' := s2 _ _ hz
      walk_at "rd"
      have fin : ∀ (k : Bool) (H3 : Hp), k = gB (i + 1) → Same (upd H b (.lst [.ref p1, .ref p2])) H3 → Same (upd H b (.lst [.ref p1, .ref p2])) H3 ∧ ∃ y4, [some (V.ref l), some (V.ref p1), some (V.ref p2), some (V.bl k), some (V.ref pp), none, none, none] = [some (V.ref l), some (V.ref p1), some (V.ref p2), some (V.bl (gB (i + 1))), y4, none, none, none] := fun k H3 e s => ⟨s, some (.ref pp), by rw [e]⟩
      refine ite2 (fun hgt => ?_) (fun hgf => fin _ _ (by rw [hg]; cases h : gB i with | true => exact absurd h hgf | false => rfl) s1)
      rw [hgt, Bool.true_and] at hg
      refine ⟨_, .inr (sqt_of hz'), ?_⟩
      match zs, hz', hg with
      | [], hz', hg => exact ite2 (fun z => by simp at z) (fun _ => fin _ _ hg.symm s1)
      | [c], hz', hg => exact ite2 (fun z => by simp at z) (fun _ => fin _ _ hg.symm s1)
      | c :: c2 :: c3 :: r, hz', hg => exact ite2 (fun z => by simp at z; omega) (fun _ => fin _ _ hg.symm s1)
      | [c1, c2], hz', hg =>
        have e2 : okP2 ms.length [c1, c2] = decide (0 ≤ c1 ∧ c1 ≤ c2 ∧ c2 < ms.length) := rfl
        rw [e2] at hg
        refine ite2 (fun _ => ?_) (fun z => absurd rfl z)
        refine ⟨_, _, sqt_of hz', atI_nat (j := 0) rfl, ?_⟩
        walk_at "rd"
        refine ite2 (fun k1 => ⟨_, _, sqt_of hz', atI_nat (j := 1) rfl, ?_⟩) (fun k1 => fin _ _ (by rw [hg, decide_eq_false (fun z => k1 z.1)]) s1)
        walk_at "rd"
        refine ite2 (fun k2 => ⟨_, .inl (s2.seq hS), ?_⟩) (fun k2 => fin _ _ (by rw [hg, decide_eq_false (fun z => k2 z.2.1)]) s1)
        walk_at "rd"
        refine fin _ _ ?_ s1
        rw [hg, List.length_map]
        exact decide_eq_decide.mpr ⟨fun z => ⟨k1, k2, z⟩, fun z => z.2.2⟩
    · rintro σ H' ⟨s1, y4, rfl⟩
      refine ⟨fun σ H' => Same H H' ∧ ∃ y4 y5, σ = [some (.ref l), some (.ref p1), some (.ref p2), some (.bl (goodB ms xs ys)), y4, y5, none, none], ?_, ?_⟩
      · walk_at "rd"
        have eG : goodB ms xs ys = (gB 2 && decide (sumP ms xs = sumP ms ys)) := by
          rw [g2, g1, g0]
          unfold goodB
          simp only [Bool.and_assoc]
        refine ite2 (fun ht => ?_) (fun hf => ⟨s1, _, _, by rw [eG]; cases h : gB 2 with | true => exact absurd h hf | false => rfl⟩)
        rw [ht, Bool.true_and] at eG
        rw [g2, g1, Bool.and_eq_true, Bool.and_eq_true] at ht
        refine ⟨by decide, fun b nb => ⟨⟨_, sq_of upd_same⟩, ?_⟩⟩
        have sb := same_new (o := .lst [V.ref p1, V.ref p2]) nb
        refine lc_mapL (xs := [.ref p1, .ref p2]) (fun i => .int (if i = 0 then sumP ms xs else sumP ms ys)) (fun _ => rfl) (sq_of upd_same) (by show 2 ≤ 1000000; decide) ?_ ?_
        · intro i x H2 hi s2 Q' k
          obtain ⟨pp, zs, rfl, hz, hok, hv⟩ : ∃ (pp : Addr) (zs : List Int), x = .ref pp ∧ H pp = some (.tup (zs.map V.int)) ∧ okP2 ms.length zs = true ∧ (if i = 0 then sumP ms xs else sumP ms ys) = sumP ms zs := by
            match i, hi with
            | 0, hi =>
              cases hi
              exact ⟨p1, xs, rfl, h1, ht.1.2, rfl⟩
            | 1, hi =>
              cases hi
              exact ⟨p2, ys, rfl, h2, ht.2, rfl⟩
            | n + 2, hi => simp at hi
          obtain ⟨c1, c2, rfl, c0, cc, cn⟩ := okP2_two hok
          rw [hv] at k
          have s3 := s1.trans (sb.trans s2)
          have hz' := s3 _ _ hz
          walk_at "rd"
          refine ⟨_, _, sqt_of hz', atI_nat (j := 0) rfl, ixL (s3.seq hS) (at_ixI c0 (by omega)) ⟨_, _, sqt_of hz', atI_nat (j := 1) rfl, ixL (s3.seq hS) (at_ixI (by omega) cn) ?_⟩⟩
          walk_at "rd"
          exact k _ (Same.refl _)
        · intro D H2 hD s2 eD
          refine ixL (sq_of eD) (atI_nat (j := 0) rfl) (ixL (sq_of eD) (atI_nat (j := 1) rfl) ?_)
          walk_at "rd"
          exact ⟨s1.trans (sb.trans s2), _, _, by rw [eG]; rfl⟩
      · rintro σ H' ⟨s2, y4, y5, rfl⟩
        walk_at "rd"
        refine make_same fun x dx H2 nx s3 ex => ?_
        have s4 := s2.trans s3
        refine ⟨x, dx, _, rfl, ex, rfl, ⟨x, dx, p1, p2, l, xs, ys, ms, rfl, ex, s4 _ _ h1, s4 _ _ h2, s4.seq hS, fun H5 s5 => ?_⟩⟩
        have ex5 := s5 _ _ ex
        refine ⟨_, _, _, _, _, rfl, ex5, S.cl, S.n1, rfl, _, _, _, _, _, rfl, ex5, S.cl, S.n2, rfl, by decide, fun t1 n1 => ⟨by decide, fun t2 n2 => ?_⟩⟩
        have m1 := same_new (o := .tup [V.ref p1, V.ref p2]) n1
        have m2 := same_new (o := .tup [V.ref p1, V.ref p2]) n2
        have h1' := m2 _ _ (m1 _ _ (s5 _ _ (s4 _ _ h1)))
        have h2' := m2 _ _ (m1 _ _ (s5 _ _ (s4 _ _ h2)))
        refine ⟨_, _, dp_II (m2 _ _ upd_same) h1' h2', dp_II upd_same h1' h2', shaped_II _ _, shaped_II _ _, ?_⟩
        rw [eqv_II, decide_eq_true rfl, decide_eq_true rfl]
        have qq := q _ (s4.trans (s5.trans (m1.trans m2)))
        exact ⟨true, rfl, iteT ⟨_, _, _, _, true, rfl, .ty _, .base (.bl _), kit_ty (by decide +kernel), true, rfl, iteT ⟨rfl, by rw [decide_eq_true rfl]; exact qq⟩⟩⟩
end
end Sa
local macro_rules | `(tactic| walk_at "rd") => `(tactic| ((try simp only [L2.start, L2.wipe, List.set_cons_succ, List.set_cons_zero, List.map_cons, List.map_nil, List.length_cons, List.length_nil, List.cons_append, List.nil_append, List.replicate_succ, List.replicate_zero, Nat.reduceSub, Nat.reduceAdd, Nat.zero_add]); try simp only [↓Sa.rd_seq, ↓Sa.rd_fld, ↓Sa.rd_sfld, ↓Sa.rd_meth, ↓Sa.rd_make, ↓Sa.rd_made, ↓Sa.rd_lenSet, ↓Sa.rd_bm, ↓Sa.rd_forE, ↓Sa.rd_lcL, ↓Sa.rd_lst3,  ↓Sa.rd_next, ↓Sa.rd_brk, ↓Sa.rd_asg, ↓Sa.rp_name, ↓Sa.rp_par, ↓Sa.rd_ret, ↓Sa.rd_retN, ↓Sa.rd_drop, ↓Sa.rd_if, ↓Sa.rp_var, ↓Sa.rd_c, ↓Sa.rd_op, ↓Sa.rd_un, ↓Sa.rd_I0, ↓Sa.rd_I, ↓Sa.rd_U, ↓Sa.rd_eqI, ↓Sa.rd_neI, ↓Sa.rd_test, ↓Sa.rd_B, ↓Sa.rd_and, ↓Sa.rd_or, ↓Sa.rd_not, ↓Sa.rd_andV, ↓Sa.rd_orV, ↓Sa.rd_notV, ↓Sa.rd_ifE, ↓Sa.rd_isN, ↓Sa.rd_notN, ↓Sa.rd_chain, ↓Sa.rd_chain3, ↓Sa.rd_nil, ↓Sa.rd_cons, ↓Sa.rd_tup, ↓Sa.rd_lst, ↓Sa.rd_call, ↓Sa.rd_CB, ↓Sa.rd_ixL, ↓Sa.rd_ixT, ↓Sa.rd_sl, ↓Sa.rd_noPart, ↓Sa.rd_part, ↓Sa.rd_slL, ↓Sa.rd_sum, ↓Sa.rd_all, ↓Sa.rd_any, ↓Sa.ex_int, ↓Sa.ex_int1, ↓Sa.ex_int2, ↓Sa.rd_len, ↓Sa.ex_len, ↓Sa.ex_bl, ↓Sa.ex_two, ↓Sa.slot_z, ↓Sa.slot_n, ↓Sa.setS_z, ↓Sa.setS_n, ↓Sa.if_tt, ↓Sa.if_ff, ↓Sa.if_dec, ↓Sa.if_ndec, ↓Sa.if_nb, ↓Sa.rd_forL, ↓Sa.rd_forT, ↓Sa.rd_forR1, ↓Sa.rd_forR2, ↓Sa.rd_forR3, ↓Sa.ex_ref, ↓Sa.cx_K, ↓List.append_nil, List.length_cons, List.length_nil, Nat.reduceAdd, Nat.zero_add]))
namespace Sa
open PySem PySem.Spec PyProof.Rows L2 Evl
def chk5 (a b : Nat) : Bool :=
  let n := (Builtin.Range.rangeSize (a : Int) (30 + (a : Int)) (1 + (b : Int))).toNat
  decide (n ≤ 30) && Builtin.Range.small (a : Int) (30 + (a : Int)) (1 + (b : Int)) && decide (Builtin.Range.rangeSize (a : Int) (30 + (a : Int)) (1 + (b : Int)) = (n : Int))
theorem chk5_all : (List.range 9).all (fun a => (List.range 4).all fun b => chk5 a b) = true := by decide +kernel
theorem rg5 {a b : Int} (a0 : 0 ≤ a) (a1 : a < 9) (b0 : 0 ≤ b) (b1 : b < 4) : ∃ n : Nat, n ≤ 30 ∧ RgC a (30 + a) (1 + b) n := by
  have h := List.all_eq_true.mp (List.all_eq_true.mp chk5_all a.toNat (List.mem_range.mpr (by omega))) b.toNat (List.mem_range.mpr (by omega))
  unfold chk5 at h
  rw [show ((a.toNat : Nat) : Int) = a by omega, show ((b.toNat : Nat) : Int) = b by omega] at h
  simp only [Bool.and_eq_true, decide_eq_true_eq] at h
  exact ⟨_, h.1.1, by omega, by omega, h.1.2, h.2⟩
section
variable {P : Program} {w : World} {K : PySem.W.Frag} {mg : Str → Option Value} {base : Heap}
theorem ok_law {f f1 f2 f3 f4 f5 f6 f7 C_Apart C_Same : Addr} {fd fd1 fd2 fd3 fd4 fd5 fd6 fd7 : FuncData} (T : Blt mg) (F : Fun K "law" "law" s_law f fd)
    (S : SameAt K C_Same) (X_Same : ClsX K mg "Same" C_Same) (M_Same : Mk K C_Same f1) (X_Apart : ClsX K mg "Apart" C_Apart) (M_Apart : Mk0 K C_Apart)
    (D_Same_init : MethAt K C_Same "__init__" "Same.__init__" s_Same_init ["self", "one", "other"] f1 fd1) (D_Same_shows : MethAt K C_Same "shows" "Same.shows" s_Same_shows ["self", "marks"] f2 fd2)
    (D_Apart_shows : MethAt K C_Apart "shows" "Apart.shows" s_Apart_shows ["self", "marks"] f3 fd3) (G_Apart_shows : FnOk P w K mg base CX0 2 f3 fd3 ["self", "marks"] (spShowsA K))
    (D__law_number : DefAt K mg "_law_number" "_law_number" s__law_number ["_law_cell", "_law_at", "_law_whole_here"] f4 fd4) (G__law_number : FnOk P w K mg base CX0 1 f4 fd4 ["_law_cell", "_law_at", "_law_whole_here"] spNumber)
    (D__law_marks : DefAt K mg "_law_marks" "_law_marks" s__law_marks ["_law_script"] f5 fd5) (G__law_marks : FnOk P w K mg base CX0 2 f5 fd5 ["_law_script"] (spMarks K))
    (D__law_apart : DefAt K mg "_law_apart" "_law_apart" s__law_apart ["_law_marks_here"] f6 fd6) (G__law_apart : FnOk P w K mg base CX0 1 f6 fd6 ["_law_marks_here"] (spApart K))
    (D__law_right : DefAt K mg "_law_right" "_law_right" s__law_right ["_law_marks_here", "_law_one", "_law_other"] f7 fd7) (G__law_right : FnOk P w K mg base CX0 3 f7 fd7 ["_law_marks_here", "_law_one", "_law_other"] (spRight5 K)) :
    FnOk P w K mg base CX0 5 f fd ["_law_script"] (spLaw K) := by
  have G_Same_init : FnOk P w K mg base CX0 1 f1 fd1 ["self", "one", "other"] (spSameInit K C_Same) := ok_same_init S D_Same_init.F
  have G_Same_shows : FnOk P w K mg base CX0 1 f2 fd2 ["self", "marks"] (spShowsS K C_Same) := ok_shows_s T S D_Same_shows.F
  refine F.ok sc_law (fun vs H Q E h => ?_) (fun cdv A outer s H vs Q E hr h => ?_)
  · obtain ⟨a, ns, rfl, _⟩ := h
    rfl
  · obtain ⟨a, ns, rfl, hS, hl, hb, q⟩ := h
    refine ⟨_, pss_cons (ps_set (i := 1) sc_law.nd rfl (by first | exact Or.inl rfl | exact Or.inr rfl) (pe_callB (cr_sumk (K := K) rfl) (by rfl) T.b_sum (by decide +kernel) (pa_cons (pe_slice (sl_listk (K := K)) (pv 0) po_none (po_some (pe_int))) pa_nil)))
      (pss_cons (ps_set (i := 2) sc_law.nd rfl (by first | exact Or.inl rfl | exact Or.inr rfl) (pe_call G__law_marks (hr.mono (by decide)) (by rfl) D__law_marks.g D__law_marks.kp D__law_marks.b .nil pass0 (pa_cons (pv 0) pa_nil)))
      (pss_cons (ps_set (i := 3) sc_law.nd rfl (by first | exact Or.inl rfl | exact Or.inr rfl) (pe_list3 (by rfl) T.b_list (by rfl) T.b_range (pa_cons (pe_op op_mod (pv 1) (pe_int)) (pa_cons (pe_op op_add (pe_int) (pe_op op_mod (pv 1) (pe_int))) (pa_cons (pe_op op_add (pe_int) (pe_op op_mod (pe_op op_fdiv (pv 1) (pe_int)) (pe_int))) pa_nil)))))
      (pss_cut (ps_set (i := 4) sc_law.nd rfl (by first | exact Or.inl rfl | exact Or.inr rfl) (pe_ifExp (pt_cmpR (op_neDk (K := K) hr.units) (pv 0) (pe_lst pa_nil) (nomark _)) (pe_slice (sl_listk (K := K)) (pv 0) po_none (po_some (pe_int))) (pe_lst (pa_cons (pe_int) pa_nil))))
      (pss_cut (ps_for PassesOwn.never rfl (pi_list (pe_lst (pa_cons (pv 2) (pa_cons (pv 3) (pa_cons (pe_slice (sl_listk (K := K)) (pv 2) po_none (po_some (pe_int))) (pa_cons (pe_lst pa_nil) pa_nil)))))) (pg_name (i := 5) sc_law.nd rfl (by first | exact Or.inl rfl | exact Or.inr rfl)) (pss_cons (ps_set (i := 6) sc_law.nd rfl (by first | exact Or.inl rfl | exact Or.inr rfl) (pe_meth (pe_made M_Apart (by rfl) X_Apart.g) X_Apart.cl D_Apart_shows.m G_Apart_shows (hr.mono (by decide)) D_Apart_shows.b .nil pass0 (pa_cons (pv 5) pa_nil)))
      (pss_cons (ps_if (PW.pt (pw_or (pt_not (pt_val (pe_callB (call_isik (K := K)) (by rfl) T.b_isinstance (by decide +kernel) (pa_cons (pv 6) (pa_cons (pe_bltn (v := .ty "bool") (by rfl) T.b_bool (by decide +kernel) rfl) pa_nil))))) (pw_or1 (pt_cmpR op_ne (pv 6) (pe_call G__law_apart (hr.mono (by decide)) (by rfl) D__law_apart.g D__law_apart.kp D__law_apart.b .nil pass0 (pa_cons (pv 5) pa_nil)) (nomark _))))) (pss_one (ps_ret (pe_bl))) (pss_nil))
      (pss_cons (ps_set (i := 7) sc_law.nd rfl (by first | exact Or.inl rfl | exact Or.inr rfl) (pe_callB (call_lenk (K := K)) (by rfl) T.b_len (by decide +kernel) (pa_cons (pv 5) pa_nil)))
      (pss_one (ps_for PassesOwn.never rfl (pi_enumk (K := K) (by rfl) T.b_enumerate (pa_cons (pe_op op_cat (pv 4) (pe_lst (pa_cons (pv 1) pa_nil))) pa_nil)) (pg_tup rfl (pgs_cons (pg_name (i := 8) sc_law.nd rfl (by first | exact Or.inl rfl | exact Or.inr rfl)) (pgs_cons (pg_name (i := 9) sc_law.nd rfl (by first | exact Or.inl rfl | exact Or.inr rfl)) pgs_nil))) (pss_cons (ps_set (i := 10) sc_law.nd rfl (by first | exact Or.inl rfl | exact Or.inr rfl) (pe_call G__law_number (hr.mono (by decide)) (by rfl) D__law_number.g D__law_number.kp D__law_number.b .nil pass0 (pa_cons (pv 9) (pa_cons (pv 8) (pa_cons (pv 1) pa_nil)))))
      (pss_cons (ps_set (i := 11) sc_law.nd rfl (by first | exact Or.inl rfl | exact Or.inr rfl) (pe_lst (pa_cons (pe_op op_sub (pe_op op_mod (pe_op op_fdiv (pv 10) (pe_int)) (pe_op op_add (pv 7) (pe_int))) (pe_int)) (pa_cons (pe_op op_mod (pe_op op_fdiv (pv 10) (pe_int)) (pe_op op_add (pv 7) (pe_int))) (pa_cons (pe_op op_mod (pe_op op_fdiv (pv 10) (pe_int)) (pe_op op_add (pv 7) (pe_int))) pa_nil)))))
      (pss_cons (ps_set (i := 12) sc_law.nd rfl (by first | exact Or.inl rfl | exact Or.inr rfl) (pe_op op_sub (pe_op op_add (pe_ix (ix_listk (K := K)) (pv 11) (pe_int) (fun _ _ => rfl)) (pe_ix (ix_listk (K := K)) (pv 11) (pe_int) (fun _ _ => rfl))) (pe_ix (ix_listk (K := K)) (pv 11) (pe_int) (fun _ _ => rfl))))
      (pss_cut (ps_set (i := 13) sc_law.nd rfl (by first | exact Or.inl rfl | exact Or.inr rfl) (pe_lst (pa_cons (pe_tup (pa_cons (pe_tup (pa_cons (pe_ix (ix_listk (K := K)) (pv 11) (pe_int) (fun _ _ => rfl)) (pa_cons (pe_ix (ix_listk (K := K)) (pv 11) (pe_int) (fun _ _ => rfl)) pa_nil))) (pa_cons (pe_tup (pa_cons (pe_ix (ix_listk (K := K)) (pv 11) (pe_int) (fun _ _ => rfl)) (pa_cons (pe_ix (ix_listk (K := K)) (pv 11) (pe_int) (fun _ _ => rfl)) pa_nil))) pa_nil))) (pa_cons (pe_tup (pa_cons (pe_tup (pa_cons (pe_ix (ix_listk (K := K)) (pv 11) (pe_int) (fun _ _ => rfl)) (pa_cons (pv 12) pa_nil))) (pa_cons (pe_tup (pa_cons (pe_ix (ix_listk (K := K)) (pv 11) (pe_int) (fun _ _ => rfl)) (pa_cons (pe_ix (ix_listk (K := K)) (pv 11) (pe_int) (fun _ _ => rfl)) pa_nil))) pa_nil))) pa_nil))))
      (pss_cut (ps_set (i := 13) sc_law.nd rfl (by first | exact Or.inl rfl | exact Or.inr rfl) (pe_op op_cat (pv 13) (pe_lst (pa_cons (pe_tup (pa_cons (pe_tup (pa_cons (pe_ix (ix_listk (K := K)) (pv 11) (pe_int) (fun _ _ => rfl)) (pa_cons (pe_ix (ix_listk (K := K)) (pv 11) (pe_int) (fun _ _ => rfl)) pa_nil))) (pa_cons (pe_tup (pa_cons (pe_ix (ix_listk (K := K)) (pv 11) (pe_int) (fun _ _ => rfl)) (pa_cons (pe_ix (ix_listk (K := K)) (pv 11) (pe_int) (fun _ _ => rfl)) pa_nil))) pa_nil))) (pa_cons (pe_tup (pa_cons (pe_tup (pa_cons (pe_ix (ix_listk (K := K)) (pv 11) (pe_int) (fun _ _ => rfl)) (pa_cons (pe_ix (ix_listk (K := K)) (pv 11) (pe_int) (fun _ _ => rfl)) pa_nil))) (pa_cons (pe_tup (pa_cons (pe_ix (ix_listk (K := K)) (pv 11) (pe_int) (fun _ _ => rfl)) (pa_cons (pe_ix (ix_listk (K := K)) (pv 11) (pe_int) (fun _ _ => rfl)) pa_nil))) pa_nil))) pa_nil)))))
      (pss_cut (ps_set (i := 13) sc_law.nd rfl (by first | exact Or.inl rfl | exact Or.inr rfl) (pe_op op_cat (pv 13) (pe_lst (pa_cons (pe_tup (pa_cons (pe_tup (pa_cons (pe_int) (pa_cons (pe_int) pa_nil))) (pa_cons (pe_tup (pa_cons (pe_int) (pa_cons (pe_int) pa_nil))) pa_nil))) (pa_cons (pe_tup (pa_cons (pe_tup (pa_cons (pe_int) (pa_cons (pe_int) pa_nil))) (pa_cons (pe_tup (pa_cons (pe_op op_sub (pv 7) (pe_int)) (pa_cons (pe_op op_sub (pv 7) (pe_int)) pa_nil))) pa_nil))) (pa_cons (pe_tup (pa_cons (pe_tup (pa_cons (pe_un un_neg (pe_int)) (pa_cons (pe_int) pa_nil))) (pa_cons (pe_tup (pa_cons (pe_int) (pa_cons (pe_int) pa_nil))) pa_nil))) (pa_cons (pe_tup (pa_cons (pe_tup (pa_cons (pe_int) pa_nil)) (pa_cons (pe_tup (pa_cons (pe_int) (pa_cons (pe_int) pa_nil))) pa_nil))) pa_nil)))))))
      (pss_cut (ps_set (i := 13) sc_law.nd rfl (by first | exact Or.inl rfl | exact Or.inr rfl) (pe_op op_cat (pv 13) (pe_lst (pa_cons (pe_tup (pa_cons (pe_tup (pa_cons (pe_int) (pa_cons (pv 7) pa_nil))) (pa_cons (pe_tup (pa_cons (pe_int) (pa_cons (pe_int) pa_nil))) pa_nil))) (pa_cons (pe_tup (pa_cons (pe_tup (pa_cons (pe_int) (pa_cons (pe_int) (pa_cons (pe_int) pa_nil)))) (pa_cons (pe_tup (pa_cons (pe_int) (pa_cons (pe_int) pa_nil))) pa_nil))) (pa_cons (pe_tup (pa_cons (pe_tup (pa_cons (pe_int) (pa_cons (pe_int) pa_nil))) (pa_cons (pe_tup (pa_cons (pe_int) (pa_cons (pe_int) pa_nil))) pa_nil))) (pa_cons (pe_tup (pa_cons (pe_tup (pa_cons (pe_int) (pa_cons (pe_int) pa_nil))) (pa_cons (pe_tup (pa_cons (pe_int) (pa_cons (pe_int) pa_nil))) pa_nil))) (pa_cons (pe_tup (pa_cons (pe_tup pa_nil) (pa_cons (pe_tup pa_nil) pa_nil))) pa_nil))))))))
      (pss_one (ps_for PassesOwn.never rfl (pi_list (pv 13)) (pg_tup rfl (pgs_cons (pg_name (i := 14) sc_law.nd rfl (by first | exact Or.inl rfl | exact Or.inr rfl)) (pgs_cons (pg_name (i := 15) sc_law.nd rfl (by first | exact Or.inl rfl | exact Or.inr rfl)) pgs_nil))) (pss_one (ps_if (pt_not (pt_val (pe_call G__law_right (hr.mono (by decide)) (by rfl) D__law_right.g D__law_right.kp D__law_right.b .nil pass0 (pa_cons (pv 5) (pa_cons (pv 14) (pa_cons (pv 15) pa_nil)))))) (pss_one (ps_ret (pe_bl))) (pss_nil))))))))))))))))))
      (pss_one (ps_ret (pe_and (pe_cmpR op_isBl (pe_meth (pe_make M_Same G_Same_init (hr.mono (by decide)) (by rfl) X_Same.g D_Same_init.b .nil pass0 (pa_cons (pe_tup (pa_cons (pe_int) (pa_cons (pe_int) pa_nil))) (pa_cons (pe_tup (pa_cons (pe_int) (pa_cons (pe_int) pa_nil))) pa_nil))) X_Same.cl D_Same_shows.m G_Same_shows (hr.mono (by decide)) D_Same_shows.b .nil pass0 (pa_cons (pe_lst (pa_cons (pe_int) (pa_cons (pe_int) (pa_cons (pe_int) pa_nil)))) pa_nil)) (pe_bl) (nomark _)) (pe_one (pe_cmpR op_isBl (pe_meth (pe_make M_Same G_Same_init (hr.mono (by decide)) (by rfl) X_Same.g D_Same_init.b .nil pass0 (pa_cons (pe_tup (pa_cons (pe_int) (pa_cons (pe_int) pa_nil))) (pa_cons (pe_tup (pa_cons (pe_int) (pa_cons (pe_int) pa_nil))) pa_nil))) X_Same.cl D_Same_shows.m G_Same_shows (hr.mono (by decide)) D_Same_shows.b .nil pass0 (pa_cons (pe_lst (pa_cons (pe_int) (pa_cons (pe_int) (pa_cons (pe_int) pa_nil)))) pa_nil)) (pe_bl) (nomark _)))))))))), ?_⟩
    refine sum63_ok rfl hS hl fun H1 s1 => ?_
    have hw := sum_bits hb
    obtain ⟨wh, ewh⟩ : ∃ wh, wh = ns.sum := ⟨_, rfl⟩
    rw [← ewh] at hw ⊢
    have hw2 : B 1048640 wh := hw.mono (by omega)
    walk_at "rd"
    refine ⟨a, ns, rfl, s1.seq hS, hb, fun ms lm H2 pw hml hmb s2 nm em => ?_⟩
    walk_at "rd"
    refine ⟨by decide, by decide, ⟨by decide, by decide⟩, by decide, ?_⟩
    obtain ⟨n5, l5, hrg⟩ := rg5 (a := wh % 9) (b := wh / 9 % 4) (by omega) (by omega) (by omega) (by omega)
    refine ⟨_, _, _, n5, rfl, hrg, by omega, fun le nle => ?_⟩
    obtain ⟨ev, eev⟩ : ∃ ev, ev = rg3 (wh % 9) (1 + wh / 9 % 4) n5 := ⟨_, rfl⟩
    have hev : ev.length ≤ 30 := by rw [eev, rg3_len]; exact l5
    rw [← eev]
    obtain ⟨H3, e3⟩ : ∃ t, t = upd H2 le (.lst (ev.map V.int)) := ⟨_, rfl⟩
    rw [← e3]
    have m3 : Same H2 H3 := e3 ▸ same_new nle
    have k3 : H3 le = some (.lst (ev.map V.int)) := e3 ▸ upd_same
    have s3 := s1.trans (s2.trans m3)
    refine ⟨fun σ H' => Same H3 H' ∧ ∃ (cs : List Int) (lc : Addr), σ = [some (.ref a), some (.int wh), some (.ref lm), some (.ref le), some (.ref lc), none, none, none, none, none, none, none, none, none, none, none] ∧ H' lc = some (.lst (cs.map V.int)) ∧ cs.length ≤ 5 ∧ ∀ z ∈ cs, B 1048577 z, ?_, ?_⟩
    · refine cells_ok (n := 5) (c := 7) rfl (s3.seq hS) fun H4 lc s4 nc ec => ?_
      exact ⟨s4, _, _, rfl, ec, cells_len (by decide), cells_mem hb ((B.small (x := 7) (by decide)).mono (by decide))⟩
    rintro σ H4 ⟨s4, cs, lc, rfl, ec, hcl, hcb⟩
    refine ⟨fun σ H' => Same H4 H' ∧ ∃ y5 y6 y7 y8 y9 y10 y11 y12 y13 y14 y15, σ = [some (.ref a), some (.int wh), some (.ref lm), some (.ref le), some (.ref lc), y5, y6, y7, y8, y9, y10, y11, y12, y13, y14, y15], ?_, ?_⟩
    · walk_at "rd"
      have em4 := s4 _ _ (m3 _ _ em)
      have k4 := s4 _ _ k3
      refine ⟨_, sq_of em4, fun l3 n3 => ⟨by decide, fun l4 n4 => ⟨by decide, fun lo no => ?_⟩⟩⟩
      have ecut : cutV (ms.map V.int) none (some 3) = (ms.take 3).map V.int := by
        rw [show (3 : Int) = ((3 : Nat) : Int) from rfl, cut_take, List.map_take]
      rw [ecut] at n4 no ⊢
      have m5 := same_new (o := .lst ((ms.take 3).map V.int)) n3
      have m6 := same_new (o := .lst []) n4
      have m7 := same_new (o := .lst [V.ref lm, V.ref le, V.ref l3, V.ref l4]) no
      obtain ⟨H5, e5⟩ : ∃ t, t = upd (upd (upd H4 l3 (.lst ((ms.take 3).map V.int))) l4 (.lst [])) lo (.lst [V.ref lm, V.ref le, V.ref l3, V.ref l4]) := ⟨_, rfl⟩
      have sH5 : Same H4 H5 := e5 ▸ m5.trans (m6.trans m7)
      have kl3 : H5 l3 = some (.lst ((ms.take 3).map V.int)) := e5 ▸ m7 _ _ (m6 _ _ upd_same)
      have kl4 : H5 l4 = some (.lst (([] : List Int).map V.int)) := e5 ▸ m7 _ _ upd_same
      have klo : H5 lo = some (.lst [V.ref lm, V.ref le, V.ref l3, V.ref l4]) := e5 ▸ upd_same
      rw [← e5]
      refine ⟨⟨_, sq_of klo⟩, for_list (K := K) (a := lo) (xs := [V.ref lm, V.ref le, V.ref l3, V.ref l4]) (fun i σ H' => Same H5 H' ∧ ∃ y5 y6 y7 y8 y9 y10 y11 y12 y13 y14 y15, σ = [some (.ref a), some (.int wh), some (.ref lm), some (.ref le), some (.ref lc), y5, y6, y7, y8, y9, y10, y11, y12, y13, y14, y15])
        ⟨Same.refl _, _, _, _, _, _, _, _, _, _, _, _, rfl⟩ (fun i σ H' _ ⟨s, _⟩ => sq_of (s _ _ klo)) ?_ (fun σ H' ⟨s, e⟩ => ⟨sH5.trans s, e⟩)⟩
      rintro i x σ H' hx ⟨s6, y5, y6, y7, y8, y9, y10, y11, y12, y13, y14, y15, rfl⟩
      obtain ⟨ls, ss, rfl, hss, hsl⟩ : ∃ (ls : Addr) (ss : List Int), x = .ref ls ∧ H5 ls = some (.lst (ss.map V.int)) ∧ ss.length ≤ 40 := by
        match i, hx with
        | 0, hx => cases hx; exact ⟨lm, ms, rfl, sH5 _ _ em4, hml⟩
        | 1, hx => cases hx; exact ⟨le, ev, rfl, sH5 _ _ k4, by omega⟩
        | 2, hx => cases hx; exact ⟨l3, _, rfl, kl3, by rw [List.length_take]; omega⟩
        | 3, hx => cases hx; exact ⟨l4, [], rfl, kl4, by decide⟩
        | n + 4, hx => simp at hx
      walk_at "rd"
      intro xa dxa nxa ndxa nexa
      have hss6 := s6 _ _ hss
      have s7 : Same H' (upd (upd H' dxa (.own xa)) xa (.ins C_Apart dxa [])) := fun b o e => by rw [upd_ne (ne_of_none e nxa), upd_ne (ne_of_none e ndxa)]; exact e
      refine ⟨xa, dxa, [], rfl, upd_same, rfl, _, ls, ss, rfl, sq_of (s7 _ _ hss6), by omega, fun H8 s8 => ?_⟩
      have s78 := s7.trans s8
      have hss8 := s78 _ _ hss6
      refine ⟨_, _, _, _, true, rfl, .ty _, .base (.bl _), kit_ty (by decide +kernel), true, rfl, iteT ⟨ls, ss, rfl, sq_of hss8, by omega, fun H9 s9 => ⟨rfl, ?_⟩⟩⟩
      rw [decide_eq_true rfl]
      refine ⟨false, rfl, iteF ⟨_, .inl (sq_of (s9 _ _ hss8)), by decide, fun lw nlw => ?_⟩⟩
      have mw := same_new (o := .lst [V.int wh]) nlw
      have sA : Same H4 H9 := sH5.trans (s6.trans (s78.trans s9))
      have ec9 := mw _ _ (sA _ _ ec)
      refine ⟨lc, lw, cs.map V.int, [V.int wh], rfl, rfl, ec9, upd_same, ?_, fun r nr => ⟨r, (cs ++ [wh]).map V.int, rfl, sq_of (by rw [upd_same, List.map_append]; rfl), ?_⟩⟩
      · rw [List.length_map]
        exact Nat.le_trans (show _ ≤ 100 by show cs.length + 1 ≤ 100; omega) (show 100 ≤ sizeLine by decide)
      have mr := same_new (o := .lst (cs.map V.int ++ [V.int wh])) nr
      obtain ⟨H10, e10⟩ : ∃ t, t = upd (upd H9 lw (.lst [V.int wh])) r (.lst (cs.map V.int ++ [V.int wh])) := ⟨_, rfl⟩
      have sB : Same H9 H10 := e10 ▸ mw.trans mr
      have kr : H10 r = some (.lst ((cs ++ [wh]).map V.int)) := by rw [e10, upd_same, List.map_append]; rfl
      rw [← e10]
      have hss10 := sB _ _ (s9 _ _ hss8)
      have esz : ((ss.map V.int).length : Int) = (ss.length : Int) := by rw [List.length_map]
      rw [esz]
      have hcw : ∀ z ∈ cs ++ [wh], B 1048640 z := fun z hz => by
        rcases List.mem_append.mp hz with hz | hz
        · exact (hcb z hz).mono (by decide)
        · rw [List.mem_singleton] at hz
          rw [hz]
          exact hw2
      refine for_enum (K := K) (a := r) (xs := (cs ++ [wh]).map V.int) (fun j σ H' => Same H10 H' ∧ ∃ y8 y9 y10 y11 y12 y13 y14 y15, σ = [some (.ref a), some (.int wh), some (.ref lm), some (.ref le), some (.ref lc), some (.ref ls), some (.bl (decide (SD.Sid ss))), some (.int ss.length), y8, y9, y10, y11, y12, y13, y14, y15])
        ⟨Same.refl _, _, _, _, _, _, _, _, _, rfl⟩ (fun j σ H' _ ⟨s, _⟩ => sq_of (s _ _ kr)) ?_ (fun σ H' ⟨s, y8, y9, y10, y11, y12, y13, y14, y15, e⟩ => ⟨s6.trans (s78.trans (s9.trans (sB.trans s))), _, _, _, y8, y9, y10, y11, y12, y13, y14, y15, e⟩)
      rintro j x T σ H11 hxj ⟨s11, y8, y9, y10, y11, y12, y13, y14, y15, rfl⟩ nT
      obtain ⟨z, hz, rfl⟩ := map_at hxj
      have hjl : j < 6 := by
        have := (List.getElem?_eq_some_iff.mp hxj).1
        rw [List.length_map, List.length_append, List.length_singleton] at this
        omega
      have mT := same_new (o := .tup [V.int (j : Nat), V.int z]) nT
      refine ⟨T, _, rfl, sqt_of upd_same, rfl, _, _, rfl, _, _, rfl, rfl, ?_⟩
      walk_at "rd"
      refine ⟨z, j, wh, 1048640, rfl, hcw z hz, hw2, by omega, by omega, by decide, fun num hnum => ?_⟩
      walk_at "rd"
      refine ⟨⟨by decide, by decide⟩, by omega, ⟨by decide, by decide⟩, by omega, ⟨by decide, by decide⟩, by omega, by decide, fun lp nlp => ?_⟩
      obtain ⟨a0, ea0⟩ : ∃ a0, a0 = num / 3 % ((ss.length : Int) + 2) - 1 := ⟨_, rfl⟩
      obtain ⟨a1, ea1⟩ : ∃ a1, a1 = num / 50 % ((ss.length : Int) + 1) := ⟨_, rfl⟩
      obtain ⟨a2, ea2⟩ : ∃ a2, a2 = num / 900 % ((ss.length : Int) + 1) := ⟨_, rfl⟩
      rw [← ea0, ← ea1, ← ea2]
      have mp := same_new (o := .lst [V.int a0, V.int a1, V.int a2]) nlp
      obtain ⟨H12, e12⟩ : ∃ t, t = upd (upd H11 T (.tup [V.int (j : Nat), V.int z])) lp (.lst [V.int a0, V.int a1, V.int a2]) := ⟨_, rfl⟩
      have s12 : Same H11 H12 := e12 ▸ mT.trans mp
      have klp : H12 lp = some (.lst [V.int a0, V.int a1, V.int a2]) := e12 ▸ upd_same
      rw [← e12]
      refine ⟨_, _, sq_of klp, atI_nat (j := 1) rfl, _, _, sq_of klp, atI_nat (j := 2) rfl, ?_⟩
      walk_at "rd"
      refine ⟨_, _, sq_of klp, atI_nat (j := 0) rfl, ?_⟩
      walk_at "rd"
      have ix0 : ∀ (σ : L2.St) (Hx : Hp), Same H12 Hx → σ[11]? = some (some (.ref lp)) → EvEH Hx (tOp (rIxL K) (tVar 11) (tC (V.int 0))) σ (.int a0) := fun σ Hx s e => eh_ixL (eh_var e) eh_c (sq_of (s _ _ klp)) (atI_nat (j := 0) rfl)
      have ix1 : ∀ (σ : L2.St) (Hx : Hp), Same H12 Hx → σ[11]? = some (some (.ref lp)) → EvEH Hx (tOp (rIxL K) (tVar 11) (tC (V.int 1))) σ (.int a1) := fun σ Hx s e => eh_ixL (eh_var e) eh_c (sq_of (s _ _ klp)) (atI_nat (j := 1) rfl)
      have ix2 : ∀ (σ : L2.St) (Hx : Hp), Same H12 Hx → σ[11]? = some (some (.ref lp)) → EvEH Hx (tOp (rIxL K) (tVar 11) (tC (V.int 2))) σ (.int a2) := fun σ Hx s e => eh_ixL (eh_var e) eh_c (sq_of (s _ _ klp)) (atI_nat (j := 2) rfl)
      refine ⟨(fun σ H' => Same H12 H' ∧ ∃ (lt : Addr) (xs : List V) (L : List (List Int × List Int)) (y14 y15 : Option V), σ = [some (.ref a), some (.int wh), some (.ref lm), some (.ref le), some (.ref lc), some (.ref ls), some (.bl (decide (SD.Sid ss))), some (.int ss.length), some (.int j), some (.int z), some (.int num), some (.ref lp), some (.int (a1 + a2 - a0)), some (.ref lt), y14, y15] ∧ H' lt = some (.lst xs) ∧ IPP L xs H' ∧ L.length ≤ 2), ?_, ?_⟩
      · refine asg_pp (σ := [some (.ref a), some (.int wh), some (.ref lm), some (.ref le), some (.ref lc), some (.ref ls), some (.bl (decide (SD.Sid ss))), some (.int ss.length), some (.int j), some (.int z), some (.int num), some (.ref lp), some (.int (a1 + a2 - a0)), y13, y14, y15]) (pp_cons (et_tup (is_cons (ix0 _ _ (Same.refl _) rfl) (is_cons (ix1 _ _ (Same.refl _) rfl) is_nil)) (Nat.le_of_ble_eq_true rfl)) (et_tup (is_cons (ix2 _ _ (Same.refl _) rfl) (is_cons (ix2 _ _ (Same.refl _) rfl) is_nil)) (Nat.le_of_ble_eq_true rfl)) (pp_cons (et_tup (is_cons (ix0 _ _ (Same.refl _) rfl) (is_cons (eh_var rfl) is_nil)) (Nat.le_of_ble_eq_true rfl)) (et_tup (is_cons (ix1 _ _ (Same.refl _) rfl) (is_cons (ix2 _ _ (Same.refl _) rfl) is_nil)) (Nat.le_of_ble_eq_true rfl)) pp_nil)) (by show 2 ≤ 1000; decide) fun lt xs H' s n e i => ⟨s, lt, xs, _, _, _, rfl, e, i, by show 2 ≤ 2; decide⟩
      rintro σ H13 ⟨s13, lt, xs, L, y14, y15, rfl, elt, iL, lL⟩
      refine ⟨(fun σ H' => Same H12 H' ∧ ∃ (lt : Addr) (xs : List V) (L : List (List Int × List Int)) (y14 y15 : Option V), σ = [some (.ref a), some (.int wh), some (.ref lm), some (.ref le), some (.ref lc), some (.ref ls), some (.bl (decide (SD.Sid ss))), some (.int ss.length), some (.int j), some (.int z), some (.int num), some (.ref lp), some (.int (a1 + a2 - a0)), some (.ref lt), y14, y15] ∧ H' lt = some (.lst xs) ∧ IPP L xs H' ∧ L.length ≤ 4), ?_, ?_⟩
      · refine cat_pp (eh_var rfl) elt iL (pp_cons (et_tup (is_cons (ix1 _ _ s13 rfl) (is_cons (ix2 _ _ s13 rfl) is_nil)) (Nat.le_of_ble_eq_true rfl)) (et_tup (is_cons (ix1 _ _ s13 rfl) (is_cons (ix2 _ _ s13 rfl) is_nil)) (Nat.le_of_ble_eq_true rfl)) (pp_cons (et_tup (is_cons (ix2 _ _ s13 rfl) (is_cons (ix1 _ _ s13 rfl) is_nil)) (Nat.le_of_ble_eq_true rfl)) (et_tup (is_cons (ix1 _ _ s13 rfl) (is_cons (ix2 _ _ s13 rfl) is_nil)) (Nat.le_of_ble_eq_true rfl)) pp_nil)) (by show L.length + 2 ≤ 1000; omega) fun lt xs H' s n e i => ⟨s13.trans s, lt, xs, _, _, _, rfl, e, i, by rw [List.length_append]; show L.length + 2 ≤ 4; omega⟩
      rintro σ H13 ⟨s13, lt, xs, L, y14, y15, rfl, elt, iL, lL⟩
      refine ⟨(fun σ H' => Same H12 H' ∧ ∃ (lt : Addr) (xs : List V) (L : List (List Int × List Int)) (y14 y15 : Option V), σ = [some (.ref a), some (.int wh), some (.ref lm), some (.ref le), some (.ref lc), some (.ref ls), some (.bl (decide (SD.Sid ss))), some (.int ss.length), some (.int j), some (.int z), some (.int num), some (.ref lp), some (.int (a1 + a2 - a0)), some (.ref lt), y14, y15] ∧ H' lt = some (.lst xs) ∧ IPP L xs H' ∧ L.length ≤ 8), ?_, ?_⟩
      · refine cat_pp (eh_var rfl) elt iL (pp_cons (et_tup (is_cons eh_c (is_cons eh_c is_nil)) (Nat.le_of_ble_eq_true rfl)) (et_tup (is_cons eh_c (is_cons eh_c is_nil)) (Nat.le_of_ble_eq_true rfl)) (pp_cons (et_tup (is_cons eh_c (is_cons eh_c is_nil)) (Nat.le_of_ble_eq_true rfl)) (et_tup (is_cons (eh_I0 (eh_var rfl) eh_c) (is_cons (eh_I0 (eh_var rfl) eh_c) is_nil)) (Nat.le_of_ble_eq_true rfl)) (pp_cons (et_tup (is_cons (eh_U eh_c) (is_cons eh_c is_nil)) (Nat.le_of_ble_eq_true rfl)) (et_tup (is_cons eh_c (is_cons eh_c is_nil)) (Nat.le_of_ble_eq_true rfl)) (pp_cons (et_tup (is_cons eh_c is_nil) (Nat.le_of_ble_eq_true rfl)) (et_tup (is_cons eh_c (is_cons eh_c is_nil)) (Nat.le_of_ble_eq_true rfl)) pp_nil)))) (by show L.length + 4 ≤ 1000; omega) fun lt xs H' s n e i => ⟨s13.trans s, lt, xs, _, _, _, rfl, e, i, by rw [List.length_append]; show L.length + 4 ≤ 8; omega⟩
      rintro σ H13 ⟨s13, lt, xs, L, y14, y15, rfl, elt, iL, lL⟩
      refine ⟨(fun σ H' => Same H12 H' ∧ ∃ (lt : Addr) (xs : List V) (L : List (List Int × List Int)) (y14 y15 : Option V), σ = [some (.ref a), some (.int wh), some (.ref lm), some (.ref le), some (.ref lc), some (.ref ls), some (.bl (decide (SD.Sid ss))), some (.int ss.length), some (.int j), some (.int z), some (.int num), some (.ref lp), some (.int (a1 + a2 - a0)), some (.ref lt), y14, y15] ∧ H' lt = some (.lst xs) ∧ IPP L xs H' ∧ L.length ≤ 13), ?_, ?_⟩
      · refine cat_pp (eh_var rfl) elt iL (pp_cons (et_tup (is_cons eh_c (is_cons (eh_var rfl) is_nil)) (Nat.le_of_ble_eq_true rfl)) (et_tup (is_cons eh_c (is_cons eh_c is_nil)) (Nat.le_of_ble_eq_true rfl)) (pp_cons (et_tup (is_cons eh_c (is_cons eh_c (is_cons eh_c is_nil))) (Nat.le_of_ble_eq_true rfl)) (et_tup (is_cons eh_c (is_cons eh_c is_nil)) (Nat.le_of_ble_eq_true rfl)) (pp_cons (et_tup (is_cons eh_c (is_cons eh_c is_nil)) (Nat.le_of_ble_eq_true rfl)) (et_tup (is_cons eh_c (is_cons eh_c is_nil)) (Nat.le_of_ble_eq_true rfl)) (pp_cons (et_tup (is_cons eh_c (is_cons eh_c is_nil)) (Nat.le_of_ble_eq_true rfl)) (et_tup (is_cons eh_c (is_cons eh_c is_nil)) (Nat.le_of_ble_eq_true rfl)) (pp_cons (et_tup is_nil (Nat.le_of_ble_eq_true rfl)) (et_tup is_nil (Nat.le_of_ble_eq_true rfl)) pp_nil))))) (by show L.length + 5 ≤ 1000; omega) fun lt xs H' s n e i => ⟨s13.trans s, lt, xs, _, _, _, rfl, e, i, by rw [List.length_append]; show L.length + 5 ≤ 13; omega⟩
      rintro σ H13 ⟨s13, lt, xs, L, y14, y15, rfl, elt, iL, lL⟩
      walk_at "rd"
      refine ⟨⟨_, sq_of elt⟩, for_list (K := K) (a := lt) (xs := xs) (fun i σ H' => Same H13 H' ∧ ∃ y14 y15, σ = [some (.ref a), some (.int wh), some (.ref lm), some (.ref le), some (.ref lc), some (.ref ls), some (.bl (decide (SD.Sid ss))), some (.int ss.length), some (.int j), some (.int z), some (.int num), some (.ref lp), some (.int (a1 + a2 - a0)), some (.ref lt), y14, y15])
        ⟨Same.refl _, _, _, rfl⟩ (fun i σ H' _ ⟨s, _⟩ => sq_of (s _ _ elt)) ?_ (fun σ H' ⟨s, y14, y15, e⟩ => ⟨s11.trans (s12.trans (s13.trans s)), _, _, _, _, _, _, _, _, e⟩)⟩
      rintro i x σ H' hi ⟨s14, y14, y15, rfl⟩
      obtain ⟨os, ts, p, q1, q2, _, rfl, hp, h1, h2⟩ := (iL.mono s14).at hi
      refine ⟨p, _, rfl, sqt_of hp, rfl, _, _, rfl, _, _, rfl, rfl, ?_⟩
      walk_at "rd"
      exact ⟨ls, q1, q2, ss, os, ts, rfl, sq_of (s14 _ _ (s13 _ _ (s12 _ _ (s11 _ _ hss10)))), h1, h2, fun H15 s15 => ⟨true, rfl, iteT ⟨s14.trans s15, _, _, rfl⟩⟩⟩
    · rintro σ H5 ⟨s5, y5, y6, y7, y8, y9, y10, y11, y12, y13, y14, y15, rfl⟩
      walk_at "rd"
      refine ⟨by decide, fun t1 n1 => ⟨by decide, fun t2 n2 => make_same fun x dx H6 nx s6 ex => ⟨x, dx, _, rfl, ex, rfl, by decide, fun l1 nl1 => ?_⟩⟩⟩
      have m1 := same_new (o := .tup [V.int 0, V.int 2]) n1
      have m2 := same_new (o := .tup [V.int 1, V.int 1]) n2
      have m3 := same_new (o := .lst [V.int 4, V.int 5, V.int 6]) nl1
      refine ⟨x, dx, t1, t2, l1, [0, 2], [1, 1], [4, 5, 6], rfl, m3 _ _ ex, m3 _ _ (s6 _ _ (m2 _ _ upd_same)), m3 _ _ (s6 _ _ upd_same), sq_of upd_same, fun H7 s7 => ?_⟩
      rw [show goodB [4, 5, 6] [0, 2] [1, 1] = true by decide]
      refine ⟨true, true, rfl, rfl, true, rfl, iteT ⟨by decide, fun t3 n3 => ⟨by decide, fun t4 n4 => make_same fun x2 dx2 H8 nx2 s8 ex2 => ⟨x2, dx2, _, rfl, ex2, rfl, by decide, fun l2 nl2 => ?_⟩⟩⟩⟩
      have m4 := same_new (o := .tup [V.int 0, V.int 1]) n3
      have m5 := same_new (o := .tup [V.int 0, V.int 1]) n4
      have m6 := same_new (o := .lst [V.int 4, V.int 5, V.int 6]) nl2
      refine ⟨x2, dx2, t3, t4, l2, [0, 1], [0, 1], [4, 5, 6], rfl, m6 _ _ ex2, m6 _ _ (s8 _ _ (m5 _ _ upd_same)), m6 _ _ (s8 _ _ upd_same), sq_of upd_same, fun H9 s9 => ?_⟩
      rw [show goodB [4, 5, 6] [0, 1] [0, 1] = false by decide]
      exact ⟨false, false, rfl, rfl, q _⟩
end
end Sa
namespace Sa
open PySem PySem.Spec PyProof.Rows L2 Evl
theorem def_mk {K : PySem.W.Frag} {h : Heap} {mg : Str → Option Value} {x : Str} {st : Stmt} {ps : List Str} {f : Addr} {oc : Value} {od an : Option Addr} {osl : Array (Option Value)} {kV doc pm cdv ct : Value} (X : K.In h) (G : h.Ns mainGlobals mg)
    (a : PySem.W.nsIn K mainGlobals x = some (some (.ref f))) (l : K.lookup f = some ⟨oc, od, .func (PySem.W.fnOf x x (defArgs st) (defBody st) (defScope st) .none kV doc pm an cdv ct), osl⟩) (c : PySem.W.codeIn K cdv x = true) (k : PySem.W.keepIn K (.ref f) = true)
    (hb : ∀ (kV doc pm : Value) (an : Option Addr) (cdv ct : Value) (us : List Value), us.length = ps.length → bindArgs (PySem.W.fnOf x x (defArgs st) (defBody st) (defScope st) .none kV doc pm an cdv ct) ⟨us, []⟩ = pure (ps.zip us)) :
    DefAt K mg x x st ps f (PySem.W.fnOf x x (defArgs st) (defBody st) (defScope st) .none kV doc pm an cdv ct) :=
  ⟨fun_mk l c k, (fun_mk l c k).binds hb, PySem.W.mg_of X G a⟩
theorem meth_mk {K : PySem.W.Frag} {C : Addr} {m q : Str} {st : Stmt} {ps : List Str} {f : Addr} {oc : Value} {od an : Option Addr} {osl : Array (Option Value)} {kV doc pm cdv ct : Value}
    (a : PySem.W.findIn K (.ref C) m = some (some (.ref f))) (i : PySem.W.isFn K (.ref f) = true) (l : K.lookup f = some ⟨oc, od, .func (PySem.W.fnOf m q (defArgs st) (defBody st) (defScope st) .none kV doc pm an cdv ct), osl⟩) (c : PySem.W.codeIn K cdv q = true) (k : PySem.W.keepIn K (.ref f) = true)
    (hb : ∀ (kV doc pm : Value) (an : Option Addr) (cdv ct : Value) (us : List Value), us.length = ps.length → bindArgs (PySem.W.fnOf m q (defArgs st) (defBody st) (defScope st) .none kV doc pm an cdv ct) ⟨us, []⟩ = pure (ps.zip us)) :
    MethAt K C m q st ps f (PySem.W.fnOf m q (defArgs st) (defBody st) (defScope st) .none kV doc pm an cdv ct) :=
  ⟨fun_mk l c k, (fun_mk l c k).binds hb, ⟨a, i, k⟩⟩
theorem all_mk {l : PySem.W.OpenLaw} {w : World} {K : PySem.W.Frag} {h : Heap} {mg : Str → Option Value} {fa : Addr} (X : K.In h) (G : h.Ns mainGlobals mg) (hfa : mg "law" = some (.ref fa))
    {f_first_same : Addr} {od_first_same an_first_same : Option Addr} {sl_first_same : Array (Option Value)} {oc_first_same kV_first_same dc_first_same pm_first_same cd_first_same ct_first_same : Value}
    {f__law_number : Addr} {od__law_number an__law_number : Option Addr} {sl__law_number : Array (Option Value)} {oc__law_number kV__law_number dc__law_number pm__law_number cd__law_number ct__law_number : Value}
    {f__law_whole : Addr} {od__law_whole an__law_whole : Option Addr} {sl__law_whole : Array (Option Value)} {oc__law_whole kV__law_whole dc__law_whole pm__law_whole cd__law_whole ct__law_whole : Value}
    {f__law_marks : Addr} {od__law_marks an__law_marks : Option Addr} {sl__law_marks : Array (Option Value)} {oc__law_marks kV__law_marks dc__law_marks pm__law_marks cd__law_marks ct__law_marks : Value}
    {f__law_apart : Addr} {od__law_apart an__law_apart : Option Addr} {sl__law_apart : Array (Option Value)} {oc__law_apart kV__law_apart dc__law_apart pm__law_apart cd__law_apart ct__law_apart : Value}
    {f__law_right : Addr} {od__law_right an__law_right : Option Addr} {sl__law_right : Array (Option Value)} {oc__law_right kV__law_right dc__law_right pm__law_right cd__law_right ct__law_right : Value}
    {f_law : Addr} {od_law an_law : Option Addr} {sl_law : Array (Option Value)} {oc_law kV_law dc_law pm_law cd_law ct_law : Value}
    {C_Apart : Addr}
    {f_Apart_shows : Addr} {od_Apart_shows an_Apart_shows : Option Addr} {sl_Apart_shows : Array (Option Value)} {oc_Apart_shows kV_Apart_shows dc_Apart_shows pm_Apart_shows cd_Apart_shows ct_Apart_shows : Value}
    {C_Same : Addr}
    {f_Same_init : Addr} {od_Same_init an_Same_init : Option Addr} {sl_Same_init : Array (Option Value)} {oc_Same_init kV_Same_init dc_Same_init pm_Same_init cd_Same_init ct_Same_init : Value}
    {f_Same_shows : Addr} {od_Same_shows an_Same_shows : Option Addr} {sl_Same_shows : Array (Option Value)} {oc_Same_shows kV_Same_shows dc_Same_shows pm_Same_shows cd_Same_shows ct_Same_shows : Value}
    (a_first_same : PySem.W.nsIn K mainGlobals "first_same" = some (some (.ref f_first_same))) (l_first_same : K.lookup f_first_same = some ⟨oc_first_same, od_first_same, .func (PySem.W.fnOf "first_same" "first_same" (defArgs s_first_same) (defBody s_first_same) (defScope s_first_same) .none kV_first_same dc_first_same pm_first_same an_first_same cd_first_same ct_first_same), sl_first_same⟩) (c_first_same : PySem.W.codeIn K cd_first_same "first_same" = true) (k_first_same : PySem.W.keepIn K (.ref f_first_same) = true)
    (a__law_number : PySem.W.nsIn K mainGlobals "_law_number" = some (some (.ref f__law_number))) (l__law_number : K.lookup f__law_number = some ⟨oc__law_number, od__law_number, .func (PySem.W.fnOf "_law_number" "_law_number" (defArgs s__law_number) (defBody s__law_number) (defScope s__law_number) .none kV__law_number dc__law_number pm__law_number an__law_number cd__law_number ct__law_number), sl__law_number⟩) (c__law_number : PySem.W.codeIn K cd__law_number "_law_number" = true) (k__law_number : PySem.W.keepIn K (.ref f__law_number) = true)
    (a__law_whole : PySem.W.nsIn K mainGlobals "_law_whole" = some (some (.ref f__law_whole))) (l__law_whole : K.lookup f__law_whole = some ⟨oc__law_whole, od__law_whole, .func (PySem.W.fnOf "_law_whole" "_law_whole" (defArgs s__law_whole) (defBody s__law_whole) (defScope s__law_whole) .none kV__law_whole dc__law_whole pm__law_whole an__law_whole cd__law_whole ct__law_whole), sl__law_whole⟩) (c__law_whole : PySem.W.codeIn K cd__law_whole "_law_whole" = true) (k__law_whole : PySem.W.keepIn K (.ref f__law_whole) = true)
    (a__law_marks : PySem.W.nsIn K mainGlobals "_law_marks" = some (some (.ref f__law_marks))) (l__law_marks : K.lookup f__law_marks = some ⟨oc__law_marks, od__law_marks, .func (PySem.W.fnOf "_law_marks" "_law_marks" (defArgs s__law_marks) (defBody s__law_marks) (defScope s__law_marks) .none kV__law_marks dc__law_marks pm__law_marks an__law_marks cd__law_marks ct__law_marks), sl__law_marks⟩) (c__law_marks : PySem.W.codeIn K cd__law_marks "_law_marks" = true) (k__law_marks : PySem.W.keepIn K (.ref f__law_marks) = true)
    (a__law_apart : PySem.W.nsIn K mainGlobals "_law_apart" = some (some (.ref f__law_apart))) (l__law_apart : K.lookup f__law_apart = some ⟨oc__law_apart, od__law_apart, .func (PySem.W.fnOf "_law_apart" "_law_apart" (defArgs s__law_apart) (defBody s__law_apart) (defScope s__law_apart) .none kV__law_apart dc__law_apart pm__law_apart an__law_apart cd__law_apart ct__law_apart), sl__law_apart⟩) (c__law_apart : PySem.W.codeIn K cd__law_apart "_law_apart" = true) (k__law_apart : PySem.W.keepIn K (.ref f__law_apart) = true)
    (a__law_right : PySem.W.nsIn K mainGlobals "_law_right" = some (some (.ref f__law_right))) (l__law_right : K.lookup f__law_right = some ⟨oc__law_right, od__law_right, .func (PySem.W.fnOf "_law_right" "_law_right" (defArgs s__law_right) (defBody s__law_right) (defScope s__law_right) .none kV__law_right dc__law_right pm__law_right an__law_right cd__law_right ct__law_right), sl__law_right⟩) (c__law_right : PySem.W.codeIn K cd__law_right "_law_right" = true) (k__law_right : PySem.W.keepIn K (.ref f__law_right) = true)
    (a_law : PySem.W.nsIn K mainGlobals "law" = some (some (.ref f_law))) (l_law : K.lookup f_law = some ⟨oc_law, od_law, .func (PySem.W.fnOf "law" "law" (defArgs s_law) (defBody s_law) (defScope s_law) .none kV_law dc_law pm_law an_law cd_law ct_law), sl_law⟩) (c_law : PySem.W.codeIn K cd_law "law" = true) (k_law : PySem.W.keepIn K (.ref f_law) = true)
    (z_len : PySem.W.nsIn K mainGlobals "len" = some none)
    (z_isinstance : PySem.W.nsIn K mainGlobals "isinstance" = some none)
    (z_int : PySem.W.nsIn K mainGlobals "int" = some none)
    (z_bool : PySem.W.nsIn K mainGlobals "bool" = some none)
    (z_list : PySem.W.nsIn K mainGlobals "list" = some none)
    (z_tuple : PySem.W.nsIn K mainGlobals "tuple" = some none)
    (z_str : PySem.W.nsIn K mainGlobals "str" = some none)
    (z_range : PySem.W.nsIn K mainGlobals "range" = some none)
    (z_sum : PySem.W.nsIn K mainGlobals "sum" = some none)
    (z_min : PySem.W.nsIn K mainGlobals "min" = some none)
    (z_max : PySem.W.nsIn K mainGlobals "max" = some none)
    (z_any : PySem.W.nsIn K mainGlobals "any" = some none)
    (z_all : PySem.W.nsIn K mainGlobals "all" = some none)
    (z_sorted : PySem.W.nsIn K mainGlobals "sorted" = some none)
    (z_set : PySem.W.nsIn K mainGlobals "set" = some none)
    (z_enumerate : PySem.W.nsIn K mainGlobals "enumerate" = some none)
    (z_abs : PySem.W.nsIn K mainGlobals "abs" = some none)
    (oh_Apart : PySem.W.nsIn K mainGlobals "Apart" = some (some (.ref C_Apart))) (o1_Apart : PySem.W.plainGet K C_Apart Str.empty = true) (o2_Apart : PySem.W.hasDictIn K C_Apart = true) (o3_Apart : PySem.W.plainOver K C_Apart = true) (o4_Apart : PySem.W.findIn K (.ref C_Apart) "__setattr__" = some (some (.builtin "object.__setattr__")))
    (o5_Apart : PySem.W.findIn K (.ref C_Apart) "__class__" = some (some (.builtin "object.__class__"))) (o6_Apart : PySem.W.specialIn K (.builtin "object.__class__") "__get__" = some (some (.builtin "getset_descriptor.__get__"))) (o7_Apart : PySem.W.takesIn K (.builtin "object.__class__") = some true) (o8_Apart : PySem.W.mroIn K C_Apart (.type "object") = some true) (o9_Apart : PySem.W.isClsIn K C_Apart = true) (oa_Apart : PySem.W.typeIn K (.ref C_Apart) = some (.type "type")) (ob_Apart : PySem.W.subIn K (.ref C_Apart) (.ref C_Apart) = some true)
    (mm_Apart : PySem.W.makesIn K C_Apart = true) (mp_Apart : PySem.W.keepIn K (.ref C_Apart) = true)
    (mi_Apart : PySem.W.findIn K (.ref C_Apart) "__init__" = some (some (.builtin "object.__init__")))
    (a_Apart_shows : PySem.W.findIn K (.ref C_Apart) "shows" = some (some (.ref f_Apart_shows))) (l_Apart_shows : K.lookup f_Apart_shows = some ⟨oc_Apart_shows, od_Apart_shows, .func (PySem.W.fnOf "shows" "Apart.shows" (defArgs s_Apart_shows) (defBody s_Apart_shows) (defScope s_Apart_shows) .none kV_Apart_shows dc_Apart_shows pm_Apart_shows an_Apart_shows cd_Apart_shows ct_Apart_shows), sl_Apart_shows⟩) (c_Apart_shows : PySem.W.codeIn K cd_Apart_shows "Apart.shows" = true) (k_Apart_shows : PySem.W.keepIn K (.ref f_Apart_shows) = true) (i_Apart_shows : PySem.W.isFn K (.ref f_Apart_shows) = true)
    (oh_Same : PySem.W.nsIn K mainGlobals "Same" = some (some (.ref C_Same))) (o1_Same : PySem.W.plainGet K C_Same Str.empty = true) (o2_Same : PySem.W.hasDictIn K C_Same = true) (o3_Same : PySem.W.plainOver K C_Same = true) (o4_Same : PySem.W.findIn K (.ref C_Same) "__setattr__" = some (some (.builtin "object.__setattr__")))
    (o5_Same : PySem.W.findIn K (.ref C_Same) "__class__" = some (some (.builtin "object.__class__"))) (o6_Same : PySem.W.specialIn K (.builtin "object.__class__") "__get__" = some (some (.builtin "getset_descriptor.__get__"))) (o7_Same : PySem.W.takesIn K (.builtin "object.__class__") = some true) (o8_Same : PySem.W.mroIn K C_Same (.type "object") = some true) (o9_Same : PySem.W.isClsIn K C_Same = true) (oa_Same : PySem.W.typeIn K (.ref C_Same) = some (.type "type")) (ob_Same : PySem.W.subIn K (.ref C_Same) (.ref C_Same) = some true)
    (mm_Same : PySem.W.makesIn K C_Same = true) (mp_Same : PySem.W.keepIn K (.ref C_Same) = true)
    (a_Same_init : PySem.W.findIn K (.ref C_Same) "__init__" = some (some (.ref f_Same_init))) (l_Same_init : K.lookup f_Same_init = some ⟨oc_Same_init, od_Same_init, .func (PySem.W.fnOf "__init__" "Same.__init__" (defArgs s_Same_init) (defBody s_Same_init) (defScope s_Same_init) .none kV_Same_init dc_Same_init pm_Same_init an_Same_init cd_Same_init ct_Same_init), sl_Same_init⟩) (c_Same_init : PySem.W.codeIn K cd_Same_init "Same.__init__" = true) (k_Same_init : PySem.W.keepIn K (.ref f_Same_init) = true) (i_Same_init : PySem.W.isFn K (.ref f_Same_init) = true)
    (nn_Same_one : PySem.W.findIn K (.ref C_Same) "one" = some none) (nn_Same_other : PySem.W.findIn K (.ref C_Same) "other" = some none)
    (a_Same_shows : PySem.W.findIn K (.ref C_Same) "shows" = some (some (.ref f_Same_shows))) (l_Same_shows : K.lookup f_Same_shows = some ⟨oc_Same_shows, od_Same_shows, .func (PySem.W.fnOf "shows" "Same.shows" (defArgs s_Same_shows) (defBody s_Same_shows) (defScope s_Same_shows) .none kV_Same_shows dc_Same_shows pm_Same_shows an_Same_shows cd_Same_shows ct_Same_shows), sl_Same_shows⟩) (c_Same_shows : PySem.W.codeIn K cd_Same_shows "Same.shows" = true) (k_Same_shows : PySem.W.keepIn K (.ref f_Same_shows) = true) (i_Same_shows : PySem.W.isFn K (.ref f_Same_shows) = true) :
    ∃ fd : FuncData, (∀ (s : Shared) (v : Value), BindsTo s fd ⟨[v], []⟩ [("_law_script", v)]) ∧ ∀ base : Heap, K.In base → base.Ns mainGlobals mg → FnOk l.prog w K mg base CX0 5 fa fd ["_law_script"] (spLaw K) := by
  have e := hfa.symm.trans (PySem.W.mg_of X G a_law)
  cases e
  have D_first_same := def_mk (x := "first_same") (st := s_first_same) (ps := ["marks"]) X G a_first_same l_first_same c_first_same k_first_same fun _ _ _ _ _ _ us hl => match us, hl with | [_], _ => rfl
  have D__law_number := def_mk (x := "_law_number") (st := s__law_number) (ps := ["_law_cell", "_law_at", "_law_whole_here"]) X G a__law_number l__law_number c__law_number k__law_number fun _ _ _ _ _ _ us hl => match us, hl with | [_, _, _], _ => rfl
  have D__law_whole := def_mk (x := "_law_whole") (st := s__law_whole) (ps := ["_law_number_here"]) X G a__law_whole l__law_whole c__law_whole k__law_whole fun _ _ _ _ _ _ us hl => match us, hl with | [_], _ => rfl
  have D__law_marks := def_mk (x := "_law_marks") (st := s__law_marks) (ps := ["_law_script"]) X G a__law_marks l__law_marks c__law_marks k__law_marks fun _ _ _ _ _ _ us hl => match us, hl with | [_], _ => rfl
  have D__law_apart := def_mk (x := "_law_apart") (st := s__law_apart) (ps := ["_law_marks_here"]) X G a__law_apart l__law_apart c__law_apart k__law_apart fun _ _ _ _ _ _ us hl => match us, hl with | [_], _ => rfl
  have D__law_right := def_mk (x := "_law_right") (st := s__law_right) (ps := ["_law_marks_here", "_law_one", "_law_other"]) X G a__law_right l__law_right c__law_right k__law_right fun _ _ _ _ _ _ us hl => match us, hl with | [_, _, _], _ => rfl
  have D_law := def_mk (x := "law") (st := s_law) (ps := ["_law_script"]) X G a_law l_law c_law k_law fun _ _ _ _ _ _ us hl => match us, hl with | [_], _ => rfl
  have T : Blt mg := ⟨PySem.W.mg_none_of X G z_len, PySem.W.mg_none_of X G z_isinstance, PySem.W.mg_none_of X G z_int, PySem.W.mg_none_of X G z_bool, PySem.W.mg_none_of X G z_list, PySem.W.mg_none_of X G z_tuple, PySem.W.mg_none_of X G z_str, PySem.W.mg_none_of X G z_range, PySem.W.mg_none_of X G z_sum, PySem.W.mg_none_of X G z_min, PySem.W.mg_none_of X G z_max, PySem.W.mg_none_of X G z_any, PySem.W.mg_none_of X G z_all, PySem.W.mg_none_of X G z_sorted, PySem.W.mg_none_of X G z_set, PySem.W.mg_none_of X G z_enumerate, PySem.W.mg_none_of X G z_abs⟩
  have cl_Apart : Cls K C_Apart := ⟨o1_Apart, o2_Apart, o3_Apart, o4_Apart⟩
  have X_Apart : ClsX K mg "Apart" C_Apart := ⟨PySem.W.mg_of X G oh_Apart, cl_Apart, o5_Apart, o6_Apart, o7_Apart, o8_Apart, o9_Apart, oa_Apart, ob_Apart⟩
  have M_Apart : Mk0 K C_Apart := ⟨mm_Apart, mi_Apart, o8_Apart, mp_Apart⟩
  have D_Apart_shows := meth_mk (C := C_Apart) (m := "shows") (q := "Apart.shows") (st := s_Apart_shows) (ps := ["self", "marks"]) a_Apart_shows i_Apart_shows l_Apart_shows c_Apart_shows k_Apart_shows fun _ _ _ _ _ _ us hl => match us, hl with | [_, _], _ => rfl
  have cl_Same : Cls K C_Same := ⟨o1_Same, o2_Same, o3_Same, o4_Same⟩
  have X_Same : ClsX K mg "Same" C_Same := ⟨PySem.W.mg_of X G oh_Same, cl_Same, o5_Same, o6_Same, o7_Same, o8_Same, o9_Same, oa_Same, ob_Same⟩
  have D_Same_init := meth_mk (C := C_Same) (m := "__init__") (q := "Same.__init__") (st := s_Same_init) (ps := ["self", "one", "other"]) a_Same_init i_Same_init l_Same_init c_Same_init k_Same_init fun _ _ _ _ _ _ us hl => match us, hl with | [_, _, _], _ => rfl
  have M_Same : Mk K C_Same f_Same_init := ⟨mm_Same, a_Same_init, i_Same_init, mp_Same⟩
  have D_Same_shows := meth_mk (C := C_Same) (m := "shows") (q := "Same.shows") (st := s_Same_shows) (ps := ["self", "marks"]) a_Same_shows i_Same_shows l_Same_shows c_Same_shows k_Same_shows fun _ _ _ _ _ _ us hl => match us, hl with | [_, _], _ => rfl
  refine ⟨PySem.W.fnOf "law" "law" (defArgs s_law) (defBody s_law) (defScope s_law) .none kV_law dc_law pm_law an_law cd_law ct_law, fun s v => .of_eq rfl, fun base _ _ => ?_⟩
  have S : SameAt K C_Same := ⟨cl_Same, nn_Same_one, nn_Same_other⟩
  have G_first : FnOk l.prog w K mg base CX0 1 _ _ ["marks"] (spFirst K) := ok_first T D_first_same.F
  have G_number : FnOk l.prog w K mg base CX0 1 _ _ ["_law_cell", "_law_at", "_law_whole_here"] spNumber := ok_number D__law_number.F
  exact ok_law T D_law.F S X_Same M_Same X_Apart M_Apart D_Same_init D_Same_shows D_Apart_shows (ok_shows_a T D_Apart_shows.F D_first_same G_first) D__law_number G_number D__law_marks (ok_marks T D__law_marks.F D__law_number G_number) D__law_apart (ok_apart T D__law_apart.F) D__law_right (ok_right5 T D__law_right.F S X_Same M_Same D_Same_init D_Same_shows)
end Sa
open PySem PySem.W PyProof.Rows
set_option maxHeartbeats 0 in
theorem PySem.Challenge.cw_sumsapart_k05_answers_by_hand_holds : PySem.Challenge.rw_sumsapart_k05_answers_by_hand.Holds := by
  w_on; o_law; k_head; (case hw => w_witness2)
  k_fill
  refine L2.walk_ofB (l := PySem.Challenge.rw_sumsapart_k05_answers_by_hand) (n := 63) (k := 5) (x := "_law_script") (CX := fun _ => L2.CX0) (sp := fun w => Sa.spLaw _) rfl (by decide) rfl ⟨rfl, by decide, by decide⟩ (fun w h Y => PySem.W.kIn_of Y) ?F (fun _ _ a ns hl hb _ hS => ⟨a, ns, rfl, hS, hl, fun z hz => Sa.B.bits (hb z hz), fun _ => rfl⟩) (fun _ _ _ _ _ h => h)
  case F =>
    intro w mg fa h KX G hmg
    refine' Sa.all_mk KX G hmg ?a_first_same ?l_first_same ?c_first_same ?k_first_same ?a__law_number ?l__law_number ?c__law_number ?k__law_number ?a__law_whole ?l__law_whole ?c__law_whole ?k__law_whole ?a__law_marks ?l__law_marks ?c__law_marks ?k__law_marks ?a__law_apart ?l__law_apart ?c__law_apart ?k__law_apart ?a__law_right ?l__law_right ?c__law_right ?k__law_right ?a_law ?l_law ?c_law ?k_law ?z_len ?z_isinstance ?z_int ?z_bool ?z_list ?z_tuple ?z_str ?z_range ?z_sum ?z_min ?z_max ?z_any ?z_all ?z_sorted ?z_set ?z_enumerate ?z_abs ?oh_Apart ?o1_Apart ?o2_Apart ?o3_Apart ?o4_Apart ?o5_Apart ?o6_Apart ?o7_Apart ?o8_Apart ?o9_Apart ?oa_Apart ?ob_Apart ?mm_Apart ?mp_Apart ?mi_Apart ?a_Apart_shows ?l_Apart_shows ?c_Apart_shows ?k_Apart_shows ?i_Apart_shows ?oh_Same ?o1_Same ?o2_Same ?o3_Same ?o4_Same ?o5_Same ?o6_Same ?o7_Same ?o8_Same ?o9_Same ?oa_Same ?ob_Same ?mm_Same ?mp_Same ?a_Same_init ?l_Same_init ?c_Same_init ?k_Same_init ?i_Same_init ?nn_Same_one ?nn_Same_other ?a_Same_shows ?l_Same_shows ?c_Same_shows ?k_Same_shows ?i_Same_shows
    (case a_first_same => k_is)
    (case l_first_same => k_is)
    (case c_first_same => k_is)
    (case k_first_same => k_is)
    (case a__law_number => k_is)
    (case l__law_number => k_is)
    (case c__law_number => k_is)
    (case k__law_number => k_is)
    (case a__law_whole => k_is)
    (case l__law_whole => k_is)
    (case c__law_whole => k_is)
    (case k__law_whole => k_is)
    (case a__law_marks => k_is)
    (case l__law_marks => k_is)
    (case c__law_marks => k_is)
    (case k__law_marks => k_is)
    (case a__law_apart => k_is)
    (case l__law_apart => k_is)
    (case c__law_apart => k_is)
    (case k__law_apart => k_is)
    (case a__law_right => k_is)
    (case l__law_right => k_is)
    (case c__law_right => k_is)
    (case k__law_right => k_is)
    (case a_law => k_is)
    (case l_law => k_is)
    (case c_law => k_is)
    (case k_law => k_is)
    (case z_len => k_is)
    (case z_isinstance => k_is)
    (case z_int => k_is)
    (case z_bool => k_is)
    (case z_list => k_is)
    (case z_tuple => k_is)
    (case z_str => k_is)
    (case z_range => k_is)
    (case z_sum => k_is)
    (case z_min => k_is)
    (case z_max => k_is)
    (case z_any => k_is)
    (case z_all => k_is)
    (case z_sorted => k_is)
    (case z_set => k_is)
    (case z_enumerate => k_is)
    (case z_abs => k_is)
    (case oh_Apart => k_is)
    (case o1_Apart => k_is)
    (case o2_Apart => k_is)
    (case o3_Apart => k_is)
    (case o4_Apart => k_is)
    (case o5_Apart => k_is)
    (case o6_Apart => k_is)
    (case o7_Apart => k_is)
    (case o8_Apart => k_is)
    (case o9_Apart => k_is)
    (case oa_Apart => k_is)
    (case ob_Apart => k_is)
    (case mm_Apart => k_is)
    (case mp_Apart => k_is)
    (case mi_Apart => k_is)
    (case a_Apart_shows => k_is)
    (case l_Apart_shows => k_is)
    (case c_Apart_shows => k_is)
    (case k_Apart_shows => k_is)
    (case i_Apart_shows => k_is)
    (case oh_Same => k_is)
    (case o1_Same => k_is)
    (case o2_Same => k_is)
    (case o3_Same => k_is)
    (case o4_Same => k_is)
    (case o5_Same => k_is)
    (case o6_Same => k_is)
    (case o7_Same => k_is)
    (case o8_Same => k_is)
    (case o9_Same => k_is)
    (case oa_Same => k_is)
    (case ob_Same => k_is)
    (case mm_Same => k_is)
    (case mp_Same => k_is)
    (case a_Same_init => k_is)
    (case l_Same_init => k_is)
    (case c_Same_init => k_is)
    (case k_Same_init => k_is)
    (case i_Same_init => k_is)
    (case nn_Same_one => k_is)
    (case nn_Same_other => k_is)
    (case a_Same_shows => k_is)
    (case l_Same_shows => k_is)
    (case c_Same_shows => k_is)
    (case k_Same_shows => k_is)
    (case i_Same_shows => k_is)
