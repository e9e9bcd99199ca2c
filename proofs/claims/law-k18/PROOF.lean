import PyProof.Rows.All
import Wide.All
import OpenK.AllK
import Wide.FinOn
import KE.KStateDown
import Lean
import HandS.ForMost
import HandS.Exc
import HandS.Evl
import HandS.Codes
import HandS.Defaults
import HandS.Star
import HandS.ClsMeth
import HandS.CallRecv
import HandS.IsInst
import HandS.SortInts
import HandS.Strs
import HandS.SetFor
import HandS.SetBool
import HandS.DictComp
import HandS.Style
import HandS.Flow
import HandS.Conv
import HandS.Wide
import HandS.WideMore
import HandS.OwnEq
import HandS.TupAny
import HandS.Small
import HandS.Zip
import HandS.Head0
import HandS.Head1
import HandS.Head2
import HandS.HeadEnd
import HandS.HeadHook1
import HandS.HeadHook2
import HandS.HeadNt
import HandS.NoneIn
import PySem.Challenge.RW_everyprime_k18_whole_papers_that_sayings
section
set_option linter.all false
/-! M1: whole numbers: divisors, primes, factors; core Lean alone. -/
namespace EP

/-- the integers below m that are coprime to it -/
def unitsN (m : Nat) : List Nat := (List.range m).filter fun r => Nat.gcd r m == 1
/-- n freed of d, and how often (fuel) -/
def stripN : Nat → Nat → Nat → Nat × Nat
  | 0, _, n => (n, 0)
  | f + 1, d, n => if n % d = 0 then ((stripN f d (n / d)).1, (stripN f d (n / d)).2 + 1) else (n, 0)
def lastN (n : Nat) : List (Nat × Nat) := if n > 1 then [(n, 1)] else []
def facN : Nat → Nat → Nat → List (Nat × Nat)
  | 0, n, _ => lastN n
  | f + 1, n, d => if d * d ≤ n then (if (stripN n d n).2 > 0 then (d, (stripN n d n).2) :: facN f (stripN n d n).1 (d + 1) else facN f (stripN n d n).1 (d + 1)) else lastN n
def factorsN (n : Nat) : List (Nat × Nat) := facN n n 2
def noDivN : Nat → Nat → Nat → Bool
  | 0, _, _ => true
  | f + 1, n, d => if d * d ≤ n then (if n % d = 0 then false else noDivN f n (d + 1)) else true
def isPrimeN (n : Nat) : Bool := decide (2 ≤ n) && noDivN n n 2
def oddDivN (m : Nat) : List Nat := ((factorsN m).filter fun p => p.1 != 2).map (·.1)
/-- a prime -/
def Prime (p : Nat) : Prop := 2 ≤ p ∧ ∀ d, d ∣ p → d = 1 ∨ d = p

/-! ### primes -/
theorem Prime.pos {p : Nat} (h : Prime p) : 0 < p := by have := h.1; omega
theorem Prime.coprime {p n : Nat} (h : Prime p) (hn : ¬ p ∣ n) : Nat.gcd p n = 1 := by
  rcases h.2 _ (Nat.gcd_dvd_left p n) with e | e
  · exact e
  · exact absurd (e ▸ Nat.gcd_dvd_right p n) hn
theorem Prime.dvd_mul {p a b : Nat} (h : Prime p) (hd : p ∣ a * b) : p ∣ a ∨ p ∣ b := by
  by_cases ha : p ∣ a
  · exact .inl ha
  · exact .inr (Nat.Coprime.dvd_of_dvd_mul_left (h.coprime ha) hd)
theorem Prime.dvd_pow {p a : Nat} (h : Prime p) : ∀ {k : Nat}, p ∣ a ^ k → p ∣ a
  | 0, hd => by
    have e1 : p = 1 := by simpa using hd
    have := h.1
    omega
  | k + 1, hd => by
    rw [Nat.pow_succ] at hd
    rcases h.dvd_mul hd with q | q
    · exact h.dvd_pow q
    · exact q
theorem Prime.eq_of_dvd {p q : Nat} (hp : Prime p) (hq : Prime q) (h : p ∣ q) : p = q := by
  rcases hq.2 p h with e | e
  · have := hp.1; omega
  · exact e
/-- every number from 2 on has a prime divisor -/
theorem prime_divisor : ∀ (n : Nat), 2 ≤ n → ∃ p, Prime p ∧ p ∣ n := by
  intro n
  induction n using Nat.strongRecOn with
  | _ n ih =>
    intro hn
    by_cases h : ∃ d, d ∣ n ∧ d ≠ 1 ∧ d ≠ n
    · obtain ⟨d, hd, h1, h2⟩ := h
      have hpos : 0 < n := by omega
      have hle := Nat.le_of_dvd hpos hd
      have d0 : d ≠ 0 := fun e => by subst e; have := Nat.eq_zero_of_zero_dvd hd; omega
      obtain ⟨p, hp, hpd⟩ := ih d (by omega) (by omega)
      exact ⟨p, hp, Nat.dvd_trans hpd hd⟩
    · refine ⟨n, ⟨hn, fun d hd => ?_⟩, Nat.dvd_refl n⟩
      by_cases e1 : d = 1
      · exact .inl e1
      · by_cases e2 : d = n
        · exact .inr e2
        · exact absurd ⟨d, hd, e1, e2⟩ h
/-- not coprime: a common prime -/
theorem common_prime {a b : Nat} (h : Nat.gcd a b ≠ 1) (h0 : 0 < b) : ∃ p, Prime p ∧ p ∣ a ∧ p ∣ b := by
  have g0 : 0 < Nat.gcd a b := Nat.gcd_pos_of_pos_right _ h0
  obtain ⟨p, hp, hd⟩ := prime_divisor (Nat.gcd a b) (by omega)
  exact ⟨p, hp, Nat.dvd_trans hd (Nat.gcd_dvd_left a b), Nat.dvd_trans hd (Nat.gcd_dvd_right a b)⟩
theorem coprime_of {a b : Nat} (h0 : 0 < b) (h : ∀ p, Prime p → p ∣ a → ¬ p ∣ b) : Nat.gcd a b = 1 := by
  by_cases e : Nat.gcd a b = 1
  · exact e
  · obtain ⟨p, hp, ha, hb⟩ := common_prime e h0
    exact absurd hb (h p hp ha)
theorem not_dvd_of_coprime {a b p : Nat} (hp : Prime p) (h : Nat.gcd a b = 1) (ha : p ∣ a) : ¬ p ∣ b := fun hb => by
  have := Nat.dvd_gcd ha hb
  rw [h] at this
  have := Nat.le_of_dvd (by decide) this
  have := hp.1
  omega
/-- no divisor from 2 to the root: prime -/
theorem prime_of_small {n : Nat} (hn : 2 ≤ n) (h : ∀ d, 2 ≤ d → d * d ≤ n → ¬ d ∣ n) : Prime n := by
  refine ⟨hn, fun d hd => ?_⟩
  obtain ⟨e, he⟩ := hd
  by_cases h1 : d = 1
  · exact .inl h1
  by_cases h2 : d = n
  · exact .inr h2
  exfalso
  have d0 : d ≠ 0 := fun q => by subst q; simp at he; omega
  have e0 : e ≠ 0 := fun q => by subst q; simp at he; omega
  have e1 : e ≠ 1 := fun q => by subst q; simp at he; omega
  rcases Nat.le_total d e with q | q
  · exact h d (by omega) (by rw [he]; exact Nat.mul_le_mul_left d q) ⟨e, he⟩
  · exact h e (by omega) (by rw [he]; exact Nat.mul_le_mul_right e q) ⟨d, by rw [he, Nat.mul_comm]⟩

/-! ### is_prime -/
theorem noDivN_ok : ∀ (f n d : Nat), n < d + f → 2 ≤ d → (noDivN f n d = true ↔ ∀ e, d ≤ e → e * e ≤ n → ¬ e ∣ n)
  | 0, n, d, hf, hd => by
    constructor
    · intro _ e he h1 h2
      have : d * 1 ≤ e * e := Nat.mul_le_mul he (by omega)
      omega
    · intro _; rfl
  | f + 1, n, d, hf, hd => by
    unfold noDivN
    by_cases h : d * d ≤ n
    · rw [if_pos h]
      by_cases h2 : n % d = 0
      · rw [if_pos h2]
        constructor
        · intro q; cases q
        · intro q; exact absurd (Nat.dvd_of_mod_eq_zero h2) (q d (Nat.le_refl d) h)
      · rw [if_neg h2, noDivN_ok f n (d + 1) (by omega) (by omega)]
        constructor
        · intro q e he h3 h4
          rcases Nat.lt_or_eq_of_le he with q2 | q2
          · exact q e q2 h3 h4
          · subst q2
            exact h2 (Nat.mod_eq_zero_of_dvd h4)
        · intro q e he
          exact q e (by omega)
    · rw [if_neg h]
      constructor
      · intro _ e he h3 h4
        have := Nat.mul_le_mul he he
        omega
      · intro _; rfl
theorem isPrimeN_iff (n : Nat) : isPrimeN n = true ↔ Prime n := by
  unfold isPrimeN
  rw [Bool.and_eq_true, decide_eq_true_iff, noDivN_ok n n 2 (by omega) (by omega)]
  constructor
  · rintro ⟨h1, h2⟩
    exact prime_of_small h1 h2
  · intro h
    refine ⟨h.1, fun e he h1 h2 => ?_⟩
    rcases h.2 e h2 with q | q
    · omega
    · subst q
      have : e * 2 ≤ e * e := Nat.mul_le_mul_left e he
      omega

/-! ### factors -/
theorem stripN_ok : ∀ (f d n : Nat), n ≤ f → 0 < n → 2 ≤ d → n = (stripN f d n).1 * d ^ (stripN f d n).2 ∧ ¬ d ∣ (stripN f d n).1 ∧ 0 < (stripN f d n).1
  | 0, d, n, hf, hn, hd => by omega
  | f + 1, d, n, hf, hn, hd => by
    unfold stripN
    by_cases h : n % d = 0
    · rw [if_pos h]
      have hdv := Nat.dvd_of_mod_eq_zero h
      obtain ⟨c, hc⟩ := hdv
      have e : n / d = c := by rw [hc]; exact Nat.mul_div_cancel_left c (by omega)
      have c0 : 0 < c := by
        rcases Nat.eq_zero_or_pos c with q | q
        · subst q; simp at hc; omega
        · exact q
      have hlt : c < n := by
        rw [hc]
        have : 2 * c ≤ d * c := Nat.mul_le_mul_right c hd
        omega
      rw [e]
      obtain ⟨h1, h2, h3⟩ := stripN_ok f d c (by omega) c0 hd
      refine ⟨?_, h2, h3⟩
      show n = (stripN f d c).1 * d ^ ((stripN f d c).2 + 1)
      rw [Nat.pow_succ, ← Nat.mul_assoc, ← h1, hc, Nat.mul_comm]
    · rw [if_neg h]
      refine ⟨by simp, fun q => h (Nat.mod_eq_zero_of_dvd q), hn⟩
def prodN (l : List (Nat × Nat)) : Nat := l.foldr (fun p a => p.1 ^ p.2 * a) 1
theorem prodN_cons (p : Nat × Nat) (l : List (Nat × Nat)) : prodN (p :: l) = p.1 ^ p.2 * prodN l := rfl
/-- what the list of factors is: primes from d on, ascending, their powers' product n -/
structure FacOf (l : List (Nat × Nat)) (d n : Nat) : Prop where
  prod : prodN l = n
  pr : ∀ p ∈ l, Prime p.1 ∧ 0 < p.2 ∧ d ≤ p.1
  asc : l.Pairwise (fun a b => a.1 < b.1)
theorem lastN_ok {n d : Nat} (hn : 0 < n) (h : ∀ e, 2 ≤ e → e < d → ¬ e ∣ n) (hq : ¬ d * d ≤ n) (hd : 2 ≤ d) : FacOf (lastN n) d n := by
  unfold lastN
  by_cases h1 : n > 1
  · rw [if_pos h1]
    have hp : Prime n := prime_of_small h1 fun e he h2 => by
      rcases Nat.lt_or_ge e d with q | q
      · exact h e he q
      · have := Nat.mul_le_mul q q
        omega
    have hle : d ≤ n := by
      rcases Nat.lt_or_ge n d with q | q
      · exact absurd (Nat.dvd_refl n) (h n h1 q)
      · exact q
    exact ⟨by simp [prodN], fun p hm => by simp at hm; subst hm; exact ⟨hp, Nat.one_pos, hle⟩, by simp⟩
  · rw [if_neg h1]
    have : n = 1 := by omega
    subst this
    exact ⟨rfl, fun p hm => by simp at hm, by simp⟩
theorem facN_ok : ∀ (f n d : Nat), n < d + f → 0 < n → 2 ≤ d → (∀ e, 2 ≤ e → e < d → ¬ e ∣ n) → FacOf (facN f n d) d n
  | 0, n, d, hf, hn, hd, h => lastN_ok hn h (fun q => by have : d * 1 ≤ d * d := Nat.mul_le_mul_left d (by omega); omega) hd
  | f + 1, n, d, hf, hn, hd, h => by
    unfold facN
    by_cases hq : d * d ≤ n
    · rw [if_pos hq]
      obtain ⟨s1, s2, s3⟩ := stripN_ok n d n (Nat.le_refl n) hn hd
      generalize (stripN n d n).1 = m at s1 s2 s3
      generalize (stripN n d n).2 = k at s1
      have mdvd : m ∣ n := ⟨d ^ k, s1⟩
      have mle : m ≤ n := Nat.le_of_dvd hn mdvd
      have hm : ∀ e, 2 ≤ e → e < d + 1 → ¬ e ∣ m := fun e he h1 h2 => by
        rcases Nat.lt_or_eq_of_le (Nat.lt_succ_iff.mp h1) with q | q
        · exact h e he q (Nat.dvd_trans h2 mdvd)
        · subst q; exact s2 h2
      have ih := facN_ok f m (d + 1) (by omega) s3 (by omega) hm
      by_cases hk : k > 0
      · rw [if_pos hk]
        have hp : Prime d := prime_of_small hd fun e he h1 h2 => by
          have : e < d := by
            rcases Nat.lt_or_ge e d with q | q
            · exact q
            · have := Nat.mul_le_mul q he
              have := Nat.mul_le_mul_left e he
              omega
          have dn : d ∣ n := by
            rw [s1]
            exact Nat.dvd_trans ⟨d ^ (k - 1), by rw [← Nat.pow_succ']; congr 1; omega⟩ (Nat.dvd_mul_left _ m)
          exact h e he this (Nat.dvd_trans h2 dn)
        refine ⟨?_, fun p hm => ?_, ?_⟩
        · rw [prodN_cons, ih.prod]
          exact (Nat.mul_comm _ _).trans s1.symm
        · rcases List.mem_cons.mp hm with q | q
          · subst q; exact ⟨hp, hk, Nat.le_refl d⟩
          · obtain ⟨a, b, c⟩ := ih.pr p q
            exact ⟨a, b, by omega⟩
        · exact List.pairwise_cons.mpr ⟨fun p hm => by have := (ih.pr p hm).2.2; show d < p.1; omega, ih.asc⟩
      · rw [if_neg hk]
        have k0 : k = 0 := by omega
        subst k0
        have : m = n := by rw [s1]; simp
        refine ⟨by rw [ih.prod]; exact this, fun p hm => ?_, ih.asc⟩
        obtain ⟨a, b, c⟩ := ih.pr p hm
        exact ⟨a, b, by omega⟩
    · rw [if_neg hq]
      exact lastN_ok hn h hq hd
theorem factorsN_ok {n : Nat} (h : 0 < n) : FacOf (factorsN n) 2 n := facN_ok n n 2 (by omega) h (by omega) fun e h1 h2 => by omega
theorem dvd_prodN {p : Nat × Nat} : ∀ {l : List (Nat × Nat)}, p ∈ l → 0 < p.2 → p.1 ∣ prodN l
  | q :: l, hm, h0 => by
    rw [prodN_cons]
    rcases List.mem_cons.mp hm with e | e
    · subst e
      exact Nat.dvd_trans ⟨p.1 ^ (p.2 - 1), by rw [← Nat.pow_succ']; congr 1; omega⟩ (Nat.dvd_mul_right _ _)
    · exact Nat.dvd_trans (dvd_prodN e h0) (Nat.dvd_mul_left _ _)
theorem prime_in_prodN {q : Nat} (hq : Prime q) : ∀ {l : List (Nat × Nat)}, (∀ p ∈ l, Prime p.1) → q ∣ prodN l → ∃ p ∈ l, p.1 = q
  | [], _, hd => by
    have := Nat.le_of_dvd (by decide) (show q ∣ 1 from hd)
    have := hq.1
    omega
  | p :: l, h, hd => by
    rw [prodN_cons] at hd
    rcases hq.dvd_mul hd with e | e
    · exact ⟨p, List.mem_cons_self, (hq.eq_of_dvd (h p List.mem_cons_self) (hq.dvd_pow e)).symm⟩
    · obtain ⟨r, hr, e⟩ := prime_in_prodN hq (fun r hr => h r (List.mem_cons_of_mem _ hr)) e
      exact ⟨r, List.mem_cons_of_mem _ hr, e⟩
/-- the odd primes that divide m -/
theorem oddDivN_mem {m p : Nat} (h : 0 < m) : p ∈ oddDivN m ↔ Prime p ∧ p ≠ 2 ∧ p ∣ m := by
  have F := factorsN_ok h
  unfold oddDivN
  rw [List.mem_map]
  constructor
  · rintro ⟨q, hq, rfl⟩
    rw [List.mem_filter] at hq
    obtain ⟨a, b, c⟩ := F.pr q hq.1
    refine ⟨a, by simpa using hq.2, ?_⟩
    have := dvd_prodN hq.1 b
    rwa [F.prod] at this
  · rintro ⟨h1, h2, h3⟩
    rw [← F.prod] at h3
    obtain ⟨q, hq, e⟩ := prime_in_prodN h1 (fun r hr => (F.pr r hr).1) h3
    exact ⟨q, List.mem_filter.mpr ⟨hq, by simp [e, h2]⟩, e⟩
/-- ascending -/
abbrev Asc (l : List Nat) : Prop := l.Pairwise (· < ·)
theorem oddDivN_asc {m : Nat} (h : 0 < m) : Asc (oddDivN m) := by
  unfold oddDivN
  rw [Asc, List.pairwise_map]
  exact (factorsN_ok h).asc.filter _
theorem unitsN_mem {m r : Nat} : r ∈ unitsN m ↔ r < m ∧ Nat.gcd r m = 1 := by simp [unitsN]
theorem unitsN_asc (m : Nat) : Asc (unitsN m) := List.pairwise_lt_range.filter _
/-- ascending lists with the same members are one -/
theorem asc_eq : ∀ {a b : List Nat}, Asc a → Asc b → (∀ x, x ∈ a ↔ x ∈ b) → a = b
  | [], [], _, _, _ => rfl
  | [], y :: b, _, _, h => by have := (h y).mpr List.mem_cons_self; cases this
  | x :: a, [], _, _, h => by have := (h x).mp List.mem_cons_self; cases this
  | x :: a, y :: b, ha, hb, h => by
    obtain ⟨a1, a2⟩ := List.pairwise_cons.mp ha
    obtain ⟨b1, b2⟩ := List.pairwise_cons.mp hb
    have e : x = y := by
      rcases List.mem_cons.mp ((h x).mp List.mem_cons_self) with q | q
      · exact q
      · rcases List.mem_cons.mp ((h y).mpr List.mem_cons_self) with q2 | q2
        · exact q2.symm
        · have := b1 x q
          have := a1 y q2
          omega
    subst e
    rw [asc_eq a2 b2 fun z => ?_]
    have hz := h z
    rw [List.mem_cons, List.mem_cons] at hz
    constructor
    · intro q
      rcases hz.mp (.inr q) with e | e
      · subst e; exact absurd (a1 z q) (Nat.lt_irrefl z)
      · exact e
    · intro q
      rcases hz.mpr (.inr q) with e | e
      · subst e; exact absurd (b1 z q) (Nat.lt_irrefl z)
      · exact e
/-- sorted(set(l)) -/
def sortU (l : List Nat) : List Nat := (List.range (l.foldr max 0 + 1)).filter fun x => decide (x ∈ l)
theorem le_foldr {l : List Nat} {x : Nat} (h : x ∈ l) : x ≤ l.foldr max 0 := by
  induction l with
  | nil => cases h
  | cons y r ih =>
    rw [List.foldr_cons]
    rcases List.mem_cons.mp h with e | e
    · subst e; exact Nat.le_max_left _ _
    · exact Nat.le_trans (ih e) (Nat.le_max_right _ _)
theorem sortU_mem {l : List Nat} {x : Nat} : x ∈ sortU l ↔ x ∈ l := by
  unfold sortU
  rw [List.mem_filter, List.mem_range, decide_eq_true_iff]
  exact ⟨fun h => h.2, fun h => ⟨Nat.lt_succ_of_le (le_foldr h), h⟩⟩
theorem sortU_asc (l : List Nat) : Asc (sortU l) := List.pairwise_lt_range.filter _
theorem sortU_eq {l a : List Nat} (h : Asc a) (hm : ∀ x, x ∈ a ↔ x ∈ l) : a = sortU l := asc_eq h (sortU_asc l) fun x => (hm x).trans sortU_mem.symm
/-! ### how many factors -/
theorem factors_len : ∀ {l : List (Nat × Nat)}, (∀ p ∈ l, 2 ≤ p.1 ∧ 0 < p.2) → 2 ^ l.length ≤ prodN l
  | [], _ => by simp [prodN]
  | p :: l, h => by
    rw [prodN_cons, List.length_cons, Nat.pow_succ, Nat.mul_comm]
    have h1 := h p List.mem_cons_self
    refine Nat.mul_le_mul ?_ (factors_len fun q hq => h q (List.mem_cons_of_mem _ hq))
    have : p.1 ^ 1 ≤ p.1 ^ p.2 := Nat.pow_le_pow_right (by omega) h1.2
    rw [Nat.pow_one] at this
    omega
theorem factorsN_len {n : Nat} (h : 0 < n) (hb : n < 2 ^ 20) : (factorsN n).length < 20 := by
  have F := factorsN_ok h
  have := factors_len fun p hp => ⟨(F.pr p hp).1.1, (F.pr p hp).2.1⟩
  rw [F.prod] at this
  exact (Nat.pow_lt_pow_iff_right (by decide)).mp (Nat.lt_of_le_of_lt this hb)
theorem oddDivN_len {n : Nat} (h : 0 < n) (hb : n < 2 ^ 20) : (oddDivN n).length < 20 := by
  unfold oddDivN
  rw [List.length_map]
  exact Nat.lt_of_le_of_lt (List.length_filter_le _ _) (factorsN_len h hb)
end EP
end

section
set_option linter.all false
/-! M2: sets of primes by rests: the least description, joined sets, the complement; core Lean alone. -/
namespace EP
structure PS where
  m : Nat
  rests : List Nat
  singles : List Nat
  deriving DecidableEq
def liftsN (m q r : Nat) : List Nat := ((List.range q).map fun k => r + k * (m / q)).filter fun x => Nat.gcd x m == 1
def foundN (m q : Nat) (rests : List Nat) (r : Nat) : List Bool := (liftsN m q r).map fun x => decide (x ∈ rests)
def mixedN (l : List Bool) : Bool := l.contains true && l.contains false
def shortN (m : Nat) (rests : List Nat) (q : Nat) : Option (List Nat) :=
  if (unitsN (m / q)).any (fun r => mixedN (foundN m q rests r)) then none else some ((unitsN (m / q)).filter fun r => (foundN m q rests r).headD false)
def toldN (m : Nat) (rests : List Nat) (p : Nat) : Bool := decide (m % p ≠ 0) && decide (p % m ∈ rests)
def toggleN (s : List Nat) (p : Nat) : List Nat := if p ∈ s then s.filter fun x => x != p else s ++ [p]
/-- singles behind a step to the modulus m -/
def singN (m : Nat) (k s : List Nat) (q : Nat) : List Nat := if (decide (q ≠ 2) && decide (m % q ≠ 0) && toldN m k q) = true then toggleN s q else s
def leastIn : Nat → Nat × List Nat × List Nat → Nat → Option (List Nat) → Nat × List Nat × List Nat
  | _, st, _, none => st
  | 0, st, _, some _ => st
  | f + 1, st, q, some k => leastIn f (st.1 / q, k, singN (st.1 / q) k st.2.2 q) q (if st.1 / q % q = 0 then shortN (st.1 / q) k q else none)
def leastSt (st : Nat × List Nat × List Nat) (q : Nat) : Nat × List Nat × List Nat := leastIn st.1 st q (shortN st.1 st.2.1 q)
def leastN (st : Nat × List Nat × List Nat) : Nat × List Nat × List Nat := (factorsN st.1).foldl (fun s p => leastSt s p.1) st
def mkP (m : Nat) (rests singles : List Nat) : PS := ⟨(leastN (m, rests, sortU singles)).1, (leastN (m, rests, sortU singles)).2.1, sortU (leastN (m, rests, sortU singles)).2.2⟩
def memP (p : Nat) (a : PS) : Bool := toldN a.m a.rests p != decide (p ∈ a.singles)
def lcmN (a b : Nat) : Nat := a * b / Nat.gcd a b
def inR (r : Nat) (a : PS) : Bool := decide (r % a.m ∈ a.rests)
def combR (f : Bool → Bool → Bool) (a b : PS) : List Nat := (unitsN (lcmN a.m b.m)).filter fun r => f (inR r a) (inR r b)
def combS (f : Bool → Bool → Bool) (a b : PS) : List Nat := (sortU (oddDivN (lcmN a.m b.m) ++ a.singles ++ b.singles)).filter fun p => f (memP p a) (memP p b) != toldN (lcmN a.m b.m) (combR f a b) p
def combN (f : Bool → Bool → Bool) (a b : PS) : PS := mkP (lcmN a.m b.m) (combR f a b) (combS f a b)
def notR (a : PS) : List Nat := (unitsN a.m).filter fun r => !decide (r ∈ a.rests)
def notN (a : PS) : PS := mkP a.m (notR a) ((sortU (oddDivN a.m ++ a.singles)).filter fun p => memP p a == toldN a.m (notR a) p)
def fAnd : Bool → Bool → Bool := fun x y => x && y
def fOr : Bool → Bool → Bool := fun x y => x || y
def fMinus : Bool → Bool → Bool := fun x y => x && !y
def truthN (a : PS) : Bool := !(a.rests ++ a.singles).isEmpty

/-! ### one prime step -/
theorem mul_div_of_dvd {m q : Nat} (h : q ∣ m) (hq : 0 < q) : m / q * q = m := Nat.div_mul_cancel h
theorem unit_mod {u m d : Nat} (hd : d ∣ m) (d0 : 0 < d) (h : Nat.gcd u m = 1) : u % d ∈ unitsN d := by
  rw [unitsN_mem]
  refine ⟨Nat.mod_lt _ d0, ?_⟩
  have e : Nat.gcd (u % d) d = Nat.gcd u d := by
    rw [Nat.gcd_comm u d, Nat.gcd_rec d u]
  rw [e]
  exact Nat.Coprime.coprime_dvd_right hd h
/-- r or r + s is coprime to s q -/
theorem lift_step {s q r : Nat} (hq : Prime q) (s0 : 0 < s) (h : Nat.gcd r s = 1) : Nat.gcd r (s * q) = 1 ∨ Nat.gcd (r + s) (s * q) = 1 := by
  have key : ∀ x, Nat.gcd x s = 1 → ¬ q ∣ x → Nat.gcd x (s * q) = 1 := fun x hx hn => by
    refine coprime_of (Nat.mul_pos s0 hq.pos) fun p hp hpx hps => ?_
    rcases hp.dvd_mul hps with e | e
    · exact not_dvd_of_coprime hp hx hpx e
    · have := hp.eq_of_dvd hq e
      subst this
      exact hn hpx
  by_cases h1 : q ∣ r
  · right
    refine key _ ?_ fun h2 => ?_
    · have : Nat.gcd (r + s) s = Nat.gcd r s := by simp
      rw [this]; exact h
    · have : q ∣ s := (Nat.dvd_add_right h1).mp h2
      exact not_dvd_of_coprime hq h h1 this
  · left
    exact key r h h1
theorem mem_liftsN {m q r x : Nat} : x ∈ liftsN m q r ↔ (∃ k, k < q ∧ x = r + k * (m / q)) ∧ Nat.gcd x m = 1 := by
  unfold liftsN
  rw [List.mem_filter, List.mem_map, beq_iff_eq]
  constructor
  · rintro ⟨⟨k, hk, rfl⟩, h⟩
    exact ⟨⟨k, List.mem_range.mp hk, rfl⟩, h⟩
  · rintro ⟨⟨k, hk, rfl⟩, h⟩
    exact ⟨⟨k, List.mem_range.mpr hk, rfl⟩, h⟩
theorem liftsN_ne {m q r : Nat} (hq : Prime q) (hd : q ∣ m) (m0 : 0 < m) (h : Nat.gcd r (m / q) = 1) : liftsN m q r ≠ [] := by
  have e := mul_div_of_dvd hd hq.pos
  have s0 : 0 < m / q := Nat.div_pos (Nat.le_of_dvd m0 hd) hq.pos
  have q2 := hq.1
  intro n
  have no : ∀ x, x ∉ liftsN m q r := fun x hx => by rw [n] at hx; cases hx
  rcases lift_step hq s0 h with g | g
  · rw [e] at g
    exact no r (mem_liftsN.mpr ⟨⟨0, by omega, by simp⟩, g⟩)
  · rw [e] at g
    exact no (r + m / q) (mem_liftsN.mpr ⟨⟨1, by omega, by simp⟩, g⟩)
/-- a unit is a lift of its rest -/
theorem unit_lift {m q u : Nat} (hq : 0 < q) (hd : q ∣ m) (m0 : 0 < m) (hu : u ∈ unitsN m) : u ∈ liftsN m q (u % (m / q)) := by
  obtain ⟨h1, h2⟩ := unitsN_mem.mp hu
  have e := mul_div_of_dvd hd hq
  refine mem_liftsN.mpr ⟨⟨u / (m / q), ?_, ?_⟩, h2⟩
  · have s0 : 0 < m / q := Nat.div_pos (Nat.le_of_dvd m0 hd) hq
    rw [Nat.div_lt_iff_lt_mul s0, Nat.mul_comm, e]
    exact h1
  · rw [Nat.mul_comm]
    exact (Nat.mod_add_div u (m / q)).symm
theorem not_mixed {l : List Bool} (h : mixedN l = false) {b : Bool} (hb : b ∈ l) : l.headD false = b := by
  unfold mixedN at h
  cases l with
  | nil => cases hb
  | cons c r =>
    show c = b
    have hc : (c :: r).contains c = true := by simp
    have hb' : (c :: r).contains b = true := List.contains_iff_mem.mpr hb
    cases c <;> cases b <;> first | rfl | (rw [hc, hb'] at h; cases h)
theorem shortN_some {m q : Nat} {rests k : List Nat} (hq : 0 < q) (hd : q ∣ m) (m0 : 0 < m) (h : shortN m rests q = some k) :
    Asc k ∧ (∀ x ∈ k, x ∈ unitsN (m / q)) ∧ (∀ u ∈ unitsN m, (u ∈ rests ↔ u % (m / q) ∈ k)) ∧ (rests = [] → k = []) := by
  unfold shortN at h
  split at h
  · cases h
  · rename_i hm
    have e : (unitsN (m / q)).filter (fun r => (foundN m q rests r).headD false) = k := Option.some.inj h
    subst e
    refine ⟨(unitsN_asc _).filter _, fun x hx => (List.mem_filter.mp hx).1, fun u hu => ?_, fun he => ?_⟩
    · have s0 : 0 < m / q := Nat.div_pos (Nat.le_of_dvd m0 hd) hq
      have hr : u % (m / q) ∈ unitsN (m / q) := unit_mod ⟨q, (mul_div_of_dvd hd hq).symm⟩ s0 (unitsN_mem.mp hu).2
      have nm : mixedN (foundN m q rests (u % (m / q))) = false := by
        cases hx : mixedN (foundN m q rests (u % (m / q))) with
        | false => rfl
        | true => exact absurd (List.any_eq_true.mpr ⟨_, hr, hx⟩) hm
      have hb : decide (u ∈ rests) ∈ foundN m q rests (u % (m / q)) := List.mem_map.mpr ⟨u, unit_lift hq hd m0 hu, rfl⟩
      rw [List.mem_filter, not_mixed nm hb, decide_eq_true_iff]
      exact ⟨fun h => ⟨hr, h⟩, fun h => h.2⟩
    · subst he
      rw [List.filter_eq_nil_iff]
      intro r hr hh
      have : ∀ b ∈ foundN m q [] r, b = false := fun b hb => by
        obtain ⟨x, _, rfl⟩ := List.mem_map.mp hb
        rfl
      cases hl : foundN m q [] r with
      | nil => rw [hl] at hh; cases hh
      | cons c t =>
        have := this c (by rw [hl]; exact List.mem_cons_self)
        rw [hl] at hh
        subst this
        cases hh
/-! ### the least description -/
structure LI (m0 : Nat) (r0 s0 : List Nat) (st : Nat × List Nat × List Nat) : Prop where
  pos : 0 < st.1
  dvd : st.1 ∣ m0
  asc : Asc st.2.1
  un : ∀ x ∈ st.2.1, x ∈ unitsN st.1
  sem : ∀ u ∈ unitsN m0, (u ∈ r0 ↔ u % st.1 ∈ st.2.1)
  nod : st.2.2.Nodup
  sub : ∀ p ∈ st.2.2, Prime p ∧ p ≠ 2 ∧ (p ∈ s0 ∨ p ∣ m0)
  emp : r0 = [] → st.2.1 = [] ∧ st.2.2 = s0
theorem toggleN_mem {s : List Nat} {p x : Nat} (h : x ∈ toggleN s p) : x ∈ s ∨ x = p := by
  unfold toggleN at h
  split at h
  · exact .inl (List.mem_filter.mp h).1
  · rcases List.mem_append.mp h with q | q
    · exact .inl q
    · exact .inr (List.mem_singleton.mp q)
theorem toggleN_nodup {s : List Nat} {p : Nat} (h : s.Nodup) : (toggleN s p).Nodup := by
  unfold toggleN
  split
  · exact h.filter _
  · rename_i hp
    rw [List.nodup_append]
    refine ⟨h, by simp, fun a ha b hb e => ?_⟩
    have : b = p := List.mem_singleton.mp hb
    subst this
    subst e
    exact hp ha
theorem LI.step {m0 : Nat} {r0 s0 k : List Nat} {st : Nat × List Nat × List Nat} {q : Nat} (L : LI m0 r0 s0 st) (hq : Prime q) (hd : q ∣ st.1) (h : shortN st.1 st.2.1 q = some k) :
    LI m0 r0 s0 (st.1 / q, k, singN (st.1 / q) k st.2.2 q) := by
  obtain ⟨h1, h2, h3, h4⟩ := shortN_some hq.pos hd L.pos h
  have s0' : 0 < st.1 / q := Nat.div_pos (Nat.le_of_dvd L.pos hd) hq.pos
  have sd : st.1 / q ∣ st.1 := ⟨q, (mul_div_of_dvd hd hq.pos).symm⟩
  refine ⟨s0', Nat.dvd_trans sd L.dvd, h1, h2, fun u hu => ?_, ?_, fun p hp => ?_, fun e => ?_⟩
  · rw [L.sem u hu, h3 _ (unit_mod L.dvd L.pos (unitsN_mem.mp hu).2), Nat.mod_mod_of_dvd u sd]
  · show (singN (st.1 / q) k st.2.2 q).Nodup
    unfold singN
    split
    · exact toggleN_nodup L.nod
    · exact L.nod
  · have hp : p ∈ singN (st.1 / q) k st.2.2 q := hp
    unfold singN at hp
    split at hp
    · rename_i hc
      rcases toggleN_mem hp with e | e
      · exact L.sub p e
      · subst e
        rw [Bool.and_eq_true, Bool.and_eq_true] at hc
        exact ⟨hq, of_decide_eq_true hc.1.1, .inr (Nat.dvd_trans hd L.dvd)⟩
    · exact L.sub p hp
  · obtain ⟨e1, e2⟩ := L.emp e
    have ek : k = [] := h4 e1
    refine ⟨ek, ?_⟩
    show singN (st.1 / q) k st.2.2 q = s0
    unfold singN toldN
    rw [ek]
    simpa using e2
theorem leastIn_ok {m0 : Nat} {r0 s0 : List Nat} {q B : Nat} (hq : Prime q) (hB : Nat.gcd q B = 1) : ∀ (f : Nat) (st : Nat × List Nat × List Nat) (k : Option (List Nat)), LI m0 r0 s0 st → B ∣ st.1 → (∀ r, k = some r → q ∣ st.1 ∧ shortN st.1 st.2.1 q = some r) →
    LI m0 r0 s0 (leastIn f st q k) ∧ B ∣ (leastIn f st q k).1
  | f, st, none, L, hb, _ => by
    cases f <;> exact ⟨L, hb⟩
  | 0, st, some r, L, hb, _ => ⟨L, hb⟩
  | f + 1, st, some r, L, hb, hk => by
    obtain ⟨h1, h2⟩ := hk r rfl
    have L2 := L.step hq h1 h2
    have b2 : B ∣ st.1 / q := by
      have e := mul_div_of_dvd h1 hq.pos
      rw [← e] at hb
      exact Nat.Coprime.dvd_of_dvd_mul_right (by rw [Nat.Coprime, Nat.gcd_comm]; exact hB) hb
    refine leastIn_ok hq hB f _ _ L2 b2 fun r' hr => ?_
    show q ∣ st.1 / q ∧ _
    by_cases hc : st.1 / q % q = 0
    · rw [if_pos hc] at hr
      exact ⟨Nat.dvd_of_mod_eq_zero hc, hr⟩
    · rw [if_neg hc] at hr
      cases hr
theorem leastFold_ok {m0 : Nat} {r0 s0 : List Nat} : ∀ (l : List (Nat × Nat)) (st : Nat × List Nat × List Nat), (∀ p ∈ l, Prime p.1 ∧ 0 < p.2) → l.Pairwise (fun a b => a.1 < b.1) → LI m0 r0 s0 st → prodN l ∣ st.1 →
    LI m0 r0 s0 (l.foldl (fun s p => leastSt s p.1) st)
  | [], st, _, _, L, _ => L
  | p :: l, st, hp, ha, L, hd => by
    rw [List.foldl_cons]
    obtain ⟨a1, a2⟩ := List.pairwise_cons.mp ha
    have p1 := hp p List.mem_cons_self
    have hl : ∀ r ∈ l, Prime r.1 ∧ 0 < r.2 := fun r hr => hp r (List.mem_cons_of_mem _ hr)
    have co : Nat.gcd p.1 (prodN l) = 1 := p1.1.coprime fun h => by
      obtain ⟨r, hr, e⟩ := prime_in_prodN p1.1 (fun r hr => (hl r hr).1) h
      have := a1 r hr
      omega
    have dl : prodN l ∣ st.1 := Nat.dvd_trans (by rw [prodN_cons]; exact Nat.dvd_mul_left _ _) hd
    have dp : p.1 ∣ st.1 := Nat.dvd_trans (dvd_prodN List.mem_cons_self p1.2) hd
    obtain ⟨L2, d2⟩ := leastIn_ok p1.1 co st.1 st (shortN st.1 st.2.1 p.1) L dl fun r hr => ⟨dp, hr⟩
    exact leastFold_ok l _ hl a2 L2 d2
theorem asc_nodup {l : List Nat} (h : Asc l) : l.Nodup := h.imp fun h => Nat.ne_of_lt h
theorem leastN_ok {m : Nat} {r s : List Nat} (m0 : 0 < m) (ha : Asc r) (hu : ∀ x ∈ r, x ∈ unitsN m) (hn : s.Nodup) (hs : ∀ p ∈ s, Prime p ∧ p ≠ 2) : LI m r s (leastN (m, r, s)) := by
  have F := factorsN_ok m0
  refine leastFold_ok _ _ (fun p hp => ⟨(F.pr p hp).1, (F.pr p hp).2.1⟩) F.asc ?_ ?_
  · exact ⟨m0, Nat.dvd_refl m, ha, hu, fun u hu => by rw [Nat.mod_eq_of_lt (unitsN_mem.mp hu).1], hn, fun p hp => ⟨(hs p hp).1, (hs p hp).2, .inl hp⟩, fun e => ⟨e, rfl⟩⟩
  · rw [F.prod]
    exact Nat.dvd_refl m

/-! ### sets that are in order -/
/-- a set whose modulus divides D, whose singles are odd primes among Ss -/
structure Good (D : Nat) (Ss : List Nat) (S : PS) : Prop where
  pos : 0 < S.m
  dvd : S.m ∣ D
  asc : Asc S.rests
  un : ∀ x ∈ S.rests, x ∈ unitsN S.m
  sasc : Asc S.singles
  spr : ∀ p ∈ S.singles, Prime p ∧ p ≠ 2 ∧ p ∈ Ss
theorem mkP_good {D : Nat} {Ss : List Nat} {m : Nat} {r s : List Nat} (m0 : 0 < m) (hd : m ∣ D) (ha : Asc r) (hu : ∀ x ∈ r, x ∈ unitsN m) (hs : ∀ p ∈ s, Prime p ∧ p ≠ 2 ∧ p ∈ Ss) (hD : ∀ p, Prime p → p ≠ 2 → p ∣ m → p ∈ Ss) : Good D Ss (mkP m r s) := by
  have L := leastN_ok (s := sortU s) m0 ha hu (asc_nodup (sortU_asc s)) fun p hp => ⟨(hs p (sortU_mem.mp hp)).1, (hs p (sortU_mem.mp hp)).2.1⟩
  refine ⟨L.pos, Nat.dvd_trans L.dvd hd, L.asc, L.un, sortU_asc _, fun p hp => ?_⟩
  obtain ⟨a, b, c⟩ := L.sub p (sortU_mem.mp hp)
  refine ⟨a, b, ?_⟩
  rcases c with c | c
  · exact (hs p (sortU_mem.mp c)).2.2
  · exact hD p a b c
theorem mkP_sem {m : Nat} {r s : List Nat} (m0 : 0 < m) (ha : Asc r) (hu : ∀ x ∈ r, x ∈ unitsN m) (hs : ∀ p ∈ s, Prime p ∧ p ≠ 2) {u : Nat} (h : u ∈ unitsN m) : u ∈ r ↔ u % (mkP m r s).m ∈ (mkP m r s).rests :=
  (leastN_ok (s := sortU s) m0 ha hu (asc_nodup (sortU_asc s)) fun p hp => hs p (sortU_mem.mp hp)).sem u h
theorem mkP_empty {m : Nat} {r s : List Nat} (m0 : 0 < m) (ha : Asc r) (hu : ∀ x ∈ r, x ∈ unitsN m) (hs : ∀ p ∈ s, Prime p ∧ p ≠ 2) : truthN (mkP m r s) = false ↔ r = [] ∧ s = [] := by
  have L := leastN_ok (s := sortU s) m0 ha hu (asc_nodup (sortU_asc s)) fun p hp => hs p (sortU_mem.mp hp)
  have nil_of : ∀ {l : List Nat}, sortU l = [] → l = [] := fun {l} e => by
    cases l with
    | nil => rfl
    | cons x t =>
      have : x ∈ sortU (x :: t) := sortU_mem.mpr List.mem_cons_self
      rw [e] at this
      cases this
  unfold truthN
  rw [Bool.not_eq_false', List.isEmpty_iff, List.append_eq_nil_iff]
  constructor
  · rintro ⟨h1, h2⟩
    have hr : r = [] := by
      cases r with
      | nil => rfl
      | cons x t =>
        have := (L.sem x (hu x List.mem_cons_self)).mp List.mem_cons_self
        have h1 : (leastN (m, x :: t, sortU s)).2.1 = [] := h1
        rw [h1] at this
        cases this
    have h2 : sortU (leastN (m, r, sortU s)).2.2 = [] := h2
    rw [(L.emp hr).2] at h2
    exact ⟨hr, nil_of (nil_of h2)⟩
  · rintro ⟨h1, h2⟩
    obtain ⟨e1, e2⟩ := L.emp h1
    refine ⟨e1, ?_⟩
    show sortU (leastN (m, r, sortU s)).2.2 = []
    rw [e2, h2]
    rfl
theorem lcmN_eq (a b : Nat) : lcmN a b = Nat.lcm a b := rfl
theorem lcmN_pos {a b : Nat} (ha : 0 < a) (hb : 0 < b) : 0 < lcmN a b := Nat.lcm_pos ha hb
section
variable {D : Nat} {Ss : List Nat} {a b : PS} {f : Bool → Bool → Bool}
theorem Good.lcm (ga : Good D Ss a) (gb : Good D Ss b) : lcmN a.m b.m ∣ D := Nat.lcm_dvd ga.dvd gb.dvd
theorem combR_asc : Asc (combR f a b) := (unitsN_asc _).filter _
theorem combR_un : ∀ x ∈ combR f a b, x ∈ unitsN (lcmN a.m b.m) := fun x hx => (List.mem_filter.mp hx).1
theorem combS_pr (ga : Good D Ss a) (gb : Good D Ss b) (hD : ∀ p, Prime p → p ≠ 2 → p ∣ D → p ∈ Ss) : ∀ p ∈ combS f a b, Prime p ∧ p ≠ 2 ∧ p ∈ Ss := fun p hp => by
  have h := sortU_mem.mp (List.mem_filter.mp hp).1
  rcases List.mem_append.mp h with h | h
  · rcases List.mem_append.mp h with h | h
    · obtain ⟨h1, h2, h3⟩ := (oddDivN_mem (lcmN_pos ga.pos gb.pos)).mp h
      exact ⟨h1, h2, hD p h1 h2 (Nat.dvd_trans h3 (ga.lcm gb))⟩
    · exact ga.spr p h
  · exact gb.spr p h
theorem combN_good (ga : Good D Ss a) (gb : Good D Ss b) (hD : ∀ p, Prime p → p ≠ 2 → p ∣ D → p ∈ Ss) : Good D Ss (combN f a b) :=
  mkP_good (lcmN_pos ga.pos gb.pos) (ga.lcm gb) combR_asc combR_un (combS_pr ga gb hD) fun p h1 h2 h3 => hD p h1 h2 (Nat.dvd_trans h3 (ga.lcm gb))
theorem notN_good (ga : Good D Ss a) (hD : ∀ p, Prime p → p ≠ 2 → p ∣ D → p ∈ Ss) : Good D Ss (notN a) := by
  refine mkP_good ga.pos ga.dvd ((unitsN_asc _).filter _) (fun x hx => (List.mem_filter.mp hx).1) (fun p hp => ?_) fun p h1 h2 h3 => hD p h1 h2 (Nat.dvd_trans h3 ga.dvd)
  have h := sortU_mem.mp (List.mem_filter.mp hp).1
  rcases List.mem_append.mp h with h | h
  · obtain ⟨h1, h2, h3⟩ := (oddDivN_mem ga.pos).mp h
    exact ⟨h1, h2, hD p h1 h2 (Nat.dvd_trans h3 ga.dvd)⟩
  · exact ga.spr p h
/-- nothing is in the first but not in the second: by rests, by the special primes -/
theorem minus_empty (ga : Good D Ss a) (gb : Good D Ss b) (hD : ∀ p, Prime p → p ≠ 2 → p ∣ D → p ∈ Ss) : truthN (combN fMinus a b) = false ↔
    (∀ r ∈ unitsN (lcmN a.m b.m), inR r a = true → inR r b = true) ∧ ∀ p ∈ oddDivN (lcmN a.m b.m) ++ a.singles ++ b.singles, memP p a = true → memP p b = true := by
  have pr := combS_pr (f := fMinus) ga gb hD
  unfold combN
  rw [mkP_empty (lcmN_pos ga.pos gb.pos) combR_asc combR_un fun p hp => ⟨(pr p hp).1, (pr p hp).2.1⟩]
  have e1 : combR fMinus a b = [] ↔ ∀ r ∈ unitsN (lcmN a.m b.m), inR r a = true → inR r b = true := by
    unfold combR
    rw [List.filter_eq_nil_iff]
    constructor
    · intro h r hr ha
      have := h r hr
      unfold fMinus at this
      rw [ha] at this
      simpa using this
    · intro h r hr hf
      unfold fMinus at hf
      rw [Bool.and_eq_true] at hf
      rw [h r hr hf.1] at hf
      simp at hf
  have e2 : combR fMinus a b = [] → (combS fMinus a b = [] ↔ ∀ p ∈ oddDivN (lcmN a.m b.m) ++ a.singles ++ b.singles, memP p a = true → memP p b = true) := fun he => by
    have tl : ∀ p, toldN (lcmN a.m b.m) (combR fMinus a b) p = false := fun p => by unfold toldN; rw [he]; simp
    unfold combS
    rw [List.filter_eq_nil_iff]
    constructor
    · intro h p hp ha
      have := h p (sortU_mem.mpr hp)
      rw [tl] at this
      unfold fMinus at this
      rw [ha] at this
      simpa using this
    · intro h p hp hf
      rw [tl] at hf
      unfold fMinus at hf
      have hp' := sortU_mem.mp hp
      cases ma : memP p a with
      | false => rw [ma] at hf; simp at hf
      | true => rw [ma, h p hp' ma] at hf; simp at hf
  constructor
  · rintro ⟨h1, h2⟩
    exact ⟨e1.mp h1, (e2 h1).mp h2⟩
  · rintro ⟨h1, h2⟩
    exact ⟨e1.mpr h1, (e2 (e1.mpr h1)).mpr h2⟩
/-- a set is within itself -/
theorem minus_self (ga : Good D Ss a) (hD : ∀ p, Prime p → p ≠ 2 → p ∣ D → p ∈ Ss) : truthN (combN fMinus a a) = false := (minus_empty ga ga hD).mpr ⟨fun _ _ h => h, fun _ _ h => h⟩
end
/-! ### lifting units to a multiple -/
theorem lift_unit : ∀ (k : Nat) {M r : Nat}, 0 < M → 0 < k → Nat.gcd r M = 1 → ∃ u, u < M * k ∧ Nat.gcd u (M * k) = 1 ∧ u % M = r % M := by
  intro k
  induction k using Nat.strongRecOn with
  | _ k ih =>
    intro M r M0 k0 h
    by_cases k1 : k = 1
    · subst k1
      refine ⟨r % M, by rw [Nat.mul_one]; exact Nat.mod_lt _ M0, ?_, Nat.mod_mod r M⟩
      rw [Nat.mul_one]
      exact (unitsN_mem.mp (unit_mod (Nat.dvd_refl M) M0 h)).2
    · obtain ⟨q, hq, hd⟩ := prime_divisor k (by omega)
      obtain ⟨c, hc⟩ := hd
      have c0 : 0 < c := by
        rcases Nat.eq_zero_or_pos c with e | e
        · subst e; simp at hc; omega
        · exact e
      have clt : c < k := by
        rw [hc]
        have : 2 * c ≤ q * c := Nat.mul_le_mul_right c hq.1
        omega
      -- first a step by q, then c
      obtain ⟨r', hr', hm⟩ : ∃ r', Nat.gcd r' (M * q) = 1 ∧ r' % M = r % M := by
        rcases lift_step hq M0 h with g | g
        · exact ⟨r, g, rfl⟩
        · exact ⟨r + M, g, Nat.add_mod_right r M⟩
      obtain ⟨u, h1, h2, h3⟩ := ih c clt (Nat.mul_pos M0 hq.pos) c0 hr'
      have e : M * q * c = M * k := by rw [hc, Nat.mul_assoc]
      rw [e] at h1 h2
      refine ⟨u, h1, h2, ?_⟩
      have : u % M = u % (M * q) % M := (Nat.mod_mod_of_dvd u (Nat.dvd_mul_right M q)).symm
      rw [this, h3, Nat.mod_mod_of_dvd r' (Nat.dvd_mul_right M q), hm]
end EP
end

section
set_option Elab.async false
set_option linter.all false
set_option maxRecDepth 100000
set_option maxHeartbeats 4000000
/-! A0: rules that the layer lacks: operators, in, truth, ~ by an own class's methods; calls by a positional promise; classes called by a local name; code never reached. -/
namespace EP
open PySem PySem.Spec PyProof.Rows L2

abbrev CX0 : CXT := fun _ _ _ _ _ _ => False
abbrev E0 : XK := fun _ _ _ => False
theorem pass0 {X : Cx} {E : XK} : Passes CX0 X E := fun _ _ _ _ _ _ _ h => h.elim

/-! ### callables by positional promises -/
/-- the module's name x is a def that keeps sp at level k -/
structure Cal (P : Program) (w : World) (K : PySem.W.Frag) (mg : Str → Option Value) (base : Heap) (k : Nat) (x : Str) (sp : Sp) : Prop where
  ex : ∃ f : Addr, FnR P w K mg base CX0 k f sp ∧ mg x = some (.ref f) ∧ PySem.W.keepIn K (.ref f) = true
/-- a method m of the class at C -/
structure Met (P : Program) (w : World) (K : PySem.W.Frag) (mg : Str → Option Value) (base : Heap) (k : Nat) (C : Addr) (m : Str) (sp : Sp) : Prop where
  ex : ∃ f : Addr, Cls K C ∧ Meth K C m f ∧ FnR P w K mg base CX0 k f sp
/-- the class at C, made by its name x -/
structure Mak (P : Program) (w : World) (K : PySem.W.Frag) (mg : Str → Option Value) (base : Heap) (k : Nat) (x : Str) (C : Addr) (sp : Sp) : Prop where
  ex : ∃ f : Addr, Mk K C f ∧ FnR P w K mg base CX0 k f sp ∧ mg x = some (.ref C)
/-- a classmethod m of the class at C -/
structure CMe (P : Program) (w : World) (K : PySem.W.Frag) (mg : Str → Option Value) (base : Heap) (k : Nat) (C : Addr) (m : Str) (sp : Sp) : Prop where
  ex : ∃ (p g : Addr) (mc : Value), ClX.CRead K C mc ∧ ClX.CMet K C mc m p g ∧ FnR P w K mg base CX0 k g sp

section
variable {X : Cx} {k j : Nat} {C : Addr} {x m : Str} {sp : Sp} {p pos apos : Pos} {e o : Expr} {es : List Expr} {ta : TE} {t : TA}
def tCalR (sp : Sp) (t : TA) : TE := fun σ H Q => t σ H fun vs H1 => sp vs H1 Q E0
theorem pe_c (c : Cal X.prog X.w X.K X.mg X.base k x sp) (hr : Room j X.A) (hk : k ≤ j) (hg : Gl X x) (ha : PA X (e :: es) t)
    (hdb : (x == ("__debug__" : Str)) = false := by decide) (he : starEach (e :: es) X.env = (false, eval e X.env) :: starEach es X.env := by rfl) (hpl : (backTo pos (starEach es X.env)).any (·.1) = false := by rfl) :
    PE X (.Call (.Name x p) (e :: es) [] pos) (tCalR sp t) := by
  obtain ⟨f, F, hm, kp⟩ := c.ex
  refine ⟨fun pins s σ H Q I h => ?_⟩
  refine wpAny_Call_Name_kw (ld_glob I hg hm ?_ hdb)
  refine PySem.W.callWith_K (h₀ := X.base) I.ok.mod.kin kp (thn (ha.run pos pins s σ H _ I h) fun us s1 ⟨vs, H1, I1, r, q⟩ => ⟨I1.kIn, ?_⟩) he hpl
  exact wpAny_call (run_fnR F (hr.mono hk) pass0 I1 r q)
theorem pe_mk (c : Mak X.prog X.w X.K X.mg X.base k x C sp) (hr : Room j X.A) (hk : k + 1 ≤ j) (hg : Gl X x) (ha : PA X (e :: es) t)
    (hdb : (x == ("__debug__" : Str)) = false := by decide) (he : starEach (e :: es) X.env = (false, eval e X.env) :: starEach es X.env := by rfl) (hpl : (backTo pos (starEach es X.env)).any (·.1) = false := by rfl) :
    PE X (.Call (.Name x p) (e :: es) [] pos) (StX.tMakeR C sp E0 t) := by
  obtain ⟨f, M, F, hm⟩ := c.ex
  exact StX.pe_makeR M F (hr.mono hk) hg hm pass0 ha hdb he hpl
/-- a local name that holds the class, called -/
def tMkL (i : Nat) (C : Addr) (sp : Sp) (t : TA) : TE := fun σ H Q => σ[i]? = some (some (.ref C)) ∧ StX.tMakeR C sp E0 t σ H Q
theorem pe_mkL {i : Nat} {y : Str} (c : Mak X.prog X.w X.K X.mg X.base k y C sp) (hr : Room j X.A) (hk : k + 1 ≤ j) (hN : X.N[i]? = some x) (hv : Vis X.env.scope x) (ha : PA X (e :: es) t)
    (hdb : (x == ("__debug__" : Str)) = false := by decide) (hcd : (x == ("__classdict__" : Str)) = false := by decide)
    (he : starEach (e :: es) X.env = (false, eval e X.env) :: starEach es X.env := by rfl) (hpl : (backTo pos (starEach es X.env)).any (·.1) = false := by rfl) :
    PE X (.Call (.Name x p) (e :: es) [] pos) (tMkL i C sp t) := by
  obtain ⟨f, M, F, hm⟩ := c.ex
  refine ⟨fun pins s σ H Q I h => ?_⟩
  obtain ⟨hs, h⟩ := h
  refine wpAny_Call_Name_kw (thn ((pe_var (pos := p) (i := i) hN hv hdb hcd).run pins s σ H (fun v H1 => v = .ref C ∧ H1 = H) I ⟨.ref C, hs, rfl, rfl⟩) fun u s1 ⟨v, H1, I1, r1, ev, eH⟩ => ?_)
  subst ev
  rw [eH] at I1
  cases r1
  refine PySem.W.callWith_K (h₀ := X.base) I.ok.mod.kin M.kp (thn (ha.run pos pins s1 σ H _ I1 h) fun us s2 ⟨vs, H2, I2, r, q⟩ => ⟨I2.kIn, ?_⟩) he hpl
  exact StX.run_makeR M F (hr.mono hk) pass0 I2 r q
/-- o.m(e, ..) -/
def tMet (C : Addr) (m : Str) (sp : Sp) (ta : TE) (t : TA) : TE := fun σ H Q => ta σ H fun x H1 => ∃ a dx fs, x = .ref a ∧ H1 a = some (.ins C dx fs) ∧ fs.lookup m = none ∧ t σ H1 fun vs H2 => sp (x :: vs) H2 Q E0
theorem pe_mt {pl : Sem Bool} (c : Met X.prog X.w X.K X.mg X.base k C m sp) (hr : Room j X.A) (hk : k ≤ j) (he : PE X o ta) (ha : PA X (e :: es) t)
    (hst : starEach (e :: es) X.env = (false, eval e X.env) :: starEach es X.env := by rfl) (hpl : (backTo pos (starEach es X.env)).any (·.1) = false := by rfl)
    (ht : eval (.Call (.Attribute o m apos) (e :: es) [] pos) X.env = (do
      let ov ← eval o X.env
      standAt apos.atName
      let (f, first) ← holding [ov] (getMethod ov m pl)
      callWith pos f first (backTo pos (starEach (e :: es) X.env)) (backToKw pos (keywordEach [] X.env))) := by rfl) :
    PE X (.Call (.Attribute o m apos) (e :: es) [] pos) (tMet C m sp ta t) := by
  obtain ⟨f, hc, hm, F⟩ := c.ex
  exact pe_methR (pl := pl) (E := E0) he hc hm F (hr.mono hk) pass0 ha hst hpl ht
/-- o.m() -/
theorem pe_mt0 {pl : Sem Bool} (c : Met X.prog X.w X.K X.mg X.base k C m sp) (hr : Room j X.A) (hk : k ≤ j) (he : PE X o ta)
    (ht : eval (.Call (.Attribute o m apos) [] [] pos) X.env = (do
      let ov ← eval o X.env
      standAt apos.atName
      let (f, first) ← holding [ov] (getMethod ov m pl)
      callWith pos f first (backTo pos (starEach [] X.env)) (backToKw pos (keywordEach [] X.env))) := by rfl) :
    PE X (.Call (.Attribute o m apos) [] [] pos) (tMet C m sp ta tNil) := by
  obtain ⟨f, hc, hm, F⟩ := c.ex
  refine ⟨fun pins s σ H Q I h => ?_⟩
  refine PySem.W.methodCall_KW (pl := pl) (thn (he.run pins s σ H _ I h) fun u s1 ⟨x, H1, I1, rx, a, dx, fs, ex, ea, l, q⟩ => ?_) ht
  subst ex
  obtain rfl : u = Value.ref a := rx
  refine getmeth_ok I1 ea hc hm l ?_
  exact PySem.W.callWith_K0 (first := [.ref a]) I1.kIn hm.kp (wpAny_call (run_fnR (us := [.ref a]) (vs := [.ref a]) F (hr.mono hk) pass0 I1 (.cons rfl .nil) q))
/-- C.m(e, ..), m a classmethod -/
theorem pe_cm {pl : Sem Bool} (c : CMe X.prog X.w X.K X.mg X.base k C m sp) (hr : Room j X.A) (hk : k ≤ j) (he : PE X o ta) (ha : PA X (e :: es) t)
    (hst : starEach (e :: es) X.env = (false, eval e X.env) :: starEach es X.env := by rfl) (hpl : (backTo pos (starEach es X.env)).any (·.1) = false := by rfl)
    (ht : eval (.Call (.Attribute o m apos) (e :: es) [] pos) X.env = (do
      let ov ← eval o X.env
      standAt apos.atName
      let (f, first) ← holding [ov] (getMethod ov m pl)
      callWith pos f first (backTo pos (starEach (e :: es) X.env)) (backToKw pos (keywordEach [] X.env))) := by rfl) :
    PE X (.Call (.Attribute o m apos) (e :: es) [] pos) (ClX.tCMeth C sp E0 ta t) := by
  obtain ⟨p, g, mc, r, cm, F⟩ := c.ex
  exact ClX.pe_cmeth (pl := pl) he r cm F (hr.mono hk) pass0 ha hst hpl ht
/-- C.m() -/
theorem pe_cm0 {pl : Sem Bool} (c : CMe X.prog X.w X.K X.mg X.base k C m sp) (hr : Room j X.A) (hk : k ≤ j) (he : PE X o ta)
    (ht : eval (.Call (.Attribute o m apos) [] [] pos) X.env = (do
      let ov ← eval o X.env
      standAt apos.atName
      let (f, first) ← holding [ov] (getMethod ov m pl)
      callWith pos f first (backTo pos (starEach [] X.env)) (backToKw pos (keywordEach [] X.env))) := by rfl) :
    PE X (.Call (.Attribute o m apos) [] [] pos) (ClX.tCMeth C sp E0 ta tNil) := by
  obtain ⟨p, g, mc, r, cm, F⟩ := c.ex
  refine ⟨fun pins s σ H Q I h => ?_⟩
  refine PySem.W.methodCall_KW (pl := pl) (thn (he.run pins s σ H _ I h) fun u s1 ⟨x, H1, I1, rx, ex, q⟩ => ?_) ht
  subst ex
  obtain rfl : u = Value.ref C := rx
  refine ClX.getmethcm_ok I1 r cm fun s2 I2 => ?_
  refine PySem.W.callWith_M0 (K := X.K) (first := []) ⟨ClX.pin_at I2, I2.kIn⟩ cm.fi ?_
  exact ClX.run_cm (E := E0) F (hr.mono hk) pass0 I2 .nil q
end

/-! ### operators, in, truth by an own class's methods -/
section
variable {X : Cx} {k j : Nat} {C : Addr} {sp : Sp} {a b : Expr} {ta tb : TE} {pos : Pos}
/-- an instance of C stands at a -/
def InsAt (H : Hp) (C a : Addr) : Prop := ∃ dx fs, H a = some (.ins C dx fs)
theorem ins_look {pins : List (Addr × Obj)} {σ : L2.St} {H : Hp} {s : Shared} {a : Addr} (I : Inv X pins σ H s) (h : InsAt H C a) : ∃ od, PySem.W.InstAt s.heap a (PySem.W.instObj C (h.choose)) C (some od) := by
  have hh := h.choose_spec
  obtain ⟨fs, ha⟩ := hh
  obtain ⟨mA, J, _⟩ := ins_get I.hok ha
  obtain ⟨od, J, _⟩ := J.look
  exact ⟨od, J⟩
/-- a call of a method's def on values, at the same place -/
theorem run_met {pins : List (Addr × Obj)} {σ : L2.St} {H : Hp} {s : Shared} {f : Addr} {us : List Value} {vs : List V} {Q : VK} (F : FnR X.prog X.w X.K X.mg X.base CX0 k f sp) (hr : Room k X.A) (I : Inv X pins σ H s) (r : Vals vs us) (h : sp vs H Q E0) :
    wpAny (model X.prog X.w) X.A (call (.ref f) us) (EP X pins σ Q) X.xe s := wpAny_call (run_fnR F hr pass0 I r h)
theorem notNI {v : V} {u : Value} (r : RelV v u) : u ≠ .notImplemented := by
  intro e
  subst e
  have := r.abs
  cases this
/-- x op y, both of the class at C, by its own method -/
def rOwn (C : Addr) (sp : Sp) : R2 := fun x y H Q => ∃ a b, x = .ref a ∧ y = .ref b ∧ InsAt H C a ∧ InsAt H C b ∧ sp [x, y] H Q E0
theorem op_own {op : Operator} (c : Met X.prog X.w X.K X.mg X.base k C (PySem.dunder op.info.2) sp) (hr : Room j X.A) (hk : k ≤ j) (hf : PySem.W.selfFirst X.K C = true) : OpR X (binaryOp op) (rOwn C sp) := by
  intro pins s σ H x y v u Q I rx ry h
  obtain ⟨a, b, rfl, rfl, ha, hb, h⟩ := h
  cases rx
  cases ry
  obtain ⟨f, hc, hm, F⟩ := c.ex
  obtain ⟨od, J⟩ := ins_look I ha
  obtain ⟨od', J'⟩ := ins_look I hb
  obtain ⟨m, hF⟩ := I.fr
  refine PySem.W.binop_K hF I.ok.mod.kin J J'.type hf hm.at_ hm.fn ?_
  refine thn (run_met F (hr.mono hk) I (us := [.ref a, .ref b]) (vs := [.ref a, .ref b]) (.cons rfl (.cons rfl .nil)) h) fun u s' q => ?_
  obtain ⟨v, H', I', r, _⟩ := id q
  have n := notNI r
  cases u <;> first | exact absurd rfl n | exact q
/-- v in x, x of the class at C, by its own method that gives a bool -/
def rOwnIn (C : Addr) (sp : Sp) (neg : Bool) : R2 := fun v y H Q => ∃ b, y = .ref b ∧ InsAt H C b ∧ sp [y, v] H (fun z H' => ∃ c, z = .bl c ∧ Q (.bl (if neg then !c else c)) H') E0
theorem op_ownIn (c : Met X.prog X.w X.K X.mg X.base k C "__contains__" sp) (hr : Room j X.A) (hk : k ≤ j) : OpR X (compareOp .In) (rOwnIn C sp false) := by
  intro pins s σ H x y v u Q I rx ry h
  obtain ⟨b, rfl, hb, h⟩ := h
  cases ry
  obtain ⟨f, hc, hm, F⟩ := c.ex
  obtain ⟨od, J⟩ := ins_look I hb
  obtain ⟨m, hF⟩ := I.fr
  refine PySem.W.in_K hF I.ok.mod.kin J hm.at_ hm.fn ?_
  refine thn (run_met F (hr.mono hk) I (us := [.ref b, v]) (vs := [.ref b, x]) (.cons rfl (.cons rx .nil)) h) fun u s' q => ?_
  obtain ⟨z, H', I', r, c, rfl, q⟩ := q
  cases r
  exact wpAny_truthy_bool ⟨.bl c, H', I', rfl, q⟩
theorem op_ownNotIn (c : Met X.prog X.w X.K X.mg X.base k C "__contains__" sp) (hr : Room j X.A) (hk : k ≤ j) : OpR X (compareOp .NotIn) (rOwnIn C sp true) := by
  intro pins s σ H x y v u Q I rx ry h
  obtain ⟨b, rfl, hb, h⟩ := h
  cases ry
  obtain ⟨f, hc, hm, F⟩ := c.ex
  obtain ⟨od, J⟩ := ins_look I hb
  obtain ⟨m, hF⟩ := I.fr
  refine PySem.W.notIn_K hF I.ok.mod.kin J hm.at_ hm.fn ?_
  refine thn (run_met F (hr.mono hk) I (us := [.ref b, v]) (vs := [.ref b, x]) (.cons rfl (.cons rx .nil)) h) fun u s' q => ?_
  obtain ⟨z, H', I', r, c, rfl, q⟩ := q
  cases r
  exact wpAny_truthy_bool ⟨.bl (!c), H', I', rfl, q⟩
/-- ~x -/
def rOwnU (C : Addr) (sp : Sp) : V → Hp → VK → Prop := fun x H Q => ∃ a, x = .ref a ∧ InsAt H C a ∧ sp [x] H Q E0
theorem un_own (c : Met X.prog X.w X.K X.mg X.base k C "__invert__" sp) (hr : Room j X.A) (hk : k ≤ j) : UnR X (unaryOp .Invert) (rOwnU C sp) := by
  intro pins s σ H x v Q I rx h
  obtain ⟨a, rfl, ha, h⟩ := h
  cases rx
  obtain ⟨f, hc, hm, F⟩ := c.ex
  obtain ⟨od, J⟩ := ins_look I ha
  obtain ⟨m, hF⟩ := I.fr
  exact PySem.W.ksp_inv hF I.ok.mod.kin J hm.at_ hm.fn (run_met F (hr.mono hk) I (us := [.ref a]) (vs := [.ref a]) (.cons rfl .nil) h)
/-- x as a test, by its own __bool__ -/
def tOwnT (C : Addr) (sp : Sp) (ta : TE) : TT := fun σ H Q => ta σ H fun x H1 => ∃ a, x = .ref a ∧ InsAt H1 C a ∧ sp [x] H1 (fun z H2 => ∃ c, z = .bl c ∧ Q c H2) E0
theorem truthy_own {pins : List (Addr × Obj)} {σ : L2.St} {H : Hp} {s : Shared} {a : Addr} {Q : Bool → Hp → Prop} (c : Met X.prog X.w X.K X.mg X.base k C "__bool__" sp) (hr : Room k X.A) (I : Inv X pins σ H s) (ha : InsAt H C a)
    (h : sp [.ref a] H (fun z H2 => ∃ c, z = .bl c ∧ Q c H2) E0) : wpAny (model X.prog X.w) X.A (truthy (.ref a)) (TP X pins σ Q) X.xe s := by
  obtain ⟨f, hc, hm, F⟩ := c.ex
  obtain ⟨od, J⟩ := ins_look I ha
  obtain ⟨m, hF⟩ := I.fr
  refine PySem.W.truthy_K hF I.ok.mod.kin J hm.at_ hm.fn ?_
  refine thn (run_met F hr I (us := [.ref a]) (vs := [.ref a]) (.cons rfl .nil) h) fun u s' q => ?_
  obtain ⟨z, H', I', r, c, rfl, q⟩ := q
  cases r
  exact ⟨H', I', q⟩
theorem pt_own (c : Met X.prog X.w X.K X.mg X.base k C "__bool__" sp) (hr : Room j X.A) (hk : k ≤ j) (ha : PE X a ta)
    (he : ∀ whole, isTrue a X.env whole = (do let v ← whole; standAt a.pos; holding [v] (truthy v)) := by intro _; rfl) : PT X a (tOwnT C sp ta) := by
  refine ⟨fun pins s σ H Q I h => ?_⟩
  refine isTrue_plain (thn (ha.run pins s σ H _ I h) fun v s1 ⟨x, H1, I1, r1, b, ex, hb, q1⟩ => ?_) (he _)
  subst ex
  cases r1
  exact truthy_own c (hr.mono hk) I1 hb q1
/-- code that is never reached -/
def tNo : TE := fun _ _ _ => False
def tNoT : TT := fun _ _ _ => False
theorem pe_no : PE X a tNo := ⟨fun _ _ _ _ _ _ h => h.elim⟩
theorem pt_no : PT X a tNoT := ⟨fun _ _ _ _ _ _ h => h.elim⟩
end
end EP
end

section
set_option Elab.async false
set_option linter.all false
set_option maxRecDepth 100000
set_option maxHeartbeats 4000000
/-! A1: the text by places, the facts that the head tells, the head's run. Printed by gen1.py. -/
namespace EP
open PySem PySem.Spec PyProof.Rows L2
def top (i : Nat) : Stmt := PySem.Challenge.pw_everyprime_k18_whole_papers_that_sayings.main.body.getD i (.Pass ⟨0, 0, 0, 0⟩)
abbrev s_checked_modulus_signs : Stmt := top 11
abbrev s_checked_modulus_values : Stmt := top 34
abbrev s_factor_of : Stmt := top 13
abbrev s_sign : Stmt := top 14
abbrev s_common : Stmt := top 16
abbrev s_factors : Stmt := top 17
abbrev s_is_prime : Stmt := top 18
abbrev s_core : Stmt := top 19
abbrev s_units : Stmt := top 32
abbrev s_odd_divisors : Stmt := top 33
abbrev s_checked_singles : Stmt := top 36
abbrev s_shortened : Stmt := top 37
abbrev s_told_by : Stmt := top 38
abbrev s_toggled : Stmt := top 39
abbrev s_least_description : Stmt := top 40
abbrev s_joined_answer : Stmt := top 41
abbrev s_combined : Stmt := top 42
abbrev s_joint_modulus : Stmt := top 48
abbrev s_sets_of : Stmt := top 50
abbrev s_special_primes : Stmt := top 51
abbrev s_paper_of : Stmt := top 52
abbrev s_is_paper : Stmt := top 53
abbrev s_reduced_forms : Stmt := top 56
abbrev s_rests_of : Stmt := top 57
abbrev s_side_of : Stmt := top 59
abbrev s_written : Stmt := top 60
abbrev s_neighbour : Stmt := top 61
abbrev s_form_primes : Stmt := top 62
abbrev s_is_integer_word : Stmt := top 65
abbrev s_by_sign : Stmt := top 68
abbrev s_divisors_of : Stmt := top 69
abbrev s_by_roots : Stmt := top 70
abbrev s_primes_of : Stmt := top 71
abbrev s_law_cell : Stmt := top 74
abbrev s_law_draws : Stmt := top 75
abbrev s_law_number : Stmt := top 78
abbrev s_law_middle : Stmt := top 79
abbrev s_law_text : Stmt := top 80
abbrev s_law_common : Stmt := top 81
abbrev s_law_is_prime : Stmt := top 82
abbrev s_law_special : Stmt := top 83
abbrev s_law_made : Stmt := top 84
abbrev s_law_shows : Stmt := top 85
abbrev s_law_changed : Stmt := top 86
abbrev s_law_texts : Stmt := top 87
abbrev s_law_far_pair : Stmt := top 88
abbrev s_law : Stmt := top 89
abbrev s_primes_init : Stmt := inClass (top 46) 0
abbrev s_primes_contains : Stmt := inClass (top 46) 6
abbrev s_primes_and : Stmt := inClass (top 46) 7
abbrev s_primes_or : Stmt := inClass (top 46) 8
abbrev s_primes_sub : Stmt := inClass (top 46) 9
abbrev s_primes_invert : Stmt := inClass (top 46) 10
abbrev s_primes_bool : Stmt := inClass (top 46) 12
abbrev s_primes_every : Stmt := inClass (top 46) 1
abbrev s_primes_none : Stmt := inClass (top 46) 2
abbrev s_primes_by_rest : Stmt := inClass (top 46) 4
abbrev s_form_init : Stmt := inClass (top 55) 0
abbrev s_form_call : Stmt := inClass (top 55) 1
abbrev s_form_eq : Stmt := inClass (top 55) 2
abbrev s_reader_init : Stmt := inClass (top 66) 0
abbrev s_reader_further : Stmt := inClass (top 66) 1
abbrev s_reader_next_word : Stmt := inClass (top 66) 2
abbrev s_reader_take : Stmt := inClass (top 66) 3
abbrev s_reader_number : Stmt := inClass (top 66) 4
abbrev s_reader_first_number : Stmt := inClass (top 66) 5
abbrev s_reader_rest_part : Stmt := inClass (top 66) 6
abbrev s_reader_plain_part : Stmt := inClass (top 66) 7
abbrev s_reader_part : Stmt := inClass (top 66) 8
abbrev s_reader_whole : Stmt := inClass (top 66) 9
abbrev s_saying_init : Stmt := inClass (top 72) 0
abbrev s_saying_where : Stmt := inClass (top 72) 4
/-- what isinstance asks of an own class -/
def isB (K : PySem.W.Frag) (C : Addr) : Bool := He.eqO (PySem.W.findIn K (.ref C) "__class__") (some (some (.builtin "object.__class__"))) && (He.eqO (PySem.W.specialIn K (.builtin "object.__class__") "__get__") (some (some (.builtin "getset_descriptor.__get__"))) &&
  (decide (PySem.W.takesIn K (.builtin "object.__class__") = some true) && (decide (PySem.W.mroIn K C (.type "object") = some true) && decide (PySem.W.kitOne K (.ref C) (.ref C) = some true))))
def fn0 : List He5.DefA := [⟨fun K => He.fAd K ("checked_modulus_signs", none), "checked_modulus", "checked_modulus", defArgs s_checked_modulus_signs, defBody s_checked_modulus_signs, defScope s_checked_modulus_signs, [], []⟩,
  ⟨fun K => He.fAd K ("checked_modulus_values", none), "checked_modulus", "checked_modulus", defArgs s_checked_modulus_values, defBody s_checked_modulus_values, defScope s_checked_modulus_values, [], []⟩,
  ⟨fun K => He.fAd K ("factor_of", none), "factor_of", "factor_of", defArgs s_factor_of, defBody s_factor_of, defScope s_factor_of, [], []⟩,
  ⟨fun K => He.fAd K ("sign", none), "sign", "sign", defArgs s_sign, defBody s_sign, defScope s_sign, [], []⟩,
  ⟨fun K => He.fAd K ("common", none), "common", "common", defArgs s_common, defBody s_common, defScope s_common, [], []⟩,
  ⟨fun K => He.fAd K ("factors", none), "factors", "factors", defArgs s_factors, defBody s_factors, defScope s_factors, [], []⟩,
  ⟨fun K => He.fAd K ("is_prime", none), "is_prime", "is_prime", defArgs s_is_prime, defBody s_is_prime, defScope s_is_prime, [], []⟩,
  ⟨fun K => He.fAd K ("core", none), "core", "core", defArgs s_core, defBody s_core, defScope s_core, [], []⟩,
  ⟨fun K => He.fAd K ("units", none), "units", "units", defArgs s_units, defBody s_units, defScope s_units, [], []⟩,
  ⟨fun K => He.fAd K ("odd_divisors", none), "odd_divisors", "odd_divisors", defArgs s_odd_divisors, defBody s_odd_divisors, defScope s_odd_divisors, [], []⟩,
  ⟨fun K => He.fAd K ("checked_singles", none), "checked_singles", "checked_singles", defArgs s_checked_singles, defBody s_checked_singles, defScope s_checked_singles, [], []⟩,
  ⟨fun K => He.fAd K ("shortened", none), "shortened", "shortened", defArgs s_shortened, defBody s_shortened, defScope s_shortened, [], []⟩,
  ⟨fun K => He.fAd K ("told_by", none), "told_by", "told_by", defArgs s_told_by, defBody s_told_by, defScope s_told_by, [], []⟩,
  ⟨fun K => He.fAd K ("toggled", none), "toggled", "toggled", defArgs s_toggled, defBody s_toggled, defScope s_toggled, [], []⟩,
  ⟨fun K => He.fAd K ("least_description", none), "least_description", "least_description", defArgs s_least_description, defBody s_least_description, defScope s_least_description, [], []⟩,
  ⟨fun K => He.fAd K ("joined_answer", none), "joined_answer", "joined_answer", defArgs s_joined_answer, defBody s_joined_answer, defScope s_joined_answer, [], []⟩]
def fn1 : List He5.DefA := [⟨fun K => He.fAd K ("combined", none), "combined", "combined", defArgs s_combined, defBody s_combined, defScope s_combined, [], []⟩,
  ⟨fun K => He.fAd K ("joint_modulus", none), "joint_modulus", "joint_modulus", defArgs s_joint_modulus, defBody s_joint_modulus, defScope s_joint_modulus, [], []⟩,
  ⟨fun K => He.fAd K ("sets_of", none), "sets_of", "sets_of", defArgs s_sets_of, defBody s_sets_of, defScope s_sets_of, [], []⟩,
  ⟨fun K => He.fAd K ("special_primes", none), "special_primes", "special_primes", defArgs s_special_primes, defBody s_special_primes, defScope s_special_primes, [], []⟩,
  ⟨fun K => He.fAd K ("paper_of", none), "paper_of", "paper_of", defArgs s_paper_of, defBody s_paper_of, defScope s_paper_of, [], []⟩,
  ⟨fun K => He.fAd K ("is_paper", none), "is_paper", "is_paper", defArgs s_is_paper, defBody s_is_paper, defScope s_is_paper, [], []⟩,
  ⟨fun K => He.fAd K ("reduced_forms", none), "reduced_forms", "reduced_forms", defArgs s_reduced_forms, defBody s_reduced_forms, defScope s_reduced_forms, [], []⟩,
  ⟨fun K => He.fAd K ("rests_of", none), "rests_of", "rests_of", defArgs s_rests_of, defBody s_rests_of, defScope s_rests_of, [], []⟩,
  ⟨fun K => He.fAd K ("side_of", none), "side_of", "side_of", defArgs s_side_of, defBody s_side_of, defScope s_side_of, [], []⟩,
  ⟨fun K => He.fAd K ("written", none), "written", "written", defArgs s_written, defBody s_written, defScope s_written, [], []⟩,
  ⟨fun K => He.fAd K ("neighbour", none), "neighbour", "neighbour", defArgs s_neighbour, defBody s_neighbour, defScope s_neighbour, [], []⟩,
  ⟨fun K => He.fAd K ("form_primes", none), "form_primes", "form_primes", defArgs s_form_primes, defBody s_form_primes, defScope s_form_primes, [], []⟩,
  ⟨fun K => He.fAd K ("is_integer_word", none), "is_integer_word", "is_integer_word", defArgs s_is_integer_word, defBody s_is_integer_word, defScope s_is_integer_word, [], []⟩,
  ⟨fun K => He.fAd K ("by_sign", none), "by_sign", "by_sign", defArgs s_by_sign, defBody s_by_sign, defScope s_by_sign, [], []⟩,
  ⟨fun K => He.fAd K ("divisors_of", none), "divisors_of", "divisors_of", defArgs s_divisors_of, defBody s_divisors_of, defScope s_divisors_of, [], []⟩,
  ⟨fun K => He.fAd K ("by_roots", none), "by_roots", "by_roots", defArgs s_by_roots, defBody s_by_roots, defScope s_by_roots, [], []⟩]
def fn2 : List He5.DefA := [⟨fun K => He.fAd K ("primes_of", none), "primes_of", "primes_of", defArgs s_primes_of, defBody s_primes_of, defScope s_primes_of, [], []⟩,
  ⟨fun K => He.fAd K ("_law_cell", none), "_law_cell", "_law_cell", defArgs s_law_cell, defBody s_law_cell, defScope s_law_cell, [], []⟩,
  ⟨fun K => He.fAd K ("_law_draws", none), "_law_draws", "_law_draws", defArgs s_law_draws, defBody s_law_draws, defScope s_law_draws, [], []⟩,
  ⟨fun K => He.fAd K ("_law_number", none), "_law_number", "_law_number", defArgs s_law_number, defBody s_law_number, defScope s_law_number, [], []⟩,
  ⟨fun K => He.fAd K ("_law_middle", none), "_law_middle", "_law_middle", defArgs s_law_middle, defBody s_law_middle, defScope s_law_middle, [], []⟩,
  ⟨fun K => He.fAd K ("_law_text", none), "_law_text", "_law_text", defArgs s_law_text, defBody s_law_text, defScope s_law_text, [], []⟩,
  ⟨fun K => He.fAd K ("_law_common", none), "_law_common", "_law_common", defArgs s_law_common, defBody s_law_common, defScope s_law_common, [], []⟩,
  ⟨fun K => He.fAd K ("_law_is_prime", none), "_law_is_prime", "_law_is_prime", defArgs s_law_is_prime, defBody s_law_is_prime, defScope s_law_is_prime, [], []⟩,
  ⟨fun K => He.fAd K ("_law_special", none), "_law_special", "_law_special", defArgs s_law_special, defBody s_law_special, defScope s_law_special, [], []⟩,
  ⟨fun K => He.fAd K ("_law_made", none), "_law_made", "_law_made", defArgs s_law_made, defBody s_law_made, defScope s_law_made, [], []⟩,
  ⟨fun K => He.fAd K ("_law_shows", none), "_law_shows", "_law_shows", defArgs s_law_shows, defBody s_law_shows, defScope s_law_shows, [], []⟩,
  ⟨fun K => He.fAd K ("_law_changed", none), "_law_changed", "_law_changed", defArgs s_law_changed, defBody s_law_changed, defScope s_law_changed, [], []⟩,
  ⟨fun K => He.fAd K ("_law_texts", none), "_law_texts", "_law_texts", defArgs s_law_texts, defBody s_law_texts, defScope s_law_texts, [], []⟩,
  ⟨fun K => He.fAd K ("_law_far_pair", none), "_law_far_pair", "_law_far_pair", defArgs s_law_far_pair, defBody s_law_far_pair, defScope s_law_far_pair, [], []⟩,
  ⟨fun K => He.fAd K ("law", none), "law", "law", defArgs s_law, defBody s_law, defScope s_law, [], []⟩,
  ⟨fun K => He.fAd K ("Primes", some "__init__"), "__init__", "Primes.__init__", defArgs s_primes_init, defBody s_primes_init, defScope s_primes_init, [], []⟩]
def fn3 : List He5.DefA := [⟨fun K => He.fAd K ("Primes", some "__contains__"), "__contains__", "Primes.__contains__", defArgs s_primes_contains, defBody s_primes_contains, defScope s_primes_contains, [], []⟩,
  ⟨fun K => He.fAd K ("Primes", some "__and__"), "__and__", "Primes.__and__", defArgs s_primes_and, defBody s_primes_and, defScope s_primes_and, [], []⟩,
  ⟨fun K => He.fAd K ("Primes", some "__or__"), "__or__", "Primes.__or__", defArgs s_primes_or, defBody s_primes_or, defScope s_primes_or, [], []⟩,
  ⟨fun K => He.fAd K ("Primes", some "__sub__"), "__sub__", "Primes.__sub__", defArgs s_primes_sub, defBody s_primes_sub, defScope s_primes_sub, [], []⟩,
  ⟨fun K => He.fAd K ("Primes", some "__invert__"), "__invert__", "Primes.__invert__", defArgs s_primes_invert, defBody s_primes_invert, defScope s_primes_invert, [], []⟩,
  ⟨fun K => He.fAd K ("Primes", some "__bool__"), "__bool__", "Primes.__bool__", defArgs s_primes_bool, defBody s_primes_bool, defScope s_primes_bool, [], []⟩,
  ⟨fun K => He5.wf K (He.ga K "Primes") "classmethod" "every", "every", "Primes.every", defArgs s_primes_every, defBody s_primes_every, defScope s_primes_every, [], []⟩,
  ⟨fun K => He5.wf K (He.ga K "Primes") "classmethod" "none", "none", "Primes.none", defArgs s_primes_none, defBody s_primes_none, defScope s_primes_none, [], []⟩,
  ⟨fun K => He5.wf K (He.ga K "Primes") "classmethod" "by_rest", "by_rest", "Primes.by_rest", defArgs s_primes_by_rest, defBody s_primes_by_rest, defScope s_primes_by_rest, [], []⟩,
  ⟨fun K => He.fAd K ("Form", some "__init__"), "__init__", "Form.__init__", defArgs s_form_init, defBody s_form_init, defScope s_form_init, [], []⟩,
  ⟨fun K => He.fAd K ("Form", some "__call__"), "__call__", "Form.__call__", defArgs s_form_call, defBody s_form_call, defScope s_form_call, [], []⟩,
  ⟨fun K => He.fAd K ("Form", some "__eq__"), "__eq__", "Form.__eq__", defArgs s_form_eq, defBody s_form_eq, defScope s_form_eq, [], []⟩,
  ⟨fun K => He.fAd K ("Reader", some "__init__"), "__init__", "Reader.__init__", defArgs s_reader_init, defBody s_reader_init, defScope s_reader_init, [], []⟩,
  ⟨fun K => He.fAd K ("Reader", some "further"), "further", "Reader.further", defArgs s_reader_further, defBody s_reader_further, defScope s_reader_further, [], []⟩,
  ⟨fun K => He.fAd K ("Reader", some "next_word"), "next_word", "Reader.next_word", defArgs s_reader_next_word, defBody s_reader_next_word, defScope s_reader_next_word, [], []⟩,
  ⟨fun K => He.fAd K ("Reader", some "take"), "take", "Reader.take", defArgs s_reader_take, defBody s_reader_take, defScope s_reader_take, [], []⟩]
def fn4 : List He5.DefA := [⟨fun K => He.fAd K ("Reader", some "number"), "number", "Reader.number", defArgs s_reader_number, defBody s_reader_number, defScope s_reader_number, [], []⟩,
  ⟨fun K => He.fAd K ("Reader", some "first_number"), "first_number", "Reader.first_number", defArgs s_reader_first_number, defBody s_reader_first_number, defScope s_reader_first_number, [], []⟩,
  ⟨fun K => He.fAd K ("Reader", some "rest_part"), "rest_part", "Reader.rest_part", defArgs s_reader_rest_part, defBody s_reader_rest_part, defScope s_reader_rest_part, [], []⟩,
  ⟨fun K => He.fAd K ("Reader", some "plain_part"), "plain_part", "Reader.plain_part", defArgs s_reader_plain_part, defBody s_reader_plain_part, defScope s_reader_plain_part, [], []⟩,
  ⟨fun K => He.fAd K ("Reader", some "part"), "part", "Reader.part", defArgs s_reader_part, defBody s_reader_part, defScope s_reader_part, [], []⟩,
  ⟨fun K => He.fAd K ("Reader", some "whole"), "whole", "Reader.whole", defArgs s_reader_whole, defBody s_reader_whole, defScope s_reader_whole, [], []⟩,
  ⟨fun K => He.fAd K ("Saying", some "__init__"), "__init__", "Saying.__init__", defArgs s_saying_init, defBody s_saying_init, defScope s_saying_init, [], []⟩,
  ⟨fun K => He.fAd K ("Saying", some "where"), "where", "Saying.where", defArgs s_saying_where, defBody s_saying_where, defScope s_saying_where, [], []⟩]
def fn : List He5.DefA := fn0 ++ fn1 ++ fn2 ++ fn3 ++ fn4
def fb0 : List (PySem.W.Frag → Bool) := [(He.Fa.glo "checked_modulus_signs").ok, (He.Fa.glo "checked_modulus_values").ok, (He.Fa.glo "factor_of").ok, (He.Fa.glo "sign").ok, (He.Fa.glo "common").ok, (He.Fa.glo "factors").ok, (He.Fa.glo "is_prime").ok, (He.Fa.glo "core").ok, (He.Fa.glo "units").ok, (He.Fa.glo "odd_divisors").ok, (He.Fa.glo "checked_singles").ok, (He.Fa.glo "shortened").ok, (He.Fa.glo "told_by").ok, (He.Fa.glo "toggled").ok, (He.Fa.glo "least_description").ok, (He.Fa.glo "joined_answer").ok]
def fb1 : List (PySem.W.Frag → Bool) := [(He.Fa.glo "combined").ok, (He.Fa.glo "joint_modulus").ok, (He.Fa.glo "sets_of").ok, (He.Fa.glo "special_primes").ok, (He.Fa.glo "paper_of").ok, (He.Fa.glo "is_paper").ok, (He.Fa.glo "reduced_forms").ok, (He.Fa.glo "rests_of").ok, (He.Fa.glo "side_of").ok, (He.Fa.glo "written").ok, (He.Fa.glo "neighbour").ok, (He.Fa.glo "form_primes").ok, (He.Fa.glo "is_integer_word").ok, (He.Fa.glo "by_sign").ok, (He.Fa.glo "divisors_of").ok, (He.Fa.glo "by_roots").ok]
def fb2 : List (PySem.W.Frag → Bool) := [(He.Fa.glo "primes_of").ok, (He.Fa.glo "_law_cell").ok, (He.Fa.glo "_law_draws").ok, (He.Fa.glo "_law_number").ok, (He.Fa.glo "_law_middle").ok, (He.Fa.glo "_law_text").ok, (He.Fa.glo "_law_common").ok, (He.Fa.glo "_law_is_prime").ok, (He.Fa.glo "_law_special").ok, (He.Fa.glo "_law_made").ok, (He.Fa.glo "_law_shows").ok, (He.Fa.glo "_law_changed").ok, (He.Fa.glo "_law_texts").ok, (He.Fa.glo "_law_far_pair").ok, (He.Fa.glo "law").ok, (He.Fa.glo "Primes").ok]
def fb3 : List (PySem.W.Frag → Bool) := [(He.Fa.glo "Form").ok, (He.Fa.glo "Reader").ok, (He.Fa.glo "Saying").ok, (He.Fa.free "len").ok, (He.Fa.free "abs").ok, (He.Fa.free "range").ok, (He.Fa.free "sorted").ok, (He.Fa.free "set").ok, (He.Fa.free "list").ok, (He.Fa.free "tuple").ok, (He.Fa.free "all").ok, (He.Fa.free "any").ok, (He.Fa.free "max").ok, (He.Fa.free "int").ok, (He.Fa.free "str").ok, (He.Fa.free "bool").ok]
def fb4 : List (PySem.W.Frag → Bool) := [(He.Fa.free "isinstance").ok, (He.Fa.int "MOST_MODULUS" 4000).ok, (He.Fa.int "MOST_OPEN" 8).ok, (He.Fa.cls "Primes").ok, (He.Fa.mkr "Primes").ok, (He.Fa.noat "Primes" "modulus").ok, (He.Fa.noat "Primes" "rests").ok, (He.Fa.noat "Primes" "singles").ok, (He.Fa.meth "Primes" "__contains__").ok, (He.Fa.meth "Primes" "__and__").ok, (He.Fa.meth "Primes" "__or__").ok, (He.Fa.meth "Primes" "__sub__").ok, (He.Fa.meth "Primes" "__invert__").ok, (He.Fa.meth "Primes" "__bool__").ok, (He.Fa.cls "Form").ok, (He.Fa.mkr "Form").ok]
def fb5 : List (PySem.W.Frag → Bool) := [(He.Fa.noat "Form" "a").ok, (He.Fa.noat "Form" "b").ok, (He.Fa.noat "Form" "c").ok, (He.Fa.noat "Form" "discriminant").ok, (He.Fa.meth "Form" "__call__").ok, (He.Fa.meth "Form" "__eq__").ok, (He.Fa.cls "Reader").ok, (He.Fa.mkr "Reader").ok, (He.Fa.noat "Reader" "words").ok, (He.Fa.noat "Reader" "at").ok, (He.Fa.meth "Reader" "further").ok, (He.Fa.meth "Reader" "next_word").ok, (He.Fa.meth "Reader" "take").ok, (He.Fa.meth "Reader" "number").ok, (He.Fa.meth "Reader" "first_number").ok, (He.Fa.meth "Reader" "rest_part").ok]
def fb6 : List (PySem.W.Frag → Bool) := [(He.Fa.meth "Reader" "plain_part").ok, (He.Fa.meth "Reader" "part").ok, (He.Fa.meth "Reader" "whole").ok, (He.Fa.cls "Saying").ok, (He.Fa.mkr "Saying").ok, (He.Fa.noat "Saying" "tree").ok, (He.Fa.noat "Saying" "text").ok, (He.Fa.meth "Saying" "where").ok, fun K => PySem.W.selfFirst K (He.ga K "Primes"), fun K => He5.wrapB K (He.ga K "Primes") "classmethod" "classmethod.__get__" "every" && PySem.W.fnIn K (He5.wf K (He.ga K "Primes") "classmethod" "every"), fun K => He5.wrapB K (He.ga K "Primes") "classmethod" "classmethod.__get__" "none" && PySem.W.fnIn K (He5.wf K (He.ga K "Primes") "classmethod" "none"), fun K => He5.wrapB K (He.ga K "Primes") "classmethod" "classmethod.__get__" "by_rest" && PySem.W.fnIn K (He5.wf K (He.ga K "Primes") "classmethod" "by_rest"), fun K => PySem.W.readsIn K (He.ga K "Primes") (.type "type"), fun K => PySem.W.fnIn K (He.ma K (He.ga K "Form") "__call__"), fun K => isB K (He.ga K "Form"), fun K => decide (PySem.W.kitOne K (.type "bool") (.type "bool") = some true)]
def fb : List (PySem.W.Frag → Bool) := fb0 ++ fb1 ++ fb2 ++ fb3 ++ fb4 ++ fb5 ++ fb6
/-! ### the Hook: He5's, the facts any Bools -/
def obsX (K : PySem.W.Frag) : He.AlD := ((fb.all fun f => f K) && fn.all fun d => d.ok K, fn.map fun d => He5.fnA K (d.at_ K))
def valX : He.AlD := (true, fn.map He5.DefA.val)
def Says (K : PySem.W.Frag) : Prop := obsX K = valX
/-- what an object names, as far as it is wanted here -/
def refsX (o : Obj) : List Addr := match o.data with
  | .func fd => He.refV fd.code
  | .cls cd => [cd.ns]
  | .dict es _ => es.toList.flatMap fun e => He.refV e.val
  | .fields vs => (match o.cls with
    | .type "classmethod" => vs.toList.flatMap He.refV
    | _ => [])
  | _ => []
def nextX (g : Addr → Option Obj) (as : List Addr) : List Addr := as.flatMap fun a => match g a with
  | some o => refsX o
  | none => []
def asX (g : Addr → Option Obj) : Nat → List Addr → List Addr
  | 0, as => as
  | n + 1, as => as ++ asX g n (nextX g as)
def obsXG (n : Nat) (g : Addr → Option Obj) : He.AlD := obsX (He.frG g (asX g n [mainGlobals] ++ [cStatics]))
def hookX (n : Nat) : PySem.W.Hook where
  α := He.AlD
  obs := fun s => obsXG n s.heap.get?
  val := fun _ => valX
  says := fun _ h => ∃ K : PySem.W.Frag, K.In h ∧ Says K
  of := fun _ _ e => ⟨_, He.frG_in, e⟩
  keeps := fun _ _ _ ⟨K, hK, c⟩ k => ⟨K, PySem.W.Frag.In.keeps hK k, c⟩
theorem obsXG_eq {n : Nat} {g : Addr → Option Obj} {s : Shared} (h : ∀ a, g a = s.heap.get? a) : obsXG n g = (hookX n).obs s := by
  have e : g = s.heap.get? := funext h
  rw [e] <;> rfl
theorem Says.fact {K : PySem.W.Frag} (c : Says K) {f : PySem.W.Frag → Bool} (h : f ∈ fb) : f K = true := by
  have c1 := (He.ba (show ((fb.all fun f => f K) && fn.all fun d => d.ok K) = true from congrArg (fun z : He.AlD => z.1) c)).1
  exact List.all_eq_true.mp c1 f h
theorem Says.def_ {K : PySem.W.Frag} (c : Says K) (i : Nat) {d : He5.DefA} (h : fn[i]? = some d) : ∃ fd, FunD K d.name d.qual d.params d.body d.scope (d.dvs K) (d.kws K) (d.at_ K) fd := by
  have c2 := (He.ba (show ((fb.all fun f => f K) && fn.all fun d => d.ok K) = true from congrArg (fun z : He.AlD => z.1) c)).2
  have e : fn.map (fun d => He5.fnA K (d.at_ K)) = fn.map He5.DefA.val := congrArg (fun z : He.AlD => z.2) c
  have e2 : (fn.map fun d => He5.fnA K (d.at_ K))[i]? = (fn.map He5.DefA.val)[i]? := by rw [e]
  rw [List.getElem?_map, List.getElem?_map, h] at e2
  exact He5.DefA.funD (Option.some.inj e2) (List.all_eq_true.mp c2 d (List.mem_of_getElem? h))
theorem Says.at_ {K : PySem.W.Frag} (c : Says K) (i : Nat) {f : PySem.W.Frag → Bool} (h : fb[i]? = some f) : f K = true := c.fact (List.mem_of_getElem? h)
/-- what stands behind the top -/
structure Tx (K : PySem.W.Frag) (mg : Str → Option Value) (base : Heap) : Prop where
  says : Says K
  kin : K.In base
  ns : base.Ns mainGlobals mg
section
variable {K : PySem.W.Frag} {mg : Str → Option Value} {base : Heap}
theorem Tx.f_checked_modulus_signs (T : Tx K mg base) : ∃ fd, L2.Fun K "checked_modulus" "checked_modulus" s_checked_modulus_signs (He.fAd K ("checked_modulus_signs", none)) fd := by
  obtain ⟨fd, F⟩ := T.says.def_ 0 (d := ⟨fun K => He.fAd K ("checked_modulus_signs", none), "checked_modulus", "checked_modulus", defArgs s_checked_modulus_signs, defBody s_checked_modulus_signs, defScope s_checked_modulus_signs, [], []⟩) rfl
  exact ⟨fd, He5.fun_of F⟩
theorem Tx.f_checked_modulus_values (T : Tx K mg base) : ∃ fd, L2.Fun K "checked_modulus" "checked_modulus" s_checked_modulus_values (He.fAd K ("checked_modulus_values", none)) fd := by
  obtain ⟨fd, F⟩ := T.says.def_ 1 (d := ⟨fun K => He.fAd K ("checked_modulus_values", none), "checked_modulus", "checked_modulus", defArgs s_checked_modulus_values, defBody s_checked_modulus_values, defScope s_checked_modulus_values, [], []⟩) rfl
  exact ⟨fd, He5.fun_of F⟩
theorem Tx.f_factor_of (T : Tx K mg base) : ∃ fd, L2.Fun K "factor_of" "factor_of" s_factor_of (He.fAd K ("factor_of", none)) fd := by
  obtain ⟨fd, F⟩ := T.says.def_ 2 (d := ⟨fun K => He.fAd K ("factor_of", none), "factor_of", "factor_of", defArgs s_factor_of, defBody s_factor_of, defScope s_factor_of, [], []⟩) rfl
  exact ⟨fd, He5.fun_of F⟩
theorem Tx.f_sign (T : Tx K mg base) : ∃ fd, L2.Fun K "sign" "sign" s_sign (He.fAd K ("sign", none)) fd := by
  obtain ⟨fd, F⟩ := T.says.def_ 3 (d := ⟨fun K => He.fAd K ("sign", none), "sign", "sign", defArgs s_sign, defBody s_sign, defScope s_sign, [], []⟩) rfl
  exact ⟨fd, He5.fun_of F⟩
theorem Tx.f_common (T : Tx K mg base) : ∃ fd, L2.Fun K "common" "common" s_common (He.fAd K ("common", none)) fd := by
  obtain ⟨fd, F⟩ := T.says.def_ 4 (d := ⟨fun K => He.fAd K ("common", none), "common", "common", defArgs s_common, defBody s_common, defScope s_common, [], []⟩) rfl
  exact ⟨fd, He5.fun_of F⟩
theorem Tx.f_factors (T : Tx K mg base) : ∃ fd, L2.Fun K "factors" "factors" s_factors (He.fAd K ("factors", none)) fd := by
  obtain ⟨fd, F⟩ := T.says.def_ 5 (d := ⟨fun K => He.fAd K ("factors", none), "factors", "factors", defArgs s_factors, defBody s_factors, defScope s_factors, [], []⟩) rfl
  exact ⟨fd, He5.fun_of F⟩
theorem Tx.f_is_prime (T : Tx K mg base) : ∃ fd, L2.Fun K "is_prime" "is_prime" s_is_prime (He.fAd K ("is_prime", none)) fd := by
  obtain ⟨fd, F⟩ := T.says.def_ 6 (d := ⟨fun K => He.fAd K ("is_prime", none), "is_prime", "is_prime", defArgs s_is_prime, defBody s_is_prime, defScope s_is_prime, [], []⟩) rfl
  exact ⟨fd, He5.fun_of F⟩
theorem Tx.f_core (T : Tx K mg base) : ∃ fd, L2.Fun K "core" "core" s_core (He.fAd K ("core", none)) fd := by
  obtain ⟨fd, F⟩ := T.says.def_ 7 (d := ⟨fun K => He.fAd K ("core", none), "core", "core", defArgs s_core, defBody s_core, defScope s_core, [], []⟩) rfl
  exact ⟨fd, He5.fun_of F⟩
theorem Tx.f_units (T : Tx K mg base) : ∃ fd, L2.Fun K "units" "units" s_units (He.fAd K ("units", none)) fd := by
  obtain ⟨fd, F⟩ := T.says.def_ 8 (d := ⟨fun K => He.fAd K ("units", none), "units", "units", defArgs s_units, defBody s_units, defScope s_units, [], []⟩) rfl
  exact ⟨fd, He5.fun_of F⟩
theorem Tx.f_odd_divisors (T : Tx K mg base) : ∃ fd, L2.Fun K "odd_divisors" "odd_divisors" s_odd_divisors (He.fAd K ("odd_divisors", none)) fd := by
  obtain ⟨fd, F⟩ := T.says.def_ 9 (d := ⟨fun K => He.fAd K ("odd_divisors", none), "odd_divisors", "odd_divisors", defArgs s_odd_divisors, defBody s_odd_divisors, defScope s_odd_divisors, [], []⟩) rfl
  exact ⟨fd, He5.fun_of F⟩
theorem Tx.f_checked_singles (T : Tx K mg base) : ∃ fd, L2.Fun K "checked_singles" "checked_singles" s_checked_singles (He.fAd K ("checked_singles", none)) fd := by
  obtain ⟨fd, F⟩ := T.says.def_ 10 (d := ⟨fun K => He.fAd K ("checked_singles", none), "checked_singles", "checked_singles", defArgs s_checked_singles, defBody s_checked_singles, defScope s_checked_singles, [], []⟩) rfl
  exact ⟨fd, He5.fun_of F⟩
theorem Tx.f_shortened (T : Tx K mg base) : ∃ fd, L2.Fun K "shortened" "shortened" s_shortened (He.fAd K ("shortened", none)) fd := by
  obtain ⟨fd, F⟩ := T.says.def_ 11 (d := ⟨fun K => He.fAd K ("shortened", none), "shortened", "shortened", defArgs s_shortened, defBody s_shortened, defScope s_shortened, [], []⟩) rfl
  exact ⟨fd, He5.fun_of F⟩
theorem Tx.f_told_by (T : Tx K mg base) : ∃ fd, L2.Fun K "told_by" "told_by" s_told_by (He.fAd K ("told_by", none)) fd := by
  obtain ⟨fd, F⟩ := T.says.def_ 12 (d := ⟨fun K => He.fAd K ("told_by", none), "told_by", "told_by", defArgs s_told_by, defBody s_told_by, defScope s_told_by, [], []⟩) rfl
  exact ⟨fd, He5.fun_of F⟩
theorem Tx.f_toggled (T : Tx K mg base) : ∃ fd, L2.Fun K "toggled" "toggled" s_toggled (He.fAd K ("toggled", none)) fd := by
  obtain ⟨fd, F⟩ := T.says.def_ 13 (d := ⟨fun K => He.fAd K ("toggled", none), "toggled", "toggled", defArgs s_toggled, defBody s_toggled, defScope s_toggled, [], []⟩) rfl
  exact ⟨fd, He5.fun_of F⟩
theorem Tx.f_least_description (T : Tx K mg base) : ∃ fd, L2.Fun K "least_description" "least_description" s_least_description (He.fAd K ("least_description", none)) fd := by
  obtain ⟨fd, F⟩ := T.says.def_ 14 (d := ⟨fun K => He.fAd K ("least_description", none), "least_description", "least_description", defArgs s_least_description, defBody s_least_description, defScope s_least_description, [], []⟩) rfl
  exact ⟨fd, He5.fun_of F⟩
theorem Tx.f_joined_answer (T : Tx K mg base) : ∃ fd, L2.Fun K "joined_answer" "joined_answer" s_joined_answer (He.fAd K ("joined_answer", none)) fd := by
  obtain ⟨fd, F⟩ := T.says.def_ 15 (d := ⟨fun K => He.fAd K ("joined_answer", none), "joined_answer", "joined_answer", defArgs s_joined_answer, defBody s_joined_answer, defScope s_joined_answer, [], []⟩) rfl
  exact ⟨fd, He5.fun_of F⟩
theorem Tx.f_combined (T : Tx K mg base) : ∃ fd, L2.Fun K "combined" "combined" s_combined (He.fAd K ("combined", none)) fd := by
  obtain ⟨fd, F⟩ := T.says.def_ 16 (d := ⟨fun K => He.fAd K ("combined", none), "combined", "combined", defArgs s_combined, defBody s_combined, defScope s_combined, [], []⟩) rfl
  exact ⟨fd, He5.fun_of F⟩
theorem Tx.f_joint_modulus (T : Tx K mg base) : ∃ fd, L2.Fun K "joint_modulus" "joint_modulus" s_joint_modulus (He.fAd K ("joint_modulus", none)) fd := by
  obtain ⟨fd, F⟩ := T.says.def_ 17 (d := ⟨fun K => He.fAd K ("joint_modulus", none), "joint_modulus", "joint_modulus", defArgs s_joint_modulus, defBody s_joint_modulus, defScope s_joint_modulus, [], []⟩) rfl
  exact ⟨fd, He5.fun_of F⟩
theorem Tx.f_sets_of (T : Tx K mg base) : ∃ fd, L2.Fun K "sets_of" "sets_of" s_sets_of (He.fAd K ("sets_of", none)) fd := by
  obtain ⟨fd, F⟩ := T.says.def_ 18 (d := ⟨fun K => He.fAd K ("sets_of", none), "sets_of", "sets_of", defArgs s_sets_of, defBody s_sets_of, defScope s_sets_of, [], []⟩) rfl
  exact ⟨fd, He5.fun_of F⟩
theorem Tx.f_special_primes (T : Tx K mg base) : ∃ fd, L2.Fun K "special_primes" "special_primes" s_special_primes (He.fAd K ("special_primes", none)) fd := by
  obtain ⟨fd, F⟩ := T.says.def_ 19 (d := ⟨fun K => He.fAd K ("special_primes", none), "special_primes", "special_primes", defArgs s_special_primes, defBody s_special_primes, defScope s_special_primes, [], []⟩) rfl
  exact ⟨fd, He5.fun_of F⟩
theorem Tx.f_paper_of (T : Tx K mg base) : ∃ fd, L2.Fun K "paper_of" "paper_of" s_paper_of (He.fAd K ("paper_of", none)) fd := by
  obtain ⟨fd, F⟩ := T.says.def_ 20 (d := ⟨fun K => He.fAd K ("paper_of", none), "paper_of", "paper_of", defArgs s_paper_of, defBody s_paper_of, defScope s_paper_of, [], []⟩) rfl
  exact ⟨fd, He5.fun_of F⟩
theorem Tx.f_is_paper (T : Tx K mg base) : ∃ fd, L2.Fun K "is_paper" "is_paper" s_is_paper (He.fAd K ("is_paper", none)) fd := by
  obtain ⟨fd, F⟩ := T.says.def_ 21 (d := ⟨fun K => He.fAd K ("is_paper", none), "is_paper", "is_paper", defArgs s_is_paper, defBody s_is_paper, defScope s_is_paper, [], []⟩) rfl
  exact ⟨fd, He5.fun_of F⟩
theorem Tx.f_reduced_forms (T : Tx K mg base) : ∃ fd, L2.Fun K "reduced_forms" "reduced_forms" s_reduced_forms (He.fAd K ("reduced_forms", none)) fd := by
  obtain ⟨fd, F⟩ := T.says.def_ 22 (d := ⟨fun K => He.fAd K ("reduced_forms", none), "reduced_forms", "reduced_forms", defArgs s_reduced_forms, defBody s_reduced_forms, defScope s_reduced_forms, [], []⟩) rfl
  exact ⟨fd, He5.fun_of F⟩
theorem Tx.f_rests_of (T : Tx K mg base) : ∃ fd, L2.Fun K "rests_of" "rests_of" s_rests_of (He.fAd K ("rests_of", none)) fd := by
  obtain ⟨fd, F⟩ := T.says.def_ 23 (d := ⟨fun K => He.fAd K ("rests_of", none), "rests_of", "rests_of", defArgs s_rests_of, defBody s_rests_of, defScope s_rests_of, [], []⟩) rfl
  exact ⟨fd, He5.fun_of F⟩
theorem Tx.f_side_of (T : Tx K mg base) : ∃ fd, L2.Fun K "side_of" "side_of" s_side_of (He.fAd K ("side_of", none)) fd := by
  obtain ⟨fd, F⟩ := T.says.def_ 24 (d := ⟨fun K => He.fAd K ("side_of", none), "side_of", "side_of", defArgs s_side_of, defBody s_side_of, defScope s_side_of, [], []⟩) rfl
  exact ⟨fd, He5.fun_of F⟩
theorem Tx.f_written (T : Tx K mg base) : ∃ fd, L2.Fun K "written" "written" s_written (He.fAd K ("written", none)) fd := by
  obtain ⟨fd, F⟩ := T.says.def_ 25 (d := ⟨fun K => He.fAd K ("written", none), "written", "written", defArgs s_written, defBody s_written, defScope s_written, [], []⟩) rfl
  exact ⟨fd, He5.fun_of F⟩
theorem Tx.f_neighbour (T : Tx K mg base) : ∃ fd, L2.Fun K "neighbour" "neighbour" s_neighbour (He.fAd K ("neighbour", none)) fd := by
  obtain ⟨fd, F⟩ := T.says.def_ 26 (d := ⟨fun K => He.fAd K ("neighbour", none), "neighbour", "neighbour", defArgs s_neighbour, defBody s_neighbour, defScope s_neighbour, [], []⟩) rfl
  exact ⟨fd, He5.fun_of F⟩
theorem Tx.f_form_primes (T : Tx K mg base) : ∃ fd, L2.Fun K "form_primes" "form_primes" s_form_primes (He.fAd K ("form_primes", none)) fd := by
  obtain ⟨fd, F⟩ := T.says.def_ 27 (d := ⟨fun K => He.fAd K ("form_primes", none), "form_primes", "form_primes", defArgs s_form_primes, defBody s_form_primes, defScope s_form_primes, [], []⟩) rfl
  exact ⟨fd, He5.fun_of F⟩
theorem Tx.f_is_integer_word (T : Tx K mg base) : ∃ fd, L2.Fun K "is_integer_word" "is_integer_word" s_is_integer_word (He.fAd K ("is_integer_word", none)) fd := by
  obtain ⟨fd, F⟩ := T.says.def_ 28 (d := ⟨fun K => He.fAd K ("is_integer_word", none), "is_integer_word", "is_integer_word", defArgs s_is_integer_word, defBody s_is_integer_word, defScope s_is_integer_word, [], []⟩) rfl
  exact ⟨fd, He5.fun_of F⟩
theorem Tx.f_by_sign (T : Tx K mg base) : ∃ fd, L2.Fun K "by_sign" "by_sign" s_by_sign (He.fAd K ("by_sign", none)) fd := by
  obtain ⟨fd, F⟩ := T.says.def_ 29 (d := ⟨fun K => He.fAd K ("by_sign", none), "by_sign", "by_sign", defArgs s_by_sign, defBody s_by_sign, defScope s_by_sign, [], []⟩) rfl
  exact ⟨fd, He5.fun_of F⟩
theorem Tx.f_divisors_of (T : Tx K mg base) : ∃ fd, L2.Fun K "divisors_of" "divisors_of" s_divisors_of (He.fAd K ("divisors_of", none)) fd := by
  obtain ⟨fd, F⟩ := T.says.def_ 30 (d := ⟨fun K => He.fAd K ("divisors_of", none), "divisors_of", "divisors_of", defArgs s_divisors_of, defBody s_divisors_of, defScope s_divisors_of, [], []⟩) rfl
  exact ⟨fd, He5.fun_of F⟩
theorem Tx.f_by_roots (T : Tx K mg base) : ∃ fd, L2.Fun K "by_roots" "by_roots" s_by_roots (He.fAd K ("by_roots", none)) fd := by
  obtain ⟨fd, F⟩ := T.says.def_ 31 (d := ⟨fun K => He.fAd K ("by_roots", none), "by_roots", "by_roots", defArgs s_by_roots, defBody s_by_roots, defScope s_by_roots, [], []⟩) rfl
  exact ⟨fd, He5.fun_of F⟩
theorem Tx.f_primes_of (T : Tx K mg base) : ∃ fd, L2.Fun K "primes_of" "primes_of" s_primes_of (He.fAd K ("primes_of", none)) fd := by
  obtain ⟨fd, F⟩ := T.says.def_ 32 (d := ⟨fun K => He.fAd K ("primes_of", none), "primes_of", "primes_of", defArgs s_primes_of, defBody s_primes_of, defScope s_primes_of, [], []⟩) rfl
  exact ⟨fd, He5.fun_of F⟩
theorem Tx.f_law_cell (T : Tx K mg base) : ∃ fd, L2.Fun K "_law_cell" "_law_cell" s_law_cell (He.fAd K ("_law_cell", none)) fd := by
  obtain ⟨fd, F⟩ := T.says.def_ 33 (d := ⟨fun K => He.fAd K ("_law_cell", none), "_law_cell", "_law_cell", defArgs s_law_cell, defBody s_law_cell, defScope s_law_cell, [], []⟩) rfl
  exact ⟨fd, He5.fun_of F⟩
theorem Tx.f_law_draws (T : Tx K mg base) : ∃ fd, L2.Fun K "_law_draws" "_law_draws" s_law_draws (He.fAd K ("_law_draws", none)) fd := by
  obtain ⟨fd, F⟩ := T.says.def_ 34 (d := ⟨fun K => He.fAd K ("_law_draws", none), "_law_draws", "_law_draws", defArgs s_law_draws, defBody s_law_draws, defScope s_law_draws, [], []⟩) rfl
  exact ⟨fd, He5.fun_of F⟩
theorem Tx.f_law_number (T : Tx K mg base) : ∃ fd, L2.Fun K "_law_number" "_law_number" s_law_number (He.fAd K ("_law_number", none)) fd := by
  obtain ⟨fd, F⟩ := T.says.def_ 35 (d := ⟨fun K => He.fAd K ("_law_number", none), "_law_number", "_law_number", defArgs s_law_number, defBody s_law_number, defScope s_law_number, [], []⟩) rfl
  exact ⟨fd, He5.fun_of F⟩
theorem Tx.f_law_middle (T : Tx K mg base) : ∃ fd, L2.Fun K "_law_middle" "_law_middle" s_law_middle (He.fAd K ("_law_middle", none)) fd := by
  obtain ⟨fd, F⟩ := T.says.def_ 36 (d := ⟨fun K => He.fAd K ("_law_middle", none), "_law_middle", "_law_middle", defArgs s_law_middle, defBody s_law_middle, defScope s_law_middle, [], []⟩) rfl
  exact ⟨fd, He5.fun_of F⟩
theorem Tx.f_law_text (T : Tx K mg base) : ∃ fd, L2.Fun K "_law_text" "_law_text" s_law_text (He.fAd K ("_law_text", none)) fd := by
  obtain ⟨fd, F⟩ := T.says.def_ 37 (d := ⟨fun K => He.fAd K ("_law_text", none), "_law_text", "_law_text", defArgs s_law_text, defBody s_law_text, defScope s_law_text, [], []⟩) rfl
  exact ⟨fd, He5.fun_of F⟩
theorem Tx.f_law_common (T : Tx K mg base) : ∃ fd, L2.Fun K "_law_common" "_law_common" s_law_common (He.fAd K ("_law_common", none)) fd := by
  obtain ⟨fd, F⟩ := T.says.def_ 38 (d := ⟨fun K => He.fAd K ("_law_common", none), "_law_common", "_law_common", defArgs s_law_common, defBody s_law_common, defScope s_law_common, [], []⟩) rfl
  exact ⟨fd, He5.fun_of F⟩
theorem Tx.f_law_is_prime (T : Tx K mg base) : ∃ fd, L2.Fun K "_law_is_prime" "_law_is_prime" s_law_is_prime (He.fAd K ("_law_is_prime", none)) fd := by
  obtain ⟨fd, F⟩ := T.says.def_ 39 (d := ⟨fun K => He.fAd K ("_law_is_prime", none), "_law_is_prime", "_law_is_prime", defArgs s_law_is_prime, defBody s_law_is_prime, defScope s_law_is_prime, [], []⟩) rfl
  exact ⟨fd, He5.fun_of F⟩
theorem Tx.f_law_special (T : Tx K mg base) : ∃ fd, L2.Fun K "_law_special" "_law_special" s_law_special (He.fAd K ("_law_special", none)) fd := by
  obtain ⟨fd, F⟩ := T.says.def_ 40 (d := ⟨fun K => He.fAd K ("_law_special", none), "_law_special", "_law_special", defArgs s_law_special, defBody s_law_special, defScope s_law_special, [], []⟩) rfl
  exact ⟨fd, He5.fun_of F⟩
theorem Tx.f_law_made (T : Tx K mg base) : ∃ fd, L2.Fun K "_law_made" "_law_made" s_law_made (He.fAd K ("_law_made", none)) fd := by
  obtain ⟨fd, F⟩ := T.says.def_ 41 (d := ⟨fun K => He.fAd K ("_law_made", none), "_law_made", "_law_made", defArgs s_law_made, defBody s_law_made, defScope s_law_made, [], []⟩) rfl
  exact ⟨fd, He5.fun_of F⟩
theorem Tx.f_law_shows (T : Tx K mg base) : ∃ fd, L2.Fun K "_law_shows" "_law_shows" s_law_shows (He.fAd K ("_law_shows", none)) fd := by
  obtain ⟨fd, F⟩ := T.says.def_ 42 (d := ⟨fun K => He.fAd K ("_law_shows", none), "_law_shows", "_law_shows", defArgs s_law_shows, defBody s_law_shows, defScope s_law_shows, [], []⟩) rfl
  exact ⟨fd, He5.fun_of F⟩
theorem Tx.f_law_changed (T : Tx K mg base) : ∃ fd, L2.Fun K "_law_changed" "_law_changed" s_law_changed (He.fAd K ("_law_changed", none)) fd := by
  obtain ⟨fd, F⟩ := T.says.def_ 43 (d := ⟨fun K => He.fAd K ("_law_changed", none), "_law_changed", "_law_changed", defArgs s_law_changed, defBody s_law_changed, defScope s_law_changed, [], []⟩) rfl
  exact ⟨fd, He5.fun_of F⟩
theorem Tx.f_law_texts (T : Tx K mg base) : ∃ fd, L2.Fun K "_law_texts" "_law_texts" s_law_texts (He.fAd K ("_law_texts", none)) fd := by
  obtain ⟨fd, F⟩ := T.says.def_ 44 (d := ⟨fun K => He.fAd K ("_law_texts", none), "_law_texts", "_law_texts", defArgs s_law_texts, defBody s_law_texts, defScope s_law_texts, [], []⟩) rfl
  exact ⟨fd, He5.fun_of F⟩
theorem Tx.f_law_far_pair (T : Tx K mg base) : ∃ fd, L2.Fun K "_law_far_pair" "_law_far_pair" s_law_far_pair (He.fAd K ("_law_far_pair", none)) fd := by
  obtain ⟨fd, F⟩ := T.says.def_ 45 (d := ⟨fun K => He.fAd K ("_law_far_pair", none), "_law_far_pair", "_law_far_pair", defArgs s_law_far_pair, defBody s_law_far_pair, defScope s_law_far_pair, [], []⟩) rfl
  exact ⟨fd, He5.fun_of F⟩
theorem Tx.f_law (T : Tx K mg base) : ∃ fd, L2.Fun K "law" "law" s_law (He.fAd K ("law", none)) fd := by
  obtain ⟨fd, F⟩ := T.says.def_ 46 (d := ⟨fun K => He.fAd K ("law", none), "law", "law", defArgs s_law, defBody s_law, defScope s_law, [], []⟩) rfl
  exact ⟨fd, He5.fun_of F⟩
theorem Tx.f_primes_init (T : Tx K mg base) : ∃ fd, L2.Fun K "__init__" "Primes.__init__" s_primes_init (He.fAd K ("Primes", some "__init__")) fd := by
  obtain ⟨fd, F⟩ := T.says.def_ 47 (d := ⟨fun K => He.fAd K ("Primes", some "__init__"), "__init__", "Primes.__init__", defArgs s_primes_init, defBody s_primes_init, defScope s_primes_init, [], []⟩) rfl
  exact ⟨fd, He5.fun_of F⟩
theorem Tx.f_primes_contains (T : Tx K mg base) : ∃ fd, L2.Fun K "__contains__" "Primes.__contains__" s_primes_contains (He.fAd K ("Primes", some "__contains__")) fd := by
  obtain ⟨fd, F⟩ := T.says.def_ 48 (d := ⟨fun K => He.fAd K ("Primes", some "__contains__"), "__contains__", "Primes.__contains__", defArgs s_primes_contains, defBody s_primes_contains, defScope s_primes_contains, [], []⟩) rfl
  exact ⟨fd, He5.fun_of F⟩
theorem Tx.f_primes_and (T : Tx K mg base) : ∃ fd, L2.Fun K "__and__" "Primes.__and__" s_primes_and (He.fAd K ("Primes", some "__and__")) fd := by
  obtain ⟨fd, F⟩ := T.says.def_ 49 (d := ⟨fun K => He.fAd K ("Primes", some "__and__"), "__and__", "Primes.__and__", defArgs s_primes_and, defBody s_primes_and, defScope s_primes_and, [], []⟩) rfl
  exact ⟨fd, He5.fun_of F⟩
theorem Tx.f_primes_or (T : Tx K mg base) : ∃ fd, L2.Fun K "__or__" "Primes.__or__" s_primes_or (He.fAd K ("Primes", some "__or__")) fd := by
  obtain ⟨fd, F⟩ := T.says.def_ 50 (d := ⟨fun K => He.fAd K ("Primes", some "__or__"), "__or__", "Primes.__or__", defArgs s_primes_or, defBody s_primes_or, defScope s_primes_or, [], []⟩) rfl
  exact ⟨fd, He5.fun_of F⟩
theorem Tx.f_primes_sub (T : Tx K mg base) : ∃ fd, L2.Fun K "__sub__" "Primes.__sub__" s_primes_sub (He.fAd K ("Primes", some "__sub__")) fd := by
  obtain ⟨fd, F⟩ := T.says.def_ 51 (d := ⟨fun K => He.fAd K ("Primes", some "__sub__"), "__sub__", "Primes.__sub__", defArgs s_primes_sub, defBody s_primes_sub, defScope s_primes_sub, [], []⟩) rfl
  exact ⟨fd, He5.fun_of F⟩
theorem Tx.f_primes_invert (T : Tx K mg base) : ∃ fd, L2.Fun K "__invert__" "Primes.__invert__" s_primes_invert (He.fAd K ("Primes", some "__invert__")) fd := by
  obtain ⟨fd, F⟩ := T.says.def_ 52 (d := ⟨fun K => He.fAd K ("Primes", some "__invert__"), "__invert__", "Primes.__invert__", defArgs s_primes_invert, defBody s_primes_invert, defScope s_primes_invert, [], []⟩) rfl
  exact ⟨fd, He5.fun_of F⟩
theorem Tx.f_primes_bool (T : Tx K mg base) : ∃ fd, L2.Fun K "__bool__" "Primes.__bool__" s_primes_bool (He.fAd K ("Primes", some "__bool__")) fd := by
  obtain ⟨fd, F⟩ := T.says.def_ 53 (d := ⟨fun K => He.fAd K ("Primes", some "__bool__"), "__bool__", "Primes.__bool__", defArgs s_primes_bool, defBody s_primes_bool, defScope s_primes_bool, [], []⟩) rfl
  exact ⟨fd, He5.fun_of F⟩
theorem Tx.f_primes_every (T : Tx K mg base) : ∃ fd, L2.Fun K "every" "Primes.every" s_primes_every (He5.wf K (He.ga K "Primes") "classmethod" "every") fd := by
  obtain ⟨fd, F⟩ := T.says.def_ 54 (d := ⟨fun K => He5.wf K (He.ga K "Primes") "classmethod" "every", "every", "Primes.every", defArgs s_primes_every, defBody s_primes_every, defScope s_primes_every, [], []⟩) rfl
  exact ⟨fd, He5.fun_of F⟩
theorem Tx.f_primes_none (T : Tx K mg base) : ∃ fd, L2.Fun K "none" "Primes.none" s_primes_none (He5.wf K (He.ga K "Primes") "classmethod" "none") fd := by
  obtain ⟨fd, F⟩ := T.says.def_ 55 (d := ⟨fun K => He5.wf K (He.ga K "Primes") "classmethod" "none", "none", "Primes.none", defArgs s_primes_none, defBody s_primes_none, defScope s_primes_none, [], []⟩) rfl
  exact ⟨fd, He5.fun_of F⟩
theorem Tx.f_primes_by_rest (T : Tx K mg base) : ∃ fd, L2.Fun K "by_rest" "Primes.by_rest" s_primes_by_rest (He5.wf K (He.ga K "Primes") "classmethod" "by_rest") fd := by
  obtain ⟨fd, F⟩ := T.says.def_ 56 (d := ⟨fun K => He5.wf K (He.ga K "Primes") "classmethod" "by_rest", "by_rest", "Primes.by_rest", defArgs s_primes_by_rest, defBody s_primes_by_rest, defScope s_primes_by_rest, [], []⟩) rfl
  exact ⟨fd, He5.fun_of F⟩
theorem Tx.f_form_init (T : Tx K mg base) : ∃ fd, L2.Fun K "__init__" "Form.__init__" s_form_init (He.fAd K ("Form", some "__init__")) fd := by
  obtain ⟨fd, F⟩ := T.says.def_ 57 (d := ⟨fun K => He.fAd K ("Form", some "__init__"), "__init__", "Form.__init__", defArgs s_form_init, defBody s_form_init, defScope s_form_init, [], []⟩) rfl
  exact ⟨fd, He5.fun_of F⟩
theorem Tx.f_form_call (T : Tx K mg base) : ∃ fd, L2.Fun K "__call__" "Form.__call__" s_form_call (He.fAd K ("Form", some "__call__")) fd := by
  obtain ⟨fd, F⟩ := T.says.def_ 58 (d := ⟨fun K => He.fAd K ("Form", some "__call__"), "__call__", "Form.__call__", defArgs s_form_call, defBody s_form_call, defScope s_form_call, [], []⟩) rfl
  exact ⟨fd, He5.fun_of F⟩
theorem Tx.f_form_eq (T : Tx K mg base) : ∃ fd, L2.Fun K "__eq__" "Form.__eq__" s_form_eq (He.fAd K ("Form", some "__eq__")) fd := by
  obtain ⟨fd, F⟩ := T.says.def_ 59 (d := ⟨fun K => He.fAd K ("Form", some "__eq__"), "__eq__", "Form.__eq__", defArgs s_form_eq, defBody s_form_eq, defScope s_form_eq, [], []⟩) rfl
  exact ⟨fd, He5.fun_of F⟩
theorem Tx.f_reader_init (T : Tx K mg base) : ∃ fd, L2.Fun K "__init__" "Reader.__init__" s_reader_init (He.fAd K ("Reader", some "__init__")) fd := by
  obtain ⟨fd, F⟩ := T.says.def_ 60 (d := ⟨fun K => He.fAd K ("Reader", some "__init__"), "__init__", "Reader.__init__", defArgs s_reader_init, defBody s_reader_init, defScope s_reader_init, [], []⟩) rfl
  exact ⟨fd, He5.fun_of F⟩
theorem Tx.f_reader_further (T : Tx K mg base) : ∃ fd, L2.Fun K "further" "Reader.further" s_reader_further (He.fAd K ("Reader", some "further")) fd := by
  obtain ⟨fd, F⟩ := T.says.def_ 61 (d := ⟨fun K => He.fAd K ("Reader", some "further"), "further", "Reader.further", defArgs s_reader_further, defBody s_reader_further, defScope s_reader_further, [], []⟩) rfl
  exact ⟨fd, He5.fun_of F⟩
theorem Tx.f_reader_next_word (T : Tx K mg base) : ∃ fd, L2.Fun K "next_word" "Reader.next_word" s_reader_next_word (He.fAd K ("Reader", some "next_word")) fd := by
  obtain ⟨fd, F⟩ := T.says.def_ 62 (d := ⟨fun K => He.fAd K ("Reader", some "next_word"), "next_word", "Reader.next_word", defArgs s_reader_next_word, defBody s_reader_next_word, defScope s_reader_next_word, [], []⟩) rfl
  exact ⟨fd, He5.fun_of F⟩
theorem Tx.f_reader_take (T : Tx K mg base) : ∃ fd, L2.Fun K "take" "Reader.take" s_reader_take (He.fAd K ("Reader", some "take")) fd := by
  obtain ⟨fd, F⟩ := T.says.def_ 63 (d := ⟨fun K => He.fAd K ("Reader", some "take"), "take", "Reader.take", defArgs s_reader_take, defBody s_reader_take, defScope s_reader_take, [], []⟩) rfl
  exact ⟨fd, He5.fun_of F⟩
theorem Tx.f_reader_number (T : Tx K mg base) : ∃ fd, L2.Fun K "number" "Reader.number" s_reader_number (He.fAd K ("Reader", some "number")) fd := by
  obtain ⟨fd, F⟩ := T.says.def_ 64 (d := ⟨fun K => He.fAd K ("Reader", some "number"), "number", "Reader.number", defArgs s_reader_number, defBody s_reader_number, defScope s_reader_number, [], []⟩) rfl
  exact ⟨fd, He5.fun_of F⟩
theorem Tx.f_reader_first_number (T : Tx K mg base) : ∃ fd, L2.Fun K "first_number" "Reader.first_number" s_reader_first_number (He.fAd K ("Reader", some "first_number")) fd := by
  obtain ⟨fd, F⟩ := T.says.def_ 65 (d := ⟨fun K => He.fAd K ("Reader", some "first_number"), "first_number", "Reader.first_number", defArgs s_reader_first_number, defBody s_reader_first_number, defScope s_reader_first_number, [], []⟩) rfl
  exact ⟨fd, He5.fun_of F⟩
theorem Tx.f_reader_rest_part (T : Tx K mg base) : ∃ fd, L2.Fun K "rest_part" "Reader.rest_part" s_reader_rest_part (He.fAd K ("Reader", some "rest_part")) fd := by
  obtain ⟨fd, F⟩ := T.says.def_ 66 (d := ⟨fun K => He.fAd K ("Reader", some "rest_part"), "rest_part", "Reader.rest_part", defArgs s_reader_rest_part, defBody s_reader_rest_part, defScope s_reader_rest_part, [], []⟩) rfl
  exact ⟨fd, He5.fun_of F⟩
theorem Tx.f_reader_plain_part (T : Tx K mg base) : ∃ fd, L2.Fun K "plain_part" "Reader.plain_part" s_reader_plain_part (He.fAd K ("Reader", some "plain_part")) fd := by
  obtain ⟨fd, F⟩ := T.says.def_ 67 (d := ⟨fun K => He.fAd K ("Reader", some "plain_part"), "plain_part", "Reader.plain_part", defArgs s_reader_plain_part, defBody s_reader_plain_part, defScope s_reader_plain_part, [], []⟩) rfl
  exact ⟨fd, He5.fun_of F⟩
theorem Tx.f_reader_part (T : Tx K mg base) : ∃ fd, L2.Fun K "part" "Reader.part" s_reader_part (He.fAd K ("Reader", some "part")) fd := by
  obtain ⟨fd, F⟩ := T.says.def_ 68 (d := ⟨fun K => He.fAd K ("Reader", some "part"), "part", "Reader.part", defArgs s_reader_part, defBody s_reader_part, defScope s_reader_part, [], []⟩) rfl
  exact ⟨fd, He5.fun_of F⟩
theorem Tx.f_reader_whole (T : Tx K mg base) : ∃ fd, L2.Fun K "whole" "Reader.whole" s_reader_whole (He.fAd K ("Reader", some "whole")) fd := by
  obtain ⟨fd, F⟩ := T.says.def_ 69 (d := ⟨fun K => He.fAd K ("Reader", some "whole"), "whole", "Reader.whole", defArgs s_reader_whole, defBody s_reader_whole, defScope s_reader_whole, [], []⟩) rfl
  exact ⟨fd, He5.fun_of F⟩
theorem Tx.f_saying_init (T : Tx K mg base) : ∃ fd, L2.Fun K "__init__" "Saying.__init__" s_saying_init (He.fAd K ("Saying", some "__init__")) fd := by
  obtain ⟨fd, F⟩ := T.says.def_ 70 (d := ⟨fun K => He.fAd K ("Saying", some "__init__"), "__init__", "Saying.__init__", defArgs s_saying_init, defBody s_saying_init, defScope s_saying_init, [], []⟩) rfl
  exact ⟨fd, He5.fun_of F⟩
theorem Tx.f_saying_where (T : Tx K mg base) : ∃ fd, L2.Fun K "where" "Saying.where" s_saying_where (He.fAd K ("Saying", some "where")) fd := by
  obtain ⟨fd, F⟩ := T.says.def_ 71 (d := ⟨fun K => He.fAd K ("Saying", some "where"), "where", "Saying.where", defArgs s_saying_where, defBody s_saying_where, defScope s_saying_where, [], []⟩) rfl
  exact ⟨fd, He5.fun_of F⟩
theorem Tx.g_checked_modulus_signs (T : Tx K mg base) : mg "checked_modulus_signs" = some (.ref (He.ga K "checked_modulus_signs")) := He.glo_ok T.kin T.ns (T.says.at_ 0 (f := (He.Fa.glo "checked_modulus_signs").ok) rfl)
theorem Tx.g_checked_modulus_values (T : Tx K mg base) : mg "checked_modulus_values" = some (.ref (He.ga K "checked_modulus_values")) := He.glo_ok T.kin T.ns (T.says.at_ 1 (f := (He.Fa.glo "checked_modulus_values").ok) rfl)
theorem Tx.g_factor_of (T : Tx K mg base) : mg "factor_of" = some (.ref (He.ga K "factor_of")) := He.glo_ok T.kin T.ns (T.says.at_ 2 (f := (He.Fa.glo "factor_of").ok) rfl)
theorem Tx.g_sign (T : Tx K mg base) : mg "sign" = some (.ref (He.ga K "sign")) := He.glo_ok T.kin T.ns (T.says.at_ 3 (f := (He.Fa.glo "sign").ok) rfl)
theorem Tx.g_common (T : Tx K mg base) : mg "common" = some (.ref (He.ga K "common")) := He.glo_ok T.kin T.ns (T.says.at_ 4 (f := (He.Fa.glo "common").ok) rfl)
theorem Tx.g_factors (T : Tx K mg base) : mg "factors" = some (.ref (He.ga K "factors")) := He.glo_ok T.kin T.ns (T.says.at_ 5 (f := (He.Fa.glo "factors").ok) rfl)
theorem Tx.g_is_prime (T : Tx K mg base) : mg "is_prime" = some (.ref (He.ga K "is_prime")) := He.glo_ok T.kin T.ns (T.says.at_ 6 (f := (He.Fa.glo "is_prime").ok) rfl)
theorem Tx.g_core (T : Tx K mg base) : mg "core" = some (.ref (He.ga K "core")) := He.glo_ok T.kin T.ns (T.says.at_ 7 (f := (He.Fa.glo "core").ok) rfl)
theorem Tx.g_units (T : Tx K mg base) : mg "units" = some (.ref (He.ga K "units")) := He.glo_ok T.kin T.ns (T.says.at_ 8 (f := (He.Fa.glo "units").ok) rfl)
theorem Tx.g_odd_divisors (T : Tx K mg base) : mg "odd_divisors" = some (.ref (He.ga K "odd_divisors")) := He.glo_ok T.kin T.ns (T.says.at_ 9 (f := (He.Fa.glo "odd_divisors").ok) rfl)
theorem Tx.g_checked_singles (T : Tx K mg base) : mg "checked_singles" = some (.ref (He.ga K "checked_singles")) := He.glo_ok T.kin T.ns (T.says.at_ 10 (f := (He.Fa.glo "checked_singles").ok) rfl)
theorem Tx.g_shortened (T : Tx K mg base) : mg "shortened" = some (.ref (He.ga K "shortened")) := He.glo_ok T.kin T.ns (T.says.at_ 11 (f := (He.Fa.glo "shortened").ok) rfl)
theorem Tx.g_told_by (T : Tx K mg base) : mg "told_by" = some (.ref (He.ga K "told_by")) := He.glo_ok T.kin T.ns (T.says.at_ 12 (f := (He.Fa.glo "told_by").ok) rfl)
theorem Tx.g_toggled (T : Tx K mg base) : mg "toggled" = some (.ref (He.ga K "toggled")) := He.glo_ok T.kin T.ns (T.says.at_ 13 (f := (He.Fa.glo "toggled").ok) rfl)
theorem Tx.g_least_description (T : Tx K mg base) : mg "least_description" = some (.ref (He.ga K "least_description")) := He.glo_ok T.kin T.ns (T.says.at_ 14 (f := (He.Fa.glo "least_description").ok) rfl)
theorem Tx.g_joined_answer (T : Tx K mg base) : mg "joined_answer" = some (.ref (He.ga K "joined_answer")) := He.glo_ok T.kin T.ns (T.says.at_ 15 (f := (He.Fa.glo "joined_answer").ok) rfl)
theorem Tx.g_combined (T : Tx K mg base) : mg "combined" = some (.ref (He.ga K "combined")) := He.glo_ok T.kin T.ns (T.says.at_ 16 (f := (He.Fa.glo "combined").ok) rfl)
theorem Tx.g_joint_modulus (T : Tx K mg base) : mg "joint_modulus" = some (.ref (He.ga K "joint_modulus")) := He.glo_ok T.kin T.ns (T.says.at_ 17 (f := (He.Fa.glo "joint_modulus").ok) rfl)
theorem Tx.g_sets_of (T : Tx K mg base) : mg "sets_of" = some (.ref (He.ga K "sets_of")) := He.glo_ok T.kin T.ns (T.says.at_ 18 (f := (He.Fa.glo "sets_of").ok) rfl)
theorem Tx.g_special_primes (T : Tx K mg base) : mg "special_primes" = some (.ref (He.ga K "special_primes")) := He.glo_ok T.kin T.ns (T.says.at_ 19 (f := (He.Fa.glo "special_primes").ok) rfl)
theorem Tx.g_paper_of (T : Tx K mg base) : mg "paper_of" = some (.ref (He.ga K "paper_of")) := He.glo_ok T.kin T.ns (T.says.at_ 20 (f := (He.Fa.glo "paper_of").ok) rfl)
theorem Tx.g_is_paper (T : Tx K mg base) : mg "is_paper" = some (.ref (He.ga K "is_paper")) := He.glo_ok T.kin T.ns (T.says.at_ 21 (f := (He.Fa.glo "is_paper").ok) rfl)
theorem Tx.g_reduced_forms (T : Tx K mg base) : mg "reduced_forms" = some (.ref (He.ga K "reduced_forms")) := He.glo_ok T.kin T.ns (T.says.at_ 22 (f := (He.Fa.glo "reduced_forms").ok) rfl)
theorem Tx.g_rests_of (T : Tx K mg base) : mg "rests_of" = some (.ref (He.ga K "rests_of")) := He.glo_ok T.kin T.ns (T.says.at_ 23 (f := (He.Fa.glo "rests_of").ok) rfl)
theorem Tx.g_side_of (T : Tx K mg base) : mg "side_of" = some (.ref (He.ga K "side_of")) := He.glo_ok T.kin T.ns (T.says.at_ 24 (f := (He.Fa.glo "side_of").ok) rfl)
theorem Tx.g_written (T : Tx K mg base) : mg "written" = some (.ref (He.ga K "written")) := He.glo_ok T.kin T.ns (T.says.at_ 25 (f := (He.Fa.glo "written").ok) rfl)
theorem Tx.g_neighbour (T : Tx K mg base) : mg "neighbour" = some (.ref (He.ga K "neighbour")) := He.glo_ok T.kin T.ns (T.says.at_ 26 (f := (He.Fa.glo "neighbour").ok) rfl)
theorem Tx.g_form_primes (T : Tx K mg base) : mg "form_primes" = some (.ref (He.ga K "form_primes")) := He.glo_ok T.kin T.ns (T.says.at_ 27 (f := (He.Fa.glo "form_primes").ok) rfl)
theorem Tx.g_is_integer_word (T : Tx K mg base) : mg "is_integer_word" = some (.ref (He.ga K "is_integer_word")) := He.glo_ok T.kin T.ns (T.says.at_ 28 (f := (He.Fa.glo "is_integer_word").ok) rfl)
theorem Tx.g_by_sign (T : Tx K mg base) : mg "by_sign" = some (.ref (He.ga K "by_sign")) := He.glo_ok T.kin T.ns (T.says.at_ 29 (f := (He.Fa.glo "by_sign").ok) rfl)
theorem Tx.g_divisors_of (T : Tx K mg base) : mg "divisors_of" = some (.ref (He.ga K "divisors_of")) := He.glo_ok T.kin T.ns (T.says.at_ 30 (f := (He.Fa.glo "divisors_of").ok) rfl)
theorem Tx.g_by_roots (T : Tx K mg base) : mg "by_roots" = some (.ref (He.ga K "by_roots")) := He.glo_ok T.kin T.ns (T.says.at_ 31 (f := (He.Fa.glo "by_roots").ok) rfl)
theorem Tx.g_primes_of (T : Tx K mg base) : mg "primes_of" = some (.ref (He.ga K "primes_of")) := He.glo_ok T.kin T.ns (T.says.at_ 32 (f := (He.Fa.glo "primes_of").ok) rfl)
theorem Tx.g_law_cell (T : Tx K mg base) : mg "_law_cell" = some (.ref (He.ga K "_law_cell")) := He.glo_ok T.kin T.ns (T.says.at_ 33 (f := (He.Fa.glo "_law_cell").ok) rfl)
theorem Tx.g_law_draws (T : Tx K mg base) : mg "_law_draws" = some (.ref (He.ga K "_law_draws")) := He.glo_ok T.kin T.ns (T.says.at_ 34 (f := (He.Fa.glo "_law_draws").ok) rfl)
theorem Tx.g_law_number (T : Tx K mg base) : mg "_law_number" = some (.ref (He.ga K "_law_number")) := He.glo_ok T.kin T.ns (T.says.at_ 35 (f := (He.Fa.glo "_law_number").ok) rfl)
theorem Tx.g_law_middle (T : Tx K mg base) : mg "_law_middle" = some (.ref (He.ga K "_law_middle")) := He.glo_ok T.kin T.ns (T.says.at_ 36 (f := (He.Fa.glo "_law_middle").ok) rfl)
theorem Tx.g_law_text (T : Tx K mg base) : mg "_law_text" = some (.ref (He.ga K "_law_text")) := He.glo_ok T.kin T.ns (T.says.at_ 37 (f := (He.Fa.glo "_law_text").ok) rfl)
theorem Tx.g_law_common (T : Tx K mg base) : mg "_law_common" = some (.ref (He.ga K "_law_common")) := He.glo_ok T.kin T.ns (T.says.at_ 38 (f := (He.Fa.glo "_law_common").ok) rfl)
theorem Tx.g_law_is_prime (T : Tx K mg base) : mg "_law_is_prime" = some (.ref (He.ga K "_law_is_prime")) := He.glo_ok T.kin T.ns (T.says.at_ 39 (f := (He.Fa.glo "_law_is_prime").ok) rfl)
theorem Tx.g_law_special (T : Tx K mg base) : mg "_law_special" = some (.ref (He.ga K "_law_special")) := He.glo_ok T.kin T.ns (T.says.at_ 40 (f := (He.Fa.glo "_law_special").ok) rfl)
theorem Tx.g_law_made (T : Tx K mg base) : mg "_law_made" = some (.ref (He.ga K "_law_made")) := He.glo_ok T.kin T.ns (T.says.at_ 41 (f := (He.Fa.glo "_law_made").ok) rfl)
theorem Tx.g_law_shows (T : Tx K mg base) : mg "_law_shows" = some (.ref (He.ga K "_law_shows")) := He.glo_ok T.kin T.ns (T.says.at_ 42 (f := (He.Fa.glo "_law_shows").ok) rfl)
theorem Tx.g_law_changed (T : Tx K mg base) : mg "_law_changed" = some (.ref (He.ga K "_law_changed")) := He.glo_ok T.kin T.ns (T.says.at_ 43 (f := (He.Fa.glo "_law_changed").ok) rfl)
theorem Tx.g_law_texts (T : Tx K mg base) : mg "_law_texts" = some (.ref (He.ga K "_law_texts")) := He.glo_ok T.kin T.ns (T.says.at_ 44 (f := (He.Fa.glo "_law_texts").ok) rfl)
theorem Tx.g_law_far_pair (T : Tx K mg base) : mg "_law_far_pair" = some (.ref (He.ga K "_law_far_pair")) := He.glo_ok T.kin T.ns (T.says.at_ 45 (f := (He.Fa.glo "_law_far_pair").ok) rfl)
theorem Tx.g_law (T : Tx K mg base) : mg "law" = some (.ref (He.ga K "law")) := He.glo_ok T.kin T.ns (T.says.at_ 46 (f := (He.Fa.glo "law").ok) rfl)
theorem Tx.g_Primes (T : Tx K mg base) : mg "Primes" = some (.ref (He.ga K "Primes")) := He.glo_ok T.kin T.ns (T.says.at_ 47 (f := (He.Fa.glo "Primes").ok) rfl)
theorem Tx.g_Form (T : Tx K mg base) : mg "Form" = some (.ref (He.ga K "Form")) := He.glo_ok T.kin T.ns (T.says.at_ 48 (f := (He.Fa.glo "Form").ok) rfl)
theorem Tx.g_Reader (T : Tx K mg base) : mg "Reader" = some (.ref (He.ga K "Reader")) := He.glo_ok T.kin T.ns (T.says.at_ 49 (f := (He.Fa.glo "Reader").ok) rfl)
theorem Tx.g_Saying (T : Tx K mg base) : mg "Saying" = some (.ref (He.ga K "Saying")) := He.glo_ok T.kin T.ns (T.says.at_ 50 (f := (He.Fa.glo "Saying").ok) rfl)
theorem Tx.b_len (T : Tx K mg base) : mg "len" = none := He.free_ok T.kin T.ns (T.says.at_ 51 (f := (He.Fa.free "len").ok) rfl)
theorem Tx.b_abs (T : Tx K mg base) : mg "abs" = none := He.free_ok T.kin T.ns (T.says.at_ 52 (f := (He.Fa.free "abs").ok) rfl)
theorem Tx.b_range (T : Tx K mg base) : mg "range" = none := He.free_ok T.kin T.ns (T.says.at_ 53 (f := (He.Fa.free "range").ok) rfl)
theorem Tx.b_sorted (T : Tx K mg base) : mg "sorted" = none := He.free_ok T.kin T.ns (T.says.at_ 54 (f := (He.Fa.free "sorted").ok) rfl)
theorem Tx.b_set (T : Tx K mg base) : mg "set" = none := He.free_ok T.kin T.ns (T.says.at_ 55 (f := (He.Fa.free "set").ok) rfl)
theorem Tx.b_list (T : Tx K mg base) : mg "list" = none := He.free_ok T.kin T.ns (T.says.at_ 56 (f := (He.Fa.free "list").ok) rfl)
theorem Tx.b_tuple (T : Tx K mg base) : mg "tuple" = none := He.free_ok T.kin T.ns (T.says.at_ 57 (f := (He.Fa.free "tuple").ok) rfl)
theorem Tx.b_all (T : Tx K mg base) : mg "all" = none := He.free_ok T.kin T.ns (T.says.at_ 58 (f := (He.Fa.free "all").ok) rfl)
theorem Tx.b_any (T : Tx K mg base) : mg "any" = none := He.free_ok T.kin T.ns (T.says.at_ 59 (f := (He.Fa.free "any").ok) rfl)
theorem Tx.b_max (T : Tx K mg base) : mg "max" = none := He.free_ok T.kin T.ns (T.says.at_ 60 (f := (He.Fa.free "max").ok) rfl)
theorem Tx.b_int (T : Tx K mg base) : mg "int" = none := He.free_ok T.kin T.ns (T.says.at_ 61 (f := (He.Fa.free "int").ok) rfl)
theorem Tx.b_str (T : Tx K mg base) : mg "str" = none := He.free_ok T.kin T.ns (T.says.at_ 62 (f := (He.Fa.free "str").ok) rfl)
theorem Tx.b_bool (T : Tx K mg base) : mg "bool" = none := He.free_ok T.kin T.ns (T.says.at_ 63 (f := (He.Fa.free "bool").ok) rfl)
theorem Tx.b_isinstance (T : Tx K mg base) : mg "isinstance" = none := He.free_ok T.kin T.ns (T.says.at_ 64 (f := (He.Fa.free "isinstance").ok) rfl)
theorem Tx.i_MOST_MODULUS (T : Tx K mg base) : ∃ t, mg "MOST_MODULUS" = some (.int 4000 t) := He.int_ok T.kin T.ns (T.says.at_ 65 (f := (He.Fa.int "MOST_MODULUS" 4000).ok) rfl)
theorem Tx.i_MOST_OPEN (T : Tx K mg base) : ∃ t, mg "MOST_OPEN" = some (.int 8 t) := He.int_ok T.kin T.ns (T.says.at_ 66 (f := (He.Fa.int "MOST_OPEN" 8).ok) rfl)
theorem Tx.c_Primes (T : Tx K mg base) : Cls K (He.ga K "Primes") := He.cls_ok (T.says.at_ 67 (f := (He.Fa.cls "Primes").ok) rfl)
theorem Tx.k_Primes (T : Tx K mg base) : Mk K (He.ga K "Primes") (He.fAd K ("Primes", some "__init__")) := He.mkr_ok (T.says.at_ 68 (f := (He.Fa.mkr "Primes").ok) rfl)
theorem Tx.n_Primes_modulus (T : Tx K mg base) : NoAttr K (He.ga K "Primes") "modulus" := He.noat_ok (T.says.at_ 69 (f := (He.Fa.noat "Primes" "modulus").ok) rfl)
theorem Tx.n_Primes_rests (T : Tx K mg base) : NoAttr K (He.ga K "Primes") "rests" := He.noat_ok (T.says.at_ 70 (f := (He.Fa.noat "Primes" "rests").ok) rfl)
theorem Tx.n_Primes_singles (T : Tx K mg base) : NoAttr K (He.ga K "Primes") "singles" := He.noat_ok (T.says.at_ 71 (f := (He.Fa.noat "Primes" "singles").ok) rfl)
theorem Tx.m_Primes_contains (T : Tx K mg base) : Meth K (He.ga K "Primes") "__contains__" (He.fAd K ("Primes", some "__contains__")) := He.meth_ok (T.says.at_ 72 (f := (He.Fa.meth "Primes" "__contains__").ok) rfl)
theorem Tx.m_Primes_and (T : Tx K mg base) : Meth K (He.ga K "Primes") "__and__" (He.fAd K ("Primes", some "__and__")) := He.meth_ok (T.says.at_ 73 (f := (He.Fa.meth "Primes" "__and__").ok) rfl)
theorem Tx.m_Primes_or (T : Tx K mg base) : Meth K (He.ga K "Primes") "__or__" (He.fAd K ("Primes", some "__or__")) := He.meth_ok (T.says.at_ 74 (f := (He.Fa.meth "Primes" "__or__").ok) rfl)
theorem Tx.m_Primes_sub (T : Tx K mg base) : Meth K (He.ga K "Primes") "__sub__" (He.fAd K ("Primes", some "__sub__")) := He.meth_ok (T.says.at_ 75 (f := (He.Fa.meth "Primes" "__sub__").ok) rfl)
theorem Tx.m_Primes_invert (T : Tx K mg base) : Meth K (He.ga K "Primes") "__invert__" (He.fAd K ("Primes", some "__invert__")) := He.meth_ok (T.says.at_ 76 (f := (He.Fa.meth "Primes" "__invert__").ok) rfl)
theorem Tx.m_Primes_bool (T : Tx K mg base) : Meth K (He.ga K "Primes") "__bool__" (He.fAd K ("Primes", some "__bool__")) := He.meth_ok (T.says.at_ 77 (f := (He.Fa.meth "Primes" "__bool__").ok) rfl)
theorem Tx.c_Form (T : Tx K mg base) : Cls K (He.ga K "Form") := He.cls_ok (T.says.at_ 78 (f := (He.Fa.cls "Form").ok) rfl)
theorem Tx.k_Form (T : Tx K mg base) : Mk K (He.ga K "Form") (He.fAd K ("Form", some "__init__")) := He.mkr_ok (T.says.at_ 79 (f := (He.Fa.mkr "Form").ok) rfl)
theorem Tx.n_Form_a (T : Tx K mg base) : NoAttr K (He.ga K "Form") "a" := He.noat_ok (T.says.at_ 80 (f := (He.Fa.noat "Form" "a").ok) rfl)
theorem Tx.n_Form_b (T : Tx K mg base) : NoAttr K (He.ga K "Form") "b" := He.noat_ok (T.says.at_ 81 (f := (He.Fa.noat "Form" "b").ok) rfl)
theorem Tx.n_Form_c (T : Tx K mg base) : NoAttr K (He.ga K "Form") "c" := He.noat_ok (T.says.at_ 82 (f := (He.Fa.noat "Form" "c").ok) rfl)
theorem Tx.n_Form_discriminant (T : Tx K mg base) : NoAttr K (He.ga K "Form") "discriminant" := He.noat_ok (T.says.at_ 83 (f := (He.Fa.noat "Form" "discriminant").ok) rfl)
theorem Tx.m_Form_call (T : Tx K mg base) : Meth K (He.ga K "Form") "__call__" (He.fAd K ("Form", some "__call__")) := He.meth_ok (T.says.at_ 84 (f := (He.Fa.meth "Form" "__call__").ok) rfl)
theorem Tx.m_Form_eq (T : Tx K mg base) : Meth K (He.ga K "Form") "__eq__" (He.fAd K ("Form", some "__eq__")) := He.meth_ok (T.says.at_ 85 (f := (He.Fa.meth "Form" "__eq__").ok) rfl)
theorem Tx.c_Reader (T : Tx K mg base) : Cls K (He.ga K "Reader") := He.cls_ok (T.says.at_ 86 (f := (He.Fa.cls "Reader").ok) rfl)
theorem Tx.k_Reader (T : Tx K mg base) : Mk K (He.ga K "Reader") (He.fAd K ("Reader", some "__init__")) := He.mkr_ok (T.says.at_ 87 (f := (He.Fa.mkr "Reader").ok) rfl)
theorem Tx.n_Reader_words (T : Tx K mg base) : NoAttr K (He.ga K "Reader") "words" := He.noat_ok (T.says.at_ 88 (f := (He.Fa.noat "Reader" "words").ok) rfl)
theorem Tx.n_Reader_at (T : Tx K mg base) : NoAttr K (He.ga K "Reader") "at" := He.noat_ok (T.says.at_ 89 (f := (He.Fa.noat "Reader" "at").ok) rfl)
theorem Tx.m_Reader_further (T : Tx K mg base) : Meth K (He.ga K "Reader") "further" (He.fAd K ("Reader", some "further")) := He.meth_ok (T.says.at_ 90 (f := (He.Fa.meth "Reader" "further").ok) rfl)
theorem Tx.m_Reader_next_word (T : Tx K mg base) : Meth K (He.ga K "Reader") "next_word" (He.fAd K ("Reader", some "next_word")) := He.meth_ok (T.says.at_ 91 (f := (He.Fa.meth "Reader" "next_word").ok) rfl)
theorem Tx.m_Reader_take (T : Tx K mg base) : Meth K (He.ga K "Reader") "take" (He.fAd K ("Reader", some "take")) := He.meth_ok (T.says.at_ 92 (f := (He.Fa.meth "Reader" "take").ok) rfl)
theorem Tx.m_Reader_number (T : Tx K mg base) : Meth K (He.ga K "Reader") "number" (He.fAd K ("Reader", some "number")) := He.meth_ok (T.says.at_ 93 (f := (He.Fa.meth "Reader" "number").ok) rfl)
theorem Tx.m_Reader_first_number (T : Tx K mg base) : Meth K (He.ga K "Reader") "first_number" (He.fAd K ("Reader", some "first_number")) := He.meth_ok (T.says.at_ 94 (f := (He.Fa.meth "Reader" "first_number").ok) rfl)
theorem Tx.m_Reader_rest_part (T : Tx K mg base) : Meth K (He.ga K "Reader") "rest_part" (He.fAd K ("Reader", some "rest_part")) := He.meth_ok (T.says.at_ 95 (f := (He.Fa.meth "Reader" "rest_part").ok) rfl)
theorem Tx.m_Reader_plain_part (T : Tx K mg base) : Meth K (He.ga K "Reader") "plain_part" (He.fAd K ("Reader", some "plain_part")) := He.meth_ok (T.says.at_ 96 (f := (He.Fa.meth "Reader" "plain_part").ok) rfl)
theorem Tx.m_Reader_part (T : Tx K mg base) : Meth K (He.ga K "Reader") "part" (He.fAd K ("Reader", some "part")) := He.meth_ok (T.says.at_ 97 (f := (He.Fa.meth "Reader" "part").ok) rfl)
theorem Tx.m_Reader_whole (T : Tx K mg base) : Meth K (He.ga K "Reader") "whole" (He.fAd K ("Reader", some "whole")) := He.meth_ok (T.says.at_ 98 (f := (He.Fa.meth "Reader" "whole").ok) rfl)
theorem Tx.c_Saying (T : Tx K mg base) : Cls K (He.ga K "Saying") := He.cls_ok (T.says.at_ 99 (f := (He.Fa.cls "Saying").ok) rfl)
theorem Tx.k_Saying (T : Tx K mg base) : Mk K (He.ga K "Saying") (He.fAd K ("Saying", some "__init__")) := He.mkr_ok (T.says.at_ 100 (f := (He.Fa.mkr "Saying").ok) rfl)
theorem Tx.n_Saying_tree (T : Tx K mg base) : NoAttr K (He.ga K "Saying") "tree" := He.noat_ok (T.says.at_ 101 (f := (He.Fa.noat "Saying" "tree").ok) rfl)
theorem Tx.n_Saying_text (T : Tx K mg base) : NoAttr K (He.ga K "Saying") "text" := He.noat_ok (T.says.at_ 102 (f := (He.Fa.noat "Saying" "text").ok) rfl)
theorem Tx.m_Saying_where (T : Tx K mg base) : Meth K (He.ga K "Saying") "where" (He.fAd K ("Saying", some "where")) := He.meth_ok (T.says.at_ 103 (f := (He.Fa.meth "Saying" "where").ok) rfl)
theorem Tx.first_Primes (T : Tx K mg base) : PySem.W.selfFirst K (He.ga K "Primes") = true := (T.says.at_ 104 (f := fun K => PySem.W.selfFirst K (He.ga K "Primes")) rfl)
theorem Tx.cm_every (T : Tx K mg base) : ClX.CMet K (He.ga K "Primes") (.type "type") "every" (He.ma K (He.ga K "Primes") "every") (He5.wf K (He.ga K "Primes") "classmethod" "every") := by
  obtain ⟨a, b⟩ := He.ba (T.says.at_ 105 (f := fun K => He5.wrapB K (He.ga K "Primes") "classmethod" "classmethod.__get__" "every" && PySem.W.fnIn K (He5.wf K (He.ga K "Primes") "classmethod" "every")) rfl)
  exact He5.cmet_of a b
theorem Tx.cm_none (T : Tx K mg base) : ClX.CMet K (He.ga K "Primes") (.type "type") "none" (He.ma K (He.ga K "Primes") "none") (He5.wf K (He.ga K "Primes") "classmethod" "none") := by
  obtain ⟨a, b⟩ := He.ba (T.says.at_ 106 (f := fun K => He5.wrapB K (He.ga K "Primes") "classmethod" "classmethod.__get__" "none" && PySem.W.fnIn K (He5.wf K (He.ga K "Primes") "classmethod" "none")) rfl)
  exact He5.cmet_of a b
theorem Tx.cm_by_rest (T : Tx K mg base) : ClX.CMet K (He.ga K "Primes") (.type "type") "by_rest" (He.ma K (He.ga K "Primes") "by_rest") (He5.wf K (He.ga K "Primes") "classmethod" "by_rest") := by
  obtain ⟨a, b⟩ := He.ba (T.says.at_ 107 (f := fun K => He5.wrapB K (He.ga K "Primes") "classmethod" "classmethod.__get__" "by_rest" && PySem.W.fnIn K (He5.wf K (He.ga K "Primes") "classmethod" "by_rest")) rfl)
  exact He5.cmet_of a b
theorem Tx.cr_Primes (T : Tx K mg base) : ClX.CRead K (He.ga K "Primes") (.type "type") := by
  have h0 := (T.says.at_ 108 (f := fun K => PySem.W.readsIn K (He.ga K "Primes") (.type "type")) rfl)
  refine ⟨h0, ?_⟩
  have h : PySem.W.readsIn K (He.ga K "Primes") (.type "type") = true := h0
  unfold PySem.W.readsIn at h
  obtain ⟨h, _⟩ := He.ba h
  obtain ⟨h, _⟩ := He.ba h
  obtain ⟨h, h3⟩ := He.ba h
  obtain ⟨_, h2⟩ := He.ba h
  unfold PySem.W.specialIn
  rw [beq_iff_eq.mp h2, Option.bind_some]
  exact beq_iff_eq.mp h3
theorem Tx.call_Form (T : Tx K mg base) : StX.CallO K (He.ga K "Form") (He.fAd K ("Form", some "__call__")) := ⟨T.m_Form_call.at_, T.m_Form_call.fn, (T.says.at_ 109 (f := fun K => PySem.W.fnIn K (He.ma K (He.ga K "Form") "__call__")) rfl)⟩
theorem Tx.is_Form (T : Tx K mg base) : C8.InsC K (He.ga K "Form") := by
  obtain ⟨h1, h⟩ := He.ba (show isB K (He.ga K "Form") = true from (T.says.at_ 110 (f := fun K => isB K (He.ga K "Form")) rfl))
  obtain ⟨h2, h⟩ := He.ba h
  obtain ⟨h3, h⟩ := He.ba h
  obtain ⟨h4, h5⟩ := He.ba h
  exact ⟨T.c_Form, He.eqO_ok h1, He.eqO_ok h2, of_decide_eq_true h3, of_decide_eq_true h4, of_decide_eq_true h5⟩
theorem Tx.ki_bool (T : Tx K mg base) : PySem.W.kitOne K (.type "bool") (.type "bool") = some true := of_decide_eq_true (T.says.at_ 111 (f := fun K => decide (PySem.W.kitOne K (.type "bool") (.type "bool") = some true)) rfl)
end
def nm0 : List PySem.Str := ["_wall", "__name__", "ClockError", "BadModulus", "BadRest", "BadPrime", "TooWide", "BadSaying", "BadForm", "NotByRests", "checked_modulus", "checked_modulus_signs", "factor_of", "sign", "common", "factors"]
def nm1 : List PySem.Str := ["is_prime", "core", "primes", "checked_clock", "times_pair", "some_root", "root", "inverse", "roots", "how_many", "MOST_MODULUS", "MOST_PRIME", "units", "odd_divisors", "checked_modulus_values", "checked_singles"]
def nm2 : List PySem.Str := ["shortened", "told_by", "toggled", "least_description", "joined_answer", "combined", "is_number", "numbers_from", "expected", "Primes", "joint_modulus", "sets_of", "special_primes", "paper_of", "is_paper", "Form"]
def nm3 : List PySem.Str := ["reduced_forms", "rests_of", "side_of", "written", "neighbour", "form_primes", "MOST_OPEN", "is_integer_word", "Reader", "true_at", "by_sign", "divisors_of", "by_roots", "primes_of", "Saying", "_law_cell"]
def nm4 : List PySem.Str := ["_law_draws", "_law_is_integer", "_law_sign", "_law_number", "_law_middle", "_law_text", "_law_common", "_law_is_prime", "_law_special", "_law_made", "_law_shows", "_law_changed", "_law_texts", "_law_far_pair"]
def names : List PySem.Str := nm0 ++ (nm1 ++ (nm2 ++ (nm3 ++ (nm4))))
/-! ### the run -/
abbrev R : PySem.W.OpenRow := PySem.W.OpenLaw.row PySem.Challenge.rw_everyprime_k18_whole_papers_that_sayings
abbrev qv : Program := PySem.W.view R.prog [89]
abbrev hk : PySem.W.Hook := hookX 5
def ob (s : PySem.W.SharedT) : He.AlD := obsXG 5 (HandSHeadRun.getT s)
theorem ob_eq (s : PySem.W.SharedT) : ob s = hk.obs s.abs := obsXG_eq (HandSHeadRun.getT_eq s)
theorem run (w : World) : HandSHeadRun.RunEq R qv hk ob 12000 names w := by
  intro os
  kernel_rfl
end EP
end

section
set_option Elab.async false
set_option linter.all false
set_option maxRecDepth 100000
set_option maxHeartbeats 4000000
/-! A2: set(list of ints), sorted of it. -/
namespace EP
open PySem PySem.Spec PyProof.Rows L2

/-- a set object without items, as set() lays it -/
abbrev bareSet (w : World) : Obj := { cls := .type "set", dict := none, data := .set #[] 0 (.fresh 0 0 (!w.params.followText "set-order")) }
section
variable {P : Program} {w : World} {A : Around} {E : Value → Shared → Prop} {s : Shared}
set_option maxHeartbeats 8000000 in
theorem set_of_list {l : Addr} {items : Array Value} (ns : List Int) {Q : Value → Shared → Prop} (hh : A.handled = none) (hl : s.heap.IsList l items) (hit : IntsAre items.toList ns) (hb : ns.length + 1 < scanBound)
    (h : ∀ (h' : Heap) (tk c : Nat), SetR w h' s.heap.objs.size (fun j => decide (j ∈ ns)) c → c ≤ ns.length → (∀ b o, s.heap.get? b = some o → h'.get? b = some o) → Q (.ref s.heap.objs.size) { s with heap := h', toks := tk }) :
    wpAny (model P w) A (call (.type "set") [.ref l]) Q E s := by
  have hsz : items.size = ns.length := by have q := IntsAre.length hit; rwa [Array.length_toList] at q
  obtain ⟨c, tl, hmro⟩ := F.called_set.mro
  have hmade := F.called_set.made
  have hsub := F.called_set.sub
  refine wpAny_call (codeAny_of_tree ?_)
  show wpAny _ _ (callAny (.type "set") _) _ _ _
  refine wpAny_pure ⟨Code.quiet_builtin _ (by decide +kernel), codeAny_builtin F.entry_type_call ?_⟩
  rw [Around.under_plain (weight_type_call_type "set" [.ref l] []) rfl]
  have h1 := F.called_set.notType
  have h2 := F.called_set.canCreate
  have hct := F.typeCall_set_1 (.ref l)
  repeat (any_goals (first | assumption | wp_step))
  -- the new object
  refine codeAny_mono (code_set_led1 (.ref l) (E := E) (Q₁ := fun obj s₁ => obj = .ref s.heap.objs.size ∧ s₁ = { s with heap := s.heap.push (bareSet w) }) ⟨rfl, rfl⟩) fun r s₁ hr => ?_
  cases r with
  | error e => exact hr
  | ok fl =>
    cases fl with
    | ret obj =>
      obtain ⟨rfl, rfl⟩ := hr
      have gS : (s.heap.push (bareSet w)).get? s.heap.objs.size = some (bareSet w) := Heap.get?_push_size _ rfl
      have hT : Shared.TypeIs { s with heap := s.heap.push (bareSet w) } (.ref s.heap.objs.size) "set" := ⟨_, gS, rfl⟩
      have hli := F.called_set.init.lookup
      have hbi := F.called_set.init.bind (.ref s.heap.objs.size)
      repeat (any_goals (first | assumption | wp_step))
      -- its __init__ takes the items in
      refine codeAny_mono (codeAny_call_builtin (R := wants (fun r s₂ => r = .none ∧ ∃ h' tk c, s₂ = { s with heap := h', toks := tk } ∧ SetR w h' s.heap.objs.size (fun j => decide (j ∈ ns)) c ∧ c ≤ ns.length ∧
          (∀ b o, s.heap.get? b = some o → h'.get? b = some o)) E) F.called_set.init.plain F.entry_set_init (check_set_init_1 hT ?_)) fun r₂ s₂ hr₂ => ?_
      · obtain ⟨⟨oc, odict, odata, osl⟩, hol, hcl, nl, hdl⟩ := hl
        simp only at hcl hdl
        subst hcl hdl
        have hol' := Heap.get?_push_of_some (bareSet w) hol
        have n1 := F.sub_list_set
        have n2 := F.sub_list_frozenset
        have n3 : (Value.type "list" == Value.type "dict") = false := by decide
        have hl1 : (s.heap.push (bareSet w)).IsList l items := ⟨_, hol', rfl, nl, rfl⟩
        unfold Builtin.«set.__init__» noKeywords Builtin.Frozenset.updateFrom
        generalize hPI : pyIter = PI
        wp_walk
        subst hPI
        refine wpAny_pyIter_list hl1 ?_
        refine wpAny_bind (wpAny_runValue ?_)
        have l0 : l < s.heap.objs.size := Heap.lt_size hol
        have sz1 : (s.heap.push (bareSet w)).objs.size = s.heap.objs.size + 1 := Heap.size_push ..
        have hneI : l ≠ (s.heap.push (bareSet w)).objs.size := by rw [sz1]; exact Nat.ne_of_lt (Nat.lt_succ_of_lt l0)
        have hSf : s.heap.objs.size ∉ [(s.heap.push (bareSet w)).objs.size, l] := by
          rw [sz1]
          intro q
          rcases List.mem_cons.mp q with q | q
          · exact absurd q (Nat.ne_of_lt (Nat.lt_succ_self _))
          · exact absurd (List.mem_singleton.mp q) (Nat.ne_of_gt l0)
        have hval : ∀ (i : Nat) (v : Value), items[i]? = some v → ∃ k t, ns[i]? = some k ∧ v = .int k t := fun i v hv => by
          have hi : i < ns.length := by rw [← hsz]; exact (Array.getElem?_eq_some_iff.mp hv).1
          obtain ⟨t, e⟩ := PyProof.Rows.IntsAre.int_at hit i v (by rw [Array.getElem?_toList]; exact hv)
          refine ⟨ns[i], t, List.getElem?_eq_getElem hi, ?_⟩
          rw [e, List.getD_eq_getElem?_getD, List.getElem?_eq_getElem hi] <;> rfl
        refine set_update_ints ((Walks.list (by simp [hh]) _ l hneI items).toS) s.heap.objs.size hSf ns hsz hb hval (items.size - 0) 0 _ (by omega) (Nat.zero_le _)
          ⟨⟨_, Heap.get?_push_size _ rfl, rfl, rfl⟩, (hl1.push _)⟩ ⟨0, Nat.le_refl 0, setR_new_at (Heap.get?_push_of_some _ gS)⟩ ?hR
        case hR =>
          rintro ⟨h', g2, d', tk', os'⟩ c' hm hc' hS'
          obtain rfl : g2 = s.gens := hm.gens
          obtain rfl : d' = s.drawn := hm.drawn
          obtain rfl : os' = s.os := hm.os
          refine wpAny_pure ?_
          show wpAny _ _ (ret Value.none) _ _ _
          refine wpAny_pure ⟨rfl, h', tk', c', rfl, hS', by omega, fun b o e => ?_⟩
          have b0 : b < s.heap.objs.size := Heap.lt_size e
          refine hm.heap b o (fun q => ?_) (Heap.get?_push_of_some _ (Heap.get?_push_of_some _ e))
          rcases List.mem_cons.mp q with q | q
          · exact absurd q (Nat.ne_of_lt b0)
          · rw [sz1] at q
            exact absurd (List.mem_singleton.mp q) (Nat.ne_of_lt (Nat.lt_succ_of_lt b0))
      · cases r₂ with
        | error e => exact hr₂
        | ok fl₂ =>
          cases fl₂ with
          | ret r =>
            obtain ⟨rfl, h', tk, c', rfl, hS', hc', hk'⟩ := hr₂
            repeat (any_goals (first | assumption | wp_step))
            exact h _ _ _ hS' hc' hk'
          | _ => exact hr₂.elim
    | _ => exact hr.elim
end
section
variable {X : Cx}
/-- set(xs), xs a list of ints -/
def rSetL (K : PySem.W.Frag) (w : World) : List V → Hp → VK → Prop := fun vs H Q => ∃ (a : Addr) (ns : List Int), vs = [V.ref a] ∧ SqL K H a (ns.map V.int) ∧ ns.length + 1 < scanBound ∧
  ∀ p c, H p = none → c ≤ ns.length → Q (.ref p) (upd H p (SetO w p (fun j => decide (j ∈ ns)) c))
theorem cr_setL (hc : X.calm = true) : CallR X (.type "set") (rSetL X.K X.w) := by
  intro pins s σ H vs us Q I r h
  obtain ⟨a, ns, rfl, ha, hz, q⟩ := h
  obtain ⟨u, rfl, ru⟩ := vals1 r
  cases ru
  obtain ⟨its, rv, pl, _⟩ := I.list ha
  refine set_of_list ns (I.ok.hd hc) pl.isList (by simpa using RZ.intsAre_vals rv) hz fun h' tk c R hc' k => ?_
  exact ⟨.ref _, _, I.laid (t' := tk) k (Nat.le_refl _) (setO_new R), rfl, q _ c I.fresh hc'⟩
end
end EP
end

section
set_option Elab.async false
set_option linter.all false
set_option maxRecDepth 100000
set_option maxHeartbeats 4000000
/-! A3: what an expression gives while the abstract heap only grows: EvP (a value by a predicate), calls, fields, containers of ints, what is walked, comprehensions, loops. -/
namespace EP
open PySem PySem.Spec PyProof.Rows L2 Evl

/-! ### numbers as values -/
abbrev zs (l : List Nat) : List Int := l.map Int.ofNat
abbrev iv (l : List Int) : List V := l.map V.int
abbrev nv (l : List Nat) : List V := l.map fun n => V.int (Int.ofNat n)
theorem iv_zs (l : List Nat) : iv (zs l) = nv l := by simp [iv, zs, nv, List.map_map, Function.comp_def]
theorem nv_len (l : List Nat) : (nv l).length = l.length := List.length_map ..

/-! ### promises -/
/-- what is told of a value: the heap ahead (what is new is not in it), the value, the heap behind -/
abbrev VP := Hp → V → Hp → Prop
/-- what follows is wanted of each value that P tells, in a grown heap -/
def Gives (P : VP) (H : Hp) (Q : VK) : Prop := ∀ H0 v H', Ex H H0 → Ex H0 H' → P H0 v H' → Q v H'
theorem Gives.mono {P : VP} {H H1 : Hp} {Q : VK} (k : Gives P H Q) (e : Ex H H1) : Gives P H1 Q := fun H0 v H' e0 e' p => k H0 v H' (e.trans e0) e' p
theorem Gives.go {P : VP} {H H' : Hp} {Q : VK} {v : V} (k : Gives P H Q) (e : Ex H H') (p : P H v H') : Q v H' := k H v H' (Ex.refl H) e p
def isV (v : V) : VP := fun _ x _ => x = v
/-- a new list, a new tuple -/
def isL (xs : List V) : VP := fun H0 x H => ∃ a, x = .ref a ∧ H0 a = none ∧ H a = some (.lst xs)
def isT (xs : List V) : VP := fun H0 x H => ∃ a, x = .ref a ∧ H0 a = none ∧ H a = some (.tup xs)
/-- a dict {n: True for n in l} -/
def dk (l : List Nat) : List (Key × V) := l.map fun n => (Sum.inl (Int.ofNat n), V.bl true)
def isD (l : List Nat) : VP := fun H0 x H => ∃ a, x = .ref a ∧ H0 a = none ∧ H a = some (.dK (dk l))
theorem gives_v {v : V} {H : Hp} {Q : VK} (k : Gives (isV v) H Q) {H' : Hp} (e : Ex H H') : Q v H' := k.go e rfl
theorem gives_l {xs : List V} {H : Hp} {Q : VK} (k : Gives (isL xs) H Q) {H' : Hp} {p : Addr} (e : Ex H H') (hp : H p = none) (h : H' p = some (.lst xs)) : Q (.ref p) H' := k.go e ⟨p, rfl, hp, h⟩

def EvP (te : TE) (σ : L2.St) (H : Hp) (P : VP) : Prop := ∀ H1, Ex H H1 → ∀ Q : VK, Gives P H1 Q → te σ H1 Q
/-- the promise of a def at these arguments, from this heap on -/
def SpP (sp : Sp) (vs : List V) (H : Hp) (P : VP) : Prop := ∀ H1, Ex H H1 → ∀ Q : VK, Gives P H1 Q → sp vs H1 Q E0
def EvAP (t : TA) (σ : L2.St) (H : Hp) (P : List V → Hp → Prop) : Prop := ∀ H1, Ex H H1 → ∀ Q : List V → Hp → Prop, (∀ vs H2, Ex H1 H2 → P vs H2 → Q vs H2) → t σ H1 Q

section
variable {K : PySem.W.Frag} {σ : L2.St} {H H' : Hp} {ta tb te tx : TE} {t u : TT} {x y z v : V} {r : R2} {P P' : VP} {ts : TA} {vs : List V} {sp : Sp}
theorem EvP.mono (e : Ex H H') (h : EvP te σ H P) : EvP te σ H' P := fun H1 a Q q => h H1 (e.trans a) Q q
theorem EvP.imp (h : EvP te σ H P) (k : ∀ H0 v H1, Ex H H0 → Ex H0 H1 → P H0 v H1 → P' H0 v H1) : EvP te σ H P' := fun H1 e Q q => h H1 e Q fun H0 v H2 e0 e2 p => q H0 v H2 e0 e2 (k H0 v H2 (e.trans e0) e2 p)
theorem ev_p (h : Ev te σ H v) : EvP te σ H (isV v) := fun H1 e Q q => h H1 e Q fun H2 e2 => q.go e2 rfl
theorem p_ev (h : EvP te σ H (isV v)) : Ev te σ H v := fun H1 e Q q => h H1 e Q fun H0 x H2 e0 e2 p => by
  cases (show x = v from p)
  exact q H2 (e0.trans e2)
theorem el_p {xs : List V} (h : EvL te σ H xs) : EvP te σ H (isL xs) := fun H1 e Q q => h H1 e Q fun p H2 h0 e2 hp => q.go e2 ⟨p, rfl, h0, hp⟩
theorem p_el {xs : List V} (h : EvP te σ H (isL xs)) : EvL te σ H xs := fun H1 e Q q => h H1 e Q fun H0 v H2 e0 e2 ⟨p, ev, h0, hp⟩ => by
  subst ev
  exact q p H2 (fresh_back e0 h0) (e0.trans e2) hp
theorem eu_p {xs : List V} (h : EvU te σ H xs) : EvP te σ H (isT xs) := fun H1 e Q q => h H1 e Q fun p H2 h0 e2 hp => q.go e2 ⟨p, rfl, h0, hp⟩
theorem p_eu {xs : List V} (h : EvP te σ H (isT xs)) : EvU te σ H xs := fun H1 e Q q => h H1 e Q fun H0 v H2 e0 e2 ⟨p, ev, h0, hp⟩ => by
  subst ev
  exact q p H2 (fresh_back e0 h0) (e0.trans e2) hp
theorem SpP.mono (e : Ex H H') (h : SpP sp vs H P) : SpP sp vs H' P := fun H1 a Q q => h H1 (e.trans a) Q q
theorem ea_p (h : EvA ts σ H vs) : EvAP ts σ H (fun us _ => us = vs) := fun H1 e Q q => h H1 e Q fun H2 e2 => q vs H2 e2 rfl
theorem eap_nil {PA : List V → Hp → Prop} (h : ∀ H1, Ex H H1 → PA [] H1) : EvAP tNil σ H PA := fun H1 e Q q => q [] H1 (Ex.refl H1) (h H1 e)
theorem eap_cons {tr : TA} {PA : List V → Hp → Prop} (h : EvP ta σ H P) (hr : ∀ H0 v H1, Ex H H0 → Ex H0 H1 → P H0 v H1 → EvAP tr σ H1 (fun us H2 => PA (v :: us) H2)) : EvAP (tCons ta tr) σ H PA := fun H1 e Q q =>
  h H1 e _ fun H0 v H2 e0 e2 p => hr H0 v H2 (e.trans e0) e2 p H2 (Ex.refl H2) _ fun us H3 e3 hp => q _ H3 ((e0.trans e2).trans e3) hp
theorem eap_consV {tr : TA} {PA : List V → Hp → Prop} (h : Ev ta σ H v) (hr : EvAP tr σ H (fun us H2 => PA (v :: us) H2)) : EvAP (tCons ta tr) σ H PA := fun H1 e Q q =>
  h H1 e _ fun H2 e2 => hr H2 (e.trans e2) _ fun us H3 e3 hp => q _ H3 (e2.trans e3) hp
/-- a call, the arguments known -/
theorem ev_cal (h : EvA ts σ H vs) (hs : SpP sp vs H P) : EvP (tCalR sp ts) σ H P := fun H1 e Q q =>
  h H1 e _ fun H2 e2 => hs H2 (e.trans e2) Q (q.mono e2)
/-- a call, the arguments by what is known of them -/
theorem ev_calP {PA : List V → Hp → Prop} (h : EvAP ts σ H PA) (hs : ∀ us H1, Ex H H1 → PA us H1 → SpP sp us H1 P) : EvP (tCalR sp ts) σ H P := fun H1 e Q q =>
  h H1 e _ fun us H2 e2 p => hs us H2 (e.trans e2) p H2 (Ex.refl H2) Q (q.mono e2)
theorem ev_met {C : Addr} {m : Str} {a dx : Addr} {fs : List (Str × V)} (hx : Ev ta σ H (.ref a)) (ho : H a = some (.ins C dx fs)) (hl : fs.lookup m = none) (h : EvA ts σ H vs) (hs : SpP sp (.ref a :: vs) H P) : EvP (tMet C m sp ta ts) σ H P := fun H1 e Q q =>
  hx H1 e _ fun H2 e2 => ⟨a, dx, fs, rfl, (e.trans e2) _ _ ho, hl, h H2 (e.trans e2) _ fun H3 e3 => hs H3 ((e.trans e2).trans e3) Q (q.mono (e2.trans e3))⟩
theorem ev_metP {C : Addr} {m : Str} {PA : List V → Hp → Prop} (hx : EvP ta σ H P') (ho : ∀ H0 v H1, Ex H H0 → Ex H0 H1 → P' H0 v H1 → (∃ a dx fs, v = .ref a ∧ H1 a = some (.ins C dx fs) ∧ fs.lookup m = none) ∧ EvAP ts σ H1 (fun us H2 => PA (v :: us) H2))
    (hs : ∀ us H1, Ex H H1 → PA us H1 → SpP sp us H1 P) : EvP (tMet C m sp ta ts) σ H P := fun H1 e Q q =>
  hx H1 e _ fun H0 v H2 e0 e2 p => by
    obtain ⟨⟨a, dx, fs, ev, eo, el⟩, h⟩ := ho H0 v H2 (e.trans e0) e2 p
    exact ⟨a, dx, fs, ev, eo, el, h H2 (Ex.refl H2) _ fun us H3 e3 hp => hs _ H3 (((e.trans e0).trans e2).trans e3) hp H3 (Ex.refl H3) Q (q.mono ((e0.trans e2).trans e3))⟩
theorem ev_cme {C : Addr} (hx : Ev ta σ H (.ref C)) (h : EvA ts σ H vs) (hs : SpP sp (.ref C :: vs) H P) : EvP (ClX.tCMeth C sp E0 ta ts) σ H P := fun H1 e Q q =>
  hx H1 e _ fun H2 e2 => ⟨rfl, h H2 (e.trans e2) _ fun H3 e3 => hs H3 ((e.trans e2).trans e3) Q (q.mono (e2.trans e3))⟩
/-- C(e, ..): what __init__ promises of a new instance -/
def MkP (sp : Sp) (C : Addr) (vs : List V) (H : Hp) (P : VP) : Prop := ∀ H1, Ex H H1 → ∀ x dx, H1 x = none → H1 dx = none → dx ≠ x → ∀ Q : VK,
  (∀ H2, Ex H1 H2 → P H1 (.ref x) H2 → Q .non H2) → sp (.ref x :: vs) (upd (upd H1 dx (.own x)) x (.ins C dx [])) Q E0
theorem ev_mk {C : Addr} (h : EvA ts σ H vs) (hs : MkP sp C vs H P) : EvP (StX.tMakeR C sp E0 ts) σ H P := fun H1 e Q q =>
  h H1 e _ fun H2 e2 x dx hx hd ne => hs H2 (e.trans e2) x dx hx hd ne _ fun H3 e3 p => ⟨rfl, q H2 _ H3 e2 e3 p⟩
theorem ev_mkP {C : Addr} {PA : List V → Hp → Prop} (h : EvAP ts σ H PA) (hs : ∀ us H1, Ex H H1 → PA us H1 → MkP sp C us H1 P) : EvP (StX.tMakeR C sp E0 ts) σ H P := fun H1 e Q q =>
  h H1 e _ fun us H2 e2 p x dx hx hd ne => hs us H2 (e.trans e2) p H2 (Ex.refl H2) x dx hx hd ne _ fun H3 e3 p => ⟨rfl, q H2 _ H3 e2 e3 p⟩
/-- a field -/
theorem ev_fld {f : Str} {a C dx : Addr} {fs : List (Str × V)} (hx : Ev ta σ H (.ref a)) (ho : H a = some (.ins C dx fs)) (c : Cls K C) (n : NoAttr K C f) (hl : fs.lookup f = some v) : Ev (tFld K ta f) σ H v := fun H1 e _ q =>
  hx H1 e _ fun H2 e2 => ⟨a, C, dx, fs, v, rfl, (e.trans e2) _ _ ho, c, n, hl, q H2 e2⟩
/-- a field of what an expression gives -/
theorem ev_fldP {f : Str} {C : Addr} (hx : EvP ta σ H P') (ho : ∀ H0 x H1, Ex H H0 → Ex H0 H1 → P' H0 x H1 → ∃ a dx fs v, x = .ref a ∧ H1 a = some (.ins C dx fs) ∧ fs.lookup f = some v ∧ P H0 v H1) (c : Cls K C) (n : NoAttr K C f) : EvP (tFld K ta f) σ H P := fun H1 e _ q =>
  hx H1 e _ fun H0 x H2 e0 e2 p => by
    obtain ⟨a, dx, fs, v, ex, eo, el, pv⟩ := ho H0 x H2 (e.trans e0) e2 p
    exact ⟨a, C, dx, fs, v, ex, eo, c, n, el, q H0 v H2 e0 e2 pv⟩

/-! ### operators by what they give -/
theorem rv_add {i j : Int} : RV (rI0 fun i j => .int (i + j)) (.int i) (.int j) H (.int (i + j)) := rv_I0
theorem ev_op' (ha : Ev ta σ H x) (hb : Ev tb σ H y) (hr : RV r x y H z) : Ev (tOp r ta tb) σ H z := ev_op ha hb hr
/-- the operands by what is known of them -/
theorem ev_opP {Pa : VP} {Pb : V → VP} (ha : EvP ta σ H Pa) (hb : ∀ H0 x H1, Ex H H0 → Ex H0 H1 → Pa H0 x H1 → EvP tb σ H1 (Pb x)) (hr : ∀ x H0 y H1, Ex H H0 → Ex H0 H1 → Pb x H0 y H1 → ∀ Q : VK, Gives P H1 Q → r x y H1 Q) : EvP (tOp r ta tb) σ H P := fun H1 e Q q =>
  ha H1 e _ fun H0 x H2 e0 e2 pa => hb H0 x H2 (e.trans e0) e2 pa H2 (Ex.refl H2) _ fun H3 y H4 e3 e4 pb => hr x H3 y H4 (((e.trans e0).trans e2).trans e3) e4 pb Q (q.mono (((e0.trans e2).trans e3).trans e4))
/-- a call of a built-in -/
theorem ev_cbP {rc : List V → Hp → VK → Prop} {PA : List V → Hp → Prop} (h : EvAP ts σ H PA) (hr : ∀ us H1, Ex H H1 → PA us H1 → ∀ Q : VK, Gives P H1 Q → rc us H1 Q) : EvP (tCB rc ts) σ H P := fun H1 e Q q =>
  h H1 e _ fun us H2 e2 p => hr us H2 (e.trans e2) p Q (q.mono e2)
theorem et_p {b : Bool} (h : EvP te σ H (isV (.bl b))) : EvT (tTest te) σ H b := et_test (p_ev h)

/-! ### tests by predicates -/
theorem ev_notIn {b : Bool} (h : EvT t σ H b) : EvT (tNot t) σ H (!b) := et_not h
end

/-! ### built-ins, named -/
section
variable {X : Cx}
def rAddS : R2 := fun x y H Q => ∃ i j, x = .str i ∧ y = .str j ∧ i.length + j.length ≤ sizeLine ∧ Q (.str (i ++ j)) H
theorem op_addS : OpR X (binaryOp .Add) rAddS := op_add_str
def rAbs : List V → Hp → VK → Prop := fun xs H Q => ∃ i, xs = [.int i] ∧ Q (.int (if i < 0 then -i else i)) H
theorem c_abs : CallR X (.builtin "abs") rAbs := call_abs
theorem c_max (hc : X.calm = true) : CallR X (.builtin "max") rMax2 := call_max2 hc
theorem c_len : CallR X (.builtin "len") (rLenS X.K) := call_len_seq
def rLenT : List V → Hp → VK → Prop := fun xs H Q => ∃ z, xs = [.str z] ∧ z.length ≤ sizeLine ∧ Q (.int z.length) H
theorem c_lenT : CallR X (.builtin "len") rLenT := call_len_str
theorem c_list : CallR X (.type "list") (rListS X.K) := call_list_of
def rTupS (K : PySem.W.Frag) : List V → Hp → VK → Prop := fun xs H Q => ∃ p ys, xs = [.ref p] ∧ ((SqL K H p ys ∧ ∀ l, H l = none → Q (.ref l) (upd H l (.tup ys))) ∨ (SqT K H p ys ∧ Q (.ref p) H))
theorem c_tuple : CallR X (.type "tuple") (rTupS X.K) := call_tuple_of
def rInt1 : List V → Hp → VK → Prop := fun xs H Q => (∃ i, xs = [.int i] ∧ Q (.int i) H) ∨ ∃ k, xs = [.bl k] ∧ Q (.int (if k then 1 else 0)) H
theorem c_int : CallR X (.type "int") rInt1 := call_int1
def rIntT : List V → Hp → VK → Prop := fun xs H Q => ∃ a n, xs = [.str a] ∧ PySem.intText? a = some n ∧ a.length ≤ 640 ∧ Q (.int n) H
theorem c_intT : CallR X (.type "int") rIntT := call_int_str
def rStrI : List V → Hp → VK → Prop := fun xs H Q => ∃ i, xs = [.int i] ∧ i.natAbs.log2 < 1920 ∧ Q (.str (toString i)) H
theorem c_str : CallR X (.type "str") rStrI := call_str_int
def rIs0 : R2 := fun x y H Q => y = .non ∧ Q (.bl (decide (x = .non))) H
theorem op_is0 : OpR X (compareOp .Is) rIs0 := op_isN
def rIsNot0 : R2 := fun x y H Q => y = .non ∧ Q (.bl (!decide (x = .non))) H
theorem op_isnot0 : OpR X (compareOp .IsNot) rIsNot0 := op_notN
def rSign (neg : Bool) : R2 := fun x y H Q => ∃ c z, x = .str ⟨#[c]⟩ ∧ y = .str z ∧ Q (.bl (if neg then !decide (c ∈ z.cps.toList) else decide (c ∈ z.cps.toList))) H
theorem op_sign : OpR X (compareOp .In) (rSign false) := op_in_sign
/-- containers of ints: a list, a tuple, a dict by its keys -/
def IntC (K : PySem.W.Frag) (H : Hp) (y : V) (ns : List Int) : Prop := ∃ a, y = .ref a ∧ (SqL K H a (iv ns) ∨ SqT K H a (iv ns) ∨ ∃ kvs : List (Key × V), H a = some (.dK kvs) ∧ kvs.map (·.1) = ns.map Sum.inl)
def rInC (K : PySem.W.Frag) (neg : Bool) : R2 := fun x y H Q => ∃ n ns, x = .int n ∧ IntC K H y ns ∧ Q (.bl (if neg then !decide (n ∈ ns) else decide (n ∈ ns))) H
theorem inV_iv (n : Int) (ns : List Int) : inV (.int n) (iv ns) = decide (n ∈ ns) := by
  induction ns with
  | nil => rfl
  | cons m r ih =>
    show (eqV (.int m) (.int n) || inV (.int n) (iv r)) = _
    rw [ih]
    by_cases e : m = n
    · subst e
      simp [eqV]
    · have e2 : ¬ n = m := fun q => e q.symm
      simp [eqV, e, e2]
theorem flat_iv (ns : List Int) : (iv ns).all flatV = true := by
  rw [List.all_eq_true]
  intro v hv
  obtain ⟨n, _, rfl⟩ := List.mem_map.mp hv
  rfl
theorem valV_iv {kvs : List (Key × V)} {ns : List Int} (h : kvs.map (·.1) = ns.map Sum.inl) (n : Int) : (valV kvs (Sum.inl n)).isSome = decide (n ∈ ns) := by
  rw [← valV_any]
  rw [Bool.eq_iff_iff, List.any_eq_true, decide_eq_true_iff]
  constructor
  · rintro ⟨p, hp, e⟩
    have e : p.1 = Sum.inl n := of_decide_eq_true e
    have : p.1 ∈ kvs.map (·.1) := List.mem_map.mpr ⟨p, hp, rfl⟩
    rw [h, e] at this
    obtain ⟨m, hm, q⟩ := List.mem_map.mp this
    cases q
    exact hm
  · intro hn
    have : (Sum.inl n : Key) ∈ kvs.map (·.1) := by
      rw [h]
      exact List.mem_map.mpr ⟨n, hn, rfl⟩
    obtain ⟨p, hp, e⟩ := List.mem_map.mp this
    exact ⟨p, hp, decide_eq_true e⟩
theorem op_inC (hu : X.A.units + 1 < cLine) : OpR X (compareOp .In) (rInC X.K false) := by
  intro pins s σ H x y v u Q I rx ry h
  obtain ⟨n, ns, rfl, ⟨a, rfl, hc⟩, q⟩ := h
  rcases hc with hc | hc | ⟨kvs, hc, hk⟩
  · exact op_in_seq pins s σ H _ _ v u Q I rx ry ⟨a, iv ns, rfl, .inl hc, rfl, flat_iv ns, by rw [inV_iv]; exact q⟩
  · exact op_in_seq pins s σ H _ _ v u Q I rx ry ⟨a, iv ns, rfl, .inr hc, rfl, flat_iv ns, by rw [inV_iv]; exact q⟩
  · cases ry
    exact d_in hu I (DGet.k (k := Sum.inl n) hc) rx fun s' I' => ⟨.bl _, H, I', rfl, by rw [valV_iv hk]; exact q⟩
theorem op_notInC (hu : X.A.units + 1 < cLine) : OpR X (compareOp .NotIn) (rInC X.K true) := by
  intro pins s σ H x y v u Q I rx ry h
  obtain ⟨n, ns, rfl, ⟨a, rfl, hc⟩, q⟩ := h
  rcases hc with hc | hc | ⟨kvs, hc, hk⟩
  · exact op_notIn_seq pins s σ H _ _ v u Q I rx ry ⟨a, iv ns, rfl, .inl hc, rfl, flat_iv ns, by rw [inV_iv]; exact q⟩
  · exact op_notIn_seq pins s σ H _ _ v u Q I rx ry ⟨a, iv ns, rfl, .inr hc, rfl, flat_iv ns, by rw [inV_iv]; exact q⟩
  · cases ry
    exact d_notIn hu I (DGet.k (k := Sum.inl n) hc) rx fun s' I' => ⟨.bl _, H, I', rfl, by rw [valV_iv hk]; exact q⟩
end
section
variable {K : PySem.W.Frag} {σ : L2.St} {H H' : Hp} {y : V} {ns : List Int}
theorem IntC.ex (e : Ex H H') (h : IntC K H y ns) : IntC K H' y ns := by
  obtain ⟨a, rfl, h⟩ := h
  refine ⟨a, rfl, ?_⟩
  rcases h with h | h | ⟨kvs, h, hk⟩
  · exact .inl (ex_l e h)
  · exact .inr (.inl (ex_t e h))
  · exact .inr (.inr ⟨kvs, e _ _ h, hk⟩)
theorem IntC.lst {a : Addr} (h : H a = some (.lst (iv ns))) : IntC K H (.ref a) ns := ⟨a, rfl, .inl (SqL.of h)⟩
theorem IntC.tup {a : Addr} (h : H a = some (.tup (iv ns))) : IntC K H (.ref a) ns := ⟨a, rfl, .inr (.inl (SqT.of h))⟩
theorem IntC.dk {a : Addr} {l : List Nat} (h : H a = some (.dK (dk l))) : IntC K H (.ref a) (zs l) :=
  ⟨a, rfl, .inr (.inr ⟨_, h, by simp [EP.dk, List.map_map, Function.comp_def]⟩)⟩
theorem rv_inC {n : Int} (h : IntC K H y ns) : RV (rInC K false) (.int n) y H (.bl (decide (n ∈ ns))) := fun H1 e _ q => ⟨n, ns, rfl, h.ex e, q H1 (Ex.refl H1)⟩
theorem rv_notInC {n : Int} (h : IntC K H y ns) : RV (rInC K true) (.int n) y H (.bl (!decide (n ∈ ns))) := fun H1 e _ q => ⟨n, ns, rfl, h.ex e, q H1 (Ex.refl H1)⟩
theorem mem_zs {n : Nat} {l : List Nat} : decide ((n : Int) ∈ zs l) = decide (n ∈ l) := by
  rw [Bool.eq_iff_iff, decide_eq_true_iff, decide_eq_true_iff]
  constructor
  · intro h
    obtain ⟨m, hm, e⟩ := List.mem_map.mp h
    have : m = n := Int.ofNat.inj e
    exact this ▸ hm
  · intro h
    exact List.mem_map.mpr ⟨n, h, rfl⟩
end

/-! ### what is walked -/
structure Walked (J : It) (H : Hp) (l : List V) : Prop where
  go : ∀ i H', Ex H H' → i < l.length → J.go i H'
  yld : ∀ i H' x H'', Ex H H' → J.yld i H' x H'' → i < l.length → H'' = H' ∧ l[i]? = some x
  stop : ∀ H', Ex H H' → J.stop l.length H'
def EvI (wi : TI) (σ : L2.St) (H : Hp) (l : List V) : Prop := ∀ H1, Ex H H1 → ∀ R : It → Hp → Prop, (∀ J H2, Ex H1 H2 → Walked J H2 l → R J H2) → wi σ H1 R
section
variable {K : PySem.W.Frag} {σ : L2.St} {H H' : Hp} {ta te : TE} {ts : TA} {P : VP} {l : List V}
theorem EvI.mono (e : Ex H H') {wi : TI} (h : EvI wi σ H l) : EvI wi σ H' l := fun H1 a Q q => h H1 (e.trans a) Q q
theorem walked_l {a : Addr} (h : SqL K H a l) : Walked (Itl K a) H l where
  go := fun i H' e hi => ⟨l, l[i], ex_l e h, by simp [hi]⟩
  yld := fun i H' x H'' e y hi => ⟨y.1, y.2 l (ex_l e h)⟩
  stop := fun H' e => ⟨l, ex_l e h, Nat.le_refl _⟩
theorem walked_t {a : Addr} (h : SqT K H a l) : Walked (Itt K a) H l where
  go := fun i H' e hi => ⟨l, l[i], ex_t e h, by simp [hi]⟩
  yld := fun i H' x H'' e y hi => ⟨y.1, y.2 l (ex_t e h)⟩
  stop := fun H' e => ⟨l, ex_t e h, Nat.le_refl _⟩
theorem ei_l {a : Addr} (hx : Ev te σ H (.ref a)) (h : SqL K H a l) : EvI (iList K te) σ H l := fun H1 e R q =>
  hx H1 e _ fun H2 e2 => ⟨a, rfl, ⟨l, ex_l (e.trans e2) h⟩, q _ H2 e2 (walked_l (ex_l (e.trans e2) h))⟩
theorem ei_t {a : Addr} (hx : Ev te σ H (.ref a)) (h : SqT K H a l) : EvI (iTup K te) σ H l := fun H1 e R q =>
  hx H1 e _ fun H2 e2 => ⟨a, rfl, ⟨l, ex_t (e.trans e2) h⟩, q _ H2 e2 (walked_t (ex_t (e.trans e2) h))⟩
theorem ei_lp (h : EvP te σ H (isL l)) : EvI (iList K te) σ H l := fun H1 e R q =>
  h H1 e _ fun H0 v H2 e0 e2 ⟨a, ev, _, ha⟩ => by
    subst ev
    exact ⟨a, rfl, ⟨l, SqL.of ha⟩, q _ H2 (e0.trans e2) (walked_l (K := K) (SqL.of ha))⟩
/-- lo, lo + 1, .. -/
def upto (lo : Int) (n : Nat) : List V := (List.range n).map fun (i : Nat) => V.int (lo + i)
theorem upto_at {lo : Int} {n i : Nat} (h : i < n) : (upto lo n)[i]? = some (V.int (lo + i)) := by
  unfold upto
  rw [List.getElem?_map, List.getElem?_range h]
  rfl
theorem upto_len {lo : Int} {n : Nat} : (upto lo n).length = n := by simp [upto]
theorem walked_r {lo : Int} {n : Nat} : Walked (Itr lo n) H (upto lo n) where
  go := fun i H' e hi => by rw [upto_len] at hi; exact hi
  yld := fun i H' x H'' e y hi => by
    rw [upto_len] at hi
    exact ⟨y.1, by rw [upto_at hi, y.2]⟩
  stop := fun H' e => by rw [upto_len]; exact Nat.le_refl _
theorem ei_r1 {j : Int} (h : EvA ts σ H [.int j]) (h1 : -(2 ^ 62) ≤ j) (h2 : j < 2 ^ 62) : EvI (iRng1 ts) σ H (upto 0 j.toNat) := fun H1 e R q =>
  h H1 e _ fun H2 e2 => ⟨j, rfl, h1, h2, q _ H2 e2 walked_r⟩
theorem ei_r2 {i j : Int} (h : EvA ts σ H [.int i, .int j]) (h1 : -(2 ^ 62) ≤ i ∧ i < 2 ^ 62 ∧ -(2 ^ 62) ≤ j ∧ j < 2 ^ 62) : EvI (iRng2 ts) σ H (upto i (j - i).toNat) := fun H1 e R q =>
  h H1 e _ fun H2 e2 => ⟨i, j, rfl, h1, q _ H2 e2 walked_r⟩
def signs (x : Str) : List V := x.cps.toList.map fun c => V.str ⟨#[c]⟩
theorem walked_s {x : Str} : Walked (Its x) H (signs x) where
  go := fun i H' e hi => by
    have : i < x.cps.size := by simpa [signs] using hi
    exact this
  yld := fun i H' v H'' e y hi => by
    obtain ⟨e1, c, hc, ev⟩ := y
    refine ⟨e1, ?_⟩
    rw [ev]
    unfold signs
    rw [List.getElem?_map, Array.getElem?_toList, hc]
    rfl
  stop := fun H' e => by
    show x.cps.size ≤ (signs x).length
    simp [signs]
theorem ei_s {x : Str} (h : Ev te σ H (.str x)) : EvI (iStr te) σ H (signs x) := fun H1 e R q => h H1 e _ fun H2 e2 => ⟨x, rfl, q _ H2 e2 walked_s⟩

/-! ### comprehensions: the items l.map g, kept where p, elements w -/
/-- the new list at D holds what the first i items gave; nothing that stood has changed -/
def Cw2 (H : Hp) (acc : List V) (D : Addr) (H' : Hp) : Prop := H D = none ∧ Ex H H' ∧ H' D = some (.lst acc)
theorem take_snoc {α : Type} {l : List α} {i : Nat} {x : α} (h : l[i]? = some x) : l.take (i + 1) = l.take i ++ [x] := by
  rw [List.take_add_one, h] <;> rfl
theorem filter_snoc {α : Type} {l : List α} {i : Nat} {x : α} (p : α → Bool) (w : α → V) (h : l[i]? = some x) : ((l.take (i + 1)).filter p).map w = ((l.take i).filter p).map w ++ (if p x then [w x] else []) := by
  rw [take_snoc h, List.filter_append, List.map_append, List.filter_cons]
  by_cases hp : p x = true
  · rw [if_pos hp, if_pos hp] <;> rfl
  · rw [if_neg hp, if_neg hp] <;> rfl
theorem el_lc {α : Type} {wi : TI} {g : TG} {t : TT} {vs : List Nat} {xs : List V} (l : List α) (gx : α → V) (p : α → Bool) (w : α → V) (sx : α → L2.St) (hI : EvI wi σ H xs) (hxs : xs = l.map gx) (hz : l.length ≤ 40000)
    (hg : ∀ x ∈ l, ∀ H1, Ex H H1 → ∀ R : L2.St → Hp → Prop, (∀ H2, Ex H1 H2 → R (sx x) H2) → g (gx x) (wipe σ vs) H1 R) (hw : ∀ x ∈ l, wipe (sx x) vs = wipe σ vs)
    (ht : ∀ x ∈ l, EvT t (sx x) H (p x)) (he : ∀ x ∈ l, p x = true → Ev te (sx x) H (w x)) : EvL (tLc wi g t te vs) σ H ((l.filter p).map w) := fun H0 e Q q => hI H0 e _ fun J H1 e1 W D hD => by
  have e01 := e.trans e1
  subst hxs
  refine ⟨fun i m H' => m = l.length - i ∧ i ≤ l.length ∧ Cw2 H1 (((l.take i).filter p).map w) D H', ⟨l.length, by simp, Nat.zero_le _, hD, Ex.new hD, by simpa using upd_same⟩, ?_⟩
  rintro i m H' ⟨rfl, hi, d0, d1, d2⟩
  by_cases hlt : i < l.length
  · refine .inr ⟨W.go i H' d1 (by simpa using hlt), fun H'' => i + 1 ≤ l.length ∧ Cw2 H1 (((l.take (i + 1)).filter p).map w) D H'', fun H'' ⟨h1, h2⟩ => ⟨l.length - (i + 1), by omega, rfl, h1, h2⟩, fun v H'' y => ?_⟩
    obtain ⟨eH, ev⟩ := W.yld i H' v H'' d1 y (by simpa using hlt)
    subst eH
    obtain ⟨x, hx, rfl⟩ : ∃ x, l[i]? = some x ∧ gx x = v := by
      rw [List.getElem?_map] at ev
      cases q : l[i]? with
      | none => rw [q] at ev; cases ev
      | some x => rw [q] at ev; exact ⟨x, rfl, Option.some.inj ev⟩
    have hm := List.mem_of_getElem? hx
    refine hg x hm H'' (e01.trans d1) _ fun H2 e2 => ⟨hw x hm, ?_⟩
    refine ht x hm H2 ((e01.trans d1).trans e2) _ fun H3 e3 => ?_
    have fs := filter_snoc p w hx
    cases hp : p x with
    | true =>
      rw [if_pos rfl]
      refine he x hm hp H3 (((e01.trans d1).trans e2).trans e3) _ fun H4 e4 => ⟨_, (e2.trans (e3.trans e4)) D _ d2, ?_, by omega, d0, Ex.mut (((d1.trans e2).trans e3).trans e4) d0, ?_⟩
      · have := List.length_filter_le p (l.take i)
        rw [List.length_map]
        rw [List.length_take] at this
        exact sz_lt (by omega)
      · rw [fs, hp, if_pos rfl]
        exact upd_same
    | false =>
      rw [if_neg Bool.false_ne_true]
      refine ⟨by omega, d0, (d1.trans e2).trans e3, ?_⟩
      rw [fs, hp, if_neg Bool.false_ne_true, List.append_nil]
      exact (e2.trans e3) D _ d2
  · have ei : i = l.length := by omega
    subst ei
    rw [List.take_length] at d2
    exact .inl ⟨by simpa using W.stop H' d1, q D H' (fresh_back e1 d0) (e1.trans d1) d2⟩
/-- the target a name -/
theorem gname {j : Nat} {v : V} {σ' : L2.St} {H1 : Hp} {R : L2.St → Hp → Prop} (h : ∀ H2, Ex H1 H2 → R (σ'.set j (some v)) H2) : gName j v σ' H1 R := h H1 (Ex.refl H1)
end

/-! ### loops -/
section
variable {K : PySem.W.Frag} {σ : L2.St} {H H' : Hp} {ta te : TE} {ts : TA} {P : VP} {D : Ends} {tu tz : TS} {g : TG} {wi : TI}
/-- over a new list; the word may speak of it -/
theorem s_forN {tl : TE} (h : EvP tl σ H P) (k : ∀ H0 v H1, Ex H H0 → Ex H0 H1 → P H0 v H1 → ∃ a xs, v = .ref a ∧ H1 a = some (.lst xs) ∧ ∃ Pv : Nat → L2.St → Hp → Prop, Pv 0 σ H1 ∧ (∀ i σ' H', i ≤ xs.length → Pv i σ' H' → H' a = some (.lst xs)) ∧
    (∀ i x σ' H', xs[i]? = some x → Pv i σ' H' → g x σ' H' fun σ2 H2 => tu { D with nx := Pv (i + 1), ct := Pv (i + 1), bk := D.nx } σ2 H2) ∧ (∀ σ' H', Pv xs.length σ' H' → D.nx σ' H')) : tFor (iList K tl) g tu D σ H :=
  h H (Ex.refl H) _ fun H0 v H1 e0 e1 p => by
    obtain ⟨a, xs, ev, ha, Pv, h0, hl, hs, hd⟩ := k H0 v H1 e0 e1 p
    exact ⟨a, ev, ⟨xs, SqL.of ha⟩, for_list Pv h0 (fun i σ' H' hi p => SqL.of (hl i σ' H' hi p)) hs hd⟩
theorem q_forN {tl : TE} (h : EvP tl σ H P) (k : ∀ H0 v H1, Ex H H0 → Ex H0 H1 → P H0 v H1 → ∃ a xs, v = .ref a ∧ H1 a = some (.lst xs) ∧ ∃ Pv : Nat → L2.St → Hp → Prop, Pv 0 σ H1 ∧ (∀ i σ' H', i ≤ xs.length → Pv i σ' H' → H' a = some (.lst xs)) ∧
    (∀ i x σ' H', xs[i]? = some x → Pv i σ' H' → g x σ' H' fun σ2 H2 => tu { D with nx := Pv (i + 1), ct := Pv (i + 1), bk := tz D } σ2 H2) ∧ (∀ σ' H', Pv xs.length σ' H' → tz D σ' H')) : tSeq (tFor (iList K tl) g tu) tz D σ H :=
  s_forN (D := { D with nx := tz D }) h k
/-! ### statements -/
theorem s_asgP {i : Nat} (h : EvP te σ H P) (k : ∀ H0 v H1, Ex H H0 → Ex H0 H1 → P H0 v H1 → D.nx (σ.set i (some v)) H1) : tAsg te (gName i) D σ H := h H (Ex.refl H) _ fun H0 v H1 e0 e1 p => k H0 v H1 e0 e1 p
theorem q_asgP {i : Nat} (h : EvP te σ H P) (k : ∀ H0 v H1, Ex H H0 → Ex H0 H1 → P H0 v H1 → tz D (σ.set i (some v)) H1) : tSeq (tAsg te (gName i)) tz D σ H := s_asgP (D := { D with nx := tz D }) h k
theorem s_retP (h : EvP te σ H P) (k : Gives P H D.rt) : tRet te D σ H := h H (Ex.refl H) _ k
theorem s_dropP (h : EvP te σ H P) (k : ∀ H1, Ex H H1 → D.nx σ H1) : tDrop te D σ H := h H (Ex.refl H) _ fun H0 v H1 e0 e1 _ => k H1 (e0.trans e1)
theorem q_dropP (h : EvP te σ H P) (k : ∀ H1, Ex H H1 → tz D σ H1) : tSeq (tDrop te) tz D σ H := s_dropP (D := { D with nx := tz D }) h k
end
end EP
end

section
set_option Elab.async false
set_option linter.all false
set_option maxRecDepth 100000
set_option maxHeartbeats 4000000
/-! A4: from a def's body to its promise. -/
namespace EP
open PySem PySem.Spec PyProof.Rows L2 Evl
section
variable {P : Program} {w : World} {K : PySem.W.Frag} {mg : Str → Option Value} {base : Heap}
/-- a body that keeps sp: from the entry at any place with room for k calls -/
def Body (P : Program) (w : World) (K : PySem.W.Frag) (mg : Str → Option Value) (base : Heap) (k : Nat) (qual : Str) (st : Stmt) (N : List Str) (sp : Sp) : Prop :=
  ∀ (f : Addr) (cdv : Value) (A : Around) (outer : List Env) (s : Shared) (H : Hp) (vs : List V) (Q : VK) (E : XK), Room k (A.deeper (envOfC qual (defScope st) s.heap.objs.size f cdv)) → sp vs H Q E0 →
    ∃ t, PSs (cxOf L2.CX0 P w K mg base N qual (defScope st) f cdv A outer s H E).nox (defBody st) t ∧ t { nx := fun _ H' => Q .non H', rt := Q } (start N vs) H
/-- how written arguments bind -/
def BindsN (x qual : Str) (st : Stmt) (ps : List Str) : Prop :=
  ∀ (kV doc pm : Value) (an : Option Addr) (cdv ct : Value) (us : List Value), us.length = ps.length → bindArgs (PySem.W.fnOf x qual (defArgs st) (defBody st) (defScope st) .none kV doc pm an cdv ct) ⟨us, []⟩ = pure (ps.zip us)
theorem fnR_of {x qual : Str} {st : Stmt} {f : Addr} {N ps : List Str} {k : Nat} {sp : Sp} (F : ∃ fd, L2.Fun K x qual st f fd) (S : FnScope N ps (defScope st)) (hb : BindsN x qual st ps) (len : ∀ vs H Q, sp vs H Q E0 → vs.length = ps.length)
    (hsp : ∀ vs H Q E, sp vs H Q E → sp vs H Q E0) (h : Body P w K mg base k qual st N sp) : FnR P w K mg base CX0 (k + 1) f sp := by
  obtain ⟨fd, F⟩ := F
  have G : FnOk P w K mg base L2.CX0 (k + 1) f fd ps sp := F.ok S (fun vs H Q E q => len vs H Q (hsp vs H Q E q)) fun cdv A outer s H vs Q E hr q => h f cdv A outer s H vs Q E hr (hsp vs H Q E q)
  refine (G.raw (F.binds hb) .nil).imp fun vs H Q E q => ?_
  rw [List.append_nil]
  exact q
theorem FnR.keep {x qual : Str} {st : Stmt} {f : Addr} (F : ∃ fd, L2.Fun K x qual st f fd) : PySem.W.keepIn K (.ref f) = true := by
  obtain ⟨fd, F⟩ := F
  exact F.kp
theorem cal_of {y x qual : Str} {st : Stmt} {f : Addr} {N ps : List Str} {k : Nat} {sp : Sp} (F : ∃ fd, L2.Fun K x qual st f fd) (hm : mg y = some (.ref f)) (S : FnScope N ps (defScope st)) (hb : BindsN x qual st ps) (len : ∀ vs H Q, sp vs H Q E0 → vs.length = ps.length)
    (hsp : ∀ vs H Q E, sp vs H Q E → sp vs H Q E0) (h : Body P w K mg base k qual st N sp) : Cal P w K mg base (k + 1) y sp := ⟨f, fnR_of F S hb len hsp h, hm, FnR.keep F⟩
theorem met_of {C : Addr} {m x qual : Str} {st : Stmt} {f : Addr} {N ps : List Str} {k : Nat} {sp : Sp} (F : ∃ fd, L2.Fun K x qual st f fd) (c : Cls K C) (hm : Meth K C m f) (S : FnScope N ps (defScope st)) (hb : BindsN x qual st ps) (len : ∀ vs H Q, sp vs H Q E0 → vs.length = ps.length)
    (hsp : ∀ vs H Q E, sp vs H Q E → sp vs H Q E0) (h : Body P w K mg base k qual st N sp) : Met P w K mg base (k + 1) C m sp := ⟨f, c, hm, fnR_of F S hb len hsp h⟩
theorem mak_of {C : Addr} {y x qual : Str} {st : Stmt} {f : Addr} {N ps : List Str} {k : Nat} {sp : Sp} (F : ∃ fd, L2.Fun K x qual st f fd) (hm : mg y = some (.ref C)) (mk : Mk K C f) (S : FnScope N ps (defScope st)) (hb : BindsN x qual st ps) (len : ∀ vs H Q, sp vs H Q E0 → vs.length = ps.length)
    (hsp : ∀ vs H Q E, sp vs H Q E → sp vs H Q E0) (h : Body P w K mg base k qual st N sp) : Mak P w K mg base (k + 1) y C sp := ⟨f, mk, fnR_of F S hb len hsp h, hm⟩
theorem cme_of {C p g : Addr} {m x qual : Str} {st : Stmt} {mc : Value} {N ps : List Str} {k : Nat} {sp : Sp} (F : ∃ fd, L2.Fun K x qual st g fd) (r : ClX.CRead K C mc) (c : ClX.CMet K C mc m p g) (S : FnScope N ps (defScope st)) (hb : BindsN x qual st ps) (len : ∀ vs H Q, sp vs H Q E0 → vs.length = ps.length)
    (hsp : ∀ vs H Q E, sp vs H Q E → sp vs H Q E0) (h : Body P w K mg base k qual st N sp) : CMe P w K mg base (k + 1) C m sp := ⟨p, g, mc, r, c, fnR_of F S hb len hsp h⟩
theorem gint {x : Str} {n : Int} (h : ∃ t, mg x = some (.int n t)) : ∃ u, mg x = some u ∧ RelV (V.int n) u := by
  obtain ⟨t, e⟩ := h
  exact ⟨_, e, t, rfl⟩
theorem Cal.mono {j k : Nat} {x : Str} {sp : Sp} (c : Cal P w K mg base j x sp) (h : j ≤ k) : Cal P w K mg base k x sp := by
  obtain ⟨f, F, a, b⟩ := c.ex
  exact ⟨f, F.mono h, a, b⟩
end
section
variable {X : Cx} {x : Str} {pos : Pos}
/-- a module's int, a module's class, as a value -/
theorem pe_gi {n : Int} (hg : Gl X x) (h : ∃ t, X.mg x = some (.int n t)) (hd : (x == ("__debug__" : Str)) = false := by decide) : PE X (.Name x pos) (tC (.int n)) := C8.pe_gc hg (gint h) hd
theorem pe_gr {a : Addr} (hg : Gl X x) (h : X.mg x = some (.ref a)) (hd : (x == ("__debug__" : Str)) = false := by decide) : PE X (.Name x pos) (tC (.ref a)) := C8.pe_gc hg ⟨_, h, rfl⟩ hd
theorem pe_gt {n : String} (hg : Gl X x) (h : X.mg x = none) (hv : bootBuiltins x = some (.type n)) (hn : x ≠ "__name__" := by decide) (hd : (x == ("__debug__" : Str)) = false := by decide) : PE X (.Name x pos) (tC (.ty n)) := pe_bltn hg h hv rfl hn hd
end
/-! ### promises, made of: what stands for the arguments, what must hold ahead, what comes out -/
def mkSp {α : Type} (args : α → List V) (pre : α → Hp → Prop) (post : α → VP) : Sp := fun vs H Q _ => ∃ a : α, vs = args a ∧ pre a H ∧ Gives (post a) H Q
/-- of an __init__: H1 the heap ahead of the new instance -/
def mkSpI {α : Type} (C : Addr) (args : α → List V) (pre : α → Hp → Prop) (post : α → VP) : Sp := fun vs H Q _ => ∃ (x dx : Addr) (H1 : Hp) (a : α), vs = .ref x :: args a ∧ H1 x = none ∧ H1 dx = none ∧ dx ≠ x ∧
  H = upd (upd H1 dx (.own x)) x (.ins C dx []) ∧ pre a H1 ∧ ∀ H2, Ex H1 H2 → post a H1 (.ref x) H2 → Q .non H2
section
variable {α : Type} {args : α → List V} {pre : α → Hp → Prop} {post : α → VP} {a : α} {H : Hp} {n : Nat}
theorem sp_mk (h : ∀ H1, Ex H H1 → pre a H1) : SpP (mkSp args pre post) (args a) H (post a) := fun H1 e Q q => ⟨a, rfl, h H1 e, q⟩
theorem sp_mk' {vs : List V} (a : α) (e : vs = args a) (h : ∀ H1, Ex H H1 → pre a H1) : SpP (mkSp args pre post) vs H (post a) := fun H1 e1 Q q => ⟨a, e, h H1 e1, q⟩
theorem mk_mk {C : Addr} {vs : List V} (a : α) (e : vs = args a) (h : ∀ H1, Ex H H1 → pre a H1) : MkP (mkSpI C args pre post) C vs H (post a) := fun H1 e1 x dx hx hd ne Q q =>
  ⟨x, dx, H1, a, by rw [e], hx, hd, ne, rfl, h H1 e1, fun H2 e2 p => q H2 e2 p⟩
theorem len_sp (h : ∀ a, (args a).length = n) : ∀ vs H Q, mkSp args pre post vs H Q E0 → vs.length = n := fun vs H Q ⟨a, e, _⟩ => by rw [e]; exact h a
theorem len_spI {C : Addr} (h : ∀ a, (args a).length = n) : ∀ vs H Q, mkSpI C args pre post vs H Q E0 → vs.length = n + 1 := fun vs H Q ⟨_, _, _, a, e, _⟩ => by rw [e, List.length_cons, h a]
theorem any_sp : ∀ vs H Q E, mkSp args pre post vs H Q E → mkSp args pre post vs H Q E0 := fun _ _ _ _ h => h
theorem any_spI {C : Addr} : ∀ vs H Q E, mkSpI C args pre post vs H Q E → mkSpI C args pre post vs H Q E0 := fun _ _ _ _ h => h
end
/-- Python's abs and % on naturals -/
theorem abs_nat (i : Int) : (if i < 0 then -i else i) = (i.natAbs : Int) := by split <;> omega
theorem emod_nat (a b : Nat) : (a : Int) % (b : Int) = ((a % b : Nat) : Int) := (Int.natCast_emod a b).symm
theorem ediv_nat (a b : Nat) : (a : Int) / (b : Int) = ((a / b : Nat) : Int) := (Int.natCast_ediv a b).symm
theorem mul_nat (a b : Nat) : (a : Int) * (b : Int) = ((a * b : Nat) : Int) := (Int.natCast_mul a b).symm
theorem add_nat (a b : Nat) : (a : Int) + (b : Int) = ((a + b : Nat) : Int) := (Int.natCast_add a b).symm
theorem eq_nat (a b : Nat) : ((a : Int) = (b : Int)) = (a = b) := by rw [eq_iff_iff]; exact Int.ofNat_inj
end EP
end

section
set_option Elab.async false
set_option linter.all false
set_option maxRecDepth 100000
set_option maxHeartbeats 4000000
/-! A5: readings. -/
namespace EP
open PySem PySem.Spec PyProof.Rows L2 Evl
section
variable {K : PySem.W.Frag} {σ : L2.St} {H H' : Hp} {ta tb te tx : TE} {t u : TT} {x y z v : V} {P P' : VP} {ts : TA} {vs : List V} {sp : Sp} {D : Ends} {tu tw tz : TS}
theorem hu_of {k : Nat} {A : Around} (r : Room k A) : A.units + 1 < cLine := by have := r.units; omega
theorem ev_eqI {n m : Int} (h : Ev te σ H (.int n)) (e : n = m) : Ev te σ H (.int m) := e ▸ h
theorem ev_eqB {a b : Bool} (h : Ev te σ H (.bl a)) (e : a = b) : Ev te σ H (.bl b) := e ▸ h
theorem rc_abs {i : Int} : RC rAbs [.int i] H (.int (i.natAbs : Nat)) := fun H1 _ Q q => ⟨i, rfl, by rw [abs_nat]; exact q H1 (Ex.refl H1)⟩
theorem rc_int {i : Int} : RC rInt1 [.int i] H (.int i) := fun H1 _ Q q => .inl ⟨i, rfl, q H1 (Ex.refl H1)⟩
theorem rc_intB {b : Bool} : RC rInt1 [.bl b] H (.int (if b then 1 else 0)) := fun H1 _ Q q => .inr ⟨b, rfl, q H1 (Ex.refl H1)⟩
theorem rc_len {p : Addr} {xs : List V} (h : SqL K H p xs) : RC (rLenS K) [.ref p] H (.int xs.length) := fun H1 e Q q => ⟨p, xs, rfl, .inl (ex_l e h), q H1 (Ex.refl H1)⟩
theorem rc_lenU {p : Addr} {xs : List V} (h : SqT K H p xs) : RC (rLenS K) [.ref p] H (.int xs.length) := fun H1 e Q q => ⟨p, xs, rfl, .inr (ex_t e h), q H1 (Ex.refl H1)⟩
theorem rc_lenT {s : Str} (h : s.length ≤ 100000) : RC rLenT [.str s] H (.int s.length) := fun H1 e Q q => ⟨s, rfl, sz_of h, q H1 (Ex.refl H1)⟩
theorem rc_str {i : Int} (h : i.natAbs < 2 ^ 1900) : RC rStrI [.int i] H (.str (toString i)) := fun H1 e Q q => ⟨i, rfl, by
  by_cases h0 : i.natAbs = 0
  · rw [h0]; decide
  · have := (Nat.log2_lt h0).mpr h
    omega, q H1 (Ex.refl H1)⟩
theorem rc_intT {a : Str} {n : Int} (h : PySem.intText? a = some n) (hl : a.length ≤ 640) : RC rIntT [.str a] H (.int n) := fun H1 e Q q => ⟨a, n, rfl, h, hl, q H1 (Ex.refl H1)⟩
theorem rv_is0 : RV rIs0 x .non H (.bl (decide (x = .non))) := fun H1 _ _ q => ⟨rfl, q H1 (Ex.refl H1)⟩
theorem rv_isnot0 : RV rIsNot0 x .non H (.bl (!decide (x = .non))) := fun H1 _ _ q => ⟨rfl, q H1 (Ex.refl H1)⟩
theorem rv_addS {a b : Str} (h : a.length + b.length ≤ 100000) : RV rAddS (.str a) (.str b) H (.str (a ++ b)) := fun H1 _ _ q => ⟨a, b, rfl, rfl, sz_of h, q H1 (Ex.refl H1)⟩
theorem cdiv {i : Int} {j : Nat} (h0 : 0 < j) (h : j < 2 ^ 29) : CDiv i j := ⟨by omega, by omega⟩
theorem cmod {j : Nat} (h0 : 0 < j) : (0 : Int) < (j : Int) := by omega
/-- the same rules with K spelt, for a comprehension's block -/
theorem op_inCk {X : Cx} (K : PySem.W.Frag) (h : X.K = K) (hu : X.A.units + 1 < cLine) : OpR X (compareOp .In) (rInC K false) := h ▸ op_inC hu
theorem op_notInCk {X : Cx} (K : PySem.W.Frag) (h : X.K = K) (hu : X.A.units + 1 < cLine) : OpR X (compareOp .NotIn) (rInC K true) := h ▸ op_notInC hu
theorem op_in_seqk {X : Cx} (K : PySem.W.Frag) (h : X.K = K) : OpR X (compareOp .In) (rIn K false) := h ▸ op_in_seq
theorem op_notIn_seqk {X : Cx} (K : PySem.W.Frag) (h : X.K = K) : OpR X (compareOp .NotIn) (rIn K true) := h ▸ op_notIn_seq
theorem pe_fldk {X : Cx} (K : PySem.W.Frag) (h : X.K = K) {e : Expr} {ta : TE} {f : Str} {pos : Pos} (he : PE X e ta) (hb : attributeBase e f X.env (eval e X.env) = eval e X.env) : PE X (.Attribute e f pos) (tFld K ta f) := h ▸ pe_fld he hb
theorem ix_listk {X : Cx} (K : PySem.W.Frag) (h : X.K = K) : IxR X (rIxL K) := h ▸ ix_list
theorem ix_tupk {X : Cx} (K : PySem.W.Frag) (h : X.K = K) : IxR X (rIxT K) := h ▸ ix_tup
/-- products and quotients of small numbers -/
theorem cm1 {i j : Int} (h : -(2 ^ 64) < i ∧ i < 2 ^ 64) : CMul i j := .inl h
theorem cm2 {i j : Int} (h : -(2 ^ 64) < j ∧ j < 2 ^ 64) : CMul i j := .inr h
theorem mul_lt {a b c d : Nat} (h1 : a < c) (h2 : b < d) : a * b < c * d := by
  have h3 : a * b ≤ a * d := Nat.mul_le_mul_left a (Nat.le_of_lt h2)
  have h4 : a * d < c * d := Nat.mul_lt_mul_of_pos_right h1 (by omega)
  omega
/-- a value that is told and is put -/
theorem q_asgI {i : Nat} {n m : Int} (h : Ev te σ H (.int n)) (e : n = m) (k : ∀ H1, Ex H H1 → tz D (σ.set i (some (.int m))) H1) : tSeq (tAsg te (gName i)) tz D σ H := q_asg (ev_eqI h e) k
theorem s_asgI {i : Nat} {n m : Int} (h : Ev te σ H (.int n)) (e : n = m) (k : ∀ H1, Ex H H1 → D.nx (σ.set i (some (.int m))) H1) : tAsg te (gName i) D σ H := s_asg (ev_eqI h e) k
theorem s_retI {n m : Int} (h : Ev te σ H (.int n)) (e : n = m) (k : ∀ H1, Ex H H1 → D.rt (.int m) H1) : tRet te D σ H := s_ret (ev_eqI h e) k
/-- a, b = e, f -/
theorem ea2 {a b : TE} (h1 : Ev a σ H x) (h2 : Ev b σ H y) : EvA (tCons a (tCons b tNil)) σ H [x, y] := ea_cons h1 (ea_cons h2 ea_nil)
/-- the value wanted, as it was found -/
theorem gives_ve {v w : V} {H : Hp} {Q : VK} (k : Gives (isV w) H Q) {H' : Hp} (e : Ex H H') (h : v = w) : Q v H' := h ▸ gives_v k e
theorem eu2 {a b : TE} (h1 : Ev a σ H x) (h2 : Ev b σ H y) : EvU (tTup (tCons a (tCons b tNil))) σ H [x, y] := eu_tup (ea2 h1 h2) (by simp)
end
end EP
end

section
set_option Elab.async false
set_option linter.all false
set_option maxRecDepth 100000
set_option maxHeartbeats 4000000
/-! A6: lists by what is known of their elements; comprehensions over them; sorted, set, list, tuple, all, any; dicts of numbers. -/
namespace EP
open PySem PySem.Spec PyProof.Rows L2 Evl
/-- tuples and instances stay -/
def fixO : HO → Bool
  | .tup _ => true
  | .ins _ _ _ => true
  | _ => false
def ExF (H H' : Hp) : Prop := ∀ a o, H a = some o → fixO o = true → H' a = some o
theorem Ex.toF {H H' : Hp} (e : Ex H H') : ExF H H' := fun a o h _ => e a o h
theorem ExF.trans {H H1 H2 : Hp} (a : ExF H H1) (b : ExF H1 H2) : ExF H H2 := fun x o h f => b x o (a x o h f) f
theorem ExF.put {H : Hp} {q : Addr} {o u : HO} (h : H q = some u) (hf : fixO u = false) : ExF H (upd H q o) := fun a w ha f => by
  have : a ≠ q := fun e => by
    rw [e, h] at ha
    cases ha
    rw [hf] at f
    cases f
  rw [upd_ne this]
  exact ha
def Els {α : Type} (ok : V → α → Hp → Prop) (xs : List V) (l : List α) (H : Hp) : Prop := xs.length = l.length ∧ ∀ (i : Nat) (x : α), l[i]? = some x → ∃ v : V, xs[i]? = some v ∧ ok v x H
def Mono {α : Type} (ok : V → α → Hp → Prop) : Prop := ∀ v x H H', ExF H H' → ok v x H → ok v x H'
def isLs {α : Type} (ok : V → α → Hp → Prop) (l : List α) : VP := fun H0 x H => ∃ a xs, x = .ref a ∧ H0 a = none ∧ H a = some (.lst xs) ∧ Els ok xs l H
def okv {α : Type} (w : α → V) : V → α → Hp → Prop := fun v x _ => v = w x
theorem mono_okv {α : Type} {w : α → V} : Mono (okv w) := fun _ _ _ _ _ h => h
section
variable {α β : Type} {ok : V → α → Hp → Prop} {xs : List V} {l : List α} {H H' : Hp}
theorem Els.ex (m : Mono ok) (e : ExF H H') (h : Els ok xs l H) : Els ok xs l H' := ⟨h.1, fun i x hi => by
  obtain ⟨v, h1, h2⟩ := h.2 i x hi
  exact ⟨v, h1, m _ _ _ _ e h2⟩⟩
theorem Els.nil : Els ok [] [] H := ⟨rfl, fun i x h => by simp at h⟩
theorem Els.snoc {v : V} {x : α} (h : Els ok xs l H) (hv : ok v x H) : Els ok (xs ++ [v]) (l ++ [x]) H := by
  refine ⟨by simp [h.1], fun i y hi => ?_⟩
  rw [List.getElem?_append] at hi ⊢
  rw [h.1]
  by_cases hl : i < l.length
  · rw [if_pos hl] at hi ⊢
    exact h.2 i y hi
  · rw [if_neg hl] at hi ⊢
    cases hj : i - l.length with
    | zero =>
      rw [hj] at hi
      have : x = y := by simpa using hi
      subst this
      exact ⟨v, rfl, hv⟩
    | succ n => rw [hj] at hi; simp at hi
theorem Els.cons {v : V} {x : α} (h : Els ok xs l H) (hv : ok v x H) : Els ok (v :: xs) (x :: l) H := by
  refine ⟨by simp [h.1], fun i y hi => ?_⟩
  cases i with
  | zero =>
    have : x = y := by simpa using hi
    subst this
    exact ⟨v, rfl, hv⟩
  | succ i => exact h.2 i y hi
theorem els_okv {w : α → V} : Els (okv w) xs l H ↔ xs = l.map w := by
  constructor
  · intro h
    apply List.ext_getElem?
    intro i
    rw [List.getElem?_map]
    cases hi : l[i]? with
    | none =>
      rw [List.getElem?_eq_none_iff] at hi
      rw [List.getElem?_eq_none_iff.mpr (by rw [h.1]; exact hi)]
      rfl
    | some x =>
      obtain ⟨v, h1, h2⟩ := h.2 i x hi
      rw [h1, show v = w x from h2]
      rfl
  · rintro rfl
    refine ⟨List.length_map .., fun i x hi => ⟨w x, ?_, rfl⟩⟩
    rw [List.getElem?_map, hi]
    rfl
end
theorem sq_zs {K : PySem.W.Frag} {H : Hp} {a : Addr} {l : List Nat} (h : SqL K H a (nv l)) : SqL K H a (List.map V.int (zs l)) := by
  rw [show List.map V.int (zs l) = nv l from iv_zs l]
  exact h
/-! ### what is walked, by elements -/
def EvIs {α : Type} (wi : TI) (σ : L2.St) (H : Hp) (ok : V → α → Hp → Prop) (l : List α) : Prop := ∀ H1, Ex H H1 → ∀ R : It → Hp → Prop, (∀ J H2 xs, Ex H1 H2 → Walked J H2 xs → Els ok xs l H2 → R J H2) → wi σ H1 R
section
variable {α β : Type} {K : PySem.W.Frag} {σ : L2.St} {H H' : Hp} {ta te tk tv : TE} {t : TT} {wi : TI} {g : TG} {vs : List Nat} {ok : V → α → Hp → Prop} {ok' : V → α → Hp → Prop} {l : List α} {w : World}
theorem eis_v {gx : α → V} (h : EvI wi σ H (l.map gx)) : EvIs wi σ H (okv gx) l := fun H1 e R q => h H1 e R fun J H2 e2 W => q J H2 _ e2 W (els_okv.mpr rfl)
theorem eis_lp (h : EvP te σ H (isLs ok l)) : EvIs (iList K te) σ H ok l := fun H1 e R q =>
  h H1 e _ fun H0 v H2 e0 e2 ⟨a, xs, ev, _, ha, el⟩ => by
    subst ev
    exact ⟨a, rfl, ⟨xs, SqL.of ha⟩, q _ H2 xs (e0.trans e2) (walked_l (K := K) (SqL.of ha)) el⟩
theorem eis_l {a : Addr} {xs : List V} (m : Mono ok) (hx : Ev te σ H (.ref a)) (h : SqL K H a xs) (el : Els ok xs l H) : EvIs (iList K te) σ H ok l := fun H1 e R q =>
  hx H1 e _ fun H2 e2 => ⟨a, rfl, ⟨xs, ex_l (e.trans e2) h⟩, q _ H2 xs e2 (walked_l (ex_l (e.trans e2) h)) (el.ex m (Ex.toF (e.trans e2)))⟩
theorem upto0 (n : Nat) : upto 0 n = nv (List.range n) := by
  unfold upto nv
  refine List.map_congr_left fun i _ => ?_
  rw [Int.zero_add] <;> rfl
theorem ei_n {ts : TA} {n : Nat} (h : EvA ts σ H [.int (n : Nat)]) (hn : n < 2 ^ 60) : EvI (iRng1 ts) σ H (nv (List.range n)) := by
  have := ei_r1 h (by omega) (by omega)
  rw [Int.toNat_natCast, upto0] at this
  exact this
theorem eis_n {ts : TA} {n : Nat} (h : EvA ts σ H [.int (n : Nat)]) (hn : n < 2 ^ 60) : EvIs (iRng1 ts) σ H (okv fun n : Nat => V.int n) (List.range n) := eis_v (gx := fun n : Nat => V.int n) (ei_n h hn)
theorem et_yes : EvT tYes σ H true := fun H1 _ Q q => q H1 (Ex.refl H1)
/-- a comprehension -/
theorem el_lcP (p : α → Bool) (sx : V → α → L2.St) (hI : EvIs wi σ H ok l) (m : Mono ok) (m' : Mono ok') (hz : l.length ≤ 40000)
    (hg : ∀ x ∈ l, ∀ v H1, Ex H H1 → ok v x H1 → ∀ R : L2.St → Hp → Prop, (∀ H2, Ex H1 H2 → R (sx v x) H2) → g v (wipe σ vs) H1 R) (hw : ∀ x ∈ l, ∀ v H1, ok v x H1 → wipe (sx v x) vs = wipe σ vs)
    (ht : ∀ x ∈ l, ∀ v H1, Ex H H1 → ok v x H1 → EvT t (sx v x) H1 (p x)) (he : ∀ x ∈ l, p x = true → ∀ v H1, Ex H H1 → ok v x H1 → EvP te (sx v x) H1 fun _ u H' => ok' u x H') : EvP (tLc wi g t te vs) σ H (isLs ok' (l.filter p)) := fun H0 e Q q => hI H0 e _ fun J H1 xs e1 W el D hD => by
  have e01 := e.trans e1
  refine ⟨fun i m H' => m = l.length - i ∧ i ≤ l.length ∧ H1 D = none ∧ Ex H1 H' ∧ ∃ acc, H' D = some (.lst acc) ∧ Els ok' acc ((l.take i).filter p) H', ⟨l.length, by simp, Nat.zero_le _, hD, Ex.new hD, [], by simpa using upd_same, by simpa using Els.nil⟩, ?_⟩
  rintro i n H' ⟨rfl, hi, d0, d1, acc, d2, d3⟩
  by_cases hlt : i < l.length
  · refine .inr ⟨W.go i H' d1 (by rw [el.1]; exact hlt), fun H'' => i + 1 ≤ l.length ∧ H1 D = none ∧ Ex H1 H'' ∧ ∃ acc, H'' D = some (.lst acc) ∧ Els ok' acc ((l.take (i + 1)).filter p) H'', fun H'' ⟨h1, h2⟩ => ⟨l.length - (i + 1), by omega, rfl, h1, h2⟩, fun v H'' y => ?_⟩
    obtain ⟨eH, ev⟩ := W.yld i H' v H'' d1 y (by rw [el.1]; exact hlt)
    subst eH
    have hx : l[i]? = some l[i] := List.getElem?_eq_getElem hlt
    generalize l[i] = x at hx
    obtain ⟨v', hv1, hv2⟩ := el.2 i x hx
    rw [ev] at hv1
    cases hv1
    have hm := List.mem_of_getElem? hx
    have hok := m _ _ _ _ (Ex.toF d1) hv2
    refine hg x hm v H'' (e01.trans d1) hok _ fun H2 e2 => ⟨hw x hm v H'' hok, ?_⟩
    have hok2 := m _ _ _ _ (Ex.toF e2) hok
    refine ht x hm v H2 ((e01.trans d1).trans e2) hok2 _ (Ex.refl H2) _ fun H3 e3 => ?_
    have hok3 := m _ _ _ _ (Ex.toF e3) hok2
    have ft : (l.take (i + 1)).filter p = (l.take i).filter p ++ if p x then [x] else [] := by
      rw [take_snoc hx, List.filter_append, List.filter_cons]
      split <;> rfl
    rw [ft]
    cases hp : p x with
    | true =>
      rw [if_pos rfl, if_pos rfl]
      refine he x hm hp v H3 (((e01.trans d1).trans e2).trans e3) hok3 H3 (Ex.refl H3) _ fun H4 u H5 e4 e5 pu => ?_
      have d5 : H5 D = some (.lst acc) := (e2.trans (e3.trans (e4.trans e5))) D _ d2
      have ef : ExF H5 (upd H5 D (.lst (acc ++ [u]))) := ExF.put d5 rfl
      refine ⟨acc, d5, ?_, by omega, d0, Ex.mut (((d1.trans e2).trans e3).trans (e4.trans e5)) d0, acc ++ [u], upd_same, ((d3.ex m' (Ex.toF (e2.trans (e3.trans (e4.trans e5))))).ex m' ef).snoc (m' _ _ _ _ ef pu)⟩
      have := List.length_filter_le p (l.take i)
      rw [d3.1]
      rw [List.length_take] at this
      exact sz_lt (by omega)
    | false =>
      rw [if_neg Bool.false_ne_true, if_neg Bool.false_ne_true, List.append_nil]
      exact ⟨by omega, d0, (d1.trans e2).trans e3, acc, (e2.trans e3) D _ d2, d3.ex m' (Ex.toF (e2.trans e3))⟩
  · have ei : i = l.length := by omega
    subst ei
    rw [List.take_length] at d3
    exact .inl ⟨by rw [← el.1]; exact W.stop H' (d1), q H1 (.ref D) H' e1 d1 ⟨D, acc, rfl, d0, d2, d3⟩⟩
/-- its values known -/
theorem isLs_v {w : α → V} (h : EvP te σ H (isLs (okv w) l)) : EvP te σ H (isL (l.map w)) := h.imp fun H0 v H1 _ _ ⟨a, xs, ev, h0, ha, el⟩ => ⟨a, ev, h0, by rw [ha, els_okv.mp el]⟩
theorem el_lcV {w : α → V} (p : α → Bool) (sx : V → α → L2.St) (hI : EvIs wi σ H ok l) (m : Mono ok) (hz : l.length ≤ 40000)
    (hg : ∀ x ∈ l, ∀ v H1, Ex H H1 → ok v x H1 → ∀ R : L2.St → Hp → Prop, (∀ H2, Ex H1 H2 → R (sx v x) H2) → g v (wipe σ vs) H1 R) (hw : ∀ x ∈ l, ∀ v H1, ok v x H1 → wipe (sx v x) vs = wipe σ vs)
    (ht : ∀ x ∈ l, ∀ v H1, Ex H H1 → ok v x H1 → EvT t (sx v x) H1 (p x)) (he : ∀ x ∈ l, p x = true → ∀ v H1, Ex H H1 → ok v x H1 → Ev te (sx v x) H1 (w x)) : EvL (tLc wi g t te vs) σ H ((l.filter p).map w) :=
  p_el (isLs_v (el_lcP (ok' := okv w) p sx hI m mono_okv hz hg hw ht fun x hm hp v H1 e h => (ev_p (he x hm hp v H1 e h)).imp fun _ _ _ _ _ q => q))
theorem el_lc1 {w : α → V} (sx : V → α → L2.St) (hI : EvIs wi σ H ok l) (m : Mono ok) (hz : l.length ≤ 40000)
    (hg : ∀ x ∈ l, ∀ v H1, Ex H H1 → ok v x H1 → ∀ R : L2.St → Hp → Prop, (∀ H2, Ex H1 H2 → R (sx v x) H2) → g v (wipe σ vs) H1 R) (hw : ∀ x ∈ l, ∀ v H1, ok v x H1 → wipe (sx v x) vs = wipe σ vs)
    (he : ∀ x ∈ l, ∀ v H1, Ex H H1 → ok v x H1 → Ev te (sx v x) H1 (w x)) : EvL (tLc wi g tYes te vs) σ H (l.map w) := by
  have := el_lcV (t := tYes) (w := w) (fun _ => true) sx hI m hz hg hw (fun _ _ _ _ _ _ => et_yes) (fun x hx _ => he x hx)
  rw [List.filter_eq_self.mpr fun _ _ => rfl] at this
  exact this
/-- {n: True for n in l} -/
theorem putK_new {κ : Type} [DecidableEq κ] {kvs : List (κ × V)} {k : κ} {v : V} (h : ∀ p ∈ kvs, p.1 ≠ k) : putK kvs k v = kvs ++ [(k, v)] := by
  unfold putK
  rw [if_neg]
  intro q
  obtain ⟨p, hp, e⟩ := List.any_eq_true.mp q
  exact h p hp (of_decide_eq_true e)
theorem dk_put {l : List Nat} {n : Nat} (h : n ∉ l) : putK (dk l) (Sum.inl (Int.ofNat n)) (.bl true) = dk (l ++ [n]) := by
  rw [putK_new]
  · simp [dk]
  · intro p hp e
    obtain ⟨m, hm, rfl⟩ := List.mem_map.mp hp
    have : m = n := by
      have e : (Sum.inl (Int.ofNat m) : Key) = Sum.inl (Int.ofNat n) := e
      injection e with e
      injection e
    exact h (this ▸ hm)
theorem ed_dc {l : List Nat} (sx : Nat → L2.St) (hI : EvI wi σ H (nv l)) (hn : l.Nodup) (hz : l.length ≤ 40000)
    (hg : ∀ x ∈ l, ∀ H1, Ex H H1 → ∀ R : L2.St → Hp → Prop, (∀ H2, Ex H1 H2 → R (sx x) H2) → g (.int x) (wipe σ vs) H1 R) (hw : ∀ x ∈ l, wipe (sx x) vs = wipe σ vs)
    (hk : ∀ x ∈ l, Ev tk (sx x) H (.int x)) (hv : ∀ x ∈ l, Ev tv (sx x) H (.bl true)) : EvP (tDc wi g tYes tk tv vs) σ H (isD l) := fun H0 e Q q => hI H0 e _ fun J H1 e1 W D hD => by
  have e01 := e.trans e1
  have nl : (nv l).length = l.length := nv_len l
  refine ⟨fun i m H' => m = l.length - i ∧ i ≤ l.length ∧ H1 D = none ∧ Ex H1 H' ∧ H' D = some (.dK (dk (l.take i))), ⟨l.length, by simp, Nat.zero_le _, hD, Ex.new hD, upd_same⟩, ?_⟩
  rintro i n H' ⟨rfl, hi, d0, d1, d2⟩
  by_cases hlt : i < l.length
  · refine .inr ⟨W.go i H' d1 (by rw [nl]; exact hlt), fun H'' => i + 1 ≤ l.length ∧ H1 D = none ∧ Ex H1 H'' ∧ H'' D = some (.dK (dk (l.take (i + 1)))), fun H'' ⟨h1, h2⟩ => ⟨l.length - (i + 1), by omega, rfl, h1, h2⟩, fun v H'' y => ?_⟩
    obtain ⟨eH, ev⟩ := W.yld i H' v H'' d1 y (by rw [nl]; exact hlt)
    subst eH
    have hx : l[i]? = some l[i] := List.getElem?_eq_getElem hlt
    have hni : l[i] ∉ l.take i := fun hm => by
      rw [List.mem_take_iff_getElem] at hm
      obtain ⟨j, hj, he⟩ := hm
      have := (List.getElem_inj hn).mp he
      omega
    generalize l[i] = x at hx hni
    rw [List.getElem?_map, hx] at ev
    cases ev
    have hm := List.mem_of_getElem? hx
    refine hg x hm H'' (e01.trans d1) _ fun H2 e2 => ⟨hw x hm, ?_⟩
    unfold tYes
    simp only [if_true]
    refine hk x hm H2 ((e01.trans d1).trans e2) _ fun H3 e3 => hv x hm H3 (((e01.trans d1).trans e2).trans e3) _ fun H4 e4 => ⟨dk (l.take i), Sum.inl (Int.ofNat x), rfl, (e2.trans (e3.trans e4)) D _ d2, ?_, by omega, d0, Ex.mut (((d1.trans e2).trans e3).trans e4) d0, ?_⟩
    · unfold dk
      rw [List.length_map, List.length_take]
      exact sz_lt (by omega)
    · rw [dk_put hni, take_snoc hx]
      exact upd_same
  · have ei : i = l.length := by omega
    subst ei
    rw [List.take_length] at d2
    exact .inl ⟨by rw [← nl]; exact W.stop H' d1, q H1 (.ref D) H' e1 d1 ⟨D, rfl, d0, d2⟩⟩
/-! ### built-ins over lists -/
theorem el_listD {l : List Nat} {a : Addr} (h : Ev te σ H (.ref a)) (ha : H a = some (.dK (dk l))) : EvL (tCB rListD (tCons te tNil)) σ H (nv l) := fun H1 e Q q =>
  h H1 e _ fun H2 e2 => ⟨a, dk l, rfl, (e.trans e2) _ _ ha, fun p hp => q p _ (fresh_back e2 hp) (e2.trans (Ex.new hp)) (by
    rw [upd_same]
    simp [EP.dk, nv, List.map_map, Function.comp_def, kV])⟩
theorem el_listT {a : Addr} {xs : List V} (h : Ev te σ H (.ref a)) (ha : SqT K H a xs) : EvL (tCB (rListS K) (tCons te tNil)) σ H xs := fun H1 e Q q =>
  h H1 e _ fun H2 e2 => ⟨a, xs, rfl, .inr (ex_t (e.trans e2) ha), fun p hp => q p _ (fresh_back e2 hp) (e2.trans (Ex.new hp)) upd_same⟩
theorem eu_tuple {xs : List V} (h : EvL te σ H xs) : EvU (tCB (rTupS K) (tCons te tNil)) σ H xs := fun H1 e Q q =>
  h H1 e _ fun a H2 a0 e2 ha => ⟨a, xs, rfl, .inl ⟨SqL.of ha, fun p hp => q p _ (fresh_back e2 hp) (e2.trans (Ex.new hp)) upd_same⟩⟩
theorem ev_all {bs : List Bool} (h : EvL te σ H (bs.map V.bl)) : Ev (tCB (rAll K) (tCons te tNil)) σ H (.bl (bs.all id)) := fun H1 e Q q =>
  h H1 e _ fun a H2 a0 e2 ha => ⟨a, bs, rfl, SqL.of ha, q _ e2⟩
theorem ev_any {bs : List Bool} (h : EvL te σ H (bs.map V.bl)) : Ev (tCB (rAny K) (tCons te tNil)) σ H (.bl (bs.any id)) := fun H1 e Q q =>
  h H1 e _ fun a H2 a0 e2 ha => ⟨a, bs, rfl, SqL.of ha, q _ e2⟩
theorem el_cat {tb : TE} {xs ys : List V} (h1 : EvL ta σ H xs) (h2 : EvL tb σ H ys) (hz : xs.length + ys.length ≤ 100000) : EvL (tOp rCat ta tb) σ H (xs ++ ys) := fun H1 e Q q =>
  h1 H1 e _ fun a H2 a0 e2 ha => h2 H2 (e.trans e2) _ fun b H3 b0 e3 hb => ⟨a, b, xs, ys, rfl, rfl, e3 _ _ ha, hb, sz_of hz, fun p hp => q p _ (fresh_back (e2.trans e3) hp) ((e2.trans e3).trans (Ex.new hp)) upd_same⟩
theorem el_of {a : Addr} {xs : List V} {tb : TE} {ys : List V} (h : Ev ta σ H (.ref a)) (ha : H a = some (.lst xs)) (h2 : EvL tb σ H ys) (hz : xs.length + ys.length ≤ 100000) : EvL (tOp rCat ta tb) σ H (xs ++ ys) := fun H1 e Q q =>
  h H1 e _ fun H2 e2 => h2 H2 (e.trans e2) _ fun b H3 b0 e3 hb => ⟨a, b, xs, ys, rfl, rfl, ((e.trans e2).trans e3) _ _ ha, hb, sz_of hz, fun p hp => q p _ (fresh_back (e2.trans e3) hp) ((e2.trans e3).trans (Ex.new hp)) upd_same⟩
/-! ### set, sorted -/
def isSet (w : World) (l : List Nat) : VP := fun H0 x H1 => ∃ a c, x = .ref a ∧ H0 a = none ∧ H1 a = some (SetO w a (fun j => decide (j ∈ zs l)) c) ∧ c ≤ l.length
theorem es_set {l : List Nat} (h : EvL te σ H (nv l)) (hz : l.length ≤ 1000) : EvP (tCB (rSetL K w) (tCons te tNil)) σ H (isSet w l) := fun H1 e Q q =>
  h H1 e _ fun a H2 a0 e2 ha => ⟨a, zs l, rfl, sq_zs (SqL.of ha), by simp [zs, scanBound]; omega, fun p c hp hc => q H2 _ _ e2 (Ex.new hp) ⟨p, c, rfl, hp, upd_same, by simpa [zs] using hc⟩⟩
theorem es_setA {l : List Nat} {a : Addr} (h : Ev te σ H (.ref a)) (ha : H a = some (.lst (nv l))) (hz : l.length ≤ 1000) : EvP (tCB (rSetL K w) (tCons te tNil)) σ H (isSet w l) := fun H1 e Q q =>
  h H1 e _ fun H2 e2 => ⟨a, zs l, rfl, sq_zs (SqL.of ((e.trans e2) _ _ ha)), by simp [zs, scanBound]; omega, fun p c hp hc => q H2 _ _ e2 (Ex.new hp) ⟨p, c, rfl, hp, upd_same, by simpa [zs] using hc⟩⟩
theorem zs_mem {l : List Nat} {k : Int} : k ∈ zs l ↔ ∃ n ∈ l, (n : Int) = k := List.mem_map
theorem int_asc : ∀ {a : List Int} {b : List Nat}, a.Pairwise (· < ·) → Asc b → (∀ k : Int, k ∈ a ↔ k ∈ zs b) → a = zs b
  | [], [], _, _, _ => rfl
  | [], n :: b, _, _, h => by
    have := (h n).mpr List.mem_cons_self
    cases this
  | x :: a, [], _, _, h => by
    have := (h x).mp List.mem_cons_self
    cases this
  | x :: a, n :: b, ha, hb, h => by
    obtain ⟨a1, a2⟩ := List.pairwise_cons.mp ha
    obtain ⟨b1, b2⟩ := List.pairwise_cons.mp hb
    have bz : ∀ y ∈ zs b, (n : Int) < y := fun y hy => by
      obtain ⟨m, hm, e⟩ := zs_mem.mp hy
      have := b1 m hm
      omega
    have e : x = n := by
      rcases List.mem_cons.mp ((h x).mp List.mem_cons_self) with q | q
      · exact q
      · rcases List.mem_cons.mp ((h n).mpr List.mem_cons_self) with q2 | q2
        · exact q2.symm
        · have := a1 n q2
          have := bz x q
          omega
    subst e
    show _ = (n : Int) :: zs b
    rw [int_asc a2 b2 fun k => ?_]
    have hk := h k
    have e2 : zs (n :: b) = (n : Int) :: zs b := rfl
    rw [e2, List.mem_cons, List.mem_cons] at hk
    constructor
    · intro q
      rcases hk.mp (.inr q) with e | e
      · subst e; exact absurd (a1 _ q) (Int.lt_irrefl _)
      · exact e
    · intro q
      rcases hk.mpr (.inr q) with e | e
      · subst e; exact absurd (bz _ q) (Int.lt_irrefl _)
      · exact e
theorem el_sortedS {l : List Nat} (h : EvP te σ H (isSet w l)) (hz : l.length < 64) : EvL (tCB (rSortedSet w) (tCons te tNil)) σ H (nv (sortU l)) := fun H1 e Q q =>
  h H1 e _ fun H0 v H2 e0 e2 ⟨a, c, ev, a0, ha, hc⟩ => by
    subst ev
    refine ⟨a, _, c, rfl, ha, by omega, fun ns p h1 h2 h3 hp => q p _ (fresh_back (e0.trans e2) hp) ((e0.trans e2).trans (Ex.new hp)) ?_⟩
    rw [upd_same, int_asc h1 (sortU_asc l) fun k => ?_, ← iv_zs]
    rw [h2 k, decide_eq_true_iff, zs_mem, zs_mem]
    constructor
    · rintro ⟨n, hn, e⟩
      exact ⟨n, sortU_mem.mpr hn, e⟩
    · rintro ⟨n, hn, e⟩
      exact ⟨n, sortU_mem.mp hn, e⟩
theorem sorted_zs {l : List Nat} {ns : List Int} (hl : l.Nodup) (hp : ns.Perm (zs l)) (ho : ns.Pairwise (· ≤ ·)) : ns = zs (sortU l) := by
  have nd : ns.Nodup := by
    rw [hp.nodup_iff]
    unfold zs
    rw [List.Nodup, List.pairwise_map]
    exact hl.imp fun h e => h (Int.ofNat.inj e)
  refine int_asc (List.Pairwise.imp₂ (R := (· ≤ ·)) (S := (· ≠ ·)) (fun a b h1 h2 => by omega) ho nd) (sortU_asc l) fun k => ?_
  rw [hp.mem_iff, zs_mem, zs_mem]
  constructor
  · rintro ⟨n, hn, e⟩
    exact ⟨n, sortU_mem.mpr hn, e⟩
  · rintro ⟨n, hn, e⟩
    exact ⟨n, sortU_mem.mp hn, e⟩
theorem el_sortedI {l : List Nat} (h : EvL te σ H (nv l)) (hl : l.Nodup) : EvL (tCB (rSortedI K) (tCons te tNil)) σ H (nv (sortU l)) := fun H1 e Q q =>
  h H1 e _ fun a H2 a0 e2 ha => ⟨a, zs l, rfl, sq_zs (SqL.of ha), fun ns p h1 h2 hp => q p _ (fresh_back e2 hp) (e2.trans (Ex.new hp)) (by rw [upd_same, sorted_zs hl h1 h2, ← iv_zs])⟩
theorem el_sortedA {l : List Nat} {a : Addr} (h : Ev te σ H (.ref a)) (ha : H a = some (.lst (nv l))) (hl : l.Nodup) : EvL (tCB (rSortedI K) (tCons te tNil)) σ H (nv (sortU l)) := fun H1 e Q q =>
  h H1 e _ fun H2 e2 => ⟨a, zs l, rfl, sq_zs (SqL.of ((e.trans e2) _ _ ha)), fun ns p h1 h2 hp => q p _ (fresh_back e2 hp) (e2.trans (Ex.new hp)) (by rw [upd_same, sorted_zs hl h1 h2, ← iv_zs])⟩
theorem sortU_id {l : List Nat} (h : Asc l) : sortU l = l := (sortU_eq h fun _ => Iff.rfl).symm
theorem inV_bl (b : Bool) (bs : List Bool) : inV (.bl b) (bs.map V.bl) = bs.contains b := by
  induction bs with
  | nil => rfl
  | cons c r ih =>
    show (eqV (.bl c) (.bl b) || inV (.bl b) (r.map V.bl)) = _
    rw [ih, List.contains_cons]
    congr 1
    cases b <;> cases c <;> rfl
theorem flat_bl (bs : List Bool) : (bs.map V.bl).all flatV = true := by
  rw [List.all_eq_true]
  intro v hv
  obtain ⟨n, _, rfl⟩ := List.mem_map.mp hv
  rfl
/-- d[n] = True, n new -/
theorem s_dput {td ty tv : TE} {D : Ends} {d : Addr} {ks : List Nat} {n : Nat} (hv : Ev tv σ H (.bl true)) (hd : Ev td σ H (.ref d)) (hy : Ev ty σ H (.int n)) (h : H d = some (.dK (dk ks))) (hn : n ∉ ks) (hz : ks.length ≤ 50000)
    (k : ∀ H1, Ex H H1 → D.nx σ (upd H1 d (.dK (dk (ks ++ [n]))))) : sDPut td ty tv D σ H := hv H (Ex.refl H) _ fun H1 e1 => hd H1 e1 _ fun H2 e2 => hy H2 (e1.trans e2) _ fun H3 e3 =>
  ⟨d, _, rfl, DPut.k (k := Sum.inl (Int.ofNat n)) (((e1.trans e2).trans e3) _ _ h) (by
    unfold EP.dk
    rw [List.length_map]
    exact sz_lt (by omega)), by
    rw [dk_put hn]
    exact k H3 ((e1.trans e2).trans e3)⟩
theorem q_dput {td ty tv : TE} {tz : TS} {D : Ends} {d : Addr} {ks : List Nat} {n : Nat} (hv : Ev tv σ H (.bl true)) (hd : Ev td σ H (.ref d)) (hy : Ev ty σ H (.int n)) (h : H d = some (.dK (dk ks))) (hn : n ∉ ks) (hz : ks.length ≤ 50000)
    (k : ∀ H1, Ex H H1 → tz D σ (upd H1 d (.dK (dk (ks ++ [n]))))) : tSeq (sDPut td ty tv) tz D σ H := s_dput (D := { D with nx := tz D }) hv hd hy h hn hz k
theorem ed_new : EvP tDNewK σ H (isD []) := fun H1 e Q q p hp => q H1 _ _ (Ex.refl H1) (Ex.new hp) ⟨p, rfl, hp, upd_same⟩
end
end EP
end

section
set_option Elab.async false
set_option linter.all false
set_option maxRecDepth 100000
set_option maxHeartbeats 4000000
/-! A7: rules the layer lacks: y = {k: v for ..}. -/
namespace EP
open PySem PySem.Spec PyProof.Rows L2 Evl
section
variable {X : Cx}
/-- a dict comprehension that is put into a local of its row: its block gives the slot back -/
theorem swDc {kx vx : Expr} {gs : List Comprehension} {sc : Scope} {cp np : Pos} {z : Str} {row : Nat} {env : Env} (h1 : env.scope.kind = .function) (h2 : env.scope.names.lookup z = some .local) (h3 : (np.line == cp.line) = true)
    (h4 : (sc.names.any fun (n, k) => n == z && (k == .local || k == .cell)) = false) : swapsWith (.DictComp kx vx gs sc cp) (some (.Name z np)) row env = pure true := by
  have b1 : env.kindOf z = some .local := h2
  have b2 : env.blockKind = .function := by
    unfold Env.blockKind
    rw [h1]
    rfl
  unfold swapsWith
  simp only [b2, b1, h4, Expr.pos, h3] <;> rfl
/-- z = {k: v for ..} on one row, z a local -/
theorem ps_setDc {i : Nat} {z : Str} {np : Pos} {kx vx tg src : Expr} {ifs : List Expr} {sc : Scope} {own : List (Str × Nat)} {cp row : Pos} {wi : TI} {g : TG} {tt : TT} {tk tv : TE} (calm : X.calm = true) (nd : X.N.Nodup) (hz : X.N[i]? = some z) (loc : X.env.scope.names.lookup z = some .local)
    (sw : swapsWith (.DictComp kx vx [⟨tg, src, ifs, 0⟩] sc cp) (some (.Name z np)) row.line X.env = pure true) (hi : PI X tg src wi) (ok : BlkOk X.N X.env.scope sc own)
    (pg : ∀ (s : Shared) (H : Hp) (C : Addr) (cl : List (Str × Addr)) (fp : List Addr), PG (X.blk s H sc (compEnvC sc cl C X.env) fp) tg g) (pt : ∀ (s : Shared) (H : Hp) (C : Addr) (cl : List (Str × Addr)) (fp : List Addr), PTs (X.blk s H sc (compEnvC sc cl C X.env) fp) ifs tt)
    (pk : ∀ (s : Shared) (H : Hp) (C : Addr) (cl : List (Str × Addr)) (fp : List Addr), PE (X.blk s H sc (compEnvC sc cl C X.env) fp) kx tk)
    (pv : ∀ (s : Shared) (H : Hp) (C : Addr) (cl : List (Str × Addr)) (fp : List Addr), PE (X.blk s H sc (compEnvC sc cl C X.env) fp) vx tv) (fs : ∀ x, foldedSetIterable src X.env x = pure x := by intro _; rfl) :
    L2.PS X (.Assign [.Name z np] (.DictComp kx vx [⟨tg, src, ifs, 0⟩] sc cp) row) (tAsg (tDc wi g tt tk tv (own.map (·.2))) (gName i)) := by
  refine ⟨fun pins s σ H D I h0 => ?_⟩
  have h : tDc wi g tt tk tv (own.map (·.2)) σ H fun x H1 => gName i x σ H1 D.nx := h0
  rw [exec_Assign_Name_used _ _ _ _ sw]
  refine wpAny_bind <| wpAny_standAt <| wpAny_bind ?_
  show wpAny _ X.A (comprehension (.DictComp kx vx [⟨tg, src, ifs, 0⟩] sc cp) sc X.env (firstIterPos [⟨tg, src, ifs, 0⟩] cp) newDict false (eval src X.env) (some (assign (.Name z np) X.env)) >>= _) _ _ s
  refine wpAny_bind (thn (dc_core (Qf := fun _ s' => SP X pins D .next s') calm nd I hi ok pg pt pk pv fs h fun L C s' m H' I' q hn f => ?_) fun _ s' hq => wpAny_pure (wpAny_pure hq))
  show wpAny _ _ (assign (.Name z np) X.env (.ref L)) _ _ _
  refine wpAny_assign_Name (store_ok2 (v := V.ref L) I' nd hz (.inl loc) rfl (fun s2 J ⟨a, sb, ha⟩ => ?_) (.inr loc))
  have ⟨f0, f1, f2, f3, f4, f5⟩ := f
  have far : C ≠ a := by
    rcases ha with e | e
    · exact e ▸ f1
    · exact fun q => f4 z a e q.symm
  exact ⟨m, hn.sameBut sb far, fun h3 sb3 => ⟨_, H', J.turned (t' := s2.toks) (fun b o hb e => (sb3.2 b hb).trans e) f0 f1 f3 f4 f5, q⟩⟩
end

/-! ### bool(v): what its test says -/
section
variable {prog : Program} {w : World} {A : Around} {E : Value → Shared → Prop} {s : Shared} {v : Value}
theorem call_boolV {Q : Value → Shared → Prop} (h : wpAny (model prog w) A.in1.in1 (truthy v) (fun b s1 => Q (.bool b) s1) E s) : wpAny (model prog w) A (call (.type "bool") [v]) Q E s := by
  refine callType_codes (T := "bool") (Bi := Builtin.«object.__init__») (Q₁ := fun r s1 => ∃ b : Bool, r = .bool b ∧ Q r s1) PySem.F.called_bool (PySem.F.typeCall_bool_1 v) PySem.F.entry_object_init ?_ ?_
  · refine codeAny_of_tree ?_
    show wpAny _ A.in1.in1 (checkBuiltinCall "bool.__new__" ⟨[.type "bool", v], []⟩ >>= fun _ => again (.builtin "bool.__new__" ⟨[.type "bool", v], []⟩)) _ _ s
    refine wpAny_bind (wpAny_of_eq (PySem.F.newCall_bool_1 v) (wpAny_pure ⟨plainId_quiet (by decide +kernel) _, codeAny_builtin PySem.F.entry_bool_new ?_⟩))
    rw [Around.under_plainId (by decide +kernel) ⟨[.type "bool", v], []⟩]
    unfold Builtin.«bool.__new__»
    have ty : isType (.type "bool") = pure true := rfl
    refine wpAny_bind (wpAny_of_eq ty (PySem.W.KFB.if_not rfl ?_))
    refine wpAny_bind (wpAny_of_eq PySem.F.conv_sub_bool (PySem.W.KFB.if_not rfl ?_))
    refine wpAny_bind (m := someArgs "bool" 0 1 ⟨[v], []⟩) (wpAny_pure ?_)
    refine wpAny_bind (wpAny_mono h (fun b s1 q => ?_) fun _ _ y => y)
    exact wpAny_pure ⟨b, rfl, q⟩
  · rintro obj s1 ⟨b, rfl, q⟩
    have ti : s1.TypeIs (.bool b) "bool" := PySem.typeIs_bool s1 b
    exact ⟨ti, PySem.F.args_object_init_2 _ _, object_init_meets PySem.F.called_bool.init.lookup PySem.F.called_bool.made (by decide) prog w A.in1 _ s1 ⟨ti, rfl, q⟩⟩
end
section
variable {X : Cx} {k j : Nat} {C : Addr} {sp : Sp}
/-- bool(a tuple) -/
def rBoolU (K : PySem.W.Frag) : List V → Hp → VK → Prop := fun xs H Q => ∃ a ys, xs = [V.ref a] ∧ SqT K H a ys ∧ Q (.bl (!ys.isEmpty)) H
theorem c_boolU : CallR X (.type "bool") (rBoolU X.K) := by
  intro pins s σ H xs us Q I r h
  obtain ⟨a, ys, rfl, ht, q⟩ := h
  rw [Vals.ref1 r]
  obtain ⟨its, rv, tp, hz⟩ := I.tuple ht
  have lim := line63
  have same := rv.length
  refine call_boolV (truthy_tuple tp ?_ ?_)
  · simp only [List.size_toArray]
    omega
  · exact ⟨.bl (!ys.isEmpty), H, I.tok _, by rw [isEmpty_of rv] <;> rfl, q⟩
/-- bool(x), x of the class at C, by its own method -/
def rBoolOwn (C : Addr) (sp : Sp) : List V → Hp → VK → Prop := fun xs H Q => ∃ a, xs = [V.ref a] ∧ InsAt H C a ∧ sp [.ref a] H (fun z H2 => ∃ c, z = .bl c ∧ Q (.bl c) H2) E0
theorem c_boolOwn (c : Met X.prog X.w X.K X.mg X.base k C "__bool__" sp) (hr : Room j X.A) (hk : k + 2 ≤ j) : CallR X (.type "bool") (rBoolOwn C sp) := by
  intro pins s σ H xs us Q I r h
  obtain ⟨a, rfl, ha, h⟩ := h
  rw [Vals.ref1 r]
  obtain ⟨f, hc, hm, F⟩ := c.ex
  obtain ⟨od, J⟩ := ins_look I ha
  obtain ⟨m, hF⟩ := I.fr
  have r2 : Room (k + 2) X.A := hr.mono hk
  have r1 : Room (k + 1) X.A.in1 := Room.in1 r2
  refine call_boolV (PySem.W.truthy_K hF I.ok.mod.kin J hm.at_ hm.fn ?_)
  refine wpAny_call (codeAny_mono (F X.A.in1.in1 X.stack s H [.ref a] [.ref a] _ E0 (Room.in1 r1) I.env0.in1.in1 (.cons rfl .nil) h) fun r s1 hq => ?_)
  match r, hq with
  | .error e, hq => exact (pass0 (E := E0)) pins σ H s e s1 I hq
  | .ok (.ret u), hq =>
    obtain ⟨z, H', I', rz, b, rfl, q⟩ := I.after hq
    cases rz
    exact ⟨.bl b, H', I', rfl, q⟩
  | .ok .next, hq => exact False.elim hq
  | .ok .brk, hq => exact False.elim hq
  | .ok .cont, hq => exact False.elim hq
variable {K : PySem.W.Frag} {σ : L2.St} {H : Hp} {ta tb : TE}
/-- bool(t + u) -/
theorem ev_boolcat {a b : Addr} {xs ys : List V} (ha : Ev ta σ H (.ref a)) (hb : Ev tb σ H (.ref b)) (h1 : H a = some (.tup xs)) (h2 : H b = some (.tup ys)) (hz : xs.length + ys.length ≤ 100000) : Ev (tCB (rBoolU K) (tCons (tOp (rCatA K) ta tb) tNil)) σ H (.bl (!(xs ++ ys).isEmpty)) := fun H1 e Q q =>
  ha H1 e _ fun H2 e2 => hb H2 (e.trans e2) _ fun H3 e3 => by
    have hx := (e.trans (e2.trans e3)) _ _ h1
    have hy := (e.trans (e2.trans e3)) _ _ h2
    refine ⟨a, b, xs, ys, rfl, rfl, SqT.of hx, SqT.of hy, sz_of hz, fun n => ⟨b, ys, rfl, SqT.of hy, ?_⟩, fun n m => ⟨a, xs, rfl, SqT.of hx, ?_⟩, fun n m p hp => ⟨p, xs ++ ys, rfl, SqT.of upd_same, q _ ((e2.trans e3).trans (Ex.new hp))⟩⟩
    · rw [← List.nil_append ys, ← n]
      exact q _ (e2.trans e3)
    · rw [← List.append_nil xs, ← m]
      exact q _ (e2.trans e3)
end
end EP
end

section
set_option Elab.async false
set_option linter.all false
set_option maxRecDepth 100000
set_option maxHeartbeats 4000000
/-! A8: a rule the layer lacks: y = {e for a in u for b in v}, a set of ints by two clauses without tests. -/
namespace EP
open PySem PySem.Spec PyProof.Rows L2 Evl
abbrev S2 (e ta ia tb ib : Expr) (sc : Scope) (cp : Pos) : Expr := .SetComp e [⟨ta, ia, [], 0⟩, ⟨tb, ib, [], 0⟩] sc cp
section
variable {prog : Program} {w : World} {A : Around} {R : Result → Shared → Prop} {s : Shared} {e ta ia tb ib : Expr} {sc : Scope} {cp : Pos} {it acc : Value} {env : Env}
abbrev ErS2 (prog : Program) (w : World) (A : Around) (env : Env) (R : Result → Shared → Prop) : Value → Shared → Prop := notedBy (model prog w) A env fun x s' => R (.error x) s'
theorem turnS2_a : compTurn (S2 e ta ia tb ib sc cp) 0 it acc env = (do
      standAt ia.pos
      match ← pyNext it with
      | none => pure (.done .next)
      | some v =>
        letOwnedTupleGo ta it v
        assign ta env v
        let x ← eval ib env
        standAt ib.pos
        let x ← foldedSetIterable ib env x
        let _ ← runOwn (.compStart (S2 e ta ia tb ib sc cp) 1 (← holding [x] (pyIter x)) acc env) env
        again (.compLoop (S2 e ta ia tb ib sc cp) 0 it acc env)) := by rfl
theorem turnS2_b : compTurn (S2 e ta ia tb ib sc cp) 1 it acc env = (do
      standAt ib.pos
      match ← pyNext it with
      | none => pure (.done .next)
      | some v =>
        letOwnedTupleGo tb it v
        assign tb env v
        (do let v ← eval e env; standAt e.pos; let _ ← call (.builtin "set.add") [acc, v])
        again (.compLoop (S2 e ta ia tb ib sc cp) 1 it acc env)) := by rfl
theorem loopS2_a (fs : ∀ x, foldedSetIterable ib env x = pure x) (I : Nat → Shared → Prop)
    (turn : ∀ n s, I n s → wpAny (model prog w) A (pyNext it) (fun r s1 => match r with
      | none => R (.ok .next) s1
      | some v => wpAny (model prog w) A (letOwnedTupleGo ta it v) (fun _ s2 => wpAny (model prog w) A (assign ta env v) (fun _ s3 => wpAny (model prog w) A (eval ib env) (fun x s4 => wpAny (model prog w) A (pyIter x) (fun it1 s5 =>
          codeAny (model prog w) A (.compStart (S2 e ta ia tb ib sc cp) 1 it1 acc env) (fun r s' => match r with
            | .ok _ => ∃ m, m < n ∧ I m s'
            | .error _ => False) s5) (ErS2 prog w A env R) s4) (ErS2 prog w A env R) s3) (ErS2 prog w A env R) s2) (ErS2 prog w A env R) s1) (ErS2 prog w A env R) s)
    (n : Nat) (h : I n s) : codeAny (model prog w) A (.compLoop (S2 e ta ia tb ib sc cp) 0 it acc env) R s := by
  refine codeAny_loop rfl I (fun n s hI => ?_) n h
  show wpAny _ A ((compTurn (S2 e ta ia tb ib sc cp) 0 it acc env).onRaise (fun x => do noteFrame x env; theTreesLotGoes x)) _ _ s
  refine wpAny_noted ?_
  rw [turnS2_a]
  refine wpAny_bind <| wpAny_standAt <| wpAny_bind <| wpAny_mono (turn n s hI) (fun r s1 h1 => ?_) fun _ _ y => y
  match r, h1 with
  | none, h1 => exact wpAny_pure h1
  | some v, h1 =>
    refine wpAny_bind <| wpAny_mono h1 (fun _ s2 h2 => wpAny_bind <| wpAny_mono h2 (fun _ s3 h3 => wpAny_bind <| wpAny_mono h3 (fun x s4 h4 => ?_) fun _ _ y => y) fun _ _ y => y) fun _ _ y => y
    refine wpAny_bind <| wpAny_standAt <| wpAny_bind <| wpAny_of_eq (fs x) <| wpAny_bind <| wpAny_holding <| wpAny_mono h4 (fun it1 s5 h5 => wpAny_bind <| wpAny_runOwn ?_) fun _ _ y => y
    rw [Around.mark_none]
    refine codeAny_mono h5 fun r s' hr => ?_
    match r, hr with
    | .error _, hr => exact hr.elim
    | .ok _, hr => first | exact wpAny_pure ⟨rfl, hr⟩ | exact wpAny_bind (wpAny_pure (wpAny_pure ⟨rfl, hr⟩))
theorem loopS2_b (I : Nat → Shared → Prop)
    (turn : ∀ n s, I n s → wpAny (model prog w) A (pyNext it) (fun r s1 => match r with
      | none => R (.ok .next) s1
      | some v => wpAny (model prog w) A (letOwnedTupleGo tb it v) (fun _ s2 => wpAny (model prog w) A (assign tb env v) (fun _ s3 => wpAny (model prog w) A (eval e env) (fun x s4 =>
          wpAny (model prog w) A (call (.builtin "set.add") [acc, x]) (fun _ s5 => ∃ m, m < n ∧ I m s5) (ErS2 prog w A env R) s4) (ErS2 prog w A env R) s3) (ErS2 prog w A env R) s2) (ErS2 prog w A env R) s1) (ErS2 prog w A env R) s)
    (n : Nat) (h : I n s) : codeAny (model prog w) A (.compLoop (S2 e ta ia tb ib sc cp) 1 it acc env) R s := by
  refine codeAny_loop rfl I (fun n s hI => ?_) n h
  show wpAny _ A ((compTurn (S2 e ta ia tb ib sc cp) 1 it acc env).onRaise (fun x => do noteFrame x env; theTreesLotGoes x)) _ _ s
  refine wpAny_noted ?_
  rw [turnS2_b]
  refine wpAny_bind <| wpAny_standAt <| wpAny_bind <| wpAny_mono (turn n s hI) (fun r s1 h1 => ?_) fun _ _ y => y
  match r, h1 with
  | none, h1 => exact wpAny_pure h1
  | some v, h1 =>
    refine wpAny_bind <| wpAny_mono h1 (fun _ s2 h2 => wpAny_bind <| wpAny_mono h2 (fun _ s3 h3 => wpAny_bind <| wpAny_bind <| wpAny_mono h3 (fun x s4 h4 => ?_) fun _ _ y => y) fun _ _ y => y) fun _ _ y => y
    exact wpAny_bind <| wpAny_standAt <| wpAny_bind <| wpAny_mono h4 (fun _ s5 h5 => wpAny_pure (wpAny_pure ⟨rfl, h5⟩)) fun _ _ y => y
/-- either clause's start -/
theorem startS2 {i : Nat} (hi : i = 0 ∨ i = 1) (h0 : codeAny (model prog w) A (.compLoop (S2 e ta ia tb ib sc cp) i it acc env) R s)
    (h : wpAny (model prog w) A (pyIter it) (fun it' s' => codeAny (model prog w) A (.compLoop (S2 e ta ia tb ib sc cp) i it' acc env) R s') (ErS2 prog w A env R) s) :
    codeAny (model prog w) A (.compStart (S2 e ta ia tb ib sc cp) i it acc env) R s := by
  refine codeAny_of_tree ?_
  show wpAny _ _ ((compStart (S2 e ta ia tb ib sc cp) i it acc env).onRaise (fun x => do noteFrame x env; standAt theWindowsPlace)) _ _ s
  refine wpAny_notedAt ?_
  rcases hi with rfl | rfl
  all_goals
    unfold compStart
    show wpAny _ _ (ask >>= _) _ _ s
    refine wpAny_bind (wpAny_askSetting (wpAny_ite ?_))
    split
    · first
        | exact wpAny_bind (wpAny_pure (wpAny_pure (And.intro rfl h0)))
        | exact wpAny_pure (And.intro rfl h0)
    · first
        | exact wpAny_bind <| wpAny_rule <| wpAny_bind <| wpAny_standAt <| wpAny_bind <| wpAny_mono h (fun it' s' h' => wpAny_pure (And.intro rfl h')) fun _ _ y => y
        | (refine wpAny_bind (wpAny_rule ?_); show wpAny _ _ (standAt ia.pos >>= _) _ _ s; exact wpAny_bind <| wpAny_standAt <| wpAny_bind <| wpAny_mono h (fun it' s' h' => wpAny_pure (And.intro rfl h')) fun _ _ y => y)
        | (refine wpAny_bind (wpAny_rule ?_); show wpAny _ _ (standAt ib.pos >>= _) _ _ s; exact wpAny_bind <| wpAny_standAt <| wpAny_bind <| wpAny_mono h (fun it' s' h' => wpAny_pure (And.intro rfl h')) fun _ _ y => y)
end
section
variable {X : Cx}
/-- the new set at D, from the inner clause's turn the next outer one is reached; vs: the block's names; ws: the second target's -/
def tS2 (w : World) (wi : TI) (g : TG) (wj : TI) (gj : TG) (te : TE) (vs ws : List Nat) : TE := fun σ H Q => wi σ H fun J H1 => ∀ D, H1 D = none → ∃ W : Nat → Nat → Hp → Prop, (∃ m, W 0 m (upd H1 D (SetO w D (fun _ => false) 0))) ∧ ∀ i m H, W i m H →
  (J.stop i H ∧ Q (.ref D) H) ∨ (J.go i H ∧ ∃ Nx : Hp → Prop, (∀ H', Nx H' → ∃ m', m' < m ∧ W (i + 1) m' H') ∧ ∀ x H', J.yld i H x H' → g x (wipe σ vs) H' fun σ2 H2 => wipe σ2 vs = wipe σ vs ∧
    wj σ2 H2 fun J1 H4 => ∃ W1 : Nat → Nat → Hp → Prop, (∃ m, W1 0 m H4) ∧ ∀ j k H, W1 j k H →
      (J1.stop j H ∧ Nx H) ∨ (J1.go j H ∧ ∃ Nx1 : Hp → Prop, (∀ H', Nx1 H' → ∃ k', k' < k ∧ W1 (j + 1) k' H') ∧ ∀ x H', J1.yld j H x H' → gj x (wipe σ2 ws) H' fun σ3 H5 => wipe σ3 ws = wipe σ2 ws ∧
        te σ3 H5 fun y H7 => ∃ (c : Int) (S : Int → Bool) (n : Nat), y = .int c ∧ H7 D = some (SetO w D S n) ∧ n + 1 < scanBound ∧ Nx1 (upd H7 D (SetO w D (fun j => S j || decide (j = c)) (if S c = true then n else n + 1)))))
theorem addI_ok {pins : List (Addr × Obj)} {σ : L2.St} {H : Hp} {s : Shared} {E : Value → Shared → Prop} {D : Addr} {S : Int → Bool} {n : Nat} {y : Int} {tk : Tok} {Q : Value → Shared → Prop} (I : Inv X pins σ H s) (hD : H D = some (SetO X.w D S n)) (room : n + 1 < scanBound)
    (h : ∀ s', Inv X pins σ (upd H D (SetO X.w D (fun j => S j || decide (j = y)) (if S y = true then n else n + 1))) s' → Q .none s') : wpAny (model X.prog X.w) X.A (call (.builtin "set.add") [.ref D, .int y tk]) Q E s := by
  refine setR_add (setO_get I hD) room fun h' sb new => ?_
  have ⟨o, _, _, _, ho, _⟩ := id new
  exact h _ (I.write (e := D) (t' := s.toks + 1) (hD ▸ trivial) (.inl rfl) (fun b u hb hu => (sb.2 b hb).trans hu) ⟨o, ho⟩ (setO_new new))
theorem s2_core {pins : List (Addr × Obj)} {s : Shared} {σ : L2.St} {H : Hp} {Q : VK} {e ta ia tb ib : Expr} {sc : Scope} {own : List (Str × Nat)} {ws : List Nat} {cp pos' : Pos} {wi wj : TI} {g gj : TG} {te : TE} {use : Option (Value → Sem Unit)} {Qf : Value → Shared → Prop}
    (calm : X.calm = true) (nd : X.N.Nodup) (I : Inv X pins σ H s) (hi : PI X ta ia wi) (ok : BlkOk X.N X.env.scope sc own) (hv : ∀ i ∈ ws, i ∈ own.map (·.2))
    (ga : ∀ (s : Shared) (H : Hp) (C : Addr) (cl : List (Str × Addr)) (fp : List Addr), PG (X.blk s H sc (compEnvC sc cl C X.env) fp) ta g)
    (ij : ∀ (s : Shared) (H : Hp) (C : Addr) (cl : List (Str × Addr)) (fp : List Addr), PI (X.blk s H sc (compEnvC sc cl C X.env) fp) tb ib wj)
    (gb : ∀ (s : Shared) (H : Hp) (C : Addr) (cl : List (Str × Addr)) (fp : List Addr), PG (X.blk s H sc (compEnvC sc cl C X.env) fp) tb gj)
    (el : ∀ (s : Shared) (H : Hp) (C : Addr) (cl : List (Str × Addr)) (fp : List Addr), PE (X.blk s H sc (compEnvC sc cl C X.env) fp) e te)
    (fa : ∀ x, foldedSetIterable ia X.env x = pure x) (fb : ∀ env x, foldedSetIterable ib env x = pure x) (h : tS2 X.w wi g wj gj te (own.map (·.2)) ws σ H Q)
    (out : ∀ D C s' m H', Inv X pins σ H' s' → Q (.ref D) H' → s'.heap.Ns C m → FpOk X pins H' C → compPost (model X.prog X.w) X.A X.xe use Qf (.ref D) C (.ok .next) s') :
    wpAny (model X.prog X.w) X.A (comprehension (S2 e ta ia tb ib sc cp) sc X.env pos' (newSet (.type "set")) false (eval ia X.env) use) Qf X.xe s := by
  have free : ∀ y ∈ sc.names, y.2 = .free → ∃ c, X.env.cells.lookup y.1 = some c := fun y hy q => (ok.free y hy q).elim (fun k => I.ok.has _ (.inl k)) fun k => I.ok.has _ (.inr k)
  refine wpAny_comprehension_free (use := use) rfl fa (closure_ok free) ok.kind (fun y hy q => by rw [ok.uniq y hy, q]) (thn (hi.run pins s σ H _ I h) fun xv s1 hx => thn hx fun itv s2 h2 => ?_)
  obtain ⟨it, fp, tn, J, H2, rfl, I2, T, st2, f2, q⟩ := h2
  refine PpSet.newSet_ok (newEnv_comp ?_)
  generalize hD : s2.heap.objs.size = D
  have gone : H2 D = none := I2.hok.fresh (Nat.le_of_eq hD)
  obtain ⟨W, ⟨m0, w0⟩, turn⟩ := q D gone
  -- the set is laid
  let blank : Obj := { cls := .type "set", dict := none, data := .set #[] 0 (.fresh 0 0 (!X.w.params.followText "set-order")) }
  generalize hs3 : ({ s2 with heap := s2.heap.push blank } : Shared) = s3
  have h3 : s3.heap = s2.heap.push blank := hs3 ▸ rfl
  have I3 : Inv X pins σ (upd H2 D (SetO X.w D (fun _ => false) 0)) s3 := by
    rw [← hs3]
    exact I2.laid (t' := s2.toks) (fun b o q => Heap.get?_push_of_some _ q) (Nat.le_of_eq hD) (hD ▸ setO_new (setR_fresh X.w))
  have f3 : ∀ b ∈ fp, FpOk X pins (upd H2 D (SetO X.w D (fun _ => false) 0)) b ∧ b < s3.heap.objs.size := fun b hb => by
    obtain ⟨o, q, _⟩ := T.obj _ _ st2 b hb
    have lt : b < D := hD ▸ Heap.lt_size q
    exact ⟨⟨(upd_ne (Nat.ne_of_lt lt)).trans (f2 b hb).1, (f2 b hb).2⟩, by rw [h3, Heap.size_push, hD]; exact Nat.lt_succ_of_lt lt⟩
  have st3 : tn 0 s3.heap := T.keep _ _ _ st2 fun b _ o q => h3 ▸ Heap.get?_push_of_some _ q
  generalize hH3 : upd H2 D (SetO X.w D (fun _ => false) 0) = H3 at I3 f3 w0
  have I4 := block_start I3 ok nd f3
  show codeAny _ _ (.compStart (S2 e ta ia tb ib sc cp) 0 (.ref it) (.ref D) (compEnvC sc (cellsFrom (s3.heap.objs.size + 1) sc.names (cloFrom X.env.cells sc.names [])) s3.heap.objs.size X.env)) (compPost (model X.prog X.w) X.A X.xe use Qf (.ref D) s3.heap.objs.size) { s3 with heap := pushCells (s3.heap.push { cls := .type "dict", data := .dict #[] }) sc.names }
  have pg := ga s3 H3 s3.heap.objs.size (cellsFrom (s3.heap.objs.size + 1) sc.names (cloFrom X.env.cells sc.names [])) fp
  have pj := ij s3 H3 s3.heap.objs.size (cellsFrom (s3.heap.objs.size + 1) sc.names (cloFrom X.env.cells sc.names [])) fp
  have pb := gb s3 H3 s3.heap.objs.size (cellsFrom (s3.heap.objs.size + 1) sc.names (cloFrom X.env.cells sc.names [])) fp
  have pe := el s3 H3 s3.heap.objs.size (cellsFrom (s3.heap.objs.size + 1) sc.names (cloFrom X.env.cells sc.names [])) fp
  have cL : (compEnvC sc (cellsFrom (s3.heap.objs.size + 1) sc.names (cloFrom X.env.cells sc.names [])) s3.heap.objs.size X.env).locals = s3.heap.objs.size := rfl
  generalize compEnvC sc (cellsFrom (s3.heap.objs.size + 1) sc.names (cloFrom X.env.cells sc.names [])) s3.heap.objs.size X.env = ce at I4 pg pj pb pe cL ⊢
  generalize hs4 : ({ s3 with heap := pushCells (s3.heap.push { cls := .type "dict", data := .dict #[] }) sc.names } : Shared) = s4 at I4 ⊢
  have st4 : tn 0 s4.heap := T.keep _ _ _ st3 fun b _ o q => hs4 ▸ pushCells_keeps _ _ _ _ (Heap.get?_push_of_some _ q)
  let B : Cx := X.blk s3 H3 sc ce fp
  let base : L2.St := wipe σ (own.map (·.2))
  have still : ∀ {σ' : L2.St} {H' : Hp} {s' : Shared}, Inv B [] σ' H' s' → (∀ b ∈ fp, H' b = none) → ∀ b ∈ fp, FpOk B [] H' b := fun {σ' H' s'} K hn b hb =>
    ⟨hn b hb, (K.ok.exf b hb).1, K.ok.exfs b hb, .inl hb, fun x c q => (K.ok.exf b hb).2 x c q, fun p hp => absurd (show p ∈ ([] : List (Addr × Obj)) ++ [] from hp) (by simp)⟩
  have loop : codeAny (model X.prog X.w) X.A (.compLoop (S2 e ta ia tb ib sc cp) 0 (.ref it) (.ref D) ce) (compPost (model X.prog X.w) X.A X.xe use Qf (.ref D) s3.heap.objs.size) s4 := by
    refine loopS2_a (fb ce) (fun n s' => ∃ i H', Inv B [] base H' s' ∧ tn i s'.heap ∧ (∀ b ∈ fp, H' b = none) ∧ W i n H') ?_ m0 ⟨0, H3, I4, st4, fun b hb => (f3 b hb).1.1, w0⟩
    rintro n s5 ⟨i, H5, I5, st5, n5, w5⟩
    rcases turn i n H5 w5 with ⟨stop, qq⟩ | ⟨go, Nx, hNx, step⟩
    · refine thnF (T.done B rfl rfl rfl calm i [] s5 _ H5 (fun _ _ => False) I5 (still I5 n5) st5 stop) fun r s6 ⟨hr, I6⟩ => ?_
      subst hr
      have I7 : Inv X pins σ H5 s6 := I3.call' (ch := fp) I6.os I6.base I6.hok I6.bare fun b hb => by
        have ⟨_, z1, z2, z3, z4, z5⟩ := (f3 b hb).1
        exact ⟨z3, z1, z4, z5⟩
      have z : H5 ce.locals = none := I6.free
      obtain ⟨m, (hn : s6.heap.Ns ce.locals m), _⟩ := I6.loc
      rw [cL] at z hn
      exact out D s3.heap.objs.size s6 m H5 I7 qq hn (I3.fpOk (Nat.le_refl _) z)
    · refine thnF (T.item B rfl rfl rfl calm i [] s5 _ H5 (fun _ _ => False) I5 (still I5 n5) st5 go) fun r s6 ⟨u, hr, h6⟩ => ?_
      subst hr
      refine thnF h6 fun _ s7 ⟨x, H7, I7, r7, y7, st7, n7⟩ => ?_
      refine thnF (pg.run _ s7 _ H7 x u _ (I7.pinned (still I7 n7) (T.obj _ _ st7)) r7 (step x H7 y7)) fun _ s8 ⟨σ8, H8, I8, hw8, q8⟩ => ?_
      let pin7 : List (Addr × Obj) := [] ++ pinsAt fp s7.heap
      have fin : ∀ {σ9 : L2.St} {s' : Shared} {H' : Hp}, Inv B pin7 σ9 H' s' → base.length = σ9.length → (∀ (j : Nat) v, base[j]? = some (some v) → σ9[j]? = some (some v)) → Nx H' →
          ∃ m, m < n ∧ ∃ i H', Inv B [] base H' s' ∧ tn i s'.heap ∧ (∀ b ∈ fp, H' b = none) ∧ W i m H' := fun {σ9 s' H'} K hl hk nx => by
        obtain ⟨m', hm, w'⟩ := hNx H' nx
        have kept : ∀ b ∈ fp, ∀ o, s7.heap.get? b = some o → s'.heap.get? b = some o ∧ H' b = none := fun b hb o q => by
          have z := K.pin (b, o) (List.mem_append_right _ (List.mem_append_right _ (mem_pinsAt hb q)))
          exact ⟨z.1, z.2.1⟩
        exact ⟨m', hm, i + 1, H', (K.unpinned (pins := [])).weak hl hk, T.keep _ _ _ st7 fun b hb o q => (kept b hb o q).1, fun b hb => by
          obtain ⟨o, q, _⟩ := T.obj _ _ st7 b hb
          exact (kept b hb o q).2, w'⟩
      have l8 : base.length = σ8.length := by
        show (wipe σ (own.map (·.2))).length = _
        rw [← hw8, wipe_length]
      have k9 : ∀ (j : Nat) v, base[j]? = some (some v) → (wipe σ8 ws)[j]? = some (some v) := fun j v q => by
        have q : (wipe σ (own.map (·.2)))[j]? = some (some v) := q
        rw [← hw8] at q
        obtain ⟨q1, q2⟩ := wipe_some q
        rw [wipe_out fun z => q2 (hv j z)]
        exact q1
      -- the second clause
      refine thnF (pj.run _ s8 σ8 H8 _ I8 q8) fun xv s10 hx => thnF hx fun itv s11 h11 => ?_
      obtain ⟨it1, fp1, tn1, J1, H11, rfl, I11, T1, st11, f11, W1, ⟨m1, w1⟩, turn1⟩ := h11
      have still1 : ∀ {H' : Hp}, (∀ b ∈ fp1, H' b = none) → ∀ b ∈ fp1, FpOk B pin7 H' b := fun hn b hb => ⟨hn b hb, (f11 b hb).2⟩
      have loop1 : codeAny (model X.prog X.w) X.A (.compLoop (S2 e ta ia tb ib sc cp) 1 (.ref it1) (.ref D) ce)
          (fun r s' => match r with
            | .ok _ => ∃ m, m < n ∧ ∃ i H', Inv B [] base H' s' ∧ tn i s'.heap ∧ (∀ b ∈ fp, H' b = none) ∧ W i m H'
            | .error _ => False) s11 := by
        refine loopS2_b (fun k s' => ∃ j H', Inv B pin7 (wipe σ8 ws) H' s' ∧ tn1 j s'.heap ∧ (∀ b ∈ fp1, H' b = none) ∧ W1 j k H') ?_ m1 ⟨0, H11, I11.weak (wipe_length _ _) (fun j v q => (wipe_some q).1), st11, fun b hb => (f11 b hb).1, w1⟩
        rintro k s12 ⟨j, H12, I12, st12, n12, w12⟩
        rcases turn1 j k H12 w12 with ⟨stop1, nx1⟩ | ⟨go1, Nx1, hNx1, step1⟩
        · refine thnF (T1.done B rfl rfl rfl calm j _ s12 (wipe σ8 ws) H12 (fun _ _ => False) I12 (still1 n12) st12 stop1) fun r s13 ⟨hr, I13⟩ => ?_
          subst hr
          exact fin I13 (l8.trans (wipe_length σ8 ws).symm) k9 nx1
        · refine thnF (T1.item B rfl rfl rfl calm j _ s12 (wipe σ8 ws) H12 (fun _ _ => False) I12 (still1 n12) st12 go1) fun r s13 ⟨u1, hr, h13⟩ => ?_
          subst hr
          refine thnF h13 fun _ s14 ⟨x1, H14, I14, r14, y14, st14, n14⟩ => ?_
          refine thnF (pb.run _ s14 (wipe σ8 ws) H14 x1 u1 _ (I14.pinned (still1 n14) (T1.obj _ _ st14)) r14 (step1 x1 H14 y14)) fun _ s15 ⟨σ15, H15, I15, hw15, q15⟩ => ?_
          refine thnF (pe.run _ s15 σ15 H15 _ I15 q15) fun z s17 ⟨yv, H17, I17, r17, c, S, m, ey, hD17, hz17, nx⟩ => ?_
          subst ey
          obtain ⟨tk, rfl⟩ := r17
          refine addI_ok (X := B) I17 hD17 hz17 fun s18 I18 => ?_
          obtain ⟨m', hm, w'⟩ := hNx1 _ nx
          have kept : ∀ b ∈ fp1, ∀ o, s14.heap.get? b = some o → s18.heap.get? b = some o ∧ _ := fun b hb o q => I18.pin (b, o) (List.mem_append_right _ (List.mem_append_right _ (mem_pinsAt hb q)))
          exact ⟨m', hm, j + 1, _, I18.unpinned.weak (by rw [← hw15, wipe_length]) (fun j v q => by rw [← hw15] at q; exact (wipe_some q).1), T1.keep _ _ _ st14 fun b hb o q => (kept b hb o q).1, fun b hb => by
            obtain ⟨o, q, _⟩ := T1.obj _ _ st14 b hb
            exact (kept b hb o q).2.1, w'⟩
      exact startS2 (.inr rfl) loop1 (T1.self X.A 0 _ _ _ st11 loop1)
  exact startS2 (.inl rfl) loop (T.self X.A 0 _ _ _ st4 loop)
theorem swS2 {e ta ia tb ib : Expr} {sc : Scope} {cp np : Pos} {z : Str} {row : Nat} {env : Env} (h1 : env.scope.kind = .function) (h2 : env.scope.names.lookup z = some .local) (h3 : (np.line == cp.line) = true)
    (h4 : (sc.names.any fun (n, k) => n == z && (k == .local || k == .cell)) = false) : swapsWith (S2 e ta ia tb ib sc cp) (some (.Name z np)) row env = pure true := by
  have b1 : env.kindOf z = some .local := h2
  have b2 : env.blockKind = .function := by
    unfold Env.blockKind
    rw [h1]
    rfl
  unfold swapsWith
  simp only [b2, b1, h4, Expr.pos, h3] <;> rfl
/-- z = {e for a in u for b in v} on one row, z a local -/
theorem ps_setS2 {i : Nat} {z : Str} {np : Pos} {e ta ia tb ib : Expr} {sc : Scope} {own : List (Str × Nat)} {ws : List Nat} {cp row : Pos} {wi wj : TI} {g gj : TG} {te : TE} (calm : X.calm = true) (nd : X.N.Nodup) (hz : X.N[i]? = some z) (loc : X.env.scope.names.lookup z = some .local)
    (sw : swapsWith (S2 e ta ia tb ib sc cp) (some (.Name z np)) row.line X.env = pure true) (hi : PI X ta ia wi) (ok : BlkOk X.N X.env.scope sc own) (hv : ∀ i ∈ ws, i ∈ own.map (·.2))
    (ga : ∀ (s : Shared) (H : Hp) (C : Addr) (cl : List (Str × Addr)) (fp : List Addr), PG (X.blk s H sc (compEnvC sc cl C X.env) fp) ta g)
    (ij : ∀ (s : Shared) (H : Hp) (C : Addr) (cl : List (Str × Addr)) (fp : List Addr), PI (X.blk s H sc (compEnvC sc cl C X.env) fp) tb ib wj)
    (gb : ∀ (s : Shared) (H : Hp) (C : Addr) (cl : List (Str × Addr)) (fp : List Addr), PG (X.blk s H sc (compEnvC sc cl C X.env) fp) tb gj)
    (el : ∀ (s : Shared) (H : Hp) (C : Addr) (cl : List (Str × Addr)) (fp : List Addr), PE (X.blk s H sc (compEnvC sc cl C X.env) fp) e te)
    (fa : ∀ x, foldedSetIterable ia X.env x = pure x := by intro _; rfl) (fb : ∀ env x, foldedSetIterable ib env x = pure x := by intro _ _; rfl) :
    L2.PS X (.Assign [.Name z np] (S2 e ta ia tb ib sc cp) row) (tAsg (tS2 X.w wi g wj gj te (own.map (·.2)) ws) (gName i)) := by
  refine ⟨fun pins s σ H D I h0 => ?_⟩
  have h : tS2 X.w wi g wj gj te (own.map (·.2)) ws σ H fun x H1 => gName i x σ H1 D.nx := h0
  rw [exec_Assign_Name_used _ _ _ _ sw]
  refine wpAny_bind <| wpAny_standAt <| wpAny_bind ?_
  show wpAny _ X.A (comprehension (S2 e ta ia tb ib sc cp) sc X.env (firstIterPos [⟨ta, ia, [], 0⟩, ⟨tb, ib, [], 0⟩] cp) (newSet (.type "set")) false (eval ia X.env) (some (assign (.Name z np) X.env)) >>= _) _ _ s
  refine wpAny_bind (thn (s2_core (Qf := fun _ s' => SP X pins D .next s') calm nd I hi ok hv ga ij gb el fa fb h fun L C s' m H' I' q hn f => ?_) fun _ s' hq => wpAny_pure (wpAny_pure hq))
  show wpAny _ _ (assign (.Name z np) X.env (.ref L)) _ _ _
  refine wpAny_assign_Name (store_ok2 (v := V.ref L) I' nd hz (.inl loc) rfl (fun s2 J ⟨a, sb, ha⟩ => ?_) (.inr loc))
  have ⟨f0, f1, f2, f3, f4, f5⟩ := f
  have far : C ≠ a := by
    rcases ha with q | q
    · exact q ▸ f1
    · exact fun r => f4 z a q r.symm
  exact ⟨m, hn.sameBut sb far, fun h3 sb3 => ⟨_, H', J.turned (t' := s2.toks) (fun b o hb e => (sb3.2 b hb).trans e) f0 f1 f3 f4 f5, q⟩⟩
end
section
variable {X : Cx} {k j : Nat} {C : Addr} {sp : Sp}
/-- x == y, both of the class at C, by its own method that gives a bool -/
def rOwnB (C : Addr) (sp : Sp) : R2 := fun x y H Q => ∃ a b, x = .ref a ∧ y = .ref b ∧ InsAt H C a ∧ InsAt H C b ∧ sp [x, y] H (fun z H' => ∃ c, z = .bl c ∧ Q (.bl c) H') E0
theorem op_eqOwn (c : Met X.prog X.w X.K X.mg X.base k C "__eq__" sp) (hr : Room j X.A) (hk : k ≤ j) : OpR X (compareOp .Eq) (rOwnB C sp) := by
  intro pins s σ H x y v u Q I rx ry h
  obtain ⟨a, b, rfl, rfl, ha, hb, h⟩ := h
  cases rx
  cases ry
  obtain ⟨f, hc, hm, F⟩ := c.ex
  obtain ⟨od, J⟩ := ins_look I ha
  obtain ⟨od', J'⟩ := ins_look I hb
  obtain ⟨m, hF⟩ := I.fr
  show wpAny (model X.prog X.w) X.A (richCompare .Eq (.ref a) (.ref b)) (EP X pins σ Q) X.xe s
  refine PySem.W.cmp_K (op := .Eq) (tb := .ref C) (hr.mono hk).units0 hF I.ok.mod.kin J J'.type (by simp [PySem.W.notFirst]) hm.at_ hm.fn ?_
  refine thn (run_met F (hr.mono hk) I (us := [.ref a, .ref b]) (vs := [.ref a, .ref b]) (.cons rfl (.cons rfl .nil)) h) fun u s' q => ?_
  obtain ⟨z, H', I', rz, b, rfl, q⟩ := q
  cases rz
  exact ⟨.bl b, H', I', rfl, q⟩
/-- f(e, ..), f a local that holds an instance of C, by its own __call__ -/
def tCallV (i : Nat) (C : Addr) (sp : Sp) (t : TA) : TE := fun σ H Q => ∃ a, σ[i]? = some (some (.ref a)) ∧ t σ H fun vs H2 => ((∃ dx vs, SlX.Slt H2 a C dx vs) ∨ ∃ dx fs, H2 a = some (.ins C dx fs)) ∧ sp (V.ref a :: vs) H2 Q E0
theorem pe_callV {i : Nat} {g : Addr} {x : Str} {p pos : Pos} {e : Expr} {es : List Expr} {t : TA} (c : StX.CallO X.K C g) (F : FnR X.prog X.w X.K X.mg X.base CX0 k g sp) (hr : Room j X.A) (hk : k ≤ j) (hN : X.N[i]? = some x) (hv : Vis X.env.scope x) (ha : PA X (e :: es) t)
    (hd : (x == ("__debug__" : Str)) = false := by decide) (hcd : (x == ("__classdict__" : Str)) = false := by decide)
    (ht : eval (.Call (.Name x p) (e :: es) [] pos) X.env = (do callWith pos (← eval (.Name x p) X.env) [] (backTo pos (starEach (e :: es) X.env)) (backToKw pos (keywordEach [] X.env))) := by rfl)
    (he : starEach (e :: es) X.env = (false, eval e X.env) :: starEach es X.env := by rfl) (hpl : (backTo pos (starEach es X.env)).any (·.1) = false := by rfl) : PE X (.Call (.Name x p) (e :: es) [] pos) (tCallV i C sp t) :=
  ⟨fun pins s σ H Q I h => by
    obtain ⟨a, hs, h⟩ := h
    exact (StX.pe_callO (pe_var hN hv hd hcd) c F (hr.mono hk) (pass0 (E := E0)) ha ht he hpl).run pins s σ H Q I ⟨.ref a, hs, a, rfl, h⟩⟩
end
end EP
end

section
set_option Elab.async false
set_option linter.all false
set_option maxRecDepth 100000
set_option maxHeartbeats 4000000
namespace EP
open PySem PySem.Spec PyProof.Rows L2 Evl
section
variable {P : Program} {w : World} {K : PySem.W.Frag} {mg : Str → Option Value} {base : Heap}
abbrev N_common : List Str := ["a", "b", "first", "second"]
theorem sc_common : FnScope N_common ["a", "b"] (defScope s_common) := ⟨rfl, rfl, rfl, by decide +kernel, rfl, by decide +kernel, by decide +kernel⟩
def sp_common : Sp := mkSp (α := Int × Int) (fun a => [.int a.1, .int a.2]) (fun _ _ => True) (fun a => isV (.int (Nat.gcd a.1.natAbs a.2.natAbs : Nat)))
theorem ok_common (T : Tx K mg base) : Cal P w K mg base 1 "common" sp_common := by
  refine cal_of T.f_common T.g_common sc_common (fun _ _ _ _ _ _ us hl => match us, hl with | [_, _], _ => rfl) (len_sp fun _ => rfl) any_sp ?_
  rintro f cdv A outer s H vs Q E hr ⟨⟨a, b⟩, rfl, -, k⟩
  refine ⟨_, pss_cons (ps_par (i := 2) (j := 3) (by rfl) sc_common.nd rfl rfl (by decide) rfl rfl (pa_cons (pe_callB c_abs (by rfl) T.b_abs (by decide +kernel) (pa_cons (pv 0) pa_nil)) (pa_cons (pe_callB c_abs (by rfl) T.b_abs (by decide +kernel) (pa_cons (pv 1) pa_nil)) pa_nil)) (by rfl))
    (pss_cons (ps_while PassesOwn.never (pt_cmpR op_gt (pv 3) pe_int (nomark _)) (pss_one (ps_par (i := 2) (j := 3) (by rfl) sc_common.nd rfl rfl (by decide) rfl rfl (pa_cons (pv 3) (pa_cons (pe_op op_mod (pv 2) (pv 3)) pa_nil)) (by rfl))))
    (pss_one (ps_ret (pv 2)))), ?_⟩
  refine ⟨_, rfl, _, rfl, _, rfl, _, rfl, _, _, rfl, ?_⟩
  refine ⟨fun m σ H' => H' = H ∧ ∃ x y : Nat, m = y ∧ σ = [some (V.int a), some (V.int b), some (V.int x), some (V.int y)] ∧ Nat.gcd x y = Nat.gcd a.natAbs b.natAbs, ⟨b.natAbs, rfl, a.natAbs, b.natAbs, rfl, ?_, rfl⟩, ?_⟩
  · rw [← abs_nat, ← abs_nat]
    rfl
  · rintro m σ H' ⟨rfl, x, y, rfl, rfl, hg⟩
    refine ⟨_, rfl, _, _, rfl, rfl, _, rfl, ?_⟩
    refine ite2 (fun h => ?_) (fun h => ?_)
    · have h : (0 : Int) < (m : Int) := by simpa using h
      refine ⟨fun σ' H2 => H2 = H' ∧ σ' = [some (V.int a), some (V.int b), some (V.int m), some (V.int ((x % m : Nat) : Int))], ?_, ?_⟩
      · rintro σ' H2 ⟨rfl, rfl⟩
        exact ⟨x % m, Nat.mod_lt _ (by omega), rfl, m, x % m, rfl, rfl, by rw [← hg, Nat.gcd_comm x m, Nat.gcd_rec m x, Nat.gcd_comm]⟩
      · refine ⟨_, rfl, _, rfl, _, rfl, _, _, rfl, rfl, h, _, _, rfl, rfl, ?_⟩
        show _ = [some (V.int a), some (V.int b), some (V.int m), some (V.int ((x % m : Nat) : Int))]
        rw [← emod_nat]
        rfl
    · have h : ¬ (0 : Int) < (m : Int) := by simpa using h
      have : m = 0 := by omega
      subst this
      refine ⟨_, rfl, ?_⟩
      have hx : x = Nat.gcd a.natAbs b.natAbs := by rw [← hg, Nat.gcd_zero_right]
      rw [hx]
      exact gives_v k (Ex.refl _)


/-! ### factors -/
def okPr : V → Nat × Nat → Hp → Prop := fun v p H => ∃ b : Addr, v = .ref b ∧ H b = some (.tup [.int (p.1 : Nat), .int (p.2 : Nat)])
theorem mono_okPr : Mono okPr := fun v p H H' e ⟨b, h1, h2⟩ => ⟨b, h1, e _ _ h2 rfl⟩
abbrev PrsAt (H : Hp) (xs : List V) (l : List (Nat × Nat)) : Prop := Els okPr xs l H
abbrev isPrs (l : List (Nat × Nat)) : VP := isLs okPr l
theorem PrsAt.ex {H H' : Hp} {xs : List V} {l : List (Nat × Nat)} (e : Ex H H') (h : PrsAt H xs l) : PrsAt H' xs l := Els.ex mono_okPr (Ex.toF e) h
theorem PrsAt.snoc {H : Hp} {xs : List V} {l : List (Nat × Nat)} {a b c d : Nat} {q : Addr} {ys : List V} (h : PrsAt H xs l) (hq : H q = some (.lst ys)) (hb : H b = some (.tup [.int (c : Nat), .int (d : Nat)])) {o : HO} :
    PrsAt (upd H q o) (xs ++ [.ref b]) (l ++ [(c, d)]) := Els.snoc (Els.ex mono_okPr (ExF.put hq rfl) h) (mono_okPr _ _ _ _ (ExF.put hq rfl) ⟨b, rfl, hb⟩)
abbrev N_factors : List Str := ["n", "found", "divisor", "exponent"]
theorem sc_factors : FnScope N_factors ["n"] (defScope s_factors) := ⟨rfl, rfl, rfl, by decide +kernel, rfl, by decide +kernel, by decide +kernel⟩
def sp_factors : Sp := mkSp (α := Nat) (fun n => [.int n]) (fun n _ => 0 < n ∧ n < 2 ^ 20) (fun n => isPrs (factorsN n))
theorem stripN_no {f d n : Nat} (h : ¬ n % d = 0) : stripN f d n = (n, 0) := by
  cases f with
  | zero => rfl
  | succ f => unfold stripN; rw [if_neg h]
theorem facN_no {f n d : Nat} (h : ¬ d * d ≤ n) : facN f n d = lastN n := by
  cases f with
  | zero => rfl
  | succ f => unfold facN; rw [if_neg h]
theorem facN_yes {f n d : Nat} (h : d * d ≤ n) : facN (f + 1) n d = (if (stripN n d n).2 > 0 then [(d, (stripN n d n).2)] else []) ++ facN f (stripN n d n).1 (d + 1) := by
  rw [facN, if_pos h]
  split <;> rfl
theorem dec_le (a b : Nat) : decide ((a : Int) * (a : Int) ≤ (b : Int)) = decide (a * a ≤ b) := by
  rw [mul_nat]
  exact decide_eq_decide.mpr Int.ofNat_le
theorem dec_mod0 (a b : Nat) : decide (V.int ((a : Int) % (b : Int)) = .int 0) = decide (a % b = 0) := by
  rw [emod_nat]
  refine decide_eq_decide.mpr ⟨fun h => ?_, fun h => by rw [h]; rfl⟩
  have : ((a % b : Nat) : Int) = 0 := V.int.inj h
  omega
theorem dec_gt (a b : Nat) : decide (((a : Nat) : Int) < ((b : Nat) : Int)) = decide (a < b) := decide_eq_decide.mpr Int.ofNat_lt
theorem ok_factors (T : Tx K mg base) : Cal P w K mg base 1 "factors" sp_factors := by
  refine cal_of T.f_factors T.g_factors sc_factors (fun _ _ _ _ _ _ us hl => match us, hl with | [_], _ => rfl) (len_sp fun _ => rfl) any_sp ?_
  rintro f cdv A outer s H vs Q E hr ⟨n, rfl, ⟨n0, nb⟩, k⟩
  refine ⟨_, pss_cons (ps_set (i := 1) sc_factors.nd rfl (Or.inl rfl) (pe_lst pa_nil))
    (pss_cons (ps_set (i := 2) sc_factors.nd rfl (Or.inl rfl) pe_int)
    (pss_cons (ps_while PassesOwn.never (pt_cmpR op_le (pe_op op_mul (pv 2) (pv 2)) (pv 0) (nomark _)) (pss_cons (ps_set (i := 3) sc_factors.nd rfl (Or.inl rfl) pe_int)
      (pss_cons (ps_while PassesOwn.never (pt_cmpR op_eq (pe_op op_mod (pv 0) (pv 2)) pe_int (nomark _)) (pss_cons (ps_set (i := 0) sc_factors.nd rfl (Or.inl rfl) (pe_op op_fdiv (pv 0) (pv 2)))
        (pss_one (ps_aug (i := 3) sc_factors.nd rfl (Or.inl rfl) pe_int ip_add))))
      (pss_cons (ps_if (pt_cmpR op_gt (pv 3) pe_int (nomark _)) (pss_one (ps_expr (pe_bm PySem.F.plainAttrs_list PySem.F.slot_list_append PySem.F.type_list_append mt_append (pv 1) (pa_cons (pe_tup (pa_cons (pv 2) (pa_cons (pv 3) pa_nil))) pa_nil)))) (pss_nil))
      (pss_one (ps_aug (i := 2) sc_factors.nd rfl (Or.inl rfl) pe_int ip_add))))))
    (pss_cons (ps_if (pt_cmpR op_gt (pv 0) pe_int (nomark _)) (pss_one (ps_expr (pe_bm PySem.F.plainAttrs_list PySem.F.slot_list_append PySem.F.type_list_append mt_append (pv 1) (pa_cons (pe_tup (pa_cons (pv 0) (pa_cons pe_int pa_nil))) pa_nil)))) (pss_nil))
    (pss_one (ps_ret (pv 1)))))), ?_⟩
  refine q_asgL (i := 1) (el_lst ea_nil (by decide)) fun l H1 l0 e1 hl => ?_
  refine q_asg (i := 2) (ev_c) fun H2 e2 => ?_
  refine q_while (fun m σ' H' => ∃ (n' d : Nat) (dn : List (Nat × Nat)) (xs : List V) (o : Option V), σ' = [some (V.int n'), some (V.ref l), some (V.int d), o] ∧ Ex H H' ∧ H' l = some (.lst xs) ∧ PrsAt H' xs dn ∧
    n' < d + m ∧ 0 < n' ∧ n' ≤ n ∧ 2 ≤ d ∧ d ≤ 2 ^ 20 ∧ dn.length < d ∧ dn ++ facN m n' d = factorsN n) n ⟨n, 2, [], [], none, rfl, e1.trans e2, e2 _ _ hl, ⟨rfl, fun i p h => by simp at h⟩, by omega, n0, Nat.le_refl n, by omega, by decide, by decide, rfl⟩ ?_
  rintro m σ' H' ⟨n', d, dn, xs, o, rfl, ex, hl', hp, hm, h0, hle, d2, db, hdl, hf⟩
  have hlen : dn.length < 20 := by
    have h1 := congrArg List.length hf
    rw [List.length_append] at h1
    have := factorsN_len n0 nb
    omega
  have h64 : -(2 ^ 64) < ((d : Nat) : Int) ∧ ((d : Nat) : Int) < 2 ^ 64 := by omega
  refine ⟨_, et_is (et_test (ev_op (ev_op (ev_var rfl) (ev_var rfl) (rv_I (cm1 h64))) (ev_var rfl) rv_I0)) (dec_le d n'), fun c H3 e3 => ⟨fun σ2 H2 => ∃ m', m' < m ∧ _, fun _ _ h => h, ?_⟩, fun c H3 e3 => ?_⟩
  · have c : d * d ≤ n' := of_decide_eq_true c
    have d20 : d < 2 ^ 20 := by
      have : d * 1 ≤ d * d := Nat.mul_le_mul_left d (by omega)
      omega
    obtain ⟨m, rfl⟩ : ∃ q, m = q + 1 := ⟨m - 1, by
      have : d * 1 ≤ d * d := Nat.mul_le_mul_left d (by omega)
      omega⟩
    rw [facN_yes c] at hf
    obtain ⟨s1, s2, s3⟩ := stripN_ok n' d n' (Nat.le_refl n') h0 d2
    refine q_asg (i := 3) (ev_c) fun H4 e4 => ?_
    refine q_while (fun m2 σ2 H2 => ∃ (f n2 x : Nat), m2 = n2 ∧ σ2 = [some (V.int n2), some (V.ref l), some (V.int d), some (V.int x)] ∧ Ex H3 H2 ∧ 0 < n2 ∧ n2 ≤ f ∧ (stripN f d n2).1 = (stripN n' d n').1 ∧ (stripN f d n2).2 + x = (stripN n' d n').2) n' ⟨n', n', 0, rfl, rfl, e4, h0, Nat.le_refl _, rfl, rfl⟩ ?_
    rintro m2 σ2 H5 ⟨f, _, x, rfl, rfl, e5, n20, hf2, hs1, hs2⟩
    refine ⟨_, et_is (et_test (ev_op (ev_op (ev_var rfl) (ev_var rfl) (rv_I (show (0 : Int) < (d : Int) by omega))) ev_c (rv_eq rfl))) (dec_mod0 m2 d), fun c2 H6 e6 => ⟨fun σ3 H3 => ∃ m', m' < m2 ∧ _, fun _ _ h => h, ?_⟩, fun c2 H6 e6 => ?_⟩
    · have c2 : m2 % d = 0 := of_decide_eq_true c2
      refine q_asgI (i := 0) (ev_op (ev_var rfl) (ev_var rfl) (rv_I ⟨by omega, by omega⟩)) (ediv_nat m2 d) fun H7 e7 => ?_
      refine s_aug rfl (ev_c) fun H8 e8 => ?_
      obtain ⟨f, rfl⟩ : ∃ q, f = q + 1 := ⟨f - 1, by omega⟩
      rw [stripN, if_pos c2] at hs1 hs2
      have q0 : 0 < m2 / d := Nat.div_pos (Nat.le_of_dvd n20 (Nat.dvd_of_mod_eq_zero c2)) (by omega)
      have ql : m2 / d < m2 := Nat.div_lt_self n20 (by omega)
      exact ⟨m2 / d, ql, f, m2 / d, x + 1, rfl, rfl, e5.trans (e6.trans (e7.trans e8)), q0, by omega, hs1, by simp only at hs2; omega⟩
    · have c2 : ¬ m2 % d = 0 := of_decide_eq_false c2
      rw [stripN_no c2] at hs1 hs2
      have hs1 : m2 = (stripN n' d n').1 := hs1
      have hs2 : 0 + x = (stripN n' d n').2 := hs2
      rw [Nat.zero_add] at hs2
      rw [← hs1, ← hs2] at hf
      rw [← hs1] at s3
      have hn2 : m2 ≤ n' := by
        have := stripN_ok n' d n' (Nat.le_refl n') h0 d2
        rw [← hs1] at this
        exact Nat.le_of_dvd h0 ⟨_, this.1⟩
      have e36 : Ex H3 H6 := e5.trans e6
      have l6 : H6 l = some (.lst xs) := e36 _ _ (e3 _ _ hl')
      have p6 : PrsAt H6 xs dn := hp.ex (e3.trans e36)
      have x6 : Ex H H6 := ex.trans (e3.trans e36)
      refine q_if (et_test (ev_op (ev_var rfl) ev_c rv_I0)) (fun c3 H8 e8 => ?_) (fun c3 H8 e8 => ?_)
      · have c3 : x > 0 := by
          have := of_decide_eq_true c3
          omega
        rw [if_pos c3] at hf
        refine s_appU (e8 _ _ l6) (ev_var rfl) (eu2 (ev_var rfl) (ev_var rfl)) (by have := p6.1; omega) fun b H9 b0 e9 hb => ?_
        refine s_aug rfl (ev_c) fun H10 e10 => ?_
        have l9 := e9 _ _ (e8 _ _ l6)
        refine ⟨m, Nat.lt_succ_self m, m2, d + 1, dn ++ [(d, x)], _, _, rfl, (Ex.mut (x6.trans (e8.trans e9)) l0).trans e10, e10 _ _ upd_same, ((p6.ex (e8.trans e9)).snoc (a := 0) l9 hb).ex e10, by omega, s3, by omega, by omega, by omega, by simp; omega, by rw [← hf]; simp⟩
      · have c3 : x = 0 := by
          have := of_decide_eq_false c3
          omega
        subst c3
        rw [if_neg (by omega)] at hf
        refine s_aug rfl (ev_c) fun H10 e10 => ?_
        exact ⟨m, Nat.lt_succ_self m, m2, d + 1, dn, _, _, rfl, x6.trans (e8.trans e10), (e8.trans e10) _ _ l6, p6.ex (e8.trans e10), by omega, s3, by omega, by omega, by omega, by omega, hf⟩
  · have c : ¬ d * d ≤ n' := of_decide_eq_false c
    rw [facN_no c] at hf
    refine q_if (et_test (ev_op (ev_var rfl) ev_c rv_I0)) (fun c3 H8 e8 => ?_) (fun c3 H8 e8 => ?_)
    · have c3 : n' > 1 := by
        have := of_decide_eq_true c3
        omega
      rw [lastN, if_pos c3] at hf
      have e38 := e3.trans e8
      refine s_appU (e38 _ _ hl') (ev_var rfl) (eu2 (ev_var rfl) ev_c) (by have := hp.1; omega) fun b H9 b0 e9 hb => ?_
      refine s_ret (ev_var rfl) fun H10 e10 => ?_
      have l9 := e9 _ _ (e38 _ _ hl')
      exact k.go ((Ex.mut (ex.trans (e38.trans e9)) l0).trans e10) ⟨l, _, rfl, l0, e10 _ _ upd_same, by
        rw [← hf]
        exact ((hp.ex (e38.trans e9)).snoc (a := 0) l9 hb).ex e10⟩
    · have c3 : ¬ n' > 1 := by
        have := of_decide_eq_false c3
        omega
      rw [lastN, if_neg c3, List.append_nil] at hf
      refine s_ret (ev_var rfl) fun H10 e10 => ?_
      have e := e3.trans (e8.trans e10)
      exact k.go (ex.trans e) ⟨l, xs, rfl, l0, e _ _ hl', by rw [← hf]; exact hp.ex e⟩

/-! ### is_prime -/
abbrev N_is_prime : List Str := ["n", "divisor"]
theorem sc_is_prime : FnScope N_is_prime ["n"] (defScope s_is_prime) := ⟨rfl, rfl, rfl, by decide +kernel, rfl, by decide +kernel, by decide +kernel⟩
def primeI (n : Int) : Bool := isPrimeN n.toNat
def sp_is_prime : Sp := mkSp (α := Int) (fun n => [.int n]) (fun n _ => n < 2 ^ 30) (fun n => isV (.bl (primeI n)))
theorem noDivN_no {f d n : Nat} (h : ¬ d * d ≤ n) : noDivN f n d = true := by
  cases f with
  | zero => rfl
  | succ f => unfold noDivN; rw [if_neg h]
theorem ok_is_prime (T : Tx K mg base)  : Cal P w K mg base 1 "is_prime" sp_is_prime := by
  refine cal_of T.f_is_prime T.g_is_prime sc_is_prime (fun _ _ _ _ _ _ us hl => match us, hl with | [_], _ => rfl) (len_sp fun _ => rfl) any_sp ?_
  rintro f cdv A outer s H vs Q E hr ⟨n, rfl, pre, k⟩
  refine ⟨_, pss_cons (ps_if (pt_cmpR op_lt (pv 0) pe_int (nomark _)) (pss_one (ps_ret pe_bl)) (pss_nil))
    (pss_cons (ps_set (i := 1) sc_is_prime.nd rfl (Or.inl rfl) pe_int)
    (pss_cons (ps_while PassesOwn.never (pt_cmpR op_le (pe_op op_mul (pv 1) (pv 1)) (pv 0) (nomark _)) (pss_cons (ps_if (pt_cmpR op_eq (pe_op op_mod (pv 0) (pv 1)) pe_int (nomark _)) (pss_one (ps_ret pe_bl)) (pss_nil))
      (pss_one (ps_aug (i := 1) sc_is_prime.nd rfl (Or.inl rfl) pe_int ip_add))))
    (pss_one (ps_ret pe_bl)))), ?_⟩
  have pre : n < 2 ^ 30 := pre
  refine q_if (et_test (ev_op (ev_var rfl) ev_c rv_I0)) (fun c H1 e1 => ?_) (fun c H1 e1 => ?_)
  · have c : n < 2 := of_decide_eq_true c
    have hv : primeI n = false := by
      unfold primeI isPrimeN
      rw [decide_eq_false (show ¬ 2 ≤ n.toNat by omega)] <;> rfl
    exact s_ret (ev_c) fun H2 e2 => gives_ve k (e1.trans e2) (by show _ = V.bl (primeI n); rw [hv])
  have c : ¬ n < 2 := of_decide_eq_false c
  obtain ⟨n, rfl⟩ : ∃ q : Nat, n = q := ⟨n.toNat, by omega⟩
  have hv : primeI n = noDivN n n 2 := by
    unfold primeI isPrimeN
    rw [Int.toNat_natCast, decide_eq_true (show 2 ≤ n by omega)] <;> rfl
  refine q_asg (i := 1) (ev_c) fun H3 e3 => ?_
  refine q_while (fun m σ' H' => ∃ d : Nat, σ' = [some (V.int n), some (V.int d)] ∧ Ex H H' ∧ n < d + m ∧ 2 ≤ d ∧ d ≤ 2 ^ 30 ∧ noDivN m n d = primeI n) n ⟨2, rfl, e1.trans e3, by omega, by omega, by decide, hv.symm⟩ ?_
  rintro m σ' H' ⟨d, rfl, ex, hm, d2, db, hd⟩
  have h64 : -(2 ^ 64) < ((d : Nat) : Int) ∧ ((d : Nat) : Int) < 2 ^ 64 := by omega
  refine ⟨_, et_is (et_test (ev_op (ev_op (ev_var rfl) (ev_var rfl) (rv_I (cm1 h64))) (ev_var rfl) rv_I0)) (dec_le d n), fun c H4 e4 => ⟨fun σ3 H3 => ∃ m', m' < m ∧ _, fun _ _ h => h, ?_⟩, fun c H4 e4 => ?_⟩
  · have c : d * d ≤ n := of_decide_eq_true c
    have dn : d ≤ n := by
      have : d * 1 ≤ d * d := Nat.mul_le_mul_left d (by omega)
      omega
    obtain ⟨m, rfl⟩ : ∃ q, m = q + 1 := ⟨m - 1, by omega⟩
    rw [noDivN, if_pos c] at hd
    refine q_if (et_is (et_test (ev_op (ev_op (ev_var rfl) (ev_var rfl) (rv_I (show (0 : Int) < (d : Int) by omega))) ev_c (rv_eq rfl))) (dec_mod0 n d)) (fun c H5 e5 => ?_) (fun c H5 e5 => ?_)
    · rw [if_pos (of_decide_eq_true c)] at hd
      exact s_ret (ev_c) fun H6 e6 => gives_ve k (ex.trans (e4.trans (e5.trans e6))) (by show _ = V.bl (primeI n); rw [← hd])
    · rw [if_neg (of_decide_eq_false c)] at hd
      refine s_aug rfl (ev_c) fun H7 e7 => ?_
      exact ⟨m, Nat.lt_succ_self m, d + 1, rfl, ex.trans (e4.trans (e5.trans e7)), by omega, by omega, by omega, hd⟩
  · rw [noDivN_no (of_decide_eq_false c)] at hd
    exact s_ret (ev_c) fun H6 e6 => gives_ve k (ex.trans (e4.trans e6)) (by show _ = V.bl (primeI n); rw [← hd])

/-! ### factor_of, sign -/
def twoI (m : Nat) : Int := if m % 8 = 3 ∨ m % 8 = 5 then -1 else 1
def turnI (n m : Nat) : Int := if n % 4 = 3 ∧ m % 4 = 3 then -1 else 1
abbrev N_factor_of : List Str := ["rule", "n", "m"]
theorem sc_factor_of : FnScope N_factor_of ["rule", "n", "m"] (defScope s_factor_of) := ⟨rfl, rfl, rfl, by decide +kernel, rfl, by decide +kernel, by decide +kernel⟩
def sp_factor_of : Sp := mkSp (α := Bool × Nat × Nat) (fun a => [.str (if a.1 then "two" else "turn"), .int a.2.1, .int a.2.2]) (fun _ _ => True) (fun a => isV (.int (if a.1 then twoI a.2.2 else turnI a.2.1 a.2.2)))
theorem dec_mod (a b : Nat) (c : Nat) : decide (V.int ((a : Int) % ((b : Nat) : Int)) = .int ((c : Nat) : Int)) = decide (a % b = c) := by
  rw [emod_nat]
  refine decide_eq_decide.mpr ⟨fun h => ?_, fun h => by rw [h]⟩
  have : ((a % b : Nat) : Int) = c := V.int.inj h
  omega
theorem ok_factor_of (T : Tx K mg base)  : Cal P w K mg base 1 "factor_of" sp_factor_of := by
  refine cal_of T.f_factor_of T.g_factor_of sc_factor_of (fun _ _ _ _ _ _ us hl => match us, hl with | [_, _, _], _ => rfl) (len_sp fun _ => rfl) any_sp ?_
  rintro f cdv A outer s H vs Q E hr ⟨⟨rule, n, m⟩, rfl, pre, k⟩
  refine ⟨_, pss_cons (ps_if (PW.pt (pw_and (pt_cmpR op_eq (pv 0) pe_str (nomark _)) (pw_and1 (pt_cmpR op_in_seq (pe_op op_mod (pv 2) pe_int) (pe_tup (pa_cons pe_int (pa_cons pe_int pa_nil))) (by rfl))))) (pss_one (ps_ret (pe_un un_neg pe_int))) (pss_nil))
    (pss_cons (ps_if (PW.pt (pw_and (pt_cmpR op_eq (pv 0) pe_str (nomark _)) (pw_and1 (pt_cmpR op_eq (pe_op op_mod (pv 2) pe_int) pe_int (nomark _))))) (pss_one (ps_ret (pe_un un_neg pe_int))) (pss_nil))
    (pss_cons (ps_if (PW.pt (pw_and (pt_cmpR op_eq (pv 0) pe_str (nomark _)) (pw_and (pt_cmpR op_eq (pe_op op_mod (pv 1) pe_int) pe_int (nomark _)) (pw_and1 (pt_cmpR op_eq (pe_op op_mod (pv 2) pe_int) pe_int (nomark _)))))) (pss_one (ps_ret (pe_un un_neg pe_int))) (pss_nil))
    (pss_one (ps_ret pe_int)))), ?_⟩
  cases rule with
  | true =>
    refine q_if (et_and (et_is (et_test (ev_op (ev_var rfl) ev_c (rv_eq rfl))) (b := true) rfl) fun _ => (et_test (ev_inU (ev_op (ev_var rfl) ev_c (rv_I (show (0:Int) < 8 by decide))) (eu2 ev_c ev_c) rfl rfl))) (fun c H1 e1 => ?_) (fun c H1 e1 => ?_)
    · refine s_ret (ev_un ev_c ru_neg) fun H2 e2 => ?_
      have : twoI m = -1 := by
        unfold twoI
        rw [if_pos]
        simp [inV, eqV] at c
        omega
      exact gives_ve k (e1.trans e2) (by show _ = V.int (twoI m); rw [this])
    have h2 : twoI m = 1 := by
      unfold twoI
      rw [if_neg]
      simp [inV, eqV] at c
      omega
    refine q_when (et_and (b := true) (et_is (et_test (ev_op (ev_var rfl) ev_c (rv_eq rfl))) (b := false) rfl) fun h => absurd h (by decide)) (fun c H3 e3 => absurd c (by decide)) (fun c H3 e3 => ?_)
    refine q_when (et_and (b := true) (et_is (et_test (ev_op (ev_var rfl) ev_c (rv_eq rfl))) (b := false) rfl) fun h => absurd h (by decide)) (fun c H5 e5 => absurd c (by decide)) (fun c H5 e5 => ?_)
    exact s_ret (ev_c) fun H7 e7 => gives_ve k (e1.trans (e3.trans (e5.trans e7))) (by show _ = V.int (twoI m); rw [h2])
  | false =>
    refine q_when (et_and (b := true) (et_is (et_test (ev_op (ev_var rfl) ev_c (rv_eq rfl))) (b := false) rfl) fun h => absurd h (by decide)) (fun c H3 e3 => absurd c (by decide)) (fun c H1 e1 => ?_)
    refine q_when (et_and (b := true) (et_is (et_test (ev_op (ev_var rfl) ev_c (rv_eq rfl))) (b := false) rfl) fun h => absurd h (by decide)) (fun c H5 e5 => absurd c (by decide)) (fun c H3 e3 => ?_)
    refine q_when (et_and (et_is (et_test (ev_op (ev_var rfl) ev_c (rv_eq rfl))) (b := true) rfl) fun _ => et_and (et_is (et_test (ev_op (ev_op (ev_var rfl) ev_c (rv_I (show (0:Int) < 4 by decide))) ev_c (rv_eq rfl))) (dec_mod n 4 3)) fun _ => et_is (et_test (ev_op (ev_op (ev_var rfl) ev_c (rv_I (show (0:Int) < 4 by decide))) ev_c (rv_eq rfl))) (dec_mod m 4 3)) (fun c H5 e5 => ?_) (fun c H5 e5 => ?_)
    · have : turnI n m = -1 := by
        unfold turnI
        rw [if_pos]
        simpa using c
      exact s_ret (ev_un ev_c ru_neg) fun H7 e7 => gives_ve k (e1.trans (e3.trans (e5.trans e7))) (by show _ = V.int (turnI n m); rw [this])
    · have : turnI n m = 1 := by
        unfold turnI
        rw [if_neg]
        simpa using c
      exact s_ret ev_c fun H7 e7 => gives_ve k (e1.trans (e3.trans (e5.trans e7))) (by show _ = V.int (turnI n m); rw [this])
end
end EP
end

section
set_option Elab.async false
set_option linter.all false
set_option maxRecDepth 100000
set_option maxHeartbeats 4000000
/-! D2: small defs over numbers. -/
namespace EP
open PySem PySem.Spec PyProof.Rows L2 Evl
section
variable {P : Program} {w : World} {K : PySem.W.Frag} {mg : Str → Option Value} {base : Heap}
theorem dec_i0 (a : Nat) : decide (V.int ((a : Nat) : Int) = .int 0) = decide (a = 0) := by
  refine decide_eq_decide.mpr ⟨fun h => ?_, fun h => by rw [h]; rfl⟩
  have := V.int.inj h
  omega
theorem dec_ii (a b : Nat) : decide (V.int ((a : Nat) : Int) = .int ((b : Nat) : Int)) = decide (a = b) := by
  refine decide_eq_decide.mpr ⟨fun h => ?_, fun h => by rw [h]⟩
  have := V.int.inj h
  omega
/-! ### the modulus -/
abbrev N_checked_modulus_signs : List Str := ["m"]
theorem sc_checked_modulus_signs : FnScope N_checked_modulus_signs ["m"] (defScope s_checked_modulus_signs) := ⟨rfl, rfl, rfl, by decide +kernel, rfl, by decide +kernel, by decide +kernel⟩
def sp_checked_modulus_signs : Sp := mkSp (α := Nat) (fun m => [.int m]) (fun m _ => 0 < m ∧ m % 2 = 1) (fun _ => isV .non)
theorem ok_checked_modulus_signs (T : Tx K mg base) : Cal P w K mg base 1 "checked_modulus_signs" sp_checked_modulus_signs := by
  refine cal_of T.f_checked_modulus_signs T.g_checked_modulus_signs sc_checked_modulus_signs (fun _ _ _ _ _ _ us hl => match us, hl with | [_], _ => rfl) (len_sp fun _ => rfl) any_sp ?_
  rintro f cdv A outer s H vs Q E hr ⟨m, rfl, ⟨m0, m1⟩, k⟩
  refine ⟨_, pss_one (ps_if (PW.pt (pw_or (pt_cmpR op_lt (pv 0) pe_int (nomark _)) (pw_or1 (pt_cmpR op_eq (pe_op op_mod (pv 0) pe_int) pe_int (nomark _))))) (pss_one (ps_never)) (pss_nil)), ?_⟩
  refine s_when (b := false) (et_or (a := false) (b := false) (et_is (et_test (ev_op (ev_var rfl) ev_c rv_I0)) (decide_eq_false (by omega))) fun c => (et_is (et_test (ev_op (ev_op (ev_var rfl) ev_c (rv_I (show (0:Int) < 2 by decide))) ev_c (rv_eq rfl))) ((dec_mod0 m 2).trans (decide_eq_false (by omega))))) (fun c => absurd c (by decide)) (fun c H1 e1 => gives_v k e1)
abbrev N_checked_modulus_values : List Str := ["modulus"]
theorem sc_checked_modulus_values : FnScope N_checked_modulus_values ["modulus"] (defScope s_checked_modulus_values) := ⟨rfl, rfl, rfl, by decide +kernel, rfl, by decide +kernel, by decide +kernel⟩
def sp_checked_modulus_values : Sp := mkSp (α := Nat) (fun m => [.int m]) (fun m _ => 0 < m ∧ m ≤ 4000) (fun _ => isV .non)
theorem ok_checked_modulus_values (T : Tx K mg base) : Cal P w K mg base 1 "checked_modulus_values" sp_checked_modulus_values := by
  refine cal_of T.f_checked_modulus_values T.g_checked_modulus_values sc_checked_modulus_values (fun _ _ _ _ _ _ us hl => match us, hl with | [_], _ => rfl) (len_sp fun _ => rfl) any_sp ?_
  rintro f cdv A outer s H vs Q E hr ⟨m, rfl, ⟨m0, m1⟩, k⟩
  refine ⟨_, pss_cons (ps_if (pt_cmpR op_lt (pv 0) pe_int (nomark _)) (pss_one (ps_never)) (pss_nil))
      (pss_one (ps_if (pt_cmpR op_gt (pv 0) (pe_gi rfl T.i_MOST_MODULUS) (nomark _)) (pss_one (ps_never)) (pss_nil))), ?_⟩
  refine q_when (b := false) (et_is (et_test (ev_op (ev_var rfl) ev_c rv_I0)) (decide_eq_false (by omega))) (fun c => absurd c (by decide)) (fun c H1 e1 => ?_)
  exact s_when (b := false) (et_is (et_test (ev_op (ev_var rfl) ev_c rv_I0)) (decide_eq_false (by omega))) (fun c => absurd c (by decide)) (fun c H2 e2 => gives_v k (e1.trans e2))
/-! ### units, odd_divisors -/
abbrev N_units : List Str := ["modulus", "rest"]
theorem sc_units : FnScope N_units ["modulus"] (defScope s_units) := ⟨rfl, rfl, rfl, by decide +kernel, rfl, by decide +kernel, by decide +kernel⟩
def sp_units : Sp := mkSp (α := Nat) (fun m => [.int m]) (fun m _ => m ≤ 4000) (fun m => isL (nv (unitsN m)))
theorem ok_units (T : Tx K mg base) : Cal P w K mg base 2 "units" sp_units := by
  refine cal_of T.f_units T.g_units sc_units (fun _ _ _ _ _ _ us hl => match us, hl with | [_], _ => rfl) (len_sp fun _ => rfl) any_sp ?_
  rintro f cdv A outer s H vs Q E hr ⟨m, rfl, hm, k⟩
  have hm : m ≤ 4000 := hm
  refine ⟨_, pss_one (ps_ret (pe_lc (own := [("rest", 1)]) (g := gName 1) (by rfl) sc_units.nd (pi_range1 (by rfl) T.b_range (pa_cons (pv 0) pa_nil)) (blkOk_by (own := [("rest", 1)]) (N := N_units) (sc := defScope s_units) (by decide +kernel)) (fun _ _ _ _ _ => pg_name (i := 1) sc_units.nd rfl (Or.inl rfl)) (fun _ _ _ _ _ => pts_one (pt_cmpR op_eq (pe_c (ok_common T) hr (by decide) (by rfl) (pa_cons (pv 1) (pa_cons (pv 0) pa_nil))) pe_int (nomark _))) (fun _ _ _ _ _ => pv 1))), ?_⟩
  refine s_retP (el_p ?_) k
  refine el_lcV (l := List.range m) (w := fun n : Nat => V.int n) (fun r => Nat.gcd r m == 1) (fun _ r => [some (V.int m), some (V.int r)]) (eis_n (ea_cons (ev_var rfl) ea_nil) (by omega)) mono_okv (by rw [List.length_range]; omega) ?_ (fun _ _ _ _ _ => rfl) ?_ (fun x _ _ v H1 _ _ => ev_var rfl)
  · rintro x - v H1 - rfl R hR
    exact hR H1 (Ex.refl H1)
  · intro x _ v H1 e1 _
    refine et_is (et_test (ev_op (p_ev (ev_cal (ea2 (ev_var rfl) (ev_var rfl)) (sp_mk' ((x : Int), (m : Int)) rfl fun _ _ => trivial))) ev_c (rv_eq rfl))) ?_
    exact dec_ii (Nat.gcd x m) 1
abbrev N_odd_divisors : List Str := ["modulus", "prime", "exponent"]
theorem sc_odd_divisors : FnScope N_odd_divisors ["modulus"] (defScope s_odd_divisors) := ⟨rfl, rfl, rfl, by decide +kernel, rfl, by decide +kernel, by decide +kernel⟩
def sp_odd_divisors : Sp := mkSp (α := Nat) (fun m => [.int m]) (fun m _ => 0 < m ∧ m < 2 ^ 20) (fun m => isL (nv (oddDivN m)))
theorem ok_odd_divisors (T : Tx K mg base) : Cal P w K mg base 2 "odd_divisors" sp_odd_divisors := by
  refine cal_of T.f_odd_divisors T.g_odd_divisors sc_odd_divisors (fun _ _ _ _ _ _ us hl => match us, hl with | [_], _ => rfl) (len_sp fun _ => rfl) any_sp ?_
  rintro f cdv A outer s H vs Q E hr ⟨m, rfl, ⟨m0, mb⟩, k⟩
  refine ⟨_, pss_one (ps_ret (pe_lc (own := [("prime", 1), ("exponent", 2)]) (g := gTup K 2 (gCons (gName 1) (gCons (gName 2) gNil))) (by rfl) sc_odd_divisors.nd (pi_list (pe_c (ok_factors T) hr (by decide) (by rfl) (pa_cons (pv 0) pa_nil))) (blkOk_by (own := [("prime", 1), ("exponent", 2)]) (N := N_odd_divisors) (sc := defScope s_odd_divisors) (by decide +kernel)) (fun _ _ _ _ _ => pg_tup (by rfl) (pgs_cons (pg_name (i := 1) sc_odd_divisors.nd rfl (Or.inl rfl)) (pgs_cons (pg_name (i := 2) sc_odd_divisors.nd rfl (Or.inl rfl)) pgs_nil))) (fun _ _ _ _ _ => pts_one (pt_cmpR op_ne (pv 1) pe_int (nomark _))) (fun _ _ _ _ _ => pv 1))), ?_⟩
  refine s_retP (el_p ?_) k
  have hn : nv (oddDivN m) = ((factorsN m).filter fun p => p.1 != 2).map fun p => V.int (p.1 : Nat) := by
    unfold oddDivN nv
    rw [List.map_map]
    rfl
  rw [hn]
  refine el_lcV (l := factorsN m) (ok := okPr) (w := fun p => V.int (p.1 : Nat)) (fun p => p.1 != 2) (fun _ p => [some (V.int m), some (V.int (p.1 : Nat)), some (V.int (p.2 : Nat))]) (eis_lp (ev_cal (ea_cons (ev_var rfl) ea_nil) (sp_mk' m rfl fun _ _ => ⟨m0, mb⟩))) mono_okPr (by have := factorsN_len m0 mb; omega) ?_ (fun _ _ _ _ _ => rfl) ?_ (fun x _ _ v H1 _ _ => ev_var rfl)
  · rintro x - v H1 e1 ⟨b, rfl, hb⟩ R hR
    exact ⟨b, [V.int (x.1 : Nat), V.int (x.2 : Nat)], rfl, SqT.of hb, rfl, _, _, rfl, _, _, rfl, rfl, hR H1 (Ex.refl H1)⟩
  · intro x _ v H1 e1 _
    refine et_is (et_test (ev_op (ev_var rfl) ev_c (rv_ne rfl))) ?_
    exact congrArg not (dec_ii x.1 2)
/-! ### singles -/
abbrev N_checked_singles : List Str := ["singles", "p"]
theorem sc_checked_singles : FnScope N_checked_singles ["singles"] (defScope s_checked_singles) := ⟨rfl, rfl, rfl, by decide +kernel, rfl, by decide +kernel, by decide +kernel⟩
def sp_checked_singles : Sp := mkSp (α := Addr × List Nat) (fun a => [.ref a.1]) (fun a H => H a.1 = some (.lst (nv a.2)) ∧ ∀ p ∈ a.2, Prime p ∧ p ≠ 2 ∧ p < 2 ^ 20) (fun _ => isV .non)
theorem ok_checked_singles (T : Tx K mg base) : Cal P w K mg base 2 "checked_singles" sp_checked_singles := by
  refine cal_of T.f_checked_singles T.g_checked_singles sc_checked_singles (fun _ _ _ _ _ _ us hl => match us, hl with | [_], _ => rfl) (len_sp fun _ => rfl) any_sp ?_
  rintro f cdv A outer s H vs Q E hr ⟨⟨a, l⟩, rfl, ⟨ha, hl⟩, k⟩
  refine ⟨_, pss_one (ps_for PassesOwn.never rfl (pi_list (pv 0)) (pg_name (i := 1) sc_checked_singles.nd rfl (Or.inl rfl)) (pss_one (ps_if (PW.pt (pw_or (pt_cmpR op_eq (pv 1) pe_int (nomark _)) (pw_or1 (pt_not (pt_val (pe_c (ok_is_prime T) hr (by decide) (by rfl) (pa_cons (pv 1) pa_nil))))))) (pss_one (ps_never)) (pss_nil)))), ?_⟩
  refine s_forL (ev_var rfl) (SqL.of ha) (fun i σ' H' => Ex H H' ∧ ∃ o, σ' = [some (.ref a), o]) (fun H1 e1 => ⟨e1, _, rfl⟩) (fun i σ' H' _ p => SqL.of (p.1 _ _ ha)) ?_ (fun σ' H' p => gives_v k p.1)
  rintro i x σ' H' hx ⟨ex, o, rfl⟩
  rw [List.getElem?_map] at hx
  cases hi : l[i]? with
  | none => rw [hi] at hx; cases hx
  | some p =>
    rw [hi] at hx
    cases hx
    obtain ⟨h1, h2, h3⟩ := hl p (List.mem_of_getElem? hi)
    refine s_when (b := false) (et_or (a := false) (b := false) (et_is (et_test (ev_op (ev_var rfl) ev_c (rv_eq rfl))) ?_) fun c => et_not (a := true) (et_is (et_test (p_ev (ev_cal (ea_cons (ev_var rfl) ea_nil) (sp_mk' (p : Int) rfl fun _ _ => by omega)))) ?_)) (fun c => absurd c (by decide)) (fun c H1 e1 => ⟨ex.trans e1, _, rfl⟩)
    · exact (dec_ii p 2).trans (decide_eq_false h2)
    · exact (isPrimeN_iff p).mpr h1
abbrev N_told_by : List Str := ["modulus", "rests", "p"]
theorem sc_told_by : FnScope N_told_by ["modulus", "rests", "p"] (defScope s_told_by) := ⟨rfl, rfl, rfl, by decide +kernel, rfl, by decide +kernel, by decide +kernel⟩
def sp_told_by (K : PySem.W.Frag) : Sp := mkSp (α := Nat × V × List Nat × Nat) (fun a => [.int a.1, a.2.1, .int a.2.2.2]) (fun a H => IntC K H a.2.1 (zs a.2.2.1) ∧ 0 < a.1 ∧ 0 < a.2.2.2) (fun a => isV (.bl (toldN a.1 a.2.2.1 a.2.2.2)))
theorem ok_told_by (T : Tx K mg base) : Cal P w K mg base 1 "told_by" (sp_told_by K) := by
  refine cal_of T.f_told_by T.g_told_by sc_told_by (fun _ _ _ _ _ _ us hl => match us, hl with | [_, _, _], _ => rfl) (len_sp fun _ => rfl) any_sp ?_
  rintro f cdv A outer s H vs Q E hr ⟨⟨m, y, l, p⟩, rfl, ⟨hc, m0, p0⟩, k⟩
  have m0 : 0 < m := m0
  have p0 : 0 < p := p0
  refine ⟨_, pss_one (ps_ret (pe_and (pe_cmpR op_ne (pe_op op_mod (pv 0) (pv 2)) pe_int (nomark _)) (pe_one (pe_cmpR (op_inCk K rfl (hu_of hr)) (pe_op op_mod (pv 2) (pv 0)) (pv 1) (by rfl))))), ?_⟩
  refine s_retP (ev_p (ev_andV (ev_eqB (ev_op (ev_op (ev_var rfl) (ev_var rfl) (rv_I (show (0:Int) < (p : Int) by omega))) ev_c (rv_ne rfl)) (b := decide (m % p ≠ 0)) ?_) fun _ => ev_eqB (ev_op (ev_eqI (ev_op (ev_var rfl) (ev_var rfl) (rv_I (show (0:Int) < (m : Int) by omega))) (emod_nat p m)) (ev_var rfl) (rv_inC hc)) mem_zs)) k
  rw [dec_mod0 m p]
  simp
abbrev N_toggled : List Str := ["singles", "p", "other"]
theorem sc_toggled : FnScope N_toggled ["singles", "p"] (defScope s_toggled) := ⟨rfl, rfl, rfl, by decide +kernel, rfl, by decide +kernel, by decide +kernel⟩
def sp_toggled : Sp := mkSp (α := Addr × List Nat × Nat) (fun a => [.ref a.1, .int a.2.2]) (fun a H => H a.1 = some (.lst (nv a.2.1)) ∧ a.2.1.length ≤ 10000) (fun a => isL (nv (toggleN a.2.1 a.2.2)))
theorem ok_toggled (T : Tx K mg base) : Cal P w K mg base 1 "toggled" sp_toggled := by
  refine cal_of T.f_toggled T.g_toggled sc_toggled (fun _ _ _ _ _ _ us hl => match us, hl with | [_, _], _ => rfl) (len_sp fun _ => rfl) any_sp ?_
  rintro f cdv A outer s H vs Q E hr ⟨⟨a, l, p⟩, rfl, ⟨ha, hl⟩, k⟩
  have hl : l.length ≤ 10000 := hl
  refine ⟨_, pss_cons (ps_if (pt_cmpR (op_inCk K rfl (hu_of hr)) (pv 1) (pv 0) (by rfl)) (pss_one (ps_ret (pe_lc (own := [("other", 2)]) (g := gName 2) (by rfl) sc_toggled.nd (pi_list (pv 0)) (blkOk_by (own := [("other", 2)]) (N := N_toggled) (sc := defScope s_toggled) (by decide +kernel)) (fun _ _ _ _ _ => pg_name (i := 2) sc_toggled.nd rfl (Or.inl rfl)) (fun _ _ _ _ _ => pts_one (pt_cmpR op_ne (pv 2) (pv 1) (nomark _))) (fun _ _ _ _ _ => pv 2)))) (pss_nil))
      (pss_one (ps_ret (pe_op op_cat (pv 0) (pe_lst (pa_cons (pv 1) pa_nil))))), ?_⟩
  refine q_when (et_is (et_test (ev_op (ev_var rfl) (ev_var rfl) (rv_inC (ns := zs l) ⟨a, rfl, .inl (by rw [iv_zs]; exact SqL.of ha)⟩))) mem_zs) (fun c H1 e1 => ?_) (fun c H1 e1 => ?_)
  · have c : p ∈ l := of_decide_eq_true c
    refine s_retP (P := isL (nv (l.filter fun x => x != p))) (el_p ?_) fun H0 v H2 e0 e2 hp => ?_
    · refine el_lcV (l := l) (ok := okv fun n : Nat => V.int n) (w := fun n : Nat => V.int n) (fun x => x != p) (fun _ x => [some (V.ref a), some (V.int p), some (V.int x)]) (eis_l mono_okv (ev_var rfl) (SqL.of (e1 _ _ ha)) (els_okv.mpr rfl)) mono_okv (by omega) ?_ (fun _ _ _ _ _ => rfl) ?_ (fun x _ _ v H1 _ _ => ev_var rfl)
      · rintro x - v H1 - rfl R hR
        exact hR H1 (Ex.refl H1)
      · intro x _ v H1 e1 _
        refine et_is (et_test (ev_op (ev_var rfl) (ev_var rfl) (rv_ne rfl))) ?_
        exact congrArg not (dec_ii x p)
    · exact k H0 v H2 (e1.trans e0) e2 (by
        show isL (nv (toggleN l p)) H0 v H2
        unfold toggleN
        rw [if_pos c]
        exact hp)
  · have c : p ∉ l := of_decide_eq_false c
    refine s_retP (P := isL (nv (l ++ [p]))) (el_p ?_) fun H0 v H2 e0 e2 hp => ?_
    · have : nv (l ++ [p]) = nv l ++ [V.int (p : Nat)] := by simp [nv]
      rw [this]
      exact el_of (ev_var rfl) (e1 _ _ ha) (el_lst (ea_cons (ev_var rfl) ea_nil) (by simp)) (by rw [nv_len]; simp; omega)
    · exact k H0 v H2 (e1.trans e0) e2 (by
        show isL (nv (toggleN l p)) H0 v H2
        unfold toggleN
        rw [if_neg c]
        exact hp)
/-! ### joined_answer -/
inductive Rule
  | con
  | dis
  | dif
def Rule.text : Rule → Str
  | .con => "and"
  | .dis => "or"
  | .dif => "minus"
def Rule.f : Rule → Bool → Bool → Bool
  | .con => fAnd
  | .dis => fOr
  | .dif => fMinus
abbrev N_joined_answer : List Str := ["rule", "first", "second"]
theorem sc_joined_answer : FnScope N_joined_answer ["rule", "first", "second"] (defScope s_joined_answer) := ⟨rfl, rfl, rfl, by decide +kernel, rfl, by decide +kernel, by decide +kernel⟩
def sp_joined_answer : Sp := mkSp (α := Rule × Bool × Bool) (fun a => [.str a.1.text, .bl a.2.1, .bl a.2.2]) (fun _ _ => True) (fun a => isV (.bl (a.1.f a.2.1 a.2.2)))
theorem ok_joined_answer (T : Tx K mg base) : Cal P w K mg base 1 "joined_answer" sp_joined_answer := by
  refine cal_of T.f_joined_answer T.g_joined_answer sc_joined_answer (fun _ _ _ _ _ _ us hl => match us, hl with | [_, _, _], _ => rfl) (len_sp fun _ => rfl) any_sp ?_
  rintro f cdv A outer s H vs Q E hr ⟨⟨r, x, y⟩, rfl, -, k⟩
  refine ⟨_, pss_cons (ps_if (pt_cmpR op_eq (pv 0) pe_str (nomark _)) (pss_one (ps_ret (pe_and (pv 1) (pe_one (pv 2))))) (pss_nil))
      (pss_cons (ps_if (pt_cmpR op_eq (pv 0) pe_str (nomark _)) (pss_one (ps_ret (pe_or (pv 1) (pe_one (pv 2))))) (pss_nil))
      (pss_one (ps_ret (pe_and (pv 1) (pe_one (pe_not (pv 2))))))), ?_⟩
  cases r with
  | con =>
    refine q_if (b := true) (et_is (et_test (ev_op (ev_var rfl) ev_c (rv_eq rfl))) rfl) (fun c H1 e1 => ?_) (fun c => absurd c (by decide))
    exact s_ret ((ev_andV (ev_var rfl) fun _ => (ev_var rfl))) fun H2 e2 => gives_v k (e1.trans e2)
  | dis =>
    refine q_when (b := false) (et_is (et_test (ev_op (ev_var rfl) ev_c (rv_eq rfl))) rfl) (fun c => absurd c (by decide)) (fun c H1 e1 => ?_)
    refine q_if (b := true) (et_is (et_test (ev_op (ev_var rfl) ev_c (rv_eq rfl))) rfl) (fun c H2 e2 => ?_) (fun c => absurd c (by decide))
    exact s_ret ((ev_orV (ev_var rfl) fun _ => (ev_var rfl))) fun H3 e3 => gives_v k (e1.trans (e2.trans e3))
  | dif =>
    refine q_when (b := false) (et_is (et_test (ev_op (ev_var rfl) ev_c (rv_eq rfl))) rfl) (fun c => absurd c (by decide)) (fun c H1 e1 => ?_)
    refine q_when (b := false) (et_is (et_test (ev_op (ev_var rfl) ev_c (rv_eq rfl))) rfl) (fun c => absurd c (by decide)) (fun c H2 e2 => ?_)
    exact s_ret ((ev_andV (ev_var rfl) fun _ => ev_notV (ev_var rfl))) fun H3 e3 => gives_v k (e1.trans (e2.trans e3))
end
end EP
end

section
set_option Elab.async false
set_option linter.all false
set_option maxRecDepth 100000
set_option maxHeartbeats 4000000
/-! D3: sign, shortened, least_description. -/
namespace EP
open PySem PySem.Spec PyProof.Rows L2 Evl
section
variable {P : Program} {w : World} {K : PySem.W.Frag} {mg : Str → Option Value} {base : Heap}
/-! ### sign -/
def evenN : Nat → Nat → Nat → Int → Nat × Int
  | 0, n, _, r => (n, r)
  | f + 1, n, m, r => if n % 2 = 0 then evenN f (n / 2) m (r * twoI m) else (n, r)
def signN : Nat → Nat → Nat → Int → Int
  | 0, _, m, r => if m = 1 then r else 0
  | f + 1, n, m, r => if n = 0 then (if m = 1 then r else 0) else signN f (m % (evenN n n m r).1) (evenN n n m r).1 ((evenN n n m r).2 * turnI (evenN n n m r).1 m)
def signI (n : Int) (m : Nat) : Int := signN m (n % (m : Int)).toNat m 1
theorem twoI_pm (m : Nat) : twoI m = 1 ∨ twoI m = -1 := by
  unfold twoI
  split
  · exact .inr rfl
  · exact .inl rfl
theorem turnI_pm (n m : Nat) : turnI n m = 1 ∨ turnI n m = -1 := by
  unfold turnI
  split
  · exact .inr rfl
  · exact .inl rfl
theorem pm_mul {a b : Int} (ha : a = 1 ∨ a = -1) (hb : b = 1 ∨ b = -1) : a * b = 1 ∨ a * b = -1 := by
  rcases ha with rfl | rfl <;> rcases hb with rfl | rfl <;> simp
theorem pm_cm {a b : Int} (ha : a = 1 ∨ a = -1) : CMul a b := cm1 (by omega)
theorem evenN_ok : ∀ (f n m : Nat) (r : Int), 0 < n → n ≤ f → (r = 1 ∨ r = -1) → 0 < (evenN f n m r).1 ∧ (evenN f n m r).1 ≤ n ∧ ((evenN f n m r).2 = 1 ∨ (evenN f n m r).2 = -1)
  | 0, n, m, r, h0, hf, hr => by omega
  | f + 1, n, m, r, h0, hf, hr => by
    unfold evenN
    by_cases h : n % 2 = 0
    · rw [if_pos h]
      have := evenN_ok f (n / 2) m (r * twoI m) (by omega) (by omega) (pm_mul hr (twoI_pm m))
      exact ⟨this.1, by omega, this.2.2⟩
    · rw [if_neg h]
      exact ⟨h0, Nat.le_refl n, hr⟩
theorem evenN_no {f n m : Nat} {r : Int} (h : ¬ n % 2 = 0) : evenN f n m r = (n, r) := by
  cases f with
  | zero => rfl
  | succ f => unfold evenN; rw [if_neg h]
theorem signN_no {f m : Nat} {r : Int} : signN f 0 m r = if m = 1 then r else 0 := by
  cases f with
  | zero => rfl
  | succ f => rw [signN, if_pos rfl]
abbrev N_sign : List Str := ["n", "m", "result"]
theorem sc_sign : FnScope N_sign ["n", "m"] (defScope s_sign) := ⟨rfl, rfl, rfl, by decide +kernel, rfl, by decide +kernel, by decide +kernel⟩
def sp_sign : Sp := mkSp (α := Int × Nat) (fun a => [.int a.1, .int a.2]) (fun a _ => 0 < a.2 ∧ a.2 % 2 = 1) (fun a => isV (.int (signI a.1 a.2)))
theorem ok_sign (T : Tx K mg base) : Cal P w K mg base 2 "sign" sp_sign := by
  refine cal_of T.f_sign T.g_sign sc_sign (fun _ _ _ _ _ _ us hl => match us, hl with | [_, _], _ => rfl) (len_sp fun _ => rfl) any_sp ?_
  rintro f cdv A outer s H vs Q E hr ⟨⟨n, m⟩, rfl, ⟨m0, m1⟩, k⟩
  have m0 : 0 < m := m0
  refine ⟨_, pss_cons (ps_expr (pe_c (ok_checked_modulus_signs T) hr (by decide) (by rfl) (pa_cons (pv 1) pa_nil)))
      (pss_cons (ps_set (i := 2) sc_sign.nd rfl (Or.inl rfl) pe_int)
      (pss_cons (ps_set (i := 0) sc_sign.nd rfl (Or.inl rfl) (pe_op op_mod (pv 0) (pv 1)))
      (pss_cons (ps_while PassesOwn.never (pt_cmpR op_ne (pv 0) pe_int (nomark _)) (pss_cons (ps_while PassesOwn.never (pt_cmpR op_eq (pe_op op_mod (pv 0) pe_int) pe_int (nomark _)) (pss_cons (ps_set (i := 0) sc_sign.nd rfl (Or.inl rfl) (pe_op op_fdiv (pv 0) pe_int))
          (pss_one (ps_set (i := 2) sc_sign.nd rfl (Or.inl rfl) (pe_op op_mul (pv 2) (pe_c (ok_factor_of T) hr (by decide) (by rfl) (pa_cons pe_str (pa_cons (pv 0) (pa_cons (pv 1) pa_nil)))))))))
        (pss_cons (ps_set (i := 2) sc_sign.nd rfl (Or.inl rfl) (pe_op op_mul (pv 2) (pe_c (ok_factor_of T) hr (by decide) (by rfl) (pa_cons pe_str (pa_cons (pv 0) (pa_cons (pv 1) pa_nil))))))
        (pss_one (ps_par (i := 0) (j := 1) (by rfl) sc_sign.nd rfl rfl (by decide) rfl rfl (pa_cons (pe_op op_mod (pv 1) (pv 0)) (pa_cons (pv 0) pa_nil)) (by rfl))))))
      (pss_cons (ps_if (pt_cmpR op_eq (pv 1) pe_int (nomark _)) (pss_one (ps_ret (pv 2))) (pss_nil))
      (pss_one (ps_ret pe_int)))))), ?_⟩
  refine q_dropP (ev_cal (ea_cons (ev_var rfl) ea_nil) (sp_mk' m rfl fun _ _ => ⟨m0, m1⟩)) fun H1 e1 => ?_
  refine q_asg (i := 2) (ev_c) fun H2 e2 => ?_
  have h0 := Int.emod_nonneg n (show (m : Int) ≠ 0 by omega)
  have hm := Int.emod_lt_of_pos n (show (0 : Int) < (m : Int) by omega)
  refine q_asgI (i := 0) (m := ((n % (m : Int)).toNat : Int)) (ev_op (ev_var rfl) (ev_var rfl) (rv_I (show (0:Int) < (m : Int) by omega))) (Int.toNat_of_nonneg h0).symm fun H3 e3 => ?_
  refine q_while (fun g σ' H' => ∃ (n' m' : Nat) (r : Int), σ' = [some (V.int n'), some (V.int m'), some (V.int r)] ∧ Ex H H' ∧ n' ≤ g ∧ (r = 1 ∨ r = -1) ∧ signN g n' m' r = signI n m) m ⟨(n % (m : Int)).toNat, m, 1, rfl, e1.trans (e2.trans e3), by omega, .inl rfl, rfl⟩ ?_
  rintro g σ' H' ⟨n', m', r, rfl, ex, hg, hr1, hs⟩
  refine ⟨!decide (n' = 0), et_is (et_test (ev_op (ev_var rfl) ev_c (rv_ne rfl))) (congrArg not (dec_i0 n')), fun c H4 e4 => ⟨fun σ2 H2 => ∃ g', g' < g ∧ _, fun _ _ h => h, ?_⟩, fun c H4 e4 => ?_⟩
  · have n0 : ¬ n' = 0 := by simpa using c
    obtain ⟨g, rfl⟩ : ∃ q, g = q + 1 := ⟨g - 1, by omega⟩
    rw [signN, if_neg n0] at hs
    refine q_while (fun g2 σ2 H2 => ∃ (f n2 : Nat) (r2 : Int), g2 = n2 ∧ σ2 = [some (V.int n2), some (V.int m'), some (V.int r2)] ∧ Ex H4 H2 ∧ 0 < n2 ∧ n2 ≤ f ∧ (r2 = 1 ∨ r2 = -1) ∧ evenN f n2 m' r2 = evenN n' n' m' r) n' ⟨n', n', r, rfl, rfl, Ex.refl _, by omega, Nat.le_refl _, hr1, rfl⟩ ?_
    rintro n2 σ2 H5 ⟨f, _, r2, rfl, rfl, e5, n20, hf2, hr2, hev⟩
    refine ⟨_, et_is (et_test (ev_op (ev_op (ev_var rfl) ev_c (rv_I (show (0 : Int) < 2 by decide))) ev_c (rv_eq rfl))) (dec_mod0 n2 2), fun c2 H6 e6 => ⟨fun σ3 H3 => ∃ m', m' < n2 ∧ _, fun _ _ h => h, ?_⟩, fun c2 H6 e6 => ?_⟩
    · have c2 : n2 % 2 = 0 := of_decide_eq_true c2
      refine q_asgI (i := 0) (ev_op (ev_var rfl) ev_c (rv_I ⟨by decide, by decide⟩)) (ediv_nat n2 2) fun H7 e7 => ?_
      refine s_asg (i := 2) (ev_op (ev_var rfl) (p_ev (ev_cal (ea_cons ev_c (ea_cons (ev_var rfl) (ea_cons (ev_var rfl) ea_nil))) (sp_mk' (true, n2 / 2, m') rfl fun _ _ => trivial))) (rv_I (pm_cm hr2))) fun H8 e8 => ?_
      obtain ⟨f, rfl⟩ : ∃ q, f = q + 1 := ⟨f - 1, by omega⟩
      rw [evenN, if_pos c2] at hev
      exact ⟨n2 / 2, by omega, f, n2 / 2, r2 * twoI m', rfl, rfl, e5.trans (e6.trans (e7.trans e8)), by omega, by omega, pm_mul hr2 (twoI_pm m'), hev⟩
    · have c2 : ¬ n2 % 2 = 0 := of_decide_eq_false c2
      rw [evenN_no c2] at hev
      have hn2 : n2 ≤ n' := by
        have := (evenN_ok n' n' m' r (by omega) (Nat.le_refl _) hr1).2.1
        rw [← hev] at this
        exact this
      rw [← hev] at hs
      refine q_asg (i := 2) (ev_op (ev_var rfl) (p_ev (ev_cal (ea_cons ev_c (ea_cons (ev_var rfl) (ea_cons (ev_var rfl) ea_nil))) (sp_mk' (false, n2, m') rfl fun _ _ => trivial))) (rv_I (pm_cm hr2))) fun H8 e8 => ?_
      refine ⟨_, rfl, _, rfl, _, _, rfl, rfl, show (0 : Int) < (n2 : Int) by omega, _, rfl, _, _, rfl, ?_⟩
      have hlt := Nat.mod_lt m' n20
      refine ⟨g, Nat.lt_succ_self g, m' % n2, n2, r2 * turnI n2 m', ?_, ex.trans (e4.trans (e5.trans (e6.trans e8))), by omega, pm_mul hr2 (turnI_pm _ _), hs⟩
      rw [← emod_nat]
      rfl
  · have n0 : n' = 0 := by simpa using c
    subst n0
    rw [signN_no] at hs
    refine q_when (et_is (et_test (ev_op (ev_var rfl) ev_c (rv_eq rfl))) (dec_ii m' 1)) (fun c H5 e5 => ?_) (fun c H5 e5 => ?_)
    · rw [if_pos (of_decide_eq_true c)] at hs
      exact s_ret (ev_var rfl) fun H6 e6 => gives_ve k (ex.trans (e4.trans (e5.trans e6))) (by rw [hs])
    · rw [if_neg (of_decide_eq_false c)] at hs
      exact s_ret ev_c fun H6 e6 => gives_ve k (ex.trans (e4.trans (e5.trans e6))) (by show _ = V.int (signI n m); rw [← hs])
/-! ### shortened -/
def optD : Option (List Nat) → VP
  | none => isV .non
  | some k => isD k
abbrev N_shortened : List Str := ["modulus", "rests", "prime", "smaller", "kept", "rest", "lifts", "found", "k", "lift"]
theorem sc_shortened : FnScope N_shortened ["modulus", "rests", "prime"] (defScope s_shortened) := ⟨rfl, rfl, rfl, by decide +kernel, rfl, by decide +kernel, by decide +kernel⟩
def sp_shortened : Sp := mkSp (α := Nat × Addr × List Nat × Nat) (fun a => [.int a.1, .ref a.2.1, .int a.2.2.2]) (fun a H => H a.2.1 = some (.dK (dk a.2.2.1)) ∧ 0 < a.1 ∧ a.1 ≤ 4000 ∧ Prime a.2.2.2 ∧ a.2.2.2 ∣ a.1) (fun a => optD (shortN a.1 a.2.2.1 a.2.2.2))
theorem not_in_take {l : List Nat} (hn : l.Nodup) {i x : Nat} (h : l[i]? = some x) : x ∉ l.take i := fun hm => by
  rw [List.mem_take_iff_getElem] at hm
  obtain ⟨j, hj, he⟩ := hm
  have hlt : i < l.length := by
    rw [List.getElem?_eq_some_iff] at h
    exact h.1
  have hx : l[i] = x := by
    rw [List.getElem?_eq_getElem hlt] at h
    exact Option.some.inj h
  have := (List.getElem_inj hn).mp (he.trans hx.symm)
  omega
theorem unitsN_len (m : Nat) : (unitsN m).length ≤ m := by
  unfold unitsN
  have := List.length_filter_le (fun r => Nat.gcd r m == 1) (List.range m)
  rw [List.length_range] at this
  exact this
theorem nv_at {l : List Nat} {i : Nat} {x : V} (h : (nv l)[i]? = some x) : ∃ n : Nat, l[i]? = some n ∧ x = .int n := by
  rw [List.getElem?_map] at h
  cases hi : l[i]? with
  | none => rw [hi] at h; cases h
  | some n =>
    rw [hi] at h
    cases h
    exact ⟨n, rfl, rfl⟩
theorem ok_shortened (T : Tx K mg base) : Cal P w K mg base 3 "shortened" sp_shortened := by
  refine cal_of T.f_shortened T.g_shortened sc_shortened (fun _ _ _ _ _ _ us hl => match us, hl with | [_, _, _], _ => rfl) (len_sp fun _ => rfl) any_sp ?_
  rintro f cdv A outer s H vs Q E hr ⟨⟨m, d0, rests, q⟩, rfl, ⟨hd0, m0, mb, hq, hdv⟩, k⟩
  have hq : Prime q := hq
  have m0 : 0 < m := m0
  have mb : m ≤ 4000 := mb
  have hdv : q ∣ m := hdv
  have q2 := hq.1
  have qm := Nat.le_of_dvd m0 hdv
  have sb : m / q ≤ m := Nat.div_le_self m q
  have q29 : q < 2 ^ 29 := by omega
  refine ⟨_, pss_cons (ps_set (i := 3) sc_shortened.nd rfl (Or.inr rfl) (pe_op op_fdiv (pv 0) (pv 2)))
      (pss_cons (ps_set (i := 4) sc_shortened.nd rfl (Or.inl rfl) pe_dnewK)
      (pss_cons (ps_for PassesOwn.never rfl (pi_list (pe_c (ok_units T) hr (by decide) (by rfl) (pa_cons (pv 3) pa_nil))) (pg_name (i := 5) sc_shortened.nd rfl (Or.inr rfl)) (pss_cons (ps_setLc (i := 6) (own := [("k", 8)]) (g := gName 8) (by rfl) sc_shortened.nd rfl rfl (sw_true rfl rfl rfl (by decide +kernel)) (pi_range1 (by rfl) T.b_range (pa_cons (pv 2) pa_nil)) (blkOk_by (own := [("k", 8)]) (N := N_shortened) (sc := defScope s_shortened) (by decide +kernel)) (fun _ _ _ _ _ => pg_name (i := 8) sc_shortened.nd rfl (Or.inl rfl)) (fun _ _ _ _ _ => pts_nil) (fun _ _ _ _ _ => pe_op op_add (pv 5) (pe_op op_mul (pv 8) (pv 3))))
        (pss_cons (ps_setLc (i := 7) (own := [("lift", 9)]) (g := gName 9) (by rfl) sc_shortened.nd rfl rfl (sw_true rfl rfl rfl (by decide +kernel)) (pi_list (pv 6)) (blkOk_by (own := [("lift", 9)]) (N := N_shortened) (sc := defScope s_shortened) (by decide +kernel)) (fun _ _ _ _ _ => pg_name (i := 9) sc_shortened.nd rfl (Or.inl rfl)) (fun _ _ _ _ _ => pts_one (pt_cmpR op_eq (pe_c (ok_common T) hr (by decide) (by rfl) (pa_cons (pv 9) (pa_cons (pv 0) pa_nil))) pe_int (nomark _))) (fun _ _ _ _ _ => pe_cmpR (op_inCk K rfl (hu_of hr)) (pv 9) (pv 1) (by rfl)))
        (pss_cons (ps_if (PW.pt (pw_and (pt_cmpR (op_in_seqk K rfl) pe_bl (pv 7) (by rfl)) (pw_and1 (pt_cmpR (op_in_seqk K rfl) pe_bl (pv 7) (by rfl))))) (pss_one (ps_ret pe_non)) (pss_nil))
        (pss_one (ps_if (pt_val (pe_ix (ix_listk K rfl) (pv 7) pe_int (fun _ _ => rfl))) (pss_one (ps_dput (hu_of hr) (pv 4) (pv 5) pe_bl rfl)) (pss_nil)))))))
      (pss_one (ps_ret (pv 4))))), ?_⟩
  refine q_asgI (i := 3) (ev_op (ev_var rfl) (ev_var rfl) (rv_I (cdiv hq.pos q29))) (ediv_nat m q) fun H1 e1 => ?_
  refine q_asgP (i := 4) ed_new fun H0 v H2 e0 e2 ⟨d, ev, dn, hd⟩ => ?_
  subst ev
  have d00 : H d = none := fresh_back (e1.trans e0) dn
  have e02 : Ex H H2 := e1.trans (e0.trans e2)
  refine q_forNL (p_el (ev_cal (ea_cons (ev_var rfl) ea_nil) (sp_mk' (m / q) rfl fun _ _ => by omega))) (fun p i σ' H' => ∃ o5 o6 o7, σ' = [some (V.int m), some (V.ref d0), some (V.int q), some (V.int (m / q : Nat)), some (V.ref d), o5, o6, o7, none, none] ∧ Ex H H' ∧ H' p = some (.lst (nv (unitsN (m / q)))) ∧
    H' d = some (.dK (dk (((unitsN (m / q)).take i).filter fun r => (foundN m q rests r).headD false))) ∧ ((unitsN (m / q)).take i).any (fun r => mixedN (foundN m q rests r)) = false)
    (fun p H3 p0 e3 hp => ⟨none, none, none, rfl, e02.trans e3, hp, e3 _ _ hd, rfl⟩) (fun p i σ' H' _ ⟨_, _, _, _, _, hp, _⟩ => SqL.of hp) ?_ ?_
  · rintro p i x σ' H' hx ⟨o5, o6, o7, rfl, ex, hp, hd', hmix⟩
    obtain ⟨r, hxi, rfl⟩ := nv_at hx
    have hr1 := List.mem_of_getElem? hxi
    obtain ⟨rl, rg⟩ := unitsN_mem.mp hr1
    have hd0' := ex _ _ hd0
    -- lifts
    refine q_asgL (i := 6) (xs := nv ((List.range q).map fun k => r + k * (m / q))) ?_ fun a6 H4 _ e4 h6 => ?_
    · have e : nv ((List.range q).map fun k => r + k * (m / q)) = (List.range q).map fun k : Nat => V.int ((r : Int) + (k : Int) * ((m / q : Nat) : Int)) := by
        unfold nv
        rw [List.map_map]
        refine List.map_congr_left fun k _ => ?_
        show V.int ((r + k * (m / q) : Nat) : Int) = _
        rw [← add_nat, ← mul_nat]
      rw [e]
      refine el_lc1 (fun _ k => [some (V.int m), some (V.ref d0), some (V.int q), some (V.int (m / q : Nat)), some (V.ref d), some (V.int r), o6, o7, some (V.int k), none]) (eis_n (ea_cons (ev_var rfl) ea_nil) (by omega)) mono_okv (by rw [List.length_range]; omega) ?_ (fun _ _ _ _ _ => rfl) ?_
      · rintro x - v H1 - rfl R hR
        exact hR H1 (Ex.refl H1)
      · intro x _ v H1 e1 _
        exact ev_op (ev_var rfl) (ev_op (ev_var rfl) (ev_var rfl) (rv_I (cm2 (by omega)))) rv_I0
    -- found
    refine q_asgL (i := 7) (xs := (foundN m q rests r).map V.bl) ?_ fun a7 H5 _ e5 h7 => ?_
    · have e : (foundN m q rests r).map V.bl = (((List.range q).map fun k => r + k * (m / q)).filter fun x => Nat.gcd x m == 1).map fun x => V.bl (decide (x ∈ rests)) := by
        unfold foundN liftsN
        rw [List.map_map]
        rfl
      rw [e]
      refine el_lcV (ok := okv fun n : Nat => V.int n) (fun x => Nat.gcd x m == 1) (fun _ x => [some (V.int m), some (V.ref d0), some (V.int q), some (V.int (m / q : Nat)), some (V.ref d), some (V.int r), some (V.ref a6), o7, none, some (V.int x)]) (eis_l mono_okv (ev_var rfl) (SqL.of h6) (els_okv.mpr rfl)) mono_okv (by simp; omega) ?_ (fun _ _ _ _ _ => rfl) ?_ ?_
      · rintro x - v H1 - rfl R hR
        exact hR H1 (Ex.refl H1)
      · intro x _ v H1 e1 _
        exact et_is (et_test (ev_op (p_ev (ev_cal (ea2 (ev_var rfl) (ev_var rfl)) (sp_mk' ((x : Int), (m : Int)) rfl fun _ _ => trivial))) ev_c (rv_eq rfl))) (dec_ii (Nat.gcd x m) 1)
      · intro x _ _ v H1 e1 _
        exact ev_eqB (ev_op (ev_var rfl) (ev_var rfl) (rv_inC (IntC.dk (e1 _ _ (e4 _ _ hd0'))))) mem_zs
    have h45 := e4.trans e5
    have anyt : ((unitsN (m / q)).take (i + 1)).any (fun r => mixedN (foundN m q rests r)) = mixedN (foundN m q rests r) := by
      rw [take_snoc hxi, List.any_append, hmix]
      simp
    refine q_when (b := mixedN (foundN m q rests r)) ?_ (fun c H6 e6 => ?_) (fun c H6 e6 => ?_)
    · exact et_and (et_is (et_test (ev_op ev_c (ev_var rfl) (rv_isL (SqL.of h7) rfl (flat_bl _)))) (inV_bl true _)) fun _ => et_is (et_test (ev_op ev_c (ev_var rfl) (rv_isL (SqL.of h7) rfl (flat_bl _)))) (inV_bl false _)
    · refine s_ret ev_c fun H7 e7 => ?_
      refine k.go (ex.trans (h45.trans (e6.trans e7))) ?_
      show optD (shortN m rests q) H _ _
      unfold shortN
      rw [if_pos (List.any_eq_true.mpr ⟨r, hr1, c⟩)]
      rfl
    · rw [c] at anyt
      have hne : foundN m q rests r ≠ [] := fun e => liftsN_ne hq hdv m0 rg (List.map_eq_nil_iff.mp e)
      have hp6 : H6 p = some (.lst (nv (unitsN (m / q)))) := e6 _ _ (h45 _ _ hp)
      have hd6 := e6 _ _ (h45 _ _ hd')
      have ft : ((unitsN (m / q)).take (i + 1)).filter (fun r => (foundN m q rests r).headD false) = ((unitsN (m / q)).take i).filter (fun r => (foundN m q rests r).headD false) ++ if (foundN m q rests r).headD false then [r] else [] := by
        rw [take_snoc hxi, List.filter_append, List.filter_cons]
        split <;> rfl
      refine s_when (b := (foundN m q rests r).headD false) ?_ (fun c2 H8 e8 => ?_) (fun c2 H8 e8 => ?_)
      · refine et_test (ev_op (ev_var rfl) ev_c (rv_ixL (SqL.of (e6 _ _ h7)) ?_))
        cases hf : foundN m q rests r with
        | nil => exact absurd hf hne
        | cons b t => exact atI_nat (j := 0) rfl
      · rw [c2, if_pos rfl] at ft
        have hd8 := e8 _ _ hd6
        refine s_dput ev_c (ev_var rfl) (ev_var rfl) hd8 (fun hm => not_in_take (asc_nodup (unitsN_asc _)) hxi (List.mem_filter.mp hm).1) ?_ fun H9 e9 => ?_
        · have h1 := List.length_filter_le (fun r => (foundN m q rests r).headD false) ((unitsN (m / q)).take i)
          have h2 := unitsN_len (m / q)
          rw [List.length_take] at h1
          omega
        · have hpd : p ≠ d := fun e => by rw [e, hd6] at hp6; cases hp6
          refine ⟨_, _, _, rfl, Ex.mut (ex.trans (h45.trans (e6.trans (e8.trans e9)))) d00, ?_, ?_, anyt⟩
          · rw [upd_ne hpd]
            exact e9 _ _ (e8 _ _ hp6)
          · rw [ft]
            exact upd_same
      · rw [c2, if_neg Bool.false_ne_true, List.append_nil] at ft
        exact ⟨_, _, _, rfl, ex.trans (h45.trans (e6.trans e8)), e8 _ _ hp6, by rw [ft]; exact e8 _ _ hd6, anyt⟩
  · rintro p σ' H' ⟨o5, o6, o7, rfl, ex, hp, hd', hmix⟩
    rw [nv_len, List.take_length] at hd' hmix
    refine s_ret (ev_var rfl) fun H7 e7 => ?_
    refine k.go (ex.trans e7) ?_
    show optD (shortN m rests q) H _ _
    unfold shortN
    rw [hmix, if_neg Bool.false_ne_true]
    exact ⟨d, rfl, d00, e7 _ _ hd'⟩

/-! ### least_description -/
theorem dec_some {α : Type} {o : Option α} {f : α → V} (hf : ∀ x, f x ≠ .non) : (!decide ((match o with | none => V.non | some x => f x) = V.non)) = o.isSome := by
  cases o with
  | none => rfl
  | some x => simp [hf x]
def isLeast (st : Nat × List Nat × List Nat) : VP := fun H0 x H => ∃ a d l, x = .ref a ∧ H0 a = none ∧ H a = some (.tup [.int (st.1 : Nat), .ref d, .ref l]) ∧ H d = some (.dK (dk st.2.1)) ∧ H l = some (.lst (nv st.2.2))
abbrev N_least_description : List Str := ["modulus", "rests", "singles", "prime", "exponent", "kept"]
theorem sc_least_description : FnScope N_least_description ["modulus", "rests", "singles"] (defScope s_least_description) := ⟨rfl, rfl, rfl, by decide +kernel, rfl, by decide +kernel, by decide +kernel⟩
def sp_least_description : Sp := mkSp (α := (Nat × List Nat × List Nat) × Addr × Addr) (fun a => [.int a.1.1, .ref a.2.1, .ref a.2.2]) (fun a H => H a.2.1 = some (.dK (dk a.1.2.1)) ∧ H a.2.2 = some (.lst (nv a.1.2.2)) ∧ 0 < a.1.1 ∧ a.1.1 ≤ 4000 ∧ Asc a.1.2.1 ∧ (∀ x ∈ a.1.2.1, x ∈ unitsN a.1.1) ∧ a.1.2.2.Nodup ∧ (∀ p ∈ a.1.2.2, Prime p ∧ p ≠ 2) ∧ a.1.2.2.length ≤ 1000) (fun a => isLeast (leastN a.1))
theorem toggleN_len (s : List Nat) (p : Nat) : (toggleN s p).length ≤ s.length + 1 := by
  unfold toggleN
  split
  · have := List.length_filter_le (fun x => x != p) s
    omega
  · simp
theorem singN_len (m : Nat) (k s : List Nat) (q : Nat) : (singN m k s q).length ≤ s.length + 1 := by
  unfold singN
  split
  · exact toggleN_len s q
  · omega
/-- the value of an optional dict -/
def OptAt (o : Option (List Nat)) (v : V) (H : Hp) : Prop := match o with
  | none => v = .non
  | some k => ∃ d, v = .ref d ∧ H d = some (.dK (dk k))
theorem OptAt.ex {o : Option (List Nat)} {v : V} {H H' : Hp} (e : Ex H H') (h : OptAt o v H) : OptAt o v H' := by
  cases o with
  | none => exact h
  | some k =>
    obtain ⟨d, h1, h2⟩ := h
    exact ⟨d, h1, e _ _ h2⟩
theorem OptAt.of {o : Option (List Nat)} {v : V} {H0 H : Hp} (h : optD o H0 v H) : OptAt o v H := by
  cases o with
  | none => exact h
  | some k =>
    obtain ⟨d, h1, _, h2⟩ := h
    exact ⟨d, h1, h2⟩
theorem OptAt.dec {o : Option (List Nat)} {v : V} {H : Hp} (h : OptAt o v H) : (!decide (v = .non)) = o.isSome := by
  cases o with
  | none =>
    have : v = .non := h
    subst this
    rfl
  | some k =>
    obtain ⟨d, rfl, _⟩ := h
    simp
theorem ok_least_description (T : Tx K mg base) : Cal P w K mg base 4 "least_description" sp_least_description := by
  refine cal_of T.f_least_description T.g_least_description sc_least_description (fun _ _ _ _ _ _ us hl => match us, hl with | [_, _, _], _ => rfl) (len_sp fun _ => rfl) any_sp ?_
  rintro f cdv A outer s H vs Q E hr ⟨⟨⟨m, r, sg⟩, ad, al⟩, rfl, ⟨hd0, hl0, m0, mb, ha, hu, hn, hs, hz⟩, k⟩
  have m0 : 0 < m := m0
  have mb : m ≤ 4000 := mb
  have hz : sg.length ≤ 1000 := hz
  have FF := factorsN_ok m0
  refine ⟨_, pss_cons (ps_for PassesOwn.never rfl (pi_list (pe_c (ok_factors T) hr (by decide) (by rfl) (pa_cons (pv 0) pa_nil))) (pg_tup (by rfl) (pgs_cons (pg_name (i := 3) sc_least_description.nd rfl (Or.inl rfl)) (pgs_cons (pg_name (i := 4) sc_least_description.nd rfl (Or.inl rfl)) pgs_nil))) (pss_cons (ps_set (i := 5) sc_least_description.nd rfl (Or.inl rfl) (pe_c (ok_shortened T) hr (by decide) (by rfl) (pa_cons (pv 0) (pa_cons (pv 1) (pa_cons (pv 3) pa_nil)))))
        (pss_one (ps_while PassesOwn.never (pt_cmpR op_isnot0 (pv 5) pe_non (nomark _)) (pss_cons (ps_set (i := 0) sc_least_description.nd rfl (Or.inl rfl) (pe_op op_fdiv (pv 0) (pv 3)))
          (pss_cons (ps_set (i := 1) sc_least_description.nd rfl (Or.inl rfl) (pv 5))
          (pss_cons (ps_if (PW.pt (pw_and (pt_cmpR op_ne (pv 3) pe_int (nomark _)) (pw_and (pt_cmpR op_ne (pe_op op_mod (pv 0) (pv 3)) pe_int (nomark _)) (pw_and1 (pt_val (pe_c (ok_told_by T) hr (by decide) (by rfl) (pa_cons (pv 0) (pa_cons (pv 1) (pa_cons (pv 3) pa_nil))))))))) (pss_one (ps_set (i := 2) sc_least_description.nd rfl (Or.inl rfl) (pe_c (ok_toggled T) hr (by decide) (by rfl) (pa_cons (pv 2) (pa_cons (pv 3) pa_nil))))) (pss_nil))
          (pss_cons (ps_set (i := 5) sc_least_description.nd rfl (Or.inl rfl) pe_non)
          (pss_one (ps_if (pt_cmpR op_eq (pe_op op_mod (pv 0) (pv 3)) pe_int (nomark _)) (pss_one (ps_set (i := 5) sc_least_description.nd rfl (Or.inl rfl) (pe_c (ok_shortened T) hr (by decide) (by rfl) (pa_cons (pv 0) (pa_cons (pv 1) (pa_cons (pv 3) pa_nil)))))) (pss_nil)))))))))))
      (pss_one (ps_ret (pe_tup (pa_cons (pv 0) (pa_cons (pv 1) (pa_cons (pv 2) pa_nil)))))), ?_⟩
  refine q_forN (ev_cal (ea_cons (ev_var rfl) ea_nil) (sp_mk' m rfl fun _ _ => ⟨m0, by omega⟩)) fun H0 v H1 e0 e1 ⟨a, xs, ev, a0, hxs, hp⟩ => ⟨a, xs, ev, hxs, ?_⟩
  have e01 : Ex H H1 := e0.trans e1
  refine ⟨fun i σ' H' => ∃ (st : Nat × List Nat × List Nat) (d l : Addr) (o3 o4 o5 : Option V), σ' = [some (V.int st.1), some (V.ref d), some (V.ref l), o3, o4, o5] ∧ Ex H1 H' ∧ H' d = some (.dK (dk st.2.1)) ∧ H' l = some (.lst (nv st.2.2)) ∧
    LI m r sg st ∧ prodN ((factorsN m).drop i) ∣ st.1 ∧ ((factorsN m).drop i).foldl (fun s p => leastSt s p.1) st = leastN (m, r, sg) ∧ st.2.2.length + st.1 ≤ 5000,
    ⟨(m, r, sg), ad, al, none, none, none, rfl, Ex.refl _, e01 _ _ hd0, e01 _ _ hl0, ⟨m0, Nat.dvd_refl m, ha, hu, fun u hu => by rw [Nat.mod_eq_of_lt (unitsN_mem.mp hu).1], hn, fun p hp => ⟨(hs p hp).1, (hs p hp).2, .inl hp⟩, fun e => ⟨e, rfl⟩⟩, by rw [List.drop_zero, FF.prod]; exact Nat.dvd_refl m, by rw [List.drop_zero]; rfl, by show sg.length + m ≤ 5000; omega⟩, fun i σ' H' _ ⟨_, _, _, _, _, _, _, e, _⟩ => e _ _ hxs, ?_, ?_⟩
  · rintro i x σ' H' hx ⟨st, d, l, o3, o4, o5, rfl, ex, hd, hl, L, hdv, hf, hlen⟩
    have hi : i < (factorsN m).length := by
      rw [← hp.1]
      exact (List.getElem?_eq_some_iff.mp hx).1
    have hfi : (factorsN m)[i]? = some (factorsN m)[i] := List.getElem?_eq_getElem hi
    have hdrop : (factorsN m).drop i = (factorsN m)[i] :: (factorsN m).drop (i + 1) := List.drop_eq_getElem_cons hi
    obtain ⟨a1, -⟩ := List.pairwise_cons.mp (hdrop ▸ FF.asc.sublist (List.drop_sublist i _))
    generalize (factorsN m)[i] = p at hfi hdrop a1
    obtain ⟨q, e⟩ := p
    obtain ⟨v, hv, b, rfl, hb⟩ := hp.2 i (q, e) hfi
    rw [hx] at hv
    cases hv
    obtain ⟨hq, he0, -⟩ := FF.pr (q, e) (List.mem_of_getElem? hfi)
    have hq : Prime q := hq
    rw [hdrop] at hdv hf
    rw [List.foldl_cons] at hf
    have co : Nat.gcd q (prodN ((factorsN m).drop (i + 1))) = 1 := hq.coprime fun h => by
      obtain ⟨r, hr, e⟩ := prime_in_prodN hq (fun r hr => (FF.pr r (List.mem_of_mem_drop hr)).1) h
      have := a1 r hr
      omega
    have dB : prodN ((factorsN m).drop (i + 1)) ∣ st.1 := Nat.dvd_trans (by rw [prodN_cons]; exact Nat.dvd_mul_left _ _) hdv
    have dq : q ∣ st.1 := Nat.dvd_trans (dvd_prodN (l := (q, e) :: (factorsN m).drop (i + 1)) List.mem_cons_self he0) hdv
    generalize hre : (factorsN m).drop (i + 1) = rest at hf co dB
    have sle : ∀ st' : Nat × List Nat × List Nat, LI m r sg st' → st'.1 ≤ m := fun st' L' => Nat.le_of_dvd m0 L'.dvd
    have mst := sle st L
    have qle : q ≤ m := Nat.le_trans (Nat.le_of_dvd L.pos dq) mst
    refine ⟨b, _, rfl, SqT.of (ex _ _ hb), rfl, _, _, rfl, _, _, rfl, rfl, ?_⟩
    refine q_asgP (i := 5) (ev_cal (ea_cons (ev_var rfl) (ea_cons (ev_var rfl) (ea_cons (ev_var rfl) ea_nil))) (sp_mk' (st.1, d, st.2.1, q) rfl fun H2 e2 => ⟨e2 _ _ hd, L.pos, by show st.1 ≤ 4000; omega, hq, dq⟩)) fun H2 kv H3 e2 e3 hk => ?_
    have e23 := e2.trans e3
    refine s_while (fun g σ2 H2 => ∃ (st2 : Nat × List Nat × List Nat) (d l : Addr) (ko : Option (List Nat)) (kv : V), σ2 = [some (V.int st2.1), some (V.ref d), some (V.ref l), some (V.int q), some (V.int e), some kv] ∧ Ex H1 H2 ∧ H2 d = some (.dK (dk st2.2.1)) ∧ H2 l = some (.lst (nv st2.2.2)) ∧ OptAt ko kv H2 ∧
      LI m r sg st2 ∧ prodN rest ∣ st2.1 ∧ (∀ k, ko = some k → q ∣ st2.1 ∧ shortN st2.1 st2.2.1 q = some k) ∧ st2.1 ≤ g ∧ leastIn g st2 q ko = leastSt st q ∧ st2.2.2.length + st2.1 ≤ 5000) st.1
      ⟨st, d, l, shortN st.1 st.2.1 q, kv, rfl, ex.trans e23, e23 _ _ hd, e23 _ _ hl, OptAt.of hk, L, dB, fun k hk => ⟨dq, hk⟩, Nat.le_refl _, rfl, hlen⟩ ?_
    rintro g σ2 H4 ⟨st2, d2, l2, ko, kv2, rfl, ex2, hd2, hl2, hko, L2, dB2, hkk, hg, hli, hlen2⟩
    refine ⟨ko.isSome, et_is (et_test (ev_op (ev_var rfl) ev_c rv_isnot0)) hko.dec, fun c H5 e5 => ⟨fun σ3 H3 => ∃ g', g' < g ∧ _, fun _ _ h => h, ?_⟩, fun c H5 e5 => ?_⟩
    · cases ko with
      | none => cases c
      | some kk =>
        obtain ⟨d3, rfl, hd3⟩ := hko
        obtain ⟨dq2, hsh⟩ := hkk kk rfl
        have p2 := L2.pos
        have m2 := sle st2 L2
        have q2 := hq.1
        have slt : st2.1 / q < st2.1 := Nat.div_lt_self p2 (by omega)
        have spos : 0 < st2.1 / q := Nat.div_pos (Nat.le_of_dvd p2 dq2) hq.pos
        obtain ⟨g, rfl⟩ : ∃ x, g = x + 1 := ⟨g - 1, by omega⟩
        rw [leastIn] at hli
        have L3 := L2.step hq dq2 hsh
        have b3 : prodN rest ∣ st2.1 / q := by
          have e := mul_div_of_dvd dq2 hq.pos
          rw [← e] at dB2
          exact Nat.Coprime.dvd_of_dvd_mul_right (by rw [Nat.Coprime, Nat.gcd_comm]; exact co) dB2
        refine q_asgI (i := 0) (ev_op (ev_var rfl) (ev_var rfl) (rv_I (cdiv hq.pos (by omega)))) (ediv_nat st2.1 q) fun H6 e6 => ?_
        refine q_asg (i := 1) (ev_var rfl) fun H7 e7 => ?_
        have e57 := e5.trans (e6.trans e7)
        have hd7 := e57 _ _ hd3
        have hl7 := e57 _ _ hl2
        have nxt : ∀ (l3 : Addr) (H8 : Hp), Ex H7 H8 → H8 l3 = some (.lst (nv (singN (st2.1 / q) kk st2.2.2 q))) → tSeq (tAsg (tC V.non) (gName 5)) (tIfS (tTest (tOp rEq (tOp (rI (fun _ j => 0 < j) fun i j => V.int (i % j)) (tVar 0) (tVar 3)) (tC (V.int 0)))) (tAsg (tCalR sp_shortened (tCons (tVar 0) (tCons (tVar 1) (tCons (tVar 3) tNil)))) (gName 5)) tNext)
          { nx := fun σ3 H3 => ∃ g', g' < g + 1 ∧ (∃ (st2 : Nat × List Nat × List Nat) (d l : Addr) (ko : Option (List Nat)) (kv : V), σ3 = [some (V.int st2.1), some (V.ref d), some (V.ref l), some (V.int q), some (V.int e), some kv] ∧ Ex H1 H3 ∧ H3 d = some (.dK (dk st2.2.1)) ∧ H3 l = some (.lst (nv st2.2.2)) ∧ OptAt ko kv H3 ∧
      LI m r sg st2 ∧ prodN rest ∣ st2.1 ∧ (∀ k, ko = some k → q ∣ st2.1 ∧ shortN st2.1 st2.2.1 q = some k) ∧ st2.1 ≤ g' ∧ leastIn g' st2 q ko = leastSt st q ∧ st2.2.2.length + st2.1 ≤ 5000), rt := Q } [some (V.int (st2.1 / q : Nat)), some (V.ref d3), some (V.ref l3), some (V.int q), some (V.int e), some (V.ref d3)] H8 := fun l3 H8 e8 hl8 => by
          have hd8 := e8 _ _ hd7
          have ex8 := ex2.trans (e57.trans e8)
          have len3 : (singN (st2.1 / q) kk st2.2.2 q).length + st2.1 / q ≤ 5000 := by
            have := singN_len (st2.1 / q) kk st2.2.2 q
            omega
          refine q_asg (i := 5) ev_c fun H9 e9 => ?_
          refine s_when (et_is (et_test (ev_op (ev_op (ev_var rfl) (ev_var rfl) (rv_I (cmod hq.pos))) ev_c (rv_eq rfl))) (dec_mod0 (st2.1 / q) q)) (fun c H10 e10 => ?_) (fun c H10 e10 => ?_)
          · have c : st2.1 / q % q = 0 := of_decide_eq_true c
            rw [if_pos c] at hli
            refine s_asgP (ev_cal (ea_cons (ev_var rfl) (ea_cons (ev_var rfl) (ea_cons (ev_var rfl) ea_nil))) (sp_mk' (st2.1 / q, d3, kk, q) rfl fun H2 e2 => ⟨e2 _ _ (e10 _ _ (e9 _ _ hd8)), spos, by show st2.1 / q ≤ 4000; omega, hq, Nat.dvd_of_mod_eq_zero c⟩)) fun H11 kv3 H12 e11 e12 hk3 => ?_
            have e := e9.trans (e10.trans (e11.trans e12))
            exact ⟨g, Nat.lt_succ_self g, (st2.1 / q, kk, singN (st2.1 / q) kk st2.2.2 q), d3, l3, _, kv3, rfl, ex8.trans e, e _ _ hd8, e _ _ hl8, OptAt.of hk3, L3, b3, fun k hk => ⟨Nat.dvd_of_mod_eq_zero c, hk⟩, by show st2.1 / q ≤ g; omega, hli, len3⟩
          · have c : ¬ st2.1 / q % q = 0 := of_decide_eq_false c
            rw [if_neg c] at hli
            have e := e9.trans e10
            exact ⟨g, Nat.lt_succ_self g, (st2.1 / q, kk, singN (st2.1 / q) kk st2.2.2 q), d3, l3, none, .non, rfl, ex8.trans e, e _ _ hd8, e _ _ hl8, rfl, L3, b3, fun k hk => (by cases hk), by show st2.1 / q ≤ g; omega, hli, len3⟩
        refine q_if (b := decide (q ≠ 2) && (decide (st2.1 / q % q ≠ 0) && toldN (st2.1 / q) kk q)) ?_ (fun c H8 e8 => ?_) (fun c H8 e8 => ?_)
        · refine et_and (et_is (et_test (ev_op (ev_var rfl) ev_c (rv_ne rfl))) ?_) fun _ => et_and (et_is (et_test (ev_op (ev_op (ev_var rfl) (ev_var rfl) (rv_I (cmod hq.pos))) ev_c (rv_ne rfl))) ?_) fun _ => et_test (p_ev (ev_cal (ea_cons (ev_var rfl) (ea_cons (ev_var rfl) (ea_cons (ev_var rfl) ea_nil))) (sp_mk' (st2.1 / q, .ref d3, kk, q) rfl fun H2 e2 => ⟨IntC.dk (e2 _ _ hd7), spos, hq.pos⟩)))
          · exact (congrArg not (dec_ii q 2)).trans (by simp)
          · exact (congrArg not (dec_mod0 (st2.1 / q) q)).trans (by simp)
        · refine s_asgP (i := 2) (ev_cal (ea_cons (ev_var rfl) (ea_cons (ev_var rfl) ea_nil)) (sp_mk' (l2, st2.2.2, q) rfl fun H2 e2 => ⟨e2 _ _ (e8 _ _ hl7), by show st2.2.2.length ≤ 10000; omega⟩)) fun H9 v H10 e9 e10 ⟨l3, ev, _, hl3⟩ => ?_
          subst ev
          refine nxt l3 H10 (e8.trans (e9.trans e10)) ?_
          unfold singN
          rw [Bool.and_assoc, if_pos c]
          exact hl3
        · refine nxt l2 H8 e8 ?_
          unfold singN
          rw [Bool.and_assoc, c, if_neg Bool.false_ne_true]
          exact e8 _ _ hl7
    · cases ko with
      | some kk => cases c
      | none =>
        have hli : st2 = leastSt st q := by
          rw [← hli]
          cases g <;> rfl
        rw [hli] at hlen2 hd2 hl2 L2 dB2
        exact ⟨_, d2, l2, _, _, _, by rw [hli], ex2.trans e5, e5 _ _ hd2, e5 _ _ hl2, L2, by rw [hre]; exact dB2, by rw [hre]; exact hf, hlen2⟩
  · rintro σ' H' ⟨st, d, l, o3, o4, o5, rfl, ex, hd, hl, L, hdv, hf, hlen⟩
    rw [hp.1, List.drop_length] at hf
    have hf : st = leastN (m, r, sg) := hf
    refine s_retU (eu_tup (ea_cons (ev_var rfl) (ea_cons (ev_var rfl) (ea_cons (ev_var rfl) ea_nil))) (by simp)) fun p H2 p0 e2 hp2 => ?_
    refine k H' _ H2 (e01.trans ex) e2 ⟨p, d, l, rfl, p0, ?_⟩
    show H2 p = some (HO.tup [V.int ((leastN (m, r, sg)).1 : Nat), V.ref d, V.ref l]) ∧ H2 d = some (HO.dK (dk (leastN (m, r, sg)).2.1)) ∧ H2 l = some (HO.lst (nv (leastN (m, r, sg)).2.2))
    rw [← hf]
    exact ⟨hp2, e2 _ _ hd, e2 _ _ hl⟩
end
end EP
end

section
set_option Elab.async false
set_option linter.all false
set_option maxRecDepth 100000
set_option maxHeartbeats 4000000
/-! D4: the class Primes. -/
namespace EP
open PySem PySem.Spec PyProof.Rows L2 Evl
section
variable {P : Program} {w : World} {K : PySem.W.Frag} {mg : Str → Option Value} {base : Heap}
/-- an instance of Primes that holds S -/
def okP (K : PySem.W.Frag) : V → PS → Hp → Prop := fun v S H => ∃ (a dx r s : Addr), v = .ref a ∧ H a = some (.ins (He.ga K "Primes") dx [("modulus", .int (S.m : Nat)), ("rests", .ref r), ("singles", .ref s)]) ∧ H r = some (.tup (nv S.rests)) ∧ H s = some (.tup (nv S.singles))
theorem mono_okP : Mono (okP K) := fun v S H H' e ⟨a, dx, r, s, h1, h2, h3, h4⟩ => ⟨a, dx, r, s, h1, e _ _ h2 rfl, e _ _ h3 rfl, e _ _ h4 rfl⟩
theorem okP.ex {v : V} {S : PS} {H H' : Hp} (e : Ex H H') (h : okP K v S H) : okP K v S H' := mono_okP _ _ _ _ (Ex.toF e) h
def isP (K : PySem.W.Frag) (S : PS) : VP := fun _ v H => okP K v S H
section
variable {σ : L2.St} {H H' : Hp} {ta tv te : TE} {tz : TS} {D : Ends} {v : V} {S : PS}
theorem ev_pm (T : Tx K mg base) (hx : Ev ta σ H v) (h : okP K v S H) : Ev (tFld K ta "modulus") σ H (.int (S.m : Nat)) := by
  obtain ⟨a, dx, r, s, rfl, h2, h3, h4⟩ := h
  exact ev_fld hx h2 T.c_Primes T.n_Primes_modulus rfl
theorem ev_pr (T : Tx K mg base) (hx : Ev ta σ H v) (h : okP K v S H) : ∃ r, H r = some (.tup (nv S.rests)) ∧ Ev (tFld K ta "rests") σ H (.ref r) := by
  obtain ⟨a, dx, r, s, rfl, h2, h3, h4⟩ := h
  exact ⟨r, h3, ev_fld hx h2 T.c_Primes T.n_Primes_rests rfl⟩
theorem ev_ps (T : Tx K mg base) (hx : Ev ta σ H v) (h : okP K v S H) : ∃ r, H r = some (.tup (nv S.singles)) ∧ Ev (tFld K ta "singles") σ H (.ref r) := by
  obtain ⟨a, dx, r, s, rfl, h2, h3, h4⟩ := h
  exact ⟨s, h4, ev_fld hx h2 T.c_Primes T.n_Primes_singles rfl⟩
theorem InsAt.of (h : okP K v S H) : ∃ a, v = .ref a ∧ InsAt H (He.ga K "Primes") a := by
  obtain ⟨a, dx, r, s, rfl, h2, h3, h4⟩ := h
  exact ⟨a, rfl, dx, _, h2⟩
theorem IntC.tupN {a : Addr} {l : List Nat} (h : H a = some (.tup (nv l))) : IntC K H (.ref a) (zs l) := ⟨a, rfl, .inr (.inl (by rw [iv_zs]; exact SqT.of h))⟩
theorem IntC.lstN {a : Addr} {l : List Nat} (h : H a = some (.lst (nv l))) : IntC K H (.ref a) (zs l) := ⟨a, rfl, .inl (by rw [iv_zs]; exact SqL.of h)⟩
theorem keep {a b : Addr} {o u v : HO} (hb : H b = some u) (ha : H a = some v) (ne : u ≠ v) : upd H a o b = some u := by
  have : b ≠ a := fun e => by
    rw [e, ha] at hb
    exact ne (Option.some.inj hb).symm
  rw [upd_ne this]
  exact hb
/-- self.f = e -/
theorem q_fldV {f : Str} {a C dx : Addr} {fs : List (Str × V)} {y : V} (hv : Ev tv σ H y) (hx : Ev ta σ H (.ref a)) (ho : H a = some (.ins C dx fs)) (c : Cls K C) (n : NoAttr K C f) (hl : fs.length < 1000) (k : ∀ H1, Ex H H1 → tz D σ (upd H1 a (.ins C dx (putF f y fs)))) : tSeq (sFld K ta tv f) tz D σ H :=
  hv H (Ex.refl H) _ fun H1 e1 => hx H1 e1 _ fun H2 e2 => ⟨a, C, dx, fs, rfl, (e1.trans e2) _ _ ho, c, n, hl, k H2 (e1.trans e2)⟩
theorem s_fldV {f : Str} {a C dx : Addr} {fs : List (Str × V)} {y : V} (hv : Ev tv σ H y) (hx : Ev ta σ H (.ref a)) (ho : H a = some (.ins C dx fs)) (c : Cls K C) (n : NoAttr K C f) (hl : fs.length < 1000) (k : ∀ H1, Ex H H1 → D.nx σ (upd H1 a (.ins C dx (putF f y fs)))) : sFld K ta tv f D σ H :=
  hv H (Ex.refl H) _ fun H1 e1 => hx H1 e1 _ fun H2 e2 => ⟨a, C, dx, fs, rfl, (e1.trans e2) _ _ ho, c, n, hl, k H2 (e1.trans e2)⟩
theorem s_fldP {f : Str} {a C dx : Addr} {fs : List (Str × V)} {R : VP} (hv : EvP tv σ H R) (hx : ∀ H1, Ex H H1 → Ev ta σ H1 (.ref a)) (ho : H a = some (.ins C dx fs)) (c : Cls K C) (n : NoAttr K C f) (hl : fs.length < 1000) (k : ∀ H0 y H1 H2, Ex H H0 → Ex H0 H1 → R H0 y H1 → Ex H1 H2 → D.nx σ (upd H2 a (.ins C dx (putF f y fs)))) : sFld K ta tv f D σ H :=
  hv H (Ex.refl H) _ fun H0 y H1 e0 e1 r => hx H1 (e0.trans e1) H1 (Ex.refl H1) _ fun H2 e2 => ⟨a, C, dx, fs, rfl, ((e0.trans e1).trans e2) _ _ ho, c, n, hl, k H0 y H1 H2 e0 e1 r e2⟩
theorem q_fldP {f : Str} {a C dx : Addr} {fs : List (Str × V)} {R : VP} (hv : EvP tv σ H R) (hx : ∀ H1, Ex H H1 → Ev ta σ H1 (.ref a)) (ho : H a = some (.ins C dx fs)) (c : Cls K C) (n : NoAttr K C f) (hl : fs.length < 1000) (k : ∀ H0 y H1 H2, Ex H H0 → Ex H0 H1 → R H0 y H1 → Ex H1 H2 → tz D σ (upd H2 a (.ins C dx (putF f y fs)))) : tSeq (sFld K ta tv f) tz D σ H :=
  s_fldP (D := { D with nx := tz D }) hv hx ho c n hl k
end
/-! ### __init__ -/
abbrev N_primes_init : List Str := ["self", "modulus", "rests", "singles", "rest", "found"]
theorem sc_primes_init : FnScope N_primes_init ["self", "modulus", "rests", "singles"] (defScope s_primes_init) := ⟨rfl, rfl, rfl, by decide +kernel, rfl, by decide +kernel, by decide +kernel⟩
structure MkPre (m : Nat) (r s : List Nat) : Prop where
  pos : 0 < m
  le : m ≤ 4000
  asc : Asc r
  un : ∀ x ∈ r, x ∈ unitsN m
  pr : ∀ p ∈ s, Prime p ∧ p ≠ 2 ∧ p < 2 ^ 20
  few : s.length < 64
def sp_primes_init (K : PySem.W.Frag) : Sp := mkSpI (He.ga K "Primes") (α := (Nat × List Nat × List Nat) × Addr × Addr) (fun a => [.int (a.1.1 : Nat), .ref a.2.1, .ref a.2.2]) (fun a H => H a.2.1 = some (.lst (nv a.1.2.1)) ∧ H a.2.2 = some (.lst (nv a.1.2.2)) ∧ MkPre a.1.1 a.1.2.1 a.1.2.2) (fun a => isP K (mkP a.1.1 a.1.2.1 a.1.2.2))
theorem asc_len {l : List Nat} {n : Nat} (h : Asc l) (hb : ∀ x ∈ l, x < n) : l.length ≤ n := by
  have : l.length ≤ (List.range n).length := (asc_nodup h).length_le_of_subset fun x hx => List.mem_range.mpr (hb x hx)
  rwa [List.length_range] at this
theorem ok_primes_init (T : Tx K mg base) : Mak P w K mg base 5 "Primes" (He.ga K "Primes") (sp_primes_init K) := by
  refine mak_of T.f_primes_init T.g_Primes T.k_Primes sc_primes_init (fun _ _ _ _ _ _ us hl => match us, hl with | [_, _, _, _], _ => rfl) (len_spI fun _ => rfl) any_spI ?_
  rintro f cdv A outer s H vs Q E hr ⟨x, dx, HB, ⟨⟨m, r, sg⟩, ar, as⟩, rfl, hx, hdx, ne, rfl, ⟨har, has, pre⟩, k⟩
  obtain ⟨m0, mb, ha, hu, hp, hf⟩ := pre
  have m0 : 0 < m := m0
  have mb : m ≤ 4000 := mb
  have hf : sg.length < 64 := hf
  have rlen : r.length ≤ m := asc_len ha fun x hx => (unitsN_mem.mp (hu x hx)).1
  have hB : Ex HB (upd (upd HB dx (.own x)) x (.ins (He.ga K "Primes") dx [])) := Ex.mut (Ex.new hdx) hx
  have hx0 : upd (upd HB dx (.own x)) x (.ins (He.ga K "Primes") dx []) x = some (.ins (He.ga K "Primes") dx []) := upd_same
  generalize upd (upd HB dx (.own x)) x (.ins (He.ga K "Primes") dx []) = H at hB hx0
  have har : H ar = some (.lst (nv r)) := hB _ _ har
  have has : H as = some (.lst (nv sg)) := hB _ _ has
  refine ⟨_, pss_cons (ps_expr (pe_c (ok_checked_modulus_values T) hr (by decide) (by rfl) (pa_cons (pv 1) pa_nil)))
      (pss_cons (ps_for PassesOwn.never rfl (pi_list (pv 2)) (pg_name (i := 4) sc_primes_init.nd rfl (Or.inl rfl)) (pss_one (ps_if (PW.pt (pw_or (pt_cmpR op_lt (pv 4) pe_int (nomark _)) (pw_or (pt_cmpR op_ge (pv 4) (pv 1) (nomark _)) (pw_or1 (pt_cmpR op_ne (pe_c (ok_common T) hr (by decide) (by rfl) (pa_cons (pv 4) (pa_cons (pv 1) pa_nil))) pe_int (nomark _)))))) (pss_one (ps_never)) (pss_nil))))
      (pss_cons (ps_expr (pe_c (ok_checked_singles T) hr (by decide) (by rfl) (pa_cons (pv 3) pa_nil)))
      (pss_cons (ps_set (i := 5) sc_primes_init.nd rfl (Or.inl rfl) (pe_c (ok_least_description T) hr (by decide) (by rfl) (pa_cons (pv 1) (pa_cons (pe_dc (own := [("rest", 4)]) (g := gName 4) (by rfl) sc_primes_init.nd (pi_list (pv 2)) (blkOk_by (own := [("rest", 4)]) (N := N_primes_init) (sc := defScope s_primes_init) (by decide +kernel)) (fun _ _ _ _ _ => pg_name (i := 4) sc_primes_init.nd rfl (Or.inl rfl)) (fun _ _ _ _ _ => pts_nil) (fun _ _ _ _ _ => pv 4) (fun _ _ _ _ _ => pe_bl)) (pa_cons (pe_callB (cr_sortedSet rfl) (by rfl) T.b_sorted (by decide +kernel) (pa_cons (pe_callTy (cr_setL rfl) (by rfl) T.b_set (by decide +kernel) (pa_cons (pv 3) pa_nil)) pa_nil)) pa_nil)))))
      (pss_cons (ps_fld (pv 0) (pe_ix (ix_tupk K rfl) (pv 5) pe_int (fun _ _ => rfl)) rfl)
      (pss_cons (ps_fld (pv 0) (pe_callTy c_tuple (by rfl) T.b_tuple (by decide +kernel) (pa_cons (pe_callB cr_sortedI (by rfl) T.b_sorted (by decide +kernel) (pa_cons (pe_callTy (call_list_dK rfl) (by rfl) T.b_list (by decide +kernel) (pa_cons (pe_ix (ix_tupk K rfl) (pv 5) pe_int (fun _ _ => rfl)) pa_nil)) pa_nil)) pa_nil)) rfl)
      (pss_one (ps_fld (pv 0) (pe_callTy c_tuple (by rfl) T.b_tuple (by decide +kernel) (pa_cons (pe_callB cr_sortedI (by rfl) T.b_sorted (by decide +kernel) (pa_cons (pe_ix (ix_tupk K rfl) (pv 5) pe_int (fun _ _ => rfl)) pa_nil)) pa_nil)) rfl))))))), ?_⟩
  refine q_dropP (ev_cal (ea_cons (ev_var rfl) ea_nil) (sp_mk' m rfl fun _ _ => ⟨m0, mb⟩)) fun H1 e1 => ?_
  refine q_forL (ev_var rfl) (SqL.of (e1 _ _ har)) (fun i σ' H' => Ex H H' ∧ ∃ o, σ' = [some (.ref x), some (.int (m : Nat)), some (.ref ar), some (.ref as), o, none]) (fun H2 e2 => ⟨e1.trans e2, _, rfl⟩) (fun i σ' H' _ p => SqL.of (p.1 _ _ har)) ?_ ?_
  · rintro i y σ' H' hy ⟨ex, o, rfl⟩
    obtain ⟨n, hn, rfl⟩ := nv_at hy
    obtain ⟨n1, n2⟩ := unitsN_mem.mp (hu n (List.mem_of_getElem? hn))
    have n1 : n < m := n1
    refine s_when (b := false) (et_or (a := false) (b := false) (et_is (et_test (ev_op (ev_var rfl) ev_c rv_I0)) (decide_eq_false (by omega))) fun _ => et_or (a := false) (b := false) (et_is (et_test (ev_op (ev_var rfl) (ev_var rfl) rv_I0)) (decide_eq_false (by omega))) fun _ => et_is (et_test (ev_op (p_ev (ev_cal (ea2 (ev_var rfl) (ev_var rfl)) (sp_mk' ((n : Int), (m : Int)) rfl fun _ _ => trivial))) ev_c (rv_ne rfl))) ?_) (fun c => absurd c (by decide)) (fun c H2 e2 => ⟨ex.trans e2, _, rfl⟩)
    exact (congrArg not (dec_ii (Nat.gcd n m) 1)).trans (by rw [n2]; rfl)
  rintro σ' H2 ⟨ex2, o, rfl⟩
  have har2 := ex2 _ _ har
  have has2 := ex2 _ _ has
  refine q_dropP (ev_cal (ea_cons (ev_var rfl) ea_nil) (sp_mk' (as, sg) rfl fun H3 e3 => ⟨e3 _ _ has2, hp⟩)) fun H3 e3 => ?_
  have har3 := e3 _ _ har2
  have has3 := e3 _ _ has2
  refine q_asgP (i := 5) (P := isLeast (leastN (m, r, sortU sg))) (ev_calP (PA := fun us H1 => ∃ d l, us = [.int (m : Nat), .ref d, .ref l] ∧ H1 d = some (.dK (dk r)) ∧ H1 l = some (.lst (nv (sortU sg)))) ?_ ?_) fun H4 v H5 e4 e5 hl => ?_
  · refine eap_consV (ev_var rfl) (eap_cons (P := isD r) ?_ fun H4 v H5 e4 e5 ⟨d, ev, _, hd⟩ => eap_cons (P := isL (nv (sortU sg))) (el_p (el_sortedS (es_setA (ev_var rfl) ((e4.trans e5) _ _ has3) (by omega)) hf)) fun H6 v2 H7 e6 e7 ⟨l, ev2, _, hl⟩ => eap_nil fun H8 e8 => ?_)
    · refine ed_dc (fun n => [some (.ref x), some (.int (m : Nat)), some (.ref ar), some (.ref as), some (.int (n : Nat)), none]) (ei_l (ev_var rfl) (SqL.of har3)) (asc_nodup ha) (by omega) ?_ (fun _ _ => rfl) (fun _ _ => ev_var rfl) (fun _ _ => ev_c)
      intro y _ H1 _ R hR
      exact hR H1 (Ex.refl H1)
    · subst ev
      subst ev2
      exact ⟨d, l, rfl, e8 _ _ ((e6.trans e7) _ _ hd), e8 _ _ hl⟩
  · rintro us H4 e4 ⟨d, l, rfl, hd, hl⟩
    refine sp_mk' ((m, r, sortU sg), d, l) rfl fun H5 e5 => ⟨e5 _ _ hd, e5 _ _ hl, m0, mb, ha, hu, asc_nodup (sortU_asc _), fun p hq => ?_, ?_⟩
    · have := hp p (sortU_mem.mp hq)
      exact ⟨this.1, this.2.1⟩
    · have : (sortU sg).length ≤ sg.length := (asc_nodup (sortU_asc _)).length_le_of_subset fun x hx => sortU_mem.mp hx
      show (sortU sg).length ≤ 1000
      omega
  obtain ⟨t, d, l, ev, t0, ht, hd, hl⟩ := hl
  subst ev
  have e25 : Ex H2 H5 := e3.trans (e4.trans e5)
  have hx5 : H5 x = some (.ins (He.ga K "Primes") dx []) := e25 _ _ (ex2 _ _ hx0)
  have L := leastN_ok (s := sortU sg) m0 ha hu (asc_nodup (sortU_asc sg)) fun p hq => by
    have := hp p (sortU_mem.mp hq)
    exact ⟨this.1, this.2.1⟩
  have exB : Ex HB H5 := hB.trans (ex2.trans e25)
  have hS : mkP m r sg = ⟨(leastN (m, r, sortU sg)).1, (leastN (m, r, sortU sg)).2.1, sortU (leastN (m, r, sortU sg)).2.2⟩ := rfl
  have k : ∀ H2, Ex HB H2 → isP K (mkP m r sg) HB (.ref x) H2 → Q .non H2 := k
  rw [hS] at k
  generalize leastN (m, r, sortU sg) = st at ht hd hl L k
  refine q_fldV (ev_op (ev_var rfl) ev_c (rv_ixT (SqT.of ht) (atI_nat (j := 0) rfl))) (ev_var rfl) hx5 T.c_Primes T.n_Primes_modulus (by decide) fun H6 e6 => ?_
  rw [show putF "modulus" (V.int (st.1 : Nat)) [] = [(("modulus" : Str), V.int (st.1 : Nat))] from rfl]
  have hx6 := e6 _ _ hx5
  have ht6 := keep (o := .ins (He.ga K "Primes") dx [("modulus", .int (st.1 : Nat))]) (e6 _ _ ht) hx6 nofun
  have hd6 := keep (o := .ins (He.ga K "Primes") dx [("modulus", .int (st.1 : Nat))]) (e6 _ _ hd) hx6 nofun
  have hl6 := keep (o := .ins (He.ga K "Primes") dx [("modulus", .int (st.1 : Nat))]) (e6 _ _ hl) hx6 nofun
  have ex6 : Ex HB (upd H6 x (.ins (He.ga K "Primes") dx [("modulus", .int (st.1 : Nat))])) := Ex.mut (exB.trans e6) hx
  have hx6' : upd H6 x (.ins (He.ga K "Primes") dx [("modulus", .int (st.1 : Nat))]) x = _ := upd_same
  generalize upd H6 x (.ins (He.ga K "Primes") dx [("modulus", .int (st.1 : Nat))]) = H6' at ht6 hd6 hl6 ex6 hx6'
  refine q_fldP (R := isT (nv st.2.1)) (eu_p (eu_tuple ?_)) (fun _ _ => ev_var rfl) hx6' T.c_Primes T.n_Primes_rests (by simp) ?_
  · rw [← sortU_id L.asc]
    exact el_sortedI (el_listD (ev_op (ev_var rfl) ev_c (rv_ixT (SqT.of ht6) (atI_nat (j := 1) rfl))) hd6) (asc_nodup L.asc)
  rintro H7 y H8 H9 e7 e8 ⟨ra, rfl, ra0, hra⟩ e9
  rw [show putF "rests" (V.ref ra) [(("modulus" : Str), V.int (st.1 : Nat))] = [(("modulus" : Str), V.int (st.1 : Nat)), (("rests" : Str), V.ref ra)] from rfl]
  have e69 : Ex H6' H9 := e7.trans (e8.trans e9)
  have hx9 := e69 _ _ hx6'
  have ht9 := keep (o := .ins (He.ga K "Primes") dx [("modulus", .int (st.1 : Nat)), ("rests", .ref ra)]) (e69 _ _ ht6) hx9 nofun
  have hl9 := keep (o := .ins (He.ga K "Primes") dx [("modulus", .int (st.1 : Nat)), ("rests", .ref ra)]) (e69 _ _ hl6) hx9 nofun
  have hr9 := keep (o := .ins (He.ga K "Primes") dx [("modulus", .int (st.1 : Nat)), ("rests", .ref ra)]) (e9 _ _ hra) hx9 nofun
  have ex9 : Ex HB (upd H9 x (.ins (He.ga K "Primes") dx [("modulus", .int (st.1 : Nat)), ("rests", .ref ra)])) := Ex.mut (ex6.trans e69) hx
  have hx9' : upd H9 x (.ins (He.ga K "Primes") dx [("modulus", .int (st.1 : Nat)), ("rests", .ref ra)]) x = _ := upd_same
  generalize upd H9 x (.ins (He.ga K "Primes") dx [("modulus", .int (st.1 : Nat)), ("rests", .ref ra)]) = H9' at ht9 hl9 hr9 ex9 hx9'
  refine s_fldP (R := isT (nv (sortU st.2.2))) (eu_p (eu_tuple (el_sortedA (ev_op (ev_var rfl) ev_c (rv_ixT (SqT.of ht9) (atI_nat (j := 2) rfl))) hl9 L.nod))) (fun _ _ => ev_var rfl) hx9' T.c_Primes T.n_Primes_singles (by simp) ?_
  rintro H10 y H11 H12 e10 e11 ⟨sa, rfl, sa0, hsa⟩ e12
  have e9_12 : Ex H9' H12 := e10.trans (e11.trans e12)
  have hx12 := e9_12 _ _ hx9'
  exact k _ (Ex.mut (ex9.trans e9_12) hx) ⟨x, dx, ra, sa, rfl, upd_same, keep (e9_12 _ _ hr9) hx12 nofun, keep (e12 _ _ hsa) hx12 nofun⟩
/-! ### in -/
abbrev N_primes_contains : List Str := ["self", "p"]
theorem sc_primes_contains : FnScope N_primes_contains ["self", "p"] (defScope s_primes_contains) := ⟨rfl, rfl, rfl, by decide +kernel, rfl, by decide +kernel, by decide +kernel⟩
def sp_primes_contains (K : PySem.W.Frag) : Sp := mkSp (α := V × PS × Nat) (fun a => [a.1, .int (a.2.2 : Nat)]) (fun a H => okP K a.1 a.2.1 H ∧ 0 < a.2.1.m ∧ 0 < a.2.2) (fun a => isV (.bl (memP a.2.2 a.2.1)))
theorem dec_bb (a b : Bool) : decide (V.bl a = V.bl b) = (a == b) := by
  cases a <;> cases b <;> rfl
theorem ok_primes_contains (T : Tx K mg base) : Met P w K mg base 2 (He.ga K "Primes") "__contains__" (sp_primes_contains K) := by
  refine met_of T.f_primes_contains T.c_Primes T.m_Primes_contains sc_primes_contains (fun _ _ _ _ _ _ us hl => match us, hl with | [_, _], _ => rfl) (len_sp fun _ => rfl) any_sp ?_
  rintro f cdv A outer s H vs Q E hr ⟨⟨v, S, p⟩, rfl, ⟨hS, m0, p0⟩, k⟩
  have hS : okP K v S H := hS
  refine ⟨_, pss_one (ps_ret (pe_cmpR op_ne (pe_c (ok_told_by T) hr (by decide) (by rfl) (pa_cons (pe_fldk K rfl (pv 0) rfl) (pa_cons (pe_fldk K rfl (pv 0) rfl) (pa_cons (pv 1) pa_nil)))) (pe_cmpR (op_inCk K rfl (hu_of hr)) (pv 1) (pe_fldk K rfl (pv 0) rfl) (by rfl)) (nomark _))), ?_⟩
  obtain ⟨r, hr, er⟩ := ev_pr (ta := tVar 0) (σ := L2.start N_primes_contains [v, .int (p : Nat)]) T (ev_var rfl) hS
  obtain ⟨sa, hs, es⟩ := ev_ps (ta := tVar 0) (σ := L2.start N_primes_contains [v, .int (p : Nat)]) T (ev_var rfl) hS
  refine s_retP (ev_p (ev_eqB (ev_op (p_ev (ev_cal (ea_cons (ev_pm T (ev_var rfl) hS) (ea_cons er (ea_cons (ev_var rfl) ea_nil))) (sp_mk' (S.m, .ref r, S.rests, p) rfl fun H1 e1 => ⟨IntC.tupN (e1 _ _ hr), m0, p0⟩))) (ev_eqB (ev_op (ev_var rfl) es (rv_inC (IntC.tupN hs))) mem_zs) (rv_ne rfl)) ?_)) k
  rw [dec_bb]
  rfl
end
end EP
end

section
set_option Elab.async false
set_option linter.all false
set_option maxRecDepth 100000
set_option maxHeartbeats 4000000
/-! D5: joined sets, the complement, every, none, joint_modulus. -/
namespace EP
open PySem PySem.Spec PyProof.Rows L2 Evl
/-- a place where the sets live: moduli that divide D, special primes among Ss -/
structure EnvOk (D : Nat) (Ss : List Nat) : Prop where
  pos : 0 < D
  le : D ≤ 4000
  few : Ss.length < 20
  small : ∀ p ∈ Ss, p < 2 ^ 20
  odd : ∀ p, Prime p → p ≠ 2 → p ∣ D → p ∈ Ss
section
variable {D : Nat} {Ss : List Nat} {a b : PS}
theorem Good.le (E : EnvOk D Ss) (g : Good D Ss a) : a.m ≤ 4000 := Nat.le_trans (Nat.le_of_dvd E.pos g.dvd) E.le
theorem Good.slen (E : EnvOk D Ss) (g : Good D Ss a) : a.singles.length < 20 := Nat.lt_of_le_of_lt ((asc_nodup g.sasc).length_le_of_subset fun p hp => (g.spr p hp).2.2) E.few
theorem Good.rlen (E : EnvOk D Ss) (g : Good D Ss a) : a.rests.length ≤ 4000 := Nat.le_trans (asc_len g.asc fun x hx => (unitsN_mem.mp (g.un x hx)).1) (g.le E)
theorem Good.sless (E : EnvOk D Ss) (g : Good D Ss a) : ∀ p ∈ a.singles, 0 < p ∧ p < 2 ^ 20 := fun p hp => ⟨(g.spr p hp).1.pos, E.small p (g.spr p hp).2.2⟩
theorem lcm_le (E : EnvOk D Ss) (ga : Good D Ss a) (gb : Good D Ss b) : lcmN a.m b.m ≤ 4000 := Nat.le_trans (Nat.le_of_dvd E.pos (ga.lcm gb)) E.le
/-- the special primes of two sets -/
def spec2 (a b : PS) : List Nat := oddDivN (lcmN a.m b.m) ++ a.singles ++ b.singles
theorem spec2_len (E : EnvOk D Ss) (ga : Good D Ss a) (gb : Good D Ss b) : (spec2 a b).length < 64 := by
  have h1 := oddDivN_len (lcmN_pos ga.pos gb.pos) (by have := lcm_le E ga gb; omega)
  have h2 := ga.slen E
  have h3 := gb.slen E
  unfold spec2
  rw [List.length_append, List.length_append]
  omega
theorem spec2_pr (E : EnvOk D Ss) (ga : Good D Ss a) (gb : Good D Ss b) : ∀ p ∈ spec2 a b, Prime p ∧ p ≠ 2 ∧ p ∈ Ss := fun p hp => by
  rcases List.mem_append.mp hp with h | h
  · rcases List.mem_append.mp h with h | h
    · obtain ⟨h1, h2, h3⟩ := (oddDivN_mem (lcmN_pos ga.pos gb.pos)).mp h
      exact ⟨h1, h2, E.odd p h1 h2 (Nat.dvd_trans h3 (ga.lcm gb))⟩
    · exact ga.spr p h
  · exact gb.spr p h
theorem sortU_len (l : List Nat) : (sortU l).length ≤ l.length := (asc_nodup (sortU_asc _)).length_le_of_subset fun x hx => sortU_mem.mp hx
theorem mk_comb (E : EnvOk D Ss) (ga : Good D Ss a) (gb : Good D Ss b) (f : Bool → Bool → Bool) : MkPre (lcmN a.m b.m) (combR f a b) (combS f a b) where
  pos := lcmN_pos ga.pos gb.pos
  le := lcm_le E ga gb
  asc := combR_asc
  un := combR_un
  pr := fun p hp => by
    have := spec2_pr E ga gb p (sortU_mem.mp (List.mem_filter.mp hp).1)
    exact ⟨this.1, this.2.1, E.small p this.2.2⟩
  few := by
    have h1 := spec2_len E ga gb
    have h2 := sortU_len (spec2 a b)
    have h3 := List.length_filter_le (fun p => f (memP p a) (memP p b) != toldN (lcmN a.m b.m) (combR f a b) p) (sortU (spec2 a b))
    show (combS f a b).length < 64
    have : combS f a b = (sortU (spec2 a b)).filter fun p => f (memP p a) (memP p b) != toldN (lcmN a.m b.m) (combR f a b) p := rfl
    rw [this]
    omega
end
section
variable {P : Program} {w : World} {K : PySem.W.Frag} {mg : Str → Option Value} {base : Heap}
abbrev N_combined : List Str := ["first", "second", "rule", "modulus", "first_rests", "second_rests", "rests", "rest", "singles", "p", "one"]
theorem sc_combined : FnScope N_combined ["first", "second", "rule"] (defScope s_combined) := ⟨rfl, rfl, rfl, by decide +kernel, rfl, by decide +kernel, by decide +kernel⟩
theorem dec_bne (a b : Bool) : (!decide (V.bl a = V.bl b)) = (a != b) := by
  rw [dec_bb]
  rfl
theorem lcmI (a b : Nat) : ((a : Int) * (b : Int)) / ((Nat.gcd a b : Nat) : Int) = ((lcmN a b : Nat) : Int) := by
  rw [mul_nat, ediv_nat]
  rfl
theorem ei_tup {σ : L2.St} {H : Hp} {te : TE} {a : Addr} {xs : List V} (hx : Ev te σ H (.ref a)) (h : H a = some (.tup xs)) : EvI (iTup K te) σ H xs := ei_t hx (SqT.of h)
def sp_combined (K : PySem.W.Frag) : Sp := mkSp (α := (V × PS) × (V × PS) × Rule) (fun a => [a.1.1, a.2.1.1, .str a.2.2.text]) (fun a H => okP K a.1.1 a.1.2 H ∧ okP K a.2.1.1 a.2.1.2 H ∧ ∃ D Ss, EnvOk D Ss ∧ Good D Ss a.1.2 ∧ Good D Ss a.2.1.2) (fun a => isP K (combN a.2.2.f a.1.2 a.2.1.2))
theorem ok_combined (T : Tx K mg base) : Cal P w K mg base 7 "combined" (sp_combined K) := by
  refine cal_of T.f_combined T.g_combined sc_combined (fun _ _ _ _ _ _ us hl => match us, hl with | [_, _, _], _ => rfl) (len_sp fun _ => rfl) any_sp ?_
  rintro f cdv A outer s H vs Q E hr ⟨⟨⟨v1, S1⟩, ⟨v2, S2⟩, ru⟩, rfl, ⟨h1, h2, D, Ss, EO, g1, g2⟩, k⟩
  have h1 : okP K v1 S1 H := h1
  have h2 : okP K v2 S2 H := h2
  have g1 : Good D Ss S1 := g1
  have g2 : Good D Ss S2 := g2
  refine ⟨_, pss_cons (ps_set (i := 3) sc_combined.nd rfl (Or.inl rfl) (pe_op op_fdiv (pe_op op_mul (pe_fldk K rfl (pv 0) rfl) (pe_fldk K rfl (pv 1) rfl)) (pe_c (ok_common T) hr (by decide) (by rfl) (pa_cons (pe_fldk K rfl (pv 0) rfl) (pa_cons (pe_fldk K rfl (pv 1) rfl) pa_nil)))))
      (pss_cons (ps_if (pt_cmpR op_gt (pv 3) (pe_gi rfl T.i_MOST_MODULUS) (nomark _)) (pss_one (ps_never)) (pss_nil))
      (pss_cons (ps_setDc (i := 4) (own := [("rest", 7)]) (g := gName 7) (by rfl) sc_combined.nd rfl rfl (swDc rfl rfl rfl (by decide +kernel)) (pi_tup (pe_fldk K rfl (pv 0) rfl)) (blkOk_by (own := [("rest", 7)]) (N := N_combined) (sc := defScope s_combined) (by decide +kernel)) (fun _ _ _ _ _ => pg_name (i := 7) sc_combined.nd rfl (Or.inl rfl)) (fun _ _ _ _ _ => pts_nil) (fun _ _ _ _ _ => pv 7) (fun _ _ _ _ _ => pe_bl))
      (pss_cons (ps_setDc (i := 5) (own := [("rest", 7)]) (g := gName 7) (by rfl) sc_combined.nd rfl rfl (swDc rfl rfl rfl (by decide +kernel)) (pi_tup (pe_fldk K rfl (pv 1) rfl)) (blkOk_by (own := [("rest", 7)]) (N := N_combined) (sc := defScope s_combined) (by decide +kernel)) (fun _ _ _ _ _ => pg_name (i := 7) sc_combined.nd rfl (Or.inl rfl)) (fun _ _ _ _ _ => pts_nil) (fun _ _ _ _ _ => pv 7) (fun _ _ _ _ _ => pe_bl))
      (pss_cons (ps_set (i := 6) sc_combined.nd rfl (Or.inl rfl) pe_dnewK)
      (pss_cons (ps_for PassesOwn.never rfl (pi_list (pe_c (ok_units T) hr (by decide) (by rfl) (pa_cons (pv 3) pa_nil))) (pg_name (i := 7) sc_combined.nd rfl (Or.inl rfl)) (pss_cons (ps_set (i := 10) sc_combined.nd rfl (Or.inl rfl) (pe_cmpR (op_inCk K rfl (hu_of hr)) (pe_op op_mod (pv 7) (pe_fldk K rfl (pv 0) rfl)) (pv 4) (by rfl)))
        (pss_one (ps_if (pt_val (pe_c (ok_joined_answer T) hr (by decide) (by rfl) (pa_cons (pv 2) (pa_cons (pv 10) (pa_cons (pe_cmpR (op_inCk K rfl (hu_of hr)) (pe_op op_mod (pv 7) (pe_fldk K rfl (pv 1) rfl)) (pv 5) (by rfl)) pa_nil))))) (pss_one (ps_dput (hu_of hr) (pv 6) (pv 7) pe_bl rfl)) (pss_nil)))))
      (pss_cons (ps_set (i := 8) sc_combined.nd rfl (Or.inl rfl) (pe_lst pa_nil))
      (pss_cons (ps_for PassesOwn.never rfl (pi_list (pe_callB (cr_sortedSet rfl) (by rfl) T.b_sorted (by decide +kernel) (pa_cons (pe_callTy (cr_setL rfl) (by rfl) T.b_set (by decide +kernel) (pa_cons (pe_op op_cat (pe_op op_cat (pe_c (ok_odd_divisors T) hr (by decide) (by rfl) (pa_cons (pv 3) pa_nil)) (pe_callTy c_list (by rfl) T.b_list (by decide +kernel) (pa_cons (pe_fldk K rfl (pv 0) rfl) pa_nil))) (pe_callTy c_list (by rfl) T.b_list (by decide +kernel) (pa_cons (pe_fldk K rfl (pv 1) rfl) pa_nil))) pa_nil)) pa_nil))) (pg_name (i := 9) sc_combined.nd rfl (Or.inl rfl)) (pss_one (ps_if (pt_cmpR op_ne (pe_c (ok_joined_answer T) hr (by decide) (by rfl) (pa_cons (pv 2) (pa_cons (pe_cmpR (op_ownIn (ok_primes_contains T) hr (by decide)) (pv 9) (pv 0) (by rfl)) (pa_cons (pe_cmpR (op_ownIn (ok_primes_contains T) hr (by decide)) (pv 9) (pv 1) (by rfl)) pa_nil)))) (pe_c (ok_told_by T) hr (by decide) (by rfl) (pa_cons (pv 3) (pa_cons (pv 6) (pa_cons (pv 9) pa_nil)))) (nomark _)) (pss_one (ps_expr (pe_bm PySem.F.plainAttrs_list PySem.F.slot_list_append PySem.F.type_list_append mt_append (pv 8) (pa_cons (pv 9) pa_nil)))) (pss_nil))))
      (pss_one (ps_ret (pe_mk (ok_primes_init T) hr (by decide) (by rfl) (pa_cons (pv 3) (pa_cons (pe_callTy (call_list_dK rfl) (by rfl) T.b_list (by decide +kernel) (pa_cons (pv 6) pa_nil)) (pa_cons (pv 8) pa_nil))))))))))))), ?_⟩
  have M0 := lcmN_pos g1.pos g2.pos
  have MB := lcm_le EO g1 g2
  have hfs : S1.m ≤ 4000 := g1.le EO
  have hgs : S2.m ≤ 4000 := g2.le EO
  have gp : 0 < Nat.gcd S1.m S2.m := Nat.gcd_pos_of_pos_left _ g1.pos
  have gl : Nat.gcd S1.m S2.m ≤ S1.m := Nat.gcd_le_left _ g1.pos
  have g29 : Nat.gcd S1.m S2.m < 2 ^ 29 := by omega
  refine q_asgI (i := 3) (ev_op (ev_op (ev_pm T (ev_var rfl) h1) (ev_pm T (ev_var rfl) h2) (rv_I (cm1 (by omega)))) (p_ev (ev_cal (ea2 (ev_pm T (ev_var rfl) h1) (ev_pm T (ev_var rfl) h2)) (sp_mk' ((S1.m : Int), (S2.m : Int)) rfl fun _ _ => trivial))) (rv_I (cdiv gp g29))) (lcmI S1.m S2.m) fun H1 e1 => ?_
  generalize hM : lcmN S1.m S2.m = M at M0 MB
  refine q_when (b := false) (et_is (et_test (ev_op (ev_var rfl) ev_c rv_I0)) (decide_eq_false (by omega))) (fun c => absurd c (by decide)) (fun c H2 e2 => ?_)
  have e02 := e1.trans e2
  obtain ⟨r1, hr1, er1⟩ := ev_pr (ta := tVar 0) (σ := [some v1, some v2, some (.str ru.text), some (.int (M : Nat)), none, none, none, none, none, none, none]) T (ev_var rfl) (h1.ex e02)
  refine q_asgP (i := 4) (P := isD S1.rests) ?_ fun H3 v H4 e3 e4 ⟨d1, ev, d10, hd1⟩ => ?_
  · refine ed_dc (fun n => [some v1, some v2, some (.str ru.text), some (.int (M : Nat)), none, none, none, some (.int (n : Nat)), none, none, none]) (ei_tup er1 hr1) (asc_nodup g1.asc) (by have := g1.rlen EO; omega) ?_ (fun _ _ => rfl) (fun _ _ => ev_var rfl) (fun _ _ => ev_c)
    intro y _ H1 _ R hR
    exact hR H1 (Ex.refl H1)
  subst ev
  have e04 := e02.trans (e3.trans e4)
  obtain ⟨r2, hr2, er2⟩ := ev_pr (ta := tVar 1) (σ := [some v1, some v2, some (.str ru.text), some (.int (M : Nat)), some (.ref d1), none, none, none, none, none, none]) T (ev_var rfl) (h2.ex e04)
  refine q_asgP (i := 5) (P := isD S2.rests) ?_ fun H5 v H6 e5 e6 ⟨d2, ev, d20, hd2⟩ => ?_
  · refine ed_dc (fun n => [some v1, some v2, some (.str ru.text), some (.int (M : Nat)), some (.ref d1), none, none, some (.int (n : Nat)), none, none, none]) (ei_tup er2 hr2) (asc_nodup g2.asc) (by have := g2.rlen EO; omega) ?_ (fun _ _ => rfl) (fun _ _ => ev_var rfl) (fun _ _ => ev_c)
    intro y _ H1 _ R hR
    exact hR H1 (Ex.refl H1)
  subst ev
  have e06 := e04.trans (e5.trans e6)
  have hd1 : H6 d1 = some (.dK (dk S1.rests)) := (e5.trans e6) _ _ hd1
  have h1 := h1.ex e06
  have h2 := h2.ex e06
  refine q_asgP (i := 6) ed_new fun H7 v H8 e7 e8 ⟨d, ev, dn, hd⟩ => ?_
  subst ev
  have d06 : H6 d = none := fresh_back e7 dn
  have e68 : Ex H6 H8 := e7.trans e8
  refine q_forNL (p_el (ev_cal (ea_cons (ev_var rfl) ea_nil) (sp_mk' M rfl fun _ _ => MB))) (fun p i σ' H' => ∃ o7 o10, σ' = [some v1, some v2, some (.str ru.text), some (.int (M : Nat)), some (.ref d1), some (.ref d2), some (.ref d), o7, none, none, o10] ∧ Ex H6 H' ∧ H' p = some (.lst (nv (unitsN M))) ∧
    H' d = some (.dK (dk (((unitsN M).take i).filter fun r => ru.f (inR r S1) (inR r S2)))))
    (fun p H9 p0 e9 hp => ⟨none, none, rfl, e68.trans e9, hp, e9 _ _ hd⟩) (fun p i σ' H' _ ⟨_, _, _, _, hp, _⟩ => SqL.of hp) ?_ ?_
  · rintro p i x σ' H' hx ⟨o7, o10, rfl, ex, hp, hd'⟩
    obtain ⟨r, hxi, rfl⟩ := nv_at hx
    have ft : ((unitsN M).take (i + 1)).filter (fun r => ru.f (inR r S1) (inR r S2)) = ((unitsN M).take i).filter (fun r => ru.f (inR r S1) (inR r S2)) ++ if ru.f (inR r S1) (inR r S2) then [r] else [] := by
      rw [take_snoc hxi, List.filter_append, List.filter_cons]
      split <;> rfl
    have h1' := h1.ex ex
    have h2' := h2.ex ex
    refine q_asg (i := 10) (ev_eqB (ev_op (ev_eqI (ev_op (ev_var rfl) (ev_pm T (ev_var rfl) h1') (rv_I (cmod g1.pos))) (emod_nat r S1.m)) (ev_var rfl) (rv_inC (IntC.dk (ex _ _ hd1)))) mem_zs) fun H9 e9 => ?_
    have hd9 := e9 _ _ hd'
    have hp9 := e9 _ _ hp
    refine s_when (b := ru.f (inR r S1) (inR r S2)) (et_test (p_ev (ev_cal (ea_cons (ev_var rfl) (ea_cons (ev_var rfl) (ea_cons (ev_eqB (ev_op (ev_eqI (ev_op (ev_var rfl) (ev_pm T (ev_var rfl) (h2'.ex e9)) (rv_I (cmod g2.pos))) (emod_nat r S2.m)) (ev_var rfl) (rv_inC (IntC.dk ((ex.trans e9) _ _ hd2)))) mem_zs) ea_nil))) (sp_mk' (ru, inR r S1, inR r S2) rfl fun _ _ => trivial)))) (fun c H10 e10 => ?_) (fun c H10 e10 => ?_)
    · rw [c, if_pos rfl] at ft
      have hd10 := e10 _ _ hd9
      have hp10 := e10 _ _ hp9
      refine s_dput ev_c (ev_var rfl) (ev_var rfl) hd10 (fun hm => not_in_take (asc_nodup (unitsN_asc _)) hxi (List.mem_filter.mp hm).1) ?_ fun H11 e11 => ?_
      · have h1 := List.length_filter_le (fun r => ru.f (inR r S1) (inR r S2)) ((unitsN M).take i)
        have h2 := unitsN_len M
        rw [List.length_take] at h1
        omega
      · refine ⟨_, _, rfl, Ex.mut (ex.trans (e9.trans (e10.trans e11))) d06, keep (e11 _ _ hp10) (e11 _ _ hd10) nofun, ?_⟩
        rw [ft]
        exact upd_same
    · rw [c, if_neg Bool.false_ne_true, List.append_nil] at ft
      exact ⟨_, _, rfl, ex.trans (e9.trans e10), e10 _ _ hp9, by rw [ft]; exact e10 _ _ hd9⟩
  rintro p σ' H9 ⟨o7, o10, rfl, ex9, -, hd9⟩
  rw [nv_len, List.take_length] at hd9
  have hR : (unitsN M).filter (fun r => ru.f (inR r S1) (inR r S2)) = combR ru.f S1 S2 := by rw [← hM]; rfl
  rw [hR] at hd9
  have h1 := h1.ex ex9
  have h2 := h2.ex ex9
  have e09 := e06.trans ex9
  refine q_asgL (i := 8) (el_lst ea_nil (by simp)) fun l H10 l0 e10 hl => ?_
  have h1' := h1.ex e10
  have h2' := h2.ex e10
  have hlen := spec2_len EO g1 g2
  obtain ⟨s1, hs1, es1⟩ := ev_ps (ta := tVar 0) (σ := [some v1, some v2, some (.str ru.text), some (.int (M : Nat)), some (.ref d1), some (.ref d2), some (.ref d), o7, some (.ref l), none, o10]) T (ev_var rfl) h1'
  obtain ⟨s2, hs2, es2⟩ := ev_ps (ta := tVar 1) (σ := [some v1, some v2, some (.str ru.text), some (.int (M : Nat)), some (.ref d1), some (.ref d2), some (.ref d), o7, some (.ref l), none, o10]) T (ev_var rfl) h2'
  have hsp : spec2 S1 S2 = oddDivN M ++ S1.singles ++ S2.singles := by
    unfold spec2
    rw [hM]
  refine q_forNL (xs := nv (sortU (spec2 S1 S2))) ?_ (fun p i σ' H' => ∃ o9, σ' = [some v1, some v2, some (.str ru.text), some (.int (M : Nat)), some (.ref d1), some (.ref d2), some (.ref d), o7, some (.ref l), o9, o10] ∧ Ex H9 H' ∧ H' p = some (.lst (nv (sortU (spec2 S1 S2)))) ∧
    l ≠ p ∧ H' l = some (.lst (nv (((sortU (spec2 S1 S2)).take i).filter fun p => ru.f (memP p S1) (memP p S2) != toldN M (combR ru.f S1 S2) p))))
    (fun p H11 p0 e11 hp => ⟨none, rfl, e10.trans e11, hp, (fun e => by rw [e, p0] at hl; cases hl), e11 _ _ hl⟩) (fun p i σ' H' _ ⟨_, _, _, hp, _⟩ => SqL.of hp) ?_ ?_
  · refine el_sortedS (es_set ?_ (by omega)) hlen
    have e1 : nv (spec2 S1 S2) = nv (oddDivN M) ++ nv S1.singles ++ nv S2.singles := by
      rw [hsp]
      simp [nv]
    rw [e1]
    have l1 := oddDivN_len M0 (by omega)
    have l2 := g1.slen EO
    have l3 := g2.slen EO
    refine el_cat (el_cat (p_el (ev_cal (ea_cons (ev_var rfl) ea_nil) (sp_mk' M rfl fun _ _ => ⟨M0, by omega⟩))) (el_listT es1 (SqT.of hs1)) ?_) (el_listT es2 (SqT.of hs2)) ?_
    · rw [nv_len, nv_len]; omega
    · rw [List.length_append, nv_len, nv_len, nv_len]; omega
  · rintro p i x σ' H' hx ⟨o9, rfl, ex, hp, lp, hl'⟩
    obtain ⟨q, hxi, rfl⟩ := nv_at hx
    have qm := sortU_mem.mp (List.mem_of_getElem? hxi)
    have q0 := (spec2_pr EO g1 g2 q qm).1.pos
    have h1' := h1.ex ex
    have h2' := h2.ex ex
    obtain ⟨a1, rfl, ia1⟩ := InsAt.of h1'
    obtain ⟨a2, rfl, ia2⟩ := InsAt.of h2'
    have ft : ((sortU (spec2 S1 S2)).take (i + 1)).filter (fun p => ru.f (memP p S1) (memP p S2) != toldN M (combR ru.f S1 S2) p) = ((sortU (spec2 S1 S2)).take i).filter (fun p => ru.f (memP p S1) (memP p S2) != toldN M (combR ru.f S1 S2) p) ++ if (ru.f (memP q S1) (memP q S2) != toldN M (combR ru.f S1 S2) q) = true then [q] else [] := by
      rw [take_snoc hxi, List.filter_append, List.filter_cons]
      split <;> rfl
    have inP : ∀ (a : Addr) (S : PS) (te : TE) (σ : L2.St) (H1 : Hp), Ev te σ H1 (.ref a) → okP K (.ref a) S H1 → 0 < S.m → ∀ {ti : TE}, Ev ti σ H1 (.int (q : Nat)) → Ev (tOp (rOwnIn (He.ga K "Primes") (sp_primes_contains K) false) ti te) σ H1 (.bl (memP q S)) := fun a S te σ H1 hx hS m0 ti hi => ev_op hi hx fun H2 e2 Q qq => by
      obtain ⟨a', ea, ia⟩ := InsAt.of (hS.ex e2)
      cases ea
      exact ⟨a, rfl, ia, (.ref a, S, q), rfl, ⟨hS.ex e2, m0, q0⟩, fun H0 z H3 e0 e3 hz => ⟨memP q S, hz, qq H3 (e0.trans e3)⟩⟩
    refine s_when (b := ru.f (memP q S1) (memP q S2) != toldN M (combR ru.f S1 S2) q) ?_ (fun c H10 e10 => ?_) (fun c H10 e10 => ?_)
    · refine et_is (et_test (ev_op (p_ev (ev_cal (ea_cons (ev_var rfl) (ea_cons (inP a1 S1 _ _ _ (ev_var rfl) h1' g1.pos (ev_var rfl)) (ea_cons (inP a2 S2 _ _ _ (ev_var rfl) h2' g2.pos (ev_var rfl)) ea_nil))) (sp_mk' (ru, memP q S1, memP q S2) rfl fun _ _ => trivial))) (p_ev (ev_cal (ea_cons (ev_var rfl) (ea_cons (ev_var rfl) (ea_cons (ev_var rfl) ea_nil))) (sp_mk' (M, .ref d, combR ru.f S1 S2, q) rfl fun H1 e1 => ⟨IntC.dk ((ex.trans e1) _ _ hd9), M0, q0⟩))) (rv_ne rfl))) (dec_bne _ _)
    · rw [c, if_pos rfl] at ft
      have hl10 := e10 _ _ hl'
      have hp10 := e10 _ _ hp
      refine s_app hl10 (ev_var rfl) (ev_var rfl) ?_ fun H11 e11 => ?_
      · have h1 := List.length_filter_le (fun p => ru.f (memP p S1) (memP p S2) != toldN M (combR ru.f S1 S2) p) ((sortU (spec2 S1 S2)).take i)
        have h2 := sortU_len (spec2 S1 S2)
        rw [List.length_take] at h1
        rw [nv_len]
        omega
      · refine ⟨_, rfl, Ex.mut (ex.trans (e10.trans e11)) l0, ?_, lp, ?_⟩
        · rw [upd_ne (Ne.symm lp)]
          exact e11 _ _ hp10
        · rw [ft]
          refine upd_same.trans ?_
          simp [nv]
    · rw [c, if_neg Bool.false_ne_true, List.append_nil] at ft
      exact ⟨_, rfl, ex.trans e10, e10 _ _ hp, lp, by rw [ft]; exact e10 _ _ hl'⟩
  rintro p σ' H11 ⟨o9, rfl, ex11, -, lp, hl11⟩
  rw [nv_len, List.take_length] at hl11
  have hS : (sortU (spec2 S1 S2)).filter (fun p => ru.f (memP p S1) (memP p S2) != toldN M (combR ru.f S1 S2) p) = combS ru.f S1 S2 := by rw [← hM]; rfl
  rw [hS] at hl11
  have hd11 := ex11 _ _ hd9
  refine s_retP (P := isP K (mkP M (combR ru.f S1 S2) (combS ru.f S1 S2))) (ev_mkP (PA := fun us H1 => ∃ b, us = [.int (M : Nat), .ref b, .ref l] ∧ H1 b = some (.lst (nv (combR ru.f S1 S2))) ∧ H1 l = some (.lst (nv (combS ru.f S1 S2)))) ?_ ?_) fun H0 v H2 e0 e2 hv => ?_
  · exact eap_consV (ev_var rfl) (eap_cons (P := isL (nv (combR ru.f S1 S2))) (el_p (el_listD (ev_var rfl) hd11)) fun H12 v H13 e12 e13 ⟨b, ev, _, hb⟩ => eap_consV (ev_var rfl) (eap_nil fun H14 e14 => ⟨b, by rw [ev], e14 _ _ hb, e14 _ _ ((e12.trans e13) _ _ hl11)⟩))
  · rintro us H12 e12 ⟨b, rfl, hb, hl⟩
    refine mk_mk ((M, combR ru.f S1 S2, combS ru.f S1 S2), b, l) rfl fun H13 e13 => ⟨e13 _ _ hb, e13 _ _ hl, ?_⟩
    have := mk_comb EO g1 g2 ru.f
    rw [hM] at this
    exact this
  · refine k H0 v H2 ((e09.trans ex11).trans e0) e2 ?_
    show isP K (combN ru.f S1 S2) H0 v H2
    unfold combN
    rw [hM]
    exact hv
end
end EP
end

section
set_option Elab.async false
set_option linter.all false
set_option maxRecDepth 100000
set_option maxHeartbeats 4000000
/-! D6: & | - ~ bool, every, none, by_rest, joint_modulus, special_primes. -/
namespace EP
open PySem PySem.Spec PyProof.Rows L2 Evl
section
variable {P : Program} {w : World} {K : PySem.W.Frag} {mg : Str → Option Value} {base : Heap}
def sp_join (K : PySem.W.Frag) (r : Rule) : Sp := mkSp (α := (V × PS) × (V × PS)) (fun a => [a.1.1, a.2.1]) (fun a H => okP K a.1.1 a.1.2 H ∧ okP K a.2.1 a.2.2 H ∧ ∃ D Ss, EnvOk D Ss ∧ Good D Ss a.1.2 ∧ Good D Ss a.2.2) (fun a => isP K (combN r.f a.1.2 a.2.2))
abbrev N_primes_and : List Str := ["self", "other"]
theorem sc_primes_and : FnScope N_primes_and ["self", "other"] (defScope s_primes_and) := ⟨rfl, rfl, rfl, by decide +kernel, rfl, by decide +kernel, by decide +kernel⟩
theorem ok_primes_and (T : Tx K mg base) : Met P w K mg base 8 (He.ga K "Primes") "__and__" (sp_join K .con) := by
  refine met_of T.f_primes_and T.c_Primes T.m_Primes_and sc_primes_and (fun _ _ _ _ _ _ us hl => match us, hl with | [_, _], _ => rfl) (len_sp fun _ => rfl) any_sp ?_
  rintro f cdv A outer s H vs Q E hr ⟨⟨⟨v1, S1⟩, ⟨v2, S2⟩⟩, rfl, ⟨h1, h2, g⟩, k⟩
  refine ⟨_, pss_one (ps_ret (pe_c (ok_combined T) hr (by decide) (by rfl) (pa_cons (pv 0) (pa_cons (pv 1) (pa_cons pe_str pa_nil))))), ?_⟩
  exact s_retP (ev_cal (ea_cons (ev_var rfl) (ea_cons (ev_var rfl) (ea_cons ev_c ea_nil))) (sp_mk' ((v1, S1), (v2, S2), Rule.con) rfl fun H1 e1 => ⟨okP.ex e1 h1, okP.ex e1 h2, g⟩)) k
abbrev N_primes_or : List Str := ["self", "other"]
theorem sc_primes_or : FnScope N_primes_or ["self", "other"] (defScope s_primes_or) := ⟨rfl, rfl, rfl, by decide +kernel, rfl, by decide +kernel, by decide +kernel⟩
theorem ok_primes_or (T : Tx K mg base) : Met P w K mg base 8 (He.ga K "Primes") "__or__" (sp_join K .dis) := by
  refine met_of T.f_primes_or T.c_Primes T.m_Primes_or sc_primes_or (fun _ _ _ _ _ _ us hl => match us, hl with | [_, _], _ => rfl) (len_sp fun _ => rfl) any_sp ?_
  rintro f cdv A outer s H vs Q E hr ⟨⟨⟨v1, S1⟩, ⟨v2, S2⟩⟩, rfl, ⟨h1, h2, g⟩, k⟩
  refine ⟨_, pss_one (ps_ret (pe_c (ok_combined T) hr (by decide) (by rfl) (pa_cons (pv 0) (pa_cons (pv 1) (pa_cons pe_str pa_nil))))), ?_⟩
  exact s_retP (ev_cal (ea_cons (ev_var rfl) (ea_cons (ev_var rfl) (ea_cons ev_c ea_nil))) (sp_mk' ((v1, S1), (v2, S2), Rule.dis) rfl fun H1 e1 => ⟨okP.ex e1 h1, okP.ex e1 h2, g⟩)) k
abbrev N_primes_sub : List Str := ["self", "other"]
theorem sc_primes_sub : FnScope N_primes_sub ["self", "other"] (defScope s_primes_sub) := ⟨rfl, rfl, rfl, by decide +kernel, rfl, by decide +kernel, by decide +kernel⟩
theorem ok_primes_sub (T : Tx K mg base) : Met P w K mg base 8 (He.ga K "Primes") "__sub__" (sp_join K .dif) := by
  refine met_of T.f_primes_sub T.c_Primes T.m_Primes_sub sc_primes_sub (fun _ _ _ _ _ _ us hl => match us, hl with | [_, _], _ => rfl) (len_sp fun _ => rfl) any_sp ?_
  rintro f cdv A outer s H vs Q E hr ⟨⟨⟨v1, S1⟩, ⟨v2, S2⟩⟩, rfl, ⟨h1, h2, g⟩, k⟩
  refine ⟨_, pss_one (ps_ret (pe_c (ok_combined T) hr (by decide) (by rfl) (pa_cons (pv 0) (pa_cons (pv 1) (pa_cons pe_str pa_nil))))), ?_⟩
  exact s_retP (ev_cal (ea_cons (ev_var rfl) (ea_cons (ev_var rfl) (ea_cons ev_c ea_nil))) (sp_mk' ((v1, S1), (v2, S2), Rule.dif) rfl fun H1 e1 => ⟨okP.ex e1 h1, okP.ex e1 h2, g⟩)) k
/-- x op y of two sets -/
theorem ev_join {r : Rule} {σ : L2.St} {H : Hp} {ta tb : TE} {S1 S2 : PS} {D : Nat} {Ss : List Nat} (h1 : EvP ta σ H (isP K S1)) (h2 : ∀ H1, Ex H H1 → EvP tb σ H1 (isP K S2)) (E : EnvOk D Ss) (g1 : Good D Ss S1) (g2 : Good D Ss S2) :
    EvP (tOp (rOwn (He.ga K "Primes") (sp_join K r)) ta tb) σ H (isP K (combN r.f S1 S2)) :=
  ev_opP (Pb := fun x H0 y H1 => okP K x S1 H1 ∧ okP K y S2 H1) h1 (fun H0 x H1 e0 e1 hx => (h2 H1 (e0.trans e1)).imp fun H2 y H3 e2 e3 hy => ⟨okP.ex (e2.trans e3) hx, hy⟩) fun x H0 y H1 e0 e1 ⟨hx, hy⟩ Q k => by
    obtain ⟨a, rfl, ia⟩ := InsAt.of hx
    obtain ⟨b, rfl, ib⟩ := InsAt.of hy
    exact ⟨a, b, rfl, rfl, ia, ib, ((.ref a, S1), (.ref b, S2)), rfl, ⟨hx, hy, D, Ss, E, g1, g2⟩, k⟩
theorem ev_isP {σ : L2.St} {H : Hp} {ta : TE} {v : V} {S : PS} (h : Ev ta σ H v) (hv : okP K v S H) : EvP ta σ H (isP K S) := fun H1 e Q q => h H1 e Q fun H2 e2 => q H1 v H2 (Ex.refl H1) e2 (hv.ex (e.trans e2))
/-! ### bool -/
abbrev N_primes_bool : List Str := ["self"]
theorem sc_primes_bool : FnScope N_primes_bool ["self"] (defScope s_primes_bool) := ⟨rfl, rfl, rfl, by decide +kernel, rfl, by decide +kernel, by decide +kernel⟩
def sp_primes_bool (K : PySem.W.Frag) : Sp := mkSp (α := V × PS) (fun a => [a.1]) (fun a H => okP K a.1 a.2 H ∧ a.2.rests.length + a.2.singles.length ≤ 100000) (fun a => isV (.bl (truthN a.2)))
theorem ok_primes_bool (T : Tx K mg base) : Met P w K mg base 1 (He.ga K "Primes") "__bool__" (sp_primes_bool K) := by
  refine met_of T.f_primes_bool T.c_Primes T.m_Primes_bool sc_primes_bool (fun _ _ _ _ _ _ us hl => match us, hl with | [_], _ => rfl) (len_sp fun _ => rfl) any_sp ?_
  rintro f cdv A outer s H vs Q E hr ⟨⟨v, S⟩, rfl, ⟨h, hz⟩, k⟩
  refine ⟨_, pss_one (ps_ret (pe_callTy c_boolU (by rfl) T.b_bool (by decide +kernel) (pa_cons (pe_op op_catA (pe_fldk K rfl (pv 0) rfl) (pe_fldk K rfl (pv 0) rfl)) pa_nil))), ?_⟩
  obtain ⟨r1, hr1, er1⟩ := ev_pr (ta := tVar 0) (σ := L2.start N_primes_bool [v]) T (ev_var rfl) h
  obtain ⟨s1, hs1, es1⟩ := ev_ps (ta := tVar 0) (σ := L2.start N_primes_bool [v]) T (ev_var rfl) h
  refine s_retP (ev_p (ev_eqB (ev_boolcat er1 es1 hr1 hs1 (by rw [nv_len, nv_len]; exact hz)) ?_)) k
  show (!(nv S.rests ++ nv S.singles).isEmpty) = truthN S
  unfold truthN nv
  rw [← List.map_append, List.isEmpty_map]
theorem et_bool {σ : L2.St} {H : Hp} {ta : TE} {S : PS} (h : EvP ta σ H (isP K S)) (hz : S.rests.length + S.singles.length ≤ 100000) : EvT (tOwnT (He.ga K "Primes") (sp_primes_bool K) ta) σ H (truthN S) := fun H1 e Q q =>
  h H1 e _ fun H0 v H2 e0 e2 hv => by
    obtain ⟨a, rfl, ia⟩ := InsAt.of hv
    exact ⟨a, rfl, ia, (.ref a, S), rfl, ⟨hv, hz⟩, fun H3 z H4 e3 e4 hz => ⟨truthN S, hz, q H4 ((e0.trans e2).trans (e3.trans e4))⟩⟩
theorem ev_bool {σ : L2.St} {H : Hp} {ta : TE} {S : PS} (h : EvP ta σ H (isP K S)) (hz : S.rests.length + S.singles.length ≤ 100000) : Ev (tCB (rBoolOwn (He.ga K "Primes") (sp_primes_bool K)) (tCons ta tNil)) σ H (.bl (truthN S)) := fun H1 e Q q =>
  h H1 e _ fun H0 v H2 e0 e2 hv => by
    obtain ⟨a, rfl, ia⟩ := InsAt.of hv
    exact ⟨a, rfl, ia, (.ref a, S), rfl, ⟨hv, hz⟩, fun H3 z H4 e3 e4 hz => ⟨truthN S, hz, q H4 ((e0.trans e2).trans (e3.trans e4))⟩⟩
theorem Good.zlen {D : Nat} {Ss : List Nat} {S : PS} (E : EnvOk D Ss) (g : Good D Ss S) : S.rests.length + S.singles.length ≤ 100000 := by
  have h1 := g.rlen E
  have h2 := g.slen E
  omega
/-! ### making a set -/
/-- Primes(e, f, g), the lists known -/
theorem ev_mkPrimes {σ : L2.St} {H : Hp} {tm tr ts : TE} {m : Nat} {r s : List Nat} (hm : Ev tm σ H (.int (m : Nat))) (h1 : EvL tr σ H (nv r)) (h2 : ∀ H1, Ex H H1 → EvL ts σ H1 (nv s)) (pre : MkPre m r s) :
    EvP (StX.tMakeR (He.ga K "Primes") (sp_primes_init K) E0 (tCons tm (tCons tr (tCons ts tNil)))) σ H (isP K (mkP m r s)) :=
  ev_mkP (PA := fun us H1 => ∃ a b, us = [.int (m : Nat), .ref a, .ref b] ∧ H1 a = some (.lst (nv r)) ∧ H1 b = some (.lst (nv s)))
    (eap_consV hm (eap_cons (el_p h1) fun H0 v H1 e0 e1 ⟨a, ev, _, ha⟩ => eap_cons (el_p (h2 H1 (e0.trans e1))) fun H2 v2 H3 e2 e3 ⟨b, ev2, _, hb⟩ => eap_nil fun H4 e4 => ⟨a, b, by rw [ev, ev2], e4 _ _ ((e2.trans e3) _ _ ha), e4 _ _ hb⟩))
    fun us H1 e1 ⟨a, b, eu, ha, hb⟩ => mk_mk ((m, r, s), a, b) eu fun H2 e2 => ⟨e2 _ _ ha, e2 _ _ hb, pre⟩
/-- the same, the second list at its place -/
theorem ev_mkPrimesA {σ : L2.St} {H : Hp} {tm tr ts : TE} {m : Nat} {r s : List Nat} {b : Addr} (hm : Ev tm σ H (.int (m : Nat))) (h1 : EvL tr σ H (nv r)) (h2 : Ev ts σ H (.ref b)) (hb : H b = some (.lst (nv s))) (pre : MkPre m r s) :
    EvP (StX.tMakeR (He.ga K "Primes") (sp_primes_init K) E0 (tCons tm (tCons tr (tCons ts tNil)))) σ H (isP K (mkP m r s)) :=
  ev_mkP (PA := fun us H1 => ∃ a, us = [.int (m : Nat), .ref a, .ref b] ∧ H1 a = some (.lst (nv r)) ∧ H1 b = some (.lst (nv s)))
    (eap_consV hm (eap_cons (el_p h1) fun H0 v H1 e0 e1 ⟨a, ev, _, ha⟩ => eap_consV (h2.mono (e0.trans e1)) (eap_nil fun H4 e4 => ⟨a, by rw [ev], e4 _ _ ha, e4 _ _ ((e0.trans e1) _ _ hb)⟩)))
    fun us H1 e1 ⟨a, eu, ha, hb⟩ => mk_mk ((m, r, s), a, b) eu fun H2 e2 => ⟨e2 _ _ ha, e2 _ _ hb, pre⟩
theorem ev_mkPrimesB {σ : L2.St} {H : Hp} {tm tr ts : TE} {m : Nat} {r s : List Nat} {a : Addr} (hm : Ev tm σ H (.int (m : Nat))) (h1 : Ev tr σ H (.ref a)) (ha : H a = some (.lst (nv r))) (h2 : EvL ts σ H (nv s)) (pre : MkPre m r s) :
    EvP (StX.tMakeR (He.ga K "Primes") (sp_primes_init K) E0 (tCons tm (tCons tr (tCons ts tNil)))) σ H (isP K (mkP m r s)) :=
  ev_mkP (PA := fun us H1 => ∃ b, us = [.int (m : Nat), .ref a, .ref b] ∧ H1 a = some (.lst (nv r)) ∧ H1 b = some (.lst (nv s)))
    (eap_consV hm (eap_consV h1 (eap_cons (el_p h2) fun H0 v H1 e0 e1 ⟨b, ev, _, hb⟩ => eap_nil fun H4 e4 => ⟨b, by rw [ev], e4 _ _ ((e0.trans e1) _ _ ha), e4 _ _ hb⟩)))
    fun us H1 e1 ⟨b, eu, ha, hb⟩ => mk_mk ((m, r, s), a, b) eu fun H2 e2 => ⟨e2 _ _ ha, e2 _ _ hb, pre⟩
def everyP : PS := mkP 1 [0] []
def noneP : PS := mkP 1 [] []
theorem el_nil {σ : L2.St} {H : Hp} : EvL (tLst tNil) σ H (nv []) := el_lst ea_nil (by simp)
abbrev N_primes_every : List Str := ["cls"]
theorem sc_primes_every : FnScope N_primes_every ["cls"] (defScope s_primes_every) := ⟨rfl, rfl, rfl, by decide +kernel, rfl, by decide +kernel, by decide +kernel⟩
def sp_primes_every (K : PySem.W.Frag) : Sp := mkSp (α := V) (fun a => [a]) (fun _ _ => True) (fun _ => isP K everyP)
theorem ok_primes_every (T : Tx K mg base) : CMe P w K mg base 7 (He.ga K "Primes") "every" (sp_primes_every K) := by
  refine cme_of T.f_primes_every T.cr_Primes T.cm_every sc_primes_every (fun _ _ _ _ _ _ us hl => match us, hl with | [_], _ => rfl) (len_sp fun _ => rfl) any_sp ?_
  rintro f cdv A outer s H vs Q E hr ⟨v, rfl, -, k⟩
  refine ⟨_, pss_one (ps_ret (pe_mk (ok_primes_init T) hr (by decide) (by rfl) (pa_cons pe_int (pa_cons (pe_lst (pa_cons pe_int pa_nil)) (pa_cons (pe_lst pa_nil) pa_nil))))), ?_⟩
  refine s_retP (ev_mkPrimes (m := 1) (r := [0]) (s := []) ev_c (el_lst (ea_cons ev_c ea_nil) (by simp)) (fun _ _ => el_nil) ?_) k
  exact ⟨by decide, by decide, by simp [Asc], by decide, fun p h => (by cases h), by decide⟩
abbrev N_primes_none : List Str := ["cls"]
theorem sc_primes_none : FnScope N_primes_none ["cls"] (defScope s_primes_none) := ⟨rfl, rfl, rfl, by decide +kernel, rfl, by decide +kernel, by decide +kernel⟩
def sp_primes_none (K : PySem.W.Frag) : Sp := mkSp (α := V) (fun a => [a]) (fun _ _ => True) (fun _ => isP K noneP)
theorem ok_primes_none (T : Tx K mg base) : CMe P w K mg base 7 (He.ga K "Primes") "none" (sp_primes_none K) := by
  refine cme_of T.f_primes_none T.cr_Primes T.cm_none sc_primes_none (fun _ _ _ _ _ _ us hl => match us, hl with | [_], _ => rfl) (len_sp fun _ => rfl) any_sp ?_
  rintro f cdv A outer s H vs Q E hr ⟨v, rfl, -, k⟩
  refine ⟨_, pss_one (ps_ret (pe_mk (ok_primes_init T) hr (by decide) (by rfl) (pa_cons pe_int (pa_cons (pe_lst pa_nil) (pa_cons (pe_lst pa_nil) pa_nil))))), ?_⟩
  refine s_retP (ev_mkPrimes (m := 1) (r := []) (s := []) ev_c el_nil (fun _ _ => el_nil) ?_) k
  exact ⟨by decide, by decide, by simp [Asc], by decide, fun p h => (by cases h), by decide⟩
/-! ### ~ -/
abbrev N_primes_invert : List Str := ["self", "rests", "singles", "p", "rest"]
theorem sc_primes_invert : FnScope N_primes_invert ["self"] (defScope s_primes_invert) := ⟨rfl, rfl, rfl, by decide +kernel, rfl, by decide +kernel, by decide +kernel⟩
def sp_primes_invert (K : PySem.W.Frag) : Sp := mkSp (α := V × PS) (fun a => [a.1]) (fun a H => okP K a.1 a.2 H ∧ ∃ D Ss, EnvOk D Ss ∧ Good D Ss a.2) (fun a => isP K (notN a.2))
theorem dec_beq (a b : Bool) : decide (V.bl a = V.bl b) = (a == b) := dec_bb a b
theorem ev_in {σ : L2.St} {H : Hp} {ti te : TE} {a : Addr} {S : PS} {q : Nat} (hi : Ev ti σ H (.int (q : Nat))) (hx : Ev te σ H (.ref a)) (hS : okP K (.ref a) S H) (m0 : 0 < S.m) (q0 : 0 < q) {neg : Bool} :
    Ev (tOp (rOwnIn (He.ga K "Primes") (sp_primes_contains K) neg) ti te) σ H (.bl (if neg then !memP q S else memP q S)) := ev_op hi hx fun H2 e2 Q qq => by
  obtain ⟨a', ea, ia⟩ := InsAt.of (hS.ex e2)
  cases ea
  exact ⟨a, rfl, ia, (.ref a, S, q), rfl, ⟨hS.ex e2, m0, q0⟩, fun H0 z H3 e0 e3 hz => ⟨memP q S, hz, qq H3 (e0.trans e3)⟩⟩
theorem filt_snoc {p : Nat → Bool} {l : List Nat} {i x : Nat} (h : l[i]? = some x) : (l.take (i + 1)).filter p = (l.take i).filter p ++ if p x then [x] else [] := by
  rw [take_snoc h, List.filter_append, List.filter_cons]
  split <;> rfl
theorem mk_not {D : Nat} {Ss : List Nat} {S : PS} (E : EnvOk D Ss) (g : Good D Ss S) : MkPre S.m (notR S) ((sortU (oddDivN S.m ++ S.singles)).filter fun p => memP p S == toldN S.m (notR S) p) ∧ (oddDivN S.m ++ S.singles).length < 64 ∧ ∀ p ∈ oddDivN S.m ++ S.singles, Prime p ∧ p ≠ 2 ∧ p ∈ Ss := by
  have hl : (oddDivN S.m ++ S.singles).length < 64 := by
    have h1 := oddDivN_len g.pos (by have := g.le E; omega)
    have h2 := g.slen E
    rw [List.length_append]
    omega
  have hp : ∀ p ∈ oddDivN S.m ++ S.singles, Prime p ∧ p ≠ 2 ∧ p ∈ Ss := fun p hp => by
    rcases List.mem_append.mp hp with h | h
    · obtain ⟨h1, h2, h3⟩ := (oddDivN_mem g.pos).mp h
      exact ⟨h1, h2, E.odd p h1 h2 (Nat.dvd_trans h3 g.dvd)⟩
    · exact g.spr p h
  refine ⟨⟨g.pos, g.le E, (unitsN_asc _).filter _, fun x hx => (List.mem_filter.mp hx).1, fun p hq => ?_, ?_⟩, hl, hp⟩
  · have := hp p (sortU_mem.mp (List.mem_filter.mp hq).1)
    exact ⟨this.1, this.2.1, E.small p this.2.2⟩
  · have h1 := List.length_filter_le (fun p => memP p S == toldN S.m (notR S) p) (sortU (oddDivN S.m ++ S.singles))
    have h2 := sortU_len (oddDivN S.m ++ S.singles)
    omega
theorem ok_primes_invert (T : Tx K mg base) : Met P w K mg base 7 (He.ga K "Primes") "__invert__" (sp_primes_invert K) := by
  refine met_of T.f_primes_invert T.c_Primes T.m_Primes_invert sc_primes_invert (fun _ _ _ _ _ _ us hl => match us, hl with | [_], _ => rfl) (len_sp fun _ => rfl) any_sp ?_
  rintro f cdv A outer s H vs Q E hr ⟨⟨v, S⟩, rfl, ⟨h, D, Ss, EO, g⟩, k⟩
  have h : okP K v S H := h
  have g : Good D Ss S := g
  have mb := g.le EO
  obtain ⟨pre, hlen, hpr⟩ := mk_not EO g
  refine ⟨_, pss_cons (ps_setLc (i := 1) (own := [("rest", 4)]) (g := gName 4) (by rfl) sc_primes_invert.nd rfl rfl (sw_true rfl rfl rfl (by decide +kernel)) (pi_list (pe_c (ok_units T) hr (by decide) (by rfl) (pa_cons (pe_fldk K rfl (pv 0) rfl) pa_nil))) (blkOk_by (own := [("rest", 4)]) (N := N_primes_invert) (sc := defScope s_primes_invert) (by decide +kernel)) (fun _ _ _ _ _ => pg_name (i := 4) sc_primes_invert.nd rfl (Or.inl rfl)) (fun _ _ _ _ _ => pts_one (pt_cmpR (op_notInCk K rfl (hu_of hr)) (pv 4) (pe_fldk K rfl (pv 0) rfl) (by rfl))) (fun _ _ _ _ _ => pv 4))
      (pss_cons (ps_set (i := 2) sc_primes_invert.nd rfl (Or.inl rfl) (pe_lst pa_nil))
      (pss_cons (ps_for PassesOwn.never rfl (pi_list (pe_callB (cr_sortedSet rfl) (by rfl) T.b_sorted (by decide +kernel) (pa_cons (pe_callTy (cr_setL rfl) (by rfl) T.b_set (by decide +kernel) (pa_cons (pe_op op_cat (pe_c (ok_odd_divisors T) hr (by decide) (by rfl) (pa_cons (pe_fldk K rfl (pv 0) rfl) pa_nil)) (pe_callTy c_list (by rfl) T.b_list (by decide +kernel) (pa_cons (pe_fldk K rfl (pv 0) rfl) pa_nil))) pa_nil)) pa_nil))) (pg_name (i := 3) sc_primes_invert.nd rfl (Or.inl rfl)) (pss_one (ps_if (pt_cmpR op_eq (pe_cmpR (op_ownIn (ok_primes_contains T) hr (by decide)) (pv 3) (pv 0) (by rfl)) (pe_c (ok_told_by T) hr (by decide) (by rfl) (pa_cons (pe_fldk K rfl (pv 0) rfl) (pa_cons (pv 1) (pa_cons (pv 3) pa_nil)))) (nomark _)) (pss_one (ps_expr (pe_bm PySem.F.plainAttrs_list PySem.F.slot_list_append PySem.F.type_list_append mt_append (pv 2) (pa_cons (pv 3) pa_nil)))) (pss_nil))))
      (pss_one (ps_ret (pe_mk (ok_primes_init T) hr (by decide) (by rfl) (pa_cons (pe_fldk K rfl (pv 0) rfl) (pa_cons (pv 1) (pa_cons (pv 2) pa_nil)))))))), ?_⟩
  refine q_asgL (i := 1) (xs := nv (notR S)) ?_ fun r H1 _ e1 hr1 => ?_
  · refine el_lcV (l := unitsN S.m) (ok := okv fun n : Nat => V.int n) (w := fun n : Nat => V.int n) (fun r => !decide (r ∈ S.rests)) (fun _ x => [some v, none, none, none, some (V.int x)]) (eis_v (ei_lp (ev_cal (ea_cons (ev_pm T (ev_var rfl) h) ea_nil) (sp_mk' S.m rfl fun _ _ => mb)))) mono_okv (by have := unitsN_len S.m; omega) ?_ (fun _ _ _ _ _ => rfl) ?_ (fun x _ _ v H1 _ _ => ev_var rfl)
    · rintro x - v H1 - rfl R hR
      exact hR H1 (Ex.refl H1)
    · intro x _ u H1 e1 _
      obtain ⟨r1, hr1, er1⟩ := ev_pr (ta := tVar 0) (σ := [some v, none, none, none, some (V.int x)]) T (ev_var rfl) (h.ex e1)
      exact et_is (et_test (ev_op (ev_var rfl) er1 (rv_notInC (IntC.tupN hr1)))) (congrArg not mem_zs)
  have h1 := h.ex e1
  refine q_asgL (i := 2) (el_lst ea_nil (by simp)) fun l H2 l0 e2 hl => ?_
  have h2 := h1.ex e2
  obtain ⟨s1, hs1, es1⟩ := ev_ps (ta := tVar 0) (σ := [some v, some (.ref r), some (.ref l), none, none]) T (ev_var rfl) h2
  refine q_forNL (xs := nv (sortU (oddDivN S.m ++ S.singles))) ?_ (fun p i σ' H' => ∃ o3, σ' = [some v, some (.ref r), some (.ref l), o3, none] ∧ Ex H1 H' ∧ H' p = some (.lst (nv (sortU (oddDivN S.m ++ S.singles)))) ∧
    l ≠ p ∧ H' l = some (.lst (nv (((sortU (oddDivN S.m ++ S.singles)).take i).filter fun p => memP p S == toldN S.m (notR S) p))))
    (fun p H3 p0 e3 hp => ⟨none, rfl, e2.trans e3, hp, (fun e => by rw [e, p0] at hl; cases hl), e3 _ _ hl⟩) (fun p i σ' H' _ ⟨_, _, _, hp, _⟩ => SqL.of hp) ?_ ?_
  · refine el_sortedS (es_set ?_ (by omega)) hlen
    have e1 : nv (oddDivN S.m ++ S.singles) = nv (oddDivN S.m) ++ nv S.singles := by simp [nv]
    rw [e1]
    refine el_cat (p_el (ev_cal (ea_cons (ev_pm T (ev_var rfl) h2) ea_nil) (sp_mk' S.m rfl fun _ _ => ⟨g.pos, by omega⟩))) (el_listT es1 (SqT.of hs1)) ?_
    rw [List.length_append] at hlen
    rw [nv_len, nv_len]
    omega
  · rintro p i x σ' H' hx ⟨o9, rfl, ex, hp, lp, hl'⟩
    obtain ⟨q, hxi, rfl⟩ := nv_at hx
    have q0 := (hpr q (sortU_mem.mp (List.mem_of_getElem? hxi))).1.pos
    have h1' := h1.ex ex
    obtain ⟨a1, rfl, ia1⟩ := InsAt.of h1'
    have ft := filt_snoc (p := fun p => memP p S == toldN S.m (notR S) p) hxi
    refine s_when (b := memP q S == toldN S.m (notR S) q) (et_is (et_test (ev_op (ev_in (neg := false) (ev_var rfl) (ev_var rfl) h1' g.pos q0) (p_ev (ev_cal (ea_cons (ev_pm T (ev_var rfl) h1') (ea_cons (ev_var rfl) (ea_cons (ev_var rfl) ea_nil))) (sp_mk' (S.m, .ref r, notR S, q) rfl fun H3 e3 => ⟨IntC.lstN ((ex.trans e3) _ _ hr1), g.pos, q0⟩))) (rv_eq rfl))) (dec_bb _ _)) (fun c H10 e10 => ?_) (fun c H10 e10 => ?_)
    · rw [c, if_pos rfl] at ft
      have hl10 := e10 _ _ hl'
      have hp10 := e10 _ _ hp
      refine s_app hl10 (ev_var rfl) (ev_var rfl) ?_ fun H11 e11 => ?_
      · have h1 := List.length_filter_le (fun p => memP p S == toldN S.m (notR S) p) ((sortU (oddDivN S.m ++ S.singles)).take i)
        have h2 := sortU_len (oddDivN S.m ++ S.singles)
        rw [List.length_take] at h1
        rw [nv_len]
        omega
      · refine ⟨_, rfl, Ex.mut (ex.trans (e10.trans e11)) l0, ?_, lp, ?_⟩
        · rw [upd_ne (Ne.symm lp)]
          exact e11 _ _ hp10
        · rw [ft]
          refine upd_same.trans ?_
          simp [nv]
    · rw [c, if_neg Bool.false_ne_true, List.append_nil] at ft
      exact ⟨_, rfl, ex.trans e10, e10 _ _ hp, lp, by rw [ft]; exact e10 _ _ hl'⟩
  rintro p σ' H11 ⟨o9, rfl, ex11, -, lp, hl11⟩
  rw [nv_len, List.take_length] at hl11
  have hr11 := ex11 _ _ hr1
  refine s_retP (P := isP K (notN S)) ?_ (k.mono (e1.trans ex11))
  refine ev_mkP (PA := fun us H1 => us = [.int (S.m : Nat), .ref r, .ref l]) (eap_consV (ev_pm T (ev_var rfl) (h1.ex ex11)) (eap_consV (ev_var rfl) (eap_consV (ev_var rfl) (eap_nil fun _ _ => rfl)))) ?_
  rintro us H12 e12 rfl
  exact mk_mk ((S.m, notR S, (sortU (oddDivN S.m ++ S.singles)).filter fun p => memP p S == toldN S.m (notR S) p), r, l) rfl fun H13 e13 => ⟨e13 _ _ (e12 _ _ hr11), e13 _ _ (e12 _ _ hl11), pre⟩
theorem ev_not' {σ : L2.St} {H : Hp} {ta : TE} {S : PS} {D : Nat} {Ss : List Nat} (h : EvP ta σ H (isP K S)) (E : EnvOk D Ss) (g : Good D Ss S) : EvP (tUn (rOwnU (He.ga K "Primes") (sp_primes_invert K)) ta) σ H (isP K (notN S)) := fun H1 e Q q =>
  h H1 e _ fun H0 v H2 e0 e2 hv => by
    obtain ⟨a, rfl, ia⟩ := InsAt.of hv
    exact ⟨a, rfl, ia, (.ref a, S), rfl, ⟨hv, D, Ss, E, g⟩, q.mono (e0.trans e2)⟩
end
end EP
end

section
set_option Elab.async false
set_option linter.all false
set_option maxRecDepth 100000
set_option maxHeartbeats 4000000
/-! D7: joint_modulus, special_primes, by_rest, core, divisors_of, by_sign, by_roots. -/
namespace EP
open PySem PySem.Spec PyProof.Rows L2 Evl
section
variable {P : Program} {w : World} {K : PySem.W.Frag} {mg : Str → Option Value} {base : Heap}
/-- a list of two sets -/
def TwoP (K : PySem.W.Frag) (H : Hp) (a : Addr) (S1 S2 : PS) : Prop := ∃ v1 v2, H a = some (.lst [v1, v2]) ∧ okP K v1 S1 H ∧ okP K v2 S2 H
theorem TwoP.ex {H H' : Hp} {a : Addr} {S1 S2 : PS} (e : Ex H H') (h : TwoP K H a S1 S2) : TwoP K H' a S1 S2 := by
  obtain ⟨v1, v2, h0, h1, h2⟩ := h
  exact ⟨v1, v2, e _ _ h0, h1.ex e, h2.ex e⟩
abbrev N_joint_modulus : List Str := ["sets", "modulus", "primes_of_one"]
theorem sc_joint_modulus : FnScope N_joint_modulus ["sets"] (defScope s_joint_modulus) := ⟨rfl, rfl, rfl, by decide +kernel, rfl, by decide +kernel, by decide +kernel⟩
def sp_joint_modulus (K : PySem.W.Frag) : Sp := mkSp (α := Addr × PS × PS) (fun a => [.ref a.1]) (fun a H => TwoP K H a.1 a.2.1 a.2.2 ∧ 0 < a.2.1.m ∧ a.2.1.m ≤ 4000 ∧ 0 < a.2.2.m ∧ a.2.2.m ≤ 4000) (fun a => isV (.int (lcmN a.2.1.m a.2.2.m : Nat)))
theorem lcm1 (a : Nat) : lcmN 1 a = a := by
  unfold lcmN
  simp
theorem ok_joint_modulus (T : Tx K mg base) : Cal P w K mg base 2 "joint_modulus" (sp_joint_modulus K) := by
  refine cal_of T.f_joint_modulus T.g_joint_modulus sc_joint_modulus (fun _ _ _ _ _ _ us hl => match us, hl with | [_], _ => rfl) (len_sp fun _ => rfl) any_sp ?_
  rintro f cdv A outer s H vs Q E hr ⟨⟨a, S1, S2⟩, rfl, ⟨⟨v1, v2, ha, h1, h2⟩, p1, l1, p2, l2⟩, k⟩
  have l1 : S1.m ≤ 4000 := l1
  have l2 : S2.m ≤ 4000 := l2
  have p1 : 0 < S1.m := p1
  have p2 : 0 < S2.m := p2
  refine ⟨_, pss_cons (ps_set (i := 1) sc_joint_modulus.nd rfl (Or.inl rfl) pe_int)
      (pss_cons (ps_for PassesOwn.never rfl (pi_list (pv 0)) (pg_name (i := 2) sc_joint_modulus.nd rfl (Or.inl rfl)) (pss_one (ps_set (i := 1) sc_joint_modulus.nd rfl (Or.inl rfl) (pe_op op_fdiv (pe_op op_mul (pv 1) (pe_fldk K rfl (pv 2) rfl)) (pe_c (ok_common T) hr (by decide) (by rfl) (pa_cons (pv 1) (pa_cons (pe_fldk K rfl (pv 2) rfl) pa_nil)))))))
      (pss_one (ps_ret (pv 1)))), ?_⟩
  refine q_asg (i := 1) ev_c fun H1 e1 => ?_
  refine q_forL (ev_var rfl) (SqL.of (e1 _ _ ha)) (fun i σ' H' => ∃ o, σ' = [some (.ref a), some (.int ((if i = 0 then 1 else if i = 1 then S1.m else lcmN S1.m S2.m : Nat) : Int)), o] ∧ Ex H H') (fun H2 e2 => ⟨_, rfl, e1.trans e2⟩) (fun i σ' H' _ ⟨_, _, e⟩ => SqL.of (e _ _ ha)) ?_ ?_
  · have step : ∀ (M : Nat) (S : PS) (v : V) (H' : Hp) (D : Ends), 0 < M → M ≤ 4000 → 0 < S.m → S.m ≤ 4000 → okP K v S H' → (∀ H2, Ex H' H2 → D.nx ([some (.ref a), some (.int (lcmN M S.m : Nat)), some v] : L2.St) H2) →
        tAsg (tOp (rI CDiv fun i j => V.int (i / j)) (tOp (rI CMul fun i j => V.int (i * j)) (tVar 1) (tFld K (tVar 2) "modulus")) (tCalR sp_common (tCons (tVar 1) (tCons (tFld K (tVar 2) "modulus") tNil)))) (gName 1) D ([some (.ref a), some (.int (M : Nat)), some v] : L2.St) H' := fun M S v H' D M0 MB S0 SB hS kk => by
      have gp : 0 < Nat.gcd M S.m := Nat.gcd_pos_of_pos_left _ M0
      have g29 : Nat.gcd M S.m < 2 ^ 29 := by
        have := Nat.gcd_le_left S.m M0
        omega
      exact s_asgI (i := 1) (ev_op (ev_op (ev_var rfl) (ev_pm T (ev_var rfl) hS) (rv_I (cm1 (by omega)))) (p_ev (ev_cal (ea2 (ev_var rfl) (ev_pm T (ev_var rfl) hS)) (sp_mk' ((M : Int), (S.m : Int)) rfl fun _ _ => trivial))) (rv_I (cdiv gp g29))) (lcmI M S.m) kk
    rintro i x σ' H' hx ⟨o, rfl, ex⟩
    match i, hx with
    | 0, hx =>
      cases hx
      exact step 1 S1 v1 H' _ (by decide) (by decide) p1 l1 (h1.ex ex) fun H2 e2 => ⟨some v1, by rw [lcm1] <;> rfl, ex.trans e2⟩
    | 1, hx =>
      cases hx
      exact step S1.m S2 v2 H' _ p1 l1 p2 l2 (h2.ex ex) fun H2 e2 => ⟨some v2, rfl, ex.trans e2⟩
    | n + 2, hx => simp at hx
  · rintro σ' H' ⟨o, rfl, ex⟩
    exact s_ret (ev_var rfl) fun H3 e3 => gives_ve k (ex.trans e3) rfl
abbrev N_special_primes : List Str := ["sets", "modulus", "found", "one"]
theorem sc_special_primes : FnScope N_special_primes ["sets", "modulus"] (defScope s_special_primes) := ⟨rfl, rfl, rfl, by decide +kernel, rfl, by decide +kernel, by decide +kernel⟩
def sp_special_primes (K : PySem.W.Frag) : Sp := mkSp (α := Addr × PS × PS × Nat) (fun a => [.ref a.1, .int (a.2.2.2 : Nat)]) (fun a H => TwoP K H a.1 a.2.1 a.2.2.1 ∧ 0 < a.2.2.2 ∧ a.2.2.2 < 2 ^ 20 ∧ a.2.1.singles.length < 20 ∧ a.2.2.1.singles.length < 20) (fun a => isL (nv (sortU (oddDivN a.2.2.2 ++ a.2.1.singles ++ a.2.2.1.singles))))
theorem ok_special_primes (T : Tx K mg base) : Cal P w K mg base 3 "special_primes" (sp_special_primes K) := by
  refine cal_of T.f_special_primes T.g_special_primes sc_special_primes (fun _ _ _ _ _ _ us hl => match us, hl with | [_, _], _ => rfl) (len_sp fun _ => rfl) any_sp ?_
  rintro f cdv A outer s H vs Q E hr ⟨⟨a, S1, S2, M⟩, rfl, ⟨⟨v1, v2, ha, h1, h2⟩, M0, MB, l1, l2⟩, k⟩
  have l1 : S1.singles.length < 20 := l1
  have l2 : S2.singles.length < 20 := l2
  have l0 := oddDivN_len M0 MB
  have l0 : (oddDivN M).length < 20 := l0
  have ha : H a = some (.lst [v1, v2]) := ha
  refine ⟨_, pss_cons (ps_set (i := 2) sc_special_primes.nd rfl (Or.inl rfl) (pe_c (ok_odd_divisors T) hr (by decide) (by rfl) (pa_cons (pv 1) pa_nil)))
      (pss_cons (ps_for PassesOwn.never rfl (pi_list (pv 0)) (pg_name (i := 3) sc_special_primes.nd rfl (Or.inl rfl)) (pss_one (ps_set (i := 2) sc_special_primes.nd rfl (Or.inl rfl) (pe_op op_cat (pv 2) (pe_callTy c_list (by rfl) T.b_list (by decide +kernel) (pa_cons (pe_fldk K rfl (pv 3) rfl) pa_nil))))))
      (pss_one (ps_ret (pe_callB (cr_sortedSet rfl) (by rfl) T.b_sorted (by decide +kernel) (pa_cons (pe_callTy (cr_setL rfl) (by rfl) T.b_set (by decide +kernel) (pa_cons (pv 2) pa_nil)) pa_nil))))), ?_⟩
  refine q_asgP (i := 2) (ev_cal (ea_cons (ev_var rfl) ea_nil) (sp_mk' M rfl fun _ _ => ⟨M0, MB⟩)) fun H0 v H1 e0 e1 ⟨b, ev, b0, hb⟩ => ?_
  subst ev
  have e01 := e0.trans e1
  refine q_forL (ev_var rfl) (SqL.of (e01 _ _ ha)) (fun i σ' H' => ∃ o c, σ' = [some (.ref a), some (.int (M : Nat)), some (.ref c), o] ∧ Ex H H' ∧ H' c = some (.lst (nv (oddDivN M ++ (if 1 ≤ i then S1.singles else []) ++ (if 2 ≤ i then S2.singles else [])))))
    (fun H2 e2 => ⟨_, b, rfl, e01.trans e2, by simpa using e2 _ _ hb⟩) (fun i σ' H' _ ⟨_, _, _, e, _⟩ => SqL.of (e _ _ ha)) ?_ ?_
  · have step : ∀ (l : List Nat) (S : PS) (v : V) (c : Addr) (H' : Hp) (D : Ends), l.length ≤ 60 → S.singles.length < 20 → okP K v S H' → H' c = some (.lst (nv l)) → (∀ d H2, Ex H' H2 → H2 d = some (.lst (nv (l ++ S.singles))) → D.nx ([some (.ref a), some (.int (M : Nat)), some (.ref d), some v] : L2.St) H2) →
        tAsg (tOp rCat (tVar 2) (tCB (rListS K) (tCons (tFld K (tVar 3) "singles") tNil))) (gName 2) D ([some (.ref a), some (.int (M : Nat)), some (.ref c), some v] : L2.St) H' := fun l S v c H' D hl hs hS hc kk => by
      obtain ⟨s1, hs1, es1⟩ := ev_ps (ta := tVar 3) (σ := [some (.ref a), some (.int (M : Nat)), some (.ref c), some v]) T (ev_var rfl) hS
      exact s_asgL (i := 2) (xs := nv l ++ nv S.singles) (el_of (ev_var rfl) hc (el_listT es1 (SqT.of hs1)) (by rw [nv_len, nv_len]; omega)) fun d H2 _ e2 hd => kk d H2 e2 (by rw [hd]; simp [nv])
    rintro i x σ' H' hx ⟨o, c, rfl, ex, hc⟩
    match i, hx with
    | 0, hx =>
      cases hx
      exact step (oddDivN M) S1 v1 c H' _ (by omega) l1 (h1.ex ex) (by simpa using hc) fun d H2 e2 hd => ⟨_, d, rfl, ex.trans e2, by simpa using hd⟩
    | 1, hx =>
      cases hx
      exact step (oddDivN M ++ S1.singles) S2 v2 c H' _ (by rw [List.length_append]; omega) l2 (h2.ex ex) (by simpa using hc) fun d H2 e2 hd => ⟨_, d, rfl, ex.trans e2, by simpa using hd⟩
    | n + 2, hx => simp at hx
  · rintro σ' H' ⟨o, c, rfl, ex, hc⟩
    have hc : H' c = some (.lst (nv (oddDivN M ++ S1.singles ++ S2.singles))) := hc
    have hz : (oddDivN M ++ S1.singles ++ S2.singles).length < 64 := by
      rw [List.length_append, List.length_append]
      omega
    exact s_retP (el_p (el_sortedS (es_setA (ev_var rfl) hc (by omega)) hz)) (k.mono ex)
/-! ### divisors_of -/
def divP (n : Int) : PS := mkP 1 [] (oddDivN n.natAbs)
theorem nat_pos {n : Int} (h : n ≠ 0) : 0 < n.natAbs := by omega
theorem mk_div {n : Int} (h : n ≠ 0) (hb : n.natAbs < 2 ^ 20) : MkPre 1 [] (oddDivN n.natAbs) := ⟨by decide, by decide, by simp [Asc], fun p h => (by cases h), fun p hp => by
  obtain ⟨h1, h2, h3⟩ := (oddDivN_mem (nat_pos h)).mp hp
  have := Nat.le_of_dvd (nat_pos h) h3
  exact ⟨h1, h2, by omega⟩, by have := oddDivN_len (nat_pos h) hb; omega⟩
abbrev N_divisors_of : List Str := ["n"]
theorem sc_divisors_of : FnScope N_divisors_of ["n"] (defScope s_divisors_of) := ⟨rfl, rfl, rfl, by decide +kernel, rfl, by decide +kernel, by decide +kernel⟩
def sp_divisors_of (K : PySem.W.Frag) : Sp := mkSp (α := Int) (fun n => [.int n]) (fun n _ => n ≠ 0 ∧ n.natAbs < 2 ^ 20) (fun n => isP K (divP n))
theorem ok_divisors_of (T : Tx K mg base) : Cal P w K mg base 7 "divisors_of" (sp_divisors_of K) := by
  refine cal_of T.f_divisors_of T.g_divisors_of sc_divisors_of (fun _ _ _ _ _ _ us hl => match us, hl with | [_], _ => rfl) (len_sp fun _ => rfl) any_sp ?_
  rintro f cdv A outer s H vs Q E hr ⟨n, rfl, ⟨n0, nb⟩, k⟩
  refine ⟨_, pss_one (ps_ret (pe_mk (ok_primes_init T) hr (by decide) (by rfl) (pa_cons pe_int (pa_cons (pe_lst pa_nil) (pa_cons (pe_c (ok_odd_divisors T) hr (by decide) (by rfl) (pa_cons (pe_callB c_abs (by rfl) T.b_abs (by decide +kernel) (pa_cons (pv 0) pa_nil)) pa_nil)) pa_nil))))), ?_⟩
  exact s_retP (ev_mkPrimes (m := 1) (r := []) ev_c el_nil (fun H1 e1 => p_el (ev_cal (ea_cons (ev_cb (ea_cons (ev_var rfl) ea_nil) rc_abs) ea_nil) (sp_mk' n.natAbs rfl fun _ _ => ⟨nat_pos n0, nb⟩))) (mk_div n0 nb)) k
/-! ### core -/
def coreStep (s : Int × Int) (p : Nat × Nat) : Int × Int := (if p.2 % 2 = 1 then s.1 * (p.1 : Int) else s.1, s.2 * (p.1 : Int) ^ (p.2 / 2))
theorem pow_dvd_prodN {r : Nat × Nat} : ∀ {l : List (Nat × Nat)}, r ∈ l → r.1 ^ r.2 ∣ prodN l
  | p :: t, h => by
    rw [prodN_cons]
    rcases List.mem_cons.mp h with h | h
    · subst h; exact Nat.dvd_mul_right _ _
    · exact Nat.dvd_trans (pow_dvd_prodN h) (Nat.dvd_mul_left _ _)
def coreI (n : Int) : Int × Int := (factorsN n.natAbs).foldl coreStep (if n < 0 then -1 else 1, 1)
abbrev N_core : List Str := ["n", "squarefree", "side", "prime", "exponent", "count"]
theorem sc_core : FnScope N_core ["n"] (defScope s_core) := ⟨rfl, rfl, rfl, by decide +kernel, rfl, by decide +kernel, by decide +kernel⟩
def sp_core : Sp := mkSp (α := Int) (fun n => [.int n]) (fun n _ => n ≠ 0 ∧ n.natAbs < 2 ^ 20) (fun n => isT [.int (coreI n).1, .int (coreI n).2])
theorem ok_core (T : Tx K mg base) : Cal P w K mg base 2 "core" sp_core := by
  refine cal_of T.f_core T.g_core sc_core (fun _ _ _ _ _ _ us hl => match us, hl with | [_], _ => rfl) (len_sp fun _ => rfl) any_sp ?_
  rintro f cdv A outer s H vs Q E hr ⟨n, rfl, ⟨n0, nb⟩, k⟩
  have N0 := nat_pos n0
  have FF := factorsN_ok N0
  refine ⟨_, pss_cons (ps_set (i := 1) sc_core.nd rfl (Or.inl rfl) pe_int)
      (pss_cons (ps_if (pt_cmpR op_lt (pv 0) pe_int (nomark _)) (pss_one (ps_set (i := 1) sc_core.nd rfl (Or.inl rfl) (pe_un un_neg pe_int))) (pss_nil))
      (pss_cons (ps_set (i := 2) sc_core.nd rfl (Or.inl rfl) pe_int)
      (pss_cons (ps_for PassesOwn.never rfl (pi_list (pe_c (ok_factors T) hr (by decide) (by rfl) (pa_cons (pe_callB c_abs (by rfl) T.b_abs (by decide +kernel) (pa_cons (pv 0) pa_nil)) pa_nil))) (pg_tup (by rfl) (pgs_cons (pg_name (i := 3) sc_core.nd rfl (Or.inl rfl)) (pgs_cons (pg_name (i := 4) sc_core.nd rfl (Or.inl rfl)) pgs_nil))) (pss_cons (ps_if (pt_cmpR op_eq (pe_op op_mod (pv 4) pe_int) pe_int (nomark _)) (pss_one (ps_set (i := 1) sc_core.nd rfl (Or.inl rfl) (pe_op op_mul (pv 1) (pv 3)))) (pss_nil))
        (pss_one (ps_for PassesOwn.never rfl (pi_range1 (by rfl) T.b_range (pa_cons (pe_op op_fdiv (pv 4) pe_int) pa_nil)) (pg_name (i := 5) sc_core.nd rfl (Or.inl rfl)) (pss_one (ps_set (i := 2) sc_core.nd rfl (Or.inl rfl) (pe_op op_mul (pv 2) (pv 3))))))))
      (pss_one (ps_ret (pe_tup (pa_cons (pv 1) (pa_cons (pv 2) pa_nil)))))))), ?_⟩
  refine q_asg (i := 1) (ev_c) fun H1 e1 => ?_
  have main : ∀ (sf : Int) (H2 : Hp), Ex H H2 → sf = (if n < 0 then -1 else 1) → tSeq (tAsg (tC (V.int 1)) (gName 2)) (tSeq (tFor (iList K (tCalR sp_factors (tCons (tCB rAbs (tCons (tVar 0) tNil)) tNil))) (gTup K 2 (gCons (gName 3) (gCons (gName 4) gNil)))
      (tSeq (tIfS (tTest (tOp rEq (tOp (rI (fun _ j => 0 < j) fun i j => V.int (i % j)) (tVar 4) (tC (V.int 2))) (tC (V.int 1)))) (tAsg (tOp (rI CMul fun i j => V.int (i * j)) (tVar 1) (tVar 3)) (gName 1)) tNext)
        (tFor (iRng1 (tCons (tOp (rI CDiv fun i j => V.int (i / j)) (tVar 4) (tC (V.int 2))) tNil)) (gName 5) (tAsg (tOp (rI CMul fun i j => V.int (i * j)) (tVar 2) (tVar 3)) (gName 2)))))
      (tRet (tTup (tCons (tVar 1) (tCons (tVar 2) tNil))))) { nx := fun x H' => Q V.non H', rt := Q } ([some (.int n), some (.int sf), none, none, none, none] : L2.St) H2 := fun sf H2 ex2 hsf => by
    refine q_asg (i := 2) ev_c fun H3 e3 => ?_
    refine q_forN (ev_cal (ea_cons (ev_cb (ea_cons (ev_var rfl) ea_nil) rc_abs) ea_nil) (sp_mk' n.natAbs rfl fun _ _ => ⟨N0, nb⟩)) fun H0 v H4 e0 e4 ⟨a, xs, ev, a0, hxs, hp⟩ => ⟨a, xs, ev, hxs, ?_⟩
    have ex4 : Ex H H4 := ex2.trans (e3.trans (e0.trans e4))
    refine ⟨fun i σ' H' => ∃ (st : Int × Int) (o3 o4 o5 : Option V), σ' = [some (V.int n), some (V.int st.1), some (V.int st.2), o3, o4, o5] ∧ Ex H4 H' ∧ ((factorsN n.natAbs).drop i).foldl coreStep st = coreI n, ⟨(sf, 1), none, none, none, rfl, Ex.refl _, by rw [List.drop_zero, hsf]; rfl⟩, fun i σ' H' _ ⟨_, _, _, _, _, e, _⟩ => e _ _ hxs, ?_, ?_⟩
    · rintro i x σ' H' hx ⟨⟨s1, s2⟩, o3, o4, o5, rfl, ex, hf⟩
      have hi : i < (factorsN n.natAbs).length := by
        rw [← hp.1]
        exact (List.getElem?_eq_some_iff.mp hx).1
      have hfi : (factorsN n.natAbs)[i]? = some (factorsN n.natAbs)[i] := List.getElem?_eq_getElem hi
      have hdrop : (factorsN n.natAbs).drop i = (factorsN n.natAbs)[i] :: (factorsN n.natAbs).drop (i + 1) := List.drop_eq_getElem_cons hi
      generalize (factorsN n.natAbs)[i] = p at hfi hdrop
      obtain ⟨q, e⟩ := p
      obtain ⟨v, hv, b, rfl, hb⟩ := hp.2 i (q, e) hfi
      rw [hx] at hv
      cases hv
      obtain ⟨hq, he0, -⟩ := FF.pr (q, e) (List.mem_of_getElem? hfi)
      have hqd := dvd_prodN (List.mem_of_getElem? hfi) he0
      rw [FF.prod] at hqd
      have hql : q ≤ n.natAbs := Nat.le_of_dvd N0 hqd
      have q64 : -(2 ^ 64) < ((q : Nat) : Int) ∧ ((q : Nat) : Int) < 2 ^ 64 := by omega
      rw [hdrop, List.foldl_cons] at hf
      generalize hre : (factorsN n.natAbs).drop (i + 1) = rest at hf
      refine ⟨b, _, rfl, SqT.of (ex _ _ hb), rfl, _, _, rfl, _, _, rfl, rfl, ?_⟩
      have inner : ∀ (t1 : Int) (H5 : Hp), Ex H4 H5 → t1 = (coreStep (s1, s2) (q, e)).1 → tFor (iRng1 (tCons (tOp (rI CDiv fun i j => V.int (i / j)) (tVar 4) (tC (V.int 2))) tNil)) (gName 5) (tAsg (tOp (rI CMul fun i j => V.int (i * j)) (tVar 2) (tVar 3)) (gName 2))
          { nx := fun σ' H' => ∃ (st : Int × Int) (o3 o4 o5 : Option V), σ' = [some (V.int n), some (V.int st.1), some (V.int st.2), o3, o4, o5] ∧ Ex H4 H' ∧ ((factorsN n.natAbs).drop (i + 1)).foldl coreStep st = coreI n, rt := Q, ct := fun σ' H' => ∃ (st : Int × Int) (o3 o4 o5 : Option V), σ' = [some (V.int n), some (V.int st.1), some (V.int st.2), o3, o4, o5] ∧ Ex H4 H' ∧ ((factorsN n.natAbs).drop (i + 1)).foldl coreStep st = coreI n, bk := tRet (tTup (tCons (tVar 1) (tCons (tVar 2) tNil))) { nx := fun x H' => Q V.non H', rt := Q } }
          ([some (.int n), some (.int t1), some (.int s2), some (.int (q : Nat)), some (.int (e : Nat)), o5] : L2.St) H5 := fun t1 H5 ex5 ht => by
        refine s_forR1 (n := ((e / 2 : Nat) : Int)) (ea_cons (ev_eqI (ev_op (ev_var rfl) ev_c (rv_I ⟨by decide, by decide⟩)) (ediv_nat e 2)) ea_nil) ?_ (fun j σ' H' => ∃ o5, σ' = [some (.int n), some (.int t1), some (.int (s2 * (q : Int) ^ j)), some (.int (q : Nat)), some (.int (e : Nat)), o5] ∧ Ex H4 H') (fun H6 e6 => ⟨o5, by simp, ex5.trans e6⟩) ?_ ?_
        · have : e < 100000 := by
            have h3 : e < 2 ^ e := Nat.lt_pow_self (by decide)
            have h4 : 2 ^ e ≤ q ^ e := Nat.pow_le_pow_left hq.1 e
            have h1 := pow_dvd_prodN (List.mem_of_getElem? hfi)
            rw [FF.prod] at h1
            have h1 : q ^ e ∣ n.natAbs := h1
            have h2 := Nat.le_of_dvd N0 h1
            have h5 : 2 ^ e < 2 ^ 20 := by omega
            have := (Nat.pow_lt_pow_iff_right (by decide : 1 < 2)).mp h5
            omega
          omega
        · rintro j σ' H' hj ⟨o, rfl, ex'⟩
          refine s_asgI (i := 2) (ev_op (ev_var rfl) (ev_var rfl) (rv_I (cm2 q64))) (m := s2 * (q : Int) ^ (j + 1)) (by rw [Int.pow_succ, Int.mul_assoc]) fun H7 e7 => ⟨_, rfl, ex'.trans e7⟩
        · rintro σ' H' ⟨o, rfl, ex'⟩
          exact ⟨(t1, s2 * (q : Int) ^ (e / 2)), some (.int (q : Nat)), some (.int (e : Nat)), o, by rw [Int.toNat_natCast], ex', by
            rw [hre, ht]
            exact hf⟩
      refine q_if (et_is (et_test (ev_op (ev_op (ev_var rfl) ev_c (rv_I (show (0:Int) < 2 by decide))) ev_c (rv_eq rfl))) (dec_mod e 2 1)) (fun c H6 e6 => ?_) (fun c H6 e6 => ?_)
      · refine s_asg (i := 1) (ev_op (ev_var rfl) (ev_var rfl) (rv_I (cm2 q64))) fun H7 e7 => ?_
        exact inner _ H7 (ex.trans (e6.trans e7)) (by unfold coreStep; rw [if_pos (of_decide_eq_true c)])
      · exact inner _ H6 (ex.trans e6) (by unfold coreStep; rw [if_neg (of_decide_eq_false c)])
    · rintro σ' H' ⟨st, o3, o4, o5, rfl, ex, hf⟩
      rw [hp.1, List.drop_length] at hf
      have hf : st = coreI n := hf
      refine s_retP (P := isT [.int (coreI n).1, .int (coreI n).2]) (eu_p ?_) (k.mono (ex4.trans ex))
      rw [← hf]
      exact eu2 (ev_var rfl) (ev_var rfl)
  refine q_if (et_test (ev_op (ev_var rfl) ev_c rv_I0)) (fun c H2 e2 => ?_) (fun c H2 e2 => ?_)
  · refine s_asg (i := 1) (ev_un ev_c ru_neg) fun H3 e3 => ?_
    exact main _ H3 (e1.trans (e2.trans e3)) (by rw [if_pos (of_decide_eq_true c)])
  · exact main _ H2 (e1.trans e2) (by rw [if_neg (of_decide_eq_false c)])

/-! ### by_sign -/
def sgnM (n : Int) : Nat := if (coreI n).1 % 4 = 1 then (coreI n).1.natAbs else 4 * (coreI n).1.natAbs
def oddN (m r : Nat) : Nat := if r % 2 = 0 then r + m else r
def sgnR (n wanted : Int) : List Nat := (unitsN (sgnM n)).filter fun r => decide (signI (coreI n).1 (oddN (sgnM n) r) = wanted)
def signP (n wanted : Int) : PS := combN fMinus (mkP (sgnM n) (sgnR n wanted) []) (divP n)
/-- a number whose signs one may ask for, within D and Ss -/
structure NumOk (D : Nat) (Ss : List Nat) (n : Int) : Prop where
  ne : n ≠ 0
  lt : n.natAbs < 2 ^ 20
  sf : 0 < (coreI n).1.natAbs
  dvd : sgnM n ∣ D
  pr : ∀ p ∈ oddDivN n.natAbs, p ∈ Ss
theorem sgnM_pos {n : Int} (h : 0 < (coreI n).1.natAbs) : 0 < sgnM n := by
  unfold sgnM
  split <;> omega
theorem mk_sgn {D : Nat} {Ss : List Nat} {n wanted : Int} (E : EnvOk D Ss) (h : NumOk D Ss n) : MkPre (sgnM n) (sgnR n wanted) [] :=
  ⟨sgnM_pos h.sf, Nat.le_trans (Nat.le_of_dvd E.pos h.dvd) E.le, (unitsN_asc _).filter _, fun x hx => (List.mem_filter.mp hx).1, fun p h => (by cases h), by decide⟩
theorem good_sgn {D : Nat} {Ss : List Nat} {n wanted : Int} (E : EnvOk D Ss) (h : NumOk D Ss n) : Good D Ss (mkP (sgnM n) (sgnR n wanted) []) :=
  mkP_good (sgnM_pos h.sf) h.dvd ((unitsN_asc _).filter _) (fun x hx => (List.mem_filter.mp hx).1) (fun p h => (by cases h)) fun p h1 h2 h3 => E.odd p h1 h2 (Nat.dvd_trans h3 h.dvd)
theorem good_div {D : Nat} {Ss : List Nat} {n : Int} (E : EnvOk D Ss) (h : n ≠ 0) (hp : ∀ p ∈ oddDivN n.natAbs, p ∈ Ss) : Good D Ss (divP n) :=
  mkP_good (by decide) (Nat.one_dvd D) (by simp [Asc]) (fun x hx => (by cases hx)) (fun p h' => by
    obtain ⟨h1, h2, _⟩ := (oddDivN_mem (nat_pos h)).mp h'
    exact ⟨h1, h2, hp p h'⟩) fun p h1 h2 h3 => by
    have := Nat.le_of_dvd (by decide) h3
    have := h1.1
    omega
theorem good_sign {D : Nat} {Ss : List Nat} {n wanted : Int} (E : EnvOk D Ss) (h : NumOk D Ss n) : Good D Ss (signP n wanted) := combN_good (good_sgn E h) (good_div E h.ne h.pr) E.odd
theorem unit_odd {m r : Nat} (h : Nat.gcd r m = 1) (m0 : 0 < m) : 0 < oddN m r ∧ oddN m r % 2 = 1 := by
  unfold oddN
  by_cases e : r % 2 = 0
  · rw [if_pos e]
    have : m % 2 = 1 := by
      rcases Nat.mod_two_eq_zero_or_one m with q | q
      · have h2 := Nat.dvd_gcd (Nat.dvd_of_mod_eq_zero e) (Nat.dvd_of_mod_eq_zero q)
        rw [h] at h2
        have := Nat.le_of_dvd (by decide) h2
        omega
      · exact q
    omega
  · rw [if_neg e]
    omega
abbrev N_by_sign : List Str := ["n", "wanted", "modulus", "rests", "rest", "squarefree", "side", "odd"]
theorem sc_by_sign : FnScope N_by_sign ["n", "wanted"] (defScope s_by_sign) := ⟨rfl, rfl, rfl, by decide +kernel, rfl, by decide +kernel, by decide +kernel⟩
def sp_by_sign (K : PySem.W.Frag) : Sp := mkSp (α := Int × Int) (fun a => [.int a.1, .int a.2]) (fun a _ => ∃ D Ss, EnvOk D Ss ∧ NumOk D Ss a.1) (fun a => isP K (signP a.1 a.2))
theorem ok_by_sign (T : Tx K mg base) : Cal P w K mg base 9 "by_sign" (sp_by_sign K) := by
  refine cal_of T.f_by_sign T.g_by_sign sc_by_sign (fun _ _ _ _ _ _ us hl => match us, hl with | [_, _], _ => rfl) (len_sp fun _ => rfl) any_sp ?_
  rintro f cdv A outer s H vs Q E hr ⟨⟨n, wanted⟩, rfl, ⟨D, Ss, EO, hn⟩, k⟩
  have hn : NumOk D Ss n := hn
  have pre := mk_sgn (wanted := wanted) EO hn
  have M0 := pre.pos
  have MB := pre.le
  refine ⟨_, pss_cons (ps_asg (pe_c (ok_core T) hr (by decide) (by rfl) (pa_cons (pv 0) pa_nil)) (pg_tup (by rfl) (pgs_cons (pg_name (i := 5) sc_by_sign.nd rfl (Or.inl rfl)) (pgs_cons (pg_name (i := 6) sc_by_sign.nd rfl (Or.inl rfl)) pgs_nil))))
      (pss_cons (ps_set (i := 2) sc_by_sign.nd rfl (Or.inl rfl) (pe_callB c_abs (by rfl) T.b_abs (by decide +kernel) (pa_cons (pv 5) pa_nil)))
      (pss_cut (ps_if (pt_cmpR op_ne (pe_op op_mod (pv 5) pe_int) pe_int (nomark _)) (pss_one (ps_set (i := 2) sc_by_sign.nd rfl (Or.inl rfl) (pe_op op_mul pe_int (pv 2)))) (pss_nil))
      (pss_cons (ps_set (i := 3) sc_by_sign.nd rfl (Or.inl rfl) (pe_lst pa_nil))
      (pss_cons (ps_for PassesOwn.never rfl (pi_list (pe_c (ok_units T) hr (by decide) (by rfl) (pa_cons (pv 2) pa_nil))) (pg_name (i := 4) sc_by_sign.nd rfl (Or.inl rfl)) (pss_cons (ps_set (i := 7) sc_by_sign.nd rfl (Or.inl rfl) (pv 4))
        (pss_cut (ps_if (pt_cmpR op_eq (pe_op op_mod (pv 4) pe_int) pe_int (nomark _)) (pss_one (ps_set (i := 7) sc_by_sign.nd rfl (Or.inl rfl) (pe_op op_add (pv 4) (pv 2)))) (pss_nil))
        (pss_one (ps_if (pt_cmpR op_eq (pe_c (ok_sign T) hr (by decide) (by rfl) (pa_cons (pv 5) (pa_cons (pv 7) pa_nil))) (pv 1) (nomark _)) (pss_one (ps_expr (pe_bm PySem.F.plainAttrs_list PySem.F.slot_list_append PySem.F.type_list_append mt_append (pv 3) (pa_cons (pv 4) pa_nil)))) (pss_nil))))))
      (pss_one (ps_ret (pe_op (op_own (op := .Sub) (ok_primes_sub T) hr (by decide) T.first_Primes) (pe_mk (ok_primes_init T) hr (by decide) (by rfl) (pa_cons (pv 2) (pa_cons (pv 3) (pa_cons (pe_lst pa_nil) pa_nil)))) (pe_c (ok_divisors_of T) hr (by decide) (by rfl) (pa_cons (pv 0) pa_nil))))))))), ?_⟩
  refine ev_cal (P := isT [.int (coreI n).1, .int (coreI n).2]) (ea_cons (ev_var rfl) ea_nil) (sp_mk' n rfl fun _ _ => ⟨hn.ne, hn.lt⟩) H (Ex.refl H) _ fun H0 v H1 e0 e1 ⟨a, ev, _, ha⟩ => ?_
  subst ev
  refine ⟨a, _, rfl, SqT.of ha, rfl, _, _, rfl, _, _, rfl, rfl, ?_⟩
  have ex1 := e0.trans e1
  refine q_asg (i := 2) (ev_cb (ea_cons (ev_var rfl) ea_nil) rc_abs) fun H2 e2 => ?_
  have ex2 := ex1.trans e2
  refine q_cut (M := fun σ' H' => σ' = [some (.int n), some (.int wanted), some (.int (sgnM n : Nat)), none, none, some (.int (coreI n).1), some (.int (coreI n).2), none] ∧ Ex H H') ?_ ?_
  · refine s_when (b := !decide ((coreI n).1 % 4 = 1)) (et_is (et_test (ev_op (ev_op (ev_var rfl) ev_c (rv_I (show (0:Int) < 4 by decide))) ev_c (rv_ne rfl))) (congrArg not (decide_eq_decide.mpr ⟨fun h => V.int.inj h, fun h => by rw [h]⟩))) (fun c H3 e3 => ?_) (fun c H3 e3 => ?_)
    · have c : ¬ (coreI n).1 % 4 = 1 := by simpa using c
      refine s_asgI (i := 2) (ev_op ev_c (ev_var rfl) (rv_I (cm1 (by decide)))) (m := ((sgnM n : Nat) : Int)) ?_ fun H4 e4 => ⟨rfl, ex2.trans (e3.trans e4)⟩
      unfold sgnM
      rw [if_neg c]
      exact mul_nat 4 (coreI n).1.natAbs
    · have c : (coreI n).1 % 4 = 1 := by simpa using c
      have : sgnM n = (coreI n).1.natAbs := by
        unfold sgnM
        rw [if_pos c]
      exact ⟨by rw [this]; rfl, ex2.trans e3⟩
  rintro σ' H3 ⟨rfl, ex3⟩
  refine q_asgL (i := 3) (el_lst ea_nil (by simp)) fun l H4 l0 e4 hl => ?_
  refine q_forNL (p_el (ev_cal (ea_cons (ev_var rfl) ea_nil) (sp_mk' (sgnM n) rfl fun _ _ => MB))) (fun p i σ' H' => ∃ o4 o7, σ' = [some (.int n), some (.int wanted), some (.int (sgnM n : Nat)), some (.ref l), o4, some (.int (coreI n).1), some (.int (coreI n).2), o7] ∧ Ex H3 H' ∧ H' p = some (.lst (nv (unitsN (sgnM n)))) ∧ l ≠ p ∧
    H' l = some (.lst (nv (((unitsN (sgnM n)).take i).filter fun r => decide (signI (coreI n).1 (oddN (sgnM n) r) = wanted)))))
    (fun p H5 p0 e5 hp => ⟨none, none, rfl, e4.trans e5, hp, (fun e => by rw [e, p0] at hl; cases hl), e5 _ _ hl⟩) (fun p i σ' H' _ ⟨_, _, _, _, hp, _⟩ => SqL.of hp) ?_ ?_
  · rintro p i x σ' H' hx ⟨o4, o7, rfl, ex, hp, lp, hl'⟩
    obtain ⟨r, hxi, rfl⟩ := nv_at hx
    obtain ⟨rl, rg⟩ := unitsN_mem.mp (List.mem_of_getElem? hxi)
    obtain ⟨d0, d1⟩ := unit_odd rg M0
    have ft := filt_snoc (p := fun r => decide (signI (coreI n).1 (oddN (sgnM n) r) = wanted)) hxi
    refine q_asg (i := 7) (ev_var rfl) fun H5 e5 => ?_
    refine q_cut (M := fun σ' H6 => σ' = [some (.int n), some (.int wanted), some (.int (sgnM n : Nat)), some (.ref l), some (.int (r : Nat)), some (.int (coreI n).1), some (.int (coreI n).2), some (.int (oddN (sgnM n) r : Nat))] ∧ Ex H5 H6) ?_ ?_
    · refine s_when (et_is (et_test (ev_op (ev_op (ev_var rfl) ev_c (rv_I (show (0:Int) < 2 by decide))) ev_c (rv_eq rfl))) (dec_mod0 r 2)) (fun c H6 e6 => ?_) (fun c H6 e6 => ?_)
      · refine s_asgI (i := 7) (ev_op (ev_var rfl) (ev_var rfl) rv_I0) (m := ((oddN (sgnM n) r : Nat) : Int)) ?_ fun H7 e7 => ⟨rfl, e6.trans e7⟩
        unfold oddN
        rw [if_pos (of_decide_eq_true c)]
        exact add_nat r (sgnM n)
      · have : oddN (sgnM n) r = r := by
          unfold oddN
          rw [if_neg (of_decide_eq_false c)]
        exact ⟨by rw [this]; rfl, e6⟩
    rintro σ' H6 ⟨rfl, e6⟩
    have hl6 := e6 _ _ (e5 _ _ hl')
    have hp6 := e6 _ _ (e5 _ _ hp)
    have ex6 := ex.trans (e5.trans e6)
    refine s_when (b := decide (signI (coreI n).1 (oddN (sgnM n) r) = wanted)) (et_is (et_test (ev_op (p_ev (ev_cal (ea2 (ev_var rfl) (ev_var rfl)) (sp_mk' ((coreI n).1, oddN (sgnM n) r) rfl fun _ _ => ⟨d0, d1⟩))) (ev_var rfl) (rv_eq rfl))) ?_) (fun c H7 e7 => ?_) (fun c H7 e7 => ?_)
    · exact decide_eq_decide.mpr ⟨fun h => V.int.inj h, fun h => by rw [h]⟩
    · rw [c, if_pos rfl] at ft
      refine s_app (e7 _ _ hl6) (ev_var rfl) (ev_var rfl) ?_ fun H8 e8 => ?_
      · have h1 := List.length_filter_le (fun r => decide (signI (coreI n).1 (oddN (sgnM n) r) = wanted)) ((unitsN (sgnM n)).take i)
        have h2 := unitsN_len (sgnM n)
        rw [List.length_take] at h1
        rw [nv_len]
        omega
      · refine ⟨_, _, rfl, Ex.mut (ex6.trans (e7.trans e8)) l0, ?_, lp, ?_⟩
        · rw [upd_ne (Ne.symm lp)]
          exact e8 _ _ (e7 _ _ hp6)
        · rw [ft]
          refine upd_same.trans ?_
          simp [nv]
    · rw [c, if_neg Bool.false_ne_true, List.append_nil] at ft
      exact ⟨_, _, rfl, ex6.trans e7, e7 _ _ hp6, lp, by rw [ft]; exact e7 _ _ hl6⟩
  · rintro p σ' H' ⟨o4, o7, rfl, ex, hp, lp, hl'⟩
    rw [nv_len, List.take_length] at hl'
    refine s_retP (P := isP K (signP n wanted)) ?_ (k.mono (ex3.trans ex))
    refine ev_join (r := .dif) ?_ (fun H5 e5 => ev_cal (ea_cons (ev_var rfl) ea_nil) (sp_mk' n rfl fun _ _ => ⟨hn.ne, hn.lt⟩)) EO (good_sgn EO hn) (good_div EO hn.ne hn.pr)
    exact ev_mkPrimesB (ev_var rfl) (ev_var rfl) hl' el_nil pre
/-! ### by_roots, at a = 1 -/
def rootsP (b c many : Int) : PS := combN fOr (combN fMinus (if many = 1 then divP (b * b - 4 * 1 * c) else signP (b * b - 4 * 1 * c) (many - 1)) (divP 1)) (mkP 1 [] [])
theorem good_one {D : Nat} {Ss : List Nat} (E : EnvOk D Ss) : Good D Ss (mkP 1 [] []) := mkP_good (by decide) (Nat.one_dvd D) (by simp [Asc]) (fun x hx => (by cases hx)) (fun p h => (by cases h)) fun p h1 h2 h3 => by
  have := Nat.le_of_dvd (by decide) h3
  have := h1.1
  omega
theorem odd1 : oddDivN 1 = [] := by decide
theorem good_div1 {D : Nat} {Ss : List Nat} (E : EnvOk D Ss) : Good D Ss (divP 1) := good_div E (by decide) fun p h => (by rw [show Int.natAbs 1 = 1 from rfl, odd1] at h; cases h)
theorem good_found {D : Nat} {Ss : List Nat} {b c many : Int} (E : EnvOk D Ss) (h : NumOk D Ss (b * b - 4 * 1 * c)) : Good D Ss (if many = 1 then divP (b * b - 4 * 1 * c) else signP (b * b - 4 * 1 * c) (many - 1)) := by
  split
  · exact good_div E h.ne h.pr
  · exact good_sign E h
theorem good_roots {D : Nat} {Ss : List Nat} {b c many : Int} (E : EnvOk D Ss) (h : NumOk D Ss (b * b - 4 * 1 * c)) : Good D Ss (rootsP b c many) := combN_good (combN_good (good_found E h) (good_div1 E) E.odd) (good_one E) E.odd
abbrev N_by_roots : List Str := ["a", "b", "c", "many", "discriminant", "singles", "found", "p"]
theorem sc_by_roots : FnScope N_by_roots ["a", "b", "c", "many"] (defScope s_by_roots) := ⟨rfl, rfl, rfl, by decide +kernel, rfl, by decide +kernel, by decide +kernel⟩
def sp_by_roots (K : PySem.W.Frag) : Sp := mkSp (α := Int × Int × Int) (fun a => [.int 1, .int a.1, .int a.2.1, .int a.2.2]) (fun a _ => a.1.natAbs < 2 ^ 20 ∧ ∃ D Ss, EnvOk D Ss ∧ NumOk D Ss (a.1 * a.1 - 4 * 1 * a.2.1)) (fun a => isP K (rootsP a.1 a.2.1 a.2.2))
theorem ok_by_roots (T : Tx K mg base) : Cal P w K mg base 10 "by_roots" (sp_by_roots K) := by
  refine cal_of T.f_by_roots T.g_by_roots sc_by_roots (fun _ _ _ _ _ _ us hl => match us, hl with | [_, _, _, _], _ => rfl) (len_sp fun _ => rfl) any_sp ?_
  rintro f cdv A outer s H vs Q E hr ⟨⟨b, c, many⟩, rfl, ⟨bb, D, Ss, EO, hn⟩, k⟩
  have bb : b.natAbs < 2 ^ 20 := bb
  have hn : NumOk D Ss (b * b - 4 * 1 * c) := hn
  refine ⟨_, pss_cons (ps_set (i := 4) sc_by_roots.nd rfl (Or.inl rfl) (pe_op op_sub (pe_op op_mul (pv 1) (pv 1)) (pe_op op_mul (pe_op op_mul pe_int (pv 0)) (pv 2))))
      (pss_cut (ps_if (pt_cmpR op_eq (pv 4) pe_int (nomark _)) (pss_never) (pss_one (ps_if (pt_cmpR op_eq (pv 3) pe_int (nomark _)) (pss_one (ps_set (i := 6) sc_by_roots.nd rfl (Or.inl rfl) (pe_c (ok_divisors_of T) hr (by decide) (by rfl) (pa_cons (pv 4) pa_nil)))) (pss_one (ps_set (i := 6) sc_by_roots.nd rfl (Or.inl rfl) (pe_c (ok_by_sign T) hr (by decide) (by rfl) (pa_cons (pv 4) (pa_cons (pe_op op_sub (pv 3) pe_int) pa_nil))))))))
      (pss_cons (ps_setLc (i := 5) (own := [("p", 7)]) (g := gName 7) (by rfl) sc_by_roots.nd rfl rfl (sw_true rfl rfl rfl (by decide +kernel)) (pi_list (pe_c (ok_odd_divisors T) hr (by decide) (by rfl) (pa_cons (pe_callB c_abs (by rfl) T.b_abs (by decide +kernel) (pa_cons (pv 0) pa_nil)) pa_nil))) (blkOk_by (own := [("p", 7)]) (N := N_by_roots) (sc := defScope s_by_roots) (by decide +kernel)) (fun _ _ _ _ _ => pg_name (i := 7) sc_by_roots.nd rfl (Or.inl rfl)) (fun _ _ _ _ _ => pts_one pt_no) (fun _ _ _ _ _ => pv 7))
      (pss_one (ps_ret (pe_op (op_own (op := .BitOr) (ok_primes_or T) hr (by decide) T.first_Primes) (pe_op (op_own (op := .Sub) (ok_primes_sub T) hr (by decide) T.first_Primes) (pv 6) (pe_c (ok_divisors_of T) hr (by decide) (by rfl) (pa_cons (pv 0) pa_nil))) (pe_mk (ok_primes_init T) hr (by decide) (by rfl) (pa_cons pe_int (pa_cons (pe_lst pa_nil) (pa_cons (pv 5) pa_nil))))))))), ?_⟩
  refine q_asg (i := 4) (ev_op (ev_op (ev_var rfl) (ev_var rfl) (rv_I (cm1 (by omega)))) (ev_op (ev_op ev_c (ev_var rfl) (rv_I (cm1 (by decide)))) (ev_var rfl) (rv_I (cm1 (by decide)))) rv_I0) fun H1 e1 => ?_
  refine q_cut (M := fun σ' H' => ∃ v, σ' = [some (.int 1), some (.int b), some (.int c), some (.int many), some (.int (b * b - 4 * 1 * c)), none, some v, none] ∧ Ex H H' ∧ okP K v (if many = 1 then divP (b * b - 4 * 1 * c) else signP (b * b - 4 * 1 * c) (many - 1)) H') ?_ ?_
  · refine s_if (b := false) (et_is (et_test (ev_op (ev_var rfl) ev_c (rv_eq rfl))) (decide_eq_false fun h => hn.ne (V.int.inj h))) (fun c => absurd c (by decide)) (fun _ H2 e2 => ?_)
    refine s_if (b := decide (many = 1)) (et_is (et_test (ev_op (ev_var rfl) ev_c (rv_eq rfl))) (decide_eq_decide.mpr ⟨fun h => V.int.inj h, fun h => by rw [h]⟩)) (fun cc H3 e3 => ?_) (fun cc H3 e3 => ?_)
    · refine s_asgP (i := 6) (ev_cal (ea_cons (ev_var rfl) ea_nil) (sp_mk' (b * b - 4 * 1 * c) rfl fun _ _ => ⟨hn.ne, hn.lt⟩)) fun H4 v H5 e4 e5 hv => ⟨v, rfl, e1.trans (e2.trans (e3.trans (e4.trans e5))), ?_⟩
      rw [if_pos (of_decide_eq_true cc)]
      exact hv
    · refine s_asgP (i := 6) (ev_cal (ea_cons (ev_var rfl) (ea_cons (ev_op (ev_var rfl) ev_c rv_I0) ea_nil)) (sp_mk' (b * b - 4 * 1 * c, many - 1) rfl fun _ _ => ⟨D, Ss, EO, hn⟩)) fun H4 v H5 e4 e5 hv => ⟨v, rfl, e1.trans (e2.trans (e3.trans (e4.trans e5))), ?_⟩
      rw [if_neg (of_decide_eq_false cc)]
      exact hv
  rintro σ' H2 ⟨v, rfl, ex2, hv⟩
  refine q_asgL (i := 5) (xs := []) ?_ fun l H3 l0 e3 hl => ?_
  · refine el_lcV (l := ([] : List Nat)) (ok := okv fun n : Nat => V.int n) (w := fun n : Nat => V.int n) (fun _ => true) (fun _ x => []) (eis_v (ei_lp ?_)) mono_okv (by decide) (fun x h => (by cases h)) (fun x h => (by cases h)) (fun x h => (by cases h)) (fun x h => (by cases h))
    have := ev_cal (P := isL (nv (oddDivN 1))) (sp := sp_odd_divisors) (σ := [some (.int 1), some (.int b), some (.int c), some (.int many), some (.int (b * b - 4 * 1 * c)), none, some v, none]) (H := H2) (ea_cons (ev_cb (ea_cons (ev_var (i := 0) (v := .int 1) rfl) ea_nil) rc_abs) ea_nil) (sp_mk' 1 rfl fun _ _ => ⟨by decide, by decide⟩)
    rw [odd1] at this
    exact this
  have hl : H3 l = some (.lst (nv [])) := hl
  refine s_retP (P := isP K (rootsP b c many)) ?_ (k.mono (ex2.trans e3))
  refine ev_join (r := .dis) (ev_join (r := .dif) (ev_isP (ev_var rfl) (hv.ex e3)) (fun H5 e5 => ev_cal (ea_cons (ev_var rfl) ea_nil) (sp_mk' 1 rfl fun _ _ => ⟨by decide, by decide⟩)) EO (good_found EO hn) (good_div1 EO)) (fun H5 e5 => ?_) EO (combN_good (good_found EO hn) (good_div1 EO) EO.odd) (good_one EO)
  exact ev_mkPrimesA ev_c el_nil (ev_var rfl) (e5 _ _ hl) ⟨by decide, by decide, by simp [Asc], fun x h => (by cases h), fun p h => (by cases h), by decide⟩
end
end EP
end

section
set_option Elab.async false
set_option linter.all false
set_option maxRecDepth 100000
set_option maxHeartbeats 4000000
/-! D8: by_rest. -/
namespace EP
open PySem PySem.Spec PyProof.Rows L2 Evl
section
variable {P : Program} {w : World} {K : PySem.W.Frag} {mg : Str → Option Value} {base : Heap}
/-- def f(a, .., *v) -/
theorem fnR_star {x qual : Str} {st : Stmt} {f : Addr} {N ps : List Str} {k : Nat} {sp : Sp} {sv : Str} (F : ∃ fd, L2.Fun K x qual st f fd) (S : FnScope N (ps ++ [sv]) (defScope st))
    (hb : ∀ (kV doc pm : Value) (an : Option Addr) (cdv ct : Value) (us rest : List Value), us.length = ps.length → bindArgs (PySem.W.fnOf x qual (defArgs st) (defBody st) (defScope st) .none kV doc pm an cdv ct) ⟨us ++ rest, []⟩ = (newTuple rest >>= fun t => pure (ps.zip us ++ [(sv, t)])))
    (hsp : ∀ vs H Q E, sp vs H Q E → sp vs H Q E0) (h : Body P w K mg base k qual st N sp) :
    FnR P w K mg base CX0 (k + 1) f (fun vs H Q E => ∃ ws rest, vs = ws ++ rest ∧ ws.length = ps.length ∧ rest.length ≤ sizeLine ∧ ∀ p, H p = Option.none → sp (ws ++ [V.ref p]) (upd H p (.tup rest)) Q E) := by
  obtain ⟨fd, F⟩ := F
  obtain ⟨oc, od, kV, doc, pm, an, cdv, ct, osl, rfl, lk, hcd⟩ := F.ex
  refine StX.fn_star lk hcd S StX.cxUp_none (fun us rest hl => hb kV doc pm an cdv ct us rest hl) fun A outer s H vs Q E hr q => ?_
  obtain ⟨t, ht, hq⟩ := h f cdv A outer s H vs Q E hr (hsp vs H Q E q)
  exact ⟨t, ht.nox, hq⟩
abbrev N_primes_by_rest : List Str := ["cls", "modulus", "rests", "rest", "coprime", "p"]
theorem sc_primes_by_rest : FnScope N_primes_by_rest ["cls", "modulus", "rests"] (defScope s_primes_by_rest) := ⟨rfl, rfl, rfl, by decide +kernel, rfl, by decide +kernel, by decide +kernel⟩
def restP (m r : Nat) : PS := mkP m ([r].filter fun x => Nat.gcd x m == 1) ((oddDivN m).filter fun p => decide (p % m ∈ [r]))
def sp_by_restI (K : PySem.W.Frag) : Sp := mkSp (α := Nat × Nat × Addr) (fun a => [.ref (He.ga K "Primes"), .int (a.1 : Nat), .ref a.2.2]) (fun a H => H a.2.2 = some (.tup [.int (a.2.1 : Nat)]) ∧ 0 < a.1 ∧ a.1 ≤ 4000 ∧ a.2.1 < a.1) (fun a => isP K (restP a.1 a.2.1))
def sp_by_rest (K : PySem.W.Frag) : Sp := mkSp (α := Nat × Nat) (fun a => [.ref (He.ga K "Primes"), .int (a.1 : Nat), .int (a.2 : Nat)]) (fun a _ => 0 < a.1 ∧ a.1 ≤ 4000 ∧ a.2 < a.1) (fun a => isP K (restP a.1 a.2))
theorem mk_rest {m r : Nat} (m0 : 0 < m) (mb : m ≤ 4000) (hr : r < m) : MkPre m ([r].filter fun x => Nat.gcd x m == 1) ((oddDivN m).filter fun p => decide (p % m ∈ [r])) := by
  refine ⟨m0, mb, ?_, fun x hx => ?_, fun p hp => ?_, ?_⟩
  · exact (by simp [Asc] : Asc [r]).filter _
  · obtain ⟨h1, h2⟩ := List.mem_filter.mp hx
    have : x = r := List.mem_singleton.mp h1
    subst this
    exact unitsN_mem.mpr ⟨hr, by simpa using h2⟩
  · obtain ⟨h1, h2, h3⟩ := (oddDivN_mem m0).mp (List.mem_filter.mp hp).1
    have := Nat.le_of_dvd m0 h3
    exact ⟨h1, h2, by omega⟩
  · have := oddDivN_len m0 (by omega)
    have := List.length_filter_le (fun p => decide (p % m ∈ [r])) (oddDivN m)
    omega
theorem ok_primes_by_rest (T : Tx K mg base) : CMe P w K mg base 7 (He.ga K "Primes") "by_rest" (sp_by_rest K) := by
  have B : Body P w K mg base 6 "Primes.by_rest" s_primes_by_rest N_primes_by_rest (sp_by_restI K) := by
    rintro f cdv A outer s H vs Q E hr ⟨⟨m, r, t⟩, rfl, ⟨ht, m0, mb, hrm⟩, k⟩
    have m0 : 0 < m := m0
    have mb : m ≤ 4000 := mb
    have hrm : r < m := hrm
    have ht : H t = some (.tup [.int (r : Nat)]) := ht
    refine ⟨_, pss_cons (ps_expr (pe_c (ok_checked_modulus_values T) hr (by decide) (by rfl) (pa_cons (pv 1) pa_nil)))
        (pss_cons (ps_for PassesOwn.never rfl (pi_tup (pv 2)) (pg_name (i := 3) sc_primes_by_rest.nd rfl (Or.inl rfl)) (pss_one (ps_if (PW.pt (pw_or (pt_cmpR op_lt (pv 3) pe_int (nomark _)) (pw_or1 (pt_cmpR op_ge (pv 3) (pv 1) (nomark _))))) (pss_one (ps_never)) (pss_nil))))
        (pss_cons (ps_setLc (i := 4) (own := [("rest", 3)]) (g := gName 3) (by rfl) sc_primes_by_rest.nd rfl rfl (sw_true rfl rfl rfl (by decide +kernel)) (pi_tup (pv 2)) (blkOk_by (own := [("rest", 3)]) (N := N_primes_by_rest) (sc := defScope s_primes_by_rest) (by decide +kernel)) (fun _ _ _ _ _ => pg_name (i := 3) sc_primes_by_rest.nd rfl (Or.inl rfl)) (fun _ _ _ _ _ => pts_one (pt_cmpR op_eq (pe_c (ok_common T) hr (by decide) (by rfl) (pa_cons (pv 3) (pa_cons (pv 1) pa_nil))) pe_int (nomark _))) (fun _ _ _ _ _ => pv 3))
        (pss_one (ps_ret (pe_mkL (i := 0) (ok_primes_init T) hr (by decide) rfl (by first | exact Or.inl rfl | exact Or.inr (Or.inl rfl)) (pa_cons (pv 1) (pa_cons (pv 4) (pa_cons (pe_lc (own := [("p", 5)]) (g := gName 5) (by rfl) sc_primes_by_rest.nd (pi_list (pe_c (ok_odd_divisors T) hr (by decide) (by rfl) (pa_cons (pv 1) pa_nil))) (blkOk_by (own := [("p", 5)]) (N := N_primes_by_rest) (sc := defScope s_primes_by_rest) (by decide +kernel)) (fun _ _ _ _ _ => pg_name (i := 5) sc_primes_by_rest.nd rfl (Or.inl rfl)) (fun _ _ _ _ _ => pts_one (pt_cmpR (op_inCk K rfl (hu_of hr)) (pe_op op_mod (pv 5) (pv 1)) (pv 2) (by rfl))) (fun _ _ _ _ _ => pv 5)) pa_nil)))))))), ?_⟩
    refine q_dropP (ev_cal (ea_cons (ev_var rfl) ea_nil) (sp_mk' m rfl fun _ _ => ⟨m0, mb⟩)) fun H1 e1 => ?_
    refine q_forT (ev_var rfl) (SqT.of (e1 _ _ ht)) (fun i σ' H' => ∃ o, σ' = [some (.ref (He.ga K "Primes")), some (.int (m : Nat)), some (.ref t), o, none, none] ∧ Ex H H') (fun H2 e2 => ⟨_, rfl, e1.trans e2⟩) (fun i σ' H' _ ⟨_, _, e⟩ => SqT.of (e _ _ ht)) ?_ ?_
    · rintro i x σ' H' hx ⟨o, rfl, ex⟩
      have hxr : x = .int (r : Nat) := by
        have := List.mem_of_getElem? hx
        exact List.mem_singleton.mp this
      subst hxr
      exact s_when (b := false) (et_or (a := false) (b := false) (et_is (et_test (ev_op (ev_var rfl) ev_c rv_I0)) (decide_eq_false (by omega))) fun _ => et_is (et_test (ev_op (ev_var rfl) (ev_var rfl) rv_I0)) (decide_eq_false (by omega))) (fun c => absurd c (by decide)) (fun c H2 e2 => ⟨_, rfl, ex.trans e2⟩)
    rintro σ' H2 ⟨o, rfl, ex2⟩
    refine q_asgL (i := 4) (xs := nv ([r].filter fun x => Nat.gcd x m == 1)) ?_ fun c H3 c0 e3 hc => ?_
    · refine el_lcV (l := [r]) (ok := okv fun n : Nat => V.int n) (w := fun n : Nat => V.int n) (fun x => Nat.gcd x m == 1) (fun _ x => [some (.ref (He.ga K "Primes")), some (.int (m : Nat)), some (.ref t), some (.int (x : Nat)), none, none]) (eis_v (gx := fun n : Nat => V.int n) (ei_tup (ev_var rfl) (ex2 _ _ ht))) mono_okv (by simp) ?_ (fun _ _ _ _ _ => rfl) ?_ (fun x _ _ v H1 _ _ => ev_var rfl)
      · rintro x - v H1 - rfl R hR
        exact hR H1 (Ex.refl H1)
      · intro x _ v H1 e1 _
        exact et_is (et_test (ev_op (p_ev (ev_cal (ea2 (ev_var rfl) (ev_var rfl)) (sp_mk' ((x : Int), (m : Int)) rfl fun _ _ => trivial))) ev_c (rv_eq rfl))) (dec_ii (Nat.gcd x m) 1)
    refine s_retP (P := isP K (restP m r)) ?_ (k.mono (ex2.trans e3))
    have ht3 := (ex2.trans e3) _ _ ht
    refine EvP.imp (P := isP K (restP m r)) (fun H4 e4 Q4 q4 => ⟨rfl, ev_mkPrimesB (ev_var rfl) (ev_var rfl) (e4 _ _ hc) ?_ (mk_rest m0 mb hrm) H4 (Ex.refl H4) Q4 q4⟩) fun _ _ _ _ _ h => h
    refine el_lcV (l := oddDivN m) (ok := okv fun n : Nat => V.int n) (w := fun n : Nat => V.int n) (fun p => decide (p % m ∈ [r])) (fun _ x => [some (.ref (He.ga K "Primes")), some (.int (m : Nat)), some (.ref t), o, some (.ref c), some (.int (x : Nat))]) (eis_v (ei_lp (ev_cal (ea_cons (ev_var rfl) ea_nil) (sp_mk' m rfl fun _ _ => ⟨m0, by omega⟩)))) mono_okv (by have := oddDivN_len m0 (by omega); omega) ?_ (fun _ _ _ _ _ => rfl) ?_ (fun x _ _ v H1 _ _ => ev_var rfl)
    · rintro x - v H1 - rfl R hR
      exact hR H1 (Ex.refl H1)
    · intro x _ v H5 e5 _
      exact et_is (et_test (ev_op (ev_eqI (ev_op (ev_var rfl) (ev_var rfl) (rv_I (cmod m0))) (emod_nat x m)) (ev_var rfl) (rv_inC (IntC.tupN (l := [r]) (e5 _ _ (e4 _ _ ht3)))))) mem_zs
  refine ⟨_, _, _, T.cr_Primes, T.cm_by_rest, (fnR_star (ps := ["cls", "modulus"]) (sv := "rests") T.f_primes_by_rest sc_primes_by_rest ?_ any_sp B).imp ?_⟩
  · intro kV doc pm an cdv ct
    exact StX.bind_star2 (B := fun us => bindArgs (PySem.W.fnOf "by_rest" "Primes.by_rest" (defArgs s_primes_by_rest) (defBody s_primes_by_rest) (defScope s_primes_by_rest) .none kV doc pm an cdv ct) ⟨us, []⟩) (fun _ _ => rfl) (fun _ _ _ _ => rfl)
  · rintro vs H Q E ⟨⟨m, r⟩, rfl, pre, k⟩
    refine ⟨[.ref (He.ga K "Primes"), .int (m : Nat)], [.int (r : Nat)], rfl, rfl, sz_of (by simp), fun p hp => ⟨(m, r, p), rfl, ⟨upd_same, pre⟩, k.mono (Ex.new hp)⟩⟩
end
end EP
end

section
set_option Elab.async false
set_option linter.all false
set_option maxRecDepth 100000
set_option maxHeartbeats 4000000
/-! D9: forms. -/
namespace EP
open PySem PySem.Spec PyProof.Rows L2 Evl
section
variable {P : Program} {w : World} {K : PySem.W.Frag} {mg : Str → Option Value} {base : Heap}
/-! ### side_of, written -/
def sideN : Nat → Nat → Nat → Nat → Nat
  | 0, _, lo, _ => lo
  | f + 1, q, lo, hi => if 1 < hi - lo then (if (lo + hi) / 2 * ((lo + hi) / 2) ≤ q then sideN f q ((lo + hi) / 2) hi else sideN f q lo ((lo + hi) / 2)) else lo
def sideO (q : Nat) : Option Nat := if sideN (q + 1) q 0 (q + 1) * sideN (q + 1) q 0 (q + 1) = q then some (sideN (q + 1) q 0 (q + 1)) else none
def optI : Option Nat → V
  | none => .non
  | some n => .int (n : Nat)
abbrev N_side_of : List Str := ["square", "low", "high", "middle"]
theorem sc_side_of : FnScope N_side_of ["square"] (defScope s_side_of) := ⟨rfl, rfl, rfl, by decide +kernel, rfl, by decide +kernel, by decide +kernel⟩
def sp_side_of : Sp := mkSp (α := Nat) (fun q => [.int (q : Nat)]) (fun q _ => q < 2 ^ 20) (fun q => isV (optI (sideO q)))
theorem sideN_no {f q lo hi : Nat} (h : ¬ 1 < hi - lo) : sideN f q lo hi = lo := by
  cases f with
  | zero => rfl
  | succ f => rw [sideN, if_neg h]
theorem ok_side_of (T : Tx K mg base) : Cal P w K mg base 1 "side_of" sp_side_of := by
  refine cal_of T.f_side_of T.g_side_of sc_side_of (fun _ _ _ _ _ _ us hl => match us, hl with | [_], _ => rfl) (len_sp fun _ => rfl) any_sp ?_
  rintro f cdv A outer s H vs Q E hr ⟨q, rfl, hq, k⟩
  have hq : q < 2 ^ 20 := hq
  refine ⟨_, pss_cons (ps_set (i := 1) sc_side_of.nd rfl (Or.inl rfl) pe_int)
      (pss_cons (ps_set (i := 2) sc_side_of.nd rfl (Or.inl rfl) (pe_op op_add (pv 0) pe_int))
      (pss_cons (ps_while PassesOwn.never (pt_cmpR op_gt (pe_op op_sub (pv 2) (pv 1)) pe_int (nomark _)) (pss_cons (ps_set (i := 3) sc_side_of.nd rfl (Or.inl rfl) (pe_op op_fdiv (pe_op op_add (pv 1) (pv 2)) pe_int))
        (pss_one (ps_if (pt_cmpR op_le (pe_op op_mul (pv 3) (pv 3)) (pv 0) (nomark _)) (pss_one (ps_set (i := 1) sc_side_of.nd rfl (Or.inl rfl) (pv 3))) (pss_one (ps_set (i := 2) sc_side_of.nd rfl (Or.inl rfl) (pv 3)))))))
      (pss_cons (ps_if (pt_cmpR op_eq (pe_op op_mul (pv 1) (pv 1)) (pv 0) (nomark _)) (pss_one (ps_ret (pv 1))) (pss_nil))
      (pss_one (ps_ret pe_non))))), ?_⟩
  refine q_asg (i := 1) (ev_c) fun H1 e1 => ?_
  refine q_asg (i := 2) (ev_op (ev_var rfl) ev_c rv_I0) fun H2 e2 => ?_
  refine q_while (fun g σ' H' => ∃ (lo hi : Nat) (o : Option V), σ' = [some (.int (q : Nat)), some (.int (lo : Nat)), some (.int (hi : Nat)), o] ∧ Ex H H' ∧ lo < hi ∧ hi - lo ≤ g ∧ hi ≤ q + 1 ∧ sideN g q lo hi = sideN (q + 1) q 0 (q + 1)) (q + 1) ⟨0, q + 1, none, rfl, e1.trans e2, by omega, by omega, Nat.le_refl _, rfl⟩ ?_
  rintro g σ' H' ⟨lo, hi, o, rfl, ex, lh, hg, hb, hs⟩
  refine ⟨decide (1 < hi - lo), et_is (et_test (ev_op (ev_op (ev_var rfl) (ev_var rfl) rv_I0) ev_c rv_I0)) (decide_eq_decide.mpr (by omega)), fun c H3 e3 => ⟨fun σ2 H2 => ∃ g', g' < g ∧ _, fun _ _ h => h, ?_⟩, fun c H3 e3 => ?_⟩
  · have c : 1 < hi - lo := of_decide_eq_true c
    obtain ⟨g, rfl⟩ : ∃ x, g = x + 1 := ⟨g - 1, by omega⟩
    rw [sideN, if_pos c] at hs
    refine q_asgI (i := 3) (ev_op (ev_op (ev_var rfl) (ev_var rfl) rv_I0) ev_c (rv_I ⟨by decide, by decide⟩)) (m := (((lo + hi) / 2 : Nat) : Int)) (by rw [add_nat]; exact ediv_nat (lo + hi) 2) fun H4 e4 => ?_
    generalize hm : (lo + hi) / 2 = mid at hs
    have h64 : -(2 ^ 64) < ((mid : Nat) : Int) ∧ ((mid : Nat) : Int) < 2 ^ 64 := by omega
    refine s_if (et_is (et_test (ev_op (ev_op (ev_var rfl) (ev_var rfl) (rv_I (cm1 h64))) (ev_var rfl) rv_I0)) (dec_le mid q)) (fun c2 H5 e5 => ?_) (fun c2 H5 e5 => ?_)
    · rw [if_pos (of_decide_eq_true c2)] at hs
      exact s_asg (i := 1) (ev_var rfl) fun H6 e6 => ⟨g, Nat.lt_succ_self g, mid, hi, _, rfl, ex.trans (e3.trans (e4.trans (e5.trans e6))), by omega, by omega, hb, hs⟩
    · rw [if_neg (of_decide_eq_false c2)] at hs
      exact s_asg (i := 2) (ev_var rfl) fun H6 e6 => ⟨g, Nat.lt_succ_self g, lo, mid, _, rfl, ex.trans (e3.trans (e4.trans (e5.trans e6))), by omega, by omega, by omega, hs⟩
  · have c : ¬ 1 < hi - lo := of_decide_eq_false c
    rw [sideN_no c] at hs
    have h64 : -(2 ^ 64) < ((lo : Nat) : Int) ∧ ((lo : Nat) : Int) < 2 ^ 64 := by omega
    refine q_when (b := decide (lo * lo = q)) (et_is (et_test (ev_op (ev_eqI (ev_op (ev_var rfl) (ev_var rfl) (rv_I (cm1 h64))) (mul_nat lo lo)) (ev_var rfl) (rv_eq rfl))) (dec_ii (lo * lo) q)) (fun c2 H4 e4 => ?_) (fun c2 H4 e4 => ?_)
    · refine s_ret (ev_var rfl) fun H5 e5 => gives_ve k (ex.trans (e3.trans (e4.trans e5))) ?_
      show _ = optI (sideO q)
      unfold sideO
      rw [← hs, if_pos (of_decide_eq_true c2)]
      rfl
    · refine s_ret ev_c fun H5 e5 => gives_ve k (ex.trans (e3.trans (e4.trans e5))) ?_
      show _ = optI (sideO q)
      unfold sideO
      rw [← hs, if_neg (of_decide_eq_false c2)]
      rfl
def wrN : Nat → Nat → Nat → Nat → Bool
  | 0, _, _, _ => false
  | f + 1, p, n, y => if n * y * y ≤ p then (if (sideO (p - n * y * y)).isSome = true then true else wrN f p n (y + 1)) else false
/-- is p written as x x + n y y -/
def writtenB (p n : Nat) : Bool := wrN (p + 1) p n 0
abbrev N_written : List Str := ["p", "n", "y", "x"]
theorem sc_written : FnScope N_written ["p", "n"] (defScope s_written) := ⟨rfl, rfl, rfl, by decide +kernel, rfl, by decide +kernel, by decide +kernel⟩
def sp_written : Sp := mkSp (α := Nat × Nat) (fun a => [.int (a.1 : Nat), .int (a.2 : Nat)]) (fun a _ => a.1 < 2 ^ 20 ∧ 0 < a.2 ∧ a.2 < 2 ^ 20) (fun a => fun _ v _ => (!decide (v = .non)) = writtenB a.1 a.2)
theorem wrN_no {f p n y : Nat} (h : ¬ n * y * y ≤ p) : wrN f p n y = false := by
  cases f with
  | zero => rfl
  | succ f => rw [wrN, if_neg h]
theorem optI_dec (o : Option Nat) : (!decide (optI o = .non)) = o.isSome := by
  cases o with
  | none => rfl
  | some n => simp [optI]
theorem ok_written (T : Tx K mg base) : Cal P w K mg base 2 "written" sp_written := by
  refine cal_of T.f_written T.g_written sc_written (fun _ _ _ _ _ _ us hl => match us, hl with | [_, _], _ => rfl) (len_sp fun _ => rfl) any_sp ?_
  rintro f cdv A outer s H vs Q E hr ⟨⟨p, n⟩, rfl, ⟨hp, n0, hn⟩, k⟩
  have hp : p < 2 ^ 20 := hp
  have n0 : 0 < n := n0
  have hn : n < 2 ^ 20 := hn
  refine ⟨_, pss_cons (ps_set (i := 2) sc_written.nd rfl (Or.inl rfl) pe_int)
      (pss_cons (ps_while PassesOwn.never (pt_cmpR op_le (pe_op op_mul (pe_op op_mul (pv 1) (pv 2)) (pv 2)) (pv 0) (nomark _)) (pss_cons (ps_set (i := 3) sc_written.nd rfl (Or.inl rfl) (pe_c (ok_side_of T) hr (by decide) (by rfl) (pa_cons (pe_op op_sub (pv 0) (pe_op op_mul (pe_op op_mul (pv 1) (pv 2)) (pv 2))) pa_nil)))
        (pss_cons (ps_if (pt_cmpR op_isnot0 (pv 3) pe_non (nomark _)) (pss_one (ps_ret (pe_tup (pa_cons (pv 3) (pa_cons (pv 2) pa_nil))))) (pss_nil))
        (pss_one (ps_aug (i := 2) sc_written.nd rfl (Or.inl rfl) pe_int ip_add)))))
      (pss_one (ps_ret pe_non))), ?_⟩
  refine q_asg (i := 2) ev_c fun H1 e1 => ?_
  refine q_while (fun g σ' H' => ∃ (y : Nat) (o : Option V), σ' = [some (.int (p : Nat)), some (.int (n : Nat)), some (.int (y : Nat)), o] ∧ Ex H H' ∧ p < y + g ∧ y ≤ p + 1 ∧ wrN g p n y = writtenB p n) (p + 1) ⟨0, none, rfl, e1, by omega, by omega, rfl⟩ ?_
  rintro g σ' H' ⟨y, o, rfl, ex, hg, hy, hs⟩
  have h64 : -(2 ^ 64) < ((y : Nat) : Int) ∧ ((y : Nat) : Int) < 2 ^ 64 := by omega
  have h1 : -(2 ^ 64) < ((n : Nat) : Int) ∧ ((n : Nat) : Int) < 2 ^ 64 := by omega
  have en : (n : Int) * (y : Int) * (y : Int) = ((n * y * y : Nat) : Int) := by rw [mul_nat, mul_nat]
  refine ⟨decide (n * y * y ≤ p), et_is (et_test (ev_op (ev_eqI (ev_op (ev_op (ev_var rfl) (ev_var rfl) (rv_I (cm1 h1))) (ev_var rfl) (rv_I (cm2 h64))) en) (ev_var rfl) rv_I0)) (decide_eq_decide.mpr Int.ofNat_le), fun c H3 e3 => ⟨fun σ2 H2 => ∃ g', g' < g ∧ _, fun _ _ h => h, ?_⟩, fun c H3 e3 => ?_⟩
  · have c : n * y * y ≤ p := of_decide_eq_true c
    have yp : y ≤ p := by
      rcases Nat.eq_zero_or_pos y with q | q
      · omega
      · have h2 : 1 * y * 1 ≤ n * y * y := Nat.mul_le_mul (Nat.mul_le_mul_right y n0) q
        omega
    obtain ⟨g, rfl⟩ : ∃ x, g = x + 1 := ⟨g - 1, by omega⟩
    rw [wrN, if_pos c] at hs
    refine q_asg (i := 3) (p_ev (ev_cal (ea_cons (ev_eqI (ev_op (ev_var rfl) (ev_eqI (ev_op (ev_op (ev_var rfl) (ev_var rfl) (rv_I (cm1 h1))) (ev_var rfl) (rv_I (cm2 h64))) en) rv_I0) (m := ((p - n * y * y : Nat) : Int)) (by omega)) ea_nil) (sp_mk' (p - n * y * y) rfl fun _ _ => by omega))) fun H4 e4 => ?_
    refine q_when (b := (sideO (p - n * y * y)).isSome) (et_is (et_test (ev_op (ev_var rfl) ev_c rv_isnot0)) (optI_dec _)) (fun c2 H5 e5 => ?_) (fun c2 H5 e5 => ?_)
    · rw [if_pos c2] at hs
      refine s_retU (eu2 (ev_var rfl) (ev_var rfl)) fun t H6 t0 e6 ht => k.go (ex.trans (e3.trans (e4.trans (e5.trans e6)))) ?_
      show (!decide (V.ref t = .non)) = writtenB p n
      rw [← hs]
      rfl
    · rw [c2, if_neg Bool.false_ne_true] at hs
      exact s_aug rfl ev_c fun H6 e6 => ⟨g, Nat.lt_succ_self g, y + 1, _, rfl, ex.trans (e3.trans (e4.trans (e5.trans e6))), by omega, by omega, hs⟩
  · have c : ¬ n * y * y ≤ p := of_decide_eq_false c
    rw [wrN_no c] at hs
    refine s_ret ev_c fun H6 e6 => k.go (ex.trans (e3.trans e6)) ?_
    show (!decide (V.non = .non)) = writtenB p n
    rw [← hs]
    rfl
/-! ### Form -/
abbrev F3 := Int × Int × Int
/-- an instance of Form -/
def okF (K : PySem.W.Frag) : V → F3 → Hp → Prop := fun v F H => ∃ (a dx : Addr) (d : V), v = .ref a ∧ H a = some (.ins (He.ga K "Form") dx [("a", .int F.1), ("b", .int F.2.1), ("c", .int F.2.2), ("discriminant", d)])
theorem mono_okF : Mono (okF K) := fun v S H H' e ⟨a, dx, d, h1, h2⟩ => ⟨a, dx, d, h1, e _ _ h2 rfl⟩
theorem okF.ex {v : V} {S : F3} {H H' : Hp} (e : Ex H H') (h : okF K v S H) : okF K v S H' := mono_okF _ _ _ _ (Ex.toF e) h
def isF (K : PySem.W.Frag) (F : F3) : VP := fun _ v H => okF K v F H
section
variable {σ : L2.St} {H H' : Hp} {ta : TE} {v : V} {F : F3}
theorem ev_fa (T : Tx K mg base) (hx : Ev ta σ H v) (h : okF K v F H) : Ev (tFld K ta "a") σ H (.int F.1) := by
  obtain ⟨a, dx, d, rfl, h2⟩ := h
  exact ev_fld hx h2 T.c_Form T.n_Form_a rfl
theorem ev_fb (T : Tx K mg base) (hx : Ev ta σ H v) (h : okF K v F H) : Ev (tFld K ta "b") σ H (.int F.2.1) := by
  obtain ⟨a, dx, d, rfl, h2⟩ := h
  exact ev_fld hx h2 T.c_Form T.n_Form_b rfl
theorem ev_fc (T : Tx K mg base) (hx : Ev ta σ H v) (h : okF K v F H) : Ev (tFld K ta "c") σ H (.int F.2.2) := by
  obtain ⟨a, dx, d, rfl, h2⟩ := h
  exact ev_fld hx h2 T.c_Form T.n_Form_c rfl
theorem InsAt.ofF (h : okF K v F H) : ∃ a, v = .ref a ∧ InsAt H (He.ga K "Form") a := by
  obtain ⟨a, dx, d, rfl, h2⟩ := h
  exact ⟨a, rfl, dx, _, h2⟩
end
structure FOk (F : F3) : Prop where
  a1 : 1 ≤ F.1
  b1 : F.1 < 2 ^ 20
  b2 : F.2.1.natAbs < 2 ^ 20
  b3 : F.2.2.natAbs < 2 ^ 20
  neg : F.2.1 * F.2.1 - 4 * F.1 * F.2.2 < 0
abbrev N_form_init : List Str := ["self", "a", "b", "c"]
theorem sc_form_init : FnScope N_form_init ["self", "a", "b", "c"] (defScope s_form_init) := ⟨rfl, rfl, rfl, by decide +kernel, rfl, by decide +kernel, by decide +kernel⟩
def sp_form_init (K : PySem.W.Frag) : Sp := mkSpI (He.ga K "Form") (α := F3) (fun F => [.int F.1, .int F.2.1, .int F.2.2]) (fun F _ => FOk F) (fun F => isF K F)
theorem ok_form_init (T : Tx K mg base) : Mak P w K mg base 1 "Form" (He.ga K "Form") (sp_form_init K) := by
  refine mak_of T.f_form_init T.g_Form T.k_Form sc_form_init (fun _ _ _ _ _ _ us hl => match us, hl with | [_, _, _, _], _ => rfl) (len_spI fun _ => rfl) any_spI ?_
  rintro f cdv A outer s H vs Q E hr ⟨x, dx, HB, ⟨a, b, c⟩, rfl, hx, hdx, ne, rfl, ho, k⟩
  obtain ⟨a1, b1, b2, b3, neg⟩ := ho
  have a1 : 1 ≤ a := a1
  have b1 : a < 2 ^ 20 := b1
  have b2 : b.natAbs < 2 ^ 20 := b2
  have neg : b * b - 4 * a * c < 0 := neg
  have hB : Ex HB (upd (upd HB dx (.own x)) x (.ins (He.ga K "Form") dx [])) := Ex.mut (Ex.new hdx) hx
  have hx0 : upd (upd HB dx (.own x)) x (.ins (He.ga K "Form") dx []) x = some (.ins (He.ga K "Form") dx []) := upd_same
  generalize upd (upd HB dx (.own x)) x (.ins (He.ga K "Form") dx []) = H at hB hx0
  refine ⟨_, pss_cons (ps_if (PW.pt (pw_or (pt_cmpR op_lt (pv 1) pe_int (nomark _)) (pw_or1 (pt_cmpR op_ge (pe_op op_sub (pe_op op_mul (pv 2) (pv 2)) (pe_op op_mul (pe_op op_mul pe_int (pv 1)) (pv 3))) pe_int (nomark _))))) (pss_one (ps_never)) (pss_nil))
      (pss_cons (ps_fld (pv 0) (pv 1) rfl)
      (pss_cons (ps_fld (pv 0) (pv 2) rfl)
      (pss_cons (ps_fld (pv 0) (pv 3) rfl)
      (pss_one (ps_fld (pv 0) (pe_op op_sub (pe_op op_mul (pv 2) (pv 2)) (pe_op op_mul (pe_op op_mul pe_int (pv 1)) (pv 3))) rfl))))), ?_⟩
  have cb : CMul b b := cm1 (by omega)
  have ca : CMul 4 a := cm1 (by decide)
  have cc : CMul (4 * a) c := cm1 (by omega)
  refine q_when (b := false) (et_or (a := false) (b := false) (et_is (et_test (ev_op (ev_var rfl) ev_c rv_I0)) (decide_eq_false (by omega))) fun _ => et_is (et_test (ev_op (ev_op (ev_op (ev_var rfl) (ev_var rfl) (rv_I cb)) (ev_op (ev_op ev_c (ev_var rfl) (rv_I ca)) (ev_var rfl) (rv_I cc)) rv_I0) ev_c rv_I0)) (decide_eq_false (Int.not_le.mpr neg))) (fun c => absurd c (by decide)) (fun _ H1 e1 => ?_)
  refine q_fldV (ev_var rfl) (ev_var rfl) (e1 _ _ hx0) T.c_Form T.n_Form_a (by decide) fun H2 e2 => ?_
  refine q_fldV (ev_var rfl) (ev_var rfl) upd_same T.c_Form T.n_Form_b (by show 1 < 1000; decide) fun H3 e3 => ?_
  refine q_fldV (ev_var rfl) (ev_var rfl) upd_same T.c_Form T.n_Form_c (by show 2 < 1000; decide) fun H4 e4 => ?_
  refine s_fldV (ev_op (ev_op (ev_var rfl) (ev_var rfl) (rv_I cb)) (ev_op (ev_op ev_c (ev_var rfl) (rv_I ca)) (ev_var rfl) (rv_I cc)) rv_I0) (ev_var rfl) upd_same T.c_Form T.n_Form_discriminant (by show 3 < 1000; decide) fun H5 e5 => ?_
  exact k _ (Ex.mut ((Ex.mut ((Ex.mut ((Ex.mut (hB.trans (e1.trans e2)) hx).trans e3) hx).trans e4) hx).trans e5) hx) ⟨x, dx, _, rfl, upd_same⟩
def formI (F : F3) (x y : Nat) : Int := F.1 * x * x + F.2.1 * x * y + F.2.2 * y * y
abbrev N_form_call : List Str := ["self", "x", "y"]
theorem sc_form_call : FnScope N_form_call ["self", "x", "y"] (defScope s_form_call) := ⟨rfl, rfl, rfl, by decide +kernel, rfl, by decide +kernel, by decide +kernel⟩
def sp_form_call (K : PySem.W.Frag) : Sp := mkSp (α := V × F3 × Nat × Nat) (fun a => [a.1, .int (a.2.2.1 : Nat), .int (a.2.2.2 : Nat)]) (fun a H => okF K a.1 a.2.1 H ∧ a.2.2.1 < 2 ^ 20 ∧ a.2.2.2 < 2 ^ 20) (fun a => isV (.int (formI a.2.1 a.2.2.1 a.2.2.2)))
theorem ok_form_call (T : Tx K mg base) : FnR P w K mg base CX0 1 (He.fAd K ("Form", some "__call__")) (sp_form_call K) := by
  refine fnR_of T.f_form_call sc_form_call (fun _ _ _ _ _ _ us hl => match us, hl with | [_, _, _], _ => rfl) (len_sp fun _ => rfl) any_sp ?_
  rintro f cdv A outer s H vs Q E hr ⟨⟨v, F, x, y⟩, rfl, ⟨h, hx, hy⟩, k⟩
  have hx : x < 2 ^ 20 := hx
  have hy : y < 2 ^ 20 := hy
  have x64 : -(2 ^ 64) < ((x : Nat) : Int) ∧ ((x : Nat) : Int) < 2 ^ 64 := by omega
  have y64 : -(2 ^ 64) < ((y : Nat) : Int) ∧ ((y : Nat) : Int) < 2 ^ 64 := by omega
  refine ⟨_, pss_one (ps_ret (pe_op op_add (pe_op op_add (pe_op op_mul (pe_op op_mul (pe_fldk K rfl (pv 0) rfl) (pv 1)) (pv 1)) (pe_op op_mul (pe_op op_mul (pe_fldk K rfl (pv 0) rfl) (pv 1)) (pv 2))) (pe_op op_mul (pe_op op_mul (pe_fldk K rfl (pv 0) rfl) (pv 2)) (pv 2)))), ?_⟩
  exact s_retP (ev_p (ev_op (ev_op (ev_op (ev_op (ev_fa T (ev_var rfl) h) (ev_var rfl) (rv_I (cm2 x64))) (ev_var rfl) (rv_I (cm2 x64))) (ev_op (ev_op (ev_fb T (ev_var rfl) h) (ev_var rfl) (rv_I (cm2 x64))) (ev_var rfl) (rv_I (cm2 y64))) rv_I0) (ev_op (ev_op (ev_fc T (ev_var rfl) h) (ev_var rfl) (rv_I (cm2 y64))) (ev_var rfl) (rv_I (cm2 y64))) rv_I0)) k
abbrev N_form_eq : List Str := ["self", "other"]
theorem sc_form_eq : FnScope N_form_eq ["self", "other"] (defScope s_form_eq) := ⟨rfl, rfl, rfl, by decide +kernel, rfl, by decide +kernel, by decide +kernel⟩
def sp_form_eq (K : PySem.W.Frag) : Sp := mkSp (α := (V × F3) × (V × F3)) (fun a => [a.1.1, a.2.1]) (fun a H => okF K a.1.1 a.1.2 H ∧ okF K a.2.1 a.2.2 H) (fun a => isV (.bl (decide (a.1.2 = a.2.2))))
theorem eqv3 (a b c x y z : Int) : PyData.eqv (.tuple [.int a, .int b, .int c]) (.tuple [.int x, .int y, .int z]) = decide ((a, b, c) = (x, y, z)) := by
  rw [Bool.eq_iff_iff, decide_eq_true_iff]
  simp [PyData.eqv, PyData.eqvAll]
theorem eu3 {σ : L2.St} {H : Hp} {x y z : V} {a b c : TE} (h1 : Ev a σ H x) (h2 : Ev b σ H y) (h3 : Ev c σ H z) : EvU (tTup (tCons a (tCons b (tCons c tNil)))) σ H [x, y, z] := eu_tup (ea_cons h1 (ea_cons h2 (ea_cons h3 ea_nil))) (by simp)
theorem ok_form_eq (T : Tx K mg base) : Met P w K mg base 1 (He.ga K "Form") "__eq__" (sp_form_eq K) := by
  refine met_of T.f_form_eq T.c_Form T.m_Form_eq sc_form_eq (fun _ _ _ _ _ _ us hl => match us, hl with | [_, _], _ => rfl) (len_sp fun _ => rfl) any_sp ?_
  rintro f cdv A outer s H vs Q E hr ⟨⟨⟨v1, F1⟩, ⟨v2, F2⟩⟩, rfl, ⟨h1, h2⟩, k⟩
  refine ⟨_, pss_one (ps_ret (pe_and (pe_callB (C8.call_isC T.is_Form) (by rfl) T.b_isinstance (by decide +kernel) (pa_cons (pv 1) (pa_cons (pe_gr rfl T.g_Form) pa_nil))) (pe_one (pe_cmpR (op_eqD hr.units) (pe_tup (pa_cons (pe_fldk K rfl (pv 0) rfl) (pa_cons (pe_fldk K rfl (pv 0) rfl) (pa_cons (pe_fldk K rfl (pv 0) rfl) pa_nil)))) (pe_tup (pa_cons (pe_fldk K rfl (pv 1) rfl) (pa_cons (pe_fldk K rfl (pv 1) rfl) (pa_cons (pe_fldk K rfl (pv 1) rfl) pa_nil)))) (nomark _))))), ?_⟩
  refine s_retP (P := isV (.bl (decide (F1 = F2)))) (ev_p (ev_eqB (a := true && decide (F1 = F2)) (ev_andV ?_ fun _ => ?_) (Bool.true_and _))) k
  · obtain ⟨a, dx, d, e, h⟩ := id h2
    exact ev_cb (ea2 (ev_var rfl) ev_c) fun H1 e1 Q q => ⟨a, dx, _, by rw [e], e1 _ _ h, q H1 (Ex.refl H1)⟩
  · refine ev_opUU (eu3 (ev_fa T (ev_var rfl) h1) (ev_fb T (ev_var rfl) h1) (ev_fc T (ev_var rfl) h1)) (eu3 (ev_fa T (ev_var rfl) h2) (ev_fb T (ev_var rfl) h2) (ev_fc T (ev_var rfl) h2)) fun p q H1 hp hq e1 => ?_
    intro H2 e2 Q' q'
    refine ⟨.tuple [.int F1.1, .int F1.2.1, .int F1.2.2], .tuple [.int F2.1, .int F2.2.1, .int F2.2.2], .tup (SqT.of (e2 _ _ hp)) (.cons (.int _) (.cons (.int _) (.cons (.int _) .nil))), .tup (SqT.of (e2 _ _ hq)) (.cons (.int _) (.cons (.int _) (.cons (.int _) .nil))), by rfl, by rfl, ?_⟩
    rw [eqv3]
    exact q' H2 (Ex.refl H2)
end
end EP
end

section
set_option Elab.async false
set_option linter.all false
set_option maxRecDepth 100000
set_option maxHeartbeats 4000000
/-! D10: rests_of, reduced_forms, neighbour, form_primes. -/
namespace EP
open PySem PySem.Spec PyProof.Rows L2 Evl
section
variable {w : World} {σ : L2.St} {H : Hp} {wi wj : TI} {g gj : TG} {te : TE} {vs ws : List Nat}
def isSetB (w : World) (l : List Nat) (B : Nat) : VP := fun H0 x H1 => ∃ a c, x = .ref a ∧ H0 a = none ∧ H1 a = some (SetO w a (fun j => decide (j ∈ zs l)) c) ∧ c ≤ B
theorem el_sortedSB {l : List Nat} {B : Nat} (h : EvP te σ H (isSetB w l B)) (hz : B < 64) : EvL (tCB (rSortedSet w) (tCons te tNil)) σ H (nv (sortU l)) := fun H1 e Q q =>
  h H1 e _ fun H0 v H2 e0 e2 ⟨a, c, ev, a0, ha, hc⟩ => by
    subst ev
    refine ⟨a, _, c, rfl, ha, by omega, fun ns p h1 h2 h3 hp => q p _ (fresh_back (e0.trans e2) hp) ((e0.trans e2).trans (Ex.new hp)) ?_⟩
    rw [upd_same, int_asc h1 (sortU_asc l) fun k => ?_, ← iv_zs]
    rw [h2 k, decide_eq_true_iff, zs_mem, zs_mem]
    constructor
    · rintro ⟨n, hn, e⟩
      exact ⟨n, sortU_mem.mpr hn, e⟩
    · rintro ⟨n, hn, e⟩
      exact ⟨n, sortU_mem.mp hn, e⟩
theorem el_sortedSA {l : List Nat} {a : Addr} {c : Nat} (h : Ev te σ H (.ref a)) (ha : H a = some (SetO w a (fun j => decide (j ∈ zs l)) c)) (hz : c < 64) : EvL (tCB (rSortedSet w) (tCons te tNil)) σ H (nv (sortU l)) := fun H1 e Q q =>
  h H1 e _ fun H2 e2 => by
    refine ⟨a, _, c, rfl, (e.trans e2) _ _ ha, hz, fun ns p h1 h2 h3 hp => q p _ (fresh_back e2 hp) (e2.trans (Ex.new hp)) ?_⟩
    rw [upd_same, int_asc h1 (sortU_asc l) fun k => ?_, ← iv_zs]
    rw [h2 k, decide_eq_true_iff, zs_mem, zs_mem]
    exact ⟨fun ⟨n, hn, e⟩ => ⟨n, sortU_mem.mpr hn, e⟩, fun ⟨n, hn, e⟩ => ⟨n, sortU_mem.mp hn, e⟩⟩
/-- a set under way: its members L, each below B -/
structure SetW (w : World) (D : Addr) (L : List Nat) (B : Nat) (H : Hp) : Prop where
  at_ : H D = some (SetO w D (fun j => decide (j ∈ zs L)) L.length)
  nd : L.Nodup
  lt : ∀ v ∈ L, v < B
theorem nodup_le {L : List Nat} {B : Nat} (h : L.Nodup) (hl : ∀ v ∈ L, v < B) : L.length ≤ B := by
  have : L.length ≤ (List.range B).length := h.length_le_of_subset fun x hx => List.mem_range.mpr (hl x hx)
  rwa [List.length_range] at this
theorem zs_app {L : List Nat} {k : Nat} (j : Int) : decide (j ∈ zs (L ++ [k])) = (decide (j ∈ zs L) || decide (j = (k : Int))) := by
  rw [Bool.eq_iff_iff, decide_eq_true_iff, Bool.or_eq_true, decide_eq_true_iff, decide_eq_true_iff]
  unfold zs
  rw [List.map_append, List.mem_append]
  simp
theorem setW_add {D : Addr} {L : List Nat} {B k : Nat} {H : Hp} (h : SetW w D L B H) (hk : k < B) :
    ∃ L', SetW w D L' B (upd H D (SetO w D (fun j => decide (j ∈ zs L) || decide (j = (k : Int))) (if decide ((k : Int) ∈ zs L) = true then L.length else L.length + 1))) ∧ ∀ v, v ∈ L' ↔ v ∈ L ∨ v = k := by
  by_cases hm : k ∈ L
  · refine ⟨L, ⟨?_, h.nd, h.lt⟩, fun v => ⟨.inl, fun q => q.elim id fun e => e ▸ hm⟩⟩
    rw [upd_same, mem_zs, decide_eq_true hm, if_pos rfl]
    congr 2
    funext j
    by_cases hj : j = (k : Int)
    · subst hj
      have h1 : decide ((k : Int) ∈ zs L) = true := mem_zs.trans (decide_eq_true hm)
      rw [h1] <;> rfl
    · simp [hj]
  · refine ⟨L ++ [k], ⟨?_, ?_, fun v hv => ?_⟩, fun v => by simp⟩
    · rw [upd_same, mem_zs, decide_eq_false hm, if_neg Bool.false_ne_true]
      have : (fun j => decide (j ∈ zs (L ++ [k]))) = fun j => (decide (j ∈ zs L) || decide (j = (k : Int))) := funext fun j => zs_app j
      rw [this]
      simp
    · rw [List.nodup_append]
      exact ⟨h.nd, by simp, fun a ha b hb e => hm (by rw [List.mem_singleton.mp hb] at e; exact e ▸ ha)⟩
    · rcases List.mem_append.mp hv with q | q
      · exact h.lt v q
      · rw [List.mem_singleton.mp q]; exact hk
/-- {val x y for x in range(m) for y in range(m)} -/
theorem es_S2 {ts : TA} {m B : Nat} {val : Nat → Nat → Nat} {l : List Nat} (sx : Nat → L2.St) (sy : Nat → Nat → L2.St) (hi : EvI wi σ H (nv (List.range m))) (hB : B ≤ 1000) (hm : m ≤ 1000) (hv : ∀ x y, x < m → y < m → val x y < B)
    (hl : ∀ v, v ∈ l ↔ ∃ x, x < m ∧ ∃ y, y < m ∧ val x y = v)
    (hg : ∀ x H1 (R : L2.St → Hp → Prop), R (sx x) H1 → g (.int (x : Nat)) (wipe σ vs) H1 R) (hw : ∀ x, wipe (sx x) vs = wipe σ vs)
    (hj : ∀ x, x < m → EvA ts (sx x) H [.int (m : Nat)]) (hgj : ∀ x y H1 (R : L2.St → Hp → Prop), R (sy x y) H1 → gj (.int (y : Nat)) (wipe (sx x) ws) H1 R) (hwj : ∀ x y, wipe (sy x y) ws = wipe (sx x) ws)
    (he : ∀ x y, x < m → y < m → Ev te (sy x y) H (.int (val x y : Nat))) : EvP (tS2 w wi g (iRng1 ts) gj te vs ws) σ H (isSetB w l B) := fun H0 e Q q => hi H0 e _ fun J H1 e1 W D hD => by
  have e01 := e.trans e1
  have nl : (nv (List.range m)).length = m := by rw [nv_len, List.length_range]
  have atv : ∀ i, i < m → (nv (List.range m))[i]? = some (.int (i : Nat)) := fun i hi => by
    rw [List.getElem?_map, List.getElem?_range hi]
    rfl
  refine ⟨fun i n H' => n = m - i ∧ i ≤ m ∧ H1 D = none ∧ Ex H1 H' ∧ ∃ L, SetW w D L B H' ∧ ∀ v, v ∈ L ↔ ∃ x, x < i ∧ ∃ y, y < m ∧ val x y = v,
    ⟨m, by simp, Nat.zero_le _, hD, Ex.new hD, [], ⟨by rw [upd_same]; congr 2, List.nodup_nil, fun v h => (by cases h)⟩, fun v => by simp⟩, ?_⟩
  rintro i n H' ⟨rfl, him, d0, d1, L, hL, hLm⟩
  by_cases hlt : i < m
  · refine .inr ⟨W.go i H' d1 (by rw [nl]; exact hlt), fun H'' => i + 1 ≤ m ∧ H1 D = none ∧ Ex H1 H'' ∧ ∃ L, SetW w D L B H'' ∧ ∀ v, v ∈ L ↔ ∃ x, x < i + 1 ∧ ∃ y, y < m ∧ val x y = v, fun H'' h => ⟨m - (i + 1), by omega, rfl, h⟩, fun v H'' y => ?_⟩
    obtain ⟨eH, ev⟩ := W.yld i H' v H'' d1 y (by rw [nl]; exact hlt)
    subst eH
    rw [atv i hlt] at ev
    cases ev
    refine hg i H'' _ ⟨hw i, hj i hlt H'' (e01.trans d1) _ fun H4 e4 => ⟨(m : Int), rfl, by omega, by omega, ?_⟩⟩
    rw [Int.toNat_natCast]
    have W1 : ∀ H', Walked (Itr 0 m) H' (nv (List.range m)) := fun H' => by
      have := walked_r (H := H') (lo := 0) (n := m)
      rw [upto0] at this
      exact this
    refine ⟨fun j k H5 => k = m - j ∧ j ≤ m ∧ Ex H1 H5 ∧ ∃ L, SetW w D L B H5 ∧ ∀ v, v ∈ L ↔ (∃ x, x < i ∧ ∃ y, y < m ∧ val x y = v) ∨ ∃ y, y < j ∧ val i y = v, ⟨m, by simp, Nat.zero_le _, d1.trans e4, L, ⟨e4 _ _ hL.at_, hL.nd, hL.lt⟩, fun v => by simpa using hLm v⟩, ?_⟩
    rintro j k H5 ⟨rfl, hjm, d2, L1, hL1, hLm1⟩
    by_cases hlt1 : j < m
    · refine .inr ⟨(W1 H5).go j H5 (Ex.refl _) (by rw [nl]; exact hlt1), fun H6 => j + 1 ≤ m ∧ Ex H1 H6 ∧ ∃ L, SetW w D L B H6 ∧ ∀ v, v ∈ L ↔ (∃ x, x < i ∧ ∃ y, y < m ∧ val x y = v) ∨ ∃ y, y < j + 1 ∧ val i y = v, fun H6 h => ⟨m - (j + 1), by omega, rfl, h⟩, fun v H6 y => ?_⟩
      obtain ⟨eH, ev⟩ := (W1 H5).yld j H5 v H6 (Ex.refl _) y (by rw [nl]; exact hlt1)
      subst eH
      rw [atv j hlt1] at ev
      cases ev
      refine hgj i j H6 _ ⟨hwj i j, he i j hlt hlt1 H6 (e01.trans d2) _ fun H7 e7 => ?_⟩
      have hL7 : SetW w D L1 B H7 := ⟨e7 _ _ hL1.at_, hL1.nd, hL1.lt⟩
      obtain ⟨L2, hL2, hm2⟩ := setW_add hL7 (hv i j hlt hlt1)
      refine ⟨(val i j : Nat), _, _, rfl, hL7.at_, ?_, by omega, Ex.mut (d2.trans e7) d0, L2, hL2, fun v => ?_⟩
      · have := nodup_le hL1.nd hL1.lt
        show L1.length + 1 < 4096
        omega
      · rw [hm2, hLm1]
        constructor
        · rintro ((h | ⟨y, hy, e⟩) | e)
          · exact .inl h
          · exact .inr ⟨y, by omega, e⟩
          · exact .inr ⟨j, by omega, e.symm⟩
        · rintro (h | ⟨y, hy, e⟩)
          · exact .inl (.inl h)
          · by_cases q : y = j
            · subst q
              exact .inr e.symm
            · exact .inl (.inr ⟨y, by omega, e⟩)
    · have ej : j = m := by omega
      subst ej
      refine .inl ⟨by have := (W1 H5).stop H5 (Ex.refl _); rwa [nl] at this, by omega, d0, d2, L1, hL1, fun v => ?_⟩
      rw [hLm1]
      constructor
      · rintro (⟨x, hx, h⟩ | ⟨y, hy, e⟩)
        · exact ⟨x, by omega, h⟩
        · exact ⟨i, by omega, y, hy, e⟩
      · rintro ⟨x, hx, y2, hy, e⟩
        by_cases q : x = i
        · subst q
          exact .inr ⟨y2, hy, e⟩
        · exact .inl ⟨x, by omega, y2, hy, e⟩
  · have ei : i = m := by omega
    subst ei
    refine .inl ⟨by have := W.stop H' d1; rwa [nl] at this, q H1 (.ref D) H' e1 d1 ⟨D, L.length, rfl, d0, ?_, nodup_le hL.nd hL.lt⟩⟩
    rw [hL.at_]
    congr 2
    funext j
    rw [Bool.eq_iff_iff, decide_eq_true_iff, decide_eq_true_iff, zs_mem, zs_mem]
    constructor
    · rintro ⟨n, hn, e⟩
      exact ⟨n, (hl n).mpr ((hLm n).mp hn), e⟩
    · rintro ⟨n, hn, e⟩
      exact ⟨n, (hLm n).mpr ((hl n).mp hn), e⟩
end
section
variable {P : Program} {w : World} {K : PySem.W.Frag} {mg : Str → Option Value} {base : Heap}
/-! ### rests_of -/
def valF (F : F3) (m x y : Nat) : Nat := (formI F x y % (m : Int)).toNat
def allF (F : F3) (m : Nat) : List Nat := (List.range m).flatMap fun x => (List.range m).map fun y => valF F m x y
def rsN (F : F3) (m : Nat) : List Nat := (sortU (allF F m)).filter fun r => Nat.gcd r m == 1
theorem allF_mem {F : F3} {m v : Nat} : v ∈ allF F m ↔ ∃ x, x < m ∧ ∃ y, y < m ∧ valF F m x y = v := by
  unfold allF
  rw [List.mem_flatMap]
  constructor
  · rintro ⟨x, hx, h⟩
    obtain ⟨y, hy, e⟩ := List.mem_map.mp h
    exact ⟨x, List.mem_range.mp hx, y, List.mem_range.mp hy, e⟩
  · rintro ⟨x, hx, y, hy, e⟩
    exact ⟨x, List.mem_range.mpr hx, List.mem_map.mpr ⟨y, List.mem_range.mpr hy, e⟩⟩
theorem valF_lt {F : F3} {m x y : Nat} (h : 0 < m) : valF F m x y < m := by
  unfold valF
  have h1 := Int.emod_nonneg (formI F x y) (show (m : Int) ≠ 0 by omega)
  have h2 := Int.emod_lt_of_pos (formI F x y) (show (0 : Int) < (m : Int) by omega)
  omega
theorem rsN_mem {F : F3} {m r : Nat} : r ∈ rsN F m ↔ r ∈ allF F m ∧ Nat.gcd r m = 1 := by
  unfold rsN
  rw [List.mem_filter, sortU_mem, beq_iff_eq]
theorem rsN_asc {F : F3} {m : Nat} : Asc (rsN F m) := (sortU_asc _).filter _
theorem rsN_un {F : F3} {m : Nat} (h : 0 < m) : ∀ r ∈ rsN F m, r ∈ unitsN m := fun r hr => by
  obtain ⟨h1, h2⟩ := rsN_mem.mp hr
  obtain ⟨x, _, y, _, e⟩ := allF_mem.mp h1
  exact unitsN_mem.mpr ⟨e ▸ valF_lt h, h2⟩
abbrev N_rests_of : List Str := ["form", "m", "found", "x", "y", "rest"]
theorem sc_rests_of : FnScope N_rests_of ["form", "m"] (defScope s_rests_of) := ⟨rfl, rfl, rfl, by decide +kernel, rfl, by decide +kernel, by decide +kernel⟩
def sp_rests_of (K : PySem.W.Frag) : Sp := mkSp (α := V × F3 × Nat) (fun a => [a.1, .int (a.2.2 : Nat)]) (fun a H => okF K a.1 a.2.1 H ∧ 0 < a.2.2 ∧ a.2.2 < 64) (fun a => isL (nv (rsN a.2.1 a.2.2)))
theorem ok_rests_of (T : Tx K mg base) : Cal P w K mg base 2 "rests_of" (sp_rests_of K) := by
  refine cal_of T.f_rests_of T.g_rests_of sc_rests_of (fun _ _ _ _ _ _ us hl => match us, hl with | [_, _], _ => rfl) (len_sp fun _ => rfl) any_sp ?_
  rintro f cdv A outer s H vs Q E hr ⟨⟨v, F, m⟩, rfl, ⟨h, m0, mb⟩, k⟩
  have m0 : 0 < m := m0
  have mb : m < 64 := mb
  have h : okF K v F H := h
  obtain ⟨a, dx, d, rfl, ha⟩ := id h
  refine ⟨_, pss_cons (ps_setS2 (i := 2) (own := [("x", 3), ("y", 4)]) (ws := [4]) (by rfl) sc_rests_of.nd rfl rfl (swS2 rfl rfl rfl (by decide +kernel)) (pi_range1 (by rfl) T.b_range (pa_cons (pv 1) pa_nil)) (blkOk_by (own := [("x", 3), ("y", 4)]) (N := N_rests_of) (sc := defScope s_rests_of) (by decide +kernel)) (by decide) (fun _ _ _ _ _ => pg_name (i := 3) sc_rests_of.nd rfl (Or.inl rfl)) (fun _ _ _ _ _ => pi_range1 (by rfl) T.b_range (pa_cons (pv 1) pa_nil)) (fun _ _ _ _ _ => pg_name (i := 4) sc_rests_of.nd rfl (Or.inl rfl)) (fun _ _ _ _ _ => pe_op op_mod (pe_callV (i := 0) T.call_Form (ok_form_call T) hr (by decide) rfl (by first | exact Or.inl rfl | exact Or.inr (Or.inl rfl) | exact Or.inr (Or.inr rfl)) (pa_cons (pv 3) (pa_cons (pv 4) pa_nil))) (pv 1)))
      (pss_one (ps_ret (pe_lc (own := [("rest", 5)]) (g := gName 5) (by rfl) sc_rests_of.nd (pi_list (pe_callB (cr_sortedSet rfl) (by rfl) T.b_sorted (by decide +kernel) (pa_cons (pv 2) pa_nil))) (blkOk_by (own := [("rest", 5)]) (N := N_rests_of) (sc := defScope s_rests_of) (by decide +kernel)) (fun _ _ _ _ _ => pg_name (i := 5) sc_rests_of.nd rfl (Or.inl rfl)) (fun _ _ _ _ _ => pts_one (pt_cmpR op_eq (pe_c (ok_common T) hr (by decide) (by rfl) (pa_cons (pv 5) (pa_cons (pv 1) pa_nil))) pe_int (nomark _))) (fun _ _ _ _ _ => pv 5)))), ?_⟩
  refine q_asgP (i := 2) (P := isSetB w (allF F m) m) ?_ fun H0 v H1 e0 e1 hs => ?_
  · refine es_S2 (val := valF F m) (fun x => [some (.ref a), some (.int (m : Nat)), none, some (.int (x : Nat)), none, none]) (fun x y => [some (.ref a), some (.int (m : Nat)), none, some (.int (x : Nat)), some (.int (y : Nat)), none]) (ei_n (ea_cons (ev_var rfl) ea_nil) (by omega)) (by omega) (by omega) (fun x y _ _ => valF_lt m0) (fun v => allF_mem) (fun x H1 R hR => hR) (fun x => rfl) (fun x _ => ea_cons (ev_var rfl) ea_nil) (fun x y H1 R hR => hR) (fun x y => rfl) ?_
    intro x y hx hy
    have x20 : x < 2 ^ 20 := by omega
    have y20 : y < 2 ^ 20 := by omega
    have nn := Int.emod_nonneg (formI F x y) (show (m : Int) ≠ 0 by omega)
    refine ev_eqI (ev_op (x := .int (formI F x y)) ?_ (ev_var rfl) (rv_I (cmod m0))) (Int.toNat_of_nonneg nn).symm
    intro H1 e1 Q' q'
    refine ⟨a, rfl, ea2 (ev_var rfl) (ev_var rfl) H1 e1 _ fun H2 e2 => ⟨.inr ⟨dx, _, (e1.trans e2) _ _ ha⟩, (.ref a, F, x, y), rfl, ⟨h.ex (e1.trans e2), x20, y20⟩, fun H3 z H4 e3 e4 hz => ?_⟩⟩
    cases (show z = .int (formI F x y) from hz)
    exact q' H4 (e2.trans (e3.trans e4))
  obtain ⟨b, c, rfl, b0, hb, hc⟩ := hs
  refine s_retP (P := isL (nv (rsN F m))) (el_p ?_) (k.mono (e0.trans e1))
  refine el_lcV (l := sortU (allF F m)) (ok := okv fun n : Nat => V.int n) (w := fun n : Nat => V.int n) (fun r => Nat.gcd r m == 1) (fun _ x => [some (.ref a), some (.int (m : Nat)), some (.ref b), none, none, some (.int (x : Nat))]) (eis_v (ei_lp (el_p (el_sortedSA (ev_var rfl) hb (by omega))))) mono_okv ?_ ?_ (fun _ _ _ _ _ => rfl) ?_ (fun x _ _ v H1 _ _ => ev_var rfl)
  · have : (sortU (allF F m)).length ≤ m := asc_len (sortU_asc _) fun x hx => by
      obtain ⟨x1, _, y, _, e⟩ := allF_mem.mp (sortU_mem.mp hx)
      exact e ▸ valF_lt m0
    omega
  · rintro x - v H1 - rfl R hR
    exact hR H1 (Ex.refl H1)
  · intro x _ v H1 e1 _
    exact et_is (et_test (ev_op (p_ev (ev_cal (ea2 (ev_var rfl) (ev_var rfl)) (sp_mk' ((x : Int), (m : Int)) rfl fun _ _ => trivial))) ev_c (rv_eq rfl))) (dec_ii (Nat.gcd x m) 1)
end
end EP
end

section
set_option Elab.async false
set_option linter.all false
set_option maxRecDepth 100000
set_option maxHeartbeats 4000000
/-! D11: reduced_forms, neighbour, form_primes. -/
namespace EP
open PySem PySem.Spec PyProof.Rows L2 Evl
section
variable {K : PySem.W.Frag} {σ : L2.St} {H : Hp} {ta te : TE} {ts : TA} {tu tz : TS} {D : Ends} {P : VP}
/-- l.append(e), e by what is known of it -/
theorem s_appP {l : Addr} {xs : List V} (hl : H l = some (.lst xs)) (ha : Ev ta σ H (.ref l)) (h : EvP te σ H P) (hz : xs.length < 100000) (k : ∀ H0 v H1, Ex H H0 → Ex H0 H1 → P H0 v H1 → D.nx σ (upd H1 l (.lst (xs ++ [v])))) :
    tDrop (tBM K "list" rAppend ta (tCons te tNil)) D σ H := ha H (Ex.refl H) _ fun H1 e1 =>
  ⟨Or.inl ⟨rfl, xs, sq_of (e1 l _ hl)⟩, h H1 e1 _ fun H0 v H2 e0 e2 p => ⟨l, xs, v, rfl, rfl, (e0.trans e2) l _ (e1 l _ hl), sz_lt hz, k H0 v H2 (e1.trans e0) e2 p⟩⟩
theorem s_forR {j : Nat} {lo n : Int} (h : EvA ts σ H [.int lo, .int n]) (hn : -100000 ≤ lo ∧ lo ≤ 100000 ∧ -100000 ≤ n ∧ n ≤ 100000) (Pv : Nat → L2.St → Hp → Prop) (h0 : ∀ H1, Ex H H1 → Pv 0 σ H1)
    (hs : ∀ (i : Nat) σ' H', lo + (i : Int) < n → Pv i σ' H' → tu { D with nx := Pv (i + 1), ct := Pv (i + 1), bk := D.nx } (σ'.set j (some (.int (lo + (i : Int))))) H') (hd : ∀ σ' H', Pv (n - lo).toNat σ' H' → D.nx σ' H') : tFor (iRng2 ts) (gName j) tu D σ H :=
  h H (Ex.refl H) _ fun H1 e => ⟨lo, n, rfl, ⟨by omega, by omega, by omega, by omega⟩, for_range (lo := lo) (n := (n - lo).toNat) Pv (h0 H1 e) (fun i σ' H' hi p => hs i σ' H' (by omega) p) hd⟩
theorem q_forR {j : Nat} {lo n : Int} (h : EvA ts σ H [.int lo, .int n]) (hn : -100000 ≤ lo ∧ lo ≤ 100000 ∧ -100000 ≤ n ∧ n ≤ 100000) (Pv : Nat → L2.St → Hp → Prop) (h0 : ∀ H1, Ex H H1 → Pv 0 σ H1)
    (hs : ∀ (i : Nat) σ' H', lo + (i : Int) < n → Pv i σ' H' → tu { D with nx := Pv (i + 1), ct := Pv (i + 1), bk := tz D } (σ'.set j (some (.int (lo + (i : Int))))) H') (hd : ∀ σ' H', Pv (n - lo).toNat σ' H' → tz D σ' H') : tSeq (tFor (iRng2 ts) (gName j) tu) tz D σ H :=
  s_forR (D := { D with nx := tz D }) h hn Pv h0 hs hd
end
section
variable {P : Program} {w : World} {K : PySem.W.Frag} {mg : Str → Option Value} {base : Heap}
def cF (n a : Nat) (b : Int) : Int := (b * b + 4 * (n : Int)) / (4 * (a : Int))
def fitF (n a : Nat) (b : Int) : Bool := decide ((a : Int) < cF n a b) || (decide (cF n a b = (a : Int)) && decide (0 ≤ b))
def takeF (n a : Nat) (b : Int) : Bool := decide ((b * b + 4 * (n : Int)) % (4 * (a : Int)) = 0) && (fitF n a b && decide (Nat.gcd (Nat.gcd a b.natAbs) (cF n a b).natAbs = 1))
def rowF (n a k : Nat) : List F3 := ((List.range k).filter fun i : Nat => takeF n a (1 - (a : Int) + (i : Int))).map fun i : Nat => ((a : Int), 1 - (a : Int) + (i : Int), cF n a (1 - (a : Int) + (i : Int)))
def redFrom : Nat → Nat → Nat → List F3
  | 0, _, _ => []
  | f + 1, n, a => if 3 * a * a ≤ 4 * n then rowF n a (2 * a) ++ redFrom f n (a + 1) else []
def redN (n : Nat) : List F3 := redFrom (4 * n) n 1
theorem redFrom_no {f n a : Nat} (h : ¬ 3 * a * a ≤ 4 * n) : redFrom f n a = [] := by
  cases f with
  | zero => rfl
  | succ f => rw [redFrom, if_neg h]
theorem rowF_snoc {n a i : Nat} : rowF n a (i + 1) = rowF n a i ++ if takeF n a (1 - (a : Int) + (i : Int)) = true then [((a : Int), 1 - (a : Int) + (i : Int), cF n a (1 - (a : Int) + (i : Int)))] else [] := by
  unfold rowF
  rw [List.range_succ, List.filter_append, List.map_append, List.filter_cons]
  split <;> rfl
theorem fok_of {n a : Nat} {b : Int} (a1 : 1 ≤ a) (n1 : 0 < n) (nb : n < 2 ^ 10) (ha : 3 * a * a ≤ 4 * n) (hb : b.natAbs ≤ a) (hm : (b * b + 4 * (n : Int)) % (4 * (a : Int)) = 0) : FOk ((a : Int), b, cF n a b) := by
  have e1 : 4 * (a : Int) * cF n a b = b * b + 4 * (n : Int) := Int.mul_ediv_cancel' (Int.dvd_of_emod_eq_zero hm)
  have aa : a * a ≤ 4 * n := by
    have : a * a ≤ 3 * a * a := Nat.mul_le_mul_right a (by omega)
    omega
  have al : a ≤ a * a := by
    have := Nat.mul_le_mul_left a a1
    omega
  have bb : b * b = ((b.natAbs * b.natAbs : Nat) : Int) := by
    rw [Int.natCast_mul, Int.natAbs_mul_self']
  have bn : b.natAbs * b.natAbs ≤ a * a := Nat.mul_le_mul hb hb
  have c0 : 0 ≤ cF n a b := Int.ediv_nonneg (by omega) (by omega)
  have c1 : cF n a b ≤ b * b + 4 * (n : Int) := by
    unfold cF
    exact Int.ediv_le_self _ (by omega)
  refine ⟨by show (1 : Int) ≤ (a : Int); omega, by show (a : Int) < 2 ^ 20; omega, by show b.natAbs < 2 ^ 20; omega, by show (cF n a b).natAbs < 2 ^ 20; omega, ?_⟩
  show b * b - 4 * (a : Int) * cF n a b < 0
  omega
abbrev N_reduced_forms : List Str := ["discriminant", "found", "a", "b", "c", "fits"]
theorem sc_reduced_forms : FnScope N_reduced_forms ["discriminant"] (defScope s_reduced_forms) := ⟨rfl, rfl, rfl, by decide +kernel, rfl, by decide +kernel, by decide +kernel⟩
def sp_reduced_forms (K : PySem.W.Frag) : Sp := mkSp (α := Nat) (fun n => [.int (-4 * (n : Int))]) (fun n _ => 0 < n ∧ n < 2 ^ 10) (fun n => isLs (okF K) (redN n))
theorem ok_reduced_forms (T : Tx K mg base) : Cal P w K mg base 3 "reduced_forms" (sp_reduced_forms K) := by
  refine cal_of T.f_reduced_forms T.g_reduced_forms sc_reduced_forms (fun _ _ _ _ _ _ us hl => match us, hl with | [_], _ => rfl) (len_sp fun _ => rfl) any_sp ?_
  rintro f cdv A outer s H vs Q E hr ⟨n, rfl, ⟨n0, nb⟩, k⟩
  have n0 : 0 < n := n0
  have nb : n < 2 ^ 10 := nb
  refine ⟨_, pss_cons (ps_set (i := 1) sc_reduced_forms.nd rfl (Or.inl rfl) (pe_lst pa_nil))
      (pss_cons (ps_if (PW.pt (pw_or (pt_cmpR op_ge (pv 0) pe_int (nomark _)) (pw_or1 (pt_cmpR (op_in_seqk K rfl) (pe_op op_mod (pv 0) pe_int) (pe_tup (pa_cons pe_int (pa_cons pe_int pa_nil))) (by rfl))))) (pss_one (ps_ret (pv 1))) (pss_nil))
      (pss_cons (ps_set (i := 2) sc_reduced_forms.nd rfl (Or.inl rfl) pe_int)
      (pss_cons (ps_while PassesOwn.never (pt_cmpR op_le (pe_op op_mul (pe_op op_mul pe_int (pv 2)) (pv 2)) (pe_un un_neg (pv 0)) (nomark _)) (pss_cons (ps_for PassesOwn.never rfl (pi_range2 (by rfl) T.b_range (pa_cons (pe_op op_sub pe_int (pv 2)) (pa_cons (pe_op op_add (pv 2) pe_int) pa_nil))) (pg_name (i := 3) sc_reduced_forms.nd rfl (Or.inl rfl)) (pss_one (ps_if (pt_cmpR op_eq (pe_op op_mod (pe_op op_sub (pe_op op_mul (pv 3) (pv 3)) (pv 0)) (pe_op op_mul pe_int (pv 2))) pe_int (nomark _)) (pss_cons (ps_set (i := 4) sc_reduced_forms.nd rfl (Or.inl rfl) (pe_op op_fdiv (pe_op op_sub (pe_op op_mul (pv 3) (pv 3)) (pv 0)) (pe_op op_mul pe_int (pv 2))))
            (pss_cons (ps_set (i := 5) sc_reduced_forms.nd rfl (Or.inl rfl) (pe_or (pe_cmpR op_gt (pv 4) (pv 2) (nomark _)) (pe_one (pe_and (pe_cmpR op_eq (pv 4) (pv 2) (nomark _)) (pe_one (pe_cmpR op_ge (pv 3) pe_int (nomark _)))))))
            (pss_one (ps_if (PW.pt (pw_and (pt_val (pv 5)) (pw_and1 (pt_cmpR op_eq (pe_c (ok_common T) hr (by decide) (by rfl) (pa_cons (pe_c (ok_common T) hr (by decide) (by rfl) (pa_cons (pv 2) (pa_cons (pv 3) pa_nil))) (pa_cons (pv 4) pa_nil))) pe_int (nomark _))))) (pss_one (ps_expr (pe_bm PySem.F.plainAttrs_list PySem.F.slot_list_append PySem.F.type_list_append mt_append (pv 1) (pa_cons (pe_mk (ok_form_init T) hr (by decide) (by rfl) (pa_cons (pv 2) (pa_cons (pv 3) (pa_cons (pv 4) pa_nil)))) pa_nil)))) (pss_nil))))) (pss_nil))))
        (pss_one (ps_aug (i := 2) sc_reduced_forms.nd rfl (Or.inl rfl) pe_int ip_add))))
      (pss_one (ps_ret (pv 1)))))), ?_⟩
  refine q_asgL (i := 1) (el_lst ea_nil (by simp)) fun l H1 l0 e1 hl => ?_
  refine q_when (b := false) (et_or (a := false) (b := false) (et_is (et_test (ev_op (ev_var rfl) ev_c rv_I0)) (decide_eq_false (by omega))) fun _ => et_is (et_test (ev_inU (ev_op (ev_var rfl) ev_c (rv_I (show (0:Int) < 4 by decide))) (eu2 ev_c ev_c) rfl rfl)) ?_) (fun c => absurd c (by decide)) (fun _ H2 e2 => ?_)
  · have : (-4 * (n : Int)) % 4 = 0 := by omega
    rw [this]
    rfl
  refine q_asg (i := 2) ev_c fun H3 e3 => ?_
  refine q_while (fun g σ' H' => ∃ (a : Nat) (dn : List F3) (xs : List V) (o3 o4 o5 : Option V), σ' = [some (.int (-4 * (n : Int))), some (.ref l), some (.int (a : Nat)), o3, o4, o5] ∧ Ex H H' ∧ H' l = some (.lst xs) ∧ Els (okF K) xs dn H' ∧ 1 ≤ a ∧ a ≤ 4 * n + 1 ∧ 4 * n < a + g ∧ dn.length ≤ 2 * a * a ∧ dn ++ redFrom g n a = redN n) (4 * n)
    ⟨1, [], [], none, none, none, rfl, e1.trans (e2.trans e3), (e2.trans e3) _ _ hl, Els.nil, by omega, by omega, by omega, by simp, rfl⟩ ?_
  rintro g σ' H' ⟨a, dn, xs, o3, o4, o5, rfl, ex, hl', hx, a1, ab, hg, hdl, hf⟩
  have a64 : -(2 ^ 64) < ((a : Nat) : Int) ∧ ((a : Nat) : Int) < 2 ^ 64 := by omega
  refine ⟨decide (3 * a * a ≤ 4 * n), et_is (et_test (ev_op (ev_eqI (ev_op (ev_op ev_c (ev_var rfl) (rv_I (cm1 (by decide)))) (ev_var rfl) (rv_I (cm2 a64))) (m := ((3 * a * a : Nat) : Int)) (by rw [← mul_nat, ← mul_nat]; rfl)) (ev_eqI (ev_un (ev_var rfl) ru_neg) (m := ((4 * n : Nat) : Int)) (by omega)) rv_I0)) (decide_eq_decide.mpr Int.ofNat_le), fun c H4 e4 => ⟨fun σ2 H2 => ∃ g', g' < g ∧ _, fun _ _ h => h, ?_⟩, fun c H4 e4 => ?_⟩
  · have c : 3 * a * a ≤ 4 * n := of_decide_eq_true c
    have aa : a ≤ a * a := by
      have := Nat.mul_le_mul_left a a1
      omega
    have a3 : a * a ≤ 3 * a * a := Nat.mul_le_mul_right a (by omega)
    obtain ⟨g, rfl⟩ : ∃ x, g = x + 1 := ⟨g - 1, by omega⟩
    rw [redFrom, if_pos c] at hf
    refine q_forR (lo := 1 - (a : Int)) (n := (a : Int) + 1) (ea2 (ev_op ev_c (ev_var rfl) rv_I0) (ev_op (ev_var rfl) ev_c rv_I0)) (by omega) (fun i σ' H' => ∃ (xs : List V) (o3 o4 o5 : Option V), σ' = [some (.int (-4 * (n : Int))), some (.ref l), some (.int (a : Nat)), o3, o4, o5] ∧ Ex H H' ∧ H' l = some (.lst xs) ∧ Els (okF K) xs (dn ++ rowF n a i) H' ∧ i ≤ 2 * a)
      (fun H5 e5 => ⟨xs, o3, o4, o5, rfl, ex.trans (e4.trans e5), (e4.trans e5) _ _ hl', by rw [show rowF n a 0 = [] from rfl, List.append_nil]; exact hx.ex mono_okF (Ex.toF (e4.trans e5)), by omega⟩) ?_ ?_
    · rintro i σ' H5 hi ⟨xs, o3, o4, o5, rfl, ex5, hl5, hx5, hi2⟩
      have hi : i < 2 * a := by omega
      have sn := rowF_snoc (n := n) (a := a) (i := i)
      have hbn : (1 - (a : Int) + (i : Int)).natAbs ≤ a := by omega
      generalize 1 - (a : Int) + (i : Int) = b at sn hbn
      have bb64 : CMul b b := cm1 (by omega)
      have xl : xs.length ≤ 100000 - 1 := by
        have h1 : (rowF n a i).length ≤ i := by
          unfold rowF
          rw [List.length_map]
          have := List.length_filter_le (fun i : Nat => takeF n a (1 - (a : Int) + (i : Int))) (List.range i)
          rw [List.length_range] at this
          exact this
        have h2 := hx5.1
        rw [List.length_append] at h2
        have h3 : 2 * a * a = 2 * (a * a) := Nat.mul_assoc 2 a a
        omega
      have nxt : ∀ σ2 H6, (∃ o3 o4 o5, σ2 = [some (.int (-4 * (n : Int))), some (.ref l), some (.int (a : Nat)), o3, o4, o5]) → Ex H5 H6 → takeF n a b = false → ∃ (xs : List V) (o3 o4 o5 : Option V), σ2 = [some (.int (-4 * (n : Int))), some (.ref l), some (.int (a : Nat)), o3, o4, o5] ∧ Ex H H6 ∧ H6 l = some (.lst xs) ∧ Els (okF K) xs (dn ++ rowF n a (i + 1)) H6 ∧ i + 1 ≤ 2 * a := fun σ2 H6 ⟨o3, o4, o5, hσ⟩ e6 ht => by
        rw [sn, ht, if_neg Bool.false_ne_true, List.append_nil]
        exact ⟨xs, o3, o4, o5, hσ, ex5.trans e6, e6 _ _ hl5, hx5.ex mono_okF (Ex.toF e6), by omega⟩
      have en : b * b - -4 * (n : Int) = b * b + 4 * (n : Int) := by omega
      have eb : Ev (tOp (rI0 fun i j => V.int (i - j)) (tOp (rI CMul fun i j => V.int (i * j)) (tVar 3) (tVar 3)) (tVar 0)) [some (.int (-4 * (n : Int))), some (.ref l), some (.int (a : Nat)), some (.int b), o4, o5] H5 (.int (b * b + 4 * (n : Int))) := ev_eqI (ev_op (ev_op (ev_var rfl) (ev_var rfl) (rv_I bb64)) (ev_var rfl) rv_I0) en
      have e4a : Ev (tOp (rI CMul fun i j => V.int (i * j)) (tC (V.int 4)) (tVar 2)) [some (.int (-4 * (n : Int))), some (.ref l), some (.int (a : Nat)), some (.int b), o4, o5] H5 (.int (4 * (a : Int))) := ev_op ev_c (ev_var rfl) (rv_I (cm1 (by decide)))
      refine s_when (b := decide ((b * b + 4 * (n : Int)) % (4 * (a : Int)) = 0)) (et_is (et_test (ev_op (ev_op eb e4a (rv_I (show (0:Int) < 4 * (a : Int) by omega))) ev_c (rv_eq rfl))) (decide_eq_decide.mpr ⟨fun h => V.int.inj h, fun h => by rw [h]⟩)) (fun c1 H6 e6 => ?_) (fun c1 H6 e6 => nxt _ _ ⟨_, _, _, rfl⟩ e6 (by unfold takeF; rw [c1] <;> rfl))
      have hm := of_decide_eq_true c1
      refine q_asg (i := 4) (ev_op (eb.mono e6) (e4a.mono e6) (rv_I ⟨by omega, by omega⟩)) fun H7 e7 => ?_
      refine q_asg (i := 5) (v := .bl (fitF n a b)) (ev_orV (ev_op (ev_var rfl) (ev_var rfl) rv_I0) fun _ => ev_andV (ev_eqB (ev_op (ev_var rfl) (ev_var rfl) (rv_eq rfl)) (decide_eq_decide.mpr ⟨fun h => V.int.inj h, fun h => congrArg V.int h⟩)) fun _ => ev_op (ev_var rfl) ev_c rv_I0) fun H8 e8 => ?_
      have e58 := e6.trans (e7.trans e8)
      refine s_when (b := fitF n a b && decide (Nat.gcd (Nat.gcd a b.natAbs) (cF n a b).natAbs = 1)) (et_and (et_test (ev_var rfl)) fun _ => et_is (et_test (ev_op (p_ev (ev_cal (ea2 (p_ev (ev_cal (ea2 (ev_var rfl) (ev_var rfl)) (sp_mk' ((a : Int), b) rfl fun _ _ => trivial))) (ev_var rfl)) (sp_mk' (((Nat.gcd a b.natAbs : Nat) : Int), cF n a b) rfl fun _ _ => trivial))) ev_c (rv_eq rfl))) (dec_ii _ 1)) (fun c2 H9 e9 => ?_) (fun c2 H9 e9 => nxt _ _ ⟨_, _, _, rfl⟩ (e58.trans e9) (by unfold takeF; rw [c2, Bool.and_false]))
      have ht : takeF n a b = true := by
        unfold takeF
        rw [c1, c2] <;> rfl
      have e59 := e58.trans e9
      refine s_appP (e59 _ _ hl5) (ev_var rfl) (ev_mk (P := isF K ((a : Int), b, cF n a b)) (ea_cons (ev_var rfl) (ea_cons (ev_var rfl) (ea_cons (ev_var rfl) ea_nil))) (mk_mk ((a : Int), b, cF n a b) rfl fun _ _ => fok_of a1 n0 nb c hbn hm)) (by omega) fun H0 v H10 e0 e10 hv => ?_
      have e5a := e59.trans (e0.trans e10)
      have hl10 := e5a _ _ hl5
      have ef : ExF H10 (upd H10 l (.lst (xs ++ [v]))) := ExF.put hl10 rfl
      refine ⟨xs ++ [v], _, _, _, rfl, Ex.mut (ex5.trans e5a) l0, upd_same, ?_, by omega⟩
      rw [sn, if_pos ht, ← List.append_assoc]
      exact ((hx5.ex mono_okF (Ex.toF e5a)).ex mono_okF ef).snoc (mono_okF _ _ _ _ ef hv)
    · rintro σ' H5 ⟨xs, o3, o4, o5, rfl, ex5, hl5, hx5, -⟩
      have e2a : ((a : Int) + 1 - (1 - (a : Int))).toNat = 2 * a := by omega
      rw [e2a] at hx5
      refine s_aug rfl ev_c fun H6 e6 => ⟨g, Nat.lt_succ_self g, a + 1, dn ++ rowF n a (2 * a), xs, o3, o4, o5, rfl, ex5.trans e6, e6 _ _ hl5, hx5.ex mono_okF (Ex.toF e6), by omega, by omega, by omega, ?_, by rw [List.append_assoc]; exact hf⟩
      have h1 : (rowF n a (2 * a)).length ≤ 2 * a := by
        unfold rowF
        rw [List.length_map]
        have := List.length_filter_le (fun i : Nat => takeF n a (1 - (a : Int) + (i : Int))) (List.range (2 * a))
        rw [List.length_range] at this
        exact this
      rw [List.length_append]
      have h3 : 2 * (a + 1) * (a + 1) = 2 * a * a + 4 * a + 2 := by
        have h4 : 2 * (a + 1) * (a + 1) = (2 * a + 2) * (a + 1) := by rw [show 2 * (a + 1) = 2 * a + 2 from by omega]
        rw [h4, Nat.add_mul, Nat.mul_add, Nat.mul_add]
        omega
      omega
  · have c : ¬ 3 * a * a ≤ 4 * n := of_decide_eq_false c
    rw [redFrom_no c, List.append_nil] at hf
    refine s_ret (ev_var rfl) fun H5 e5 => k.go (ex.trans (e4.trans e5)) ⟨l, xs, rfl, l0, (e4.trans e5) _ _ hl', ?_⟩
    show Els (okF K) xs (redN n) H5
    rw [← hf]
    exact hx.ex mono_okF (Ex.toF (e4.trans e5))

/-! ### neighbour: none -/
structure FmOk (n : Nat) : Prop where
  pos : 0 < n
  le : n < 16
  far : ∀ F ∈ redN n, F = ((1 : Int), (0 : Int), (n : Int)) ∨ (rsN F (4 * n)).any (fun r => decide (r ∈ rsN (1, 0, (n : Int)) (4 * n))) = false
theorem fok1 {n : Nat} (h : 0 < n) (hb : n < 16) : FOk ((1 : Int), (0 : Int), (n : Int)) := ⟨by show (1 : Int) ≤ 1; decide, by show (1 : Int) < 2 ^ 20; decide, by show (0 : Int).natAbs < 2 ^ 20; decide, by show (n : Int).natAbs < 2 ^ 20; omega, by show (0 : Int) * 0 - 4 * 1 * (n : Int) < 0; omega⟩
/-- Form(1, 0, n) -/
theorem ev_form1 {σ : L2.St} {H : Hp} {t1 t2 t3 : TE} {n : Nat} (h1 : Ev t1 σ H (.int 1)) (h2 : Ev t2 σ H (.int 0)) (h3 : Ev t3 σ H (.int (n : Nat))) (n0 : 0 < n) (nb : n < 16) :
    EvP (StX.tMakeR (He.ga K "Form") (sp_form_init K) E0 (tCons t1 (tCons t2 (tCons t3 tNil)))) σ H (isF K (1, 0, (n : Int))) := ev_mk (ea_cons h1 (ea_cons h2 (ea_cons h3 ea_nil))) (mk_mk (1, 0, (n : Int)) rfl fun _ _ => fok1 n0 nb)
/-- rests_of(Form(1, 0, n), 4 n) -/
theorem ev_known {σ : L2.St} {H : Hp} {t1 t2 : TE} {n : Nat} (h1 : EvP t1 σ H (isF K (1, 0, (n : Int)))) (h2 : ∀ H1, Ex H H1 → Ev t2 σ H1 (.int (4 * n : Nat))) (n0 : 0 < n) (nb : n < 16) : EvP (tCalR (sp_rests_of K) (tCons t1 (tCons t2 tNil))) σ H (isL (nv (rsN (1, 0, (n : Int)) (4 * n)))) :=
  ev_calP (PA := fun us H1 => ∃ v, us = [v, .int (4 * n : Nat)] ∧ okF K v (1, 0, (n : Int)) H1) (eap_cons h1 fun H0 v H1 e0 e1 hv => eap_consV (h2 H1 (e0.trans e1)) (eap_nil fun H2 e2 => ⟨v, rfl, hv.ex e2⟩)) fun us H1 e1 ⟨v, eu, hv⟩ => sp_mk' (v, (1, 0, (n : Int)), 4 * n) eu fun H2 e2 => ⟨hv.ex e2, by show 0 < 4 * n; omega, by show 4 * n < 64; omega⟩
abbrev N_neighbour : List Str := ["n", "known", "form", "rest"]
theorem sc_neighbour : FnScope N_neighbour ["n"] (defScope s_neighbour) := ⟨rfl, rfl, rfl, by decide +kernel, rfl, by decide +kernel, by decide +kernel⟩
def sp_neighbour : Sp := mkSp (α := Nat) (fun n => [.int (n : Nat)]) (fun n _ => FmOk n) (fun n => isV .non)
theorem ok_neighbour (T : Tx K mg base) : Cal P w K mg base 4 "neighbour" sp_neighbour := by
  refine cal_of T.f_neighbour T.g_neighbour sc_neighbour (fun _ _ _ _ _ _ us hl => match us, hl with | [_], _ => rfl) (len_sp fun _ => rfl) any_sp ?_
  rintro f cdv A outer s H vs Q E hr ⟨n, rfl, ho, k⟩
  have ho : FmOk n := ho
  have n0 := ho.pos
  have nb := ho.le
  refine ⟨_, pss_cons (ps_set (i := 1) sc_neighbour.nd rfl (Or.inr rfl) (pe_c (ok_rests_of T) hr (by decide) (by rfl) (pa_cons (pe_mk (ok_form_init T) hr (by decide) (by rfl) (pa_cons pe_int (pa_cons pe_int (pa_cons (pv 0) pa_nil)))) (pa_cons (pe_op op_mul pe_int (pv 0)) pa_nil))))
      (pss_cons (ps_for PassesOwn.never rfl (pi_list (pe_c (ok_reduced_forms T) hr (by decide) (by rfl) (pa_cons (pe_op op_mul (pe_un un_neg pe_int) (pv 0)) pa_nil))) (pg_name (i := 2) sc_neighbour.nd rfl (Or.inl rfl)) (pss_one (ps_if (PW.pt (pw_and (pt_not (pt_cmpR (op_eqOwn (ok_form_eq T) hr (by decide)) (pv 2) (pe_mk (ok_form_init T) hr (by decide) (by rfl) (pa_cons pe_int (pa_cons pe_int (pa_cons (pv 0) pa_nil)))) (nomark _))) (pw_and1 (pt_val (pe_callB (cr_any rfl) (by rfl) T.b_any (by decide +kernel) (pa_cons (pe_lc (own := [("rest", 3)]) (g := gName 3) (by rfl) sc_neighbour.nd (pi_list (pe_c (ok_rests_of T) hr (by decide) (by rfl) (pa_cons (pv 2) (pa_cons (pe_op op_mul pe_int (pv 0)) pa_nil)))) (blkOk_by (own := [("rest", 3)]) (N := N_neighbour) (sc := defScope s_neighbour) (by decide +kernel)) (fun _ _ _ _ _ => pg_name (i := 3) sc_neighbour.nd rfl (Or.inl rfl)) (fun _ _ _ _ _ => pts_nil) (fun _ _ _ _ _ => pe_cmpR (op_inCk K rfl (hu_of hr)) (pv 3) (pv 1) (by rfl))) pa_nil)))))) (pss_one (ps_ret (pv 2))) (pss_nil))))
      (pss_one (ps_ret pe_non))), ?_⟩
  have e4 : ∀ {σ : L2.St} {H1 : Hp} {t : TE}, Ev t σ H1 (.int (n : Nat)) → Ev (tOp (rI CMul fun i j => V.int (i * j)) (tC (V.int 4)) t) σ H1 (.int (4 * n : Nat)) := fun h => ev_eqI (ev_op ev_c h (rv_I (cm1 (by decide)))) (mul_nat 4 n)
  refine q_asgP (i := 1) (ev_known (ev_form1 ev_c ev_c (ev_var rfl) n0 nb) (fun _ _ => e4 (ev_var rfl)) n0 nb) fun H0 v H1 e0 e1 ⟨kn, ev, _, hkn⟩ => ?_
  subst ev
  refine q_forN (ev_cal (ea_cons (ev_eqI (ev_op (ev_un ev_c ru_neg) (ev_var rfl) (rv_I (cm1 (by decide)))) (m := -4 * (n : Int)) rfl) ea_nil) (sp_mk' n rfl fun _ _ => ⟨n0, by show n < 2 ^ 10; omega⟩)) fun H2 v H3 e2 e3 ⟨a, xs, ev, a0, hxs, hel⟩ => ⟨a, xs, ev, hxs, ?_⟩
  have hkn3 := (e2.trans e3) _ _ hkn
  have e03 : Ex H H3 := e0.trans (e1.trans (e2.trans e3))
  refine ⟨fun i σ' H' => ∃ o, σ' = [some (.int (n : Nat)), some (.ref kn), o, none] ∧ Ex H3 H', ⟨none, rfl, Ex.refl _⟩, fun i σ' H' _ ⟨_, _, e⟩ => e _ _ hxs, ?_, fun σ' H' ⟨o, hσ, ex⟩ => by subst hσ; exact s_ret ev_c fun H5 e5 => gives_v k (e03.trans (ex.trans e5))⟩
  rintro i x σ' H' hx ⟨o, rfl, ex⟩
  have hi : i < (redN n).length := by
    rw [← hel.1]
    exact (List.getElem?_eq_some_iff.mp hx).1
  have hfi : (redN n)[i]? = some (redN n)[i] := List.getElem?_eq_getElem hi
  generalize (redN n)[i] = F at hfi
  obtain ⟨v, hv, okh⟩ := hel.2 i F hfi
  rw [hx] at hv
  cases hv
  have okx : okF K x F H' := okF.ex ex okh
  refine s_when (b := false) (et_is (et_and (a := !decide (F = ((1 : Int), (0 : Int), (n : Int)))) (b := (rsN F (4 * n)).any fun r => decide (r ∈ rsN (1, 0, (n : Int)) (4 * n))) (et_not (et_test ?_)) fun _ => et_test ?_) ?_) (fun c => absurd c (by decide)) (fun c H4 e4 => ⟨_, rfl, ex.trans e4⟩)
  · refine p_ev (ev_opP (Pa := fun _ y H1 => okF K y F H1) (Pb := fun y _ z H1 => okF K y F H1 ∧ okF K z (1, 0, (n : Int)) H1) (fun H1 e1 Q1 q1 => ev_var rfl H1 e1 _ fun H2 e2 => q1 H1 x H2 (Ex.refl H1) e2 (okx.ex (e1.trans e2))) (fun H0 y H1 e0 e1 hy => (ev_form1 ev_c ev_c (ev_var rfl) n0 nb).imp fun H2 z H3 e2 e3 hz => ⟨hy.ex (e2.trans e3), hz⟩) fun y H0 z H1 e0 e1 ⟨hy, hz⟩ Q' kk => ?_)
    obtain ⟨a1, rfl, i1⟩ := InsAt.ofF hy
    obtain ⟨a2, rfl, i2⟩ := InsAt.ofF hz
    exact ⟨a1, a2, rfl, rfl, i1, i2, ((.ref a1, F), (.ref a2, (1, 0, (n : Int)))), rfl, ⟨hy, hz⟩, fun H2 z H3 e2 e3 hz => ⟨decide (F = (1, 0, (n : Int))), hz, gives_v kk (e2.trans e3)⟩⟩
  · have hb : ((rsN F (4 * n)).map fun r => decide (r ∈ rsN (1, 0, (n : Int)) (4 * n))).any id = (rsN F (4 * n)).any fun r => decide (r ∈ rsN (1, 0, (n : Int)) (4 * n)) := by rw [List.any_map]; rfl
    rw [← hb]
    refine ev_any ?_
    rw [List.map_map]
    have hl : (rsN F (4 * n)).length ≤ 4 * n := asc_len rsN_asc fun x hx => (unitsN_mem.mp (rsN_un (by omega) x hx)).1
    refine el_lc1 (l := rsN F (4 * n)) (ok := okv fun n : Nat => V.int n) (w := fun r => V.bl (decide (r ∈ rsN (1, 0, (n : Int)) (4 * n)))) (fun _ r => [some (.int (n : Nat)), some (.ref kn), some x, some (.int (r : Nat))]) (eis_v (ei_lp (ev_cal (ea2 (ev_var rfl) (e4 (ev_var rfl))) (sp_mk' (x, F, 4 * n) rfl fun H1 e1 => ⟨okx.ex e1, by show 0 < 4 * n; omega, by show 4 * n < 64; omega⟩)))) mono_okv (by omega) ?_ (fun _ _ _ _ _ => rfl) ?_
    · rintro r - v H1 - rfl R hR
      exact hR H1 (Ex.refl H1)
    · intro r _ v H1 e1 _
      exact ev_eqB (ev_op (ev_var rfl) (ev_var rfl) (rv_inC (IntC.lstN ((ex.trans e1) _ _ hkn3)))) mem_zs
  · rcases ho.far F (List.mem_of_getElem? hfi) with h | h
    · rw [decide_eq_true h] <;> rfl
    · rw [h, Bool.and_false]
/-! ### form_primes -/
def formS (n : Nat) : List Nat := ((factorsN n).filter fun p => p.1 != 2 && writtenB p.1 n).map (·.1)
def formP (n : Nat) : PS := mkP (4 * n) (rsN (1, 0, (n : Int)) (4 * n)) (formS n)
abbrev N_form_primes : List Str := ["n", "other", "singles", "prime", "exponent"]
theorem sc_form_primes : FnScope N_form_primes ["n"] (defScope s_form_primes) := ⟨rfl, rfl, rfl, by decide +kernel, rfl, by decide +kernel, by decide +kernel⟩
def sp_form_primes (K : PySem.W.Frag) : Sp := mkSp (α := Nat) (fun n => [.int (n : Nat)]) (fun n _ => FmOk n) (fun n => isP K (formP n))
theorem formS_mem {n p : Nat} (h : 0 < n) (hp : p ∈ formS n) : Prime p ∧ p ≠ 2 ∧ p ∣ n := by
  obtain ⟨q, hq, rfl⟩ := List.mem_map.mp hp
  obtain ⟨h1, h2⟩ := List.mem_filter.mp hq
  have FF := factorsN_ok h
  obtain ⟨a, b, _⟩ := FF.pr q h1
  have := dvd_prodN h1 b
  rw [FF.prod] at this
  rw [Bool.and_eq_true] at h2
  exact ⟨a, by simpa using h2.1, this⟩
theorem mk_form {n : Nat} (n0 : 0 < n) (nb : n < 16) : MkPre (4 * n) (rsN (1, 0, (n : Int)) (4 * n)) (formS n) := ⟨by omega, by omega, rsN_asc, rsN_un (by omega), fun p hp => by
  obtain ⟨a, b, c⟩ := formS_mem n0 hp
  have := Nat.le_of_dvd n0 c
  exact ⟨a, b, by omega⟩, by
  unfold formS
  rw [List.length_map]
  have h1 := List.length_filter_le (fun p : Nat × Nat => p.1 != 2 && writtenB p.1 n) (factorsN n)
  have h2 := factorsN_len n0 (by omega)
  omega⟩
theorem ok_form_primes (T : Tx K mg base) : Cal P w K mg base 7 "form_primes" (sp_form_primes K) := by
  refine cal_of T.f_form_primes T.g_form_primes sc_form_primes (fun _ _ _ _ _ _ us hl => match us, hl with | [_], _ => rfl) (len_sp fun _ => rfl) any_sp ?_
  rintro f cdv A outer s H vs Q E hr ⟨n, rfl, ho, k⟩
  have ho : FmOk n := ho
  have n0 := ho.pos
  have nb := ho.le
  refine ⟨_, pss_cons (ps_set (i := 1) sc_form_primes.nd rfl (Or.inl rfl) (pe_c (ok_neighbour T) hr (by decide) (by rfl) (pa_cons (pv 0) pa_nil)))
      (pss_cons (ps_if (pt_cmpR op_isnot0 (pv 1) pe_non (nomark _)) (pss_one (ps_never)) (pss_nil))
      (pss_cons (ps_set (i := 2) sc_form_primes.nd rfl (Or.inl rfl) (pe_lst pa_nil))
      (pss_cons (ps_for PassesOwn.never rfl (pi_list (pe_c (ok_factors T) hr (by decide) (by rfl) (pa_cons (pv 0) pa_nil))) (pg_tup (by rfl) (pgs_cons (pg_name (i := 3) sc_form_primes.nd rfl (Or.inl rfl)) (pgs_cons (pg_name (i := 4) sc_form_primes.nd rfl (Or.inl rfl)) pgs_nil))) (pss_one (ps_if (PW.pt (pw_and (pt_cmpR op_ne (pv 3) pe_int (nomark _)) (pw_and1 (pt_cmpR op_isnot0 (pe_c (ok_written T) hr (by decide) (by rfl) (pa_cons (pv 3) (pa_cons (pv 0) pa_nil))) pe_non (nomark _))))) (pss_one (ps_expr (pe_bm PySem.F.plainAttrs_list PySem.F.slot_list_append PySem.F.type_list_append mt_append (pv 2) (pa_cons (pv 3) pa_nil)))) (pss_nil))))
      (pss_one (ps_ret (pe_mk (ok_primes_init T) hr (by decide) (by rfl) (pa_cons (pe_op op_mul pe_int (pv 0)) (pa_cons (pe_c (ok_rests_of T) hr (by decide) (by rfl) (pa_cons (pe_mk (ok_form_init T) hr (by decide) (by rfl) (pa_cons pe_int (pa_cons pe_int (pa_cons (pv 0) pa_nil)))) (pa_cons (pe_op op_mul pe_int (pv 0)) pa_nil))) (pa_cons (pv 2) pa_nil))))))))), ?_⟩
  have e4 : ∀ {σ : L2.St} {H1 : Hp} {t : TE}, Ev t σ H1 (.int (n : Nat)) → Ev (tOp (rI CMul fun i j => V.int (i * j)) (tC (V.int 4)) t) σ H1 (.int (4 * n : Nat)) := fun h => ev_eqI (ev_op ev_c h (rv_I (cm1 (by decide)))) (mul_nat 4 n)
  refine q_asg (i := 1) (v := .non) (p_ev (ev_cal (ea_cons (ev_var rfl) ea_nil) (sp_mk' n rfl fun _ _ => ho))) fun H1 e1 => ?_
  refine q_when (b := false) (et_is (et_test (ev_op (ev_var rfl) ev_c rv_isnot0)) rfl) (fun c => absurd c (by decide)) (fun _ H2 e2 => ?_)
  refine q_asgL (i := 2) (el_lst ea_nil (by simp)) fun l H3 l0 e3 hl => ?_
  have ex3 := e1.trans e2
  refine q_forN (ev_cal (ea_cons (ev_var rfl) ea_nil) (sp_mk' n rfl fun _ _ => ⟨n0, by show n < 2 ^ 20; omega⟩)) fun H0 v H4 e0 e4' ⟨a, xs, ev, a0, hxs, hp⟩ => ⟨a, xs, ev, hxs, ?_⟩
  have l00 : H2 l = none := l0
  have la : l ≠ a := fun e => by
    have h3 : H3 a = none := fresh_back e0 a0
    rw [← e, hl] at h3
    cases h3
  refine ⟨fun i σ' H' => ∃ (o3 o4 : Option V), σ' = [some (.int (n : Nat)), some .non, some (.ref l), o3, o4] ∧ Ex H2 H' ∧ H' a = some (.lst xs) ∧ PrsAt H' xs (factorsN n) ∧ H' l = some (.lst (nv ((((factorsN n).take i).filter fun p => p.1 != 2 && writtenB p.1 n).map (·.1)))), ⟨none, none, rfl, e3.trans (e0.trans e4'), hxs, hp, (e0.trans e4') _ _ hl⟩, fun i σ' H' _ ⟨_, _, _, _, e, _⟩ => e, ?_, ?_⟩
  · rintro i x σ' H' hx ⟨o3, o4, rfl, ex, ha', hp', hl'⟩
    have hi : i < (factorsN n).length := by
      rw [← hp'.1]
      exact (List.getElem?_eq_some_iff.mp hx).1
    have hfi : (factorsN n)[i]? = some (factorsN n)[i] := List.getElem?_eq_getElem hi
    generalize (factorsN n)[i] = p at hfi
    obtain ⟨q, e⟩ := p
    obtain ⟨v, hv, b, rfl, hb⟩ := hp'.2 i (q, e) hfi
    rw [hx] at hv
    cases hv
    have FF := factorsN_ok n0
    obtain ⟨hq, he0, -⟩ := FF.pr (q, e) (List.mem_of_getElem? hfi)
    have hqd := dvd_prodN (List.mem_of_getElem? hfi) he0
    rw [FF.prod] at hqd
    have hql : q ≤ n := Nat.le_of_dvd n0 hqd
    have q20 : q < 2 ^ 20 := by omega
    have n20 : n < 2 ^ 20 := by omega
    have ft : (((factorsN n).take (i + 1)).filter fun p => p.1 != 2 && writtenB p.1 n).map (·.1) = (((factorsN n).take i).filter fun p => p.1 != 2 && writtenB p.1 n).map (·.1) ++ if (q != 2 && writtenB q n) = true then [q] else [] := by
      rw [take_snoc hfi, List.filter_append, List.map_append, List.filter_cons]
      split <;> rfl
    refine ⟨b, _, rfl, SqT.of hb, rfl, _, _, rfl, _, _, rfl, rfl, ?_⟩
    refine s_when (b := q != 2 && writtenB q n) (et_and (et_is (et_test (ev_op (ev_var rfl) ev_c (rv_ne rfl))) (congrArg not (dec_ii q 2))) fun _ => et_test (p_ev (ev_opP (Pa := fun _ v _ => (!decide (v = .non)) = writtenB q n) (Pb := fun v _ z _ => z = .non ∧ (!decide (v = .non)) = writtenB q n) (ev_cal (ea2 (ev_var rfl) (ev_var rfl)) (sp_mk' (q, n) rfl fun _ _ => ⟨q20, n0, n20⟩)) (fun H0 v H1 _ _ hv => (ev_p ev_c).imp fun _ _ _ _ _ hz => ⟨hz, hv⟩) fun v H0 z H1 e0 e1 ⟨hz, hv⟩ Q' kk => ⟨hz, gives_ve kk (Ex.refl _) (by rw [hv])⟩))) (fun c H5 e5 => ?_) (fun c H5 e5 => ?_)
    · rw [c, if_pos rfl] at ft
      have hl5 := e5 _ _ hl'
      refine s_app hl5 (ev_var rfl) (ev_var rfl) ?_ fun H6 e6 => ?_
      · have h1 := List.length_filter_le (fun p : Nat × Nat => p.1 != 2 && writtenB p.1 n) ((factorsN n).take i)
        have h2 := factorsN_len n0 n20
        rw [List.length_take] at h1
        rw [nv_len, List.length_map]
        omega
      · have ef : ExF H6 (upd H6 l (.lst (nv ((((factorsN n).take i).filter fun p => p.1 != 2 && writtenB p.1 n).map (·.1)) ++ [.int (q : Nat)]))) := ExF.put (e6 _ _ hl5) rfl
        refine ⟨_, _, rfl, Ex.mut (ex.trans (e5.trans e6)) l00, ?_, (Els.ex mono_okPr (Ex.toF (e5.trans e6)) hp').ex mono_okPr ef, ?_⟩
        · rw [upd_ne (Ne.symm la)]
          exact e6 _ _ (e5 _ _ ha')
        · rw [ft]
          refine upd_same.trans ?_
          simp [nv]
    · rw [c, if_neg Bool.false_ne_true, List.append_nil] at ft
      exact ⟨_, _, rfl, ex.trans e5, e5 _ _ ha', Els.ex mono_okPr (Ex.toF e5) hp', by rw [ft]; exact e5 _ _ hl'⟩
  · rintro σ' H5 ⟨o3, o4, rfl, ex, ha', hp', hl'⟩
    rw [hp'.1, List.take_length] at hl'
    refine s_retP (P := isP K (formP n)) ?_ (k.mono (ex3.trans ex))
    exact ev_mkPrimesA (e4 (ev_var rfl)) (p_el (ev_known (ev_form1 ev_c ev_c (ev_var rfl) n0 nb) (fun _ _ => e4 (ev_var rfl)) n0 nb)) (ev_var rfl) hl' (mk_form n0 nb)
theorem good_form {D : Nat} {Ss : List Nat} {n : Nat} (E : EnvOk D Ss) (n0 : 0 < n) (h : 4 * n ∣ D) : Good D Ss (formP n) :=
  mkP_good (by omega) h rsN_asc (rsN_un (by omega)) (fun p hp => by
    obtain ⟨a, b, c⟩ := formS_mem n0 hp
    exact ⟨a, b, E.odd p a b (Nat.dvd_trans c (Nat.dvd_trans (Nat.dvd_mul_left n 4) h))⟩) fun p h1 h2 h3 => E.odd p h1 h2 (Nat.dvd_trans h3 h)
end
end EP
end

section
set_option Elab.async false
set_option linter.all false
set_option maxRecDepth 100000
set_option maxHeartbeats 4000000
/-! E1: sayings: their texts, their words. -/
namespace EP
open PySem PySem.Spec PyProof.Rows L2 Evl
inductive Say
  | sq (n : Int)
  | ro (b c : Int) (m : Nat)
  | re (m r : Nat)
  | fo (n : Nat)
  | no (s : Say)
  | an (s t : Say)
  | od (s t : Say)
  deriving DecidableEq
abbrev nW (i : Int) : Str := Str.ofString (toString i)
def wordsS : Say → List Str
  | .sq n => ["square", nW n]
  | .ro b c m => ["roots", nW 1, nW b, nW c, "are", nW (m : Int)]
  | .re m r => ["rest", nW (m : Int), "is", nW (r : Int)]
  | .fo n => ["form", nW (n : Int)]
  | .no s => "not" :: wordsS s
  | .an s t => "(" :: (wordsS s ++ ("and" : Str) :: (wordsS t ++ [(")" : Str)]))
  | .od s t => "(" :: (wordsS s ++ ("or" : Str) :: (wordsS t ++ [(")" : Str)]))
def textS : Say → Str
  | .sq n => "square " ++ nW n
  | .ro b c m => "roots 1 " ++ nW b ++ " " ++ nW c ++ " are " ++ nW (m : Int)
  | .re m r => "rest " ++ nW (m : Int) ++ " is " ++ nW (r : Int)
  | .fo n => "form " ++ nW (n : Int)
  | .no s => "not " ++ textS s
  | .an s t => "( " ++ textS s ++ " and " ++ textS t ++ " )"
  | .od s t => "( " ++ textS s ++ " or " ++ textS t ++ " )"
/-! ### number words -/
def digs (x : Str) : Str := if decide (cutS x none (some 1) = ("-" : Str)) = true then cutS x (some 1) none else x
def numW (x : Str) (i : Int) : Bool := decide (PySem.intText? x = some i) && decide (x.length ≤ 10) && !decide (32 ∈ x.cps.toList) && !decide (digs x = ("" : Str)) && decide ((digs x).length ≤ 4) && (digs x).cps.toList.all (fun c => decide (c ∈ ("0123456789" : Str).cps.toList)) &&
  ((decide (digs x = ("0" : Str)) && decide (x = ("0" : Str))) || decide ((digs x).cps.toList.headD 48 ≠ 48))
theorem numW_fin : ∀ k : Fin 101, numW (nW ((k.val : Int) - 30)) ((k.val : Int) - 30) = true := by decide +kernel
theorem numW_ok {i : Int} (h1 : -30 ≤ i) (h2 : i ≤ 70) : numW (nW i) i = true := by
  have := numW_fin ⟨(i + 30).toNat, by omega⟩
  have e : (((i + 30).toNat : Nat) : Int) - 30 = i := by omega
  simp only [e] at this
  exact this
/-! ### the text, split, is the words -/
theorem join_app {c : List Nat} : ∀ {a b : List (List Nat)}, a ≠ [] → b ≠ [] → TL.joinL c (a ++ b) = TL.joinL c a ++ (c ++ TL.joinL c b)
  | [], _, h, _ => absurd rfl h
  | [p], [], _, h => absurd rfl h
  | [p], q :: r, _, _ => rfl
  | p :: q :: r, b, _, h => by
    show p ++ (c ++ TL.joinL c (q :: r ++ b)) = p ++ (c ++ TL.joinL c (q :: r)) ++ (c ++ TL.joinL c b)
    rw [join_app (by simp) h]
    simp [List.append_assoc]
theorem words_ne (s : Say) : wordsS s ≠ [] := by cases s <;> simp [wordsS]
/-- numbers that a text may name -/
def SayOk : Say → Prop
  | .sq n => -30 ≤ n ∧ n ≤ 70
  | .ro b c m => (-20 ≤ b ∧ b ≤ 20) ∧ (-20 ≤ c ∧ c ≤ 20) ∧ m ≤ 2
  | .re m r => 0 < m ∧ m ≤ 70 ∧ r < m
  | .fo n => 0 < n ∧ n ≤ 60
  | .no s => SayOk s
  | .an s t => SayOk s ∧ SayOk t
  | .od s t => SayOk s ∧ SayOk t
theorem tl_text : ∀ s : Say, TL.tl (textS s) = TL.joinL [32] ((wordsS s).map TL.tl)
  | .sq n => by
    show TL.tl ("square " ++ nW n) = TL.tl "square" ++ ([32] ++ TL.tl (nW n))
    rw [TL.tl_append, show TL.tl ("square " : Str) = TL.tl ("square" : Str) ++ [32] from by decide +kernel]
    simp [List.append_assoc]
  | .fo n => by
    show TL.tl ("form " ++ nW (n : Int)) = TL.tl "form" ++ ([32] ++ TL.tl (nW (n : Int)))
    rw [TL.tl_append, show TL.tl ("form " : Str) = TL.tl ("form" : Str) ++ [32] from by decide +kernel]
    simp [List.append_assoc]
  | .re m r => by
    show TL.tl ("rest " ++ nW (m : Int) ++ " is " ++ nW (r : Int)) = TL.tl "rest" ++ ([32] ++ (TL.tl (nW (m : Int)) ++ ([32] ++ (TL.tl "is" ++ ([32] ++ TL.tl (nW (r : Int)))))))
    rw [TL.tl_append, TL.tl_append, TL.tl_append, show TL.tl ("rest " : Str) = TL.tl ("rest" : Str) ++ [32] from by decide +kernel, show TL.tl (" is " : Str) = [32] ++ (TL.tl ("is" : Str) ++ [32]) from by decide +kernel]
    simp [List.append_assoc]
  | .ro b c m => by
    show TL.tl ("roots 1 " ++ nW b ++ " " ++ nW c ++ " are " ++ nW (m : Int)) = TL.tl "roots" ++ ([32] ++ (TL.tl (nW 1) ++ ([32] ++ (TL.tl (nW b) ++ ([32] ++ (TL.tl (nW c) ++ ([32] ++ (TL.tl "are" ++ ([32] ++ TL.tl (nW (m : Int)))))))))))
    rw [TL.tl_append, TL.tl_append, TL.tl_append, TL.tl_append, TL.tl_append, show TL.tl ("roots 1 " : Str) = TL.tl ("roots" : Str) ++ ([32] ++ (TL.tl (nW 1) ++ [32])) from by decide +kernel, show TL.tl (" are " : Str) = [32] ++ (TL.tl ("are" : Str) ++ [32]) from by decide +kernel,
      show TL.tl (" " : Str) = [32] from by decide +kernel]
    simp [List.append_assoc]
  | .no s => by
    show TL.tl ("not " ++ textS s) = TL.joinL [32] ([TL.tl "not"] ++ (wordsS s).map TL.tl)
    rw [join_app (by simp) (by simpa using words_ne s), TL.tl_append, tl_text s, show TL.tl ("not " : Str) = TL.tl ("not" : Str) ++ [32] from by decide +kernel]
    simp [TL.joinL, List.append_assoc]
  | .an s t => by
    show TL.tl ("( " ++ textS s ++ " and " ++ textS t ++ " )") = TL.joinL [32] ((("(" : Str) :: (wordsS s ++ ("and" : Str) :: (wordsS t ++ [(")" : Str)]))).map TL.tl)
    rw [show ((("(" : Str) :: (wordsS s ++ ("and" : Str) :: (wordsS t ++ [(")" : Str)]))).map TL.tl) = [TL.tl "("] ++ ((wordsS s).map TL.tl ++ ([TL.tl "and"] ++ ((wordsS t).map TL.tl ++ [TL.tl ")"]))) from by simp]
    rw [join_app (by simp) (by simp), join_app (by simpa using words_ne s) (by simp), join_app (by simp) (by simp), join_app (by simpa using words_ne t) (by simp), TL.tl_append, TL.tl_append, TL.tl_append, TL.tl_append, tl_text s, tl_text t, show TL.tl ("( " : Str) = TL.tl ("(" : Str) ++ [32] from by decide +kernel,
      show TL.tl (" and " : Str) = [32] ++ (TL.tl ("and" : Str) ++ [32]) from by decide +kernel, show TL.tl (" )" : Str) = [32] ++ TL.tl (")" : Str) from by decide +kernel]
    simp [TL.joinL, List.append_assoc]
  | .od s t => by
    show TL.tl ("( " ++ textS s ++ " or " ++ textS t ++ " )") = TL.joinL [32] ((("(" : Str) :: (wordsS s ++ ("or" : Str) :: (wordsS t ++ [(")" : Str)]))).map TL.tl)
    rw [show ((("(" : Str) :: (wordsS s ++ ("or" : Str) :: (wordsS t ++ [(")" : Str)]))).map TL.tl) = [TL.tl "("] ++ ((wordsS s).map TL.tl ++ ([TL.tl "or"] ++ ((wordsS t).map TL.tl ++ [TL.tl ")"]))) from by simp]
    rw [join_app (by simp) (by simp), join_app (by simpa using words_ne s) (by simp), join_app (by simp) (by simp), join_app (by simpa using words_ne t) (by simp), TL.tl_append, TL.tl_append, TL.tl_append, TL.tl_append, tl_text s, tl_text t, show TL.tl ("( " : Str) = TL.tl ("(" : Str) ++ [32] from by decide +kernel,
      show TL.tl (" or " : Str) = [32] ++ (TL.tl ("or" : Str) ++ [32]) from by decide +kernel, show TL.tl (" )" : Str) = [32] ++ TL.tl (")" : Str) from by decide +kernel]
    simp [TL.joinL, List.append_assoc]
theorem nW_free {i : Int} (h1 : -30 ≤ i) (h2 : i ≤ 70) : 32 ∉ TL.tl (nW i) := by
  have := numW_ok h1 h2
  unfold numW at this
  simp only [Bool.and_eq_true] at this
  have h := this.1.1.1.1.2
  simpa using h
theorem nW_len {i : Int} (h1 : -30 ≤ i) (h2 : i ≤ 70) : (nW i).length ≤ 10 := by
  have := numW_ok h1 h2
  unfold numW at this
  simp only [Bool.and_eq_true] at this
  exact of_decide_eq_true this.1.1.1.1.1.2
theorem words_free : ∀ {s : Say}, SayOk s → ∀ w ∈ wordsS s, 32 ∉ TL.tl w
  | .sq n, h => by
    intro w hw
    simp only [wordsS, List.mem_cons, List.not_mem_nil, or_false] at hw
    rcases hw with rfl | rfl
    · decide +kernel
    · exact nW_free h.1 h.2
  | .fo n, h => by
    have h1 : 0 < n := h.1
    have h2 : n ≤ 60 := h.2
    intro w hw
    simp only [wordsS, List.mem_cons, List.not_mem_nil, or_false] at hw
    rcases hw with rfl | rfl
    · decide +kernel
    · exact nW_free (by omega) (by omega)
  | .re m r, h => by
    have h1 : 0 < m := h.1
    have h2 : m ≤ 70 := h.2.1
    have h3 : r < m := h.2.2
    intro w hw
    simp only [wordsS, List.mem_cons, List.not_mem_nil, or_false] at hw
    rcases hw with rfl | rfl | rfl | rfl
    · decide +kernel
    · exact nW_free (by omega) (by omega)
    · decide +kernel
    · exact nW_free (by omega) (by omega)
  | .ro b c m, h => by
    have h1 : -20 ≤ b ∧ b ≤ 20 := h.1
    have h2 : -20 ≤ c ∧ c ≤ 20 := h.2.1
    have h3 : m ≤ 2 := h.2.2
    intro w hw
    simp only [wordsS, List.mem_cons, List.not_mem_nil, or_false] at hw
    rcases hw with rfl | rfl | rfl | rfl | rfl | rfl
    · decide +kernel
    · decide +kernel
    · exact nW_free (by omega) (by omega)
    · exact nW_free (by omega) (by omega)
    · decide +kernel
    · exact nW_free (by omega) (by omega)
  | .no s, h => by
    intro w hw
    rcases List.mem_cons.mp hw with rfl | hw
    · decide +kernel
    · exact words_free (s := s) h w hw
  | .an s t, h => by
    intro w hw
    rcases List.mem_cons.mp hw with rfl | hw
    · decide +kernel
    · rcases List.mem_append.mp hw with hw | hw
      · exact words_free (s := s) h.1 w hw
      · rcases List.mem_cons.mp hw with rfl | hw
        · decide +kernel
        · rcases List.mem_append.mp hw with hw | hw
          · exact words_free (s := t) h.2 w hw
          · rw [List.mem_singleton.mp hw]
            decide +kernel
  | .od s t, h => by
    intro w hw
    rcases List.mem_cons.mp hw with rfl | hw
    · decide +kernel
    · rcases List.mem_append.mp hw with hw | hw
      · exact words_free (s := s) h.1 w hw
      · rcases List.mem_cons.mp hw with rfl | hw
        · decide +kernel
        · rcases List.mem_append.mp hw with hw | hw
          · exact words_free (s := t) h.2 w hw
          · rw [List.mem_singleton.mp hw]
            decide +kernel
theorem split_text {s : Say} (h : SayOk s) : Txt.split (textS s) (" " : Str) = wordsS s := by
  have sp : (" " : Str) = SX.S [32] := by decide +kernel
  rw [sp, ← SX.S_tl (textS s), show (textS s).cps.toList = TL.tl (textS s) from rfl, tl_text s, SX.split_S (by simp) (by decide), SX.spl_join (by simpa using words_ne s) ?_]
  · rw [List.map_map]
    conv => rhs; rw [← List.map_id (wordsS s)]
    exact List.map_congr_left fun x _ => SX.S_tl x
  · intro p hp
    obtain ⟨w, hw, rfl⟩ := List.mem_map.mp hp
    exact words_free h w hw
/-- how deep, how long -/
def hgt : Say → Nat
  | .no s => hgt s + 1
  | .an s t => max (hgt s) (hgt t) + 1
  | .od s t => max (hgt s) (hgt t) + 1
  | _ => 0
def pard : Say → Nat
  | .no s => pard s
  | .an s t => max (pard s) (pard t) + 1
  | .od s t => max (pard s) (pard t) + 1
  | _ => 0
theorem len_app (a b : Str) : (a ++ b).length = a.length + b.length := by
  have : TL.tl (a ++ b) = TL.tl a ++ TL.tl b := TL.tl_append a b
  have h : ∀ x : Str, x.length = (TL.tl x).length := fun x => (Array.length_toList).symm
  rw [h, h, h, this, List.length_append]
/-- the length of a text, at most -/
def lenB : Say → Nat
  | .no s => lenB s + 4
  | .an s t => lenB s + lenB t + 9
  | .od s t => lenB s + lenB t + 8
  | _ => 60
theorem text_len : ∀ {s : Say}, SayOk s → (textS s).length ≤ lenB s
  | .sq n, h => by
    show ("square " ++ nW n : Str).length ≤ 60
    rw [len_app, show ("square " : Str).length = 7 from by decide +kernel]
    have := nW_len h.1 h.2
    omega
  | .fo n, h => by
    have h1 : 0 < n := h.1
    have h2 : n ≤ 60 := h.2
    show ("form " ++ nW (n : Int) : Str).length ≤ 60
    rw [len_app, show ("form " : Str).length = 5 from by decide +kernel]
    have := nW_len (i := (n : Int)) (by omega) (by omega)
    omega
  | .re m r, h => by
    have h1 : 0 < m := h.1
    have h2 : m ≤ 70 := h.2.1
    have h3 : r < m := h.2.2
    show ("rest " ++ nW (m : Int) ++ " is " ++ nW (r : Int) : Str).length ≤ 60
    rw [len_app, len_app, len_app, show ("rest " : Str).length = 5 from by decide +kernel, show (" is " : Str).length = 4 from by decide +kernel]
    have := nW_len (i := (m : Int)) (by omega) (by omega)
    have := nW_len (i := (r : Int)) (by omega) (by omega)
    omega
  | .ro b c m, h => by
    have h1 : -20 ≤ b ∧ b ≤ 20 := h.1
    have h2 : -20 ≤ c ∧ c ≤ 20 := h.2.1
    have h3 : m ≤ 2 := h.2.2
    show ("roots 1 " ++ nW b ++ " " ++ nW c ++ " are " ++ nW (m : Int) : Str).length ≤ 60
    rw [len_app, len_app, len_app, len_app, len_app, show ("roots 1 " : Str).length = 8 from by decide +kernel, show (" are " : Str).length = 5 from by decide +kernel, show (" " : Str).length = 1 from by decide +kernel]
    have := nW_len (i := b) (by omega) (by omega)
    have := nW_len (i := c) (by omega) (by omega)
    have := nW_len (i := (m : Int)) (by omega) (by omega)
    omega
  | .no s, h => by
    show ("not " ++ textS s : Str).length ≤ lenB s + 4
    rw [len_app, show ("not " : Str).length = 4 from by decide +kernel]
    have := text_len (s := s) h
    omega
  | .an s t, h => by
    show ("( " ++ textS s ++ " and " ++ textS t ++ " )" : Str).length ≤ lenB s + lenB t + 9
    rw [len_app, len_app, len_app, len_app, show ("( " : Str).length = 2 from by decide +kernel, show (" and " : Str).length = 5 from by decide +kernel, show (" )" : Str).length = 2 from by decide +kernel]
    have := text_len (s := s) h.1
    have := text_len (s := t) h.2
    omega
  | .od s t, h => by
    show ("( " ++ textS s ++ " or " ++ textS t ++ " )" : Str).length ≤ lenB s + lenB t + 8
    rw [len_app, len_app, len_app, len_app, show ("( " : Str).length = 2 from by decide +kernel, show (" or " : Str).length = 4 from by decide +kernel, show (" )" : Str).length = 2 from by decide +kernel]
    have := text_len (s := s) h.1
    have := text_len (s := t) h.2
    omega
end EP
end

section
set_option Elab.async false
set_option linter.all false
set_option maxRecDepth 100000
set_option maxHeartbeats 4000000
/-! E2: the reader of sayings. -/
namespace EP
open PySem PySem.Spec PyProof.Rows L2 Evl
section
variable {P : Program} {w : World} {K : PySem.W.Frag} {mg : Str → Option Value} {base : Heap}
/-! ### is_integer_word -/
abbrev N_is_integer_word : List Str := ["word", "digits", "letter"]
theorem sc_is_integer_word : FnScope N_is_integer_word ["word"] (defScope s_is_integer_word) := ⟨rfl, rfl, rfl, by decide +kernel, rfl, by decide +kernel, by decide +kernel⟩
def sp_is_integer_word : Sp := mkSp (α := Str × Int) (fun a => [.str a.1]) (fun a _ => numW a.1 a.2 = true) (fun _ => isV (.bl true))
theorem ev_cutS {σ : L2.St} {H : Hp} {ta : TE} {tl th : TO} {z : Str} {lo hi : Option Int} (h : Ev ta σ H (.str z)) (h1 : EvO tl σ H lo) (h2 : EvO th σ H hi) (hz : z.length ≤ 100000) : Ev (tSl rSlS ta tl th) σ H (.str (cutS z lo hi)) := fun H1 e Q q =>
  h H1 e _ fun H2 e2 => h1 H2 (e.trans e2) _ fun H3 e3 => h2 H3 ((e.trans e2).trans e3) _ fun H4 e4 => ⟨z, rfl, sz_of hz, q H4 ((e2.trans e3).trans e4)⟩
theorem ev_chain {σ : L2.St} {H : Hp} {ta tb tc : TE} {x y z : Int} (ha : Ev ta σ H (.int x)) (hb : Ev tb σ H (.int y)) (hc : Ev tc σ H (.int z)) (h1 : x ≤ y) (h2 : y ≤ z) :
    Ev (tChain (rI0 fun i j => .bl (decide (i ≤ j))) (rI0 fun i j => .bl (decide (i ≤ j))) ta tb tc) σ H (.bl true) := fun H1 e Q q =>
  ha H1 e _ fun H2 e2 => hb H2 (e.trans e2) _ fun H3 e3 => ⟨x, y, rfl, rfl, _, rfl, by
    rw [if_pos (decide_eq_true h1)]
    refine hc H3 ((e.trans e2).trans e3) _ fun H4 e4 => ⟨y, z, rfl, rfl, ?_⟩
    show Q (.bl (decide (y ≤ z))) H4
    rw [decide_eq_true h2]
    exact q H4 ((e2.trans e3).trans e4)⟩
theorem dec_str (a b : Str) : decide (V.str a = V.str b) = decide (a = b) := decide_eq_decide.mpr ⟨fun h => V.str.inj h, fun h => by rw [h]⟩
theorem ok_is_integer_word (T : Tx K mg base) : Cal P w K mg base 1 "is_integer_word" sp_is_integer_word := by
  refine cal_of T.f_is_integer_word T.g_is_integer_word sc_is_integer_word (fun _ _ _ _ _ _ us hl => match us, hl with | [_], _ => rfl) (len_sp fun _ => rfl) any_sp ?_
  rintro f cdv A outer s H vs Q E hr ⟨⟨x, i⟩, rfl, hn, k⟩
  have hn : numW x i = true := hn
  unfold numW at hn
  simp only [Bool.and_eq_true] at hn
  obtain ⟨⟨⟨⟨⟨⟨-, hl⟩, -⟩, hne⟩, h4⟩, hall⟩, hlast⟩ := hn
  have hl : x.length ≤ 10 := of_decide_eq_true hl
  have hl5 : x.length ≤ 100000 := by omega
  have hne : decide (digs x = ("" : Str)) = false := by simpa using hne
  have h4 : (digs x).length ≤ 4 := of_decide_eq_true h4
  refine ⟨_, pss_cons (ps_set (i := 1) sc_is_integer_word.nd rfl (Or.inl rfl) (pv 0))
      (pss_cut (ps_if (pt_cmpR op_eq (pe_slice sl_str (pv 0) po_none (po_some pe_int)) pe_str (nomark _)) (pss_one (ps_set (i := 1) sc_is_integer_word.nd rfl (Or.inl rfl) (pe_slice sl_str (pv 0) (po_some pe_int) po_none))) (pss_nil))
      (pss_cons (ps_if (PW.pt (pw_or (pt_cmpR op_eq (pv 1) pe_str (nomark _)) (pw_or (pt_cmpR op_gt (pe_callB c_lenT (by rfl) T.b_len (by decide +kernel) (pa_cons (pv 1) pa_nil)) pe_int (nomark _)) (pw_or1 (pt_not (pt_val (pe_callB (cr_all rfl) (by rfl) T.b_all (by decide +kernel) (pa_cons (pe_lc (own := [("letter", 2)]) (g := gName 2) (by rfl) sc_is_integer_word.nd (pi_str (pv 1)) (blkOk_by (own := [("letter", 2)]) (N := N_is_integer_word) (sc := defScope s_is_integer_word) (by decide +kernel)) (fun _ _ _ _ _ => pg_name (i := 2) sc_is_integer_word.nd rfl (Or.inl rfl)) (fun _ _ _ _ _ => pts_nil) (fun _ _ _ _ _ => pe_cmpR op_sign (pv 2) pe_str (by rfl))) pa_nil)))))))) (pss_one (ps_ret pe_bl)) (pss_nil))
      (pss_one (ps_ret (pe_or (pe_and (pe_cmpR op_eq (pv 1) pe_str (nomark _)) (pe_one (pe_cmpR op_eq (pv 0) pe_str (nomark _)))) (pe_one (pe_cmpR op_ne (pe_ix ix_str (pv 1) pe_int (fun _ _ => rfl)) pe_str (nomark _)))))))), ?_⟩
  refine q_asg (i := 1) (ev_var rfl) fun H1 e1 => ?_
  refine q_cut (M := fun σ' H' => σ' = [some (.str x), some (.str (digs x)), none] ∧ Ex H H') ?_ ?_
  · refine s_when (b := decide (cutS x none (some 1) = ("-" : Str))) (et_is (et_test (ev_op (ev_cutS (ev_var rfl) eo_none (eo_some ev_c) hl5) ev_c (rv_eq rfl))) (dec_str _ _)) (fun c H2 e2 => ?_) (fun c H2 e2 => ?_)
    · refine s_asg (i := 1) (ev_cutS (ev_var rfl) (eo_some ev_c) eo_none hl5) fun H3 e3 => ⟨?_, e1.trans (e2.trans e3)⟩
      unfold digs
      rw [if_pos c]
      rfl
    · refine ⟨?_, e1.trans e2⟩
      unfold digs
      rw [if_neg (by rw [c]; exact Bool.false_ne_true)]
      rfl
  rintro σ' H2 ⟨rfl, ex2⟩
  generalize digs x = d at hne h4 hall hlast
  refine q_when (b := false) (et_is (et_or (a := false) (b := false) (et_is (et_test (ev_op (ev_var rfl) ev_c (rv_eq rfl))) ((dec_str d "").trans hne)) fun _ => et_or (a := false) (b := false) (et_is (et_test (ev_op (ev_cb (ea_cons (ev_var rfl) ea_nil) (rc_lenT (by omega))) ev_c rv_I0)) (decide_eq_false (by omega))) fun _ => et_not (a := true) (et_test (ev_eqB (ev_all (bs := d.cps.toList.map fun c => decide (c ∈ ("0123456789" : Str).cps.toList)) ?_) ?_))) rfl) (fun c => absurd c (by decide)) (fun _ H3 e3 => ?_)
  · rw [List.map_map]
    refine el_lc1 (l := d.cps.toList) (ok := okv fun c : Nat => V.str ⟨#[c]⟩) (w := fun c => V.bl (decide (c ∈ ("0123456789" : Str).cps.toList))) (fun _ c => [some (.str x), some (.str d), some (.str ⟨#[c]⟩)]) (eis_v (ei_s (ev_var rfl))) mono_okv ?_ ?_ (fun _ _ _ _ _ => rfl) ?_
    · rw [Array.length_toList]
      have : d.cps.size = d.length := rfl
      omega
    · rintro c - v H1 - rfl R hR
      exact hR H1 (Ex.refl H1)
    · intro c _ v H1 e1 _
      exact ev_op (ev_var rfl) ev_c fun H2 e2 Q q => ⟨c, _, rfl, rfl, q H2 (Ex.refl H2)⟩
  · rw [List.all_map]
    exact hall
  have fin : ∀ H4, Ex H3 H4 → Q (.bl true) H4 := fun H4 e4 => gives_v k (ex2.trans (e3.trans e4))
  refine s_retP (P := isV (.bl true)) (ev_p (ev_eqB (a := (decide (d = ("0" : Str)) && decide (x = ("0" : Str))) || (decide (d = ("0" : Str)) && decide (x = ("0" : Str)) || decide (d.cps.toList.headD 48 ≠ 48))) (ev_orV (ev_andV (ev_eqB (ev_op (ev_var rfl) ev_c (rv_eq rfl)) (dec_str d "0")) fun _ => ev_eqB (ev_op (ev_var rfl) ev_c (rv_eq rfl)) (dec_str x "0")) fun hf => ?_) ?_)) (k.mono (ex2.trans e3))
  · have hh : decide (d.cps.toList.headD 48 ≠ 48) = true := by
      rw [hf, Bool.false_or] at hlast
      exact hlast
    rw [hf, Bool.false_or]
    have hhead : d.cps.toList.headD 48 ≠ 48 := of_decide_eq_true hh
    cases hc : d.cps.toList with
    | nil => rw [hc] at hhead; exact absurd rfl hhead
    | cons c t =>
      refine ev_eqB (ev_op (ev_op (ev_var rfl) ev_c (rv_ixS (w := d) (c := c) (by omega) ?_)) ev_c (rv_ne rfl)) ?_
      · rw [hc]
        exact atI_nat (j := 0) rfl
      · rw [hc] at hhead
        have : ¬ c = 48 := hhead
        rw [dec_str]
        have e : decide ((⟨#[c]⟩ : Str) = ("0" : Str)) = false := decide_eq_false fun e => this (by
          have z : ("0" : Str) = ⟨#[48]⟩ := by decide +kernel
          rw [z] at e
          have := congrArg (fun s : Str => s.cps.toList) e
          simpa using this)
        rw [e]
        exact (decide_eq_true this).symm
  · rw [Bool.or_eq_true] at hlast
    rcases hlast with h | h
    · rw [h] <;> rfl
    · rw [h, Bool.or_true, Bool.or_true]
/-! ### the reader -/
def okR (K : PySem.W.Frag) (wl : Addr) : V → Nat → Hp → Prop := fun v at_ H => ∃ (a dx : Addr), v = .ref a ∧ H a = some (.ins (He.ga K "Reader") dx [("words", .ref wl), ("at", .int (at_ : Nat))])
theorem okR.ex {wl : Addr} {v : V} {n : Nat} {H H' : Hp} (e : Ex H H') (h : okR K wl v n H) : okR K wl v n H' := by
  obtain ⟨a, dx, h1, h2⟩ := h
  exact ⟨a, dx, h1, e _ _ h2⟩
section
variable {σ : L2.St} {H H' : Hp} {ta : TE} {v : V} {wl : Addr} {n : Nat}
theorem ev_rw (T : Tx K mg base) (hx : Ev ta σ H v) (h : okR K wl v n H) : Ev (tFld K ta "words") σ H (.ref wl) := by
  obtain ⟨a, dx, rfl, h2⟩ := h
  exact ev_fld hx h2 T.c_Reader T.n_Reader_words rfl
theorem ev_ra (T : Tx K mg base) (hx : Ev ta σ H v) (h : okR K wl v n H) : Ev (tFld K ta "at") σ H (.int (n : Nat)) := by
  obtain ⟨a, dx, rfl, h2⟩ := h
  exact ev_fld hx h2 T.c_Reader T.n_Reader_at rfl
/-- o.m(..), o a reader -/
theorem ev_rm {m : Str} {ts : TA} {vs : List V} {sp : Sp} {R : VP} (hx : Ev ta σ H v) (h : okR K wl v n H) (hm : ([("words", V.ref wl), ("at", .int (n : Nat))] : List (Str × V)).lookup m = none) (hs : EvA ts σ H vs) (k : SpP sp (v :: vs) H R) : EvP (tMet (He.ga K "Reader") m sp ta ts) σ H R := by
  obtain ⟨a, dx, rfl, h2⟩ := h
  exact ev_met hx h2 hm hs k
/-- o.m(..), o what an expression gives: a reader -/
theorem ev_rmP {m : Str} {ts : TA} {vs : List V} {sp : Sp} {R : VP} (hx : EvP ta σ H fun _ x H1 => okR K wl x n H1) (hm : ([("words", V.ref wl), ("at", .int (n : Nat))] : List (Str × V)).lookup m = none) (hs : ∀ H1, Ex H H1 → EvA ts σ H1 vs) (k : ∀ x H1, Ex H H1 → okR K wl x n H1 → SpP sp (x :: vs) H1 R) : EvP (tMet (He.ga K "Reader") m sp ta ts) σ H R :=
  ev_metP (PA := fun us H1 => ∃ x, us = x :: vs ∧ okR K wl x n H1) hx (fun H0 x H1 e0 e1 hr => by
    obtain ⟨a, dx, rfl, h2⟩ := id hr
    exact ⟨⟨a, dx, _, rfl, h2, hm⟩, fun H2 e2 Q q => hs H1 (e0.trans e1) H2 e2 _ fun H3 e3 => q vs H3 e3 ⟨_, rfl, hr.ex (e2.trans e3)⟩⟩) fun us H1 e1 ⟨x, eu, hr⟩ => by
      subst eu
      exact k x H1 e1 hr
end
abbrev N_reader_init : List Str := ["self", "words", "at"]
theorem sc_reader_init : FnScope N_reader_init ["self", "words", "at"] (defScope s_reader_init) := ⟨rfl, rfl, rfl, by decide +kernel, rfl, by decide +kernel, by decide +kernel⟩
def sp_reader_init (K : PySem.W.Frag) : Sp := mkSpI (He.ga K "Reader") (α := Addr × Nat) (fun a => [.ref a.1, .int (a.2 : Nat)]) (fun _ _ => True) (fun a => fun _ x H => okR K a.1 x a.2 H)
theorem ok_reader_init (T : Tx K mg base) : Mak P w K mg base 1 "Reader" (He.ga K "Reader") (sp_reader_init K) := by
  refine mak_of T.f_reader_init T.g_Reader T.k_Reader sc_reader_init (fun _ _ _ _ _ _ us hl => match us, hl with | [_, _, _], _ => rfl) (len_spI fun _ => rfl) any_spI ?_
  rintro f cdv A outer s H vs Q E hr ⟨x, dx, HB, ⟨wl, n⟩, rfl, hx, hdx, ne, rfl, -, k⟩
  have hB : Ex HB (upd (upd HB dx (.own x)) x (.ins (He.ga K "Reader") dx [])) := Ex.mut (Ex.new hdx) hx
  have hx0 : upd (upd HB dx (.own x)) x (.ins (He.ga K "Reader") dx []) x = some (.ins (He.ga K "Reader") dx []) := upd_same
  generalize upd (upd HB dx (.own x)) x (.ins (He.ga K "Reader") dx []) = H at hB hx0
  refine ⟨_, pss_cons (ps_fld (pv 0) (pv 1) rfl)
      (pss_one (ps_fld (pv 0) (pv 2) rfl)), ?_⟩
  refine q_fldV (ev_var rfl) (ev_var rfl) hx0 T.c_Reader T.n_Reader_words (by decide) fun H2 e2 => ?_
  refine s_fldV (ev_var rfl) (ev_var rfl) upd_same T.c_Reader T.n_Reader_at (by show 1 < 1000; decide) fun H3 e3 => ?_
  exact k _ (Ex.mut ((Ex.mut (hB.trans e2) hx).trans e3) hx) ⟨x, dx, rfl, upd_same⟩
abbrev N_reader_further : List Str := ["self", "many"]
theorem sc_reader_further : FnScope N_reader_further ["self", "many"] (defScope s_reader_further) := ⟨rfl, rfl, rfl, by decide +kernel, rfl, by decide +kernel, by decide +kernel⟩
def sp_reader_further (K : PySem.W.Frag) : Sp := mkSp (α := V × Addr × Nat × Nat) (fun a => [a.1, .int (a.2.2.2 : Nat)]) (fun a H => okR K a.2.1 a.1 a.2.2.1 H) (fun a => fun _ x H => okR K a.2.1 x (a.2.2.1 + a.2.2.2) H)
theorem ok_reader_further (T : Tx K mg base) : Met P w K mg base 3 (He.ga K "Reader") "further" (sp_reader_further K) := by
  refine met_of T.f_reader_further T.c_Reader T.m_Reader_further sc_reader_further (fun _ _ _ _ _ _ us hl => match us, hl with | [_, _], _ => rfl) (len_sp fun _ => rfl) any_sp ?_
  rintro f cdv A outer s H vs Q E hr ⟨⟨v, wl, n, m⟩, rfl, h, k⟩
  have h : okR K wl v n H := h
  refine ⟨_, pss_one (ps_ret (pe_mk (ok_reader_init T) hr (by decide) (by rfl) (pa_cons (pe_fldk K rfl (pv 0) rfl) (pa_cons (pe_op op_add (pe_fldk K rfl (pv 0) rfl) (pv 1)) pa_nil)))), ?_⟩
  exact s_retP (ev_mk (ea2 (ev_rw T (ev_var rfl) h) (ev_eqI (ev_op (ev_ra T (ev_var rfl) h) (ev_var rfl) rv_I0) (add_nat n m))) (mk_mk (wl, n + m) rfl fun _ _ => trivial)) k
abbrev N_reader_next_word : List Str := ["self"]
theorem sc_reader_next_word : FnScope N_reader_next_word ["self"] (defScope s_reader_next_word) := ⟨rfl, rfl, rfl, by decide +kernel, rfl, by decide +kernel, by decide +kernel⟩
def sp_reader_next_word (K : PySem.W.Frag) : Sp := mkSp (α := V × Addr × List Str × Nat × Str) (fun a => [a.1]) (fun a H => okR K a.2.1 a.1 a.2.2.2.1 H ∧ H a.2.1 = some (.lst (a.2.2.1.map V.str)) ∧ a.2.2.1[a.2.2.2.1]? = some a.2.2.2.2) (fun a => isV (.str a.2.2.2.2))
theorem ok_reader_next_word (T : Tx K mg base) : Met P w K mg base 1 (He.ga K "Reader") "next_word" (sp_reader_next_word K) := by
  refine met_of T.f_reader_next_word T.c_Reader T.m_Reader_next_word sc_reader_next_word (fun _ _ _ _ _ _ us hl => match us, hl with | [_], _ => rfl) (len_sp fun _ => rfl) any_sp ?_
  rintro f cdv A outer s H vs Q E hr ⟨⟨v, wl, W, n, x⟩, rfl, ⟨h, hw, hx⟩, k⟩
  have h : okR K wl v n H := h
  have hw : H wl = some (.lst (W.map V.str)) := hw
  have hx : W[n]? = some x := hx
  have hn : n < W.length := (List.getElem?_eq_some_iff.mp hx).1
  refine ⟨_, pss_cons (ps_if (pt_cmpR op_eq (pe_fldk K rfl (pv 0) rfl) (pe_callB c_len (by rfl) T.b_len (by decide +kernel) (pa_cons (pe_fldk K rfl (pv 0) rfl) pa_nil)) (nomark _)) (pss_one (ps_never)) (pss_nil))
      (pss_one (ps_ret (pe_ix (ix_listk K rfl) (pe_fldk K rfl (pv 0) rfl) (pe_fldk K rfl (pv 0) rfl) (fun _ _ => rfl)))), ?_⟩
  refine q_when (b := false) (et_is (et_test (ev_op (ev_ra T (ev_var rfl) h) (ev_cb (ea_cons (ev_rw T (ev_var rfl) h) ea_nil) (rc_len (SqL.of hw))) (rv_eq rfl))) ?_) (fun c => absurd c (by decide)) (fun _ H2 e2 => ?_)
  · rw [List.length_map]
    exact (dec_ii n W.length).trans (decide_eq_false (by omega))
  · refine s_retP (ev_p (ev_op (ev_rw T (ev_var rfl) (h.ex e2)) (ev_ra T (ev_var rfl) (h.ex e2)) (rv_ixL (SqL.of (e2 _ _ hw)) (atI_nat (j := n) ?_)))) (k.mono e2)
    rw [List.getElem?_map, hx]
    rfl
abbrev N_reader_take : List Str := ["self", "word"]
theorem sc_reader_take : FnScope N_reader_take ["self", "word"] (defScope s_reader_take) := ⟨rfl, rfl, rfl, by decide +kernel, rfl, by decide +kernel, by decide +kernel⟩
def sp_reader_take (K : PySem.W.Frag) : Sp := mkSp (α := V × Addr × List Str × Nat × Str) (fun a => [a.1, .str a.2.2.2.2]) (fun a H => okR K a.2.1 a.1 a.2.2.2.1 H ∧ H a.2.1 = some (.lst (a.2.2.1.map V.str)) ∧ a.2.2.1[a.2.2.2.1]? = some a.2.2.2.2) (fun a => fun _ x H => okR K a.2.1 x (a.2.2.2.1 + 1) H)
theorem ok_reader_take (T : Tx K mg base) : Met P w K mg base 4 (He.ga K "Reader") "take" (sp_reader_take K) := by
  refine met_of T.f_reader_take T.c_Reader T.m_Reader_take sc_reader_take (fun _ _ _ _ _ _ us hl => match us, hl with | [_, _], _ => rfl) (len_sp fun _ => rfl) any_sp ?_
  rintro f cdv A outer s H vs Q E hr ⟨⟨v, wl, W, n, x⟩, rfl, ⟨h, hw, hx⟩, k⟩
  have h : okR K wl v n H := h
  have hw : H wl = some (.lst (W.map V.str)) := hw
  refine ⟨_, pss_cons (ps_if (pt_cmpR op_ne (pe_mt0 (ok_reader_next_word T) hr (by decide) (pv 0)) (pv 1) (nomark _)) (pss_one (ps_never)) (pss_nil))
      (pss_one (ps_ret (pe_mt (ok_reader_further T) hr (by decide) (pv 0) (pa_cons pe_int pa_nil)))), ?_⟩
  refine q_when (b := false) (et_is (et_test (ev_op (p_ev (ev_rm (ev_var rfl) h rfl ea_nil (sp_mk' (v, wl, W, n, x) rfl fun H1 e1 => ⟨h.ex e1, e1 _ _ hw, hx⟩))) (ev_var rfl) (rv_ne rfl))) ?_) (fun c => absurd c (by decide)) (fun _ H2 e2 => ?_)
  · rw [dec_str, decide_eq_true rfl] <;> rfl
  · exact s_retP (ev_rm (ev_var rfl) (h.ex e2) rfl (ea_cons ev_c ea_nil) (sp_mk' (v, wl, n, 1) rfl fun H1 e1 => h.ex (e2.trans e1))) (k.mono e2)
abbrev N_reader_number : List Str := ["self", "low", "high", "word"]
theorem sc_reader_number : FnScope N_reader_number ["self", "low", "high"] (defScope s_reader_number) := ⟨rfl, rfl, rfl, by decide +kernel, rfl, by decide +kernel, by decide +kernel⟩
def sp_reader_number (K : PySem.W.Frag) : Sp := mkSp (α := V × Addr × List Str × Nat × Int × Int × Int) (fun a => [a.1, .int a.2.2.2.2.1, .int a.2.2.2.2.2.1]) (fun a H => okR K a.2.1 a.1 a.2.2.2.1 H ∧ H a.2.1 = some (.lst (a.2.2.1.map V.str)) ∧ a.2.2.1[a.2.2.2.1]? = some (nW a.2.2.2.2.2.2) ∧ a.2.2.2.2.1 ≤ a.2.2.2.2.2.2 ∧ a.2.2.2.2.2.2 ≤ a.2.2.2.2.2.1 ∧ numW (nW a.2.2.2.2.2.2) a.2.2.2.2.2.2 = true) (fun a => isV (.int a.2.2.2.2.2.2))
theorem numW_int {x : Str} {i : Int} (h : numW x i = true) : PySem.intText? x = some i ∧ x.length ≤ 10 := by
  unfold numW at h
  simp only [Bool.and_eq_true] at h
  exact ⟨of_decide_eq_true h.1.1.1.1.1.1, of_decide_eq_true h.1.1.1.1.1.2⟩
theorem ok_reader_number (T : Tx K mg base) : Met P w K mg base 2 (He.ga K "Reader") "number" (sp_reader_number K) := by
  refine met_of T.f_reader_number T.c_Reader T.m_Reader_number sc_reader_number (fun _ _ _ _ _ _ us hl => match us, hl with | [_, _, _], _ => rfl) (len_sp fun _ => rfl) any_sp ?_
  rintro f cdv A outer s H vs Q E hr ⟨⟨v, wl, W, n, lo, hi, i⟩, rfl, ⟨h, hw, hx, h1, h2, hn⟩, k⟩
  have h : okR K wl v n H := h
  have hw : H wl = some (.lst (W.map V.str)) := hw
  have hn : numW (nW i) i = true := hn
  have h1 : lo ≤ i := h1
  have h2 : i ≤ hi := h2
  obtain ⟨hi1, hi2⟩ := numW_int hn
  refine ⟨_, pss_cons (ps_set (i := 3) sc_reader_number.nd rfl (Or.inl rfl) (pe_mt0 (ok_reader_next_word T) hr (by decide) (pv 0)))
      (pss_cons (ps_if (PW.pt (pw_or (pt_not (pt_val (pe_c (ok_is_integer_word T) hr (by decide) (by rfl) (pa_cons (pv 3) pa_nil)))) (pw_or1 (pt_not (pt_chain op_le op_le (pv 1) (pe_callTy c_intT (by rfl) T.b_int (by decide +kernel) (pa_cons (pv 3) pa_nil)) (pv 2)))))) (pss_one (ps_never)) (pss_nil))
      (pss_one (ps_ret (pe_callTy c_intT (by rfl) T.b_int (by decide +kernel) (pa_cons (pv 3) pa_nil))))), ?_⟩
  refine q_asg (i := 3) (p_ev (ev_rm (ev_var rfl) h rfl ea_nil (sp_mk' (v, wl, W, n, nW i) rfl fun H1 e1 => ⟨h.ex e1, e1 _ _ hw, hx⟩))) fun H1 e1 => ?_
  have ei : ∀ {σ : L2.St} {H1 : Hp} {t : TE}, Ev t σ H1 (.str (nW i)) → Ev (tCB rIntT (tCons t tNil)) σ H1 (.int i) := fun h => ev_cb (ea_cons h ea_nil) (rc_intT hi1 (by omega))
  refine q_when (b := false) (et_is (et_or (a := false) (b := false) (et_not (a := true) (et_test (p_ev (ev_cal (ea_cons (ev_var rfl) ea_nil) (sp_mk' (nW i, i) rfl fun _ _ => hn))))) fun _ => et_not (a := true) ?_) rfl) (fun c => absurd c (by decide)) (fun _ H2 e2 => ?_)
  · exact et_test (ev_chain (ev_var rfl) (ei (ev_var rfl)) (ev_var rfl) h1 h2)
  · exact s_retP (ev_p (ei (ev_var rfl))) (k.mono (e1.trans e2))
abbrev N_reader_first_number : List Str := ["self"]
theorem sc_reader_first_number : FnScope N_reader_first_number ["self"] (defScope s_reader_first_number) := ⟨rfl, rfl, rfl, by decide +kernel, rfl, by decide +kernel, by decide +kernel⟩
def sp_reader_first_number (K : PySem.W.Frag) : Sp := mkSp (α := V × Addr × List Str × Nat × Int) (fun a => [a.1]) (fun a H => okR K a.2.1 a.1 a.2.2.2.1 H ∧ H a.2.1 = some (.lst (a.2.2.1.map V.str)) ∧ a.2.2.1[a.2.2.2.1]? = some (nW a.2.2.2.2) ∧ (-20 ≤ a.2.2.2.2 ∧ a.2.2.2.2 ≤ 20) ∧ nW a.2.2.2.2 ≠ ("0" : Str)) (fun a => isV (.int a.2.2.2.2))
theorem ok_reader_first_number (T : Tx K mg base) : Met P w K mg base 3 (He.ga K "Reader") "first_number" (sp_reader_first_number K) := by
  refine met_of T.f_reader_first_number T.c_Reader T.m_Reader_first_number sc_reader_first_number (fun _ _ _ _ _ _ us hl => match us, hl with | [_], _ => rfl) (len_sp fun _ => rfl) any_sp ?_
  rintro f cdv A outer s H vs Q E hr ⟨⟨v, wl, W, n, i⟩, rfl, ⟨h, hw, hx, ⟨h1, h2⟩, h0⟩, k⟩
  have h : okR K wl v n H := h
  have hw : H wl = some (.lst (W.map V.str)) := hw
  have h1 : -20 ≤ i := h1
  have h2 : i ≤ 20 := h2
  have hn : numW (nW i) i = true := numW_ok (by omega) (by omega)
  refine ⟨_, pss_cons (ps_if (pt_cmpR op_eq (pe_mt0 (ok_reader_next_word T) hr (by decide) (pv 0)) pe_str (nomark _)) (pss_one (ps_never)) (pss_nil))
      (pss_one (ps_ret (pe_mt (ok_reader_number T) hr (by decide) (pv 0) (pa_cons (pe_un un_neg pe_int) (pa_cons pe_int pa_nil))))), ?_⟩
  refine q_when (b := false) (et_is (et_test (ev_op (p_ev (ev_rm (ev_var rfl) h rfl ea_nil (sp_mk' (v, wl, W, n, nW i) rfl fun H1 e1 => ⟨h.ex e1, e1 _ _ hw, hx⟩))) ev_c (rv_eq rfl))) ((dec_str _ _).trans (decide_eq_false h0))) (fun c => absurd c (by decide)) (fun _ H2 e2 => ?_)
  exact s_retP (ev_rm (ev_var rfl) (h.ex e2) rfl (ea2 (ev_un ev_c ru_neg) ev_c) (sp_mk' (v, wl, W, n, -20, 20, i) rfl fun H1 e1 => ⟨h.ex (e2.trans e1), e1 _ _ (e2 _ _ hw), hx, h1, h2, hn⟩)) (k.mono e2)
/-! ### trees -/
def okT : V → Say → Hp → Prop
  | v, .sq n, H => ∃ a : Addr, v = .ref a ∧ H a = some (.tup [.str "square", .int n])
  | v, .ro b c m, H => ∃ a : Addr, v = .ref a ∧ H a = some (.tup [.str "roots", .int 1, .int b, .int c, .int (m : Nat)])
  | v, .re m r, H => ∃ a : Addr, v = .ref a ∧ H a = some (.tup [.str "rest", .int (m : Nat), .int (r : Nat)])
  | v, .fo n, H => ∃ a : Addr, v = .ref a ∧ H a = some (.tup [.str "form", .int (n : Nat)])
  | v, .no s, H => ∃ (a : Addr) (x : V), v = .ref a ∧ H a = some (.tup [.str "not", x]) ∧ okT x s H
  | v, .an s t, H => ∃ (a : Addr) (x y : V), v = .ref a ∧ H a = some (.tup [.str "and", x, y]) ∧ okT x s H ∧ okT y t H
  | v, .od s t, H => ∃ (a : Addr) (x y : V), v = .ref a ∧ H a = some (.tup [.str "or", x, y]) ∧ okT x s H ∧ okT y t H
theorem mono_okT : ∀ (s : Say) (v : V) (H H' : Hp), ExF H H' → okT v s H → okT v s H'
  | .sq n, v, H, H', e, ⟨a, h1, h2⟩ => ⟨a, h1, e _ _ h2 rfl⟩
  | .ro b c m, v, H, H', e, ⟨a, h1, h2⟩ => ⟨a, h1, e _ _ h2 rfl⟩
  | .re m r, v, H, H', e, ⟨a, h1, h2⟩ => ⟨a, h1, e _ _ h2 rfl⟩
  | .fo n, v, H, H', e, ⟨a, h1, h2⟩ => ⟨a, h1, e _ _ h2 rfl⟩
  | .no s, v, H, H', e, ⟨a, x, h1, h2, h3⟩ => ⟨a, x, h1, e _ _ h2 rfl, mono_okT s x H H' e h3⟩
  | .an s t, v, H, H', e, ⟨a, x, y, h1, h2, h3, h4⟩ => ⟨a, x, y, h1, e _ _ h2 rfl, mono_okT s x H H' e h3, mono_okT t y H H' e h4⟩
  | .od s t, v, H, H', e, ⟨a, x, y, h1, h2, h3, h4⟩ => ⟨a, x, y, h1, e _ _ h2 rfl, mono_okT s x H H' e h3, mono_okT t y H H' e h4⟩
theorem okT.ex {v : V} {s : Say} {H H' : Hp} (e : Ex H H') (h : okT v s H) : okT v s H' := mono_okT s v H H' (Ex.toF e) h
def isTr (s : Say) : VP := fun _ v H => okT v s H
abbrev N_reader_rest_part : List Str := ["self", "modulus"]
theorem sc_reader_rest_part : FnScope N_reader_rest_part ["self", "modulus"] (defScope s_reader_rest_part) := ⟨rfl, rfl, rfl, by decide +kernel, rfl, by decide +kernel, by decide +kernel⟩
def sp_reader_rest_part (K : PySem.W.Frag) : Sp := mkSp (α := V × Addr × List Str × Nat × Nat × Nat) (fun a => [a.1, .int (a.2.2.2.2.1 : Nat)]) (fun a H => okR K a.2.1 a.1 a.2.2.2.1 H ∧ H a.2.1 = some (.lst (a.2.2.1.map V.str)) ∧ a.2.2.1[a.2.2.2.1]? = some (nW (a.2.2.2.2.2 : Int)) ∧ a.2.2.2.2.2 < a.2.2.2.2.1 ∧ a.2.2.2.2.1 ≤ 70) (fun a => isTr (.re a.2.2.2.2.1 a.2.2.2.2.2))
theorem ok_reader_rest_part (T : Tx K mg base) : Met P w K mg base 3 (He.ga K "Reader") "rest_part" (sp_reader_rest_part K) := by
  refine met_of T.f_reader_rest_part T.c_Reader T.m_Reader_rest_part sc_reader_rest_part (fun _ _ _ _ _ _ us hl => match us, hl with | [_, _], _ => rfl) (len_sp fun _ => rfl) any_sp ?_
  rintro f cdv A outer s H vs Q E hr ⟨⟨v, wl, W, n, m, r⟩, rfl, ⟨h, hw, hx, hrm, hm⟩, k⟩
  have h : okR K wl v n H := h
  have hw : H wl = some (.lst (W.map V.str)) := hw
  have hrm : r < m := hrm
  have hm : m ≤ 70 := hm
  have hn : numW (nW (r : Int)) (r : Int) = true := numW_ok (by omega) (by omega)
  have b1 : (0 : Int) ≤ (r : Int) := by omega
  have b2 : (r : Int) ≤ (m : Int) - 1 := by omega
  refine ⟨_, pss_one (ps_ret (pe_tup (pa_cons pe_str (pa_cons (pv 1) (pa_cons (pe_mt (ok_reader_number T) hr (by decide) (pv 0) (pa_cons pe_int (pa_cons (pe_op op_sub (pv 1) pe_int) pa_nil))) pa_nil))))), ?_⟩
  refine s_retU (eu_tup (ea_cons ev_c (ea_cons (ev_var rfl) (ea_cons (p_ev (ev_rm (ev_var rfl) h rfl (ea2 ev_c (ev_op (ev_var rfl) ev_c rv_I0)) (sp_mk' (v, wl, W, n, 0, (m : Int) - 1, (r : Int)) rfl fun H1 e1 => ⟨h.ex e1, e1 _ _ hw, hx, b1, b2, hn⟩))) ea_nil))) (by simp)) fun p H1 p0 e1 hp => k H1 _ H1 e1 (Ex.refl _) ⟨p, rfl, hp⟩
/-! ### plain_part -/
theorem drop_at {W l r : List Str} {n i : Nat} {x : Str} (h : W.drop n = l ++ r) (hi : l[i]? = some x) : W[n + i]? = some x := by
  have hl : i < l.length := (List.getElem?_eq_some_iff.mp hi).1
  have h1 : (W.drop n)[i]? = some x := by
    rw [h, List.getElem?_append, if_pos hl]
    exact hi
  rwa [List.getElem?_drop] at h1
def plainS : Say → Bool
  | .sq _ => true
  | .ro _ _ _ => true
  | .re _ _ => true
  | .fo _ => true
  | _ => false
def isPl (s : Say) (n : Nat) : VP := fun _ v H => ∃ (a : Addr) (t : V), v = .ref a ∧ H a = some (.tup [t, .int (n : Nat)]) ∧ okT t s H
def headW (s : Say) : Str := (wordsS s).headD ""
abbrev N_reader_plain_part : List Str := ["self", "word", "a", "b", "c", "many", "modulus"]
theorem sc_reader_plain_part : FnScope N_reader_plain_part ["self", "word"] (defScope s_reader_plain_part) := ⟨rfl, rfl, rfl, by decide +kernel, rfl, by decide +kernel, by decide +kernel⟩
def sp_reader_plain_part (K : PySem.W.Frag) : Sp := mkSp (α := V × Addr × List Str × Nat × Say × List Str) (fun a => [a.1, .str (headW a.2.2.2.2.1)]) (fun a H => okR K a.2.1 a.1 a.2.2.2.1 H ∧ H a.2.1 = some (.lst (a.2.2.1.map V.str)) ∧ plainS a.2.2.2.2.1 = true ∧ SayOk a.2.2.2.2.1 ∧ a.2.2.1.drop a.2.2.2.1 = (wordsS a.2.2.2.2.1).tail ++ a.2.2.2.2.2) (fun a => isPl a.2.2.2.2.1 ((wordsS a.2.2.2.2.1).length - 1))
/-- a tuple by what is known of its items -/
theorem ep_tup {σ : L2.St} {H : Hp} {ts : TA} {PA : List V → Hp → Prop} (h : EvAP ts σ H PA) (hm : ∀ us H H', Ex H H' → PA us H → PA us H') (hl : ∀ us H1, PA us H1 → us.length ≤ 100000) : EvP (tTup ts) σ H (fun H0 x H1 => ∃ a us, x = .ref a ∧ H0 a = none ∧ H1 a = some (.tup us) ∧ PA us H1) := fun H1 e Q q =>
  h H1 e _ fun us H2 e2 p => ⟨sz_of (hl us H2 p), fun a ha => q H2 _ _ e2 (Ex.new ha) ⟨a, us, rfl, ha, upd_same, hm _ _ _ (Ex.new ha) p⟩⟩
/-- (tree, n) -/
theorem ep_pl {σ : L2.St} {H : Hp} {ta tb : TE} {s : Say} {n : Nat} (h : EvP ta σ H (isTr s)) (hn : ∀ H1, Ex H H1 → Ev tb σ H1 (.int (n : Nat))) : EvP (tTup (tCons ta (tCons tb tNil))) σ H (isPl s n) :=
  (ep_tup (PA := fun us H => ∃ t, us = [t, .int (n : Nat)] ∧ okT t s H) (eap_cons h fun H0 v H1 e0 e1 hv => eap_consV (hn H1 (e0.trans e1)) (eap_nil fun H2 e2 => ⟨v, rfl, okT.ex e2 hv⟩)) (fun us H H' e ⟨t, h1, h2⟩ => ⟨t, h1, okT.ex e h2⟩) fun us H ⟨t, h1, _⟩ => by rw [h1]; simp).imp
    fun H0 x H1 _ _ ⟨a, us, h1, _, h3, t, h4, h5⟩ => ⟨a, t, h1, by rw [h3, h4], h5⟩
theorem ok_reader_plain_part (T : Tx K mg base) : Met P w K mg base 5 (He.ga K "Reader") "plain_part" (sp_reader_plain_part K) := by
  refine met_of T.f_reader_plain_part T.c_Reader T.m_Reader_plain_part sc_reader_plain_part (fun _ _ _ _ _ _ us hl => match us, hl with | [_, _], _ => rfl) (len_sp fun _ => rfl) any_sp ?_
  rintro f cdv A outer s H vs Q E hr ⟨⟨v, wl, W, n, sy, rest⟩, rfl, ⟨gh, ghw, ghpl, ghok, ghd⟩, gk⟩
  have h : okR K wl v n H := gh
  have hw : H wl = some (.lst (W.map V.str)) := ghw
  have hd : W.drop n = (wordsS sy).tail ++ rest := ghd
  have hpl : plainS sy = true := ghpl
  have hok : SayOk sy := ghok
  have k : Gives (isPl sy ((wordsS sy).length - 1)) H Q := gk
  refine ⟨_, pss_cons (ps_if (pt_cmpR op_eq (pv 1) pe_str (nomark _)) (pss_one (ps_ret (pe_tup (pa_cons (pe_tup (pa_cons pe_str (pa_cons (pe_mt (ok_reader_number T) hr (by decide) (pv 0) (pa_cons (pe_un un_neg pe_int) (pa_cons pe_int pa_nil))) pa_nil))) (pa_cons pe_int pa_nil))))) (pss_nil))
      (pss_cons (ps_if (pt_cmpR op_eq (pv 1) pe_str (nomark _)) (pss_one (ps_ret (pe_tup (pa_cons (pe_tup (pa_cons pe_str (pa_cons (pe_mt (ok_reader_number T) hr (by decide) (pv 0) (pa_cons pe_int (pa_cons pe_int pa_nil))) pa_nil))) (pa_cons pe_int pa_nil))))) (pss_nil))
      (pss_cons (ps_if (pt_cmpR op_eq (pv 1) pe_str (nomark _)) (pss_cons (ps_set (i := 6) sc_reader_plain_part.nd rfl (Or.inl rfl) (pe_mt (ok_reader_number T) hr (by decide) (pv 0) (pa_cons pe_int (pa_cons pe_int pa_nil))))
        (pss_one (ps_ret (pe_tup (pa_cons (pe_mt (ok_reader_rest_part T) hr (by decide) (pe_mt (ok_reader_take T) hr (by decide) (pe_mt (ok_reader_further T) hr (by decide) (pv 0) (pa_cons pe_int pa_nil)) (pa_cons pe_str pa_nil)) (pa_cons (pv 6) pa_nil)) (pa_cons pe_int pa_nil)))))) (pss_nil))
      (pss_cons (ps_set (i := 2) sc_reader_plain_part.nd rfl (Or.inl rfl) (pe_mt0 (ok_reader_first_number T) hr (by decide) (pv 0)))
      (pss_cons (ps_set (i := 3) sc_reader_plain_part.nd rfl (Or.inl rfl) (pe_mt (ok_reader_number T) hr (by decide) (pe_mt (ok_reader_further T) hr (by decide) (pv 0) (pa_cons pe_int pa_nil)) (pa_cons (pe_un un_neg pe_int) (pa_cons pe_int pa_nil))))
      (pss_cons (ps_set (i := 4) sc_reader_plain_part.nd rfl (Or.inl rfl) (pe_mt (ok_reader_number T) hr (by decide) (pe_mt (ok_reader_further T) hr (by decide) (pv 0) (pa_cons pe_int pa_nil)) (pa_cons (pe_un un_neg pe_int) (pa_cons pe_int pa_nil))))
      (pss_cons (ps_set (i := 5) sc_reader_plain_part.nd rfl (Or.inl rfl) (pe_mt (ok_reader_number T) hr (by decide) (pe_mt (ok_reader_take T) hr (by decide) (pe_mt (ok_reader_further T) hr (by decide) (pv 0) (pa_cons pe_int pa_nil)) (pa_cons pe_str pa_nil)) (pa_cons pe_int (pa_cons pe_int pa_nil))))
      (pss_one (ps_ret (pe_tup (pa_cons (pe_tup (pa_cons pe_str (pa_cons (pv 2) (pa_cons (pv 3) (pa_cons (pv 4) (pa_cons (pv 5) pa_nil)))))) (pa_cons pe_int pa_nil))))))))))), ?_⟩
  have num : ∀ (x : V) (H1 : Hp) (m : Nat) (lo hi i : Int), okR K wl x m H1 → H1 wl = some (.lst (W.map V.str)) → W[m]? = some (nW i) → lo ≤ i → i ≤ hi → -30 ≤ i → i ≤ 70 → SpP (sp_reader_number K) [x, .int lo, .int hi] H1 (isV (.int i)) := fun x H1 m lo hi i h1 h2 h3 h4 h5 h6 h7 =>
    sp_mk' (x, wl, W, m, lo, hi, i) rfl fun H2 e2 => ⟨h1.ex e2, e2 _ _ h2, h3, h4, h5, numW_ok h6 h7⟩
  have hit : ∀ {x y : Str} {b : Bool} {σ : L2.St} {H1 : Hp} {t : TE}, Ev t σ H1 (.str x) → decide (x = y) = b → EvT (tTest (tOp rEq t (tC (.str y)))) σ H1 b := fun h e => et_is (et_test (ev_op h ev_c (rv_eq rfl))) ((dec_str _ _).trans e)
  have fur : ∀ (m : Nat) {σ : L2.St} {H1 : Hp} {t : TE}, Ex H H1 → Ev t σ H1 v → EvP (tMet (He.ga K "Reader") "further" (sp_reader_further K) t (tCons (tC (.int (m : Nat))) tNil)) σ H1 (fun _ x H2 => okR K wl x (n + m) H2) := fun m {σ H1 t} e1 ht =>
    ev_rm ht (h.ex e1) rfl (ea_cons ev_c ea_nil) (sp_mk' (v, wl, n, m) rfl fun H2 e2 => h.ex (e1.trans e2))
  have tak : ∀ (m : Nat) (x : Str) {σ : L2.St} {H1 : Hp} {t : TE}, Ex H H1 → W[m]? = some x → EvP t σ H1 (fun _ y H2 => okR K wl y m H2) → EvP (tMet (He.ga K "Reader") "take" (sp_reader_take K) t (tCons (tC (.str x)) tNil)) σ H1 (fun _ y H2 => okR K wl y (m + 1) H2) := fun m x {σ H1 t} e1 hx ht =>
    ev_rmP ht rfl (fun _ _ => ea_cons ev_c ea_nil) fun y H2 e2 hy => sp_mk' (y, wl, W, m, x) rfl fun H3 e3 => ⟨hy.ex e3, e3 _ _ ((e1.trans e2) _ _ hw), hx⟩
  cases sy with
  | sq i =>
    have b1 : -30 ≤ i := hok.1
    have b2 : i ≤ 70 := hok.2
    have hd : W.drop n = [nW i] ++ rest := hd
    refine q_if (hit (x := "square") (b := true) (ev_var rfl) (by decide +kernel)) (fun _ H1 e1 => ?_) (fun c => absurd c (by decide))
    refine s_retP (P := isPl (.sq i) 1) (ep_pl (n := 1) ?_ fun _ _ => ev_c) (k.mono e1)
    exact (eu_p (eu2 ev_c (p_ev (ev_rm (ev_var rfl) (h.ex e1) rfl (ea2 (ev_un ev_c ru_neg) ev_c) (num v H1 n (-1000) 1000 i (h.ex e1) (e1 _ _ hw) (drop_at (i := 0) hd rfl) (by omega) (by omega) b1 b2))))).imp fun _ x _ _ _ ⟨a, h1, _, h3⟩ => ⟨a, h1, h3⟩
  | fo i =>
    have b1 : 0 < i := hok.1
    have b2 : i ≤ 60 := hok.2
    have hd : W.drop n = [nW (i : Int)] ++ rest := hd
    refine q_when (hit (x := "form") (b := false) (ev_var rfl) (by decide +kernel)) (fun c => absurd c (by decide)) (fun _ H0 e0 => ?_)
    refine q_if (hit (x := "form") (b := true) (ev_var rfl) (by decide +kernel)) (fun _ H1 e1 => ?_) (fun c => absurd c (by decide))
    have e01 := e0.trans e1
    refine s_retP (P := isPl (.fo i) 1) (ep_pl (n := 1) ?_ fun _ _ => ev_c) (k.mono e01)
    exact (eu_p (eu2 ev_c (p_ev (ev_rm (ev_var rfl) (h.ex e01) rfl (ea2 ev_c ev_c) (num v H1 n 1 60 i (h.ex e01) (e01 _ _ hw) (drop_at (i := 0) hd rfl) (by omega) (by omega) (by omega) (by omega)))))).imp fun _ x _ _ _ ⟨a, h1, _, h3⟩ => ⟨a, h1, h3⟩
  | re m r =>
    have b1 : 0 < m := hok.1
    have b2 : m ≤ 70 := hok.2.1
    have b3 : r < m := hok.2.2
    have hd : W.drop n = [nW (m : Int), "is", nW (r : Int)] ++ rest := hd
    refine q_when (hit (x := "rest") (b := false) (ev_var rfl) (by decide +kernel)) (fun c => absurd c (by decide)) (fun _ H0 e0 => ?_)
    refine q_when (hit (x := "rest") (b := false) (ev_var rfl) (by decide +kernel)) (fun c => absurd c (by decide)) (fun _ H1 e1 => ?_)
    refine q_if (hit (x := "rest") (b := true) (ev_var rfl) (by decide +kernel)) (fun _ H2 e2 => ?_) (fun c => absurd c (by decide))
    have e02 := e0.trans (e1.trans e2)
    refine q_asg (i := 6) (p_ev (ev_rm (ev_var rfl) (h.ex e02) rfl (ea2 ev_c ev_c) (num v H2 n 1 400 m (h.ex e02) (e02 _ _ hw) (drop_at (i := 0) hd rfl) (by omega) (by omega) (by omega) (by omega)))) fun H3 e3 => ?_
    have e03 := e02.trans e3
    refine s_retP (P := isPl (.re m r) 3) (ep_pl (n := 3) ?_ fun _ _ => ev_c) (k.mono e03)
    exact ev_rmP (tak (n + 1) "is" e03 (drop_at (i := 1) hd rfl) (fur 1 e03 (ev_var rfl))) rfl (fun _ _ => ea_cons (ev_var rfl) ea_nil) fun x H4 e4 hx => sp_mk' (x, wl, W, n + 1 + 1, m, r) rfl fun H5 e5 => ⟨hx.ex e5, (e03.trans (e4.trans e5)) _ _ hw, drop_at (i := 2) hd rfl, b3, b2⟩
  | ro b c m =>
    have b1 : -20 ≤ b ∧ b ≤ 20 := hok.1
    have b2 : -20 ≤ c ∧ c ≤ 20 := hok.2.1
    have b3 : m ≤ 2 := hok.2.2
    have hd : W.drop n = [nW 1, nW b, nW c, "are", nW (m : Int)] ++ rest := hd
    refine q_when (hit (x := "roots") (b := false) (ev_var rfl) (by decide +kernel)) (fun c => absurd c (by decide)) (fun _ H0 e0 => ?_)
    refine q_when (hit (x := "roots") (b := false) (ev_var rfl) (by decide +kernel)) (fun c => absurd c (by decide)) (fun _ H1 e1 => ?_)
    refine q_when (hit (x := "roots") (b := false) (ev_var rfl) (by decide +kernel)) (fun c => absurd c (by decide)) (fun _ H2 e2 => ?_)
    have e02 := e0.trans (e1.trans e2)
    refine q_asg (i := 2) (p_ev (ev_rm (ev_var rfl) (h.ex e02) rfl ea_nil (sp_mk' (v, wl, W, n, 1) rfl fun H3 e3 => ⟨h.ex (e02.trans e3), e3 _ _ (e02 _ _ hw), drop_at (i := 0) hd rfl, ⟨by show (-20 : Int) ≤ 1; decide, by show (1 : Int) ≤ 20; decide⟩, by show nW 1 ≠ "0"; decide +kernel⟩))) fun H3 e3 => ?_
    have e03 := e02.trans e3
    refine q_asg (i := 3) (p_ev (ev_rmP (fur 1 e03 (ev_var rfl)) rfl (fun _ _ => ea2 (ev_un ev_c ru_neg) ev_c) fun x H4 e4 hx => num x H4 (n + 1) (-20) 20 b hx ((e03.trans e4) _ _ hw) (drop_at (i := 1) hd rfl) (by omega) (by omega) (by omega) (by omega))) fun H4 e4 => ?_
    have e04 := e03.trans e4
    refine q_asg (i := 4) (p_ev (ev_rmP (fur 2 e04 (ev_var rfl)) rfl (fun _ _ => ea2 (ev_un ev_c ru_neg) ev_c) fun x H5 e5 hx => num x H5 (n + 2) (-20) 20 c hx ((e04.trans e5) _ _ hw) (drop_at (i := 2) hd rfl) (by omega) (by omega) (by omega) (by omega))) fun H5 e5 => ?_
    have e05 := e04.trans e5
    refine q_asg (i := 5) (p_ev (ev_rmP (tak (n + 3) "are" e05 (drop_at (i := 3) hd rfl) (fur 3 e05 (ev_var rfl))) rfl (fun _ _ => ea2 ev_c ev_c) fun x H6 e6 hx => num x H6 (n + 3 + 1) 0 2 (m : Int) hx ((e05.trans e6) _ _ hw) (drop_at (i := 4) hd rfl) (by omega) (by omega) (by omega) (by omega))) fun H6 e6 => ?_
    refine s_retP (P := isPl (.ro b c m) 5) (ep_pl (n := 5) ?_ fun _ _ => ev_c) (k.mono (e05.trans e6))
    exact (eu_p (eu_tup (ea_cons ev_c (ea_cons (ev_var rfl) (ea_cons (ev_var rfl) (ea_cons (ev_var rfl) (ea_cons (ev_var rfl) ea_nil))))) (by simp))).imp fun _ x _ _ _ ⟨a, h1, _, h3⟩ => ⟨a, h1, h3⟩
  | no s => cases hpl
  | an s t => cases hpl
  | od s t => cases hpl
end
end EP
end

section
set_option Elab.async false
set_option linter.all false
set_option maxRecDepth 100000
set_option maxHeartbeats 4000000
/-! E3: part, whole, Saying. -/
namespace EP
open PySem PySem.Spec PyProof.Rows L2 Evl
section
variable {P : Program} {w : World} {K : PySem.W.Frag} {mg : Str → Option Value} {base : Heap}
/-- (tree, reader) -/
def isPt (K : PySem.W.Frag) (wl : Addr) (s : Say) (n : Nat) : VP := fun _ v H => ∃ (a : Addr) (t r : V), v = .ref a ∧ H a = some (.tup [t, r]) ∧ okT t s H ∧ okR K wl r n H
abbrev N_reader_part : List Str := ["self", "depth", "word", "joint", "first", "middle", "second", "last", "found", "many"]
theorem sc_reader_part : FnScope N_reader_part ["self", "depth"] (defScope s_reader_part) := ⟨rfl, rfl, rfl, by decide +kernel, rfl, by decide +kernel, by decide +kernel⟩
def sp_reader_part (K : PySem.W.Frag) (h : Nat) : Sp := mkSp (α := V × Addr × List Str × Nat × Nat × Say × List Str) (fun a => [a.1, .int (a.2.2.2.2.1 : Nat)]) (fun a H => okR K a.2.1 a.1 a.2.2.2.1 H ∧ H a.2.1 = some (.lst (a.2.2.1.map V.str)) ∧ SayOk a.2.2.2.2.2.1 ∧ a.2.2.1.drop a.2.2.2.1 = wordsS a.2.2.2.2.2.1 ++ a.2.2.2.2.2.2 ∧ hgt a.2.2.2.2.2.1 < h ∧ a.2.2.2.2.1 + pard a.2.2.2.2.2.1 ≤ 8)
  (fun a => isPt K a.2.1 a.2.2.2.2.2.1 (a.2.2.2.1 + (wordsS a.2.2.2.2.2.1).length))
theorem ep_pt {σ : L2.St} {H : Hp} {ta tb : TE} {wl : Addr} {s : Say} {n : Nat} (h : EvP ta σ H (isTr s)) (hn : ∀ H1, Ex H H1 → EvP tb σ H1 (fun _ x H2 => okR K wl x n H2)) : EvP (tTup (tCons ta (tCons tb tNil))) σ H (isPt K wl s n) :=
  (ep_tup (PA := fun us H => ∃ t r, us = [t, r] ∧ okT t s H ∧ okR K wl r n H) (eap_cons h fun H0 v H1 e0 e1 hv => eap_cons (hn H1 (e0.trans e1)) fun H2 y H3 e2 e3 hy => eap_nil fun H4 e4 => ⟨v, y, rfl, okT.ex ((e2.trans e3).trans e4) hv, hy.ex e4⟩) (fun us H H' e ⟨t, r, h1, h2, h3⟩ => ⟨t, r, h1, okT.ex e h2, h3.ex e⟩) fun us H ⟨t, r, h1, _⟩ => by rw [h1]; simp).imp
    fun H0 x H1 _ _ ⟨a, us, h1, _, h3, t, r, h4, h5, h6⟩ => ⟨a, t, r, h1, by rw [h3, h4], h5, h6⟩
theorem part_vac (T : Tx K mg base) : Met P w K mg base 6 (He.ga K "Reader") "part" (sp_reader_part K 0) := by
  refine ⟨_, T.c_Reader, T.m_Reader_part, ?_⟩
  rintro A outer s H us vs Q E hr e0 r ⟨a, _, ⟨_, _, _, _, hh, _⟩, _⟩
  exact absurd hh (Nat.not_lt_zero _)
theorem drop_cons {W l r : List Str} {n : Nat} {x : Str} (h : W.drop n = x :: l ++ r) : W.drop (n + 1) = l ++ r := by
  rw [← List.drop_drop, h]
  rfl
theorem drop_add {W l r : List Str} {n : Nat} (h : W.drop n = l ++ r) : W.drop (n + l.length) = r := by
  rw [← List.drop_drop, h, List.drop_left]
theorem part_step (T : Tx K mg base) (h : Nat) (c_reader_part : Met P w K mg base (6 + h) (He.ga K "Reader") "part" (sp_reader_part K h)) : Met P w K mg base (6 + h + 1) (He.ga K "Reader") "part" (sp_reader_part K (h + 1)) := by
  refine met_of T.f_reader_part T.c_Reader T.m_Reader_part sc_reader_part (fun _ _ _ _ _ _ us hl => match us, hl with | [_, _], _ => rfl) (len_sp fun _ => rfl) any_sp ?_
  rintro f cdv A outer s H vs Q E hr ⟨⟨v, wl, W, n, dp, sy, rest⟩, rfl, ⟨gr, ghw, ghok, ghd, ghh, ghp⟩, gk⟩
  have hR : okR K wl v n H := gr
  have hw : H wl = some (.lst (W.map V.str)) := ghw
  have hd : W.drop n = wordsS sy ++ rest := ghd
  have hok : SayOk sy := ghok
  have hh : hgt sy < h + 1 := ghh
  have hp : dp + pard sy ≤ 8 := ghp
  have k : Gives (isPt K wl sy (n + (wordsS sy).length)) H Q := gk
  have le4 : 4 ≤ 6 + h := by omega
  refine ⟨_, pss_cons (ps_set (i := 2) sc_reader_part.nd rfl (Or.inl rfl) (pe_mt0 (ok_reader_next_word T) hr (by omega) (pv 0)))
      (pss_cons (ps_if (pt_cmpR (op_in_seqk K rfl) (pv 2) (pe_tup (pa_cons pe_str (pa_cons pe_str (pa_cons pe_str (pa_cons pe_str pa_nil))))) (by rfl)) (pss_cons (ps_asg (pe_mt (ok_reader_plain_part T) hr (by omega) (pe_mt (ok_reader_further T) hr (by omega) (pv 0) (pa_cons pe_int pa_nil)) (pa_cons (pv 2) pa_nil)) (pg_tup (by rfl) (pgs_cons (pg_name (i := 8) sc_reader_part.nd rfl (Or.inl rfl)) (pgs_cons (pg_name (i := 9) sc_reader_part.nd rfl (Or.inl rfl)) pgs_nil))))
        (pss_one (ps_ret (pe_tup (pa_cons (pv 8) (pa_cons (pe_mt (ok_reader_further T) hr (by omega) (pv 0) (pa_cons (pe_op op_add pe_int (pv 9)) pa_nil)) pa_nil)))))) (pss_nil))
      (pss_cons (ps_if (pt_cmpR op_eq (pv 2) pe_str (nomark _)) (pss_cons (ps_asg (pe_mt c_reader_part hr (by omega) (pe_mt (ok_reader_further T) hr (by omega) (pv 0) (pa_cons pe_int pa_nil)) (pa_cons (pv 1) pa_nil)) (pg_tup (by rfl) (pgs_cons (pg_name (i := 8) sc_reader_part.nd rfl (Or.inl rfl)) (pgs_cons (pg_name (i := 7) sc_reader_part.nd rfl (Or.inl rfl)) pgs_nil))))
        (pss_one (ps_ret (pe_tup (pa_cons (pe_tup (pa_cons pe_str (pa_cons (pv 8) pa_nil))) (pa_cons (pv 7) pa_nil)))))) (pss_nil))
      (pss_cons (ps_if (PW.pt (pw_or (pt_cmpR op_ne (pv 2) pe_str (nomark _)) (pw_or1 (pt_cmpR op_eq (pv 1) (pe_gi rfl T.i_MOST_OPEN) (nomark _))))) (pss_one (ps_never)) (pss_nil))
      (pss_cons (ps_asg (pe_mt c_reader_part hr (by omega) (pe_mt (ok_reader_further T) hr (by omega) (pv 0) (pa_cons pe_int pa_nil)) (pa_cons (pe_op op_add (pv 1) pe_int) pa_nil)) (pg_tup (by rfl) (pgs_cons (pg_name (i := 4) sc_reader_part.nd rfl (Or.inl rfl)) (pgs_cons (pg_name (i := 5) sc_reader_part.nd rfl (Or.inl rfl)) pgs_nil))))
      (pss_cons (ps_set (i := 3) sc_reader_part.nd rfl (Or.inl rfl) (pe_mt0 (ok_reader_next_word T) hr (by omega) (pv 5)))
      (pss_cons (ps_if (pt_cmpR (op_notIn_seqk K rfl) (pv 3) (pe_tup (pa_cons pe_str (pa_cons pe_str pa_nil))) (by rfl)) (pss_one (ps_never)) (pss_nil))
      (pss_cons (ps_asg (pe_mt c_reader_part hr (by omega) (pe_mt (ok_reader_further T) hr (by omega) (pv 5) (pa_cons pe_int pa_nil)) (pa_cons (pe_op op_add (pv 1) pe_int) pa_nil)) (pg_tup (by rfl) (pgs_cons (pg_name (i := 6) sc_reader_part.nd rfl (Or.inl rfl)) (pgs_cons (pg_name (i := 7) sc_reader_part.nd rfl (Or.inl rfl)) pgs_nil))))
      (pss_one (ps_ret (pe_tup (pa_cons (pe_tup (pa_cons (pv 3) (pa_cons (pv 4) (pa_cons (pv 6) pa_nil)))) (pa_cons (pe_mt (ok_reader_take T) hr (by omega) (pv 7) (pa_cons pe_str pa_nil)) pa_nil)))))))))))), ?_⟩
  have hit : ∀ {x y : Str} {b : Bool} {σ : L2.St} {H1 : Hp} {t : TE}, Ev t σ H1 (.str x) → decide (x = y) = b → EvT (tTest (tOp rEq t (tC (.str y)))) σ H1 b := fun h e => et_is (et_test (ev_op h ev_c (rv_eq rfl))) ((dec_str _ _).trans e)
  have fur : ∀ (r : V) (m j : Nat) {σ : L2.St} {H1 : Hp} {t u : TE}, okR K wl r m H1 → Ev t σ H1 r → Ev u σ H1 (.int (j : Nat)) → EvP (tMet (He.ga K "Reader") "further" (sp_reader_further K) t (tCons u tNil)) σ H1 (fun _ x H2 => okR K wl x (m + j) H2) := fun r m j {σ H1 t u} hr ht hu =>
    ev_rm ht hr rfl (ea_cons hu ea_nil) (sp_mk' (r, wl, m, j) rfl fun H2 e2 => hr.ex e2)
  have nxt : ∀ (r : V) (m : Nat) (x : Str) {σ : L2.St} {H1 : Hp} {t : TE}, Ex H H1 → okR K wl r m H1 → W[m]? = some x → Ev t σ H1 r → Ev (tMet (He.ga K "Reader") "next_word" (sp_reader_next_word K) t tNil) σ H1 (.str x) := fun r m x {σ H1 t} e1 hr hx ht =>
    p_ev (ev_rm ht hr rfl ea_nil (sp_mk' (r, wl, W, m, x) rfl fun H2 e2 => ⟨hr.ex e2, (e1.trans e2) _ _ hw, hx⟩))
  -- a part further on
  have sub : ∀ (t : Say) (d : Nat) (rs : List Str) (m : Nat) {σ : L2.St} {H1 : Hp} {tr td : TE}, Ex H H1 → SayOk t → W.drop m = wordsS t ++ rs → hgt t < h → d + pard t ≤ 8 → EvP tr σ H1 (fun _ x H2 => okR K wl x m H2) → (∀ H2, Ex H1 H2 → Ev td σ H2 (.int (d : Nat))) →
      EvP (tMet (He.ga K "Reader") "part" (sp_reader_part K h) tr (tCons td tNil)) σ H1 (isPt K wl t (m + (wordsS t).length)) := fun t d rs m {σ H1 tr td} e1 h1 h2 h3 h4 h5 h6 =>
    ev_rmP h5 rfl (fun H2 e2 => ea_cons (h6 H2 e2) ea_nil) fun x H2 e2 hx => sp_mk' (x, wl, W, m, d, t, rs) rfl fun H3 e3 => ⟨hx.ex e3, ((e1.trans e2).trans e3) _ _ hw, h1, h2, h3, h4⟩
  have kinds : ∀ {x : Str} {b : Bool} {σ : L2.St} {H1 : Hp} {t : TE}, Ev t σ H1 (.str x) → inV (.str x) [.str "square", .str "form", .str "rest", .str "roots"] = b →
      EvT (tTest (tOp (rIn K false) t (tTup (tCons (tC (.str "square")) (tCons (tC (.str "form")) (tCons (tC (.str "rest")) (tCons (tC (.str "roots")) tNil))))))) σ H1 b := fun h e => et_is (et_test (ev_inU h (eu_tup (ea_cons ev_c (ea_cons ev_c (ea_cons ev_c (ea_cons ev_c ea_nil)))) (by simp)) rfl rfl)) e
  have tree : ∀ {t : Say} {x : V} {σ : L2.St} {H1 : Hp} {te : TE}, Ev te σ H1 x → okT x t H1 → EvP te σ H1 (isTr t) := fun {t x σ H1 te} h1 h2 H2 e2 Q2 q2 => h1 H2 e2 _ fun H3 e3 => q2 H2 x H3 (Ex.refl H2) e3 (okT.ex (e2.trans e3) h2)
  by_cases hpl : plainS sy = true
  · have hin : inV (.str (headW sy)) [.str "square", .str "form", .str "rest", .str "roots"] = true := by
      cases sy with
      | sq i => exact (by decide +kernel : inV (.str "square") [.str "square", .str "form", .str "rest", .str "roots"] = true)
      | ro b c m => exact (by decide +kernel : inV (.str "roots") [.str "square", .str "form", .str "rest", .str "roots"] = true)
      | re m r => exact (by decide +kernel : inV (.str "rest") [.str "square", .str "form", .str "rest", .str "roots"] = true)
      | fo i => exact (by decide +kernel : inV (.str "form") [.str "square", .str "form", .str "rest", .str "roots"] = true)
      | no s => cases hpl
      | an s t => cases hpl
      | od s t => cases hpl
    have hwd : wordsS sy = headW sy :: (wordsS sy).tail := by
      cases hc : wordsS sy with
      | nil => exact absurd hc (words_ne sy)
      | cons x t =>
        unfold headW
        rw [hc]
        rfl
    have hlen : 1 + ((wordsS sy).length - 1) = (wordsS sy).length := by
      rw [hwd]
      simp
      omega
    have hd1 : W.drop n = headW sy :: (wordsS sy).tail ++ rest := by rw [hd, ← hwd]
    refine q_asg (i := 2) (nxt v n (headW sy) (Ex.refl H) hR (drop_at (i := 0) hd1 rfl) (ev_var rfl)) fun H1 e1 => ?_
    refine q_if (kinds (ev_var rfl) hin) (fun _ H2 e2 => ?_) (fun c => absurd c (by decide))
    have e02 := e1.trans e2
    refine ev_rmP (R := isPl sy ((wordsS sy).length - 1)) (fur v n 1 (hR.ex e02) (ev_var rfl) ev_c) rfl (fun _ _ => ea_cons (ev_var rfl) ea_nil) (fun x H3 e3 hx => sp_mk' (x, wl, W, n + 1, sy, rest) rfl fun H4 e4 => ⟨hx.ex e4, (e02.trans (e3.trans e4)) _ _ hw, hpl, hok, drop_cons hd1⟩) H2 (Ex.refl H2) _ fun H0 y H3 e0 e3 ⟨a, t, ev, ha, ht⟩ => ?_
    subst ev
    refine ⟨a, _, rfl, SqT.of ha, rfl, _, _, rfl, _, _, rfl, rfl, ?_⟩
    have e03 := e02.trans (e0.trans e3)
    refine s_retP (P := isPt K wl sy (n + (wordsS sy).length)) (ep_pt (tree (ev_var rfl) ht) fun H4 e4 => ?_) (k.mono e03)
    exact (fur v n (1 + ((wordsS sy).length - 1)) (hR.ex (e03.trans e4)) (ev_var rfl) (ev_eqI (ev_op ev_c (ev_var rfl) rv_I0) (add_nat 1 ((wordsS sy).length - 1)))).imp fun _ x _ _ _ q => by
      rw [hlen] at q
      exact q
  by_cases hno : ∃ t, sy = .no t
  · obtain ⟨t, et⟩ := hno
    have hd1 : W.drop n = ("not" : Str) :: wordsS t ++ rest := by rw [hd, et]; rfl
    have o1 : SayOk t := by rw [et] at hok; exact hok
    have g1 : hgt t < h := by
      rw [et] at hh
      have : hgt t + 1 < h + 1 := hh
      omega
    have p1 : dp + pard t ≤ 8 := by rw [et] at hp; exact hp
    refine q_asg (i := 2) (nxt v n "not" (Ex.refl H) hR (drop_at (i := 0) hd1 rfl) (ev_var rfl)) fun H1 e1 => ?_
    refine q_when (b := false) (kinds (ev_var rfl) (by decide +kernel)) (fun c => absurd c (by decide)) (fun _ H2 e2 => ?_)
    refine q_if (b := true) (hit (ev_var rfl) (by decide +kernel)) (fun _ H3 e3 => ?_) (fun c => absurd c (by decide))
    have e03 := e1.trans (e2.trans e3)
    refine sub t dp rest (n + 1) e03 o1 (drop_cons hd1) g1 p1 (fur v n 1 (hR.ex e03) (ev_var rfl) ev_c) (fun _ _ => ev_var rfl) H3 (Ex.refl H3) _ fun H0 y H4 e0 e4 ⟨a, tv, rv, ev, ha, ht, hr⟩ => ?_
    subst ev
    refine ⟨a, _, rfl, SqT.of ha, rfl, _, _, rfl, _, _, rfl, rfl, ?_⟩
    have e04 := e03.trans (e0.trans e4)
    dsimp only
    refine s_retP (P := isPt K wl sy (n + (wordsS sy).length)) ?_ (k.mono e04)
    refine ep_pt ?tr ?rd
    case tr =>
      refine (eu_p (eu2 ev_c (ev_var rfl))).imp fun _ x H5 eA eB ⟨b, h1, _, h3⟩ => ?_
      show okT x sy H5
      rw [et]
      exact ⟨b, tv, h1, h3, okT.ex (eA.trans eB) ht⟩
    case rd =>
      intro H5 e5 H6 e6 Q6 q6
      refine (ev_var rfl) H6 (e5.trans e6) _ fun H7 e7 => q6 H6 rv H7 (Ex.refl H6) e7 ?_
      have : okR K wl rv (n + 1 + (wordsS t).length) H7 := hr.ex (e5.trans (e6.trans e7))
      rw [et]
      show okR K wl rv (n + ((wordsS t).length + 1)) H7
      rw [show n + ((wordsS t).length + 1) = n + 1 + (wordsS t).length from by omega]
      exact this
  obtain ⟨js, t1, t2, hws, hsy, o1, o2, g1, g2, p1, p2, hjs⟩ : ∃ (js : Str) (t1 t2 : Say), wordsS sy = ("(" : Str) :: (wordsS t1 ++ js :: (wordsS t2 ++ [(")" : Str)])) ∧ (∀ (a : Addr) (x y : V) (H' : Hp), H' a = some (.tup [.str js, x, y]) → okT x t1 H' → okT y t2 H' → okT (.ref a) sy H') ∧ SayOk t1 ∧ SayOk t2 ∧ hgt t1 < h ∧ hgt t2 < h ∧ dp + 1 + pard t1 ≤ 8 ∧ dp + 1 + pard t2 ≤ 8 ∧ (js = "and" ∨ js = "or") := by
    cases sy with
    | sq i => exact absurd rfl hpl
    | ro b c m => exact absurd rfl hpl
    | re m r => exact absurd rfl hpl
    | fo i => exact absurd rfl hpl
    | no t => exact absurd ⟨t, rfl⟩ hno
    | an t1 t2 =>
      have e1 : max (hgt t1) (hgt t2) + 1 < h + 1 := hh
      have e2 : dp + (max (pard t1) (pard t2) + 1) ≤ 8 := hp
      exact ⟨"and", t1, t2, rfl, fun a x y H' h1 h2 h3 => ⟨a, x, y, rfl, h1, h2, h3⟩, hok.1, hok.2, by omega, by omega, by omega, by omega, .inl rfl⟩
    | od t1 t2 =>
      have e1 : max (hgt t1) (hgt t2) + 1 < h + 1 := hh
      have e2 : dp + (max (pard t1) (pard t2) + 1) ≤ 8 := hp
      exact ⟨"or", t1, t2, rfl, fun a x y H' h1 h2 h3 => ⟨a, x, y, rfl, h1, h2, h3⟩, hok.1, hok.2, by omega, by omega, by omega, by omega, .inr rfl⟩
  have hlen : (wordsS sy).length = 1 + (wordsS t1).length + 1 + (wordsS t2).length + 1 := by
    rw [hws]
    simp
    omega
  have d0 : W.drop n = ("(" : Str) :: (wordsS t1 ++ js :: (wordsS t2 ++ [(")" : Str)])) ++ rest := by rw [hd, hws]
  have d1 : W.drop (n + 1) = wordsS t1 ++ (js :: (wordsS t2 ++ (")" : Str) :: rest)) := by
    rw [drop_cons d0]
    simp
  have d2 : W.drop (n + 1 + (wordsS t1).length) = js :: (wordsS t2) ++ ((")" : Str) :: rest) := by
    rw [drop_add d1]
    simp
  have d3 : W.drop (n + 1 + (wordsS t1).length + 1) = wordsS t2 ++ ((")" : Str) :: rest) := drop_cons d2
  have d4 : W.drop (n + 1 + (wordsS t1).length + 1 + (wordsS t2).length) = [(")" : Str)] ++ rest := drop_add d3
  have dp7 : dp ≠ 8 := by omega
  refine q_asg (i := 2) (nxt v n "(" (Ex.refl H) hR (drop_at (i := 0) d0 rfl) (ev_var rfl)) fun H1 e1 => ?_
  refine q_when (b := false) (kinds (ev_var rfl) (by decide +kernel)) (fun c => absurd c (by decide)) (fun _ H2 e2 => ?_)
  refine q_when (b := false) (hit (ev_var rfl) (by decide +kernel)) (fun c => absurd c (by decide)) (fun _ H3 e3 => ?_)
  refine q_when (b := false) (et_or (a := false) (b := false) (et_is (et_test (ev_op (ev_var rfl) ev_c (rv_ne rfl))) (by rw [dec_str, decide_eq_true rfl] <;> rfl)) fun _ => et_is (et_test (ev_op (ev_var rfl) ev_c (rv_eq rfl))) ((dec_ii dp 8).trans (decide_eq_false dp7))) (fun c => absurd c (by decide)) (fun _ H4 e4 => ?_)
  have e04 := e1.trans (e2.trans (e3.trans e4))
  refine sub t1 (dp + 1) _ (n + 1) e04 o1 d1 g1 p1 (fur v n 1 (hR.ex e04) (ev_var rfl) ev_c) (fun _ _ => ev_eqI (ev_op (ev_var rfl) ev_c rv_I0) (add_nat dp 1)) H4 (Ex.refl H4) _ fun H0 y H5 e0 e5 ⟨a, tv1, rv1, ev, ha, ht1, hr1⟩ => ?_
  subst ev
  refine ⟨a, _, rfl, SqT.of ha, rfl, _, _, rfl, _, _, rfl, rfl, ?_⟩
  have e05 := e04.trans (e0.trans e5)
  refine q_asg (i := 3) (nxt rv1 _ js e05 hr1 (drop_at (i := 0) d2 rfl) (ev_var rfl)) fun H6 e6 => ?_
  refine q_when (b := false) (et_is (et_test (ev_niU (ev_var rfl) (eu2 ev_c ev_c) rfl rfl)) ?_) (fun c => absurd c (by decide)) (fun _ H7 e7 => ?_)
  · rcases hjs with rfl | rfl <;> decide +kernel
  have e07 := e05.trans (e6.trans e7)
  refine sub t2 (dp + 1) _ (n + 1 + (wordsS t1).length + 1) e07 o2 d3 g2 p2 (fur rv1 _ 1 (hr1.ex (e6.trans e7)) (ev_var rfl) ev_c) (fun _ _ => ev_eqI (ev_op (ev_var rfl) ev_c rv_I0) (add_nat dp 1)) H7 (Ex.refl H7) _ fun H0' y H8 e0' e8 ⟨a2, tv2, rv2, ev, ha2, ht2, hr2⟩ => ?_
  subst ev
  refine ⟨a2, _, rfl, SqT.of ha2, rfl, _, _, rfl, _, _, rfl, rfl, ?_⟩
  have e78 := e0'.trans e8
  have e08 := e07.trans e78
  dsimp only
  refine s_retP (P := isPt K wl sy (n + (wordsS sy).length)) ?_ (k.mono e08)
  refine ep_pt ?tr2 ?rd2
  case tr2 =>
    refine (eu_p (eu3 (ev_var rfl) (ev_var rfl) (ev_var rfl))).imp fun _ x H9 eA eB ⟨b, h1, _, h3⟩ => ?_
    show okT x sy H9
    rw [h1]
    exact hsy b tv1 tv2 H9 h3 (okT.ex ((e6.trans (e7.trans e78)).trans (eA.trans eB)) ht1) (okT.ex (eA.trans eB) ht2)
  case rd2 =>
    intro H9 e9
    refine (ev_rm (R := fun _ x H2 => okR K wl x (n + 1 + (wordsS t1).length + 1 + (wordsS t2).length + 1) H2) (ev_var rfl) (hr2.ex e9) rfl (ea_cons ev_c ea_nil) (sp_mk' (rv2, wl, W, n + 1 + (wordsS t1).length + 1 + (wordsS t2).length, (")" : Str)) rfl fun H10 e10 => ⟨hr2.ex (e9.trans e10), (e08.trans (e9.trans e10)) _ _ hw, drop_at (i := 0) d4 rfl⟩)).imp fun _ x H11 _ _ q => ?_
    rw [hlen, show n + (1 + (wordsS t1).length + 1 + (wordsS t2).length + 1) = n + 1 + (wordsS t1).length + 1 + (wordsS t2).length + 1 from by omega]
    exact q
theorem ok_reader_part (T : Tx K mg base) : ∀ h, Met P w K mg base (6 + h) (He.ga K "Reader") "part" (sp_reader_part K h)
  | 0 => part_vac T
  | h + 1 => part_step T h (ok_reader_part T h)
/-! ### whole, Saying -/
abbrev N_reader_whole : List Str := ["self", "found", "last"]
theorem sc_reader_whole : FnScope N_reader_whole ["self"] (defScope s_reader_whole) := ⟨rfl, rfl, rfl, by decide +kernel, rfl, by decide +kernel, by decide +kernel⟩
def sp_reader_whole (K : PySem.W.Frag) : Sp := mkSp (α := V × Addr × Say) (fun a => [a.1]) (fun a H => okR K a.2.1 a.1 0 H ∧ H a.2.1 = some (.lst ((wordsS a.2.2).map V.str)) ∧ SayOk a.2.2 ∧ hgt a.2.2 < 6 ∧ pard a.2.2 ≤ 8) (fun a => isTr a.2.2)
theorem ok_reader_whole (T : Tx K mg base) : Met P w K mg base 13 (He.ga K "Reader") "whole" (sp_reader_whole K) := by
  have c_reader_part := ok_reader_part (P := P) (w := w) T 6
  refine met_of T.f_reader_whole T.c_Reader T.m_Reader_whole sc_reader_whole (fun _ _ _ _ _ _ us hl => match us, hl with | [_], _ => rfl) (len_sp fun _ => rfl) any_sp ?_
  rintro f cdv A outer s H vs Q E hr ⟨⟨v, wl, sy⟩, rfl, ⟨gr, ghw, hok, hh, hp⟩, k⟩
  have hR : okR K wl v 0 H := gr
  have hw : H wl = some (.lst ((wordsS sy).map V.str)) := ghw
  refine ⟨_, pss_cons (ps_asg (pe_mt c_reader_part hr (by omega) (pv 0) (pa_cons pe_int pa_nil)) (pg_tup (by rfl) (pgs_cons (pg_name (i := 1) sc_reader_whole.nd rfl (Or.inl rfl)) (pgs_cons (pg_name (i := 2) sc_reader_whole.nd rfl (Or.inl rfl)) pgs_nil))))
      (pss_cons (ps_if (pt_cmpR op_lt (pe_fldk K rfl (pv 2) rfl) (pe_callB c_len (by rfl) T.b_len (by decide +kernel) (pa_cons (pe_fldk K rfl (pv 2) rfl) pa_nil)) (nomark _)) (pss_one (ps_never)) (pss_nil))
      (pss_one (ps_ret (pv 1)))), ?_⟩
  refine ev_rm (R := isPt K wl sy (0 + (wordsS sy).length)) (ev_var rfl) hR rfl (ea_cons ev_c ea_nil) (sp_mk' (v, wl, wordsS sy, 0, 0, sy, []) rfl fun H1 e1 => ⟨hR.ex e1, e1 _ _ hw, hok, by simp, hh, by simpa using hp⟩) H (Ex.refl H) _ fun H0 y H1 e0 e1 ⟨a, t, r, ev, ha, ht, hr⟩ => ?_
  subst ev
  refine ⟨a, _, rfl, SqT.of ha, rfl, _, _, rfl, _, _, rfl, rfl, ?_⟩
  have e01 := e0.trans e1
  refine q_when (b := false) (et_is (et_test (ev_op (ev_ra T (ev_var rfl) hr) (ev_cb (ea_cons (ev_rw T (ev_var rfl) hr) ea_nil) (rc_len (SqL.of (e01 _ _ hw)))) rv_I0)) (decide_eq_false ?_)) (fun c => absurd c (by decide)) (fun _ H2 e2 => ?_)
  · rw [List.length_map]
    omega
  · exact s_ret (ev_var rfl) fun H3 e3 => k.go (e01.trans (e2.trans e3)) (okT.ex (e2.trans e3) ht)
end
end EP
end

section
set_option Elab.async false
set_option linter.all false
set_option maxRecDepth 100000
set_option maxHeartbeats 4000000
/-! E4: Saying, primes_of, where. -/
namespace EP
open PySem PySem.Spec PyProof.Rows L2 Evl
/-- the set of a saying -/
def setS : Say → PS
  | .sq n => combN fOr (signP n 1) (divP n)
  | .ro b c m => rootsP b c (m : Int)
  | .re m r => restP m r
  | .fo n => formP n
  | .no s => notN (setS s)
  | .an s t => combN fAnd (setS s) (setS t)
  | .od s t => combN fOr (setS s) (setS t)
/-- a saying whose sets live within D and Ss -/
def SEnv (D : Nat) (Ss : List Nat) : Say → Prop
  | .sq n => NumOk D Ss n
  | .ro b c _ => b.natAbs < 2 ^ 20 ∧ NumOk D Ss (b * b - 4 * 1 * c)
  | .re m r => 0 < m ∧ m ≤ 4000 ∧ r < m ∧ Good D Ss (restP m r)
  | .fo n => FmOk n ∧ 4 * n ∣ D
  | .no s => SEnv D Ss s
  | .an s t => SEnv D Ss s ∧ SEnv D Ss t
  | .od s t => SEnv D Ss s ∧ SEnv D Ss t
theorem good_set {D : Nat} {Ss : List Nat} (E : EnvOk D Ss) : ∀ {s : Say}, SEnv D Ss s → Good D Ss (setS s)
  | .sq n, h => combN_good (good_sign E h) (good_div E h.ne h.pr) E.odd
  | .ro b c m, h => good_roots E h.2
  | .re m r, h => h.2.2.2
  | .fo n, h => good_form E h.1.pos h.2
  | .no s, h => notN_good (good_set E (s := s) h) E.odd
  | .an s t, h => combN_good (good_set E h.1) (good_set E h.2) E.odd
  | .od s t, h => combN_good (good_set E h.1) (good_set E h.2) E.odd
section
variable {P : Program} {w : World} {K : PySem.W.Frag} {mg : Str → Option Value} {base : Heap}
/-- tuples stay -/
def ExU (H H' : Hp) : Prop := ∀ a xs, H a = some (.tup xs) → H' a = some (.tup xs)
theorem okT.exU : ∀ (s : Say) (v : V) (H H' : Hp), ExU H H' → okT v s H → okT v s H'
  | .sq n, v, H, H', e, ⟨a, h1, h2⟩ => ⟨a, h1, e _ _ h2⟩
  | .ro b c m, v, H, H', e, ⟨a, h1, h2⟩ => ⟨a, h1, e _ _ h2⟩
  | .re m r, v, H, H', e, ⟨a, h1, h2⟩ => ⟨a, h1, e _ _ h2⟩
  | .fo n, v, H, H', e, ⟨a, h1, h2⟩ => ⟨a, h1, e _ _ h2⟩
  | .no s, v, H, H', e, ⟨a, x, h1, h2, h3⟩ => ⟨a, x, h1, e _ _ h2, okT.exU s x H H' e h3⟩
  | .an s t, v, H, H', e, ⟨a, x, y, h1, h2, h3, h4⟩ => ⟨a, x, y, h1, e _ _ h2, okT.exU s x H H' e h3, okT.exU t y H H' e h4⟩
  | .od s t, v, H, H', e, ⟨a, x, y, h1, h2, h3, h4⟩ => ⟨a, x, y, h1, e _ _ h2, okT.exU s x H H' e h3, okT.exU t y H H' e h4⟩
theorem ExU.put {H : Hp} {x C dx : Addr} {fs : List (Str × V)} {o : HO} (h : H x = some (.ins C dx fs)) : ExU H (upd H x o) := fun a xs ha => by
  have : a ≠ x := fun e => by rw [e, h] at ha; cases ha
  rw [upd_ne this]
  exact ha
theorem Ex.toU {H H' : Hp} (e : Ex H H') : ExU H H' := fun a xs h => e a _ h
/-! ### Saying -/
def okY (K : PySem.W.Frag) : V → Say → Hp → Prop := fun v s H => ∃ (a dx : Addr) (t : V), v = .ref a ∧ H a = some (.ins (He.ga K "Saying") dx [("tree", t), ("text", .str (textS s))]) ∧ okT t s H
theorem mono_okY : Mono (okY K) := fun v s H H' e ⟨a, dx, t, h1, h2, h3⟩ => ⟨a, dx, t, h1, e _ _ h2 rfl, mono_okT s t H H' e h3⟩
theorem okY.ex {v : V} {s : Say} {H H' : Hp} (e : Ex H H') (h : okY K v s H) : okY K v s H' := mono_okY _ _ _ _ (Ex.toF e) h
structure SayFit (s : Say) : Prop where
  ok : SayOk s
  h : hgt s < 6
  p : pard s ≤ 8
  l : lenB s ≤ 90000
theorem el_split {σ : L2.St} {H : Hp} {to te : TE} {a b : Str} (h1 : Ev to σ H (.str a)) (h2 : Ev te σ H (.str b)) (hb : (b.length == 0) = false) (ha : a.length ≤ 90000) :
    EvL (tM1 (fun x xs H Q => ∃ a b, x = .str a ∧ xs = [.str b] ∧ (b.length == 0) = false ∧ a.length + 2 ≤ sizeLine ∧ rNewStrs (Txt.split a b) H Q) to te) σ H ((Txt.split a b).map V.str) := fun H1 e Q q =>
  h1 H1 e _ fun H2 e2 => ⟨⟨a, rfl⟩, h2 H2 (e.trans e2) _ fun H3 e3 => ⟨a, b, rfl, rfl, hb, sz_of (by omega), fun p hp => q p _ (fresh_back (e2.trans e3) hp) ((e2.trans e3).trans (Ex.new hp)) upd_same⟩⟩
abbrev N_saying_init : List Str := ["self", "text"]
theorem sc_saying_init : FnScope N_saying_init ["self", "text"] (defScope s_saying_init) := ⟨rfl, rfl, rfl, by decide +kernel, rfl, by decide +kernel, by decide +kernel⟩
def sp_saying_init (K : PySem.W.Frag) : Sp := mkSpI (He.ga K "Saying") (α := Say) (fun s => [.str (textS s)]) (fun s _ => SayFit s) (fun s => fun _ v H => okY K v s H)
theorem ok_saying_init (T : Tx K mg base) : Mak P w K mg base 14 "Saying" (He.ga K "Saying") (sp_saying_init K) := by
  refine mak_of T.f_saying_init T.g_Saying T.k_Saying sc_saying_init (fun _ _ _ _ _ _ us hl => match us, hl with | [_, _], _ => rfl) (len_spI fun _ => rfl) any_spI ?_
  rintro f cdv A outer s H vs Q E hr ⟨x, dx, HB, sy, rfl, hx, hdx, ne, rfl, ho, k⟩
  have ho : SayFit sy := ho
  have hl := Nat.le_trans (text_len ho.ok) ho.l
  have hB : Ex HB (upd (upd HB dx (.own x)) x (.ins (He.ga K "Saying") dx [])) := Ex.mut (Ex.new hdx) hx
  have hx0 : upd (upd HB dx (.own x)) x (.ins (He.ga K "Saying") dx []) x = some (.ins (He.ga K "Saying") dx []) := upd_same
  generalize upd (upd HB dx (.own x)) x (.ins (He.ga K "Saying") dx []) = H at hB hx0
  refine ⟨_, pss_cons (ps_fld (pv 0) (pe_mt0 (ok_reader_whole T) hr (by decide) (pe_mk (ok_reader_init T) hr (by decide) (by rfl) (pa_cons (pe_split (pv 1) pe_str) (pa_cons pe_int pa_nil)))) rfl)
      (pss_one (ps_fld (pv 0) (pv 1) rfl)), ?_⟩
  refine q_fldP (R := isTr sy) ?_ (fun _ _ => ev_var rfl) hx0 T.c_Saying T.n_Saying_tree (by decide) ?_
  · have sp : EvP (StX.tMakeR (He.ga K "Reader") (sp_reader_init K) E0 (tCons (tM1 (fun x xs H Q => ∃ a b, x = .str a ∧ xs = [.str b] ∧ (b.length == 0) = false ∧ a.length + 2 ≤ sizeLine ∧ rNewStrs (Txt.split a b) H Q) (tVar 1) (tC (.str " "))) (tCons (tC (.int 0)) tNil))) (L2.start N_saying_init [.ref x, .str (textS sy)]) H (fun _ v H1 => ∃ wl, okR K wl v 0 H1 ∧ H1 wl = some (.lst ((wordsS sy).map V.str))) := by
      refine ev_mkP (PA := fun us H1 => ∃ wl, us = [.ref wl, .int (0 : Nat)] ∧ H1 wl = some (.lst ((wordsS sy).map V.str))) (eap_cons (P := isL ((wordsS sy).map V.str)) (el_p ?_) fun H0 v H1 e0 e1 ⟨wl, ev, _, hw⟩ => eap_consV ev_c (eap_nil fun H2 e2 => ⟨wl, by rw [ev] <;> rfl, e2 _ _ hw⟩)) ?_
      · rw [← split_text ho.ok]
        exact el_split (ev_var rfl) ev_c (by decide +kernel) hl
      · rintro us H1 e1 ⟨wl, rfl, hw⟩
        intro H2 e2 y dy hy hdy ny Q2 q2
        exact mk_mk (C := He.ga K "Reader") (args := fun a : Addr × Nat => [.ref a.1, .int (a.2 : Nat)]) (pre := fun _ _ => True) (post := fun a => fun _ x H => okR K a.1 x a.2 H) (wl, 0) rfl (fun _ _ => trivial) H2 e2 y dy hy hdy ny Q2 fun H3 e3 hr => q2 H3 e3 ⟨wl, hr, e3 _ _ (e2 _ _ hw)⟩
    refine ev_metP (PA := fun us H1 => ∃ v wl, us = [v] ∧ okR K wl v 0 H1 ∧ H1 wl = some (.lst ((wordsS sy).map V.str))) sp (fun H0 v H1 e0 e1 ⟨wl, hr, hw⟩ => ?_) fun us H1 e1 ⟨v, wl, eu, hr, hw⟩ => sp_mk' (v, wl, sy) eu fun H2 e2 => ⟨hr.ex e2, e2 _ _ hw, ho.ok, ho.h, ho.p⟩
    obtain ⟨a, dy, rfl, h2⟩ := id hr
    exact ⟨⟨a, dy, _, rfl, h2, rfl⟩, eap_nil fun H2 e2 => ⟨_, wl, rfl, hr.ex e2, e2 _ _ hw⟩⟩
  · rintro H0 t H1 H2 e0 e1 ht e2
    have hx2 := (e0.trans (e1.trans e2)) _ _ hx0
    have ht2 := okT.exU sy t H2 _ (ExU.put (o := .ins (He.ga K "Saying") dx (putF "tree" t [])) hx2) (okT.ex e2 ht)
    refine s_fldV (ev_var rfl) (ev_var rfl) upd_same T.c_Saying T.n_Saying_text (by show 1 < 1000; decide) fun H3 e3 => ?_
    have hx3 := e3 _ _ (upd_same (H := H2) (a := x) (o := .ins (He.ga K "Saying") dx (putF "tree" t [])))
    refine k _ (Ex.mut ((Ex.mut (hB.trans (e0.trans (e1.trans e2))) hx).trans e3) hx) ⟨x, dx, t, rfl, upd_same, ?_⟩
    exact okT.exU sy t H3 _ (ExU.put hx3) (okT.ex e3 ht2)
/-! ### primes_of -/
theorem ev_item {σ : L2.St} {H : Hp} {ta : TE} {a : Addr} {xs : List V} {v : V} {j : Nat} (h : Ev ta σ H (.ref a)) (ha : H a = some (.tup xs)) (hv : xs[j]? = some v) : Ev (tOp (rIxT K) ta (tC (.int (j : Nat)))) σ H v := ev_op h ev_c (rv_ixT (SqT.of ha) (atI_nat hv))
abbrev N_primes_of : List Str := ["part", "kind", "first", "second"]
theorem sc_primes_of : FnScope N_primes_of ["part"] (defScope s_primes_of) := ⟨rfl, rfl, rfl, by decide +kernel, rfl, by decide +kernel, by decide +kernel⟩
def sp_primes_of (K : PySem.W.Frag) (h : Nat) : Sp := mkSp (α := V × Say) (fun a => [a.1]) (fun a H => okT a.1 a.2 H ∧ hgt a.2 < h ∧ ∃ D Ss, EnvOk D Ss ∧ SEnv D Ss a.2) (fun a => isP K (setS a.2))
theorem primes_vac (T : Tx K mg base) : Cal P w K mg base 11 "primes_of" (sp_primes_of K 0) := by
  refine ⟨_, ?_, T.g_primes_of, FnR.keep T.f_primes_of⟩
  rintro A outer s H us vs Q E hr e0 r ⟨a, _, ⟨_, hh, _⟩, _⟩
  exact absurd hh (Nat.not_lt_zero _)
theorem primes_step (T : Tx K mg base) (h : Nat) (c_primes_of : Cal P w K mg base (11 + h) "primes_of" (sp_primes_of K h)) : Cal P w K mg base (11 + h + 1) "primes_of" (sp_primes_of K (h + 1)) := by
  refine cal_of T.f_primes_of T.g_primes_of sc_primes_of (fun _ _ _ _ _ _ us hl => match us, hl with | [_], _ => rfl) (len_sp fun _ => rfl) any_sp ?_
  rintro f cdv A outer s H vs Q E hr ⟨⟨v, sy⟩, rfl, ⟨gt, gh, D, Ss, EO, gs⟩, gk⟩
  have ht : okT v sy H := gt
  have hh : hgt sy < h + 1 := gh
  have hs : SEnv D Ss sy := gs
  have k : Gives (isP K (setS sy)) H Q := gk
  refine ⟨_, pss_cons (ps_set (i := 1) sc_primes_of.nd rfl (Or.inl rfl) (pe_ix (ix_tupk K rfl) (pv 0) pe_int (fun _ _ => rfl)))
      (pss_cons (ps_if (pt_cmpR op_eq (pv 1) pe_str (nomark _)) (pss_cons (ps_if (pt_cmpR op_eq (pe_ix (ix_tupk K rfl) (pv 0) pe_int (fun _ _ => rfl)) pe_int (nomark _)) (pss_one (ps_ret (pe_cm0 (ok_primes_every T) hr (by omega) (pe_gr rfl T.g_Primes)))) (pss_nil))
        (pss_one (ps_ret (pe_op (op_own (op := .BitOr) (ok_primes_or T) hr (by omega) T.first_Primes) (pe_c (ok_by_sign T) hr (by omega) (by rfl) (pa_cons (pe_ix (ix_tupk K rfl) (pv 0) pe_int (fun _ _ => rfl)) (pa_cons pe_int pa_nil))) (pe_c (ok_divisors_of T) hr (by omega) (by rfl) (pa_cons (pe_ix (ix_tupk K rfl) (pv 0) pe_int (fun _ _ => rfl)) pa_nil)))))) (pss_nil))
      (pss_cons (ps_if (pt_cmpR op_eq (pv 1) pe_str (nomark _)) (pss_one (ps_ret (pe_c (ok_by_roots T) hr (by omega) (by rfl) (pa_cons (pe_ix (ix_tupk K rfl) (pv 0) pe_int (fun _ _ => rfl)) (pa_cons (pe_ix (ix_tupk K rfl) (pv 0) pe_int (fun _ _ => rfl)) (pa_cons (pe_ix (ix_tupk K rfl) (pv 0) pe_int (fun _ _ => rfl)) (pa_cons (pe_ix (ix_tupk K rfl) (pv 0) pe_int (fun _ _ => rfl)) pa_nil))))))) (pss_nil))
      (pss_cons (ps_if (pt_cmpR op_eq (pv 1) pe_str (nomark _)) (pss_one (ps_ret (pe_cm (ok_primes_by_rest T) hr (by omega) (pe_gr rfl T.g_Primes) (pa_cons (pe_ix (ix_tupk K rfl) (pv 0) pe_int (fun _ _ => rfl)) (pa_cons (pe_ix (ix_tupk K rfl) (pv 0) pe_int (fun _ _ => rfl)) pa_nil))))) (pss_nil))
      (pss_cons (ps_if (pt_cmpR op_eq (pv 1) pe_str (nomark _)) (pss_one (ps_ret (pe_c (ok_form_primes T) hr (by omega) (by rfl) (pa_cons (pe_ix (ix_tupk K rfl) (pv 0) pe_int (fun _ _ => rfl)) pa_nil)))) (pss_nil))
      (pss_cons (ps_set (i := 2) sc_primes_of.nd rfl (Or.inl rfl) (pe_c c_primes_of hr (by omega) (by rfl) (pa_cons (pe_ix (ix_tupk K rfl) (pv 0) pe_int (fun _ _ => rfl)) pa_nil)))
      (pss_cons (ps_if (pt_cmpR op_eq (pv 1) pe_str (nomark _)) (pss_one (ps_ret (pe_un (un_own (ok_primes_invert T) hr (by omega)) (pv 2)))) (pss_nil))
      (pss_cons (ps_set (i := 3) sc_primes_of.nd rfl (Or.inl rfl) (pe_c c_primes_of hr (by omega) (by rfl) (pa_cons (pe_ix (ix_tupk K rfl) (pv 0) pe_int (fun _ _ => rfl)) pa_nil)))
      (pss_cons (ps_if (pt_cmpR op_eq (pv 1) pe_str (nomark _)) (pss_one (ps_ret (pe_op (op_own (op := .BitAnd) (ok_primes_and T) hr (by omega) T.first_Primes) (pv 2) (pv 3)))) (pss_nil))
      (pss_one (ps_ret (pe_op (op_own (op := .BitOr) (ok_primes_or T) hr (by omega) T.first_Primes) (pv 2) (pv 3)))))))))))), ?_⟩
  have hit : ∀ {x y : Str} {b : Bool} {σ : L2.St} {H1 : Hp} {t : TE}, Ev t σ H1 (.str x) → decide (x = y) = b → EvT (tTest (tOp rEq t (tC (.str y)))) σ H1 b := fun h e => et_is (et_test (ev_op h ev_c (rv_eq rfl))) ((dec_str _ _).trans e)
  have rcs : ∀ (t : Say) (x : V) {σ : L2.St} {H1 : Hp} {te : TE}, okT x t H1 → hgt t < h → SEnv D Ss t → Ev te σ H1 x → EvP (tCalR (sp_primes_of K h) (tCons te tNil)) σ H1 (isP K (setS t)) := fun t x {σ H1 te} h1 h2 h3 h4 => ev_cal (ea_cons h4 ea_nil) (sp_mk' (x, t) rfl fun H2 e2 => ⟨okT.ex e2 h1, h2, D, Ss, EO, h3⟩)
  cases sy with
  | sq n =>
    obtain ⟨a, rfl, ha⟩ := ht
    have hn : NumOk D Ss n := hs
    refine q_asg (i := 1) (ev_item (j := 0) (ev_var rfl) ha rfl) fun H1 e1 => ?_
    refine q_if (b := true) (hit (ev_var rfl) (by decide +kernel)) (fun _ H2 e2 => ?_) (fun c => absurd c (by decide))
    have e02 := e1.trans e2
    refine q_when (b := false) (et_is (et_test (ev_op (ev_item (j := 1) (ev_var rfl) (e02 _ _ ha) rfl) ev_c (rv_eq rfl))) (decide_eq_false fun h => hn.ne (V.int.inj h))) (fun c => absurd c (by decide)) (fun _ H3 e3 => ?_)
    have e03 := e02.trans e3
    exact s_retP (ev_join (r := .dis) (ev_cal (ea2 (ev_item (j := 1) (ev_var rfl) (e03 _ _ ha) rfl) ev_c) (sp_mk' (n, 1) rfl fun _ _ => ⟨D, Ss, EO, hn⟩)) (fun H4 e4 => ev_cal (ea_cons (ev_item (j := 1) (ev_var rfl) ((e03.trans e4) _ _ ha) rfl) ea_nil) (sp_mk' n rfl fun _ _ => ⟨hn.ne, hn.lt⟩)) EO (good_sign EO hn) (good_div EO hn.ne hn.pr)) (k.mono e03)
  | ro b c m =>
    obtain ⟨a, rfl, ha⟩ := ht
    refine q_asg (i := 1) (ev_item (j := 0) (ev_var rfl) ha rfl) fun H1 e1 => ?_
    refine q_when (b := false) (hit (ev_var rfl) (by decide +kernel)) (fun c => absurd c (by decide)) (fun _ H2 e2 => ?_)
    refine q_if (b := true) (hit (ev_var rfl) (by decide +kernel)) (fun _ H3 e3 => ?_) (fun c => absurd c (by decide))
    have e03 := e1.trans (e2.trans e3)
    have ha3 := e03 _ _ ha
    exact s_retP (ev_cal (ea_cons (ev_item (j := 1) (ev_var rfl) ha3 rfl) (ea_cons (ev_item (j := 2) (ev_var rfl) ha3 rfl) (ea_cons (ev_item (j := 3) (ev_var rfl) ha3 rfl) (ea_cons (ev_item (j := 4) (ev_var rfl) ha3 rfl) ea_nil)))) (sp_mk' (b, c, (m : Int)) rfl fun _ _ => ⟨hs.1, D, Ss, EO, hs.2⟩)) (k.mono e03)
  | re m r =>
    obtain ⟨a, rfl, ha⟩ := ht
    refine q_asg (i := 1) (ev_item (j := 0) (ev_var rfl) ha rfl) fun H1 e1 => ?_
    refine q_when (b := false) (hit (ev_var rfl) (by decide +kernel)) (fun c => absurd c (by decide)) (fun _ H2 e2 => ?_)
    refine q_when (b := false) (hit (ev_var rfl) (by decide +kernel)) (fun c => absurd c (by decide)) (fun _ H3 e3 => ?_)
    refine q_if (b := true) (hit (ev_var rfl) (by decide +kernel)) (fun _ H4 e4 => ?_) (fun c => absurd c (by decide))
    have e04 := e1.trans (e2.trans (e3.trans e4))
    have ha4 := e04 _ _ ha
    exact s_retP (ev_cme ev_c (ea2 (ev_item (j := 1) (ev_var rfl) ha4 rfl) (ev_item (j := 2) (ev_var rfl) ha4 rfl)) (sp_mk' (m, r) rfl fun _ _ => ⟨hs.1, hs.2.1, hs.2.2.1⟩)) (k.mono e04)
  | fo n =>
    obtain ⟨a, rfl, ha⟩ := ht
    refine q_asg (i := 1) (ev_item (j := 0) (ev_var rfl) ha rfl) fun H1 e1 => ?_
    refine q_when (b := false) (hit (ev_var rfl) (by decide +kernel)) (fun c => absurd c (by decide)) (fun _ H2 e2 => ?_)
    refine q_when (b := false) (hit (ev_var rfl) (by decide +kernel)) (fun c => absurd c (by decide)) (fun _ H3 e3 => ?_)
    refine q_when (b := false) (hit (ev_var rfl) (by decide +kernel)) (fun c => absurd c (by decide)) (fun _ H4 e4 => ?_)
    refine q_if (b := true) (hit (ev_var rfl) (by decide +kernel)) (fun _ H5 e5 => ?_) (fun c => absurd c (by decide))
    have e05 := e1.trans (e2.trans (e3.trans (e4.trans e5)))
    exact s_retP (ev_cal (ea_cons (ev_item (j := 1) (ev_var rfl) (e05 _ _ ha) rfl) ea_nil) (sp_mk' n rfl fun _ _ => hs.1)) (k.mono e05)
  | no t =>
    obtain ⟨a, x, rfl, ha, hx⟩ := ht
    have g1 : hgt t < h := by
      have : hgt t + 1 < h + 1 := hh
      omega
    refine q_asg (i := 1) (ev_item (j := 0) (ev_var rfl) ha rfl) fun H1 e1 => ?_
    refine q_when (b := false) (hit (ev_var rfl) (by decide +kernel)) (fun c => absurd c (by decide)) (fun _ H2 e2 => ?_)
    refine q_when (b := false) (hit (ev_var rfl) (by decide +kernel)) (fun c => absurd c (by decide)) (fun _ H3 e3 => ?_)
    refine q_when (b := false) (hit (ev_var rfl) (by decide +kernel)) (fun c => absurd c (by decide)) (fun _ H4 e4 => ?_)
    refine q_when (b := false) (hit (ev_var rfl) (by decide +kernel)) (fun c => absurd c (by decide)) (fun _ H5 e5 => ?_)
    have e05 := e1.trans (e2.trans (e3.trans (e4.trans e5)))
    refine q_asgP (i := 2) (rcs t x (okT.ex e05 hx) g1 hs (ev_item (j := 1) (ev_var rfl) (e05 _ _ ha) rfl)) fun H6 y H7 e6 e7 hy => ?_
    refine q_if (b := true) (hit (ev_var rfl) (by decide +kernel)) (fun _ H8 e8 => ?_) (fun c => absurd c (by decide))
    exact s_retP (ev_not' (ev_isP (ev_var rfl) (okP.ex e8 hy)) EO (good_set EO (s := t) hs)) (k.mono (e05.trans (e6.trans (e7.trans e8))))
  | an t u =>
    obtain ⟨a, x, y, rfl, ha, hx, hy⟩ := ht
    have gm : max (hgt t) (hgt u) + 1 < h + 1 := hh
    refine q_asg (i := 1) (ev_item (j := 0) (ev_var rfl) ha rfl) fun H1 e1 => ?_
    refine q_when (b := false) (hit (ev_var rfl) (by decide +kernel)) (fun c => absurd c (by decide)) (fun _ H2 e2 => ?_)
    refine q_when (b := false) (hit (ev_var rfl) (by decide +kernel)) (fun c => absurd c (by decide)) (fun _ H3 e3 => ?_)
    refine q_when (b := false) (hit (ev_var rfl) (by decide +kernel)) (fun c => absurd c (by decide)) (fun _ H4 e4 => ?_)
    refine q_when (b := false) (hit (ev_var rfl) (by decide +kernel)) (fun c => absurd c (by decide)) (fun _ H5 e5 => ?_)
    have e05 := e1.trans (e2.trans (e3.trans (e4.trans e5)))
    refine q_asgP (i := 2) (rcs t x (okT.ex e05 hx) (by omega) hs.1 (ev_item (j := 1) (ev_var rfl) (e05 _ _ ha) rfl)) fun H6 y1 H7 e6 e7 hy1 => ?_
    refine q_when (b := false) (hit (ev_var rfl) (by decide +kernel)) (fun c => absurd c (by decide)) (fun _ H8 e8 => ?_)
    have e08 := e05.trans (e6.trans (e7.trans e8))
    refine q_asgP (i := 3) (rcs u y (okT.ex e08 hy) (by omega) hs.2 (ev_item (j := 2) (ev_var rfl) (e08 _ _ ha) rfl)) fun H9 y2 H10 e9 e10 hy2 => ?_
    refine q_if (b := true) (hit (ev_var rfl) (by decide +kernel)) (fun _ H11 e11 => ?_) (fun c => absurd c (by decide))
    have e9b := e9.trans (e10.trans e11)
    exact s_retP (ev_join (r := .con) (ev_isP (ev_var rfl) (okP.ex (e8.trans e9b) hy1)) (fun H12 e12 => ev_isP (ev_var rfl) (okP.ex (e11.trans e12) hy2)) EO (good_set EO (s := t) hs.1) (good_set EO (s := u) hs.2)) (k.mono (e08.trans e9b))
  | od t u =>
    obtain ⟨a, x, y, rfl, ha, hx, hy⟩ := ht
    have gm : max (hgt t) (hgt u) + 1 < h + 1 := hh
    refine q_asg (i := 1) (ev_item (j := 0) (ev_var rfl) ha rfl) fun H1 e1 => ?_
    refine q_when (b := false) (hit (ev_var rfl) (by decide +kernel)) (fun c => absurd c (by decide)) (fun _ H2 e2 => ?_)
    refine q_when (b := false) (hit (ev_var rfl) (by decide +kernel)) (fun c => absurd c (by decide)) (fun _ H3 e3 => ?_)
    refine q_when (b := false) (hit (ev_var rfl) (by decide +kernel)) (fun c => absurd c (by decide)) (fun _ H4 e4 => ?_)
    refine q_when (b := false) (hit (ev_var rfl) (by decide +kernel)) (fun c => absurd c (by decide)) (fun _ H5 e5 => ?_)
    have e05 := e1.trans (e2.trans (e3.trans (e4.trans e5)))
    refine q_asgP (i := 2) (rcs t x (okT.ex e05 hx) (by omega) hs.1 (ev_item (j := 1) (ev_var rfl) (e05 _ _ ha) rfl)) fun H6 y1 H7 e6 e7 hy1 => ?_
    refine q_when (b := false) (hit (ev_var rfl) (by decide +kernel)) (fun c => absurd c (by decide)) (fun _ H8 e8 => ?_)
    have e08 := e05.trans (e6.trans (e7.trans e8))
    refine q_asgP (i := 3) (rcs u y (okT.ex e08 hy) (by omega) hs.2 (ev_item (j := 2) (ev_var rfl) (e08 _ _ ha) rfl)) fun H9 y2 H10 e9 e10 hy2 => ?_
    refine q_when (b := false) (hit (ev_var rfl) (by decide +kernel)) (fun c => absurd c (by decide)) (fun _ H11 e11 => ?_)
    have e9b := e9.trans (e10.trans e11)
    exact s_retP (ev_join (r := .dis) (ev_isP (ev_var rfl) (okP.ex (e8.trans e9b) hy1)) (fun H12 e12 => ev_isP (ev_var rfl) (okP.ex (e11.trans e12) hy2)) EO (good_set EO (s := t) hs.1) (good_set EO (s := u) hs.2)) (k.mono (e08.trans e9b))
theorem ok_primes_of (T : Tx K mg base) : ∀ h, Cal P w K mg base (11 + h) "primes_of" (sp_primes_of K h)
  | 0 => primes_vac T
  | h + 1 => primes_step T h (ok_primes_of T h)
abbrev N_saying_where : List Str := ["self"]
theorem sc_saying_where : FnScope N_saying_where ["self"] (defScope s_saying_where) := ⟨rfl, rfl, rfl, by decide +kernel, rfl, by decide +kernel, by decide +kernel⟩
structure SayEnv (s : Say) : Prop where
  h : hgt s < 6
  env : ∃ D Ss, EnvOk D Ss ∧ SEnv D Ss s
def sp_saying_where (K : PySem.W.Frag) : Sp := mkSp (α := V × Say) (fun a => [a.1]) (fun a H => okY K a.1 a.2 H ∧ SayEnv a.2) (fun a => isP K (setS a.2))
theorem ok_saying_where (T : Tx K mg base) : Met P w K mg base 18 (He.ga K "Saying") "where" (sp_saying_where K) := by
  have c_primes_of := ok_primes_of (P := P) (w := w) T 6
  refine met_of T.f_saying_where T.c_Saying T.m_Saying_where sc_saying_where (fun _ _ _ _ _ _ us hl => match us, hl with | [_], _ => rfl) (len_sp fun _ => rfl) any_sp ?_
  rintro f cdv A outer s H vs Q E hr ⟨⟨v, sy⟩, rfl, ⟨⟨a, dx, t, rfl, ha, ht⟩, hs⟩, k⟩
  refine ⟨_, pss_one (ps_ret (pe_c c_primes_of hr (by omega) (by rfl) (pa_cons (pe_fldk K rfl (pv 0) rfl) pa_nil))), ?_⟩
  exact s_retP (ev_cal (ea_cons (ev_fld (ev_var rfl) ha T.c_Saying T.n_Saying_tree rfl) ea_nil) (sp_mk' (t, sy) rfl fun H1 e1 => ⟨okT.ex e1 ht, hs.h, hs.env⟩)) k
end
end EP
end

section
set_option Elab.async false
set_option linter.all false
set_option maxRecDepth 100000
set_option maxHeartbeats 4000000
/-! E5: sets_of, paper_of, is_paper. -/
namespace EP
open PySem PySem.Spec PyProof.Rows L2 Evl
/-- two sayings whose sets live together -/
structure TwoS (s t : Say) : Prop where
  h1 : hgt s < 6
  h2 : hgt t < 6
  env : ∃ D Ss, EnvOk D Ss ∧ SEnv D Ss s ∧ SEnv D Ss t
theorem TwoS.one {s t : Say} (h : TwoS s t) : SayEnv s := ⟨h.h1, let ⟨D, Ss, a, b, _⟩ := h.env; ⟨D, Ss, a, b⟩⟩
theorem TwoS.two {s t : Say} (h : TwoS s t) : SayEnv t := ⟨h.h2, let ⟨D, Ss, a, _, b⟩ := h.env; ⟨D, Ss, a, b⟩⟩
/-- the paper of two sets -/
def paperN (A B : PS) : Option (Nat × List Nat × List Nat) := if truthN (combN fMinus A B) = true then none else some (lcmN A.m B.m, (unitsN (lcmN A.m B.m)).filter (fun r => inR r A), (sortU (oddDivN (lcmN A.m B.m) ++ A.singles ++ B.singles)).filter fun p => memP p A)
abbrev Paper := Nat × List Int × List Int
def inI (x : Int) (B : PS) : Bool := decide (x % (B.m : Int) ∈ zs B.rests)
def memI (p : Int) (B : PS) : Bool := decide (2 < p) && (primeI p && memP p.toNat B)
def isPaperN (A B : PS) (p : Paper) : Bool :=
  if (decide (4000 < p.1) || !decide (p.1 % lcmN A.m B.m = 0)) = true then false
  else if (!((unitsN p.1).filter fun r => inR r A).all fun x => decide ((x : Int) ∈ p.2.1)) = true then false
  else if (!((sortU (oddDivN p.1 ++ A.singles ++ B.singles)).filter fun q => memP q A).all fun x => decide ((x : Int) ∈ p.2.2)) = true then false
  else if (!p.2.1.all fun x => inI x B) = true then false
  else p.2.2.all fun x => memI x B
section
variable {P : Program} {w : World} {K : PySem.W.Frag} {mg : Str → Option Value} {base : Heap}
theorem ev_allF {α : Type} {σ : L2.St} {H : Hp} {te : TE} {l : List α} {f : α → Bool} (h : EvL te σ H (l.map fun x => V.bl (f x))) : Ev (tCB (rAll K) (tCons te tNil)) σ H (.bl (l.all f)) := by
  have e : l.map (fun x => V.bl (f x)) = (l.map f).map V.bl := by rw [List.map_map]; rfl
  rw [e] at h
  refine ev_eqB (ev_all h) ?_
  rw [List.all_map]
  rfl
theorem q_asgG {σ : L2.St} {H : Hp} {te : TE} {g : TG} {tz : TS} {D : Ends} {xs : List V} (h : EvU te σ H xs) (k : ∀ p H1, H p = none → Ex H H1 → H1 p = some (.tup xs) → g (.ref p) σ H1 fun σ' H' => tz D σ' H') : tSeq (tAsg te g) tz D σ H := h H (Ex.refl H) _ fun p H1 hp e h1 => k p H1 hp e h1
abbrev N_sets_of : List Str := ["sayings", "sets", "modulus", "saying"]
theorem sc_sets_of : FnScope N_sets_of ["sayings"] (defScope s_sets_of) := ⟨rfl, rfl, rfl, by decide +kernel, rfl, by decide +kernel, by decide +kernel⟩
def sp_sets_of (K : PySem.W.Frag) : Sp := mkSp (α := Addr × Say × Say) (fun a => [.ref a.1]) (fun a H => (∃ v1 v2, H a.1 = some (.lst [v1, v2]) ∧ okY K v1 a.2.1 H ∧ okY K v2 a.2.2 H) ∧ TwoS a.2.1 a.2.2) (fun a => fun H0 x H => ∃ b, x = .ref b ∧ TwoP K H b (setS a.2.1) (setS a.2.2))
theorem ok_sets_of (T : Tx K mg base) : Cal P w K mg base 19 "sets_of" (sp_sets_of K) := by
  refine cal_of T.f_sets_of T.g_sets_of sc_sets_of (fun _ _ _ _ _ _ us hl => match us, hl with | [_], _ => rfl) (len_sp fun _ => rfl) any_sp ?_
  rintro f cdv A outer s H vs Q E hr ⟨⟨a, s1, s2⟩, rfl, ⟨⟨v1, v2, ha, h1, h2⟩, hs⟩, k⟩
  have ha : H a = some (.lst [v1, v2]) := ha
  have hs : TwoS s1 s2 := hs
  have h1 : okY K v1 s1 H := h1
  have h2 : okY K v2 s2 H := h2
  obtain ⟨D, Ss, EO, g1, g2⟩ := hs.env
  have G1 := good_set EO g1
  have G2 := good_set EO g2
  refine ⟨_, pss_cons (ps_setLc (i := 1) (own := [("saying", 3)]) (g := gName 3) (by rfl) sc_sets_of.nd rfl rfl (sw_true rfl rfl rfl (by decide +kernel)) (pi_list (pv 0)) (blkOk_by (own := [("saying", 3)]) (N := N_sets_of) (sc := defScope s_sets_of) (by decide +kernel)) (fun _ _ _ _ _ => pg_name (i := 3) sc_sets_of.nd rfl (Or.inl rfl)) (fun _ _ _ _ _ => pts_nil) (fun _ _ _ _ _ => pe_mt0 (ok_saying_where (K := K) T) hr (by decide) (pv 3)))
      (pss_cons (ps_set (i := 2) sc_sets_of.nd rfl (Or.inl rfl) (pe_c (ok_joint_modulus (K := K) T) hr (by decide) (by rfl) (pa_cons (pv 1) pa_nil)))
      (pss_cons (ps_if (pt_cmpR op_gt (pv 2) (pe_gi rfl T.i_MOST_MODULUS) (nomark _)) (pss_one (ps_never)) (pss_nil))
      (pss_one (ps_ret (pv 1))))), ?_⟩
  refine q_asgP (i := 1) (el_lcP (l := [s1, s2]) (ok := okY K) (ok' := fun v s H => okP K v (setS s) H) (fun _ => true) (fun v _ => [some (.ref a), none, none, some v]) (eis_l mono_okY (ev_var rfl) (SqL.of ha) ((Els.nil.cons h2).cons h1)) mono_okY (fun v s H H' e h => mono_okP _ _ _ _ e h) (by simp) ?_ (fun _ _ _ _ _ => rfl) (fun _ _ _ _ _ _ => et_yes) ?_) fun H0 v H1 e0 e1 ⟨b, xs, ev, b0, hb, he⟩ => ?_
  · intro x _ v H1 _ _ R hR
    exact hR H1 (Ex.refl H1)
  · intro x hx _ v H1 e1 hv
    obtain ⟨y, dy, t, rfl, hy, _⟩ := id hv
    have hx' : SayEnv x := by
      rcases List.mem_cons.mp hx with h | h
      · rw [h]; exact hs.one
      · rw [List.mem_singleton.mp h]; exact hs.two
    exact ev_met (ev_var rfl) hy rfl ea_nil (sp_mk' (.ref y, x) rfl fun H2 e2 => ⟨okY.ex e2 hv, hx'⟩)
  subst ev
  have e01 := e0.trans e1
  obtain ⟨w1, hw1, hp1⟩ := he.2 0 s1 rfl
  obtain ⟨w2, hw2, hp2⟩ := he.2 1 s2 rfl
  have hxs : xs = [w1, w2] := by
    have hl : xs.length = 2 := he.1
    match xs, hl with
    | [a1, a2], _ =>
      cases hw1
      cases hw2
      rfl
  subst hxs
  have tp : TwoP K H1 b (setS s1) (setS s2) := ⟨w1, w2, hb, hp1, hp2⟩
  have MB := lcm_le EO G1 G2
  refine q_asg (i := 2) (p_ev (ev_cal (ea_cons (ev_var rfl) ea_nil) (sp_mk' (b, setS s1, setS s2) rfl fun H2 e2 => ⟨tp.ex e2, G1.pos, G1.le EO, G2.pos, G2.le EO⟩))) fun H2 e2 => ?_
  refine q_when (b := false) (et_is (et_test (ev_op (ev_var rfl) ev_c rv_I0)) (decide_eq_false ?_)) (fun c => absurd c (by decide)) (fun _ H3 e3 => ?_)
  · have : lcmN (setS s1).m (setS s2).m ≤ 4000 := MB
    show ¬ (4000 : Int) < ((lcmN (setS s1).m (setS s2).m : Nat) : Int)
    omega
  · exact s_ret (ev_var rfl) fun H4 e4 => k.go (e01.trans (e2.trans (e3.trans e4))) ⟨b, rfl, tp.ex (e2.trans (e3.trans e4))⟩
/-- sets_of([e, f]) -/
theorem ev_sets {σ : L2.St} {H : Hp} {t1 t2 : TE} {v1 v2 : V} {s1 s2 : Say} (h1 : Ev t1 σ H v1) (h2 : Ev t2 σ H v2) (o1 : okY K v1 s1 H) (o2 : okY K v2 s2 H) (hs : TwoS s1 s2) :
    EvP (tCalR (sp_sets_of K) (tCons (tLst (tCons t1 (tCons t2 tNil))) tNil)) σ H (fun H0 x H => ∃ b, x = .ref b ∧ TwoP K H b (setS s1) (setS s2)) :=
  ev_calP (PA := fun us H1 => ∃ b, us = [.ref b] ∧ H1 b = some (.lst [v1, v2])) (eap_cons (el_p (el_lst (ea2 h1 h2) (by simp))) fun H0 v H1 e0 e1 ⟨b, ev, _, hb⟩ => eap_nil fun H2 e2 => ⟨b, by rw [ev], e2 _ _ hb⟩)
    fun us H1 e1 ⟨b, eu, hb⟩ => sp_mk' (b, s1, s2) eu fun H2 e2 => ⟨⟨v1, v2, e2 _ _ hb, o1.ex (e1.trans e2), o2.ex (e1.trans e2)⟩, hs⟩
theorem ev_set0 {σ : L2.St} {H : Hp} {t : TE} {b : Addr} {w1 w2 : V} (h : Ev t σ H (.ref b)) (hb : H b = some (.lst [w1, w2])) : Ev (tOp (rIxL K) t (tC (.int 0))) σ H w1 := ev_op h ev_c (rv_ixL (SqL.of hb) (atI_nat (j := 0) rfl))
theorem ev_set1 {σ : L2.St} {H : Hp} {t : TE} {b : Addr} {w1 w2 : V} (h : Ev t σ H (.ref b)) (hb : H b = some (.lst [w1, w2])) : Ev (tOp (rIxL K) t (tC (.int 1))) σ H w2 := ev_op h ev_c (rv_ixL (SqL.of hb) (atI_nat (j := 1) rfl))
abbrev N_paper_of : List Str := ["first", "second", "sets", "modulus", "rests", "rest", "p"]
theorem sc_paper_of : FnScope N_paper_of ["first", "second"] (defScope s_paper_of) := ⟨rfl, rfl, rfl, by decide +kernel, rfl, by decide +kernel, by decide +kernel⟩
/-- a paper's value -/
def okW (v : V) (p : Paper) (H : Hp) : Prop := ∃ a r s : Addr, v = .ref a ∧ H a = some (.tup [.int (p.1 : Nat), .ref r, .ref s]) ∧ H r = some (.lst (iv p.2.1)) ∧ H s = some (.lst (iv p.2.2))
theorem okW.ex {v : V} {p : Paper} {H H' : Hp} (e : Ex H H') (h : okW v p H) : okW v p H' := by
  obtain ⟨a, r, s, h1, h2, h3, h4⟩ := h
  exact ⟨a, r, s, h1, e _ _ h2, e _ _ h3, e _ _ h4⟩
def natW (p : Nat × List Nat × List Nat) : Paper := (p.1, zs p.2.1, zs p.2.2)
def okO (v : V) : Option (Nat × List Nat × List Nat) → Hp → Prop
  | none, _ => v = .non
  | some p, H => okW v (natW p) H
theorem okO.ex {v : V} {o : Option (Nat × List Nat × List Nat)} {H H' : Hp} (e : Ex H H') (h : okO v o H) : okO v o H' := by
  cases o with
  | none => exact h
  | some p => exact okW.ex e h
theorem okO.dec {v : V} {o : Option (Nat × List Nat × List Nat)} {H : Hp} (h : okO v o H) : decide (v = .non) = o.isNone := by
  cases o with
  | none =>
    have : v = .non := h
    subst this
    rfl
  | some p =>
    obtain ⟨a, r, s, rfl, _⟩ := h
    rfl
def sp_paper_of (K : PySem.W.Frag) : Sp := mkSp (α := (V × Say) × (V × Say)) (fun a => [a.1.1, a.2.1]) (fun a H => okY K a.1.1 a.1.2 H ∧ okY K a.2.1 a.2.2 H ∧ TwoS a.1.2 a.2.2) (fun a => fun _ x H => okO x (paperN (setS a.1.2) (setS a.2.2)) H)
theorem ok_paper_of (T : Tx K mg base) : Cal P w K mg base 20 "paper_of" (sp_paper_of K) := by
  refine cal_of T.f_paper_of T.g_paper_of sc_paper_of (fun _ _ _ _ _ _ us hl => match us, hl with | [_, _], _ => rfl) (len_sp fun _ => rfl) any_sp ?_
  rintro f cdv A outer s H vs Q E hr ⟨⟨⟨v1, s1⟩, ⟨v2, s2⟩⟩, rfl, ⟨o1, o2, hs⟩, gk⟩
  have hs : TwoS s1 s2 := hs
  have o1 : okY K v1 s1 H := o1
  have o2 : okY K v2 s2 H := o2
  have k : Gives (fun _ x H => okO x (paperN (setS s1) (setS s2)) H) H Q := gk
  obtain ⟨D, Ss, EO, g1, g2⟩ := hs.env
  have G1 := good_set EO g1
  have G2 := good_set EO g2
  generalize hA : setS s1 = A1 at k G1
  generalize hB : setS s2 = A2 at k G2
  refine ⟨_, pss_cons (ps_set (i := 2) sc_paper_of.nd rfl (Or.inr rfl) (pe_c (ok_sets_of (K := K) T) hr (by decide) (by rfl) (pa_cons (pe_lst (pa_cons (pv 0) (pa_cons (pv 1) pa_nil))) pa_nil)))
      (pss_cons (ps_if (pt_own (ok_primes_bool (K := K) T) hr (by decide) (pe_op (op_own (op := .Sub) (ok_primes_sub (K := K) T) hr (by decide) T.first_Primes) (pe_ix (ix_listk K rfl) (pv 2) pe_int (fun _ _ => rfl)) (pe_ix (ix_listk K rfl) (pv 2) pe_int (fun _ _ => rfl)))) (pss_one (ps_ret pe_non)) (pss_nil))
      (pss_cons (ps_set (i := 3) sc_paper_of.nd rfl (Or.inl rfl) (pe_c (ok_joint_modulus (K := K) T) hr (by decide) (by rfl) (pa_cons (pv 2) pa_nil)))
      (pss_cons (ps_setLc (i := 4) (own := [("rest", 5)]) (g := gName 5) (by rfl) sc_paper_of.nd rfl rfl (sw_true rfl rfl rfl (by decide +kernel)) (pi_list (pe_c (ok_units (K := K) T) hr (by decide) (by rfl) (pa_cons (pv 3) pa_nil))) (blkOk_by (own := [("rest", 5)]) (N := N_paper_of) (sc := defScope s_paper_of) (by decide +kernel)) (fun _ _ _ _ _ => pg_name (i := 5) sc_paper_of.nd rfl (Or.inl rfl)) (fun _ _ _ _ _ => pts_one (pt_cmpR (op_inCk K rfl (hu_of hr)) (pe_op op_mod (pv 5) (pe_fldk K rfl (pe_ix (ix_listk K rfl) (pv 2) pe_int (fun _ _ => rfl)) rfl)) (pe_fldk K rfl (pe_ix (ix_listk K rfl) (pv 2) pe_int (fun _ _ => rfl)) rfl) (by rfl))) (fun _ _ _ _ _ => pv 5))
      (pss_one (ps_ret (pe_tup (pa_cons (pv 3) (pa_cons (pv 4) (pa_cons (pe_lc (own := [("p", 6)]) (g := gName 6) (by rfl) sc_paper_of.nd (pi_list (pe_c (ok_special_primes (K := K) T) hr (by decide) (by rfl) (pa_cons (pv 2) (pa_cons (pv 3) pa_nil)))) (blkOk_by (own := [("p", 6)]) (N := N_paper_of) (sc := defScope s_paper_of) (by decide +kernel)) (fun _ _ _ _ _ => pg_name (i := 6) sc_paper_of.nd rfl (Or.inl rfl)) (fun _ _ _ _ _ => pts_one (pt_cmpR (op_ownIn (ok_primes_contains (K := K) T) hr (by decide)) (pv 6) (pe_ix (ix_listk K rfl) (pv 2) pe_int (fun _ _ => rfl)) (by rfl))) (fun _ _ _ _ _ => pv 6)) pa_nil))))))))), ?_⟩
  refine q_asgP (i := 2) (ev_sets (ev_var rfl) (ev_var rfl) o1 o2 hs) fun H0 v H1 e0 e1 ⟨b, ev, tp⟩ => ?_
  subst ev
  rw [hA, hB] at tp
  obtain ⟨w1, w2, hb, p1, p2⟩ := id tp
  have e01 := e0.trans e1
  refine q_when (b := truthN (combN fMinus A1 A2)) (et_bool (ev_join (r := .dif) (ev_isP (ev_set0 (ev_var rfl) hb) p1) (fun H2 e2 => ev_isP (ev_set1 (ev_var rfl) (e2 _ _ hb)) (p2.ex e2)) EO G1 G2) (Good.zlen EO (combN_good G1 G2 EO.odd))) (fun c H2 e2 => ?_) (fun c H2 e2 => ?_)
  · refine s_ret ev_c fun H3 e3 => k.go (e01.trans (e2.trans e3)) ?_
    show okO .non (paperN A1 A2) H3
    unfold paperN
    rw [if_pos c]
    rfl
  have hb2 := e2 _ _ hb
  have p12 := p1.ex e2
  have tp2 := tp.ex e2
  have M0 := lcmN_pos G1.pos G2.pos
  have MB := lcm_le EO G1 G2
  have hsl := spec2_len EO G1 G2
  have hN : paperN A1 A2 = some (lcmN A1.m A2.m, (unitsN (lcmN A1.m A2.m)).filter (fun r => inR r A1), (sortU (oddDivN (lcmN A1.m A2.m) ++ A1.singles ++ A2.singles)).filter fun p => memP p A1) := by
    unfold paperN
    rw [if_neg (by rw [c]; exact Bool.false_ne_true)]
  rw [hN] at k
  have hpr := spec2_pr EO G1 G2
  unfold spec2 at hsl hpr
  refine q_asg (i := 3) (p_ev (ev_cal (ea_cons (ev_var rfl) ea_nil) (sp_mk' (b, A1, A2) rfl fun H3 e3 => ⟨tp2.ex e3, G1.pos, G1.le EO, G2.pos, G2.le EO⟩))) fun H3 e3 => ?_
  generalize lcmN A1.m A2.m = M at M0 MB hsl k hpr
  have e03 := e01.trans (e2.trans e3)
  refine q_asgL (i := 4) (xs := nv ((unitsN M).filter fun r => inR r A1)) ?_ fun r H4 r0 e4 hr4 => ?_
  · refine el_lcV (l := unitsN M) (ok := okv fun n : Nat => V.int n) (w := fun n : Nat => V.int n) (fun r => inR r A1) (fun _ x => [some v1, some v2, some (.ref b), some (.int (M : Nat)), none, some (.int (x : Nat)), none]) (eis_v (ei_lp (ev_cal (ea_cons (ev_var rfl) ea_nil) (sp_mk' M rfl fun _ _ => MB)))) mono_okv (by have := unitsN_len M; omega) ?_ (fun _ _ _ _ _ => rfl) ?_ (fun x _ _ v H1 _ _ => ev_var rfl)
    · rintro x - v H1 - rfl R hR
      exact hR H1 (Ex.refl H1)
    · intro x _ u H5 e5 _
      obtain ⟨r1, hr1, er1⟩ := ev_pr (ta := tOp (rIxL K) (tVar 2) (tC (.int 0))) (σ := [some v1, some v2, some (.ref b), some (.int (M : Nat)), none, some (.int (x : Nat)), none]) T (ev_set0 (ev_var rfl) (e5 _ _ (e3 _ _ hb2))) (p12.ex (e3.trans e5))
      exact et_is (et_test (ev_op (ev_eqI (ev_op (ev_var rfl) (ev_pm T (ev_set0 (ev_var rfl) (e5 _ _ (e3 _ _ hb2))) (p12.ex (e3.trans e5))) (rv_I (cmod G1.pos))) (emod_nat x A1.m)) er1 (rv_inC (IntC.tupN hr1)))) mem_zs
  refine s_retP (P := fun _ x H => okO x (some (M, (unitsN M).filter (fun r => inR r A1), (sortU (oddDivN M ++ A1.singles ++ A2.singles)).filter fun p => memP p A1)) H) ?_ (k.mono (e03.trans e4))
  refine (ep_tup (PA := fun us H5 => ∃ sa, us = [.int (M : Nat), .ref r, .ref sa] ∧ H5 r = some (.lst (nv ((unitsN M).filter fun r => inR r A1))) ∧ H5 sa = some (.lst (nv ((sortU (oddDivN M ++ A1.singles ++ A2.singles)).filter fun p => memP p A1)))) (eap_consV (ev_var rfl) (eap_consV (ev_var rfl) (eap_cons (P := isL (nv ((sortU (oddDivN M ++ A1.singles ++ A2.singles)).filter fun p => memP p A1))) (el_p ?_) fun H5 v H6 e5 e6 ⟨sa, ev, _, hsa⟩ => eap_nil fun H7 e7 => ⟨sa, by rw [ev], e7 _ _ ((e5.trans e6) _ _ hr4), e7 _ _ hsa⟩))) (fun us H H' e ⟨sa, h1, h2, h3⟩ => ⟨sa, h1, e _ _ h2, e _ _ h3⟩) (fun us H ⟨sa, h1, _⟩ => by rw [h1]; simp)).imp fun H5 x H6 _ _ ⟨a, us, h1, _, h3, sa, h4, h5, h6⟩ => ⟨a, r, sa, h1, by rw [h3, h4]; rfl, by rw [h5]; unfold natW; rw [iv_zs], by rw [h6]; unfold natW; rw [iv_zs]⟩
  have tp4 := tp2.ex (e3.trans e4)
  have hb4 := (e3.trans e4) _ _ hb2
  have p14 := p12.ex (e3.trans e4)
  obtain ⟨a1, rfl, ia1⟩ := InsAt.of p14
  refine el_lcV (l := sortU (oddDivN M ++ A1.singles ++ A2.singles)) (ok := okv fun n : Nat => V.int n) (w := fun n : Nat => V.int n) (fun p => memP p A1) (fun _ x => [some v1, some v2, some (.ref b), some (.int (M : Nat)), some (.ref r), none, some (.int (x : Nat))]) (eis_v (ei_lp (ev_cal (ea2 (ev_var rfl) (ev_var rfl)) (sp_mk' (b, A1, A2, M) rfl fun H5 e5 => ⟨tp4.ex e5, M0, by show M < 2 ^ 20; omega, G1.slen EO, G2.slen EO⟩)))) mono_okv ?_ ?_ (fun _ _ _ _ _ => rfl) ?_ (fun x _ _ v H1 _ _ => ev_var rfl)
  · have := sortU_len (oddDivN M ++ A1.singles ++ A2.singles)
    omega
  · rintro x - v H1 - rfl R hR
    exact hR H1 (Ex.refl H1)
  · intro x hx u H5 e5 _
    exact et_test (ev_in (neg := false) (ev_var rfl) (ev_set0 (ev_var rfl) (e5 _ _ hb4)) (p14.ex e5) G1.pos (hpr x (sortU_mem.mp hx)).1.pos)
abbrev N_is_paper : List Str := ["first", "second", "paper", "sets", "one", "other", "modulus", "rests", "singles", "p", "rest"]
theorem sc_is_paper : FnScope N_is_paper ["first", "second", "paper"] (defScope s_is_paper) := ⟨rfl, rfl, rfl, by decide +kernel, rfl, by decide +kernel, by decide +kernel⟩
structure PapOk (p : Paper) : Prop where
  pos : 0 < p.1
  r : p.2.1.length ≤ 40000
  s : p.2.2.length ≤ 40000
  lt : ∀ x ∈ p.2.2, x < 2 ^ 30
def sp_is_paper (K : PySem.W.Frag) : Sp := mkSp (α := (V × Say) × (V × Say) × (V × Paper)) (fun a => [a.1.1, a.2.1.1, a.2.2.1]) (fun a H => okY K a.1.1 a.1.2 H ∧ okY K a.2.1.1 a.2.1.2 H ∧ okW a.2.2.1 a.2.2.2 H ∧ TwoS a.1.2 a.2.1.2 ∧ PapOk a.2.2.2) (fun a => isV (.bl (isPaperN (setS a.1.2) (setS a.2.1.2) a.2.2.2)))
theorem ok_is_paper (T : Tx K mg base) : Cal P w K mg base 20 "is_paper" (sp_is_paper K) := by
  refine cal_of T.f_is_paper T.g_is_paper sc_is_paper (fun _ _ _ _ _ _ us hl => match us, hl with | [_, _, _], _ => rfl) (len_sp fun _ => rfl) any_sp ?_
  rintro f cdv A outer s H vs Q E hr ⟨⟨⟨v1, s1⟩, ⟨v2, s2⟩, ⟨v3, pp⟩⟩, rfl, ⟨o1, o2, o3, hs, hp⟩, gk⟩
  have hs : TwoS s1 s2 := hs
  have hp : PapOk pp := hp
  have o1 : okY K v1 s1 H := o1
  have o2 : okY K v2 s2 H := o2
  have o3 : okW v3 pp H := o3
  have k : Gives (isV (.bl (isPaperN (setS s1) (setS s2) pp))) H Q := gk
  obtain ⟨D, Ss, EO, g1, g2⟩ := hs.env
  have G1 := good_set EO g1
  have G2 := good_set EO g2
  generalize hA : setS s1 = A1 at k G1
  generalize hB : setS s2 = A2 at k G2
  obtain ⟨m, pr, ps⟩ := pp
  obtain ⟨w3, ra, sa, rfl, hw3, hra, hsa⟩ := o3
  have m0 : 0 < m := hp.pos
  have hra : H ra = some (.lst (iv pr)) := hra
  have hsa : H sa = some (.lst (iv ps)) := hsa
  refine ⟨_, pss_cons (ps_set (i := 3) sc_is_paper.nd rfl (Or.inl rfl) (pe_c (ok_sets_of (K := K) T) hr (by decide) (by rfl) (pa_cons (pe_lst (pa_cons (pv 0) (pa_cons (pv 1) pa_nil))) pa_nil)))
      (pss_cons (ps_asg (pe_tup (pa_cons (pe_ix (ix_listk K rfl) (pv 3) pe_int (fun _ _ => rfl)) (pa_cons (pe_ix (ix_listk K rfl) (pv 3) pe_int (fun _ _ => rfl)) pa_nil))) (pg_tup (by rfl) (pgs_cons (pg_name (i := 4) sc_is_paper.nd rfl (Or.inr rfl)) (pgs_cons (pg_name (i := 5) sc_is_paper.nd rfl (Or.inr rfl)) pgs_nil))))
      (pss_cons (ps_asg (pv 2) (pg_tup (by rfl) (pgs_cons (pg_name (i := 6) sc_is_paper.nd rfl (Or.inl rfl)) (pgs_cons (pg_name (i := 7) sc_is_paper.nd rfl (Or.inr rfl)) (pgs_cons (pg_name (i := 8) sc_is_paper.nd rfl (Or.inr rfl)) pgs_nil)))))
      (pss_cons (ps_if (PW.pt (pw_or (pt_cmpR op_gt (pv 6) (pe_gi rfl T.i_MOST_MODULUS) (nomark _)) (pw_or1 (pt_cmpR op_ne (pe_op op_mod (pv 6) (pe_c (ok_joint_modulus (K := K) T) hr (by decide) (by rfl) (pa_cons (pv 3) pa_nil))) pe_int (nomark _))))) (pss_one (ps_ret pe_bl)) (pss_nil))
      (pss_cons (ps_if (pt_not (pt_val (pe_callB (cr_all rfl) (by rfl) T.b_all (by decide +kernel) (pa_cons (pe_lc (own := [("rest", 10)]) (g := gName 10) (by rfl) sc_is_paper.nd (pi_list (pe_c (ok_units (K := K) T) hr (by decide) (by rfl) (pa_cons (pv 6) pa_nil))) (blkOk_by (own := [("rest", 10)]) (N := N_is_paper) (sc := defScope s_is_paper) (by decide +kernel)) (fun _ _ _ _ _ => pg_name (i := 10) sc_is_paper.nd rfl (Or.inl rfl)) (fun _ _ _ _ _ => pts_one (pt_cmpR (op_inCk K rfl (hu_of hr)) (pe_op op_mod (pv 10) (pe_fldk K rfl (pv 4) rfl)) (pe_fldk K rfl (pv 4) rfl) (by rfl))) (fun _ _ _ _ _ => pe_cmpR (op_inCk K rfl (hu_of hr)) (pv 10) (pv 7) (by rfl))) pa_nil)))) (pss_one (ps_ret pe_bl)) (pss_nil))
      (pss_cons (ps_if (pt_not (pt_val (pe_callB (cr_all rfl) (by rfl) T.b_all (by decide +kernel) (pa_cons (pe_lc (own := [("p", 9)]) (g := gName 9) (by rfl) sc_is_paper.nd (pi_list (pe_c (ok_special_primes (K := K) T) hr (by decide) (by rfl) (pa_cons (pv 3) (pa_cons (pv 6) pa_nil)))) (blkOk_by (own := [("p", 9)]) (N := N_is_paper) (sc := defScope s_is_paper) (by decide +kernel)) (fun _ _ _ _ _ => pg_name (i := 9) sc_is_paper.nd rfl (Or.inl rfl)) (fun _ _ _ _ _ => pts_one (pt_cmpR (op_ownIn (ok_primes_contains (K := K) T) hr (by decide)) (pv 9) (pv 4) (by rfl))) (fun _ _ _ _ _ => pe_cmpR (op_inCk K rfl (hu_of hr)) (pv 9) (pv 8) (by rfl))) pa_nil)))) (pss_one (ps_ret pe_bl)) (pss_nil))
      (pss_cons (ps_if (pt_not (pt_val (pe_callB (cr_all rfl) (by rfl) T.b_all (by decide +kernel) (pa_cons (pe_lc (own := [("rest", 10)]) (g := gName 10) (by rfl) sc_is_paper.nd (pi_list (pv 7)) (blkOk_by (own := [("rest", 10)]) (N := N_is_paper) (sc := defScope s_is_paper) (by decide +kernel)) (fun _ _ _ _ _ => pg_name (i := 10) sc_is_paper.nd rfl (Or.inl rfl)) (fun _ _ _ _ _ => pts_nil) (fun _ _ _ _ _ => pe_cmpR (op_inCk K rfl (hu_of hr)) (pe_op op_mod (pv 10) (pe_fldk K rfl (pv 5) rfl)) (pe_fldk K rfl (pv 5) rfl) (by rfl))) pa_nil)))) (pss_one (ps_ret pe_bl)) (pss_nil))
      (pss_one (ps_ret (pe_callB (cr_all rfl) (by rfl) T.b_all (by decide +kernel) (pa_cons (pe_lc (own := [("p", 9)]) (g := gName 9) (by rfl) sc_is_paper.nd (pi_list (pv 8)) (blkOk_by (own := [("p", 9)]) (N := N_is_paper) (sc := defScope s_is_paper) (by decide +kernel)) (fun _ _ _ _ _ => pg_name (i := 9) sc_is_paper.nd rfl (Or.inl rfl)) (fun _ _ _ _ _ => pts_nil) (fun _ _ _ _ _ => pe_and (pe_cmpR op_gt (pv 9) pe_int (nomark _)) (pe_and (pe_c (ok_is_prime (K := K) T) hr (by decide) (by rfl) (pa_cons (pv 9) pa_nil)) (pe_one (pe_cmpR (op_ownIn (ok_primes_contains (K := K) T) hr (by decide)) (pv 9) (pv 5) (by rfl)))))) pa_nil)))))))))), ?_⟩
  refine q_asgP (i := 3) (ev_sets (ev_var rfl) (ev_var rfl) o1 o2 hs) fun H0 v H1 e0 e1 ⟨b, ev, tp⟩ => ?_
  subst ev
  rw [hA, hB] at tp
  obtain ⟨w1, w2, hb, p1, p2⟩ := id tp
  have e01 := e0.trans e1
  refine q_asgG (eu2 (ev_set0 (ev_var rfl) hb) (ev_set1 (ev_var rfl) hb)) fun q H2 _ e2 hq => ?_
  refine ⟨q, _, rfl, SqT.of hq, rfl, _, _, rfl, _, _, rfl, rfl, ?_⟩
  have e02 := e01.trans e2
  refine ⟨.ref w3, rfl, w3, _, rfl, SqT.of (e02 _ _ hw3), rfl, _, _, rfl, _, _, rfl, _, _, rfl, rfl, ?_⟩
  dsimp only
  have tp2 := tp.ex e2
  have p12 := p1.ex e2
  have p22 := p2.ex e2
  have M0 := lcmN_pos G1.pos G2.pos
  have st : ∀ {o9 o10 : Option V}, (([some v1, some v2, some (.ref w3), some (.ref b), some w1, some w2, some (.int (m : Nat)), some (.ref ra), some (.ref sa), o9, o10] : L2.St) = [some v1, some v2, some (.ref w3), some (.ref b), some w1, some w2, some (.int (m : Nat)), some (.ref ra), some (.ref sa), o9, o10]) := rfl
  have unfoldN : isPaperN A1 A2 (m, pr, ps) = if (decide (4000 < m) || !decide (m % lcmN A1.m A2.m = 0)) = true then false
      else if (!((unitsN m).filter fun r => inR r A1).all fun x => decide ((x : Int) ∈ pr)) = true then false
      else if (!((sortU (oddDivN m ++ A1.singles ++ A2.singles)).filter fun q => memP q A1).all fun x => decide ((x : Int) ∈ ps)) = true then false
      else if (!pr.all fun x => inI x A2) = true then false
      else ps.all fun x => memI x A2 := rfl
  rw [unfoldN] at k
  have bigm : decide ((4000 : Int) < ((m : Nat) : Int)) = decide (4000 < m) := decide_eq_decide.mpr (by omega)
  refine q_when (b := decide (4000 < m) || !decide (m % lcmN A1.m A2.m = 0)) (et_or (et_is (et_test (ev_op (ev_var rfl) ev_c rv_I0)) bigm) fun _ => et_is (et_test (ev_op (ev_op (ev_var rfl) (p_ev (ev_cal (ea_cons (ev_var rfl) ea_nil) (sp_mk' (b, A1, A2) rfl fun H3 e3 => ⟨tp2.ex e3, G1.pos, G1.le EO, G2.pos, G2.le EO⟩))) (rv_I (cmod M0))) ev_c (rv_ne rfl))) (congrArg not (dec_mod0 m _))) (fun c H3 e3 => ?_) (fun c H3 e3 => ?_)
  · rw [if_pos c] at k
    exact s_ret ev_c fun H4 e4 => gives_v k (e02.trans (e3.trans e4))
  rw [c, if_neg Bool.false_ne_true] at k
  have mb : m ≤ 4000 := by
    rw [Bool.or_eq_false_iff] at c
    have := of_decide_eq_false c.1
    omega
  have inb : ∀ {σ : L2.St} {H4 : Hp} {t : TE} {x : Nat} {l : List Int} {y : Addr} {ty : TE}, Ev t σ H4 (.int (x : Nat)) → Ev ty σ H4 (.ref y) → H4 y = some (.lst (iv l)) → Ev (tOp (rInC K false) t ty) σ H4 (.bl (decide ((x : Int) ∈ l))) := fun h1 h2 h3 => ev_op h1 h2 (rv_inC (IntC.lst h3))
  refine q_when (b := !((unitsN m).filter fun r => inR r A1).all fun x => decide ((x : Int) ∈ pr)) (et_not (et_test (ev_allF ?_))) (fun c H4 e4 => ?_) (fun c H4 e4 => ?_)
  · refine el_lcV (l := unitsN m) (ok := okv fun n : Nat => V.int n) (fun r => inR r A1) (fun _ x => [some v1, some v2, some (.ref w3), some (.ref b), some w1, some w2, some (.int (m : Nat)), some (.ref ra), some (.ref sa), none, some (.int (x : Nat))]) (eis_v (ei_lp (ev_cal (ea_cons (ev_var rfl) ea_nil) (sp_mk' m rfl fun _ _ => mb)))) mono_okv (by have := unitsN_len m; omega) ?_ (fun _ _ _ _ _ => rfl) ?_ ?_
    · rintro x - v H1 - rfl R hR
      exact hR H1 (Ex.refl H1)
    · intro x _ u H5 e5 _
      obtain ⟨r1, hr1, er1⟩ := ev_pr (ta := tVar 4) (σ := [some v1, some v2, some (.ref w3), some (.ref b), some w1, some w2, some (.int (m : Nat)), some (.ref ra), some (.ref sa), none, some (.int (x : Nat))]) T (ev_var rfl) (p12.ex (e3.trans e5))
      exact et_is (et_test (ev_op (ev_eqI (ev_op (ev_var rfl) (ev_pm T (ev_var rfl) (p12.ex (e3.trans e5))) (rv_I (cmod G1.pos))) (emod_nat x A1.m)) er1 (rv_inC (IntC.tupN hr1)))) mem_zs
    · intro x _ _ u H5 e5 _
      exact inb (ev_var rfl) (ev_var rfl) ((e02.trans (e3.trans e5)) _ _ hra)
  · rw [if_pos c] at k
    exact s_ret ev_c fun H5 e5 => gives_v k (e02.trans (e3.trans (e4.trans e5)))
  rw [c, if_neg Bool.false_ne_true] at k
  have e04 := e02.trans (e3.trans e4)
  have tp4 := tp2.ex (e3.trans e4)
  have p14 := p12.ex (e3.trans e4)
  have p24 := p22.ex (e3.trans e4)
  have hspl : ∀ x ∈ sortU (oddDivN m ++ A1.singles ++ A2.singles), 0 < x := fun x hx => by
    rcases List.mem_append.mp (sortU_mem.mp hx) with h | h
    · rcases List.mem_append.mp h with h | h
      · exact ((oddDivN_mem m0).mp h).1.pos
      · exact (G1.sless EO x h).1
    · exact (G2.sless EO x h).1
  obtain ⟨a1, rfl, ia1⟩ := InsAt.of p14
  obtain ⟨a2, rfl, ia2⟩ := InsAt.of p24
  refine q_when (b := !((sortU (oddDivN m ++ A1.singles ++ A2.singles)).filter fun q => memP q A1).all fun x => decide ((x : Int) ∈ ps)) (et_not (et_test (ev_allF ?_))) (fun c H5 e5 => ?_) (fun c H5 e5 => ?_)
  · refine el_lcV (l := sortU (oddDivN m ++ A1.singles ++ A2.singles)) (ok := okv fun n : Nat => V.int n) (fun q => memP q A1) (fun _ x => [some v1, some v2, some (.ref w3), some (.ref b), some (.ref a1), some (.ref a2), some (.int (m : Nat)), some (.ref ra), some (.ref sa), some (.int (x : Nat)), none]) (eis_v (ei_lp (ev_cal (ea2 (ev_var rfl) (ev_var rfl)) (sp_mk' (b, A1, A2, m) rfl fun H5 e5 => ⟨tp4.ex e5, m0, by show m < 2 ^ 20; omega, G1.slen EO, G2.slen EO⟩)))) mono_okv ?_ ?_ (fun _ _ _ _ _ => rfl) ?_ ?_
    · have h1 := sortU_len (oddDivN m ++ A1.singles ++ A2.singles)
      rw [List.length_append, List.length_append] at h1
      have h2 := oddDivN_len m0 (by omega)
      have h3 := G1.slen EO
      have h4 := G2.slen EO
      omega
    · rintro x - v H1 - rfl R hR
      exact hR H1 (Ex.refl H1)
    · intro x hx u H5 e5 _
      exact et_test (ev_in (neg := false) (ev_var rfl) (ev_var rfl) (p14.ex e5) G1.pos (hspl x hx))
    · intro x _ _ u H5 e5 _
      exact inb (ev_var rfl) (ev_var rfl) ((e04.trans e5) _ _ hsa)
  · rw [if_pos c] at k
    exact s_ret ev_c fun H6 e6 => gives_v k (e04.trans (e5.trans e6))
  rw [c, if_neg Bool.false_ne_true] at k
  have e05 := e04.trans e5
  refine q_when (b := !pr.all fun x => inI x A2) (et_not (et_test (ev_allF ?_))) (fun c H6 e6 => ?_) (fun c H6 e6 => ?_)
  · refine el_lc1 (l := pr) (ok := okv fun n : Int => V.int n) (fun _ x => [some v1, some v2, some (.ref w3), some (.ref b), some (.ref a1), some (.ref a2), some (.int (m : Nat)), some (.ref ra), some (.ref sa), none, some (.int x)]) (eis_l mono_okv (ev_var rfl) (SqL.of (e05 _ _ hra)) (els_okv.mpr rfl)) mono_okv hp.r ?_ (fun _ _ _ _ _ => rfl) ?_
    · rintro x - v H1 - rfl R hR
      exact hR H1 (Ex.refl H1)
    · intro x _ u H7 e7 _
      obtain ⟨r1, hr1, er1⟩ := ev_pr (ta := tVar 5) (σ := [some v1, some v2, some (.ref w3), some (.ref b), some (.ref a1), some (.ref a2), some (.int (m : Nat)), some (.ref ra), some (.ref sa), none, some (.int x)]) T (ev_var rfl) (p24.ex (e5.trans e7))
      exact ev_op (ev_op (ev_var rfl) (ev_pm T (ev_var rfl) (p24.ex (e5.trans e7))) (rv_I (cmod G2.pos))) er1 (rv_inC (IntC.tupN hr1))
  · rw [if_pos c] at k
    exact s_ret ev_c fun H7 e7 => gives_v k (e05.trans (e6.trans e7))
  rw [c, if_neg Bool.false_ne_true] at k
  have e06 := e05.trans e6
  refine s_retP (ev_p (ev_allF ?_)) (k.mono e06)
  refine el_lc1 (l := ps) (ok := okv fun n : Int => V.int n) (fun _ x => [some v1, some v2, some (.ref w3), some (.ref b), some (.ref a1), some (.ref a2), some (.int (m : Nat)), some (.ref ra), some (.ref sa), some (.int x), none]) (eis_l mono_okv (ev_var rfl) (SqL.of (e06 _ _ hsa)) (els_okv.mpr rfl)) mono_okv hp.s ?_ (fun _ _ _ _ _ => rfl) ?_
  · rintro x - v H1 - rfl R hR
    exact hR H1 (Ex.refl H1)
  · intro x hx u H7 e7 _
    have hx30 : x < 2 ^ 30 := hp.lt x hx
    refine ev_andV (ev_op (ev_var rfl) ev_c rv_I0) fun c2 => ev_andV (p_ev (ev_cal (ea_cons (ev_var rfl) ea_nil) (sp_mk' x rfl fun _ _ => hx30))) fun _ => ?_
    have c2 : 2 < x := of_decide_eq_true c2
    have ex : ((x.toNat : Nat) : Int) = x := by omega
    exact ev_in (neg := false) (q := x.toNat) (by rw [ex]; exact ev_var rfl) (ev_var rfl) (p24.ex ((e5.trans e6).trans e7)) G2.pos (by omega)
end
end EP
end

section
set_option Elab.async false
set_option linter.all false
set_option maxRecDepth 100000
set_option maxHeartbeats 4000000
/-! F1: the numbers that the law's texts name. -/
namespace EP
open PySem PySem.Spec PyProof.Rows L2 Evl
abbrev S8 : List Nat := [3, 5, 7, 11, 13]
abbrev S9 : List Nat := [59, 67]
theorem env_of {D : Nat} {Ss : List Nat} (pos : 0 < D) (le : D ≤ 4000) (few : Ss.length < 20) (small : ∀ p ∈ Ss, p < 2 ^ 20) (h : ∀ p ∈ oddDivN D, p ∈ Ss) : EnvOk D Ss := ⟨pos, le, few, small, fun p h1 h2 h3 => h p ((oddDivN_mem pos).mpr ⟨h1, h2, h3⟩)⟩
theorem E8 : EnvOk 840 S8 := env_of (by decide) (by decide) (by decide) (by decide) (by decide +kernel)
theorem E9 : EnvOk 3953 S9 := env_of (by decide) (by decide) (by decide) (by decide) (by decide +kernel)
def numOkB (D : Nat) (Ss : List Nat) (n : Int) : Bool := decide (n ≠ 0) && (decide (n.natAbs < 2 ^ 20) && (decide (0 < (coreI n).1.natAbs) && (decide (D % sgnM n = 0) && (oddDivN n.natAbs).all fun p => decide (p ∈ Ss))))
theorem numOk_of {D : Nat} {Ss : List Nat} {n : Int} (h : numOkB D Ss n = true) : NumOk D Ss n := by
  unfold numOkB at h
  simp only [Bool.and_eq_true, decide_eq_true_eq] at h
  obtain ⟨h1, h2, h3, h4, h5⟩ := h
  exact ⟨h1, h2, h3, Nat.dvd_of_mod_eq_zero h4, fun p hp => of_decide_eq_true (List.all_eq_true.mp h5 p hp)⟩
abbrev numsL : List Int := [-1, 2, -2, 3, -3, 5, -5, 6, -6, 7, -7, 10, 15, 4, -4, 21, 9, -14, 1]
theorem nums_ok : ∀ n ∈ numsL, numOkB 840 S8 n = true := by decide +kernel
abbrev midsL : List (Int × Int) := [(1, 1), (0, -2), (1, -1), (0, 3), (1, 2), (3, 1), (0, -3), (2, -6)]
theorem mids_ok : ∀ p ∈ midsL, numOkB 840 S8 (p.1 * p.1 - 4 * 1 * p.2) = true := by decide +kernel
abbrev modsL : List Nat := [3, 4, 5, 7, 8, 12, 24, 15]
abbrev formsL : List Nat := [1, 2, 3, 5, 6, 7, 10, 15]
theorem good_rest {D : Nat} {Ss : List Nat} {m r : Nat} (E : EnvOk D Ss) (m0 : 0 < m) (h : m ∣ D) (hr : r < m) : Good D Ss (restP m r) := by
  have mp := mk_rest (r := r) m0 (Nat.le_trans (Nat.le_of_dvd E.pos h) E.le) hr
  refine mkP_good m0 h mp.asc mp.un (fun p hp => ?_) fun p h1 h2 h3 => E.odd p h1 h2 (Nat.dvd_trans h3 h)
  obtain ⟨h1, h2, h3⟩ := (oddDivN_mem m0).mp (List.mem_filter.mp hp).1
  exact ⟨h1, h2, E.odd p h1 h2 (Nat.dvd_trans h3 h)⟩
theorem good_single {D : Nat} {Ss : List Nat} {p : Nat} (hp : Prime p) (h2 : p ≠ 2) (hm : p ∈ Ss) : Good D Ss ⟨1, [], [p]⟩ := ⟨Nat.one_pos, Nat.one_dvd D, by simp [Asc], fun x h => (by cases h), by simp [Asc], fun q hq => by rw [List.mem_singleton.mp hq]; exact ⟨hp, h2, hm⟩⟩
theorem rest11 : restP 11 0 = ⟨1, [], [11]⟩ := by decide +kernel
theorem rest13 : restP 13 0 = ⟨1, [], [13]⟩ := by decide +kernel
def fmB (n : Nat) : Bool := decide (0 < n) && (decide (n < 16) && (redN n).all fun F => decide (F = ((1 : Int), (0 : Int), (n : Int))) || !((rsN F (4 * n)).any fun r => decide (r ∈ rsN (1, 0, (n : Int)) (4 * n))))
theorem fm_of {n : Nat} (h : fmB n = true) : FmOk n := by
  unfold fmB at h
  simp only [Bool.and_eq_true, decide_eq_true_eq] at h
  obtain ⟨h1, h2, h3⟩ := h
  refine ⟨h1, h2, fun F hF => ?_⟩
  have := List.all_eq_true.mp h3 F hF
  rw [Bool.or_eq_true] at this
  rcases this with q | q
  · exact .inl (of_decide_eq_true q)
  · exact .inr (by simpa using q)
theorem forms_ok : ∀ n ∈ formsL, fmB n = true := by decide +kernel
theorem prime11 : Prime 11 := (isPrimeN_iff 11).mp (by decide +kernel)
theorem prime13 : Prime 13 := (isPrimeN_iff 13).mp (by decide +kernel)
end EP
end

section
set_option Elab.async false
set_option linter.all false
set_option maxRecDepth 100000
set_option maxHeartbeats 4000000
/-! F2: the law's small defs. -/
namespace EP
open PySem PySem.Spec PyProof.Rows L2 Evl
section
variable {P : Program} {w : World} {K : PySem.W.Frag} {mg : Str → Option Value} {base : Heap}
/-! ### the cell -/
abbrev N_law_cell : List Str := ["_law_script", "_law_k"]
theorem sc_law_cell : FnScope N_law_cell ["_law_script", "_law_k"] (defScope s_law_cell) := ⟨rfl, rfl, rfl, by decide +kernel, rfl, by decide +kernel, by decide +kernel⟩
def sp_law_cell (K : PySem.W.Frag) : Sp := mkSp (α := Addr × List Int × Nat) (fun a => [.ref a.1, .int (a.2.2 : Nat)]) (fun a H => SqL K H a.1 (iv a.2.1)) (fun a => isV (.int (a.2.1.getD a.2.2 0)))
theorem ok_law_cell (T : Tx K mg base) : Cal P w K mg base 1 "_law_cell" (sp_law_cell K) := by
  refine cal_of T.f_law_cell T.g_law_cell sc_law_cell (fun _ _ _ _ _ _ us hl => match us, hl with | [_, _], _ => rfl) (len_sp fun _ => rfl) any_sp ?_
  rintro f cdv A outer s H vs Q E hr ⟨⟨a, ns, j⟩, rfl, gh, k⟩
  have hs : SqL K H a (iv ns) := gh
  refine ⟨_, pss_cons (ps_if (pt_cmpR op_lt (pv 1) (pe_callB c_len (by rfl) T.b_len (by decide +kernel) (pa_cons (pv 0) pa_nil)) (nomark _)) (pss_one (ps_ret (pe_ix (ix_listk K rfl) (pv 0) (pv 1) (fun _ _ => rfl)))) (pss_nil))
      (pss_one (ps_ret pe_int)), ?_⟩
  refine q_when (b := decide (j < ns.length)) (et_is (et_test (ev_op (ev_var rfl) (ev_cb (ea_cons (ev_var rfl) ea_nil) (rc_len hs)) rv_I0)) ?_) (fun c H1 e1 => ?_) (fun c H1 e1 => ?_)
  · rw [List.length_map]
    exact decide_eq_decide.mpr Int.ofNat_lt
  · have c := of_decide_eq_true c
    refine s_retP (ev_p (ev_op (ev_var rfl) (ev_var rfl) (rv_ixL (ex_l e1 hs) (atI_nat (j := j) (v := .int (ns.getD j 0)) ?_)))) (k.mono e1)
    rw [List.getElem?_map, List.getD_eq_getElem?_getD, List.getElem?_eq_getElem c]
    rfl
  · have c := of_decide_eq_false c
    refine s_ret ev_c fun H2 e2 => gives_ve k (e1.trans e2) ?_
    show _ = V.int (ns.getD j 0)
    rw [List.getD_eq_getElem?_getD, List.getElem?_eq_none (by omega)]
    rfl
/-! ### draws -/
def DrawOk (ds ss : List Nat) : Prop := ∀ (j : Nat) (d z : Nat), ds[j]? = some d → ss[j]? = some z → d < z
def isDraw (ss : List Nat) : VP := fun H0 x H => ∃ a ds, x = .ref a ∧ H0 a = none ∧ H a = some (.lst (nv ds)) ∧ ds.length = ss.length ∧ DrawOk ds ss
abbrev N_law_draws : List Str := ["_law_cell_here", "_law_sizes", "_law_drawn", "_law_left", "_law_at", "_law_mixed"]
theorem sc_law_draws : FnScope N_law_draws ["_law_cell_here", "_law_sizes"] (defScope s_law_draws) := ⟨rfl, rfl, rfl, by decide +kernel, rfl, by decide +kernel, by decide +kernel⟩
def sp_law_draws : Sp := mkSp (α := Int × Addr × List Nat) (fun a => [.int a.1, .ref a.2.1]) (fun a H => H a.2.1 = some (.lst (nv a.2.2)) ∧ (∀ z ∈ a.2.2, 0 < z ∧ z < 2 ^ 29) ∧ a.2.2.length ≤ 100) (fun a => isDraw a.2.2)
theorem DrawOk.snoc {ds ss : List Nat} {d z : Nat} (h : DrawOk ds ss) (hz : ss[ds.length]? = some z) (hd : d < z) : DrawOk (ds ++ [d]) ss := fun j e y h1 h2 => by
  rw [List.getElem?_append] at h1
  by_cases hj : j < ds.length
  · rw [if_pos hj] at h1
    exact h j e y h1 h2
  · rw [if_neg hj] at h1
    have hj2 : j < (ds ++ [d]).length := by
      rcases Nat.lt_or_ge (j - ds.length) 1 with q | q
      · simp
        omega
      · rw [List.getElem?_eq_none (by simpa using q)] at h1
        cases h1
    have ej : j = ds.length := by
      simp at hj2
      omega
    subst ej
    rw [hz] at h2
    cases h2
    simp at h1
    omega
theorem ok_law_draws (T : Tx K mg base) : Cal P w K mg base 1 "_law_draws" sp_law_draws := by
  refine cal_of T.f_law_draws T.g_law_draws sc_law_draws (fun _ _ _ _ _ _ us hl => match us, hl with | [_, _], _ => rfl) (len_sp fun _ => rfl) any_sp ?_
  rintro f cdv A outer s H vs Q E hr ⟨⟨c, b, ss⟩, rfl, ⟨gb, gs, gl⟩, gk⟩
  have hb : H b = some (.lst (nv ss)) := gb
  have hs : ∀ z ∈ ss, 0 < z ∧ z < 2 ^ 29 := gs
  have hl : ss.length ≤ 100 := gl
  have k : Gives (isDraw ss) H Q := gk
  refine ⟨_, pss_cons (ps_set (i := 2) sc_law_draws.nd rfl (Or.inl rfl) (pe_lst pa_nil))
      (pss_cons (ps_set (i := 3) sc_law_draws.nd rfl (Or.inl rfl) (pe_callB c_abs (by rfl) T.b_abs (by decide +kernel) (pa_cons (pv 0) pa_nil)))
      (pss_cons (ps_for PassesOwn.never rfl (pi_range1 (by rfl) T.b_range (pa_cons (pe_callB c_len (by rfl) T.b_len (by decide +kernel) (pa_cons (pv 1) pa_nil)) pa_nil)) (pg_name (i := 4) sc_law_draws.nd rfl (Or.inl rfl)) (pss_one (ps_if (pt_cmpR op_ge (pe_callB c_abs (by rfl) T.b_abs (by decide +kernel) (pa_cons (pv 0) pa_nil)) (pe_op op_pow pe_int pe_int) (nomark _)) (pss_cons (ps_expr (pe_bm PySem.F.plainAttrs_list PySem.F.slot_list_append PySem.F.type_list_append mt_append (pv 2) (pa_cons (pe_op op_mod (pe_callTy c_int (by rfl) T.b_int (by decide +kernel) (pa_cons (pv 3) pa_nil)) (pe_ix (ix_listk K rfl) (pv 1) (pv 4) (fun _ _ => rfl))) pa_nil)))
          (pss_one (ps_set (i := 3) sc_law_draws.nd rfl (Or.inl rfl) (pe_op op_fdiv (pv 3) (pe_ix (ix_listk K rfl) (pv 1) (pv 4) (fun _ _ => rfl)))))) (pss_cons (ps_set (i := 5) sc_law_draws.nd rfl (Or.inl rfl) (pe_op op_mod (pe_callTy c_int (by rfl) T.b_int (by decide +kernel) (pa_cons (pe_op op_mul (pe_op op_add (pe_op op_add (pv 3) (pe_op op_mul pe_int (pv 4))) pe_int) pe_int) pa_nil)) pe_int))
          (pss_cons (ps_set (i := 5) sc_law_draws.nd rfl (Or.inl rfl) (pe_op op_mod (pe_callTy c_int (by rfl) T.b_int (by decide +kernel) (pa_cons (pe_op op_add (pe_op op_add (pe_op op_mul (pe_op op_mul (pv 5) (pv 5)) pe_int) (pe_op op_mul pe_int (pv 4))) (pv 5)) pa_nil)) pe_int))
          (pss_one (ps_expr (pe_bm PySem.F.plainAttrs_list PySem.F.slot_list_append PySem.F.type_list_append mt_append (pv 2) (pa_cons (pe_op op_mod (pe_op op_fdiv (pv 5) pe_int) (pe_ix (ix_listk K rfl) (pv 1) (pv 4) (fun _ _ => rfl))) pa_nil)))))))))
      (pss_one (ps_ret (pv 2))))), ?_⟩
  refine q_asgL (i := 2) (el_lst ea_nil (by simp)) fun l H1 l0 e1 hl1 => ?_
  refine q_asg (i := 3) (ev_cb (ea_cons (ev_var rfl) ea_nil) rc_abs) fun H2 e2 => ?_
  have e12 := e1.trans e2
  refine q_forR1 (n := ((ss.length : Nat) : Int)) (ea_cons (ev_is (ev_cb (ea_cons (ev_var rfl) ea_nil) (rc_len (SqL.of (e12 _ _ hb)))) (by rw [nv_len])) ea_nil) (by omega) (fun i σ' H' => ∃ (ds : List Nat) (left : Nat) (o4 o5 : Option V), σ' = [some (.int c), some (.ref b), some (.ref l), some (.int (left : Nat)), o4, o5] ∧ Ex H H' ∧ H' l = some (.lst (nv ds)) ∧ ds.length = i ∧ DrawOk ds ss)
    (fun H3 e3 => ⟨[], c.natAbs, none, none, rfl, e12.trans e3, (e2.trans e3) _ _ hl1, rfl, fun j d z h => by simp at h⟩) ?_ ?_
  · rintro i σ' H' hi ⟨ds, left, o4, o5, rfl, ex, hl', hlen, hd⟩
    have hi : i < ss.length := by omega
    have hz : ss[i]? = some ss[i] := List.getElem?_eq_getElem hi
    generalize ss[i] = z at hz
    obtain ⟨z0, zb⟩ := hs z (List.mem_of_getElem? hz)
    have hb' := ex _ _ hb
    have hnl : (nv ds).length < 100000 := by rw [nv_len]; omega
    have size : ∀ {σ : L2.St} {H1 : Hp}, Ex H' H1 → σ[1]? = some (some (.ref b)) → σ[4]? = some (some (.int (i : Nat))) → Ev (tOp (rIxL K) (tVar 1) (tVar 4)) σ H1 (.int (z : Nat)) := fun e h1 h4 => ev_op (ev_var h1) (ev_var h4) (rv_ixL (SqL.of (e _ _ hb')) (atI_nat (j := i) (by rw [List.getElem?_map, hz]; rfl)))
    have push : ∀ (d : Nat) (H1 : Hp), Ex H' H1 → d < z → Ex H (upd H1 l (.lst (nv ds ++ [.int (d : Nat)]))) ∧ upd H1 l (.lst (nv ds ++ [.int (d : Nat)])) l = some (.lst (nv (ds ++ [d]))) ∧ (ds ++ [d]).length = i + 1 ∧ DrawOk (ds ++ [d]) ss := fun d H1 e hdz =>
      ⟨Ex.mut (ex.trans e) l0, by rw [upd_same]; simp [nv], by simp [hlen], hd.snoc (by rw [hlen]; exact hz) hdz⟩
    refine s_if (b := decide ((10 : Int) ^ 18 ≤ (c.natAbs : Int))) (et_is (et_test (ev_op (ev_cb (ea_cons (ev_var rfl) ea_nil) rc_abs) (ev_op ev_c ev_c (rv_I ⟨by decide, by decide, by decide⟩)) rv_I0)) rfl) (fun cc H3 e3 => ?_) (fun cc H3 e3 => ?_)
    · refine q_app (e3 _ _ hl') (ev_var rfl) (ev_eqI (ev_op (ev_cb (ea_cons (ev_var rfl) ea_nil) rc_int) (size e3 rfl rfl) (rv_I (cmod z0))) (emod_nat left z)) hnl fun H4 e4 => ?_
      obtain ⟨q1, q2, q3, q4⟩ := push (left % z) H4 (e3.trans e4) (Nat.mod_lt left z0)
      generalize upd H4 l (.lst (nv ds ++ [.int (left % z : Nat)])) = H5 at q1 q2
      refine s_asgI (i := 3) (ev_op (ev_var rfl) (ev_op (ev_var rfl) (ev_var rfl) (rv_ixL (SqL.of (q1 _ _ hb)) (atI_nat (j := i) (v := .int (z : Nat)) (by rw [List.getElem?_map, hz]; rfl)))) (rv_I (cdiv z0 zb))) (ediv_nat left z) fun H6 e6 => ⟨_, left / z, _, _, rfl, q1.trans e6, e6 _ _ q2, q3, q4⟩
    · have m1 : ∀ x : Int, -(2 ^ 64) < x % 2147483647 ∧ x % 2147483647 < 2 ^ 64 := fun x => by omega
      refine q_asg (i := 5) (ev_op (ev_cb (ea_cons (ev_op (ev_op (ev_op (ev_var rfl) (ev_op ev_c (ev_var rfl) (rv_I (cm1 (by decide)))) rv_I0) ev_c rv_I0) ev_c (rv_I (cm2 (by decide)))) ea_nil) rc_int) ev_c (rv_I (show (0 : Int) < 2147483647 by decide))) fun H4 e4 => ?_
      generalize hm : (((left : Nat) : Int) + 11 * ((i : Nat) : Int) + 3) * 48271 % 2147483647 = mx
      have mb : -(2 ^ 64) < mx ∧ mx < 2 ^ 64 := hm ▸ m1 _
      refine q_asg (i := 5) (ev_op (ev_cb (ea_cons (ev_op (ev_op (ev_op (ev_op (ev_var rfl) (ev_var rfl) (rv_I (cm1 mb))) ev_c (rv_I (cm2 (by decide)))) (ev_op ev_c (ev_var rfl) (rv_I (cm1 (by decide)))) rv_I0) (ev_var rfl) rv_I0) ea_nil) rc_int) ev_c (rv_I (show (0 : Int) < 2147483629 by decide))) fun H5 e5 => ?_
      generalize (mx * mx * 16807 + 97 * ((i : Nat) : Int) + mx) % 2147483629 = my
      have e35 := e3.trans (e4.trans e5)
      have v0 := Int.emod_nonneg (my / 5) (show (z : Int) ≠ 0 by omega)
      have v1 := Int.emod_lt_of_pos (my / 5) (show (0 : Int) < (z : Int) by omega)
      refine s_app (e35 _ _ hl') (ev_var rfl) (ev_eqI (ev_op (ev_op (ev_var rfl) ev_c (rv_I ⟨by decide, by decide⟩)) (size e35 rfl rfl) (rv_I (cmod z0))) (Int.toNat_of_nonneg v0).symm) hnl fun H6 e6 => ?_
      obtain ⟨q1, q2, q3, q4⟩ := push (my / 5 % (z : Int)).toNat H6 (e35.trans e6) (by omega)
      exact ⟨_, left, _, _, rfl, q1, q2, q3, q4⟩
  · rintro σ' H' ⟨ds, left, o4, o5, rfl, ex, hl', hlen, hd⟩
    rw [Int.toNat_natCast] at hlen
    exact s_ret (ev_var rfl) fun H3 e3 => k.go (ex.trans e3) ⟨l, ds, rfl, l0, e3 _ _ hl', hlen, hd⟩
end
end EP
end

section
set_option Elab.async false
set_option linter.all false
set_option maxRecDepth 100000
set_option maxHeartbeats 4000000
/-! F3: the law's texts. -/
namespace EP
open PySem PySem.Spec PyProof.Rows L2 Evl
/-- a text's saying -/
structure TxOk (n : Nat) (s : Say) : Prop where
  ok : SayOk s
  env : SEnv 840 S8 s
  h : hgt s ≤ n
  p : pard s ≤ n
  l : lenB s ≤ 200 * n * n
theorem nums_b : ∀ n ∈ numsL, -30 ≤ n ∧ n ≤ 70 := by decide
theorem mods_b : ∀ m ∈ modsL, 0 < m ∧ m ≤ 70 ∧ 840 % m = 0 := by decide
theorem forms_b : ∀ m ∈ formsL, 0 < m ∧ m ≤ 60 ∧ 840 % (4 * m) = 0 := by decide
theorem mids_b : ∀ p ∈ midsL, (-20 ≤ p.1 ∧ p.1 ≤ 20) ∧ (-20 ≤ p.2 ∧ p.2 ≤ 20) := by decide
theorem tx_sq {n : Int} (h : n ∈ numsL) : TxOk 1 (.sq n) := ⟨nums_b n h, numOk_of (nums_ok n h), by show 0 ≤ 1; decide, by show 0 ≤ 1; decide, by show 60 ≤ 200; decide⟩
theorem re_env {m r : Nat} (m0 : 0 < m) (hd : m ∣ 840) (hr : r < m) : SEnv 840 S8 (.re m r) := ⟨m0, Nat.le_trans (Nat.le_of_dvd (by decide) hd) (by decide), hr, good_rest E8 m0 hd hr⟩
theorem tx_re {m r : Nat} (h : m ∈ modsL) (hr : r < m) : TxOk 1 (.re m r) := by
  obtain ⟨h1, h2, h3⟩ := mods_b m h
  exact ⟨⟨h1, h2, hr⟩, re_env h1 (Nat.dvd_of_mod_eq_zero h3) hr, by show 0 ≤ 1; decide, by show 0 ≤ 1; decide, by show 60 ≤ 200; decide⟩
theorem tx_fo {m : Nat} (h : m ∈ formsL) : TxOk 1 (.fo m) := by
  obtain ⟨h1, h2, h3⟩ := forms_b m h
  exact ⟨⟨h1, h2⟩, ⟨fm_of (forms_ok m h), Nat.dvd_of_mod_eq_zero h3⟩, by show 0 ≤ 1; decide, by show 0 ≤ 1; decide, by show 60 ≤ 200; decide⟩
theorem tx_ro {p : Int × Int} {m : Nat} (h : p ∈ midsL) (hm : m ≤ 2) : TxOk 1 (.ro p.1 p.2 m) := by
  obtain ⟨h1, h2⟩ := mids_b p h
  exact ⟨⟨h1, h2, hm⟩, ⟨by omega, numOk_of (mids_ok p h)⟩, by show 0 ≤ 1; decide, by show 0 ≤ 1; decide, by show 60 ≤ 200; decide⟩
theorem tx_one {p : Nat} (h : p ∈ [3, 5, 7, 11, 13]) : TxOk 1 (.no (.re p 0)) := by
  have hb : 0 < p ∧ p ≤ 70 := (by decide : ∀ q ∈ [3, 5, 7, 11, 13], 0 < q ∧ q ≤ 70) p h
  refine ⟨⟨hb.1, hb.2, hb.1⟩, ?_, by show 0 + 1 ≤ 1; decide, by show 0 ≤ 1; decide, by show 60 + 4 ≤ 200; decide⟩
  show SEnv 840 S8 (.re p 0)
  by_cases hd : 840 % p = 0
  · exact re_env hb.1 (Nat.dvd_of_mod_eq_zero hd) hb.1
  · have : p = 11 ∨ p = 13 := (by decide : ∀ q ∈ [3, 5, 7, 11, 13], ¬ 840 % q = 0 → q = 11 ∨ q = 13) p h hd
    rcases this with rfl | rfl
    · exact ⟨by decide, by decide, by decide, by rw [rest11]; exact good_single prime11 (by decide) (by decide)⟩
    · exact ⟨by decide, by decide, by decide, by rw [rest13]; exact good_single prime13 (by decide) (by decide)⟩
theorem tx_no {s : Say} (h : TxOk 1 s) (hh : hgt s = 0) (hl : lenB s = 60) : TxOk 1 (.no s) := ⟨h.ok, h.env, by show hgt s + 1 ≤ 1; omega, h.p, by show lenB s + 4 ≤ 200; omega⟩
theorem tx_10 : TxOk 1 (.re 1 0) := ⟨⟨by decide, by decide, by decide⟩, re_env (by decide) (by decide) (by decide), by show 0 ≤ 1; decide, by show 0 ≤ 1; decide, by show 60 ≤ 200; decide⟩
theorem TxOk.up {s : Say} (h : TxOk 1 s) : TxOk 2 s := ⟨h.ok, h.env, by have := h.h; omega, by have := h.p; omega, by have := h.l; show lenB s ≤ 800; omega⟩
theorem tx_od {s t : Say} (hs : TxOk 1 s) (ht : TxOk 1 t) : TxOk 2 (.od s t) := ⟨⟨hs.ok, ht.ok⟩, ⟨hs.env, ht.env⟩, by have := hs.h; have := ht.h; show max (hgt s) (hgt t) + 1 ≤ 2; omega, by have := hs.p; have := ht.p; show max (pard s) (pard t) + 1 ≤ 2; omega, by have := hs.l; have := ht.l; show lenB s + lenB t + 8 ≤ 800; omega⟩
theorem tx_an {s t : Say} (hs : TxOk 1 s) (ht : TxOk 1 t) : TxOk 2 (.an s t) := ⟨⟨hs.ok, ht.ok⟩, ⟨hs.env, ht.env⟩, by have := hs.h; have := ht.h; show max (hgt s) (hgt t) + 1 ≤ 2; omega, by have := hs.p; have := ht.p; show max (pard s) (pard t) + 1 ≤ 2; omega, by have := hs.l; have := ht.l; show lenB s + lenB t + 9 ≤ 800; omega⟩
section
variable {P : Program} {w : World} {K : PySem.W.Frag} {mg : Str → Option Value} {base : Heap}
section
variable {α : Type} {σ : L2.St} {H : Hp} {ta : TE} {tr ts : TA} {ok : V → α → Hp → Prop} {x : α} {l : List α}
theorem eap_els (m : Mono ok) (h : EvP ta σ H (fun _ v H' => ok v x H')) (hr : ∀ H1, Ex H H1 → EvAP tr σ H1 (fun us H2 => Els ok us l H2)) : EvAP (tCons ta tr) σ H (fun us H2 => Els ok us (x :: l) H2) :=
  eap_cons h fun H0 v H1 e0 e1 hv H2 e2 Q q => hr H1 (e0.trans e1) H2 e2 _ fun us H3 e3 he => q us H3 e3 (he.cons (m _ _ _ _ (Ex.toF (e2.trans e3)) hv))
theorem eap_els0 : EvAP tNil σ H (fun us H2 => Els ok us ([] : List α) H2) := eap_nil fun _ _ => Els.nil
theorem ep_lst (m : Mono ok) (h : EvAP ts σ H (fun us H2 => Els ok us l H2)) (hl : l.length ≤ 100000) : EvP (tLst ts) σ H (isLs ok l) := fun H1 e Q q =>
  h H1 e _ fun us H2 e2 p => ⟨sz_of (by rw [p.1]; exact hl), fun a ha => q H2 _ _ e2 (Ex.new ha) ⟨a, us, rfl, ha, upd_same, p.ex m (Ex.toF (Ex.new ha))⟩⟩
/-- [..][j] -/
theorem ev_pick {tb : TE} {j : Nat} (h : EvP ta σ H (isLs ok l)) (hb : ∀ H1, Ex H H1 → Ev tb σ H1 (.int (j : Nat))) (m : Mono ok) (hx : l[j]? = some x) : EvP (tOp (rIxL K) ta tb) σ H (fun _ v H' => ok v x H') := fun H1 e Q q =>
  h H1 e _ fun H0 v H2 e0 e2 ⟨a, xs, ev, _, ha, he⟩ => by
    subst ev
    refine hb H2 (e.trans (e0.trans e2)) H2 (Ex.refl H2) _ fun H3 e3 => ?_
    obtain ⟨u, h1, h2⟩ := he.2 j x hx
    exact ⟨a, xs, (j : Int), u, rfl, rfl, SqL.of (e3 _ _ ha), atI_nat h1, q H3 u H3 (e0.trans (e2.trans e3)) (Ex.refl H3) (m _ _ _ _ (Ex.toF e3) h2)⟩
end
theorem el_lsI {α : Type} {σ : L2.St} {H : Hp} {te : TE} {l : List α} {w : α → V} (h : EvL te σ H (l.map w)) : EvP te σ H (isLs (okv w) l) := (el_p h).imp fun H0 v H1 _ _ ⟨a, ev, h0, ha⟩ => ⟨a, l.map w, ev, h0, ha, els_okv.mpr rfl⟩
/-- drawn[j] -/
theorem ev_drawn {σ : L2.St} {H : Hp} {t : TE} {a : Addr} {ds : List Nat} {j d : Nat} (h : Ev t σ H (.ref a)) (ha : H a = some (.lst (nv ds))) (hd : ds[j]? = some d) : Ev (tOp (rIxL K) t (tC (.int (j : Nat)))) σ H (.int (d : Nat)) := ev_op h ev_c (rv_ixL (SqL.of ha) (atI_nat (j := j) (by rw [List.getElem?_map, hd]; rfl)))
theorem getE {α : Type} {l : List α} {j : Nat} (h : j < l.length) : ∃ x, l[j]? = some x ∧ x ∈ l := ⟨l[j], List.getElem?_eq_getElem h, List.getElem_mem h⟩
abbrev N_law_number : List Str := ["_law_drawn"]
theorem sc_law_number : FnScope N_law_number ["_law_drawn"] (defScope s_law_number) := ⟨rfl, rfl, rfl, by decide +kernel, rfl, by decide +kernel, by decide +kernel⟩
def sp_law_number : Sp := mkSp (α := Addr × List Nat × Nat) (fun a => [.ref a.1]) (fun a H => H a.1 = some (.lst (nv a.2.1)) ∧ a.2.1[1]? = some a.2.2) (fun _ => fun _ v _ => ∃ n ∈ numsL, v = .int n)
theorem ok_law_number (T : Tx K mg base) : Cal P w K mg base 1 "_law_number" sp_law_number := by
  refine cal_of T.f_law_number T.g_law_number sc_law_number (fun _ _ _ _ _ _ us hl => match us, hl with | [_], _ => rfl) (len_sp fun _ => rfl) any_sp ?_
  rintro f cdv A outer s H vs Q E hr ⟨⟨a, ds, d⟩, rfl, ⟨ga, gd⟩, k⟩
  have ha : H a = some (.lst (nv ds)) := ga
  have hd : ds[1]? = some d := gd
  refine ⟨_, pss_one (ps_ret (pe_ix (ix_listk K rfl) (pe_lst (pa_cons (pe_un un_neg pe_int) (pa_cons pe_int (pa_cons (pe_un un_neg pe_int) (pa_cons pe_int (pa_cons (pe_un un_neg pe_int) (pa_cons pe_int (pa_cons (pe_un un_neg pe_int) (pa_cons pe_int (pa_cons (pe_un un_neg pe_int) (pa_cons pe_int (pa_cons (pe_un un_neg pe_int) (pa_cons pe_int (pa_cons pe_int (pa_cons pe_int (pa_cons (pe_un un_neg pe_int) (pa_cons pe_int (pa_cons pe_int (pa_cons (pe_un un_neg pe_int) (pa_cons pe_int pa_nil)))))))))))))))))))) (pe_op op_mod (pe_ix (ix_listk K rfl) (pv 0) pe_int (fun _ _ => rfl)) pe_int) (fun _ _ => rfl))), ?_⟩
  obtain ⟨n, hn, hm⟩ := getE (l := numsL) (j := d % 19) (by show d % 19 < 19; omega)
  have neg : ∀ {i : Int} {σ : L2.St} {H1 : Hp}, Ev (tUn (rU fun i => .int (-i)) (tC (.int i))) σ H1 (.int (-i)) := ev_un ev_c ru_neg
  refine s_retP ((ev_pick (l := numsL) (ok := okv fun n : Int => V.int n) (x := n) (j := d % 19) (el_lsI (el_lst (ea_cons neg (ea_cons ev_c (ea_cons neg (ea_cons ev_c (ea_cons neg (ea_cons ev_c (ea_cons neg (ea_cons ev_c (ea_cons neg (ea_cons ev_c (ea_cons neg (ea_cons ev_c (ea_cons ev_c (ea_cons ev_c (ea_cons neg (ea_cons ev_c (ea_cons ev_c (ea_cons neg (ea_cons ev_c ea_nil))))))))))))))))))) (by simp))) (fun H1 e1 => ev_eqI (ev_op (ev_drawn (j := 1) (ev_var rfl) (e1 _ _ ha) hd) ev_c (rv_I (C := fun _ j => 0 < j) (show (0:Int) < 19 by decide))) (emod_nat d 19)) mono_okv hn).imp fun _ v _ _ _ hv => ⟨n, hm, hv⟩) k
abbrev N_law_middle : List Str := ["_law_drawn"]
theorem sc_law_middle : FnScope N_law_middle ["_law_drawn"] (defScope s_law_middle) := ⟨rfl, rfl, rfl, by decide +kernel, rfl, by decide +kernel, by decide +kernel⟩
def okMid : V → Int × Int → Hp → Prop := fun v p H => ∃ a : Addr, v = .ref a ∧ H a = some (.tup [.int p.1, .int p.2])
theorem mono_okMid : Mono okMid := fun v p H H' e ⟨a, h1, h2⟩ => ⟨a, h1, e _ _ h2 rfl⟩
def sp_law_middle : Sp := mkSp (α := Addr × List Nat × Nat) (fun a => [.ref a.1]) (fun a H => H a.1 = some (.lst (nv a.2.1)) ∧ a.2.1[1]? = some a.2.2) (fun _ => fun _ v H => ∃ p ∈ midsL, okMid v p H)
theorem ok_law_middle (T : Tx K mg base) : Cal P w K mg base 1 "_law_middle" sp_law_middle := by
  refine cal_of T.f_law_middle T.g_law_middle sc_law_middle (fun _ _ _ _ _ _ us hl => match us, hl with | [_], _ => rfl) (len_sp fun _ => rfl) any_sp ?_
  rintro f cdv A outer s H vs Q E hr ⟨⟨a, ds, d⟩, rfl, ⟨ga, gd⟩, k⟩
  have ha : H a = some (.lst (nv ds)) := ga
  have hd : ds[1]? = some d := gd
  refine ⟨_, pss_one (ps_ret (pe_ix (ix_listk K rfl) (pe_lst (pa_cons (pe_tup (pa_cons pe_int (pa_cons pe_int pa_nil))) (pa_cons (pe_tup (pa_cons pe_int (pa_cons (pe_un un_neg pe_int) pa_nil))) (pa_cons (pe_tup (pa_cons pe_int (pa_cons (pe_un un_neg pe_int) pa_nil))) (pa_cons (pe_tup (pa_cons pe_int (pa_cons pe_int pa_nil))) (pa_cons (pe_tup (pa_cons pe_int (pa_cons pe_int pa_nil))) (pa_cons (pe_tup (pa_cons pe_int (pa_cons pe_int pa_nil))) (pa_cons (pe_tup (pa_cons pe_int (pa_cons (pe_un un_neg pe_int) pa_nil))) (pa_cons (pe_tup (pa_cons pe_int (pa_cons (pe_un un_neg pe_int) pa_nil))) pa_nil))))))))) (pe_op op_mod (pe_ix (ix_listk K rfl) (pv 0) pe_int (fun _ _ => rfl)) pe_int) (fun _ _ => rfl))), ?_⟩
  obtain ⟨p, hn, hm⟩ := getE (l := midsL) (j := d % 8) (by show d % 8 < 8; omega)
  have neg : ∀ {i : Int} {σ : L2.St} {H1 : Hp}, Ev (tUn (rU fun i => .int (-i)) (tC (.int i))) σ H1 (.int (-i)) := ev_un ev_c ru_neg
  have tp : ∀ {x y : Int} {σ : L2.St} {H1 : Hp} {t1 t2 : TE}, Ev t1 σ H1 (.int x) → Ev t2 σ H1 (.int y) → EvP (tTup (tCons t1 (tCons t2 tNil))) σ H1 (fun _ v H' => okMid v (x, y) H') := fun h1 h2 => (eu_p (eu2 h1 h2)).imp fun _ v _ _ _ ⟨b, e1, _, e2⟩ => ⟨b, e1, e2⟩
  refine s_retP ((ev_pick (l := midsL) (ok := okMid) (x := p) (j := d % 8) (ep_lst mono_okMid (eap_els mono_okMid (tp ev_c ev_c) fun _ _ => eap_els mono_okMid (tp ev_c neg) fun _ _ => eap_els mono_okMid (tp ev_c neg) fun _ _ => eap_els mono_okMid (tp ev_c ev_c) fun _ _ => eap_els mono_okMid (tp ev_c ev_c) fun _ _ => eap_els mono_okMid (tp ev_c ev_c) fun _ _ => eap_els mono_okMid (tp ev_c neg) fun _ _ => eap_els mono_okMid (tp ev_c neg) fun _ _ => eap_els0) (by simp)) (fun H1 e1 => ev_eqI (ev_op (ev_drawn (j := 1) (ev_var rfl) (e1 _ _ ha) hd) ev_c (rv_I (C := fun _ j => 0 < j) (show (0:Int) < 8 by decide))) (emod_nat d 8)) mono_okMid hn).imp fun _ v _ _ _ hv => ⟨p, hm, hv⟩) k
/-! ### the text of one draw -/
def isTx (n : Nat) : VP := fun _ v _ => ∃ s, v = .str (textS s) ∧ TxOk n s
theorem str_tl {a b : Str} (h : TL.tl a = TL.tl b) : a = b := TL.ext_tl h
theorem str_nil (a : Str) : ("" : Str) ++ a = a := str_tl (by rw [TL.tl_append, show TL.tl ("" : Str) = [] from by decide +kernel]; rfl)
theorem txt_nsq (n : Int) : ("not square " : Str) ++ nW n = textS (.no (.sq n)) := str_tl (by
  show TL.tl (("not square " : Str) ++ nW n) = TL.tl ("not " ++ ("square " ++ nW n))
  rw [TL.tl_append, TL.tl_append, TL.tl_append, show TL.tl ("not square " : Str) = TL.tl ("not " : Str) ++ TL.tl ("square " : Str) from by decide +kernel, List.append_assoc])
theorem txt_od (n : Int) (m r : Nat) : ("( square " : Str) ++ nW n ++ " or " ++ textS (.re m r) ++ " )" = textS (.od (.sq n) (.re m r)) := str_tl (by
  show TL.tl (("( square " : Str) ++ nW n ++ " or " ++ textS (.re m r) ++ " )") = TL.tl ("( " ++ ("square " ++ nW n) ++ " or " ++ textS (.re m r) ++ " )")
  rw [TL.tl_append, TL.tl_append, TL.tl_append, TL.tl_append, TL.tl_append, TL.tl_append, TL.tl_append, TL.tl_append, TL.tl_append, show TL.tl ("( square " : Str) = TL.tl ("( " : Str) ++ TL.tl ("square " : Str) from by decide +kernel]
  simp only [List.append_assoc])
theorem txt_one (p : Nat) : ("not rest " : Str) ++ nW (p : Int) ++ " is 0" = textS (.no (.re p 0)) := str_tl (by
  show TL.tl (("not rest " : Str) ++ nW (p : Int) ++ " is 0") = TL.tl ("not " ++ ("rest " ++ nW (p : Int) ++ " is " ++ nW ((0 : Nat) : Int)))
  rw [TL.tl_append, TL.tl_append, TL.tl_append, TL.tl_append, TL.tl_append, TL.tl_append, show TL.tl ("not rest " : Str) = TL.tl ("not " : Str) ++ TL.tl ("rest " : Str) from by decide +kernel, show TL.tl (" is 0" : Str) = TL.tl (" is " : Str) ++ TL.tl (nW ((0 : Nat) : Int)) from by decide +kernel]
  simp only [List.append_assoc])
theorem txt_10 : ("rest 1 is 0" : Str) = textS (.re 1 0) := by decide +kernel
/-- what is drawn, the first three -/
def Dr3 (ds : List Nat) (d0 d1 d2 : Nat) : Prop := ds[0]? = some d0 ∧ ds[1]? = some d1 ∧ ds[2]? = some d2
theorem ev_addS {σ : L2.St} {H : Hp} {ta tb : TE} {a b : Str} (h1 : Ev ta σ H (.str a)) (h2 : Ev tb σ H (.str b)) (l : a.length + b.length ≤ 100000) : Ev (tOp rAddS ta tb) σ H (.str (a ++ b)) := ev_op h1 h2 (rv_addS l)
theorem ev_str' {σ : L2.St} {H : Hp} {ta : TE} {i : Int} (h : Ev ta σ H (.int i)) (hi : i.natAbs < 2 ^ 20) : Ev (tCB rStrI (tCons ta tNil)) σ H (.str (nW i)) := ev_cb (ea_cons h ea_nil) (rc_str (Nat.lt_of_lt_of_le hi (Nat.pow_le_pow_right (by decide) (by decide))))
theorem in2 (d a b : Nat) : inV (.int (d : Nat)) [.int (a : Nat), .int (b : Nat)] = decide (d = a ∨ d = b) := by
  have := inV_iv (d : Int) [(a : Int), (b : Int)]
  rw [show iv [(a : Int), (b : Int)] = [.int (a : Nat), .int (b : Nat)] from rfl] at this
  rw [this]
  refine decide_eq_decide.mpr ?_
  simp
  omega
abbrev N_law_text : List Str := ["_law_drawn", "_law_number_here", "_law_modulus", "_law_by_rest", "_law_form", "_law_b", "_law_c"]
theorem sc_law_text : FnScope N_law_text ["_law_drawn"] (defScope s_law_text) := ⟨rfl, rfl, rfl, by decide +kernel, rfl, by decide +kernel, by decide +kernel⟩
def sp_law_text : Sp := mkSp (α := Addr × List Nat × Nat × Nat × Nat) (fun a => [.ref a.1]) (fun a H => H a.1 = some (.lst (nv a.2.1)) ∧ Dr3 a.2.1 a.2.2.1 a.2.2.2.1 a.2.2.2.2) (fun _ => isTx 1)
theorem len_of {s : Say} {n : Nat} (h : TxOk 1 s) : (textS s).length ≤ 200 := Nat.le_trans (text_len h.ok) h.l
theorem ok_law_text (T : Tx K mg base) : Cal P w K mg base 2 "_law_text" sp_law_text := by
  refine cal_of T.f_law_text T.g_law_text sc_law_text (fun _ _ _ _ _ _ us hl => match us, hl with | [_], _ => rfl) (len_sp fun _ => rfl) any_sp ?_
  rintro f cdv A outer s H vs Q E hr ⟨⟨a, ds, d0, d1, d2⟩, rfl, ⟨ga, gd⟩, gk⟩
  have ha : H a = some (.lst (nv ds)) := ga
  obtain ⟨h0, h1, h2⟩ : Dr3 ds d0 d1 d2 := gd
  have k : Gives (isTx 1) H Q := gk
  refine ⟨_, pss_cons (ps_set (i := 1) sc_law_text.nd rfl (Or.inl rfl) (pe_callTy c_str (by rfl) T.b_str (by decide +kernel) (pa_cons (pe_c (ok_law_number (K := K) T) hr (by decide) (by rfl) (pa_cons (pv 0) pa_nil)) pa_nil)))
      (pss_cons (ps_set (i := 2) sc_law_text.nd rfl (Or.inl rfl) (pe_ix (ix_listk K rfl) (pe_lst (pa_cons pe_int (pa_cons pe_int (pa_cons pe_int (pa_cons pe_int (pa_cons pe_int (pa_cons pe_int (pa_cons pe_int (pa_cons pe_int pa_nil))))))))) (pe_op op_mod (pe_ix (ix_listk K rfl) (pv 0) pe_int (fun _ _ => rfl)) pe_int) (fun _ _ => rfl)))
      (pss_cons (ps_set (i := 3) sc_law_text.nd rfl (Or.inl rfl) (pe_op op_addS (pe_op op_addS (pe_op op_addS pe_str (pe_callTy c_str (by rfl) T.b_str (by decide +kernel) (pa_cons (pv 2) pa_nil))) pe_str) (pe_callTy c_str (by rfl) T.b_str (by decide +kernel) (pa_cons (pe_op op_mod (pe_ix (ix_listk K rfl) (pv 0) pe_int (fun _ _ => rfl)) (pv 2)) pa_nil))))
      (pss_cons (ps_set (i := 4) sc_law_text.nd rfl (Or.inl rfl) (pe_op op_addS pe_str (pe_callTy c_str (by rfl) T.b_str (by decide +kernel) (pa_cons (pe_ix (ix_listk K rfl) (pe_lst (pa_cons pe_int (pa_cons pe_int (pa_cons pe_int (pa_cons pe_int (pa_cons pe_int (pa_cons pe_int (pa_cons pe_int (pa_cons pe_int pa_nil))))))))) (pe_op op_mod (pe_ix (ix_listk K rfl) (pv 0) pe_int (fun _ _ => rfl)) pe_int) (fun _ _ => rfl)) pa_nil))))
      (pss_cons (ps_if (pt_cmpR (op_in_seqk K rfl) (pe_ix (ix_listk K rfl) (pv 0) pe_int (fun _ _ => rfl)) (pe_tup (pa_cons pe_int (pa_cons pe_int pa_nil))) (by rfl)) (pss_one (ps_ret (pe_op op_addS (pe_ix (ix_listk K rfl) (pe_lst (pa_cons pe_str (pa_cons pe_str pa_nil))) (pe_callTy c_int (by rfl) T.b_int (by decide +kernel) (pa_cons (pe_cmpR op_eq (pe_ix (ix_listk K rfl) (pv 0) pe_int (fun _ _ => rfl)) pe_int (nomark _)) pa_nil)) (fun _ _ => rfl)) (pv 3)))) (pss_nil))
      (pss_cons (ps_if (pt_cmpR op_eq (pe_ix (ix_listk K rfl) (pv 0) pe_int (fun _ _ => rfl)) pe_int (nomark _)) (pss_one (ps_ret (pe_op op_addS pe_str (pv 1)))) (pss_nil))
      (pss_cons (ps_if (pt_cmpR op_eq (pe_ix (ix_listk K rfl) (pv 0) pe_int (fun _ _ => rfl)) pe_int (nomark _)) (pss_one (ps_ret (pe_op op_addS (pe_op op_addS (pe_op op_addS (pe_op op_addS pe_str (pv 1)) pe_str) (pv 3)) pe_str))) (pss_nil))
      (pss_cons (ps_if (pt_cmpR op_eq (pe_ix (ix_listk K rfl) (pv 0) pe_int (fun _ _ => rfl)) pe_int (nomark _)) (pss_cons (ps_asg (pe_c (ok_law_middle (K := K) T) hr (by decide) (by rfl) (pa_cons (pv 0) pa_nil)) (pg_tup (by rfl) (pgs_cons (pg_name (i := 5) sc_law_text.nd rfl (Or.inl rfl)) (pgs_cons (pg_name (i := 6) sc_law_text.nd rfl (Or.inl rfl)) pgs_nil))))
        (pss_one (ps_ret (pe_op op_addS (pe_op op_addS (pe_op op_addS (pe_op op_addS (pe_op op_addS pe_str (pe_callTy c_str (by rfl) T.b_str (by decide +kernel) (pa_cons (pv 5) pa_nil))) pe_str) (pe_callTy c_str (by rfl) T.b_str (by decide +kernel) (pa_cons (pv 6) pa_nil))) pe_str) (pe_callTy c_str (by rfl) T.b_str (by decide +kernel) (pa_cons (pe_op op_mod (pe_ix (ix_listk K rfl) (pv 0) pe_int (fun _ _ => rfl)) pe_int) pa_nil)))))) (pss_nil))
      (pss_cons (ps_if (pt_cmpR (op_in_seqk K rfl) (pe_ix (ix_listk K rfl) (pv 0) pe_int (fun _ _ => rfl)) (pe_tup (pa_cons pe_int (pa_cons pe_int pa_nil))) (by rfl)) (pss_one (ps_ret (pe_op op_addS (pe_ix (ix_listk K rfl) (pe_lst (pa_cons pe_str (pa_cons pe_str pa_nil))) (pe_callTy c_int (by rfl) T.b_int (by decide +kernel) (pa_cons (pe_cmpR op_eq (pe_ix (ix_listk K rfl) (pv 0) pe_int (fun _ _ => rfl)) pe_int (nomark _)) pa_nil)) (fun _ _ => rfl)) (pv 4)))) (pss_nil))
      (pss_cons (ps_if (pt_cmpR op_eq (pe_ix (ix_listk K rfl) (pv 0) pe_int (fun _ _ => rfl)) pe_int (nomark _)) (pss_one (ps_ret (pe_op op_addS (pe_op op_addS pe_str (pe_callTy c_str (by rfl) T.b_str (by decide +kernel) (pa_cons (pe_ix (ix_listk K rfl) (pe_lst (pa_cons pe_int (pa_cons pe_int (pa_cons pe_int (pa_cons pe_int (pa_cons pe_int pa_nil)))))) (pe_op op_mod (pe_ix (ix_listk K rfl) (pv 0) pe_int (fun _ _ => rfl)) pe_int) (fun _ _ => rfl)) pa_nil))) pe_str))) (pss_nil))
      (pss_one (ps_ret (pe_op op_addS pe_str (pv 1))))))))))))), ?_⟩
  have dr : ∀ {j d : Nat} {σ : L2.St} {H1 : Hp}, Ex H H1 → σ[0]? = some (some (.ref a)) → ds[j]? = some d → Ev (tOp (rIxL K) (tVar 0) (tC (.int (j : Nat)))) σ H1 (.int (d : Nat)) := fun e hv hd => ev_drawn (ev_var hv) (e _ _ ha) hd
  have fin : ∀ {te : TE} {σ : L2.St} {H1 : Hp} {s : Say} {x : Str} {D : Ends}, D.rt = Q → Ex H H1 → TxOk 1 s → x = textS s → Ev te σ H1 (.str x) → tRet te D σ H1 := fun {te σ H1 s x D} hD e hs hx hv => s_ret hv fun H2 e2 => by
    rw [hD]
    exact k.go (e.trans e2) ⟨s, by rw [hx], hs⟩
  refine q_asgP (i := 1) (P := fun _ v _ => ∃ n ∈ numsL, v = .str (nW n)) ?_ fun H0 v H1 e0 e1 ⟨n, hn, ev⟩ => ?_
  · intro H1 e1 Q1 q1
    refine ev_cal (P := fun _ v _ => ∃ n ∈ numsL, v = .int n) (ea_cons (ev_var rfl) ea_nil) (sp_mk' (a, ds, d1) rfl fun H2 e2 => ⟨e2 _ _ (e1 _ _ ha), h1⟩) H1 (Ex.refl H1) _ fun H2 v H3 e2 e3 ⟨n, hn, ev⟩ => ⟨n, by rw [ev], ?_, q1 H2 _ H3 e2 e3 ⟨n, hn, rfl⟩⟩
    have hb := nums_b n hn
    by_cases hz : n.natAbs = 0
    · rw [hz]; decide
    · have : n.natAbs.log2 < 7 := (Nat.log2_lt hz).mpr (by omega)
      omega
  subst ev
  have ex1 := e0.trans e1
  have nb := nums_b n hn
  have nl : (nW n).length ≤ 10 := nW_len nb.1 nb.2
  obtain ⟨m, hm, hmm⟩ := getE (l := modsL) (j := d1 % 8) (by show d1 % 8 < 8; omega)
  obtain ⟨m0, mb, -⟩ := mods_b m hmm
  have mod8 : ∀ {σ : L2.St} {H1 : Hp}, Ex H H1 → σ[0]? = some (some (.ref a)) → Ev (tOp (rI (fun _ j => 0 < j) fun i j => V.int (i % j)) (tOp (rIxL K) (tVar 0) (tC (.int (1 : Nat)))) (tC (.int 8))) σ H1 (.int ((d1 % 8 : Nat) : Int)) := fun e hv => ev_eqI (ev_op (dr (j := 1) e hv h1) ev_c (rv_I (C := fun _ j => 0 < j) (show (0:Int) < 8 by decide))) (emod_nat d1 8)
  have pick : ∀ {l : List Nat} {x j : Nat} {ta tb : TE} {σ : L2.St} {H1 : Hp}, EvL ta σ H1 (nv l) → (∀ H2, Ex H1 H2 → Ev tb σ H2 (.int (j : Nat))) → l[j]? = some x → Ev (tOp (rIxL K) ta tb) σ H1 (.int (x : Nat)) := fun h1 h2 h3 => p_ev ((ev_pick (ok := okv fun n : Nat => V.int n) (el_lsI h1) h2 mono_okv h3).imp fun _ _ _ _ _ q => q)
  refine q_asg (i := 2) (v := .int (m : Nat)) (pick (l := modsL) (j := d1 % 8) (el_lst (ea_cons ev_c (ea_cons ev_c (ea_cons ev_c (ea_cons ev_c (ea_cons ev_c (ea_cons ev_c (ea_cons ev_c (ea_cons ev_c ea_nil)))))))) (by simp)) (fun H2 e2 => mod8 (ex1.trans e2) rfl) hm) fun H2 e2 => ?_
  have ex2 := ex1.trans e2
  have rm := Nat.mod_lt d2 m0
  have ml := nW_len (i := (m : Int)) (by omega) (by omega)
  have rl := nW_len (i := ((d2 % m : Nat) : Int)) (by omega) (by omega)
  have tre := tx_re hmm rm
  have lre := text_len tre.ok
  have lre : (textS (.re m (d2 % m))).length ≤ 60 := lre
  refine q_asg (i := 3) (v := .str (textS (.re m (d2 % m)))) (ev_addS (ev_addS (ev_addS ev_c (ev_str' (ev_var rfl) (by omega)) ?_) ev_c ?_) (ev_str' (ev_eqI (ev_op (dr (j := 2) ex2 rfl h2) (ev_var rfl) (rv_I (cmod m0))) (emod_nat d2 m)) (by omega)) ?_) fun H3 e3 => ?_
  · rw [show ("rest " : Str).length = 5 from by decide +kernel]; omega
  · rw [len_app, show ("rest " : Str).length = 5 from by decide +kernel, show (" is " : Str).length = 4 from by decide +kernel]; omega
  · rw [len_app, len_app, show ("rest " : Str).length = 5 from by decide +kernel, show (" is " : Str).length = 4 from by decide +kernel]; omega
  have ex3 := ex2.trans e3
  obtain ⟨fo, hfo, hfm⟩ := getE (l := formsL) (j := d1 % 8) (by show d1 % 8 < 8; omega)
  obtain ⟨f0, fb, -⟩ := forms_b fo hfm
  have tfo := tx_fo hfm
  have lfo : (textS (.fo fo)).length ≤ 60 := text_len tfo.ok
  refine q_asg (i := 4) (v := .str (textS (.fo fo))) (ev_addS ev_c (ev_str' (pick (l := formsL) (j := d1 % 8) (el_lst (ea_cons ev_c (ea_cons ev_c (ea_cons ev_c (ea_cons ev_c (ea_cons ev_c (ea_cons ev_c (ea_cons ev_c (ea_cons ev_c ea_nil)))))))) (by simp)) (fun H4 e4 => mod8 (ex3.trans e4) rfl) hfo) (by omega)) ?_) fun H4 e4 => ?_
  · rw [show ("form " : Str).length = 5 from by decide +kernel]
    have := nW_len (i := (fo : Int)) (by omega) (by omega)
    omega
  have ex4 := ex3.trans e4
  have lsq : (nW n).length ≤ 10 := nl
  -- ['not ', ''][int(d == j)]
  have pre : ∀ {j : Nat} {σ : L2.St} {H1 : Hp} {t : TE}, Ev t σ H1 (.int (d0 : Nat)) → Ev (tOp (rIxL K) (tLst (tCons (tC (.str "not ")) (tCons (tC (.str "")) tNil))) (tCB rInt1 (tCons (tOp rEq t (tC (.int (j : Nat)))) tNil))) σ H1 (.str (if d0 = j then "" else "not ")) := fun {j σ H1 t} ht => by
    refine p_ev ((ev_pick (l := [("not " : Str), ("" : Str)]) (ok := okv V.str) (x := if d0 = j then ("" : Str) else ("not " : Str)) (j := if d0 = j then 1 else 0) (el_lsI (el_lst (ea2 ev_c ev_c) (by simp))) (fun H2 e2 => ?_) mono_okv ?_).imp fun _ _ _ _ _ q => q)
    · refine ev_is (ev_cb (ea_cons (ev_eqB (ev_op (ht.mono e2) ev_c (rv_eq rfl)) (dec_ii d0 j)) ea_nil) rc_intB) ?_
      by_cases e : d0 = j
      · rw [decide_eq_true e, if_pos e, if_pos rfl]
        rfl
      · rw [decide_eq_false e, if_neg e, if_neg Bool.false_ne_true]
        rfl
    · by_cases e : d0 = j
      · rw [if_pos e, if_pos e]
        rfl
      · rw [if_neg e, if_neg e]
        rfl
  have tst : ∀ {j : Nat} {σ : L2.St} {H1 : Hp}, Ex H H1 → σ[0]? = some (some (.ref a)) → EvT (tTest (tOp rEq (tOp (rIxL K) (tVar 0) (tC (.int (0 : Nat)))) (tC (.int (j : Nat))))) σ H1 (decide (d0 = j)) := fun e hv => et_is (et_test (ev_op (dr (j := 0) e hv h0) ev_c (rv_eq rfl))) (dec_ii d0 _)
  refine q_when (b := decide (d0 = 0 ∨ d0 = 9)) (et_is (et_test (ev_inU (dr (j := 0) ex4 rfl h0) (eu2 ev_c ev_c) rfl rfl)) (in2 d0 0 9)) (fun c H5 e5 => ?_) (fun _ H5 e5 => ?_)
  · have e := ex4.trans e5
    by_cases hz : d0 = 0
    · refine fin (s := .re m (d2 % m)) rfl e tre ?_ (ev_addS (pre (j := 0) (dr (j := 0) e rfl h0)) (ev_var rfl) ?_)
      · rw [if_pos hz, str_nil]
      · rw [if_pos hz, show ("" : Str).length = 0 from by decide +kernel]; omega
    · refine fin (s := .no (.re m (d2 % m))) rfl e (tx_no tre rfl rfl) ?_ (ev_addS (pre (j := 0) (dr (j := 0) e rfl h0)) (ev_var rfl) ?_)
      · rw [if_neg hz]
        rfl
      · rw [if_neg hz, show ("not " : Str).length = 4 from by decide +kernel]; omega
  have ex5 := ex4.trans e5
  refine q_when (tst (j := 1) ex5 rfl) (fun c H6 e6 => ?_) (fun _ H6 e6 => ?_)
  · refine fin (s := .no (.sq n)) rfl (ex5.trans e6) (tx_no (tx_sq hn) rfl rfl) (txt_nsq n) (ev_addS ev_c (ev_var rfl) ?_)
    rw [show ("not square " : Str).length = 11 from by decide +kernel]; omega
  have ex6 := ex5.trans e6
  refine q_when (tst (j := 6) ex6 rfl) (fun c H7 e7 => ?_) (fun _ H7 e7 => ?_)
  · refine fin (s := .od (.sq n) (.re m (d2 % m))) rfl (ex6.trans e7) ?_ (txt_od n m (d2 % m)) (ev_addS (ev_addS (ev_addS (ev_addS ev_c (ev_var rfl) ?_) ev_c ?_) (ev_var rfl) ?_) ev_c ?_)
    · have t1 := tx_sq hn
      exact ⟨⟨t1.ok, tre.ok⟩, ⟨t1.env, tre.env⟩, by show max 0 0 + 1 ≤ 1; decide, by show max 0 0 + 1 ≤ 1; decide, by show 60 + 60 + 8 ≤ 200; decide⟩
    all_goals
      simp only [len_app, show ("( square " : Str).length = 9 from by decide +kernel, show (" or " : Str).length = 4 from by decide +kernel, show (" )" : Str).length = 2 from by decide +kernel]
      omega
  have ex7 := ex6.trans e7
  refine q_when (tst (j := 7) ex7 rfl) (fun c H8 e8 => ?_) (fun _ H8 e8 => ?_)
  · have ex8 := ex7.trans e8
    refine ev_cal (P := fun _ v H => ∃ p ∈ midsL, okMid v p H) (ea_cons (ev_var rfl) ea_nil) (sp_mk' (a, ds, d1) rfl fun H9 e9 => ⟨e9 _ _ (ex8 _ _ ha), h1⟩) H8 (Ex.refl H8) _ fun H9 v H10 e9 e10 ⟨p, hp, b, ev, hb⟩ => ?_
    subst ev
    refine ⟨b, _, rfl, SqT.of hb, rfl, _, _, rfl, _, _, rfl, rfl, ?_⟩
    dsimp only
    obtain ⟨⟨b1, b2⟩, c1, c2⟩ := mids_b p hp
    have l1 := nW_len (i := p.1) (by omega) (by omega)
    have l2 := nW_len (i := p.2) (by omega) (by omega)
    have m3 : d2 % 3 ≤ 2 := by omega
    have l3 := nW_len (i := ((d2 % 3 : Nat) : Int)) (by omega) (by omega)
    have e10' := ex8.trans (e9.trans e10)
    refine fin (s := .ro p.1 p.2 (d2 % 3)) rfl e10' (tx_ro hp m3) rfl (ev_addS (ev_addS (ev_addS (ev_addS (ev_addS ev_c (ev_str' (ev_var rfl) (by omega)) ?_) ev_c ?_) (ev_str' (ev_var rfl) (by omega)) ?_) ev_c ?_) (ev_str' (ev_eqI (ev_op (dr (j := 2) e10' rfl h2) ev_c (rv_I (C := fun _ j => 0 < j) (show (0:Int) < 3 by decide))) (emod_nat d2 3)) (by omega)) ?_)
    all_goals
      simp only [len_app, show ("roots 1 " : Str).length = 8 from by decide +kernel, show (" " : Str).length = 1 from by decide +kernel, show (" are " : Str).length = 5 from by decide +kernel]
      omega
  have ex8 := ex7.trans e8
  refine q_when (b := decide (d0 = 8 ∨ d0 = 10)) (et_is (et_test (ev_inU (dr (j := 0) ex8 rfl h0) (eu2 ev_c ev_c) rfl rfl)) (in2 d0 8 10)) (fun c H9 e9 => ?_) (fun _ H9 e9 => ?_)
  · have e := ex8.trans e9
    by_cases hz : d0 = 8
    · refine fin (s := .fo fo) rfl e tfo ?_ (ev_addS (pre (j := 8) (dr (j := 0) e rfl h0)) (ev_var rfl) ?_)
      · rw [if_pos hz, str_nil]
      · rw [if_pos hz, show ("" : Str).length = 0 from by decide +kernel]; omega
    · refine fin (s := .no (.fo fo)) rfl e (tx_no tfo rfl rfl) ?_ (ev_addS (pre (j := 8) (dr (j := 0) e rfl h0)) (ev_var rfl) ?_)
      · rw [if_neg hz]
        rfl
      · rw [if_neg hz, show ("not " : Str).length = 4 from by decide +kernel]; omega
  have ex9 := ex8.trans e9
  refine q_when (tst (j := 11) ex9 rfl) (fun c H10 e10 => ?_) (fun _ H10 e10 => ?_)
  · have ex10 := ex9.trans e10
    obtain ⟨pr, hpr, hpm⟩ := getE (l := [3, 5, 7, 11, 13]) (j := d1 % 5) (by show d1 % 5 < 5; omega)
    have pb : 0 < pr ∧ pr ≤ 70 := (by decide : ∀ q ∈ [3, 5, 7, 11, 13], 0 < q ∧ q ≤ 70) pr hpm
    have lp := nW_len (i := (pr : Int)) (by omega) (by omega)
    refine fin (s := .no (.re pr 0)) rfl ex10 (tx_one hpm) (txt_one pr) (ev_addS (ev_addS ev_c (ev_str' (pick (l := [3, 5, 7, 11, 13]) (j := d1 % 5) (el_lst (ea_cons ev_c (ea_cons ev_c (ea_cons ev_c (ea_cons ev_c (ea_cons ev_c ea_nil))))) (by simp)) (fun H11 e11 => ev_eqI (ev_op (dr (j := 1) (ex10.trans e11) rfl h1) ev_c (rv_I (C := fun _ j => 0 < j) (show (0:Int) < 5 by decide))) (emod_nat d1 5)) hpr) (by omega)) ?_) ev_c ?_)
    all_goals
      simp only [len_app, show ("not rest " : Str).length = 9 from by decide +kernel, show (" is 0" : Str).length = 5 from by decide +kernel]
      omega
  refine fin (s := .sq n) rfl (ex9.trans e10) (tx_sq hn) rfl (ev_addS ev_c (ev_var rfl) ?_)
  rw [show ("square " : Str).length = 7 from by decide +kernel]; omega
/-! ### the two texts -/
abbrev N_law_texts : List Str := ["_law_drawn", "_law_other_drawn", "_law_first", "_law_second", "_law_one_prime"]
theorem sc_law_texts : FnScope N_law_texts ["_law_drawn", "_law_other_drawn"] (defScope s_law_texts) := ⟨rfl, rfl, rfl, by decide +kernel, rfl, by decide +kernel, by decide +kernel⟩
def isTxs : VP := fun _ x H => ∃ (a : Addr) (s t : Say), x = .ref a ∧ H a = some (.lst [.str (textS s), .str (textS t)]) ∧ TxOk 2 s ∧ TxOk 2 t
def sp_law_texts : Sp := mkSp (α := (Addr × List Nat × Nat × Nat × Nat) × (Addr × List Nat × Nat × Nat × Nat) × Nat × Nat × Nat) (fun a => [.ref a.1.1, .ref a.2.1.1])
  (fun a H => (H a.1.1 = some (.lst (nv a.1.2.1)) ∧ Dr3 a.1.2.1 a.1.2.2.1 a.1.2.2.2.1 a.1.2.2.2.2) ∧ (H a.2.1.1 = some (.lst (nv a.2.1.2.1)) ∧ Dr3 a.2.1.2.1 a.2.1.2.2.1 a.2.1.2.2.2.1 a.2.1.2.2.2.2) ∧ a.2.1.2.1[3]? = some a.2.2.1 ∧ a.2.1.2.1[4]? = some a.2.2.2.1 ∧ a.2.1.2.1[5]? = some a.2.2.2.2 ∧ a.2.2.2.2 < 3) (fun _ => isTxs)
def secStep (d3 : Nat) (first one : Say) : Nat → Say → Say
  | 0, p => if d3 = 2 then one else p
  | 1, p => if d3 = 3 then .an first one else p
  | 2, p => if d3 = 0 then first else p
  | _, p => if d3 = 1 then .od p first else p
def secS (d3 : Nat) (first one s : Say) : Nat → Say
  | 0 => s
  | n + 1 => secStep d3 first one n (secS d3 first one s n)
theorem sec_ok {d3 : Nat} {f o s : Say} (hf : TxOk 1 f) (ho : TxOk 1 o) (hs : TxOk 1 s) : TxOk 2 (secS d3 f o s 4) ∧ (textS (secS d3 f o s 1)).length ≤ 1000 ∧ (textS (secS d3 f o s 2)).length ≤ 1000 ∧ (textS (secS d3 f o s 3)).length ≤ 1000 := by
  have ln : ∀ {t : Say}, TxOk 2 t → (textS t).length ≤ 1000 := fun h => Nat.le_trans (text_len h.ok) (by have := h.l; omega)
  by_cases h2 : d3 = 2
  · subst h2
    have e1 : secS 2 f o s 1 = o := rfl
    have e4 : secS 2 f o s 4 = o := rfl
    have e2 : secS 2 f o s 2 = o := rfl
    have e3 : secS 2 f o s 3 = o := rfl
    rw [e1, e2, e3, e4]
    exact ⟨ho.up, ln ho.up, ln ho.up, ln ho.up⟩
  by_cases h3 : d3 = 3
  · subst h3
    have e1 : secS 3 f o s 1 = s := rfl
    have e4 : secS 3 f o s 4 = .an f o := rfl
    have e2 : secS 3 f o s 2 = .an f o := rfl
    have e3 : secS 3 f o s 3 = .an f o := rfl
    rw [e1, e2, e3, e4]
    exact ⟨tx_an hf ho, ln hs.up, ln (tx_an hf ho), ln (tx_an hf ho)⟩
  by_cases h0 : d3 = 0
  · subst h0
    have e1 : secS 0 f o s 1 = s := rfl
    have e4 : secS 0 f o s 4 = f := rfl
    have e2 : secS 0 f o s 2 = s := rfl
    have e3 : secS 0 f o s 3 = f := rfl
    rw [e1, e2, e3, e4]
    exact ⟨hf.up, ln hs.up, ln hs.up, ln hf.up⟩
  have e1 : secS d3 f o s 1 = s := if_neg h2
  have e2 : secS d3 f o s 2 = s := (if_neg h3).trans e1
  have e3 : secS d3 f o s 3 = s := (if_neg h0).trans e2
  rw [e1, e2, e3]
  refine ⟨?_, ln hs.up, ln hs.up, ln hs.up⟩
  show TxOk 2 (if d3 = 1 then .od (secS d3 f o s 3) f else secS d3 f o s 3)
  rw [e3]
  split
  · exact tx_od hs hf
  · exact hs.up
theorem ok_law_texts (T : Tx K mg base) : Cal P w K mg base 3 "_law_texts" sp_law_texts := by
  refine cal_of T.f_law_texts T.g_law_texts sc_law_texts (fun _ _ _ _ _ _ us hl => match us, hl with | [_, _], _ => rfl) (len_sp fun _ => rfl) any_sp ?_
  rintro f cdv A outer s H vs Q E hr ⟨⟨⟨a, ds, d0, d1, d2⟩, ⟨b, es, e0, e1, e2⟩, d3, d4, d5⟩, rfl, ⟨⟨ga, gd⟩, ⟨gb, ge⟩, g3, g4, g5, g6⟩, gk⟩
  have ha : H a = some (.lst (nv ds)) := ga
  have hb : H b = some (.lst (nv es)) := gb
  have h3 : es[3]? = some d3 := g3
  have h4 : es[4]? = some d4 := g4
  have h5 : es[5]? = some d5 := g5
  have h6 : d5 < 3 := g6
  have gd : Dr3 ds d0 d1 d2 := gd
  have ge : Dr3 es e0 e1 e2 := ge
  have k : Gives isTxs H Q := gk
  refine ⟨_, pss_cons (ps_set (i := 2) sc_law_texts.nd rfl (Or.inl rfl) (pe_c (ok_law_text (K := K) T) hr (by decide) (by rfl) (pa_cons (pv 0) pa_nil)))
      (pss_cons (ps_set (i := 3) sc_law_texts.nd rfl (Or.inl rfl) (pe_c (ok_law_text (K := K) T) hr (by decide) (by rfl) (pa_cons (pv 1) pa_nil)))
      (pss_cons (ps_set (i := 4) sc_law_texts.nd rfl (Or.inl rfl) (pe_op op_addS (pe_op op_addS pe_str (pe_callTy c_str (by rfl) T.b_str (by decide +kernel) (pa_cons (pe_ix (ix_listk K rfl) (pe_lst (pa_cons pe_int (pa_cons pe_int (pa_cons pe_int pa_nil)))) (pe_ix (ix_listk K rfl) (pv 1) pe_int (fun _ _ => rfl)) (fun _ _ => rfl)) pa_nil))) pe_str))
      (pss_cut (ps_if (pt_cmpR op_eq (pe_ix (ix_listk K rfl) (pv 1) pe_int (fun _ _ => rfl)) pe_int (nomark _)) (pss_one (ps_set (i := 2) sc_law_texts.nd rfl (Or.inl rfl) pe_str)) (pss_nil))
      (pss_cut (ps_if (pt_cmpR op_eq (pe_ix (ix_listk K rfl) (pv 1) pe_int (fun _ _ => rfl)) pe_int (nomark _)) (pss_one (ps_set (i := 3) sc_law_texts.nd rfl (Or.inl rfl) (pv 4))) (pss_nil))
      (pss_cut (ps_if (pt_cmpR op_eq (pe_ix (ix_listk K rfl) (pv 1) pe_int (fun _ _ => rfl)) pe_int (nomark _)) (pss_one (ps_set (i := 3) sc_law_texts.nd rfl (Or.inl rfl) (pe_op op_addS (pe_op op_addS (pe_op op_addS (pe_op op_addS pe_str (pv 2)) pe_str) (pv 4)) pe_str))) (pss_nil))
      (pss_cut (ps_if (pt_cmpR op_eq (pe_ix (ix_listk K rfl) (pv 1) pe_int (fun _ _ => rfl)) pe_int (nomark _)) (pss_one (ps_set (i := 3) sc_law_texts.nd rfl (Or.inl rfl) (pv 2))) (pss_nil))
      (pss_cut (ps_if (pt_cmpR op_eq (pe_ix (ix_listk K rfl) (pv 1) pe_int (fun _ _ => rfl)) pe_int (nomark _)) (pss_one (ps_set (i := 3) sc_law_texts.nd rfl (Or.inl rfl) (pe_op op_addS (pe_op op_addS (pe_op op_addS (pe_op op_addS pe_str (pv 3)) pe_str) (pv 2)) pe_str))) (pss_nil))
      (pss_one (ps_ret (pe_lst (pa_cons (pv 2) (pa_cons (pv 3) pa_nil)))))))))))), ?_⟩
  refine q_asgP (i := 2) (ev_cal (P := isTx 1) (ea_cons (ev_var rfl) ea_nil) (sp_mk' (a, ds, d0, d1, d2) rfl fun H1 e1 => ⟨e1 _ _ ha, gd⟩)) fun H0 v H1 x0 x1 ⟨s1, ev, t1⟩ => ?_
  subst ev
  have ex1 := x0.trans x1
  refine q_asgP (i := 3) (ev_cal (P := isTx 1) (ea_cons (ev_var rfl) ea_nil) (sp_mk' (b, es, e0, e1, e2) rfl fun H1 e1 => ⟨e1 _ _ (ex1 _ _ hb), ge⟩)) fun H2 v H3 x2 x3 ⟨s2, ev, t2⟩ => ?_
  subst ev
  have ex3 := ex1.trans (x2.trans x3)
  obtain ⟨pr, hpr, hpm⟩ := getE (l := [3, 5, 7]) (j := d5) h6
  have pb : 0 < pr ∧ pr ≤ 70 ∧ pr ∈ [3, 5, 7, 11, 13] := (by decide : ∀ q ∈ [3, 5, 7], 0 < q ∧ q ≤ 70 ∧ q ∈ [3, 5, 7, 11, 13]) pr hpm
  have lp := nW_len (i := (pr : Int)) (by omega) (by omega)
  have tO := tx_one pb.2.2
  have dr : ∀ {j d : Nat} {σ : L2.St} {H1 : Hp}, Ex H H1 → σ[1]? = some (some (.ref b)) → es[j]? = some d → Ev (tOp (rIxL K) (tVar 1) (tC (.int (j : Nat)))) σ H1 (.int (d : Nat)) := fun e hv hd => ev_drawn (ev_var hv) (e _ _ hb) hd
  have tst : ∀ {j d i : Nat} {σ : L2.St} {H1 : Hp}, Ex H H1 → σ[1]? = some (some (.ref b)) → es[i]? = some d → EvT (tTest (tOp rEq (tOp (rIxL K) (tVar 1) (tC (.int (i : Nat)))) (tC (.int (j : Nat))))) σ H1 (decide (d = j)) := fun e hv hd => et_is (et_test (ev_op (dr e hv hd) ev_c (rv_eq rfl))) (dec_ii _ _)
  refine q_asg (i := 4) (v := .str (textS (.no (.re pr 0)))) (ev_is (ev_addS (ev_addS ev_c (ev_str' (p_ev ((ev_pick (l := [3, 5, 7]) (ok := okv fun n : Nat => V.int n) (el_lsI (el_lst (ea_cons ev_c (ea_cons ev_c (ea_cons ev_c ea_nil))) (by simp))) (fun H4 e4 => dr (j := 5) (ex3.trans e4) rfl h5) mono_okv hpr).imp fun _ _ _ _ _ q => q)) (by omega)) ?_) ev_c ?_) (by rw [txt_one])) fun H4 x4 => ?_
  · rw [show ("not rest " : Str).length = 9 from by decide +kernel]; omega
  · rw [len_app, show ("not rest " : Str).length = 9 from by decide +kernel, show (" is 0" : Str).length = 5 from by decide +kernel]; omega
  have ex4 := ex3.trans x4
  generalize (.no (.re pr 0) : Say) = one at tO
  refine q_cut (M := fun σ' H' => ∃ s, σ' = [some (.ref a), some (.ref b), some (.str (textS s)), some (.str (textS s2)), some (.str (textS one))] ∧ Ex H H' ∧ TxOk 1 s) ?_ ?_
  · refine s_when (tst (j := 0) (i := 4) ex4 rfl h4) (fun _ H5 x5 => ?_) (fun _ H5 x5 => ⟨s1, rfl, ex4.trans x5, t1⟩)
    exact s_asg (i := 2) (v := .str (textS (.re 1 0))) (ev_is ev_c (by rw [← txt_10])) fun H6 x6 => ⟨.re 1 0, rfl, ex4.trans (x5.trans x6), tx_10⟩
  rintro σ' H5 ⟨s, rfl, ex5, ts⟩
  obtain ⟨k4, l1, l2, l3⟩ := sec_ok (d3 := d3) ts tO t2
  have ls : (textS s).length ≤ 200 := Nat.le_trans (text_len ts.ok) ts.l
  have lo : (textS one).length ≤ 200 := Nat.le_trans (text_len tO.ok) tO.l
  refine q_cut (M := fun σ' H' => σ' = [some (.ref a), some (.ref b), some (.str (textS s)), some (.str (textS (secS d3 s one s2 1))), some (.str (textS one))] ∧ Ex H H') ?_ ?_
  · refine s_when (tst (j := 2) (i := 3) ex5 rfl h3) (fun c H6 x6 => ?_) (fun c H6 x6 => ⟨?_, ex5.trans x6⟩)
    · refine s_asg (i := 3) (ev_var rfl) fun H7 x7 => ⟨?_, ex5.trans (x6.trans x7)⟩
      rw [show secS d3 s one s2 1 = one from if_pos (of_decide_eq_true c)]
      rfl
    · rw [show secS d3 s one s2 1 = s2 from if_neg (of_decide_eq_false c)]
  rintro σ' H6 ⟨rfl, ex6⟩
  refine q_cut (M := fun σ' H' => σ' = [some (.ref a), some (.ref b), some (.str (textS s)), some (.str (textS (secS d3 s one s2 2))), some (.str (textS one))] ∧ Ex H H') ?_ ?_
  · refine s_when (tst (j := 3) (i := 3) ex6 rfl h3) (fun c H7 x7 => ?_) (fun c H7 x7 => ⟨?_, ex6.trans x7⟩)
    · refine s_asg (i := 3) (v := .str (textS (.an s one))) (ev_addS (ev_addS (ev_addS (ev_addS ev_c (ev_var rfl) ?_) ev_c ?_) (ev_var rfl) ?_) ev_c ?_) fun H8 x8 => ⟨?_, ex6.trans (x7.trans x8)⟩
      rotate_right
      · rw [show secS d3 s one s2 2 = .an s one from if_pos (of_decide_eq_true c)]
        rfl
      all_goals
        simp only [len_app, show ("( " : Str).length = 2 from by decide +kernel, show (" and " : Str).length = 5 from by decide +kernel, show (" )" : Str).length = 2 from by decide +kernel]
        omega
    · rw [show secS d3 s one s2 2 = secS d3 s one s2 1 from if_neg (of_decide_eq_false c)]
  rintro σ' H7 ⟨rfl, ex7⟩
  refine q_cut (M := fun σ' H' => σ' = [some (.ref a), some (.ref b), some (.str (textS s)), some (.str (textS (secS d3 s one s2 3))), some (.str (textS one))] ∧ Ex H H') ?_ ?_
  · refine s_when (tst (j := 0) (i := 3) ex7 rfl h3) (fun c H8 x8 => ?_) (fun c H8 x8 => ⟨?_, ex7.trans x8⟩)
    · refine s_asg (i := 3) (ev_var rfl) fun H9 x9 => ⟨?_, ex7.trans (x8.trans x9)⟩
      rw [show secS d3 s one s2 3 = s from if_pos (of_decide_eq_true c)]
      rfl
    · rw [show secS d3 s one s2 3 = secS d3 s one s2 2 from if_neg (of_decide_eq_false c)]
  rintro σ' H8 ⟨rfl, ex8⟩
  refine q_cut (M := fun σ' H' => σ' = [some (.ref a), some (.ref b), some (.str (textS s)), some (.str (textS (secS d3 s one s2 4))), some (.str (textS one))] ∧ Ex H H') ?_ ?_
  · refine s_when (tst (j := 1) (i := 3) ex8 rfl h3) (fun c H9 x9 => ?_) (fun c H9 x9 => ⟨?_, ex8.trans x9⟩)
    · refine s_asg (i := 3) (v := .str (textS (.od (secS d3 s one s2 3) s))) (ev_addS (ev_addS (ev_addS (ev_addS ev_c (ev_var rfl) ?_) ev_c ?_) (ev_var rfl) ?_) ev_c ?_) fun H10 x10 => ⟨?_, ex8.trans (x9.trans x10)⟩
      rotate_right
      · rw [show secS d3 s one s2 4 = .od (secS d3 s one s2 3) s from if_pos (of_decide_eq_true c)]
        rfl
      all_goals
        simp only [len_app, show ("( " : Str).length = 2 from by decide +kernel, show (" or " : Str).length = 4 from by decide +kernel, show (" )" : Str).length = 2 from by decide +kernel]
        omega
    · rw [show secS d3 s one s2 4 = secS d3 s one s2 3 from if_neg (of_decide_eq_false c)]
  rintro σ' H9 ⟨rfl, ex9⟩
  exact s_retL (el_lst (ea2 (ev_var rfl) (ev_var rfl)) (by simp)) fun p H10 p0 x10 hp => k.go (ex9.trans x10) ⟨p, s, secS d3 s one s2 4, rfl, hp, ts.up, k4⟩
end
end EP
end

section
set_option Elab.async false
set_option linter.all false
set_option maxRecDepth 100000
set_option maxHeartbeats 4000000
/-! F4: the law's numbers, made, shows. -/
namespace EP
open PySem PySem.Spec PyProof.Rows L2 Evl
section
variable {P : Program} {w : World} {K : PySem.W.Frag} {mg : Str → Option Value} {base : Heap}
abbrev N_law_common : List Str := ["_law_a", "_law_b", "_law_first", "_law_second"]
theorem sc_law_common : FnScope N_law_common ["_law_a", "_law_b"] (defScope s_law_common) := ⟨rfl, rfl, rfl, by decide +kernel, rfl, by decide +kernel, by decide +kernel⟩
theorem ok_law_common (T : Tx K mg base) : Cal P w K mg base 1 "_law_common" sp_common := by
  refine cal_of T.f_law_common T.g_law_common sc_law_common (fun _ _ _ _ _ _ us hl => match us, hl with | [_, _], _ => rfl) (len_sp fun _ => rfl) any_sp ?_
  rintro f cdv A outer s H vs Q E hr ⟨⟨a, b⟩, rfl, -, k⟩
  refine ⟨_, pss_cons (ps_par (i := 2) (j := 3) (by rfl) sc_law_common.nd rfl rfl (by decide) rfl rfl (pa_cons (pe_callB c_abs (by rfl) T.b_abs (by decide +kernel) (pa_cons (pv 0) pa_nil)) (pa_cons (pe_callB c_abs (by rfl) T.b_abs (by decide +kernel) (pa_cons (pv 1) pa_nil)) pa_nil)) (by rfl))
    (pss_cons (ps_while PassesOwn.never (pt_cmpR op_gt (pv 3) pe_int (nomark _)) (pss_one (ps_par (i := 2) (j := 3) (by rfl) sc_law_common.nd rfl rfl (by decide) rfl rfl (pa_cons (pv 3) (pa_cons (pe_op op_mod (pv 2) (pv 3)) pa_nil)) (by rfl))))
    (pss_one (ps_ret (pv 2)))), ?_⟩
  refine ⟨_, rfl, _, rfl, _, rfl, _, rfl, _, _, rfl, ?_⟩
  refine ⟨fun m σ H' => H' = H ∧ ∃ x y : Nat, m = y ∧ σ = [some (V.int a), some (V.int b), some (V.int x), some (V.int y)] ∧ Nat.gcd x y = Nat.gcd a.natAbs b.natAbs, ⟨b.natAbs, rfl, a.natAbs, b.natAbs, rfl, ?_, rfl⟩, ?_⟩
  · rw [← abs_nat, ← abs_nat]
    rfl
  · rintro m σ H' ⟨rfl, x, y, rfl, rfl, hg⟩
    refine ⟨_, rfl, _, _, rfl, rfl, _, rfl, ?_⟩
    refine ite2 (fun h => ?_) (fun h => ?_)
    · have h : (0 : Int) < (m : Int) := by simpa using h
      refine ⟨fun σ' H2 => H2 = H' ∧ σ' = [some (V.int a), some (V.int b), some (V.int m), some (V.int ((x % m : Nat) : Int))], ?_, ?_⟩
      · rintro σ' H2 ⟨rfl, rfl⟩
        exact ⟨x % m, Nat.mod_lt _ (by omega), rfl, m, x % m, rfl, rfl, by rw [← hg, Nat.gcd_comm x m, Nat.gcd_rec m x, Nat.gcd_comm]⟩
      · refine ⟨_, rfl, _, rfl, _, rfl, _, _, rfl, rfl, h, _, _, rfl, rfl, ?_⟩
        show _ = [some (V.int a), some (V.int b), some (V.int m), some (V.int ((x % m : Nat) : Int))]
        rw [← emod_nat]
        rfl
    · have h : ¬ (0 : Int) < (m : Int) := by simpa using h
      have : m = 0 := by omega
      subst this
      refine ⟨_, rfl, ?_⟩
      have hx : x = Nat.gcd a.natAbs b.natAbs := by rw [← hg, Nat.gcd_zero_right]
      rw [hx]
      exact gives_v k (Ex.refl _)



/-! ### _law_is_prime -/
def oddPrimeI (n : Int) : Bool := decide (2 < n) && primeI n
abbrev N_law_is_prime : List Str := ["_law_n", "_law_k"]
theorem sc_law_is_prime : FnScope N_law_is_prime ["_law_n"] (defScope s_law_is_prime) := ⟨rfl, rfl, rfl, by decide +kernel, rfl, by decide +kernel, by decide +kernel⟩
def sp_law_is_prime : Sp := mkSp (α := Int) (fun n => [.int n]) (fun n _ => n < 2 ^ 30) (fun n => isV (.bl (oddPrimeI n)))
theorem oddPrime_no {n : Int} (h : n < 3 ∨ n % 2 = 0) : oddPrimeI n = false := by
  unfold oddPrimeI
  rcases h with h | h
  · rw [decide_eq_false (by omega)] <;> rfl
  · by_cases h2 : 2 < n
    · have : primeI n = false := by
        unfold primeI
        rw [Bool.eq_false_iff]
        intro q
        have hp := (isPrimeN_iff n.toNat).mp q
        have hd : 2 ∣ n.toNat := by omega
        rcases hp.2 2 hd with e | e <;> omega
      rw [this, Bool.and_false]
    · rw [decide_eq_false h2] <;> rfl
theorem dec_i0' (i : Int) : decide (V.int i = .int 0) = decide (i = 0) := decide_eq_decide.mpr ⟨fun h => V.int.inj h, fun h => by rw [h]⟩
theorem ok_law_is_prime (T : Tx K mg base) : Cal P w K mg base 1 "_law_is_prime" sp_law_is_prime := by
  refine cal_of T.f_law_is_prime T.g_law_is_prime sc_law_is_prime (fun _ _ _ _ _ _ us hl => match us, hl with | [_], _ => rfl) (len_sp fun _ => rfl) any_sp ?_
  rintro f cdv A outer s H vs Q E hr ⟨n, rfl, pre, k⟩
  have pre : n < 2 ^ 30 := pre
  refine ⟨_, pss_cons (ps_if (PW.pt (pw_or (pt_cmpR op_lt (pv 0) pe_int (nomark _)) (pw_or1 (pt_cmpR op_eq (pe_op op_mod (pv 0) pe_int) pe_int (nomark _))))) (pss_one (ps_ret pe_bl)) (pss_nil))
      (pss_cons (ps_set (i := 1) sc_law_is_prime.nd rfl (Or.inl rfl) pe_int)
      (pss_cons (ps_while PassesOwn.never (pt_cmpR op_le (pe_op op_mul (pv 1) (pv 1)) (pv 0) (nomark _)) (pss_cons (ps_if (pt_cmpR op_eq (pe_op op_mod (pv 0) (pv 1)) pe_int (nomark _)) (pss_one (ps_ret pe_bl)) (pss_nil))
        (pss_one (ps_set (i := 1) sc_law_is_prime.nd rfl (Or.inl rfl) (pe_op op_add (pv 1) pe_int)))))
      (pss_one (ps_ret pe_bl)))), ?_⟩
  refine q_when (b := decide (n < 3) || decide (n % 2 = 0)) (et_or (et_test (ev_op (ev_var rfl) ev_c rv_I0)) fun _ => et_is (et_test (ev_op (ev_op (ev_var rfl) ev_c (rv_I (show (0:Int) < 2 by decide))) ev_c (rv_eq rfl))) (dec_i0' _)) (fun c H1 e1 => ?_) (fun c H1 e1 => ?_)
  · have hv : oddPrimeI n = false := oddPrime_no (by simpa using c)
    exact s_ret ev_c fun H2 e2 => gives_ve k (e1.trans e2) (by show _ = V.bl (oddPrimeI n); rw [hv])
  rw [Bool.or_eq_false_iff] at c
  have c1 := of_decide_eq_false c.1
  have c2 := of_decide_eq_false c.2
  obtain ⟨n, rfl⟩ : ∃ q : Nat, n = q := ⟨n.toNat, by omega⟩
  refine q_asg (i := 1) ev_c fun H3 e3 => ?_
  refine q_while (fun m σ' H' => ∃ d : Nat, σ' = [some (.int (n : Nat)), some (.int (d : Nat))] ∧ Ex H H' ∧ n < d + m ∧ 3 ≤ d ∧ d ≤ 2 ^ 30 + 2 ∧ d % 2 = 1 ∧ ∀ e, 2 ≤ e → e < d → e % 2 = 1 → ¬ e ∣ n) n ⟨3, rfl, e1.trans e3, by omega, by omega, by decide, rfl, fun e h1 h2 h3 => by omega⟩ ?_
  rintro m σ' H' ⟨d, rfl, ex, hm, d3, db, d1, hd⟩
  have h64 : -(2 ^ 64) < ((d : Nat) : Int) ∧ ((d : Nat) : Int) < 2 ^ 64 := by omega
  refine ⟨_, et_is (et_test (ev_op (ev_op (ev_var rfl) (ev_var rfl) (rv_I (cm1 h64))) (ev_var rfl) rv_I0)) (dec_le d n), fun c H4 e4 => ⟨fun σ3 H3 => ∃ m', m' < m ∧ _, fun _ _ h => h, ?_⟩, fun c H4 e4 => ?_⟩
  · have c : d * d ≤ n := of_decide_eq_true c
    have dn : d ≤ n := by
      have : d * 1 ≤ d * d := Nat.mul_le_mul_left d (by omega)
      omega
    refine q_when (et_is (et_test (ev_op (ev_op (ev_var rfl) (ev_var rfl) (rv_I (show (0 : Int) < (d : Int) by omega))) ev_c (rv_eq rfl))) (dec_mod0 n d)) (fun c3 H5 e5 => ?_) (fun c3 H5 e5 => ?_)
    · have hv : oddPrimeI (n : Int) = false := by
        unfold oddPrimeI primeI
        have : isPrimeN ((n : Int)).toNat = false := by
          rw [Bool.eq_false_iff]
          intro q
          have hp := (isPrimeN_iff _).mp q
          rw [Int.toNat_natCast] at hp
          rcases hp.2 d (Nat.dvd_of_mod_eq_zero (of_decide_eq_true c3)) with e | e
          · omega
          · have : d * 3 ≤ d * d := Nat.mul_le_mul_left d d3
            omega
        rw [this, Bool.and_false]
      exact s_ret ev_c fun H6 e6 => gives_ve k (ex.trans (e4.trans (e5.trans e6))) (by show _ = V.bl (oddPrimeI (n : Int)); rw [hv])
    · have c3 : ¬ n % d = 0 := of_decide_eq_false c3
      refine s_asgI (i := 1) (ev_op (ev_var rfl) ev_c rv_I0) (add_nat d 2) fun H7 e7 => ⟨m - 2, by omega, d + 2, rfl, ex.trans (e4.trans (e5.trans e7)), by omega, by omega, by omega, by omega, fun e h1 h2 h3 hdv => ?_⟩
      rcases Nat.lt_or_ge e d with q | q
      · exact hd e h1 q h3 hdv
      · have : e = d := by omega
        subst this
        exact c3 (Nat.mod_eq_zero_of_dvd hdv)
  · have c : ¬ d * d ≤ n := of_decide_eq_false c
    have hp : Prime n := prime_of_small (by omega) fun e h1 h2 hdv => by
      by_cases he : e % 2 = 1
      · rcases Nat.lt_or_ge e d with q | q
        · exact hd e h1 q he hdv
        · have := Nat.mul_le_mul q q
          omega
      · have : 2 ∣ n := Nat.dvd_trans (Nat.dvd_of_mod_eq_zero (by omega)) hdv
        omega
    have hv : oddPrimeI (n : Int) = true := by
      unfold oddPrimeI primeI
      rw [decide_eq_true (by omega), Int.toNat_natCast, (isPrimeN_iff n).mpr hp] <;> rfl
    exact s_ret ev_c fun H6 e6 => gives_ve k (ex.trans (e4.trans e6)) (by show _ = V.bl (oddPrimeI (n : Int)); rw [hv])
/-! ### _law_special -/
abbrev N_law_special : List Str := ["_law_one", "_law_other", "_law_m", "_law_found", "_law_p"]
theorem sc_law_special : FnScope N_law_special ["_law_one", "_law_other", "_law_m"] (defScope s_law_special) := ⟨rfl, rfl, rfl, by decide +kernel, rfl, by decide +kernel, by decide +kernel⟩
def sp_law_special (K : PySem.W.Frag) : Sp := mkSp (α := (V × PS) × (V × PS) × Nat) (fun a => [a.1.1, a.2.1.1, .int (a.2.2 : Nat)]) (fun a H => okP K a.1.1 a.1.2 H ∧ okP K a.2.1.1 a.2.1.2 H ∧ 0 < a.2.2 ∧ a.2.2 ≤ 40000 ∧ a.1.2.singles.length < 20 ∧ a.2.1.2.singles.length < 20) (fun a => isL (nv (sortU (oddDivN a.2.2 ++ a.1.2.singles ++ a.2.1.2.singles))))
/-- the odd primes that divide m, of 3, 5, .. -/
def odds (m k : Nat) : List Nat := ((List.range k).map fun i => 3 + 2 * i).filter fun p => decide (m % p = 0) && oddPrimeI (p : Int)
theorem odds_snoc {m i : Nat} : odds m (i + 1) = odds m i ++ if (decide (m % (3 + 2 * i) = 0) && oddPrimeI ((3 + 2 * i : Nat) : Int)) = true then [3 + 2 * i] else [] := by
  unfold odds
  rw [List.range_succ, List.map_append, List.filter_append, List.map_cons, List.map_nil, List.filter_cons]
  split <;> rfl
theorem odds_all {m : Nat} (m0 : 0 < m) : odds m ((m + 1 - 3 + 1) / 2) = oddDivN m := by
  refine asc_eq ?_ (oddDivN_asc m0) fun p => ?_
  · refine List.Pairwise.filter _ ?_
    rw [List.pairwise_map]
    exact List.pairwise_lt_range.imp fun h => by omega
  · unfold odds
    rw [List.mem_filter, List.mem_map, oddDivN_mem m0, Bool.and_eq_true, decide_eq_true_iff]
    unfold oddPrimeI primeI
    rw [Bool.and_eq_true, decide_eq_true_iff, Int.toNat_natCast, isPrimeN_iff]
    constructor
    · rintro ⟨⟨i, _, rfl⟩, h1, h2, h3⟩
      exact ⟨h3, by omega, Nat.dvd_of_mod_eq_zero h1⟩
    · rintro ⟨h1, h2, h3⟩
      have hle := Nat.le_of_dvd m0 h3
      have h4 := h1.1
      have hodd : p % 2 = 1 := by
        rcases Nat.mod_two_eq_zero_or_one p with q | q
        · rcases h1.2 2 (Nat.dvd_of_mod_eq_zero q) with e | e <;> omega
        · exact q
      exact ⟨⟨(p - 3) / 2, List.mem_range.mpr (by omega), by omega⟩, Nat.mod_eq_zero_of_dvd h3, by omega, h1⟩
end
end EP
end

section
set_option Elab.async false
set_option linter.all false
set_option maxRecDepth 100000
set_option maxHeartbeats 4000000
/-! F5: the law's own paper. -/
namespace EP
open PySem PySem.Spec PyProof.Rows L2 Evl
section
variable {P : Program} {w : World} {K : PySem.W.Frag} {mg : Str → Option Value} {base : Heap}
theorem s_forR3 {σ : L2.St} {H : Hp} {ts : TA} {tu : TS} {D : Ends} {j : Nat} {lo hi c : Int} {n : Nat} (h : EvA ts σ H [.int lo, .int hi, .int c]) (hn : RgC lo hi c n) (Pv : Nat → L2.St → Hp → Prop) (h0 : ∀ H1, Ex H H1 → Pv 0 σ H1)
    (hs : ∀ (i : Nat) σ' H', i < n → Pv i σ' H' → tu { D with nx := Pv (i + 1), ct := Pv (i + 1), bk := D.nx } (σ'.set j (some (.int (lo + (i : Nat) * c)))) H') (hd : ∀ σ' H', Pv n σ' H' → D.nx σ' H') : tFor (iRng3 ts) (gName j) tu D σ H :=
  h H (Ex.refl H) _ fun H1 e => ⟨lo, hi, c, n, rfl, hn, for_rangeC (lo := lo) (c := c) (n := n) Pv (h0 H1 e) (fun i σ' H' hi p => hs i σ' H' hi p) hd⟩
theorem q_forR3 {σ : L2.St} {H : Hp} {ts : TA} {tu tz : TS} {D : Ends} {j : Nat} {lo hi c : Int} {n : Nat} (h : EvA ts σ H [.int lo, .int hi, .int c]) (hn : RgC lo hi c n) (Pv : Nat → L2.St → Hp → Prop) (h0 : ∀ H1, Ex H H1 → Pv 0 σ H1)
    (hs : ∀ (i : Nat) σ' H', i < n → Pv i σ' H' → tu { D with nx := Pv (i + 1), ct := Pv (i + 1), bk := tz D } (σ'.set j (some (.int (lo + (i : Nat) * c)))) H') (hd : ∀ σ' H', Pv n σ' H' → tz D σ' H') : tSeq (tFor (iRng3 ts) (gName j) tu) tz D σ H :=
  s_forR3 (D := { D with nx := tz D }) h hn Pv h0 hs hd
theorem rg_size {m : Nat} : PySem.Builtin.Range.rangeSize 3 ((m : Int) + 1) 2 = ((m + 1 - 3 + 1) / 2 : Nat) := by
  unfold PySem.Builtin.Range.rangeSize
  rw [if_pos (by decide)]
  split <;> omega
theorem rg_odd {m : Nat} (hm : m ≤ 40000) : RgC 3 ((m : Int) + 1) 2 ((m + 1 - 3 + 1) / 2) := by
  refine ⟨by decide, by decide, ?_, rg_size⟩
  unfold PySem.Builtin.Range.small
  rw [rg_size]
  unfold PySem.Builtin.Range.rangeFitsLong
  have : ∀ x : Int, -1000000 < x → x < 1000000 → (decide (-(2 : Int) ^ 63 ≤ x) && decide (x < 2 ^ 63)) = true := fun x h1 h2 => by
    rw [decide_eq_true (by omega), decide_eq_true (by omega)]
    rfl
  rw [this _ (by omega) (by omega), this _ (by omega) (by omega), this _ (by omega) (by omega), this _ (by omega) (by omega)]
  rw [if_pos (show (2 : Int) > 0 by decide), this _ (by omega) (by omega), Bool.or_true]
  rfl
theorem odds_len {m k : Nat} (m0 : 0 < m) (hm : m ≤ 40000) (hk : k ≤ (m + 1 - 3 + 1) / 2) : (odds m k).length < 20 := by
  have h := oddDivN_len m0 (by omega)
  rw [← odds_all m0] at h
  refine Nat.lt_of_le_of_lt ?_ h
  unfold odds
  have e : (m + 1 - 3 + 1) / 2 = k + ((m + 1 - 3 + 1) / 2 - k) := by omega
  rw [e, List.range_add, List.map_append, List.filter_append, List.length_append]
  omega
theorem ok_law_special (T : Tx K mg base) : Cal P w K mg base 2 "_law_special" (sp_law_special K) := by
  refine cal_of T.f_law_special T.g_law_special sc_law_special (fun _ _ _ _ _ _ us hl => match us, hl with | [_, _, _], _ => rfl) (len_sp fun _ => rfl) any_sp ?_
  rintro f cdv A outer s H vs Q E hr ⟨⟨⟨v1, A1⟩, ⟨v2, A2⟩, m⟩, rfl, ⟨o1, o2, gm0, gmb, gl1, gl2⟩, gk⟩
  have h1 : okP K v1 A1 H := o1
  have h2 : okP K v2 A2 H := o2
  have m0 : 0 < m := gm0
  have mb : m ≤ 40000 := gmb
  have l1 : A1.singles.length < 20 := gl1
  have l2 : A2.singles.length < 20 := gl2
  have k : Gives (isL (nv (sortU (oddDivN m ++ A1.singles ++ A2.singles)))) H Q := gk
  refine ⟨_, pss_cons (ps_set (i := 3) sc_law_special.nd rfl (Or.inl rfl) (pe_op op_cat (pe_callTy c_list (by rfl) T.b_list (by decide +kernel) (pa_cons (pe_fldk K rfl (pv 0) rfl) pa_nil)) (pe_callTy c_list (by rfl) T.b_list (by decide +kernel) (pa_cons (pe_fldk K rfl (pv 1) rfl) pa_nil))))
    (pss_cons (ps_for PassesOwn.never rfl (pi_range3 (by rfl) T.b_range (pa_cons pe_int (pa_cons (pe_op op_add (pv 2) pe_int) (pa_cons pe_int pa_nil)))) (pg_name (i := 4) sc_law_special.nd rfl (Or.inl rfl)) (pss_one (ps_if (PW.pt (pw_and (pt_cmpR op_eq (pe_op op_mod (pv 2) (pv 4)) pe_int (nomark _)) (pw_and1 (pt_val (pe_c (ok_law_is_prime (K := K) T) hr (by decide) (by rfl) (pa_cons (pv 4) pa_nil)))))) (pss_one (ps_expr (pe_bm PySem.F.plainAttrs_list PySem.F.slot_list_append PySem.F.type_list_append mt_append (pv 3) (pa_cons (pv 4) pa_nil)))) (pss_nil))))
    (pss_one (ps_ret (pe_callB (cr_sortedSet rfl) (by rfl) T.b_sorted (by decide +kernel) (pa_cons (pe_callTy (cr_setL rfl) (by rfl) T.b_set (by decide +kernel) (pa_cons (pv 3) pa_nil)) pa_nil))))), ?_⟩
  obtain ⟨s1, hs1, es1⟩ := ev_ps (ta := tVar 0) (σ := [some v1, some v2, some (.int (m : Nat)), none, none]) T (ev_var rfl) h1
  obtain ⟨s2, hs2, es2⟩ := ev_ps (ta := tVar 1) (σ := [some v1, some v2, some (.int (m : Nat)), none, none]) T (ev_var rfl) h2
  refine q_asgL (i := 3) (el_cat (el_listT es1 (SqT.of hs1)) (el_listT es2 (SqT.of hs2)) ?_) fun l H1 l0 e1 hl => ?_
  · rw [nv_len, nv_len]
    omega
  refine q_forR3 (ea_cons ev_c (ea_cons (ev_op (ev_var rfl) ev_c rv_I0) (ea_cons ev_c ea_nil))) (rg_odd mb) (fun i σ' H' => ∃ o4, σ' = [some v1, some v2, some (.int (m : Nat)), some (.ref l), o4] ∧ Ex H H' ∧ H' l = some (.lst (nv (A1.singles ++ A2.singles ++ odds m i))))
    (fun H3 e3 => ⟨none, rfl, e1.trans e3, by rw [e3 _ _ hl]; simp [nv, odds]⟩) ?_ ?_
  · rintro i σ' H' hi ⟨o4, rfl, ex, hl'⟩
    have ev4 : (3 + (i : Int) * 2) = ((3 + 2 * i : Nat) : Int) := by omega
    rw [ev4]
    refine s_when (b := decide (m % (3 + 2 * i) = 0) && oddPrimeI ((3 + 2 * i : Nat) : Int)) (et_and (et_is (et_test (ev_op (ev_op (ev_var rfl) (ev_var rfl) (rv_I (cmod (by omega)))) ev_c (rv_eq rfl))) (dec_mod0 m _)) fun _ => et_test (p_ev (ev_cal (ea_cons (ev_var rfl) ea_nil) (sp_mk' ((3 + 2 * i : Nat) : Int) rfl fun _ _ => by show ((3 + 2 * i : Nat) : Int) < 2 ^ 30; omega)))) (fun c H10 e10 => ?_) (fun c H10 e10 => ?_)
    · refine s_app (e10 _ _ hl') (ev_var rfl) (ev_var rfl) ?_ fun H11 e11 => ?_
      · rw [nv_len, List.length_append, List.length_append]
        have := odds_len m0 mb (Nat.le_of_lt hi)
        omega
      · refine ⟨_, rfl, Ex.mut (ex.trans (e10.trans e11)) l0, ?_⟩
        rw [odds_snoc, if_pos c]
        refine upd_same.trans ?_
        simp [nv]
    · refine ⟨_, rfl, ex.trans e10, ?_⟩
      rw [odds_snoc, c, if_neg Bool.false_ne_true, List.append_nil]
      exact e10 _ _ hl'
  rintro σ' H4 ⟨o4, rfl, ex, hl'⟩
  rw [odds_all m0] at hl'
  have ho := oddDivN_len m0 (by omega)
  have e : sortU (oddDivN m ++ A1.singles ++ A2.singles) = sortU (A1.singles ++ A2.singles ++ oddDivN m) := asc_eq (sortU_asc _) (sortU_asc _) fun x => by
    simp only [sortU_mem, List.mem_append]
    constructor
    · rintro ((h | h) | h) <;> simp [h]
    · rintro ((h | h) | h) <;> simp [h]
  rw [e] at k
  refine s_retP (el_p (el_sortedS (es_setA (ev_var rfl) hl' ?_) ?_)) (k.mono ex)
  · rw [List.length_append, List.length_append]
    omega
  · rw [List.length_append, List.length_append]
    omega
end
end EP
end

section
set_option Elab.async false
set_option linter.all false
set_option maxRecDepth 100000
set_option maxHeartbeats 4000000
/-! F6: made, shows. -/
namespace EP
open PySem PySem.Spec PyProof.Rows L2 Evl
section
variable {P : Program} {w : World} {K : PySem.W.Frag} {mg : Str → Option Value} {base : Heap}
theorem ep_lstP {σ : L2.St} {H : Hp} {ts : TA} {PA : List V → Hp → Prop} (h : EvAP ts σ H PA) (hl : ∀ us H', PA us H' → us.length ≤ 100000) : EvP (tLst ts) σ H (fun H0 v H1 => ∃ (a : Addr) (us : List V) (H' : Hp), v = .ref a ∧ H1 a = some (.lst us) ∧ H0 a = none ∧ PA us H' ∧ Ex H' H1) := fun H1 e Q q =>
  h H1 e _ fun us H2 e2 p => ⟨sz_of (hl _ _ p), fun a ha => q H2 _ _ e2 (Ex.new ha) ⟨a, us, H2, rfl, upd_same, ha, p, Ex.new ha⟩⟩
def isMade (rs ss : List Nat) : VP := fun _ v H => ∃ b r s : Addr, v = .ref b ∧ H b = some (.lst [.ref r, .ref s]) ∧ H r = some (.lst (nv rs)) ∧ H s = some (.lst (nv ss))
def madeR (A : PS) (m : Nat) : List Nat := (unitsN m).filter fun r => inR r A
def madeS (A B : PS) (m : Nat) : List Nat := (sortU (oddDivN m ++ A.singles ++ B.singles)).filter fun p => memP p A
abbrev N_law_made : List Str := ["_law_one", "_law_other", "_law_m", "_law_rests", "_law_rest", "_law_p"]
theorem sc_law_made : FnScope N_law_made ["_law_one", "_law_other", "_law_m"] (defScope s_law_made) := ⟨rfl, rfl, rfl, by decide +kernel, rfl, by decide +kernel, by decide +kernel⟩
def sp_law_made (K : PySem.W.Frag) : Sp := mkSp (α := (V × PS) × (V × PS) × Nat) (fun a => [a.1.1, a.2.1.1, .int (a.2.2 : Nat)]) (fun a H => okP K a.1.1 a.1.2 H ∧ okP K a.2.1.1 a.2.1.2 H ∧ (0 < a.2.2 ∧ a.2.2 ≤ 40000) ∧ (a.1.2.singles.length < 20 ∧ a.2.1.2.singles.length < 20) ∧ 0 < a.1.2.m ∧ (∀ p ∈ a.1.2.singles, 0 < p) ∧ (∀ p ∈ a.2.1.2.singles, 0 < p)) (fun a => isMade (madeR a.1.2 a.2.2) (madeS a.1.2 a.2.1.2 a.2.2))
theorem madeS_pos {A B : PS} {m : Nat} (m0 : 0 < m) (p1 : ∀ p ∈ A.singles, 0 < p) (p2 : ∀ p ∈ B.singles, 0 < p) : ∀ p ∈ sortU (oddDivN m ++ A.singles ++ B.singles), 0 < p := fun p hp => by
  rcases List.mem_append.mp (sortU_mem.mp hp) with h | h
  · rcases List.mem_append.mp h with h | h
    · exact ((oddDivN_mem m0).mp h).1.pos
    · exact p1 p h
  · exact p2 p h
theorem ok_law_made (T : Tx K mg base) : Cal P w K mg base 3 "_law_made" (sp_law_made K) := by
  refine cal_of T.f_law_made T.g_law_made sc_law_made (fun _ _ _ _ _ _ us hl => match us, hl with | [_, _, _], _ => rfl) (len_sp fun _ => rfl) any_sp ?_
  rintro f cdv A outer s H vs Q E hr ⟨⟨⟨v1, A1⟩, ⟨v2, A2⟩, m⟩, rfl, ⟨o1, o2, ⟨gm0, gmb⟩, ⟨gl1, gl2⟩, ga, gp1, gp2⟩, gk⟩
  have h1 : okP K v1 A1 H := o1
  have h2 : okP K v2 A2 H := o2
  have m0 : 0 < m := gm0
  have mb : m ≤ 40000 := gmb
  have l1 : A1.singles.length < 20 := gl1
  have l2 : A2.singles.length < 20 := gl2
  have a0 : 0 < A1.m := ga
  have p1 : ∀ p ∈ A1.singles, 0 < p := gp1
  have p2 : ∀ p ∈ A2.singles, 0 < p := gp2
  have k : Gives (isMade (madeR A1 m) (madeS A1 A2 m)) H Q := gk
  refine ⟨_, pss_cons (ps_setLc (i := 3) (own := [("_law_rest", 4)]) (g := gName 4) (by rfl) sc_law_made.nd rfl rfl (sw_true rfl rfl rfl (by decide +kernel)) (pi_range1 (by rfl) T.b_range (pa_cons (pv 2) pa_nil)) (blkOk_by (own := [("_law_rest", 4)]) (N := N_law_made) (sc := defScope s_law_made) (by decide +kernel)) (fun _ _ _ _ _ => pg_name (i := 4) sc_law_made.nd rfl (Or.inl rfl)) (fun _ _ _ _ _ => pts_one (PW.pt (pw_and (pt_cmpR op_eq (pe_c (ok_law_common (K := K) T) hr (by decide) (by rfl) (pa_cons (pv 4) (pa_cons (pv 2) pa_nil))) pe_int (nomark _)) (pw_and1 (pt_cmpR (op_inCk K rfl (hu_of hr)) (pe_op op_mod (pv 4) (pe_fldk K rfl (pv 0) rfl)) (pe_fldk K rfl (pv 0) rfl) (by rfl)))))) (fun _ _ _ _ _ => pv 4))
      (pss_one (ps_ret (pe_lst (pa_cons (pv 3) (pa_cons (pe_lc (own := [("_law_p", 5)]) (g := gName 5) (by rfl) sc_law_made.nd (pi_list (pe_c (ok_law_special (K := K) T) hr (by decide) (by rfl) (pa_cons (pv 0) (pa_cons (pv 1) (pa_cons (pv 2) pa_nil))))) (blkOk_by (own := [("_law_p", 5)]) (N := N_law_made) (sc := defScope s_law_made) (by decide +kernel)) (fun _ _ _ _ _ => pg_name (i := 5) sc_law_made.nd rfl (Or.inl rfl)) (fun _ _ _ _ _ => pts_one (pt_cmpR (op_ownIn (ok_primes_contains (K := K) T) hr (by decide)) (pv 5) (pv 0) (by rfl))) (fun _ _ _ _ _ => pv 5)) pa_nil))))), ?_⟩
  refine q_asgL (i := 3) (xs := nv (madeR A1 m)) ?_ fun r H1 r0 e1 hr1 => ?_
  · have em : madeR A1 m = (List.range m).filter fun r => (Nat.gcd r m == 1) && inR r A1 := by
      unfold madeR unitsN
      rw [List.filter_filter]
      refine List.filter_congr fun x _ => Bool.and_comm _ _
    rw [em]
    refine el_lcV (l := List.range m) (w := fun n : Nat => V.int n) (fun r => (Nat.gcd r m == 1) && inR r A1) (fun _ r => [some v1, some v2, some (V.int m), none, some (V.int r), none]) (eis_n (ea_cons (ev_var rfl) ea_nil) (by omega)) mono_okv (by rw [List.length_range]; omega) ?_ (fun _ _ _ _ _ => rfl) ?_ (fun x _ _ v H1 _ _ => ev_var rfl)
    · rintro x - v H1 - rfl R hR
      exact hR H1 (Ex.refl H1)
    · intro x _ v H1 e1 _
      refine et_and (et_is (et_test (ev_op (p_ev (ev_cal (ea2 (ev_var rfl) (ev_var rfl)) (sp_mk' ((x : Int), (m : Int)) rfl fun _ _ => trivial))) ev_c (rv_eq rfl))) (dec_ii (Nat.gcd x m) 1)) fun _ => ?_
      obtain ⟨r1, hr1, er1⟩ := ev_pr (ta := tVar 0) (σ := [some v1, some v2, some (V.int m), none, some (V.int x), none]) T (ev_var rfl) (h1.ex e1)
      exact et_is (et_test (ev_op (ev_eqI (ev_op (ev_var rfl) (ev_pm T (ev_var rfl) (h1.ex e1)) (rv_I (cmod a0))) (emod_nat x A1.m)) er1 (rv_inC (IntC.tupN hr1)))) mem_zs
  have h11 := h1.ex e1
  have h21 := h2.ex e1
  obtain ⟨a1, rfl, ia1⟩ := InsAt.of h11
  refine s_retP (P := isMade (madeR A1 m) (madeS A1 A2 m)) ((ep_lstP (PA := fun us H' => ∃ b, us = [.ref r, .ref b] ∧ H' r = some (.lst (nv (madeR A1 m))) ∧ H' b = some (.lst (nv (madeS A1 A2 m)))) (eap_consV (ev_var rfl) (eap_cons (el_p (xs := nv (madeS A1 A2 m)) ?_) fun H2 v H3 e2 e3 ⟨b, ev, _, hb⟩ => eap_nil fun H4 e4 => ⟨b, by rw [ev], (e2.trans (e3.trans e4)) _ _ hr1, e4 _ _ hb⟩)) ?_).imp fun H0 v H2 _ _ ⟨a, us, H', ev, ha, _, ⟨b, eu, hr', hb'⟩, e'⟩ => ⟨a, r, b, ev, by rw [ha, eu], e' _ _ hr', e' _ _ hb'⟩) (k.mono e1)
  rotate_left
  · rintro us H' ⟨b, rfl, _⟩
    show 2 ≤ 100000
    omega
  refine el_lcV (l := sortU (oddDivN m ++ A1.singles ++ A2.singles)) (ok := okv fun n : Nat => V.int n) (w := fun n : Nat => V.int n) (fun q => memP q A1) (fun _ x => [some (.ref a1), some v2, some (V.int m), some (.ref r), none, some (V.int x)]) (eis_v (ei_lp (ev_cal (ea_cons (ev_var rfl) (ea2 (ev_var rfl) (ev_var rfl))) (sp_mk' ((V.ref a1, A1), (v2, A2), m) rfl fun H5 e5 => ⟨h11.ex e5, h21.ex e5, m0, mb, l1, l2⟩)))) mono_okv ?_ ?_ (fun _ _ _ _ _ => rfl) ?_ (fun x _ _ v H1 _ _ => ev_var rfl)
  · have h1 := sortU_len (oddDivN m ++ A1.singles ++ A2.singles)
    rw [List.length_append, List.length_append] at h1
    have h2 := oddDivN_len m0 (by omega)
    omega
  · rintro x - v H1 - rfl R hR
    exact hR H1 (Ex.refl H1)
  · intro x hx u H5 e5 _
    exact et_test (ev_in (neg := false) (ev_var rfl) (ev_var rfl) (h11.ex e5) a0 (madeS_pos m0 p1 p2 x hx))
/-! ### _law_shows -/
theorem dp_iv {H : Hp} : ∀ l : List Int, DpAll K H (iv l) (l.map PyData.int)
  | [] => .nil
  | x :: l => .cons (.int x) (dp_iv l)
theorem ints_lay : ∀ l : List Int, PyData.canLayAll0 (l.map PyData.int) = true
  | [] => rfl
  | x :: l => by simp [PyData.canLayAll0, PyData.canLay0, ints_lay l]
theorem ints_depth : ∀ l : List Int, PyData.depthAll (l.map PyData.int) = 0
  | [] => rfl
  | x :: l => by simp [PyData.depthAll, PyData.depth, ints_depth l]
theorem ints_shaped (l : List Int) : SeqAt.shaped (.list (l.map PyData.int)) = true := by
  simp [SeqAt.shaped, PyData.canLay0, PyData.depth, ints_lay, ints_depth]
theorem eqv_nil (l : List Int) : PyData.eqv (.list (l.map PyData.int)) (.list []) = l.isEmpty := by
  cases l <;> rfl
/-- [..] != [] -/
theorem ev_neNil {σ : L2.St} {H : Hp} {te : TE} {l : List Int} (h : EvL te σ H (iv l)) : Ev (tOp (rNeD K) te (tLst tNil)) σ H (.bl (!l.isEmpty)) := fun H1 e Q q =>
  h H1 e _ fun a H2 a0 e2 ha => (el_nil (σ := σ) (H := H2)) H2 (Ex.refl H2) _ fun b H3 b0 e3 hb => ⟨_, _, .lst (SqL.of (e3 _ _ ha)) (dp_iv l), .lst (SqL.of hb) .nil, ints_shaped l, by decide, by rw [eqv_nil]; exact q H3 (e2.trans e3)⟩
theorem ev_eqNil {σ : L2.St} {H : Hp} {te : TE} {l : List Int} (h : EvL te σ H (iv l)) : Ev (tOp (rEqD K) te (tLst tNil)) σ H (.bl l.isEmpty) := fun H1 e Q q =>
  h H1 e _ fun a H2 a0 e2 ha => (el_nil (σ := σ) (H := H2)) H2 (Ex.refl H2) _ fun b H3 b0 e3 hb => ⟨_, _, .lst (SqL.of (e3 _ _ ha)) (dp_iv l), .lst (SqL.of hb) .nil, ints_shaped l, by decide, by rw [eqv_nil]; exact q H3 (e2.trans e3)⟩
theorem ev_neNilA {σ : L2.St} {H : Hp} {te : TE} {l : List Int} {a : Addr} (h : Ev te σ H (.ref a)) (ha : H a = some (.lst (iv l))) : Ev (tOp (rNeD K) te (tLst tNil)) σ H (.bl (!l.isEmpty)) := fun H1 e Q q =>
  h H1 e _ fun H2 e2 => (el_nil (σ := σ) (H := H2)) H2 (Ex.refl H2) _ fun b H3 b0 e3 hb => ⟨_, _, .lst (SqL.of (((e.trans e2).trans e3) _ _ ha)) (dp_iv l), .lst (SqL.of hb) .nil, ints_shaped l, by decide, by rw [eqv_nil]; exact q H3 (e2.trans e3)⟩
theorem empty_filter {α : Type} {l : List α} {p : α → Bool} : (l.filter fun x => !p x).isEmpty = l.all p := by
  induction l with
  | nil => rfl
  | cons x r ih =>
    rw [List.filter_cons, List.all_cons]
    cases hx : p x
    · rfl
    · simpa using ih
theorem lcm_test {a b m : Nat} : decide (m % lcmN a b = 0) = (decide (m % a = 0) && decide (m % b = 0)) := by
  rw [lcmN_eq]
  rcases Nat.decEq (m % Nat.lcm a b) 0 with h | h
  · rw [decide_eq_false h]
    by_cases ha : m % a = 0
    · by_cases hb : m % b = 0
      · exact absurd (Nat.mod_eq_zero_of_dvd (Nat.lcm_dvd (Nat.dvd_of_mod_eq_zero ha) (Nat.dvd_of_mod_eq_zero hb))) h
      · rw [decide_eq_false hb, Bool.and_false]
    · rw [decide_eq_false ha, Bool.false_and]
  · have hd := Nat.dvd_of_mod_eq_zero h
    rw [decide_eq_true h, decide_eq_true (Nat.mod_eq_zero_of_dvd (Nat.dvd_trans (Nat.dvd_lcm_left a b) hd)), decide_eq_true (Nat.mod_eq_zero_of_dvd (Nat.dvd_trans (Nat.dvd_lcm_right a b) hd))]
    rfl
theorem nv_filter {l : List Nat} {p : Nat → Bool} : (l.filter p).map (fun n : Nat => V.int n) = iv (zs (l.filter p)) := (iv_zs _).symm
theorem zs_empty {l : List Nat} : (zs l).isEmpty = l.isEmpty := by cases l <;> rfl
abbrev N_law_shows : List Str := ["_law_one", "_law_other", "_law_paper", "_law_due", "_law_m", "_law_rests", "_law_singles", "_law_rest", "_law_p"]
theorem sc_law_shows : FnScope N_law_shows ["_law_one", "_law_other", "_law_paper"] (defScope s_law_shows) := ⟨rfl, rfl, rfl, by decide +kernel, rfl, by decide +kernel, by decide +kernel⟩
def sp_law_shows (K : PySem.W.Frag) : Sp := mkSp (α := (V × PS) × (V × PS) × (V × Paper)) (fun a => [a.1.1, a.2.1.1, a.2.2.1]) (fun a H => okP K a.1.1 a.1.2 H ∧ okP K a.2.1.1 a.2.1.2 H ∧ okW a.2.2.1 a.2.2.2 H ∧ PapOk a.2.2.2 ∧ ∃ D Ss, EnvOk D Ss ∧ Good D Ss a.1.2 ∧ Good D Ss a.2.1.2) (fun a => isV (.bl (isPaperN a.1.2 a.2.1.2 a.2.2.2)))
theorem ok_law_shows (T : Tx K mg base) : Cal P w K mg base 4 "_law_shows" (sp_law_shows K) := by
  refine cal_of T.f_law_shows T.g_law_shows sc_law_shows (fun _ _ _ _ _ _ us hl => match us, hl with | [_, _, _], _ => rfl) (len_sp fun _ => rfl) any_sp ?_
  rintro f cdv A outer s H vs Q E hr ⟨⟨⟨v1, A1⟩, ⟨v2, A2⟩, ⟨v3, pp⟩⟩, rfl, ⟨o1, o2, o3, hp, genv⟩, gk⟩
  have hp : PapOk pp := hp
  have h1 : okP K v1 A1 H := o1
  have h2 : okP K v2 A2 H := o2
  have h3 : okW v3 pp H := o3
  have henv : ∃ D Ss, EnvOk D Ss ∧ Good D Ss A1 ∧ Good D Ss A2 := genv
  have k : Gives (isV (.bl (isPaperN A1 A2 pp))) H Q := gk
  obtain ⟨D, Ss, EO, G1, G2⟩ := henv
  obtain ⟨m, pr, ps⟩ := pp
  obtain ⟨w3, ra, sa, rfl, hw3, hra, hsa⟩ := h3
  have m0 : 0 < m := hp.pos
  have hra : H ra = some (.lst (iv pr)) := hra
  have hsa : H sa = some (.lst (iv ps)) := hsa
  have l1 := G1.slen EO
  have l2 := G2.slen EO
  have p1 : ∀ p ∈ A1.singles, 0 < p := fun p h => (G1.sless EO p h).1
  have p2 : ∀ p ∈ A2.singles, 0 < p := fun p h => (G2.sless EO p h).1
  have a10 := G1.pos
  have a20 := G2.pos
  refine ⟨_, pss_cons (ps_asg (pv 2) (pg_tup (by rfl) (pgs_cons (pg_name (i := 4) sc_law_shows.nd rfl (Or.inl rfl)) (pgs_cons (pg_name (i := 5) sc_law_shows.nd rfl (Or.inr rfl)) (pgs_cons (pg_name (i := 6) sc_law_shows.nd rfl (Or.inr rfl)) pgs_nil)))))
      (pss_cons (ps_if (PW.pt (pw_or (pt_cmpR op_gt (pv 4) pe_int (nomark _)) (pw_or (pt_cmpR op_ne (pe_op op_mod (pv 4) (pe_fldk K rfl (pv 0) rfl)) pe_int (nomark _)) (pw_or1 (pt_cmpR op_ne (pe_op op_mod (pv 4) (pe_fldk K rfl (pv 1) rfl)) pe_int (nomark _)))))) (pss_one (ps_ret pe_bl)) (pss_nil))
      (pss_cons (ps_set (i := 3) sc_law_shows.nd rfl (Or.inl rfl) (pe_c (ok_law_made (K := K) T) hr (by decide) (by rfl) (pa_cons (pv 0) (pa_cons (pv 1) (pa_cons (pv 4) pa_nil)))))
      (pss_cons (ps_if (PW.pt (pw_or (pt_cmpR (op_neD hr.units) (pe_lc (own := [("_law_rest", 7)]) (g := gName 7) (by rfl) sc_law_shows.nd (pi_list (pe_ix (ix_listk K rfl) (pv 3) pe_int (fun _ _ => rfl))) (blkOk_by (own := [("_law_rest", 7)]) (N := N_law_shows) (sc := defScope s_law_shows) (by decide +kernel)) (fun _ _ _ _ _ => pg_name (i := 7) sc_law_shows.nd rfl (Or.inl rfl)) (fun _ _ _ _ _ => pts_one (pt_cmpR (op_notInCk K rfl (hu_of hr)) (pv 7) (pv 5) (by rfl))) (fun _ _ _ _ _ => pv 7)) (pe_lst pa_nil) (nomark _)) (pw_or1 (pt_cmpR (op_neD hr.units) (pe_lc (own := [("_law_p", 8)]) (g := gName 8) (by rfl) sc_law_shows.nd (pi_list (pe_ix (ix_listk K rfl) (pv 3) pe_int (fun _ _ => rfl))) (blkOk_by (own := [("_law_p", 8)]) (N := N_law_shows) (sc := defScope s_law_shows) (by decide +kernel)) (fun _ _ _ _ _ => pg_name (i := 8) sc_law_shows.nd rfl (Or.inl rfl)) (fun _ _ _ _ _ => pts_one (pt_cmpR (op_notInCk K rfl (hu_of hr)) (pv 8) (pv 6) (by rfl))) (fun _ _ _ _ _ => pv 8)) (pe_lst pa_nil) (nomark _))))) (pss_one (ps_ret pe_bl)) (pss_nil))
      (pss_cons (ps_if (pt_cmpR (op_neD hr.units) (pe_lc (own := [("_law_rest", 7)]) (g := gName 7) (by rfl) sc_law_shows.nd (pi_list (pv 5)) (blkOk_by (own := [("_law_rest", 7)]) (N := N_law_shows) (sc := defScope s_law_shows) (by decide +kernel)) (fun _ _ _ _ _ => pg_name (i := 7) sc_law_shows.nd rfl (Or.inl rfl)) (fun _ _ _ _ _ => pts_one (pt_cmpR (op_notInCk K rfl (hu_of hr)) (pe_op op_mod (pe_callTy c_int (by rfl) T.b_int (by decide +kernel) (pa_cons (pv 7) pa_nil)) (pe_fldk K rfl (pv 1) rfl)) (pe_fldk K rfl (pv 1) rfl) (by rfl))) (fun _ _ _ _ _ => pv 7)) (pe_lst pa_nil) (nomark _)) (pss_one (ps_ret pe_bl)) (pss_nil))
      (pss_one (ps_ret (pe_cmpR (op_eqD hr.units) (pe_lc (own := [("_law_p", 8)]) (g := gName 8) (by rfl) sc_law_shows.nd (pi_list (pv 6)) (blkOk_by (own := [("_law_p", 8)]) (N := N_law_shows) (sc := defScope s_law_shows) (by decide +kernel)) (fun _ _ _ _ _ => pg_name (i := 8) sc_law_shows.nd rfl (Or.inl rfl)) (fun _ _ _ _ _ => pts_one (PW.pt (pw_or (pt_not (pt_val (pe_c (ok_law_is_prime (K := K) T) hr (by decide) (by rfl) (pa_cons (pv 8) pa_nil)))) (pw_or1 (pt_cmpR (op_ownNotIn (ok_primes_contains (K := K) T) hr (by decide)) (pv 8) (pv 1) (by rfl)))))) (fun _ _ _ _ _ => pv 8)) (pe_lst pa_nil) (nomark _)))))))), ?_⟩
  refine ⟨.ref w3, rfl, w3, _, rfl, SqT.of hw3, rfl, _, _, rfl, _, _, rfl, _, _, rfl, rfl, ?_⟩
  dsimp only
  have unfoldN : isPaperN A1 A2 (m, pr, ps) = if (decide (4000 < m) || (!decide (m % A1.m = 0) || !decide (m % A2.m = 0))) = true then false
      else if (!(madeR A1 m).all (fun x => decide ((x : Int) ∈ pr)) || !(madeS A1 A2 m).all (fun x => decide ((x : Int) ∈ ps))) = true then false
      else if (!pr.all fun x => inI x A2) = true then false
      else ps.all fun x => memI x A2 := by
    unfold isPaperN
    dsimp only
    rw [lcm_test, Bool.not_and]
    unfold madeR madeS
    generalize (decide (4000 < m) || (!decide (m % A1.m = 0) || !decide (m % A2.m = 0))) = c1
    generalize (((unitsN m).filter fun r => inR r A1).all fun x => decide ((x : Int) ∈ pr)) = c2
    generalize (((sortU (oddDivN m ++ A1.singles ++ A2.singles)).filter fun q => memP q A1).all fun x => decide ((x : Int) ∈ ps)) = c3
    cases c1 <;> cases c2 <;> cases c3 <;> rfl
  rw [unfoldN] at k
  have bigm : decide ((4000 : Int) < ((m : Nat) : Int)) = decide (4000 < m) := decide_eq_decide.mpr (by omega)
  refine q_when (b := decide (4000 < m) || (!decide (m % A1.m = 0) || !decide (m % A2.m = 0))) (et_or (et_is (et_test (ev_op (ev_var rfl) ev_c rv_I0)) bigm) fun _ => et_or (et_is (et_test (ev_op (ev_op (ev_var rfl) (ev_pm T (ev_var rfl) h1) (rv_I (cmod a10))) ev_c (rv_ne rfl))) (congrArg not (dec_mod0 m _))) fun _ => et_is (et_test (ev_op (ev_op (ev_var rfl) (ev_pm T (ev_var rfl) h2) (rv_I (cmod a20))) ev_c (rv_ne rfl))) (congrArg not (dec_mod0 m _))) (fun c H1 e1 => ?_) (fun c H1 e1 => ?_)
  · rw [if_pos c] at k
    exact s_ret ev_c fun H4 e4 => gives_v k (e1.trans e4)
  rw [c, if_neg Bool.false_ne_true] at k
  have mb : m ≤ 4000 := by
    rw [Bool.or_eq_false_iff] at c
    have := of_decide_eq_false c.1
    omega
  have h11 := h1.ex e1
  have h21 := h2.ex e1
  refine q_asgP (i := 3) (ev_cal (ea_cons (ev_var rfl) (ea_cons (ev_var rfl) (ea_cons (ev_var rfl) ea_nil))) (sp_mk' ((v1, A1), (v2, A2), m) rfl fun H3 e3 => ⟨h11.ex e3, h21.ex e3, ⟨m0, by show m ≤ 40000; omega⟩, ⟨l1, l2⟩, a10, p1, p2⟩)) fun H2 v H3 e2 e3 ⟨b, dr, ds, ev, hb, hdr, hds⟩ => ?_
  subst ev
  have e03 := e1.trans (e2.trans e3)
  have h13 := h11.ex (e2.trans e3)
  have h23 := h21.ex (e2.trans e3)
  have hra3 := e03 _ _ hra
  have hsa3 := e03 _ _ hsa
  refine q_when (b := !(madeR A1 m).all (fun x => decide ((x : Int) ∈ pr)) || !(madeS A1 A2 m).all (fun x => decide ((x : Int) ∈ ps))) (et_or (et_is (et_test (ev_neNil (l := zs ((madeR A1 m).filter fun x => !decide ((x : Int) ∈ pr))) ?_)) ?_) fun _ => et_is (et_test (ev_neNil (l := zs ((madeS A1 A2 m).filter fun x => !decide ((x : Int) ∈ ps))) ?_)) ?_) (fun c H4 e4 => ?_) (fun c H4 e4 => ?_)
  · rw [← nv_filter]
    refine el_lcV (l := madeR A1 m) (ok := okv fun n : Nat => V.int n) (w := fun n : Nat => V.int n) _ (fun _ x => [some v1, some v2, some (.ref w3), some (.ref b), some (.int (m : Nat)), some (.ref ra), some (.ref sa), some (.int (x : Nat)), none]) (eis_l mono_okv (ev_set0 (ev_var rfl) hb) (SqL.of hdr) (els_okv.mpr rfl)) mono_okv ?_ ?_ (fun _ _ _ _ _ => rfl) ?_ (fun x _ _ v H1 _ _ => ev_var rfl)
    · have h1 := List.length_filter_le (fun r => inR r A1) (unitsN m)
      have h2 := unitsN_len m
      show ((unitsN m).filter fun r => inR r A1).length ≤ _
      omega
    · rintro x - v H1 - rfl R hR
      exact hR H1 (Ex.refl H1)
    · intro x _ u H5 e5 hu
      obtain rfl : u = V.int (x : Nat) := hu
      exact et_test (ev_op (ev_var rfl) (ev_var rfl) (rv_notInC (IntC.lst (e5 _ _ hra3))))
  · rw [zs_empty, empty_filter]
  · rw [← nv_filter]
    refine el_lcV (l := madeS A1 A2 m) (ok := okv fun n : Nat => V.int n) (w := fun n : Nat => V.int n) _ (fun _ x => [some v1, some v2, some (.ref w3), some (.ref b), some (.int (m : Nat)), some (.ref ra), some (.ref sa), none, some (.int (x : Nat))]) (eis_l mono_okv (ev_set1 (ev_var rfl) hb) (SqL.of hds) (els_okv.mpr rfl)) mono_okv ?_ ?_ (fun _ _ _ _ _ => rfl) ?_ (fun x _ _ v H1 _ _ => ev_var rfl)
    · have h1 := List.length_filter_le (fun p => memP p A1) (sortU (oddDivN m ++ A1.singles ++ A2.singles))
      have h2 := sortU_len (oddDivN m ++ A1.singles ++ A2.singles)
      rw [List.length_append, List.length_append] at h2
      have h3 := oddDivN_len m0 (by omega)
      show ((sortU (oddDivN m ++ A1.singles ++ A2.singles)).filter fun p => memP p A1).length ≤ _
      omega
    · rintro x - v H1 - rfl R hR
      exact hR H1 (Ex.refl H1)
    · intro x _ u H5 e5 hu
      obtain rfl : u = V.int (x : Nat) := hu
      exact et_test (ev_op (ev_var rfl) (ev_var rfl) (rv_notInC (IntC.lst (e5 _ _ hsa3))))
  · rw [zs_empty, empty_filter]
  · rw [if_pos c] at k
    exact s_ret ev_c fun H5 e5 => gives_v k (e03.trans (e4.trans e5))
  rw [c, if_neg Bool.false_ne_true] at k
  have e04 := e03.trans e4
  have h24 := h23.ex e4
  refine q_when (b := !pr.all fun x => inI x A2) (et_is (et_test (ev_neNil (l := pr.filter fun x => !inI x A2) ?_)) ?_) (fun c H5 e5 => ?_) (fun c H5 e5 => ?_)
  · refine el_lcV (l := pr) (ok := okv fun n : Int => V.int n) (w := fun n : Int => V.int n) (fun x => !inI x A2) (fun _ x => [some v1, some v2, some (.ref w3), some (.ref b), some (.int (m : Nat)), some (.ref ra), some (.ref sa), some (.int x), none]) (eis_l mono_okv (ev_var rfl) (SqL.of (e04 _ _ hra)) (els_okv.mpr rfl)) mono_okv hp.r ?_ (fun _ _ _ _ _ => rfl) ?_ (fun x _ _ v H1 _ _ => ev_var rfl)
    · rintro x - v H1 - rfl R hR
      exact hR H1 (Ex.refl H1)
    · intro x _ u H7 e7 hu
      obtain rfl : u = V.int x := hu
      obtain ⟨r1, hr1, er1⟩ := ev_pr (ta := tVar 1) (σ := [some v1, some v2, some (.ref w3), some (.ref b), some (.int (m : Nat)), some (.ref ra), some (.ref sa), some (.int x), none]) T (ev_var rfl) (h24.ex e7)
      exact et_test (ev_op (ev_op (ev_cb (ea_cons (ev_var rfl) ea_nil) rc_int) (ev_pm T (ev_var rfl) (h24.ex e7)) (rv_I (cmod a20))) er1 (rv_notInC (IntC.tupN hr1)))
  · rw [empty_filter]
  · rw [if_pos c] at k
    exact s_ret ev_c fun H6 e6 => gives_v k (e04.trans (e5.trans e6))
  rw [c, if_neg Bool.false_ne_true] at k
  have e05 := e04.trans e5
  have h25 := h24.ex e5
  obtain ⟨a2, rfl, ia2⟩ := InsAt.of h25
  have el : (ps.all fun x => memI x A2) = (ps.filter fun x => !memI x A2).isEmpty := empty_filter.symm
  rw [el] at k
  refine s_retP (ev_p (ev_eqNil (l := ps.filter fun x => !memI x A2) ?_)) (k.mono e05)
  refine el_lcV (l := ps) (ok := okv fun n : Int => V.int n) (w := fun n : Int => V.int n) (fun x => !memI x A2) (fun _ x => [some v1, some (.ref a2), some (.ref w3), some (.ref b), some (.int (m : Nat)), some (.ref ra), some (.ref sa), none, some (.int x)]) (eis_l mono_okv (ev_var rfl) (SqL.of (e05 _ _ hsa)) (els_okv.mpr rfl)) mono_okv hp.s ?_ (fun _ _ _ _ _ => rfl) ?_ (fun x _ _ v H1 _ _ => ev_var rfl)
  · rintro x - v H1 - rfl R hR
    exact hR H1 (Ex.refl H1)
  · intro x hx u H7 e7 hu
    obtain rfl : u = V.int x := hu
    have em : (!memI x A2) = (!oddPrimeI x || !memP x.toNat A2) := by
      unfold memI oddPrimeI
      cases decide (2 < x) <;> cases primeI x <;> cases memP x.toNat A2 <;> rfl
    rw [em]
    refine et_or (et_not (et_test (p_ev (ev_cal (ea_cons (ev_var rfl) ea_nil) (sp_mk' x rfl fun _ _ => hp.lt x hx))))) fun c => ?_
    have hx0 : 0 < x := by
      have : oddPrimeI x = true := by cases h : oddPrimeI x <;> rw [h] at c <;> first | rfl | cases c
      unfold oddPrimeI at this
      rw [Bool.and_eq_true, decide_eq_true_iff] at this
      omega
    have hxn : x = ((x.toNat : Nat) : Int) := by omega
    have := et_test (ev_in (neg := true) (σ := [some v1, some (.ref a2), some (.ref w3), some (.ref b), some (.int (m : Nat)), some (.ref ra), some (.ref sa), none, some (.int x)]) (H := H7) (ti := tVar 8) (te := tVar 1) (q := x.toNat) (ev_eqI (ev_var rfl) hxn) (ev_var rfl) (h25.ex e7) a20 (by omega))
    exact this
end
end EP
end

section
set_option Elab.async false
set_option linter.all false
set_option maxRecDepth 100000
set_option maxHeartbeats 4000000
/-! F7: changed. -/
namespace EP
open PySem PySem.Spec PyProof.Rows L2 Evl
section
variable {P : Program} {w : World} {K : PySem.W.Frag} {mg : Str → Option Value} {base : Heap}
def cutI {α : Type} (l : List α) (lo hi : Option Int) : List α := (l.drop (HT.sIx l.length 0 lo)).take (HT.sIx l.length l.length hi - HT.sIx l.length 0 lo)
theorem cut_map {α : Type} (f : α → V) (l : List α) (lo hi : Option Int) : cutV (l.map f) lo hi = (cutI l lo hi).map f := by
  unfold cutV cutI
  rw [List.length_map, ← List.map_drop, ← List.map_take]
theorem cutI_sub {α : Type} {l : List α} {lo hi : Option Int} : ∀ x ∈ cutI l lo hi, x ∈ l := fun x hx => List.mem_of_mem_drop (List.mem_of_mem_take hx)
theorem cutI_len {α : Type} {l : List α} {lo hi : Option Int} : (cutI l lo hi).length ≤ l.length := by
  unfold cutI
  rw [List.length_take, List.length_drop]
  omega
theorem el_cut {σ : L2.St} {H : Hp} {te : TE} {tl th : TO} {a : Addr} {l : List Int} {lo hi : Option Int} (h : Ev te σ H (.ref a)) (h1 : EvO tl σ H lo) (h2 : EvO th σ H hi) (hs : H a = some (.lst (iv l))) : EvL (tSl (rSlL K) te tl th) σ H (iv (cutI l lo hi)) := by
  have := el_sl (K := K) h h1 h2 (SqL.of hs)
  rw [cut_map] at this
  exact this
theorem el_catI {σ : L2.St} {H : Hp} {ta tb : TE} {xs ys : List Int} (h1 : EvL ta σ H (iv xs)) (h2 : EvL tb σ H (iv ys)) (hz : xs.length + ys.length ≤ 100000) : EvL (tOp rCat ta tb) σ H (iv (xs ++ ys)) := by
  have := el_cat h1 h2 (by rw [List.length_map, List.length_map]; exact hz)
  rw [← List.map_append] at this
  exact this
theorem el_ofI {σ : L2.St} {H : Hp} {ta tb : TE} {a : Addr} {xs ys : List Int} (h : Ev ta σ H (.ref a)) (ha : H a = some (.lst (iv xs))) (h2 : EvL tb σ H (iv ys)) (hz : xs.length + ys.length ≤ 100000) : EvL (tOp rCat ta tb) σ H (iv (xs ++ ys)) := by
  have := el_of h ha h2 (by rw [List.length_map, List.length_map]; exact hz)
  rw [← List.map_append] at this
  exact this
theorem el_rev {σ : L2.St} {H : Hp} {te : TE} {a : Addr} {xs : List Int} (h : Ev te σ H (.ref a)) (ha : H a = some (.lst (iv xs))) : EvL (tRevL K te) σ H (iv xs.reverse) := fun H1 e Q q =>
  h H1 e _ fun H2 e2 => ⟨a, iv xs, rfl, SqL.of ((e.trans e2) _ _ ha), fun p hp => q p _ (fresh_back e2 hp) (e2.trans (Ex.new hp)) (upd_same.trans (by simp [iv]))⟩
def isIL (l : List Int) : VP := fun _ v H => ∃ a : Addr, v = .ref a ∧ H a = some (.lst (iv l))
theorem il_l {σ : L2.St} {H : Hp} {te : TE} {l : List Int} (h : EvL te σ H (iv l)) : EvP te σ H (isIL l) := (el_p h).imp fun _ v H1 _ _ ⟨a, ev, _, ha⟩ => ⟨a, ev, ha⟩
theorem il_a {σ : L2.St} {H : Hp} {te : TE} {l : List Int} {a : Addr} (h : Ev te σ H (.ref a)) (ha : H a = some (.lst (iv l))) : EvP te σ H (isIL l) := (ev_p h).imp fun H0 v H1 e0 e1 ev => ⟨a, ev, (e0.trans e1) _ _ ha⟩
/-- (m, rests, singles) -/
theorem ev_pap {σ : L2.St} {H : Hp} {tm tr ts : TE} {m : Nat} {pr ps : List Int} (hm : Ev tm σ H (.int (m : Nat))) (hr : EvP tr σ H (isIL pr)) (hs : ∀ H1, Ex H H1 → EvP ts σ H1 (isIL ps)) : EvP (tTup (tCons tm (tCons tr (tCons ts tNil)))) σ H (fun _ v H1 => okW v (m, pr, ps) H1) :=
  (ep_tup (PA := fun us H => ∃ r s : Addr, us = [.int (m : Nat), .ref r, .ref s] ∧ H r = some (.lst (iv pr)) ∧ H s = some (.lst (iv ps))) (eap_consV hm (eap_cons hr fun H0 v H1 e0 e1 ⟨a, ev, ha⟩ => eap_cons (hs H1 (e0.trans e1)) fun H2 v2 H3 e2 e3 ⟨b, ev2, hb⟩ => eap_nil fun H4 e4 => ⟨a, b, by rw [ev, ev2], (e2.trans (e3.trans e4)) _ _ ha, e4 _ _ hb⟩))
    (fun us H H' e ⟨r, s, h1, h2, h3⟩ => ⟨r, s, h1, e _ _ h2, e _ _ h3⟩) fun us H1 ⟨r, s, h1, _⟩ => by rw [h1]; simp).imp fun H0 v H1 _ _ ⟨a, us, ev, _, ha, r, s, eu, h2, h3⟩ => ⟨a, r, s, ev, by rw [ha, eu], h2, h3⟩
/-- what a change gives -/
def isPap (m d0 : Nat) : VP := fun _ v H => ∃ p : Paper, okW v p H ∧ PapOk p ∧ (d0 = 0 → p.1 ≤ 4 * m + 4000 ∧ p.2.1.length ≤ 4 * m + 4000 ∧ p.2.2.length ≤ 100)
structure PapIn (p : Paper) : Prop where
  pos : 0 < p.1
  le : p.1 ≤ 9000
  r : p.2.1.length ≤ 19000
  s : p.2.2.length ≤ 19000
  lt : ∀ x ∈ p.2.2, x < 2 ^ 30
theorem PapIn.ok {p : Paper} (h : PapIn p) : PapOk p := ⟨h.pos, by have := h.r; omega, by have := h.s; omega, h.lt⟩
theorem made_ok {A B : PS} {m D : Nat} {Ss : List Nat} (m0 : 0 < m) (mb : m ≤ 40000) (E : EnvOk D Ss) (g1 : Good D Ss A) (g2 : Good D Ss B) : PapOk (natW (m, madeR A m, madeS A B m)) ∧ (madeR A m).length ≤ m ∧ (madeS A B m).length ≤ 100 := by
  have h1 := List.length_filter_le (fun r => inR r A) (unitsN m)
  have h2 := unitsN_len m
  have h3 := List.length_filter_le (fun p => memP p A) (sortU (oddDivN m ++ A.singles ++ B.singles))
  have h4 := sortU_len (oddDivN m ++ A.singles ++ B.singles)
  rw [List.length_append, List.length_append] at h4
  have h5 := oddDivN_len m0 (by omega)
  have h6 := g1.slen E
  have h7 := g2.slen E
  have r : (madeR A m).length ≤ m := by unfold madeR; omega
  have s : (madeS A B m).length ≤ 100 := by unfold madeS; omega
  refine ⟨⟨m0, ?_, ?_, fun x hx => ?_⟩, r, s⟩
  · show (zs (madeR A m)).length ≤ 40000
    unfold zs
    rw [List.length_map]
    omega
  · show (zs (madeS A B m)).length ≤ 40000
    unfold zs
    rw [List.length_map]
    omega
  · obtain ⟨n, hn, rfl⟩ := zs_mem.mp hx
    have hn' := sortU_mem.mp (List.mem_filter.mp hn).1
    rcases List.mem_append.mp hn' with h | h
    · rcases List.mem_append.mp h with h | h
      · have := Nat.le_of_dvd m0 ((oddDivN_mem m0).mp h).2.2
        omega
      · have := (g1.sless E n h).2
        omega
    · have := (g2.sless E n h).2
      omega
abbrev N_law_changed : List Str := ["_law_drawn", "_law_one", "_law_other", "_law_paper", "_law_m", "_law_rests", "_law_singles", "_law_wide", "_law_made_here", "_law_place"]
theorem sc_law_changed : FnScope N_law_changed ["_law_drawn", "_law_one", "_law_other", "_law_paper"] (defScope s_law_changed) := ⟨rfl, rfl, rfl, by decide +kernel, rfl, by decide +kernel, by decide +kernel⟩
def sp_law_changed (K : PySem.W.Frag) : Sp := mkSp (α := (Addr × Nat × Nat) × (V × PS) × (V × PS) × (V × Paper)) (fun a => [.ref a.1.1, a.2.1.1, a.2.2.1.1, a.2.2.2.1]) (fun a H => H a.1.1 = some (.lst (nv [a.1.2.1, a.1.2.2])) ∧ okP K a.2.1.1 a.2.1.2 H ∧ okP K a.2.2.1.1 a.2.2.1.2 H ∧ okW a.2.2.2.1 a.2.2.2.2 H ∧ PapIn a.2.2.2.2 ∧ ∃ D Ss, EnvOk D Ss ∧ Good D Ss a.2.1.2 ∧ Good D Ss a.2.2.1.2) (fun a => isPap a.2.2.2.2.1 a.1.2.1)
theorem ok_law_changed (T : Tx K mg base) : Cal P w K mg base 4 "_law_changed" (sp_law_changed K) := by
  refine cal_of T.f_law_changed T.g_law_changed sc_law_changed (fun _ _ _ _ _ _ us hl => match us, hl with | [_, _, _, _], _ => rfl) (len_sp fun _ => rfl) any_sp ?_
  rintro f cdv A outer s H vs Q E hr ⟨⟨⟨da, d0, d1⟩, ⟨v1, A1⟩, ⟨v2, A2⟩, ⟨v3, pp⟩⟩, rfl, ⟨gd, o1, o2, o3, gp, genv⟩, gk⟩
  have hp : PapIn pp := gp
  have hd : H da = some (.lst (nv [d0, d1])) := gd
  have h1 : okP K v1 A1 H := o1
  have h2 : okP K v2 A2 H := o2
  have h3 : okW v3 pp H := o3
  have henv : ∃ D Ss, EnvOk D Ss ∧ Good D Ss A1 ∧ Good D Ss A2 := genv
  have k : Gives (isPap pp.1 d0) H Q := gk
  obtain ⟨D, Ss, EO, G1, G2⟩ := henv
  obtain ⟨m, pr, ps⟩ := pp
  obtain ⟨w3, ra, sa, rfl, hw3, hra, hsa⟩ := h3
  have m0 : 0 < m := hp.pos
  have mb : m ≤ 9000 := hp.le
  have rb : pr.length ≤ 19000 := hp.r
  have sb : ps.length ≤ 19000 := hp.s
  have lt : ∀ x ∈ ps, x < 2 ^ 30 := hp.lt
  have hra : H ra = some (.lst (iv pr)) := hra
  have hsa : H sa = some (.lst (iv ps)) := hsa
  have l1 := G1.slen EO
  have l2 := G2.slen EO
  have p1 : ∀ p ∈ A1.singles, 0 < p := fun p h => (G1.sless EO p h).1
  have p2 : ∀ p ∈ A2.singles, 0 < p := fun p h => (G2.sless EO p h).1
  have a10 := G1.pos
  have k : Gives (isPap m d0) H Q := k
  refine ⟨_, pss_cons (ps_asg (pv 3) (pg_tup (by rfl) (pgs_cons (pg_name (i := 4) sc_law_changed.nd rfl (Or.inl rfl)) (pgs_cons (pg_name (i := 5) sc_law_changed.nd rfl (Or.inl rfl)) (pgs_cons (pg_name (i := 6) sc_law_changed.nd rfl (Or.inl rfl)) pgs_nil)))))
      (pss_cons (ps_if (pt_cmpR op_eq (pe_ix (ix_listk K rfl) (pv 0) pe_int (fun _ _ => rfl)) pe_int (nomark _)) (pss_cons (ps_set (i := 7) sc_law_changed.nd rfl (Or.inl rfl) (pe_op op_mul (pv 4) (pe_op op_add pe_int (pe_op op_mod (pe_ix (ix_listk K rfl) (pv 0) pe_int (fun _ _ => rfl)) pe_int))))
        (pss_cut (ps_if (pt_cmpR op_eq (pe_op op_mod (pe_ix (ix_listk K rfl) (pv 0) pe_int (fun _ _ => rfl)) pe_int) pe_int (nomark _)) (pss_one (ps_set (i := 7) sc_law_changed.nd rfl (Or.inl rfl) (pe_op op_mul (pv 4) (pe_op op_add (pe_op op_fdiv pe_int (pv 4)) pe_int)))) (pss_nil))
        (pss_cut (ps_if (PW.pt (pw_and (pt_cmpR op_eq (pe_op op_mod (pe_ix (ix_listk K rfl) (pv 0) pe_int (fun _ _ => rfl)) pe_int) pe_int (nomark _)) (pw_and1 (pt_cmpR op_le (pv 4) pe_int (nomark _))))) (pss_one (ps_set (i := 7) sc_law_changed.nd rfl (Or.inl rfl) (pe_op op_mul (pv 4) (pe_op op_fdiv pe_int (pv 4))))) (pss_nil))
        (pss_cons (ps_set (i := 8) sc_law_changed.nd rfl (Or.inl rfl) (pe_c (ok_law_made (K := K) T) hr (by decide) (by rfl) (pa_cons (pv 1) (pa_cons (pv 2) (pa_cons (pv 7) pa_nil)))))
        (pss_one (ps_ret (pe_tup (pa_cons (pv 7) (pa_cons (pe_ix (ix_listk K rfl) (pv 8) pe_int (fun _ _ => rfl)) (pa_cons (pe_ix (ix_listk K rfl) (pv 8) pe_int (fun _ _ => rfl)) pa_nil)))))))))) (pss_nil))
      (pss_cons (ps_if (PW.pt (pw_and (pt_cmpR op_eq (pe_ix (ix_listk K rfl) (pv 0) pe_int (fun _ _ => rfl)) pe_int (nomark _)) (pw_and1 (pt_cmpR (op_neD hr.units) (pv 5) (pe_lst pa_nil) (nomark _))))) (pss_cons (ps_set (i := 9) sc_law_changed.nd rfl (Or.inl rfl) (pe_op op_mod (pe_ix (ix_listk K rfl) (pv 0) pe_int (fun _ _ => rfl)) (pe_callB c_len (by rfl) T.b_len (by decide +kernel) (pa_cons (pv 5) pa_nil))))
        (pss_one (ps_ret (pe_tup (pa_cons (pv 4) (pa_cons (pe_op op_cat (pe_slice sl_list (pv 5) po_none (po_some (pv 9))) (pe_slice sl_list (pv 5) (po_some (pe_op op_add (pv 9) pe_int)) po_none)) (pa_cons (pv 6) pa_nil))))))) (pss_nil))
      (pss_cons (ps_if (pt_cmpR op_eq (pe_ix (ix_listk K rfl) (pv 0) pe_int (fun _ _ => rfl)) pe_int (nomark _)) (pss_one (ps_ret (pe_tup (pa_cons (pv 4) (pa_cons (pe_op op_cat (pv 5) (pe_lst (pa_cons (pe_op op_sub (pe_ix (ix_listk K rfl) (pv 0) pe_int (fun _ _ => rfl)) pe_int) pa_nil))) (pa_cons (pv 6) pa_nil)))))) (pss_nil))
      (pss_cons (ps_if (PW.pt (pw_and (pt_cmpR op_eq (pe_ix (ix_listk K rfl) (pv 0) pe_int (fun _ _ => rfl)) pe_int (nomark _)) (pw_and1 (pt_cmpR (op_neD hr.units) (pv 6) (pe_lst pa_nil) (nomark _))))) (pss_cons (ps_set (i := 9) sc_law_changed.nd rfl (Or.inl rfl) (pe_op op_mod (pe_ix (ix_listk K rfl) (pv 0) pe_int (fun _ _ => rfl)) (pe_callB c_len (by rfl) T.b_len (by decide +kernel) (pa_cons (pv 6) pa_nil))))
        (pss_one (ps_ret (pe_tup (pa_cons (pv 4) (pa_cons (pv 5) (pa_cons (pe_op op_cat (pe_slice sl_list (pv 6) po_none (po_some (pv 9))) (pe_slice sl_list (pv 6) (po_some (pe_op op_add (pv 9) pe_int)) po_none)) pa_nil))))))) (pss_nil))
      (pss_cons (ps_if (pt_cmpR op_eq (pe_ix (ix_listk K rfl) (pv 0) pe_int (fun _ _ => rfl)) pe_int (nomark _)) (pss_one (ps_ret (pe_tup (pa_cons (pv 4) (pa_cons (pv 5) (pa_cons (pe_op op_cat (pv 6) (pe_lst (pa_cons (pe_ix (ix_listk K rfl) (pe_lst (pa_cons pe_int (pa_cons pe_int (pa_cons pe_int (pa_cons pe_int (pa_cons pe_int (pa_cons pe_int (pa_cons pe_int (pa_cons (pe_un un_neg pe_int) pa_nil))))))))) (pe_op op_mod (pe_ix (ix_listk K rfl) (pv 0) pe_int (fun _ _ => rfl)) pe_int) (fun _ _ => rfl)) pa_nil))) pa_nil)))))) (pss_nil))
      (pss_cons (ps_if (pt_cmpR op_eq (pe_ix (ix_listk K rfl) (pv 0) pe_int (fun _ _ => rfl)) pe_int (nomark _)) (pss_one (ps_ret (pe_tup (pa_cons (pe_callB (c_max rfl) (by rfl) T.b_max (by decide +kernel) (pa_cons pe_int (pa_cons (pe_op op_fdiv (pv 4) pe_int) pa_nil))) (pa_cons (pv 5) (pa_cons (pv 6) pa_nil)))))) (pss_nil))
      (pss_cons (ps_if (PW.pt (pw_and (pt_cmpR op_eq (pe_ix (ix_listk K rfl) (pv 0) pe_int (fun _ _ => rfl)) pe_int (nomark _)) (pw_and1 (pt_cmpR (op_neD hr.units) (pv 5) (pe_lst pa_nil) (nomark _))))) (pss_cons (ps_set (i := 9) sc_law_changed.nd rfl (Or.inl rfl) (pe_op op_mod (pe_ix (ix_listk K rfl) (pv 0) pe_int (fun _ _ => rfl)) (pe_callB c_len (by rfl) T.b_len (by decide +kernel) (pa_cons (pv 5) pa_nil))))
        (pss_one (ps_ret (pe_tup (pa_cons (pv 4) (pa_cons (pe_op op_cat (pe_op op_cat (pe_slice sl_list (pv 5) po_none (po_some (pv 9))) (pe_lst (pa_cons (pe_op op_add (pe_ix (ix_listk K rfl) (pv 5) (pv 9) (fun _ _ => rfl)) (pv 4)) pa_nil))) (pe_slice sl_list (pv 5) (po_some (pe_op op_add (pv 9) pe_int)) po_none)) (pa_cons (pv 6) pa_nil))))))) (pss_nil))
      (pss_cons (ps_if (PW.pt (pw_and (pt_cmpR op_eq (pe_ix (ix_listk K rfl) (pv 0) pe_int (fun _ _ => rfl)) pe_int (nomark _)) (pw_and1 (pt_cmpR (op_neD hr.units) (pv 6) (pe_lst pa_nil) (nomark _))))) (pss_cons (ps_set (i := 9) sc_law_changed.nd rfl (Or.inl rfl) (pe_op op_mod (pe_ix (ix_listk K rfl) (pv 0) pe_int (fun _ _ => rfl)) (pe_callB c_len (by rfl) T.b_len (by decide +kernel) (pa_cons (pv 6) pa_nil))))
        (pss_one (ps_ret (pe_tup (pa_cons (pv 4) (pa_cons (pv 5) (pa_cons (pe_op op_cat (pe_op op_cat (pe_slice sl_list (pv 6) po_none (po_some (pv 9))) (pe_lst (pa_cons (pe_ix (ix_listk K rfl) (pe_lst (pa_cons pe_int (pa_cons pe_int (pa_cons pe_int (pa_cons pe_int pa_nil))))) (pe_op op_mod (pe_ix (ix_listk K rfl) (pv 0) pe_int (fun _ _ => rfl)) pe_int) (fun _ _ => rfl)) pa_nil))) (pe_slice sl_list (pv 6) (po_some (pe_op op_add (pv 9) pe_int)) po_none)) pa_nil))))))) (pss_nil))
      (pss_one (ps_ret (pe_tup (pa_cons (pv 4) (pa_cons (pe_revL (pv 5)) (pa_cons (pe_op op_cat (pe_revL (pv 6)) (pe_slice sl_list (pv 6) po_none (po_some pe_int))) pa_nil)))))))))))))), ?_⟩
  refine ⟨.ref w3, rfl, w3, _, rfl, SqT.of hw3, rfl, _, _, rfl, _, _, rfl, _, _, rfl, rfl, ?_⟩
  dsimp only
  have dr0 : ∀ {σ : L2.St} {H1 : Hp}, Ex H H1 → σ[0]? = some (some (.ref da)) → Ev (tOp (rIxL K) (tVar 0) (tC (.int 0))) σ H1 (.int (d0 : Nat)) := fun e hv => ev_drawn (j := 0) (ev_var hv) (e _ _ hd) rfl
  have dr1 : ∀ {σ : L2.St} {H1 : Hp}, Ex H H1 → σ[0]? = some (some (.ref da)) → Ev (tOp (rIxL K) (tVar 0) (tC (.int 1))) σ H1 (.int (d1 : Nat)) := fun e hv => ev_drawn (j := 1) (ev_var hv) (e _ _ hd) rfl
  have dm : ∀ {j : Nat} {σ : L2.St} {H1 : Hp}, 0 < j → Ex H H1 → σ[0]? = some (some (.ref da)) → Ev (tOp (rI (fun _ j => 0 < j) fun i j => V.int (i % j)) (tOp (rIxL K) (tVar 0) (tC (.int 1))) (tC (.int (j : Nat)))) σ H1 (.int ((d1 % j : Nat) : Int)) := fun hj e hv => ev_eqI (ev_op (dr1 e hv) ev_c (rv_I (cmod hj))) (emod_nat d1 _)
  have mk : ∀ {te : TE} {σ : L2.St} {H1 : Hp} {D : Ends} {p : Paper}, D.rt = Q → Ex H H1 → EvP te σ H1 (fun _ v H2 => okW v p H2) → PapOk p → (d0 = 0 → p.1 ≤ 4 * m + 4000 ∧ p.2.1.length ≤ 4 * m + 4000 ∧ p.2.2.length ≤ 100) → tRet te D σ H1 := fun {te σ H1 D p} hD e h hp hz => by
    refine s_retP (P := isPap m d0) (h.imp fun H0 v H2 _ _ hv => ⟨p, hv, hp, hz⟩) ?_
    rw [hD]
    exact k.mono e
  have pok : ∀ {m' : Nat} {r s : List Int}, 0 < m' → r.length ≤ 40000 → s.length ≤ 40000 → (∀ x ∈ s, x < 2 ^ 30) → PapOk (m', r, s) := fun a b c d => ⟨a, b, c, d⟩
  refine q_when (b := decide (d0 = 0)) (et_is (et_test (ev_op (dr0 (Ex.refl H) rfl) ev_c (rv_eq rfl))) (dec_ii d0 0)) (fun c H2 e2 => ?_) (fun c H2 e2 => ?_)
  · have c : d0 = 0 := of_decide_eq_true c
    refine q_asg (i := 7) (v := .int ((m * (1 + d1 % 4) : Nat) : Int)) (ev_eqI (ev_op (ev_var rfl) (ev_op ev_c (dm (j := 4) (by decide) e2 rfl) rv_I0) (rv_I (cm1 (by omega)))) (by rw [Int.natCast_mul, Int.natCast_add] <;> rfl)) fun H3 e3 => ?_
    have q4 : m * (1 + d1 % 4) ≤ 4 * m := by rw [Nat.mul_comm 4 m]; exact Nat.mul_le_mul_left m (by omega)
    have q40 : 0 < m * (1 + d1 % 4) := Nat.mul_pos m0 (by omega)
    have e03 := e2.trans e3
    have dv := Nat.div_mul_le_self 4000 m
    refine q_cut (M := fun σ' H' => ∃ W : Nat, σ' = [some (.ref da), some v1, some v2, some (.ref w3), some (.int (m : Nat)), some (.ref ra), some (.ref sa), some (.int (W : Nat)), none, none] ∧ Ex H H' ∧ 0 < W ∧ W ≤ 4 * m + 4000) ?_ ?_
    · refine s_when (b := decide (d1 % 8 = 7)) (et_is (et_test (ev_op (dm (j := 8) (by decide) e03 rfl) ev_c (rv_eq rfl))) (dec_ii (d1 % 8) 7)) (fun c H4 e4 => ?_) (fun c H4 e4 => ?_)
      · refine s_asg (i := 7) (v := .int ((m * (4000 / m + 1) : Nat) : Int)) (ev_eqI (ev_op (ev_var rfl) (ev_op (ev_op ev_c (ev_var rfl) (rv_I (cdiv m0 (by omega)))) ev_c rv_I0) (rv_I (cm1 (by omega)))) (by rw [Int.natCast_mul, Int.natCast_add, Int.natCast_ediv] <;> rfl)) fun H5 e5 => ?_
        refine ⟨m * (4000 / m + 1), rfl, e03.trans (e4.trans e5), Nat.mul_pos m0 (Nat.succ_pos _), ?_⟩
        rw [Nat.mul_add, Nat.mul_comm m (4000 / m)]
        omega
      · exact ⟨_, rfl, e03.trans e4, q40, by omega⟩
    rintro σ' H4 ⟨W1, rfl, e04, w10, w1b⟩
    refine q_cut (M := fun σ' H' => ∃ W : Nat, σ' = [some (.ref da), some v1, some v2, some (.ref w3), some (.int (m : Nat)), some (.ref ra), some (.ref sa), some (.int (W : Nat)), none, none] ∧ Ex H H' ∧ 0 < W ∧ W ≤ 4 * m + 4000) ?_ ?_
    · refine s_when (b := decide (d1 % 8 = 6) && decide (m ≤ 4000)) (et_and (et_is (et_test (ev_op (dm (j := 8) (by decide) e04 rfl) ev_c (rv_eq rfl))) (dec_ii (d1 % 8) 6)) fun _ => et_is (et_test (ev_op (ev_var rfl) ev_c rv_I0)) (decide_eq_decide.mpr (by omega))) (fun c H5 e5 => ?_) (fun c H5 e5 => ?_)
      · rw [Bool.and_eq_true, decide_eq_true_iff, decide_eq_true_iff] at c
        refine s_asg (i := 7) (v := .int ((m * (4000 / m) : Nat) : Int)) (ev_eqI (ev_op (ev_var rfl) (ev_op ev_c (ev_var rfl) (rv_I (cdiv m0 (by omega)))) (rv_I (cm1 (by omega)))) (by rw [Int.natCast_mul, Int.natCast_ediv] <;> rfl)) fun H6 e6 => ?_
        refine ⟨m * (4000 / m), rfl, e04.trans (e5.trans e6), Nat.mul_pos m0 (Nat.div_pos c.2 m0), ?_⟩
        rw [Nat.mul_comm m (4000 / m)]
        omega
      · exact ⟨_, rfl, e04.trans e5, w10, w1b⟩
    rintro σ' H5 ⟨W, rfl, e05, w0, wb⟩
    obtain ⟨q1, q2, q3⟩ := made_ok (A := A1) (B := A2) w0 (by omega) EO G1 G2
    refine q_asgP (i := 8) (ev_cal (ea_cons (ev_var rfl) (ea_cons (ev_var rfl) (ea_cons (ev_var rfl) ea_nil))) (sp_mk' ((v1, A1), (v2, A2), W) rfl fun H6 e6 => ⟨h1.ex (e05.trans e6), h2.ex (e05.trans e6), ⟨w0, by show W ≤ 40000; omega⟩, ⟨l1, l2⟩, a10, p1, p2⟩)) fun H6 v H7 e6 e7 ⟨b, dr, ds, ev, hb, hdr, hds⟩ => ?_
    subst ev
    rw [← iv_zs] at hdr hds
    refine mk (p := natW (W, madeR A1 W, madeS A1 A2 W)) rfl (e05.trans (e6.trans e7)) (ev_pap (ev_var rfl) (il_a (ev_set0 (ev_var rfl) hb) hdr) fun H8 e8 => il_a (ev_set1 (ev_var rfl) (e8 _ _ hb)) (e8 _ _ hds)) q1 fun _ => ⟨wb, ?_, ?_⟩
    · show (zs (madeR A1 W)).length ≤ _
      unfold zs
      rw [List.length_map]
      omega
    · show (zs (madeS A1 A2 W)).length ≤ _
      unfold zs
      rw [List.length_map]
      omega
  have d00 : d0 ≠ 0 := of_decide_eq_false c
  have no : ∀ {X : Prop}, d0 = 0 → X := fun h => absurd h d00
  have lenr : ∀ {l : List Int}, (!l.isEmpty) = true → 0 < l.length := fun {l} h => by
    cases l with
    | nil => cases h
    | cons x r => exact Nat.succ_pos _
  have plc : ∀ {l : List Int} {a : Addr} {t : TE} {σ : L2.St} {H1 : Hp}, 0 < l.length → Ex H H1 → σ[0]? = some (some (.ref da)) → Ev t σ H1 (.ref a) → H1 a = some (.lst (iv l)) → Ev (tOp (rI (fun _ j => 0 < j) fun i j => V.int (i % j)) (tOp (rIxL K) (tVar 0) (tC (.int 1))) (tCB (rLenS K) (tCons t tNil))) σ H1 (.int ((d1 % l.length : Nat) : Int)) := fun {l a t σ H1} h0 e hv ht ha => by
    refine ev_eqI (ev_op (dr1 e hv) (ev_len ht (SqL.of ha)) (rv_I ?_)) ?_
    · rw [List.length_map]
      exact cmod h0
    · rw [List.length_map]
      exact emod_nat d1 _
  have dc0 : ∀ {j : Nat} {σ : L2.St} {H1 : Hp}, Ex H H1 → σ[0]? = some (some (.ref da)) → EvT (tTest (tOp rEq (tOp (rIxL K) (tVar 0) (tC (.int 0))) (tC (.int (j : Nat))))) σ H1 (decide (d0 = j)) := fun e hv => et_is (et_test (ev_op (dr0 e hv) ev_c (rv_eq rfl))) (dec_ii d0 _)
  refine q_when (b := decide (d0 = 1) && !pr.isEmpty) (et_and (dc0 (j := 1) e2 rfl) fun _ => et_test (ev_neNilA (ev_var rfl) (e2 _ _ hra))) (fun c H3 e3 => ?_) (fun c H3 e3 => ?_)
  · rw [Bool.and_eq_true] at c
    have n0 := lenr c.2
    have e03 := e2.trans e3
    refine q_asg (i := 9) (plc n0 e03 rfl (ev_var rfl) (e03 _ _ hra)) fun H4 e4 => ?_
    have e04 := e03.trans e4
    have q1 := cutI_len (l := pr) (lo := none) (hi := some ((d1 % pr.length : Nat) : Int))
    have q2 := cutI_len (l := pr) (lo := some (((d1 % pr.length : Nat) : Int) + 1)) (hi := none)
    refine mk rfl e04 (ev_pap (ev_var rfl) (il_l (el_catI (el_cut (ev_var rfl) eo_none (eo_some (ev_var rfl)) (e04 _ _ hra)) (el_cut (ev_var rfl) (eo_some (ev_op (ev_var rfl) ev_c rv_I0)) eo_none (e04 _ _ hra)) (by omega))) fun H5 e5 => il_a (ev_var rfl) ((e04.trans e5) _ _ hsa)) (pok m0 ?_ (by omega) lt) no
    rw [List.length_append]
    omega
  have e03 := e2.trans e3
  refine q_when (b := decide (d0 = 2)) (dc0 (j := 2) e03 rfl) (fun c H4 e4 => ?_) (fun c H4 e4 => ?_)
  · have e04 := e03.trans e4
    refine mk rfl e04 (ev_pap (ev_var rfl) (il_l (el_ofI (ys := [(d1 : Int) - 20]) (ev_var rfl) (e04 _ _ hra) (el_lst (ea_cons (ev_op (dr1 e04 rfl) ev_c rv_I0) ea_nil) (by simp)) (by simp only [List.length_cons, List.length_nil]; omega))) fun H5 e5 => il_a (ev_var rfl) ((e04.trans e5) _ _ hsa)) (pok m0 ?_ (by omega) lt) no
    simp only [List.length_append, List.length_cons, List.length_nil]
    omega
  have e04 := e03.trans e4
  refine q_when (b := decide (d0 = 3) && !ps.isEmpty) (et_and (dc0 (j := 3) e04 rfl) fun _ => et_test (ev_neNilA (ev_var rfl) (e04 _ _ hsa))) (fun c H5 e5 => ?_) (fun c H5 e5 => ?_)
  · rw [Bool.and_eq_true] at c
    have n0 := lenr c.2
    have e05 := e04.trans e5
    refine q_asg (i := 9) (plc n0 e05 rfl (ev_var rfl) (e05 _ _ hsa)) fun H6 e6 => ?_
    have e06 := e05.trans e6
    have q1 := cutI_len (l := ps) (lo := none) (hi := some ((d1 % ps.length : Nat) : Int))
    have q2 := cutI_len (l := ps) (lo := some (((d1 % ps.length : Nat) : Int) + 1)) (hi := none)
    refine mk rfl e06 (ev_pap (ev_var rfl) (il_a (ev_var rfl) (e06 _ _ hra)) fun H7 e7 => il_l (el_catI (el_cut (ev_var rfl) eo_none (eo_some (ev_var rfl)) ((e06.trans e7) _ _ hsa)) (el_cut (ev_var rfl) (eo_some (ev_op (ev_var rfl) ev_c rv_I0)) eo_none ((e06.trans e7) _ _ hsa)) (by omega))) (pok m0 (by omega) ?_ ?_) no
    · rw [List.length_append]
      omega
    · intro x hx
      rcases List.mem_append.mp hx with h | h
      · exact lt x (cutI_sub x h)
      · exact lt x (cutI_sub x h)
  have e05 := e04.trans e5
  have pick : ∀ {l : List Int} {x : Int} {j : Nat} {ta tb : TE} {σ : L2.St} {H1 : Hp}, EvL ta σ H1 (iv l) → (∀ H2, Ex H1 H2 → Ev tb σ H2 (.int (j : Nat))) → l[j]? = some x → Ev (tOp (rIxL K) ta tb) σ H1 (.int x) := fun h1 h2 h3 => p_ev ((ev_pick (ok := okv fun n : Int => V.int n) (el_lsI h1) h2 mono_okv h3).imp fun _ _ _ _ _ q => q)
  refine q_when (b := decide (d0 = 4)) (dc0 (j := 4) e05 rfl) (fun c H6 e6 => ?_) (fun c H6 e6 => ?_)
  · have e06 := e05.trans e6
    obtain ⟨x, hx, hxm⟩ := getE (l := ([11, 13, 2, 9, 3, 7, 1, -3] : List Int)) (j := d1 % 8) (by show d1 % 8 < 8; omega)
    have xb : x < 2 ^ 30 := by
      have : ∀ y ∈ ([11, 13, 2, 9, 3, 7, 1, -3] : List Int), y < 2 ^ 30 := by decide
      exact this x hxm
    refine mk rfl e06 (ev_pap (ev_var rfl) (il_a (ev_var rfl) (e06 _ _ hra)) fun H7 e7 => il_l (el_ofI (ys := [x]) (ev_var rfl) ((e06.trans e7) _ _ hsa) (el_lst (ea_cons (pick (l := [11, 13, 2, 9, 3, 7, 1, -3]) (el_lst (ea_cons ev_c (ea_cons ev_c (ea_cons ev_c (ea_cons ev_c (ea_cons ev_c (ea_cons ev_c (ea_cons ev_c (ea_cons (ev_un ev_c ru_neg) ea_nil)))))))) (by simp)) (fun H8 e8 => dm (j := 8) (by decide) (e06.trans (e7.trans e8)) rfl) hx) ea_nil) (by simp)) (by simp only [List.length_cons, List.length_nil]; omega))) (pok m0 (by omega) ?_ ?_) no
    · simp only [List.length_append, List.length_cons, List.length_nil]
      omega
    · intro y hy
      rcases List.mem_append.mp hy with h | h
      · exact lt y h
      · rw [List.mem_singleton.mp h]
        exact xb
  have e06 := e05.trans e6
  refine q_when (b := decide (d0 = 5)) (dc0 (j := 5) e06 rfl) (fun c H7 e7 => ?_) (fun c H7 e7 => ?_)
  · have e07 := e06.trans e7
    refine mk (p := (max 1 (m / 2), pr, ps)) rfl e07 (ev_pap (ev_eqI (ev_max2 ev_c (ev_op (ev_var rfl) ev_c (rv_I (cdiv (j := 2) (by decide) (by decide))))) ?_) (il_a (ev_var rfl) (e07 _ _ hra)) fun H8 e8 => il_a (ev_var rfl) ((e07.trans e8) _ _ hsa)) (pok (by omega) (by omega) (by omega) lt) no
    split <;> omega
  have e07 := e06.trans e7
  refine q_when (b := decide (d0 = 7) && !pr.isEmpty) (et_and (dc0 (j := 7) e07 rfl) fun _ => et_test (ev_neNilA (ev_var rfl) (e07 _ _ hra))) (fun c H8 e8 => ?_) (fun c H8 e8 => ?_)
  · rw [Bool.and_eq_true] at c
    have n0 := lenr c.2
    have e08 := e07.trans e8
    refine q_asg (i := 9) (plc n0 e08 rfl (ev_var rfl) (e08 _ _ hra)) fun H9 e9 => ?_
    have e09 := e08.trans e9
    have q1 := cutI_len (l := pr) (lo := none) (hi := some ((d1 % pr.length : Nat) : Int))
    have q2 := cutI_len (l := pr) (lo := some (((d1 % pr.length : Nat) : Int) + 1)) (hi := none)
    obtain ⟨x, hx, -⟩ := getE (l := pr) (j := d1 % pr.length) (Nat.mod_lt _ n0)
    refine mk rfl e09 (ev_pap (ev_var rfl) (il_l (el_catI (el_catI (ys := [x + (m : Int)]) (el_cut (ev_var rfl) eo_none (eo_some (ev_var rfl)) (e09 _ _ hra)) (el_lst (ea_cons (ev_op (ev_op (ev_var rfl) (ev_var rfl) (rv_ixL (SqL.of (e09 _ _ hra)) (atI_nat (j := d1 % pr.length) (by rw [List.getElem?_map, hx]; rfl)))) (ev_var rfl) rv_I0) ea_nil) (by simp)) (by simp only [List.length_cons, List.length_nil]; omega)) (el_cut (ev_var rfl) (eo_some (ev_op (ev_var rfl) ev_c rv_I0)) eo_none (e09 _ _ hra)) (by simp only [List.length_append, List.length_cons, List.length_nil]; omega))) fun H5 e5 => il_a (ev_var rfl) ((e09.trans e5) _ _ hsa)) (pok m0 ?_ (by omega) lt) no
    simp only [List.length_append, List.length_cons, List.length_nil]
    omega
  have e08 := e07.trans e8
  refine q_when (b := decide (d0 = 8) && !ps.isEmpty) (et_and (dc0 (j := 8) e08 rfl) fun _ => et_test (ev_neNilA (ev_var rfl) (e08 _ _ hsa))) (fun c H9 e9 => ?_) (fun c H9 e9 => ?_)
  · rw [Bool.and_eq_true] at c
    have n0 := lenr c.2
    have e09 := e08.trans e9
    refine q_asg (i := 9) (plc n0 e09 rfl (ev_var rfl) (e09 _ _ hsa)) fun H10 e10 => ?_
    have e010 := e09.trans e10
    have q1 := cutI_len (l := ps) (lo := none) (hi := some ((d1 % ps.length : Nat) : Int))
    have q2 := cutI_len (l := ps) (lo := some (((d1 % ps.length : Nat) : Int) + 1)) (hi := none)
    obtain ⟨x, hx, hxm⟩ := getE (l := ([3, 5, 7, 11] : List Int)) (j := d1 % 4) (by show d1 % 4 < 4; omega)
    have xb : x < 2 ^ 30 := by
      have : ∀ y ∈ ([3, 5, 7, 11] : List Int), y < 2 ^ 30 := by decide
      exact this x hxm
    refine mk rfl e010 (ev_pap (ev_var rfl) (il_a (ev_var rfl) (e010 _ _ hra)) fun H7 e7' => il_l (el_catI (el_catI (ys := [x]) (el_cut (ev_var rfl) eo_none (eo_some (ev_var rfl)) ((e010.trans e7') _ _ hsa)) (el_lst (ea_cons (pick (l := [3, 5, 7, 11]) (el_lst (ea_cons ev_c (ea_cons ev_c (ea_cons ev_c (ea_cons ev_c ea_nil)))) (by simp)) (fun H8 e8' => dm (j := 4) (by decide) (e010.trans (e7'.trans e8')) rfl) hx) ea_nil) (by simp)) (by simp only [List.length_cons, List.length_nil]; omega)) (el_cut (ev_var rfl) (eo_some (ev_op (ev_var rfl) ev_c rv_I0)) eo_none ((e010.trans e7') _ _ hsa)) (by simp only [List.length_append, List.length_cons, List.length_nil]; omega))) (pok m0 (by omega) ?_ ?_) no
    · simp only [List.length_append, List.length_cons, List.length_nil]
      omega
    · intro y hy
      rcases List.mem_append.mp hy with h | h
      · rcases List.mem_append.mp h with h | h
        · exact lt y (cutI_sub y h)
        · rw [List.mem_singleton.mp h]
          exact xb
      · exact lt y (cutI_sub y h)
  have e09 := e08.trans e9
  have q1 := cutI_len (l := ps) (lo := none) (hi := some (1 : Int))
  refine mk rfl e09 (ev_pap (ev_var rfl) (il_l (el_rev (ev_var rfl) (e09 _ _ hra))) fun H7 e7' => il_l (el_catI (el_rev (ev_var rfl) ((e09.trans e7') _ _ hsa)) (el_cut (ev_var rfl) eo_none (eo_some ev_c) ((e09.trans e7') _ _ hsa)) (by rw [List.length_reverse]; omega))) (pok m0 (by rw [List.length_reverse]; omega) ?_ ?_) no
  · have : (cutI ps none (some 1)).length ≤ 1 := by
      unfold cutI
      rw [List.length_take]
      show min (HT.sIx ps.length ps.length (some 1) - HT.sIx ps.length 0 none) _ ≤ 1
      have : HT.sIx ps.length ps.length (some ((1 : Nat) : Int)) = min 1 ps.length := HT.sIx_nat _ _ _
      have : HT.sIx ps.length ps.length (some (1 : Int)) = min 1 ps.length := this
      omega
    rw [List.length_append, List.length_reverse]
    omega
  · intro y hy
    rcases List.mem_append.mp hy with h | h
    · exact lt y (List.mem_reverse.mp h)
    · exact lt y (cutI_sub y h)
end
end EP
end

section
set_option Elab.async false
set_option linter.all false
set_option maxRecDepth 100000
set_option maxHeartbeats 4000000
/-! F8: two far primes, plain. -/
namespace EP
open PySem PySem.Spec PyProof.Rows L2 Evl
theorem p59 : Prime 59 := (isPrimeN_iff 59).mp (by decide +kernel)
theorem p67 : Prime 67 := (isPrimeN_iff 67).mp (by decide +kernel)
theorem gcd_far {x : Nat} (h1 : x % 59 ≠ 0) (h2 : x % 67 ≠ 0) : Nat.gcd x 3953 = 1 := coprime_of (by decide) fun p hp hx hm => by
  have : p ∣ 59 * 67 := hm
  rcases hp.dvd_mul this with e | e
  · have := hp.eq_of_dvd p59 e
    subst this
    exact h1 (Nat.mod_eq_zero_of_dvd hx)
  · have := hp.eq_of_dvd p67 e
    subst this
    exact h2 (Nat.mod_eq_zero_of_dvd hx)
theorem rest59 : ∀ a ∈ List.range 25, a ≠ 0 → restP 59 a = ⟨59, [a], []⟩ := by decide +kernel
theorem rest67 : ∀ a ∈ List.range 25, a ≠ 0 → restP 67 a = ⟨67, [a], []⟩ := by decide +kernel
theorem rest1 : restP 1 0 = ⟨1, [0], []⟩ := by decide +kernel
theorem nrest1 : notN ⟨1, [0], []⟩ = ⟨1, [], []⟩ := by decide +kernel
theorem far_lcm : lcmN 59 67 = 3953 := by decide +kernel
theorem odd_far : oddDivN 3953 = [59, 67] := by decide +kernel
theorem fac_far : factorsN 3953 = [(59, 1), (67, 1)] := by decide +kernel
/-- the rest by both -/
def farR (a b : Nat) : Nat := b + 67 * (((a + 59 - b) * 37) % 59)
section
variable {a b : Nat}
theorem far_lt (hb : b < 25) : farR a b < 3953 := by
  unfold farR
  have := Nat.mod_lt ((a + 59 - b) * 37) (show 59 > 0 by decide)
  omega
theorem far59 (ha : a < 25) (hb : b < 25) : farR a b % 59 = a := by
  unfold farR
  omega
theorem far67 (hb : b < 25) : farR a b % 67 = b := by
  unfold farR
  omega
theorem far_uni {x : Nat} (ha : a < 25) (hb : b < 25) (hx : x < 3953) (h1 : x % 59 = a) (h2 : x % 67 = b) : x = farR a b := by
  have q1 := far_lt (a := a) hb
  have q2 := far59 ha hb
  have q3 := far67 (a := a) hb
  generalize farR a b = r at q1 q2 q3
  omega
theorem far_unit (ha : a < 25) (hb : b < 25) (a0 : a ≠ 0) (b0 : b ≠ 0) : farR a b ∈ unitsN 3953 := unitsN_mem.mpr ⟨far_lt hb, gcd_far (by rw [far59 ha hb]; exact a0) (by rw [far67 hb]; exact b0)⟩
theorem filter_one {l : List Nat} {p : Nat → Bool} {r : Nat} (ha : Asc l) (hr : r ∈ l) (hp : ∀ x ∈ l, p x = true ↔ x = r) : l.filter p = [r] := asc_eq (ha.filter p) (by simp [Asc]) fun x => by
  rw [List.mem_filter, List.mem_singleton]
  constructor
  · rintro ⟨h1, h2⟩
    exact (hp x h1).mp h2
  · rintro rfl
    exact ⟨hr, (hp x hr).mpr rfl⟩
theorem far_range (ha : a < 25) (hb : b < 25) : (List.range 3953).filter (fun x => decide (x % 59 = a) && decide (x % 67 = b)) = [farR a b] := filter_one List.pairwise_lt_range (List.mem_range.mpr (far_lt hb)) fun x hx => by
  rw [Bool.and_eq_true, decide_eq_true_iff, decide_eq_true_iff]
  constructor
  · rintro ⟨h1, h2⟩
    exact far_uni ha hb (List.mem_range.mp hx) h1 h2
  · rintro rfl
    exact ⟨far59 ha hb, far67 hb⟩
theorem far_combR (ha : a < 25) (hb : b < 25) (a0 : a ≠ 0) (b0 : b ≠ 0) : combR fAnd ⟨59, [a], []⟩ ⟨67, [b], []⟩ = [farR a b] := by
  unfold combR
  rw [show lcmN (PS.mk 59 [a] []).m (PS.mk 67 [b] []).m = 3953 from far_lcm]
  refine filter_one (unitsN_asc _) (far_unit ha hb a0 b0) fun x hx => ?_
  unfold fAnd inR
  rw [Bool.and_eq_true, decide_eq_true_iff, decide_eq_true_iff, List.mem_singleton, List.mem_singleton]
  constructor
  · rintro ⟨h1, h2⟩
    exact far_uni ha hb (unitsN_mem.mp hx).1 h1 h2
  · rintro rfl
    exact ⟨far59 ha hb, far67 hb⟩
theorem far_sort : sortU ([59, 67] ++ ([] : List Nat) ++ []) = [59, 67] := by decide +kernel
theorem far_combS (ha : a < 25) (hb : b < 25) (a0 : a ≠ 0) (b0 : b ≠ 0) : combS fAnd ⟨59, [a], []⟩ ⟨67, [b], []⟩ = [] := by
  unfold combS
  rw [far_combR ha hb a0 b0, show lcmN (PS.mk 59 [a] []).m (PS.mk 67 [b] []).m = 3953 from far_lcm, odd_far, far_sort]
  have e1 : memP 59 ⟨59, [a], []⟩ = false := by simp [memP, toldN]
  have e2 : memP 67 ⟨67, [b], []⟩ = false := by simp [memP, toldN]
  have e3 : ∀ r, toldN 3953 [r] 59 = false := fun r => by simp [toldN]
  have e4 : ∀ r, toldN 3953 [r] 67 = false := fun r => by simp [toldN]
  simp only [List.filter_cons, List.filter_nil, e1, e2, e3, e4, fAnd, Bool.false_and, Bool.and_false]
  rfl
theorem far_mixed {q r : Nat} (hq : (q = 59 ∧ 3953 / q = 67) ∨ (q = 67 ∧ 3953 / q = 59)) (hr : r ∈ unitsN 3953) : shortN 3953 [r] q = none := by
  have q0 : 0 < q := by omega
  have hd : q ∣ 3953 := by rcases hq with ⟨h, _⟩ | ⟨h, _⟩ <;> subst h <;> decide
  obtain ⟨rl, rg⟩ := unitsN_mem.mp hr
  have n59 : r % 59 ≠ 0 := fun h => by
    have : 59 ∣ Nat.gcd r 3953 := Nat.dvd_gcd (Nat.dvd_of_mod_eq_zero h) (by decide)
    rw [rg] at this
    exact absurd (Nat.le_of_dvd Nat.one_pos this) (by decide)
  have n67 : r % 67 ≠ 0 := fun h => by
    have : 67 ∣ Nat.gcd r 3953 := Nat.dvd_gcd (Nat.dvd_of_mod_eq_zero h) (by decide)
    rw [rg] at this
    exact absurd (Nat.le_of_dvd Nat.one_pos this) (by decide)
  unfold shortN
  rw [if_pos]
  have dd : 3953 / q ∣ 3953 := Nat.div_dvd_of_dvd hd
  rw [List.any_eq_true]
  refine ⟨r % (3953 / q), unit_mod dd (by omega) rg, ?_⟩
  unfold mixedN foundN
  rw [Bool.and_eq_true, List.contains_iff_mem, List.contains_iff_mem, List.mem_map, List.mem_map]
  refine ⟨⟨r, unit_lift q0 hd (by decide) hr, decide_eq_true (List.mem_singleton.mpr rfl)⟩, ?_⟩
  have key : ∃ k, k < q ∧ r % (3953 / q) + k * (3953 / q) ≠ r ∧ (r % (3953 / q) + k * (3953 / q)) % 59 ≠ 0 ∧ (r % (3953 / q) + k * (3953 / q)) % 67 ≠ 0 := by
    rcases hq with ⟨h1, h2⟩ | ⟨h1, h2⟩
    · rw [h1, show 3953 / 59 = 67 from rfl]
      by_cases c0 : r % 67 + 0 * 67 ≠ r ∧ (r % 67 + 0 * 67) % 59 ≠ 0
      · exact ⟨0, by omega, c0.1, c0.2, by omega⟩
      · by_cases c1 : r % 67 + 1 * 67 ≠ r ∧ (r % 67 + 1 * 67) % 59 ≠ 0
        · exact ⟨1, by omega, c1.1, c1.2, by omega⟩
        · exact ⟨2, by omega, by omega, by omega, by omega⟩
    · rw [h1, show 3953 / 67 = 59 from rfl]
      by_cases c0 : r % 59 + 0 * 59 ≠ r ∧ (r % 59 + 0 * 59) % 67 ≠ 0
      · exact ⟨0, by omega, c0.1, by omega, c0.2⟩
      · by_cases c1 : r % 59 + 1 * 59 ≠ r ∧ (r % 59 + 1 * 59) % 67 ≠ 0
        · exact ⟨1, by omega, c1.1, by omega, c1.2⟩
        · exact ⟨2, by omega, by omega, by omega, by omega⟩
  obtain ⟨k, hk, h1, h2, h3⟩ := key
  exact ⟨_, mem_liftsN.mpr ⟨⟨k, hk, rfl⟩, gcd_far h2 h3⟩, decide_eq_false fun h => h1 (List.mem_singleton.mp h)⟩
theorem far_mk {r : Nat} (hr : r ∈ unitsN 3953) : mkP 3953 [r] [] = ⟨3953, [r], []⟩ := by
  have s0 : sortU [] = [] := by decide +kernel
  have e1 : shortN 3953 [r] 59 = none := far_mixed (.inl ⟨rfl, rfl⟩) hr
  have e2 : shortN 3953 [r] 67 = none := far_mixed (.inr ⟨rfl, rfl⟩) hr
  have hl : ∀ {m : Nat} {st : Nat × List Nat × List Nat} {q : Nat}, leastIn m st q none = st := fun {m st q} => by cases m <;> rfl
  have : leastN (3953, [r], []) = (3953, [r], []) := by
    unfold leastN
    show (factorsN 3953).foldl _ _ = _
    rw [fac_far]
    show leastSt (leastSt (3953, [r], []) 59) 67 = _
    have g1 : leastSt (3953, [r], []) 59 = (3953, [r], []) := by
      unfold leastSt
      rw [show shortN (3953, [r], ([] : List Nat)).1 (3953, [r], ([] : List Nat)).2.1 59 = none from e1]
      exact hl
    rw [g1]
    unfold leastSt
    rw [show shortN (3953, [r], ([] : List Nat)).1 (3953, [r], ([] : List Nat)).2.1 67 = none from e2]
    exact hl
  unfold mkP
  rw [s0, this]
  show PS.mk 3953 [r] (sortU []) = _
  rw [s0]
/-- both texts' set -/
theorem far_set (ha : a < 25) (hb : b < 25) (a0 : a ≠ 0) (b0 : b ≠ 0) : combN fAnd (restP 59 a) (restP 67 b) = ⟨3953, [farR a b], []⟩ := by
  rw [rest59 a (List.mem_range.mpr ha) a0, rest67 b (List.mem_range.mpr hb) b0]
  unfold combN
  rw [far_combR ha hb a0 b0, far_combS ha hb a0 b0, show lcmN (PS.mk 59 [a] []).m (PS.mk 67 [b] []).m = 3953 from far_lcm]
  exact far_mk (far_unit ha hb a0 b0)
end
end EP
end

section
set_option Elab.async false
set_option linter.all false
set_option maxRecDepth 100000
set_option maxHeartbeats 4000000
/-! F9: the law's far pair. -/
namespace EP
open PySem PySem.Spec PyProof.Rows L2 Evl
/-! ### the papers of the far pair -/
theorem paper_none {A B : PS} (h : truthN (combN fMinus A B) = true) : paperN A B = none := if_pos h
theorem every_far : setS (.re 1 0) = ⟨1, [0], []⟩ := rest1
theorem never_far : setS (.no (.re 1 0)) = ⟨1, [], []⟩ := by
  show notN (restP 1 0) = _
  rw [rest1, nrest1]
section
variable {a b : Nat}
theorem far_env (ha : a < 25) (hb : b < 25) : SEnv 3953 S9 (.an (.re 59 a) (.re 67 b)) := ⟨⟨by decide, by decide, by omega, good_rest E9 (by decide) (by decide) (by omega)⟩, by decide, by decide, by omega, good_rest E9 (by decide) (by decide) (by omega)⟩
theorem far_S (ha : a < 25) (hb : b < 25) (a0 : a ≠ 0) (b0 : b ≠ 0) : setS (.an (.re 59 a) (.re 67 b)) = ⟨3953, [farR a b], []⟩ := far_set ha hb a0 b0
theorem one_env : SEnv 3953 S9 (.re 1 0) := ⟨by decide, by decide, by decide, good_rest E9 (by decide) (by decide) (by decide)⟩
theorem far_p1 (ha : a < 25) (hb : b < 25) (a0 : a ≠ 0) (b0 : b ≠ 0) : paperN (setS (.re 1 0)) (setS (.no (.an (.re 59 a) (.re 67 b)))) = none := by
  refine paper_none ?_
  have G := good_set E9 (far_env ha hb)
  have G1 := good_set E9 one_env
  have G2 : Good 3953 S9 (setS (.no (.an (.re 59 a) (.re 67 b)))) := notN_good G E9.odd
  cases h : truthN (combN fMinus (setS (.re 1 0)) (setS (.no (.an (.re 59 a) (.re 67 b))))) with
  | true => rfl
  | false =>
    exfalso
    have hm := ((minus_empty G1 G2 E9.odd).mp h).1
    have hu := far_unit ha hb a0 b0
    have hS := far_S ha hb a0 b0
    have pre := (mk_not E9 G).1
    have hs := mkP_sem (m := (setS (.an (.re 59 a) (.re 67 b))).m) (r := notR (setS (.an (.re 59 a) (.re 67 b)))) (s := (sortU (oddDivN (setS (.an (.re 59 a) (.re 67 b))).m ++ (setS (.an (.re 59 a) (.re 67 b))).singles)).filter fun p => memP p (setS (.an (.re 59 a) (.re 67 b))) == toldN (setS (.an (.re 59 a) (.re 67 b))).m (notR (setS (.an (.re 59 a) (.re 67 b)))) p) G.pos pre.asc pre.un (fun p hp => ⟨((mk_not E9 G).2.2 p (sortU_mem.mp (List.mem_filter.mp hp).1)).1, ((mk_not E9 G).2.2 p (sortU_mem.mp (List.mem_filter.mp hp).1)).2.1⟩) (u := farR a b) (by rw [hS]; exact hu)
    have hn : ¬ farR a b ∈ notR (setS (.an (.re 59 a) (.re 67 b))) := by
      rw [hS]
      unfold notR
      rw [List.mem_filter]
      rintro ⟨_, h2⟩
      simp at h2
    have hn2 := fun q => hn (hs.mpr q)
    have hN : setS (.no (.an (.re 59 a) (.re 67 b))) = notN (setS (.an (.re 59 a) (.re 67 b))) := rfl
    rw [← show notN (setS (.an (.re 59 a) (.re 67 b))) = mkP _ _ _ from rfl, ← hN] at hn2
    have hd : (setS (.no (.an (.re 59 a) (.re 67 b)))).m ∣ 3953 := G2.dvd
    have l1 : lcmN (setS (.re 1 0)).m (setS (.no (.an (.re 59 a) (.re 67 b)))).m = (setS (.no (.an (.re 59 a) (.re 67 b)))).m := by
      rw [every_far, lcmN_eq]
      exact Nat.lcm_one_left _
    rw [l1] at hm
    have := hm (farR a b % (setS (.no (.an (.re 59 a) (.re 67 b)))).m) (unit_mod hd G2.pos (unitsN_mem.mp hu).2) (by
      rw [every_far]
      unfold inR
      exact decide_eq_true (by simp [Nat.mod_one]))
    unfold inR at this
    rw [Nat.mod_mod, decide_eq_true_iff] at this
    exact hn2 this
theorem far_p2 (ha : a < 25) (hb : b < 25) (a0 : a ≠ 0) (b0 : b ≠ 0) : paperN (setS (.an (.re 59 a) (.re 67 b))) (setS (.no (.re 1 0))) = none := by
  refine paper_none ?_
  have G := good_set E9 (far_env ha hb)
  have G1 := good_set E9 one_env
  have G2 : Good 3953 S9 (setS (.no (.re 1 0))) := notN_good G1 E9.odd
  cases h : truthN (combN fMinus (setS (.an (.re 59 a) (.re 67 b))) (setS (.no (.re 1 0)))) with
  | true => rfl
  | false =>
    exfalso
    have hm := ((minus_empty G G2 E9.odd).mp h).1
    have l1 : lcmN (setS (.an (.re 59 a) (.re 67 b))).m (setS (.no (.re 1 0))).m = 3953 := by
      rw [far_S ha hb a0 b0, never_far, lcmN_eq]
      exact Nat.lcm_one_right _
    rw [l1, far_S ha hb a0 b0, never_far] at hm
    have := hm (farR a b) (far_unit ha hb a0 b0) (by
      unfold inR
      rw [decide_eq_true_iff]
      show farR a b % 3953 ∈ [farR a b]
      rw [Nat.mod_eq_of_lt (far_lt hb)]
      exact List.mem_singleton.mpr rfl)
    unfold inR at this
    simp at this
theorem far_p3 (ha : a < 25) (hb : b < 25) (a0 : a ≠ 0) (b0 : b ≠ 0) : paperN (setS (.an (.re 59 a) (.re 67 b))) (setS (.re 59 a)) = some (3953, [farR a b], []) := by
  have G := good_set E9 (far_env ha hb)
  have G2 := good_set E9 (far_env ha hb).1
  have hA := far_S ha hb a0 b0
  have hB : setS (.re 59 a) = ⟨59, [a], []⟩ := rest59 a (List.mem_range.mpr ha) a0
  have l1 : lcmN 3953 59 = 3953 := by decide +kernel
  have e1 : memP 59 ⟨3953, [farR a b], []⟩ = false := by simp [memP, toldN]
  have e2 : memP 67 ⟨3953, [farR a b], []⟩ = false := by simp [memP, toldN]
  have hin : ∀ x ∈ unitsN 3953, inR x ⟨3953, [farR a b], []⟩ = true ↔ x = farR a b := fun x hx => by
    unfold inR
    rw [decide_eq_true_iff]
    show x % 3953 ∈ [farR a b] ↔ _
    rw [Nat.mod_eq_of_lt (unitsN_mem.mp hx).1, List.mem_singleton]
  have ht : truthN (combN fMinus (setS (.an (.re 59 a) (.re 67 b))) (setS (.re 59 a))) = false := by
    rw [minus_empty G G2 E9.odd, hA, hB]
    rw [show lcmN (PS.mk 3953 [farR a b] []).m (PS.mk 59 [a] []).m = 3953 from l1]
    refine ⟨fun x hx h => ?_, fun p hp h => ?_⟩
    · rw [(hin x hx).mp h]
      unfold inR
      rw [decide_eq_true_iff]
      show farR a b % 59 ∈ [a]
      rw [far59 ha hb]
      exact List.mem_singleton.mpr rfl
    · rw [odd_far] at hp
      have : p = 59 ∨ p = 67 := by simpa using hp
      rcases this with e | e
      · rw [e, e1] at h; cases h
      · rw [e, e2] at h; cases h
  unfold paperN
  rw [ht, if_neg Bool.false_ne_true, hA, hB]
  rw [show lcmN (PS.mk 3953 [farR a b] []).m (PS.mk 59 [a] []).m = 3953 from l1, filter_one (unitsN_asc _) (far_unit ha hb a0 b0) hin, odd_far]
  show some (3953, [farR a b], (sortU ([59, 67] ++ [] ++ [])).filter _) = _
  rw [far_sort]
  simp only [List.filter_cons, List.filter_nil, e1, e2]
  rfl
theorem far_two {s t : Say} (hs : SEnv 3953 S9 s) (ht : SEnv 3953 S9 t) (h1 : hgt s < 6) (h2 : hgt t < 6) : TwoS s t := ⟨h1, h2, 3953, S9, E9, hs, ht⟩
theorem txt_far : ("( rest 59 is " : Str) ++ nW (a : Int) ++ " and rest 67 is " ++ nW (b : Int) ++ " )" = textS (.an (.re 59 a) (.re 67 b)) := str_tl (by
  show _ = TL.tl ("( " ++ ("rest " ++ nW ((59 : Nat) : Int) ++ " is " ++ nW (a : Int)) ++ " and " ++ ("rest " ++ nW ((67 : Nat) : Int) ++ " is " ++ nW (b : Int)) ++ " )")
  simp only [TL.tl_append]
  rw [show TL.tl ("( rest 59 is " : Str) = TL.tl ("( " : Str) ++ TL.tl ("rest " : Str) ++ TL.tl (nW ((59 : Nat) : Int)) ++ TL.tl (" is " : Str) from by decide +kernel, show TL.tl (" and rest 67 is " : Str) = TL.tl (" and " : Str) ++ TL.tl ("rest " : Str) ++ TL.tl (nW ((67 : Nat) : Int)) ++ TL.tl (" is " : Str) from by decide +kernel]
  simp only [List.append_assoc])
theorem txt_59 : ("rest 59 is " : Str) ++ nW (a : Int) = textS (.re 59 a) := str_tl (by
  show _ = TL.tl ("rest " ++ nW ((59 : Nat) : Int) ++ " is " ++ nW (a : Int))
  simp only [TL.tl_append]
  rw [show TL.tl ("rest 59 is " : Str) = TL.tl ("rest " : Str) ++ TL.tl (nW ((59 : Nat) : Int)) ++ TL.tl (" is " : Str) from by decide +kernel])
theorem txt_n10 : ("not rest 1 is 0" : Str) = textS (.no (.re 1 0)) := by decide +kernel
end
end EP
end

section
set_option Elab.async false
set_option linter.all false
set_option maxRecDepth 100000
set_option maxHeartbeats 4000000
/-! F10: the walk of the far pair. -/
namespace EP
open PySem PySem.Spec PyProof.Rows L2 Evl
section
variable {P : Program} {w : World} {K : PySem.W.Frag} {mg : Str → Option Value} {base : Heap}
/-- Saying(text) -/
theorem ev_saying {σ : L2.St} {H : Hp} {te : TE} {s : Say} (h : Ev te σ H (.str (textS s))) (hf : SayFit s) : EvP (StX.tMakeR (He.ga K "Saying") (sp_saying_init K) E0 (tCons te tNil)) σ H (fun _ v H1 => okY K v s H1) := ev_mk (ea_cons h ea_nil) (mk_mk s rfl fun _ _ => hf)
/-- paper_of(a, b) -/
theorem ev_paper {σ : L2.St} {H : Hp} {ta tb : TE} {s t : Say} (h1 : EvP ta σ H (fun _ v H1 => okY K v s H1)) (h2 : ∀ H1, Ex H H1 → EvP tb σ H1 (fun _ v H2 => okY K v t H2)) (hs : TwoS s t) : EvP (tCalR (sp_paper_of K) (tCons ta (tCons tb tNil))) σ H (fun _ v H1 => okO v (paperN (setS s) (setS t)) H1) :=
  ev_calP (PA := fun us H1 => ∃ v1 v2, us = [v1, v2] ∧ okY K v1 s H1 ∧ okY K v2 t H1) (eap_cons h1 fun H0 v H1 e0 e1 hv => eap_cons (h2 H1 (e0.trans e1)) fun H2 v2 H3 e2 e3 hv2 => eap_nil fun H4 e4 => ⟨v, v2, rfl, okY.ex (e2.trans (e3.trans e4)) hv, okY.ex e4 hv2⟩)
    fun us H1 _ ⟨v1, v2, eu, o1, o2⟩ => by
      subst eu
      exact sp_mk' ((v1, s), (v2, t)) rfl fun H2 e2 => ⟨okY.ex e2 o1, okY.ex e2 o2, hs⟩
theorem okO_non {v : V} {o : Option (Nat × List Nat × List Nat)} {H : Hp} (h : okO v o H) : decide (v = .non) = o.isNone := by
  cases o with
  | none =>
    have : v = .non := h
    rw [this]; rfl
  | some p =>
    obtain ⟨a, r, s, h1, _⟩ := (show okW v (natW p) H from h)
    rw [h1]; rfl
theorem ev_isnotO {σ : L2.St} {H : Hp} {te : TE} {o : Option (Nat × List Nat × List Nat)} (h : EvP te σ H (fun _ v H1 => okO v o H1)) : Ev (tOp rIsNot0 te (tC .non)) σ H (.bl o.isSome) := p_ev (fun H1 e Q q => h H1 e _ fun H0 v H2 e0 e2 hv => by
  refine (ev_c (v := V.non) (σ := σ) (H := H2)) H2 (Ex.refl H2) _ fun H3 e3 => ⟨rfl, ?_⟩
  rw [okO_non hv]
  refine q H2 _ H3 (e0.trans e2) e3 ?_
  cases o <;> rfl)
theorem ev_is0O {σ : L2.St} {H : Hp} {te : TE} {o : Option (Nat × List Nat × List Nat)} (h : EvP te σ H (fun _ v H1 => okO v o H1)) : Ev (tOp rIs0 te (tC .non)) σ H (.bl o.isNone) := p_ev (fun H1 e Q q => h H1 e _ fun H0 v H2 e0 e2 hv => by
  refine (ev_c (v := V.non) (σ := σ) (H := H2)) H2 (Ex.refl H2) _ fun H3 e3 => ⟨rfl, ?_⟩
  rw [okO_non hv]
  exact q H2 _ H3 (e0.trans e2) e3 rfl)
/-! ### papers compared -/
def papD (p : Paper) : PyData := .tuple [.int (p.1 : Nat), .list (p.2.1.map PyData.int), .list (p.2.2.map PyData.int)]
theorem eqv_ints : ∀ a b : List Int, PyData.eqvAll (a.map PyData.int) (b.map PyData.int) = decide (a = b)
  | [], [] => rfl
  | x :: a, [] => by simp [PyData.eqvAll]
  | [], y :: b => by simp [PyData.eqvAll]
  | x :: a, y :: b => by
    simp only [List.map_cons, PyData.eqvAll, PyData.eqv, eqv_ints a b, List.cons.injEq]
    by_cases h : x = y <;> by_cases g : a = b <;> simp [h, g]
theorem eqv_pap (p q : Paper) : PyData.eqv (papD p) (papD q) = decide (p = q) := by
  obtain ⟨m, r, s⟩ := p
  obtain ⟨n, t, u⟩ := q
  unfold papD
  simp only [PyData.eqvAll, PyData.eqv, eqv_ints, Bool.and_true]
  by_cases h : m = n <;> by_cases g : r = t <;> by_cases f : s = u <;> simp [h, g, f] <;> omega
theorem pap_shaped (p : Paper) : SeqAt.shaped (papD p) = true := by
  simp [papD, SeqAt.shaped, PyData.canLay0, PyData.canLayAll0, PyData.depth, PyData.depthAll, ints_lay, ints_depth]
theorem pap_dp {v : V} {p : Paper} {H : Hp} (h : okW v p H) : Dp K H v (papD p) := by
  obtain ⟨a, r, s, rfl, h2, h3, h4⟩ := h
  exact .tup (SqT.of h2) (.cons (.int _) (.cons (.lst (SqL.of h3) (dp_iv _)) (.cons (.lst (SqL.of h4) (dp_iv _)) .nil)))
theorem ev_eqPap {σ : L2.St} {H : Hp} {ta tb : TE} {p q : Paper} (h1 : EvP ta σ H (fun _ v H1 => okW v p H1)) (h2 : ∀ H1, Ex H H1 → EvP tb σ H1 (fun _ v H2 => okW v q H2)) : Ev (tOp (rEqD K) ta tb) σ H (.bl (decide (p = q))) := p_ev (fun H1 e Q qq => h1 H1 e _ fun H0 v H2 e0 e2 hv => h2 H2 (e.trans (e0.trans e2)) H2 (Ex.refl H2) _ fun H3 v2 H4 e3 e4 hv2 => ⟨papD p, papD q, pap_dp (okW.ex (e3.trans e4) hv), pap_dp hv2, pap_shaped p, pap_shaped q, by
  rw [eqv_pap]
  exact qq H2 _ H4 (e0.trans e2) (e3.trans e4) rfl⟩)
theorem ev_nePap {σ : L2.St} {H : Hp} {ta tb : TE} {p q : Paper} (h1 : EvP ta σ H (fun _ v H1 => okW v p H1)) (h2 : ∀ H1, Ex H H1 → EvP tb σ H1 (fun _ v H2 => okW v q H2)) : Ev (tOp (rNeD K) ta tb) σ H (.bl (!decide (p = q))) := p_ev (fun H1 e Q qq => h1 H1 e _ fun H0 v H2 e0 e2 hv => h2 H2 (e.trans (e0.trans e2)) H2 (Ex.refl H2) _ fun H3 v2 H4 e3 e4 hv2 => ⟨papD p, papD q, pap_dp (okW.ex (e3.trans e4) hv), pap_dp hv2, pap_shaped p, pap_shaped q, by
  rw [eqv_pap]
  exact qq H2 _ H4 (e0.trans e2) (e3.trans e4) rfl⟩)
abbrev N_law_far_pair : List Str := ["_law_a", "_law_b", "_law_text_here", "_law_told", "_law_rests", "_law_rest"]
theorem sc_law_far_pair : FnScope N_law_far_pair ["_law_a", "_law_b"] (defScope s_law_far_pair) := ⟨rfl, rfl, rfl, by decide +kernel, rfl, by decide +kernel, by decide +kernel⟩
def sp_law_far_pair : Sp := mkSp (α := Nat × Nat) (fun a => [.int (a.1 : Nat), .int (a.2 : Nat)]) (fun a _ => (a.1 ≠ 0 ∧ a.1 < 25) ∧ (a.2 ≠ 0 ∧ a.2 < 25)) (fun _ => isV (.bl true))
theorem fit_re {m r : Nat} (m0 : 0 < m) (mb : m ≤ 70) (hr : r < m) : SayFit (.re m r) := ⟨⟨m0, mb, hr⟩, by show 0 < 6; decide, by show 0 ≤ 8; decide, by show 60 ≤ 90000; decide⟩
theorem fit_no {m r : Nat} (m0 : 0 < m) (mb : m ≤ 70) (hr : r < m) : SayFit (.no (.re m r)) := ⟨⟨m0, mb, hr⟩, by show 0 + 1 < 6; decide, by show 0 ≤ 8; decide, by show 60 + 4 ≤ 90000; decide⟩
theorem fit_an {m r n s : Nat} (m0 : 0 < m) (mb : m ≤ 70) (hr : r < m) (n0 : 0 < n) (nb : n ≤ 70) (hs : s < n) : SayFit (.an (.re m r) (.re n s)) := ⟨⟨⟨m0, mb, hr⟩, n0, nb, hs⟩, by show max 0 0 + 1 < 6; decide, by show max 0 0 + 1 ≤ 8; decide, by show 60 + 60 + 9 ≤ 90000; decide⟩
theorem fit_nan {m r n s : Nat} (m0 : 0 < m) (mb : m ≤ 70) (hr : r < m) (n0 : 0 < n) (nb : n ≤ 70) (hs : s < n) : SayFit (.no (.an (.re m r) (.re n s))) := ⟨⟨⟨m0, mb, hr⟩, n0, nb, hs⟩, by show max 0 0 + 1 + 1 < 6; decide, by show max 0 0 + 1 ≤ 8; decide, by show 60 + 60 + 9 + 4 ≤ 90000; decide⟩
theorem ok_law_far_pair (T : Tx K mg base) : Cal P w K mg base 21 "_law_far_pair" sp_law_far_pair := by
  refine cal_of T.f_law_far_pair T.g_law_far_pair sc_law_far_pair (fun _ _ _ _ _ _ us hl => match us, hl with | [_, _], _ => rfl) (len_sp fun _ => rfl) any_sp ?_
  rintro f cdv A outer s H vs Q E hr ⟨⟨a, b⟩, rfl, ⟨⟨ga0, ga⟩, gb0, gb⟩, gk⟩
  have a0 : a ≠ 0 := ga0
  have ha : a < 25 := ga
  have b0 : b ≠ 0 := gb0
  have hb : b < 25 := gb
  have k : Gives (isV (.bl true)) H Q := gk
  refine ⟨_, pss_cons (ps_set (i := 2) sc_law_far_pair.nd rfl (Or.inl rfl) (pe_op op_addS (pe_op op_addS (pe_op op_addS (pe_op op_addS pe_str (pe_callTy c_str (by rfl) T.b_str (by decide +kernel) (pa_cons (pv 0) pa_nil))) pe_str) (pe_callTy c_str (by rfl) T.b_str (by decide +kernel) (pa_cons (pv 1) pa_nil))) pe_str))
      (pss_cons (ps_if (pt_cmpR op_isnot0 (pe_c (ok_paper_of (K := K) T) hr (by decide) (by rfl) (pa_cons (pe_mk (ok_saying_init (K := K) T) hr (by decide) (by rfl) (pa_cons pe_str pa_nil)) (pa_cons (pe_mk (ok_saying_init (K := K) T) hr (by decide) (by rfl) (pa_cons (pe_op op_addS pe_str (pv 2)) pa_nil)) pa_nil))) pe_non (nomark _)) (pss_one (ps_ret pe_bl)) (pss_nil))
      (pss_cons (ps_if (pt_cmpR op_isnot0 (pe_c (ok_paper_of (K := K) T) hr (by decide) (by rfl) (pa_cons (pe_mk (ok_saying_init (K := K) T) hr (by decide) (by rfl) (pa_cons (pv 2) pa_nil)) (pa_cons (pe_mk (ok_saying_init (K := K) T) hr (by decide) (by rfl) (pa_cons pe_str pa_nil)) pa_nil))) pe_non (nomark _)) (pss_one (ps_ret pe_bl)) (pss_nil))
      (pss_cons (ps_set (i := 3) sc_law_far_pair.nd rfl (Or.inl rfl) (pe_c (ok_paper_of (K := K) T) hr (by decide) (by rfl) (pa_cons (pe_mk (ok_saying_init (K := K) T) hr (by decide) (by rfl) (pa_cons (pv 2) pa_nil)) (pa_cons (pe_mk (ok_saying_init (K := K) T) hr (by decide) (by rfl) (pa_cons (pe_op op_addS pe_str (pe_callTy c_str (by rfl) T.b_str (by decide +kernel) (pa_cons (pv 0) pa_nil))) pa_nil)) pa_nil))))
      (pss_cons (ps_setLc (i := 4) (own := [("_law_rest", 5)]) (g := gName 5) (by rfl) sc_law_far_pair.nd rfl rfl (sw_true rfl rfl rfl (by decide +kernel)) (pi_range1 (by rfl) T.b_range (pa_cons pe_int pa_nil)) (blkOk_by (own := [("_law_rest", 5)]) (N := N_law_far_pair) (sc := defScope s_law_far_pair) (by decide +kernel)) (fun _ _ _ _ _ => pg_name (i := 5) sc_law_far_pair.nd rfl (Or.inl rfl)) (fun _ _ _ _ _ => pts_one (PW.pt (pw_and (pt_cmpR op_eq (pe_op op_mod (pv 5) pe_int) (pv 0) (nomark _)) (pw_and1 (pt_cmpR op_eq (pe_op op_mod (pv 5) pe_int) (pv 1) (nomark _)))))) (fun _ _ _ _ _ => pv 5))
      (pss_one (ps_ret (pe_cmpR (op_eqD hr.units) (pv 3) (pe_tup (pa_cons pe_int (pa_cons (pv 4) (pa_cons (pe_lst pa_nil) pa_nil)))) (nomark _)))))))), ?_⟩
  have la := nW_len (i := (a : Int)) (by omega) (by omega)
  have lb := nW_len (i := (b : Int)) (by omega) (by omega)
  have n1 : ("( rest 59 is " : Str).length = 13 := by decide +kernel
  have n2 : (" and rest 67 is " : Str).length = 16 := by decide +kernel
  have n3 : (" )" : Str).length = 2 := by decide +kernel
  have n4 : ("rest 59 is " : Str).length = 11 := by decide +kernel
  have n5 : ("not " : Str).length = 4 := by decide +kernel
  have lt : (textS (.an (.re 59 a) (.re 67 b))).length ≤ 129 := text_len (fit_an (by decide) (by decide) (by omega) (by decide) (by decide) (by omega)).ok
  refine q_asg (i := 2) (v := .str (textS (.an (.re 59 a) (.re 67 b)))) (ev_is (ev_addS (ev_addS (ev_addS (ev_addS ev_c (ev_str' (i := (a : Int)) (ev_var rfl) (by omega)) ?_) ev_c ?_) (ev_str' (i := (b : Int)) (ev_var rfl) (by omega)) ?_) ev_c ?_) (by rw [txt_far])) fun H1 e1 => ?_
  · rw [n1]; omega
  · rw [len_app, n1, n2]; omega
  · rw [len_app, len_app, n1, n2]; omega
  · rw [len_app, len_app, len_app, n1, n2, n3]; omega
  have fe := far_env (a := a) (b := b) ha hb
  refine q_if (b := false) (et_is (et_test (ev_isnotO (ev_paper (s := .re 1 0) (t := .no (.an (.re 59 a) (.re 67 b))) (ev_saying (ev_is ev_c (by rw [← txt_10])) (fit_re (by decide) (by decide) (by decide))) (fun H2 e2 => ev_saying (ev_is (ev_addS ev_c (ev_var rfl) (by rw [n5]; omega)) rfl) (fit_nan (by decide) (by decide) (by omega) (by decide) (by decide) (by omega))) (far_two one_env fe (by decide) (by show max 0 0 + 1 + 1 < 6; decide))))) (by rw [far_p1 ha hb a0 b0]; rfl)) (fun c => by cases c) (fun _ H2 e2 => ?_)
  refine q_if (b := false) (et_is (et_test (ev_isnotO (ev_paper (s := .an (.re 59 a) (.re 67 b)) (t := .no (.re 1 0)) (ev_saying (ev_var rfl) (fit_an (by decide) (by decide) (by omega) (by decide) (by decide) (by omega))) (fun H3 e3 => ev_saying (ev_is ev_c (by rw [← txt_n10])) (fit_no (by decide) (by decide) (by decide))) (far_two fe one_env (by show max 0 0 + 1 < 6; decide) (by decide))))) (by rw [far_p2 ha hb a0 b0]; rfl)) (fun c => by cases c) (fun _ H3 e3 => ?_)
  refine q_asgP (i := 3) (ev_paper (s := .an (.re 59 a) (.re 67 b)) (t := .re 59 a) (ev_saying (ev_var rfl) (fit_an (by decide) (by decide) (by omega) (by decide) (by decide) (by omega))) (fun H4 e4 => ev_saying (ev_is (ev_addS ev_c (ev_str' (i := (a : Int)) (ev_var rfl) (by omega)) (by rw [n4]; omega)) (by rw [txt_59])) (fit_re (by decide) (by decide) (by omega))) (far_two fe fe.1 (by show max 0 0 + 1 < 6; decide) (by show 0 < 6; decide))) fun H4 v H5 e4 e5 hv => ?_
  rw [far_p3 ha hb a0 b0] at hv
  have hv : okW v (natW (3953, [farR a b], [])) H5 := hv
  refine q_asgL (i := 4) (xs := nv [farR a b]) ?_ fun l H6 l0 e6 hl => ?_
  · rw [← far_range ha hb]
    refine el_lcV (l := List.range 3953) (ok := okv fun n : Nat => V.int n) (w := fun n : Nat => V.int n) (fun x => decide (x % 59 = a) && decide (x % 67 = b)) (fun _ r => [some (.int (a : Nat)), some (.int (b : Nat)), some (.str (textS (.an (.re 59 a) (.re 67 b)))), some v, none, some (.int (r : Nat))]) (eis_n (n := 3953) (ea_cons ev_c ea_nil) (by decide)) mono_okv (by rw [List.length_range]; decide) ?_ (fun _ _ _ _ _ => rfl) ?_ (fun x _ _ v H1 _ _ => ev_var rfl)
    · rintro x - v H1 - rfl R hR
      exact hR H1 (Ex.refl H1)
    · intro x _ u H7 e7 hu
      refine et_and (et_is (et_test (ev_op (ev_eqI (ev_op (ev_var rfl) ev_c (rv_I (cmod (j := 59) (by decide)))) (emod_nat x 59)) (ev_var rfl) (rv_eq rfl))) (dec_ii (x % 59) a)) fun _ => et_is (et_test (ev_op (ev_eqI (ev_op (ev_var rfl) ev_c (rv_I (cmod (j := 67) (by decide)))) (emod_nat x 67)) (ev_var rfl) (rv_eq rfl))) (dec_ii (x % 67) b)
  rw [← iv_zs] at hl
  refine s_retP (ev_p (ev_eqB (ev_eqPap (p := natW (3953, [farR a b], [])) (q := natW (3953, [farR a b], [])) ((ev_p (ev_var rfl)).imp fun H0 x H7 e0 e7 ev => ?_) fun H7 e7 => ev_pap (m := 3953) ev_c (il_a (ev_var rfl) (e7 _ _ hl)) fun H8 e8 => il_l (l := []) el_nil) (decide_eq_true rfl))) (k.mono (e1.trans (e2.trans (e3.trans (e4.trans (e5.trans e6))))))
  rw [ev]
  exact okW.ex (e6.trans (e0.trans e7)) hv
end
end EP
end

section
set_option Elab.async false
set_option linter.all false
set_option maxRecDepth 100000
set_option maxHeartbeats 4000000
/-! F11: papers, plain. -/
namespace EP
open PySem PySem.Spec PyProof.Rows L2 Evl
section
variable {A B : PS} {D : Nat} {Ss : List Nat}
def wideM (A B : PS) : Nat × List Nat × List Nat := (lcmN A.m B.m, madeR A (lcmN A.m B.m), madeS A B (lcmN A.m B.m))
theorem paper_eq : paperN A B = if truthN (combN fMinus A B) = true then none else some (wideM A B) := rfl
theorem paper_isNone : (paperN A B).isNone = truthN (combN fMinus A B) := by
  rw [paper_eq]
  cases truthN (combN fMinus A B) <;> rfl
theorem paper_self (E : EnvOk D Ss) (g : Good D Ss A) : (paperN A A).isNone = false := by
  rw [paper_isNone]
  exact minus_self g E.odd
theorem inI_nat (r : Nat) : inI (r : Int) B = inR r B := by
  unfold inI inR
  refine decide_eq_decide.mpr ?_
  rw [emod_nat, zs_mem]
  constructor
  · rintro ⟨n, h1, h2⟩
    have : n = r % B.m := by omega
    rwa [← this]
  · exact fun h => ⟨_, h, rfl⟩
theorem inR_lcm {M r u : Nat} (hd : A.m ∣ M) (h : u % M = r % M) : inR u A = inR r A := by
  unfold inR
  have : u % A.m = r % A.m := by
    rw [← Nat.mod_mod_of_dvd u hd, h, Nat.mod_mod_of_dvd r hd]
  rw [this]
/-- a paper that shows it: all of A lies in B -/
theorem shown (E : EnvOk D Ss) (g1 : Good D Ss A) (g2 : Good D Ss B) {p : Paper} (p0 : 0 < p.1) (h : isPaperN A B p = true) : truthN (combN fMinus A B) = false := by
  obtain ⟨m, pr, ps⟩ := p
  have p0 : 0 < m := p0
  unfold isPaperN at h
  dsimp only at h
  split at h
  · cases h
  rename_i c1
  split at h
  · cases h
  rename_i c2
  split at h
  · cases h
  rename_i c3
  split at h
  · cases h
  rename_i c4
  have c1' : (decide (4000 < m) || !decide (m % lcmN A.m B.m = 0)) = false := by simpa using c1
  rw [Bool.or_eq_false_iff] at c1'
  have hd : lcmN A.m B.m ∣ m := Nat.dvd_of_mod_eq_zero (by simpa using c1'.2)
  have c2' : (((unitsN m).filter fun r => inR r A).all fun x => decide ((x : Int) ∈ pr)) = true := by
    cases q : ((unitsN m).filter fun r => inR r A).all fun x => decide ((x : Int) ∈ pr) with
    | true => rfl
    | false => rw [q] at c2; exact absurd rfl c2
  have c3' : (((sortU (oddDivN m ++ A.singles ++ B.singles)).filter fun q => memP q A).all fun x => decide ((x : Int) ∈ ps)) = true := by
    cases q : ((sortU (oddDivN m ++ A.singles ++ B.singles)).filter fun q => memP q A).all fun x => decide ((x : Int) ∈ ps) with
    | true => rfl
    | false => rw [q] at c3; exact absurd rfl c3
  have c4' : (pr.all fun x => inI x B) = true := by
    cases q : pr.all fun x => inI x B with
    | true => rfl
    | false => rw [q] at c4; exact absurd rfl c4
  rw [List.all_eq_true] at c2' c3' c4' h
  rw [minus_empty g1 g2 E.odd]
  obtain ⟨k, rfl⟩ := hd
  have k0 : 0 < k := Nat.pos_of_mul_pos_left p0
  have L0 := lcmN_pos g1.pos g2.pos
  have dA : A.m ∣ lcmN A.m B.m := Nat.dvd_lcm_left _ _
  have dB : B.m ∣ lcmN A.m B.m := Nat.dvd_lcm_right _ _
  refine ⟨fun r hr ha => ?_, fun q hq ha => ?_⟩
  · obtain ⟨u, u1, u2, u3⟩ := lift_unit k L0 k0 (unitsN_mem.mp hr).2
    have hu : u ∈ (unitsN (lcmN A.m B.m * k)).filter fun r => inR r A := List.mem_filter.mpr ⟨unitsN_mem.mpr ⟨u1, u2⟩, by rw [inR_lcm dA u3]; exact ha⟩
    have := c4' _ (of_decide_eq_true (c2' u hu))
    rw [inI_nat, inR_lcm dB u3] at this
    exact this
  · have hq' : q ∈ (sortU (oddDivN (lcmN A.m B.m * k) ++ A.singles ++ B.singles)).filter fun q => memP q A := List.mem_filter.mpr ⟨sortU_mem.mpr ?_, ha⟩
    · have := h _ (of_decide_eq_true (c3' q hq'))
      unfold memI at this
      simp only [Bool.and_eq_true] at this
      rw [Int.toNat_natCast] at this
      exact this.2.2
    · rcases List.mem_append.mp hq with g | g
      · rcases List.mem_append.mp g with g | g
        · obtain ⟨q1, q2, q3⟩ := (oddDivN_mem L0).mp g
          exact List.mem_append_left _ (List.mem_append_left _ ((oddDivN_mem p0).mpr ⟨q1, q2, Nat.dvd_trans q3 (Nat.dvd_mul_right _ _)⟩))
        · exact List.mem_append_left _ (List.mem_append_right _ g)
      · exact List.mem_append_right _ g
/-- the made paper is one just if there is one -/
theorem made_is (E : EnvOk D Ss) (g1 : Good D Ss A) (g2 : Good D Ss B) : isPaperN A B (natW (wideM A B)) = (paperN A B).isSome := by
  have L0 := lcmN_pos g1.pos g2.pos
  cases ht : truthN (combN fMinus A B) with
  | true =>
    have : (paperN A B).isSome = false := by rw [paper_eq, ht]; rfl
    rw [this]
    cases h : isPaperN A B (natW (wideM A B)) with
    | false => rfl
    | true =>
      have := shown E g1 g2 (p := natW (wideM A B)) L0 h
      rw [ht] at this
      cases this
  | false =>
    have : (paperN A B).isSome = true := by rw [paper_eq, ht]; rfl
    rw [this]
    have hm := (minus_empty g1 g2 E.odd).mp ht
    have hle := lcm_le E g1 g2
    have hsp := spec2_pr E g1 g2
    unfold isPaperN natW wideM
    dsimp only
    have d1 : decide (4000 < lcmN A.m B.m) = false := decide_eq_false (by omega)
    have d2 : decide (lcmN A.m B.m % lcmN A.m B.m = 0) = true := decide_eq_true (Nat.mod_self _)
    have d3 : (((unitsN (lcmN A.m B.m)).filter fun r => inR r A).all fun x => decide ((x : Int) ∈ zs (madeR A (lcmN A.m B.m)))) = true := List.all_eq_true.mpr fun x hx => decide_eq_true (zs_mem.mpr ⟨x, hx, rfl⟩)
    have d4 : (((sortU (oddDivN (lcmN A.m B.m) ++ A.singles ++ B.singles)).filter fun q => memP q A).all fun x => decide ((x : Int) ∈ zs (madeS A B (lcmN A.m B.m)))) = true := List.all_eq_true.mpr fun x hx => decide_eq_true (zs_mem.mpr ⟨x, hx, rfl⟩)
    have d5 : ((zs (madeR A (lcmN A.m B.m))).all fun x => inI x B) = true := List.all_eq_true.mpr fun x hx => by
      obtain ⟨n, hn, rfl⟩ := zs_mem.mp hx
      obtain ⟨h1, h2⟩ := List.mem_filter.mp hn
      rw [inI_nat]
      exact hm.1 n h1 h2
    have d6 : ((zs (madeS A B (lcmN A.m B.m))).all fun x => memI x B) = true := List.all_eq_true.mpr fun x hx => by
      obtain ⟨n, hn, rfl⟩ := zs_mem.mp hx
      obtain ⟨h1, h2⟩ := List.mem_filter.mp hn
      have h1 := sortU_mem.mp h1
      obtain ⟨q1, q2, q3⟩ := hsp n h1
      have := q1.1
      unfold memI primeI
      rw [Bool.and_eq_true, Bool.and_eq_true, decide_eq_true_iff, Int.toNat_natCast]
      exact ⟨by omega, (isPrimeN_iff n).mpr q1, hm.2 n h1 h2⟩
    rw [d1, d2, d3, d4, d5, d6]
    rfl
end
end EP
end

section
set_option Elab.async false
set_option linter.all false
set_option maxRecDepth 100000
set_option maxHeartbeats 4000000
/-! G1: the law. -/
namespace EP
open PySem PySem.Spec PyProof.Rows L2 Evl
section
variable {P : Program} {w : World} {K : PySem.W.Frag} {mg : Str → Option Value} {base : Heap}
theorem TxOk.fit {s : Say} (h : TxOk 2 s) : SayFit s := ⟨h.ok, by have := h.h; omega, by have := h.p; omega, by have := h.l; omega⟩
theorem tx_two {s t : Say} (h : TxOk 2 s) (g : TxOk 2 t) : TwoS s t := ⟨by have := h.h; omega, by have := g.h; omega, 840, S8, E8, h.env, g.env⟩
theorem tx_good {s : Say} (h : TxOk 2 s) : Good 840 S8 (setS s) := good_set E8 h.env
/-- a draw -/
theorem ev_draw {σ : L2.St} {H : Hp} {tc tl : TE} {c : Int} {ss : List Nat} (hc : Ev tc σ H (.int c)) (hl : ∀ H1, Ex H H1 → EvL tl σ H1 (nv ss)) (hs : ∀ z ∈ ss, 0 < z ∧ z < 2 ^ 29) (hn : ss.length ≤ 100) : EvP (tCalR sp_law_draws (tCons tc (tCons tl tNil))) σ H (isDraw ss) :=
  ev_calP (PA := fun us H1 => ∃ b, us = [.int c, .ref b] ∧ H1 b = some (.lst (nv ss))) (eap_consV hc (eap_cons (el_p (hl H (Ex.refl H))) fun H0 v H1 e0 e1 ⟨b, ev, _, hb⟩ => eap_nil fun H2 e2 => ⟨b, by rw [ev], e2 _ _ hb⟩)) fun us H1 _ ⟨b, eu, hb⟩ => by
    subst eu
    exact sp_mk' (c, b, ss) rfl fun H2 e2 => ⟨e2 _ _ hb, hs, hn⟩
/-- Saying(text).where() -/
theorem ev_where {σ : L2.St} {H : Hp} {te : TE} {s : Say} (T : Tx K mg base) (h : Ev te σ H (.str (textS s))) (hs : TxOk 2 s) : EvP (tMet (He.ga K "Saying") "where" (sp_saying_where K) (StX.tMakeR (He.ga K "Saying") (sp_saying_init K) E0 (tCons te tNil)) tNil) σ H (isP K (setS s)) :=
  ev_metP (P' := fun _ v H1 => okY K v s H1) (PA := fun us H1 => ∃ v, us = [v] ∧ okY K v s H1) (ev_saying h hs.fit) (fun H0 v H1 e0 e1 hv => ⟨by
    obtain ⟨a, dx, t, h1, h2, _⟩ := id hv
    exact ⟨a, dx, _, h1, h2, rfl⟩, eap_nil fun H2 e2 => ⟨v, rfl, okY.ex e2 hv⟩⟩) fun us H1 _ ⟨v, eu, hv⟩ => by
    subst eu
    exact sp_mk' (v, s) rfl fun H2 e2 => ⟨okY.ex e2 hv, ⟨Nat.lt_of_le_of_lt hs.h (by decide), 840, S8, E8, hs.env⟩⟩
/-- a - b, by truth -/
theorem ev_sub {σ : L2.St} {H : Hp} {ta tb : TE} {A B : PS} {va vb : V} {D : Nat} {Ss : List Nat} (h1 : Ev ta σ H va) (h2 : Ev tb σ H vb) (o1 : okP K va A H) (o2 : okP K vb B H) (E : EnvOk D Ss) (g1 : Good D Ss A) (g2 : Good D Ss B) :
    EvP (tOp (rOwn (He.ga K "Primes") (sp_join K .dif)) ta tb) σ H (isP K (combN fMinus A B)) :=
  ev_join (r := .dif) ((ev_p h1).imp fun H0 v H1 e0 e1 ev => by rw [show v = va from ev]; exact o1.ex (e0.trans e1)) (fun H1 e => (ev_p (h2.mono e)).imp fun H0 v H2 e0 e1 ev => by rw [show v = vb from ev]; exact o2.ex ((e.trans e0).trans e1)) E g1 g2
theorem sub_len {A B : PS} {D : Nat} {Ss : List Nat} (E : EnvOk D Ss) (g1 : Good D Ss A) (g2 : Good D Ss B) : (combN fMinus A B).rests.length + (combN fMinus A B).singles.length ≤ 100000 := (combN_good g1 g2 E.odd).zlen E
theorem el_listN {σ : L2.St} {H : Hp} {te : TE} {xs : List V} (h : EvL te σ H xs) : EvL (tCB (rListS K) (tCons te tNil)) σ H xs := fun H1 e Q q =>
  h H1 e _ fun a H2 a0 e2 ha => ⟨a, xs, rfl, .inl (SqL.of ha), fun p hp => q p _ (fresh_back e2 hp) (e2.trans (Ex.new hp)) upd_same⟩
theorem cut_le7 (xs : List V) : (cutV xs (some 2) (some 7)).length ≤ 7 := by
  unfold cutV
  rw [List.length_take]
  have : HT.sIx xs.length xs.length (some ((7 : Nat) : Int)) = min 7 xs.length := HT.sIx_nat _ _ _
  have : HT.sIx xs.length xs.length (some (7 : Int)) = min 7 xs.length := this
  omega
def isTwo : VP := fun _ v H => ∃ (l : Addr) (x y : Nat), v = .ref l ∧ H l = some (.lst (nv [x, y])) ∧ (x ≠ 0 ∧ x < 25) ∧ (y ≠ 0 ∧ y < 25)
/-- [[..], [..]][j] -/
theorem ev_two {σ : L2.St} {H : Hp} {t1 t2 tb : TE} {j : Nat} (h1 : EvP t1 σ H isTwo) (h2 : ∀ H1, Ex H H1 → EvP t2 σ H1 isTwo) (hb : ∀ H1, Ex H H1 → Ev tb σ H1 (.int (j : Nat))) (hj : j < 2) : EvP (tOp (rIxL K) (tLst (tCons t1 (tCons t2 tNil))) tb) σ H isTwo :=
  ev_opP (Pa := fun H0 v H1 => ∃ (a : Addr) (us : List V) (H' : Hp), v = .ref a ∧ H1 a = some (.lst us) ∧ H0 a = none ∧ (∃ u1 u2, us = [u1, u2] ∧ isTwo H u1 H' ∧ isTwo H u2 H') ∧ Ex H' H1)
    (Pb := fun x _ y H1 => (∃ (a : Addr) (u1 u2 : V), x = .ref a ∧ H1 a = some (.lst [u1, u2]) ∧ isTwo H u1 H1 ∧ isTwo H u2 H1) ∧ y = .int (j : Nat))
    (ep_lstP (PA := fun us H' => ∃ u1 u2, us = [u1, u2] ∧ isTwo H u1 H' ∧ isTwo H u2 H') (eap_cons h1 fun H0 v H1 e0 e1 ⟨l, x, y, h3, h4, h5⟩ => eap_cons (h2 H1 (e0.trans e1)) fun H2 v2 H3 e2 e3 ⟨l2, x2, y2, g3, g4, g5⟩ => eap_nil fun H4 e4 => ⟨v, v2, rfl, ⟨l, x, y, h3, (e2.trans (e3.trans e4)) _ _ h4, h5⟩, l2, x2, y2, g3, e4 _ _ g4, g5⟩) (fun us H' ⟨u1, u2, h, _⟩ => by rw [h]; show 2 ≤ 100000; omega))
    (fun H0 x H1 e0 e1 ⟨a, us, H', ex, ha, _, ⟨u1, u2, eu, k1, k2⟩, e'⟩ => (ev_p (hb H1 (e0.trans e1))).imp fun H2 y H3 e2 e3 ey => ⟨⟨a, u1, u2, ex, by rw [(e2.trans e3) _ _ ha, eu], by
      obtain ⟨l, x, y, h3, h4, h5⟩ := k1
      exact ⟨l, x, y, h3, (e'.trans (e2.trans e3)) _ _ h4, h5⟩, by
      obtain ⟨l, x, y, h3, h4, h5⟩ := k2
      exact ⟨l, x, y, h3, (e'.trans (e2.trans e3)) _ _ h4, h5⟩⟩, ey⟩)
    fun x H0 y H1 e0 e1 ⟨⟨a, u1, u2, ex, ha, k1, k2⟩, ey⟩ Q k => by
      subst ex
      subst ey
      match j, hj with
      | 0, _ => exact ⟨a, [u1, u2], 0, u1, rfl, rfl, SqL.of ha, atI_nat (j := 0) rfl, k.go (Ex.refl _) k1⟩
      | 1, _ => exact ⟨a, [u1, u2], 1, u2, rfl, rfl, SqL.of ha, atI_nat (j := 1) rfl, k.go (Ex.refl _) k2⟩
abbrev N_law : List Str := ["_law_script", "_law_drawn", "_law_other_drawn", "_law_one", "_law_other", "_law_m", "_law_made_here", "_law_pair", "_law_told", "_law_paper", "_law_cell_here", "_law_first", "_law_second", "_law_far", "_law_tried", "_law_due", "_law_told_so"]
theorem sc_law : FnScope N_law ["_law_script"] (defScope s_law) := ⟨rfl, rfl, rfl, by decide +kernel, rfl, by decide +kernel, by decide +kernel⟩
def sp_law (K : PySem.W.Frag) : Sp := mkSp (α := Addr × List Int) (fun a => [.ref a.1]) (fun a H => SqL K H a.1 (iv a.2)) (fun _ => isV (.bl true))
theorem body_law (T : Tx K mg base) : Body P w K mg base 21 "law" s_law N_law (sp_law K) := by
  rintro f cdv A outer s H vs Q E hr ⟨⟨a, ns⟩, rfl, gs, gk⟩
  have hs : SqL K H a (iv ns) := gs
  have k : Gives (isV (.bl true)) H Q := gk
  refine ⟨_, pss_cons (ps_set (i := 1) sc_law.nd rfl (Or.inl rfl) (pe_c (ok_law_draws (K := K) T) hr (by decide) (by rfl) (pa_cons (pe_c (ok_law_cell (K := K) T) hr (by decide) (by rfl) (pa_cons (pv 0) (pa_cons pe_int pa_nil))) (pa_cons (pe_lst (pa_cons pe_int (pa_cons (pe_op op_mul pe_int pe_int) (pa_cons pe_int pa_nil)))) pa_nil))))
      (pss_cons (ps_set (i := 2) sc_law.nd rfl (Or.inl rfl) (pe_c (ok_law_draws (K := K) T) hr (by decide) (by rfl) (pa_cons (pe_c (ok_law_cell (K := K) T) hr (by decide) (by rfl) (pa_cons (pv 0) (pa_cons pe_int pa_nil))) (pa_cons (pe_lst (pa_cons pe_int (pa_cons (pe_op op_mul pe_int pe_int) (pa_cons pe_int (pa_cons pe_int (pa_cons pe_int (pa_cons pe_int pa_nil))))))) pa_nil))))
      (pss_cons (ps_asg (pe_c (ok_law_texts (K := K) T) hr (by decide) (by rfl) (pa_cons (pv 1) (pa_cons (pv 2) pa_nil))) (pg_unl (by rfl) (pgs_cons (pg_name (i := 11) sc_law.nd rfl (Or.inl rfl)) (pgs_cons (pg_name (i := 12) sc_law.nd rfl (Or.inl rfl)) pgs_nil))))
      (pss_cons (ps_set (i := 3) sc_law.nd rfl (Or.inl rfl) (pe_mt0 (ok_saying_where (K := K) T) hr (by decide) (pe_mk (ok_saying_init (K := K) T) hr (by decide) (by rfl) (pa_cons (pv 11) pa_nil))))
      (pss_cons (ps_set (i := 4) sc_law.nd rfl (Or.inl rfl) (pe_mt0 (ok_saying_where (K := K) T) hr (by decide) (pe_mk (ok_saying_init (K := K) T) hr (by decide) (by rfl) (pa_cons (pv 12) pa_nil))))
      (pss_cons (ps_set (i := 5) sc_law.nd rfl (Or.inl rfl) (pe_op op_fdiv (pe_op op_mul (pe_fldk K rfl (pv 3) rfl) (pe_fldk K rfl (pv 4) rfl)) (pe_c (ok_law_common (K := K) T) hr (by decide) (by rfl) (pa_cons (pe_fldk K rfl (pv 3) rfl) (pa_cons (pe_fldk K rfl (pv 4) rfl) pa_nil)))))
      (pss_cons (ps_set (i := 6) sc_law.nd rfl (Or.inl rfl) (pe_c (ok_law_made (K := K) T) hr (by decide) (by rfl) (pa_cons (pv 3) (pa_cons (pv 4) (pa_cons (pv 5) pa_nil)))))
      (pss_cons (ps_set (i := 7) sc_law.nd rfl (Or.inl rfl) (pe_lst (pa_cons (pe_mk (ok_saying_init (K := K) T) hr (by decide) (by rfl) (pa_cons (pv 11) pa_nil)) (pa_cons (pe_mk (ok_saying_init (K := K) T) hr (by decide) (by rfl) (pa_cons (pv 12) pa_nil)) pa_nil))))
      (pss_cons (ps_set (i := 8) sc_law.nd rfl (Or.inl rfl) (pe_c (ok_paper_of (K := K) T) hr (by decide) (by rfl) (pa_cons (pe_ix (ix_listk K rfl) (pv 7) pe_int (fun _ _ => rfl)) (pa_cons (pe_ix (ix_listk K rfl) (pv 7) pe_int (fun _ _ => rfl)) pa_nil))))
      (pss_cons (ps_if (PW.pt (pw_or (pt_cmpR op_ne (pe_cmpR op_is0 (pe_c (ok_paper_of (K := K) T) hr (by decide) (by rfl) (pa_cons (pe_ix (ix_listk K rfl) (pv 7) pe_int (fun _ _ => rfl)) (pa_cons (pe_ix (ix_listk K rfl) (pv 7) pe_int (fun _ _ => rfl)) pa_nil))) pe_non (nomark _)) (pe_callTy (c_boolOwn (ok_primes_bool (K := K) T) hr (by decide)) (by rfl) T.b_bool (by decide +kernel) (pa_cons (pe_op (op_own (op := .Sub) (ok_primes_sub (K := K) T) hr (by decide) T.first_Primes) (pv 4) (pv 3)) pa_nil)) (nomark _)) (pw_or1 (pt_cmpR op_is0 (pe_c (ok_paper_of (K := K) T) hr (by decide) (by rfl) (pa_cons (pe_ix (ix_listk K rfl) (pv 7) pe_int (fun _ _ => rfl)) (pa_cons (pe_ix (ix_listk K rfl) (pv 7) pe_int (fun _ _ => rfl)) pa_nil))) pe_non (nomark _))))) (pss_one (ps_ret pe_bl)) (pss_nil))
      (pss_cut (ps_if (pt_cmpR op_eq (pe_op op_mod (pe_ix (ix_listk K rfl) (pv 2) pe_int (fun _ _ => rfl)) pe_int) pe_int (nomark _)) (pss_cons (ps_set (i := 13) sc_law.nd rfl (Or.inl rfl) (pe_ix (ix_listk K rfl) (pe_lst (pa_cons (pe_lst (pa_cons pe_int (pa_cons pe_int pa_nil))) (pa_cons (pe_lst (pa_cons (pe_op op_add pe_int (pe_ix (ix_listk K rfl) (pv 2) pe_int (fun _ _ => rfl))) (pa_cons (pe_op op_add pe_int (pe_ix (ix_listk K rfl) (pv 1) pe_int (fun _ _ => rfl))) pa_nil))) pa_nil))) (pe_op op_mod (pe_ix (ix_listk K rfl) (pv 2) pe_int (fun _ _ => rfl)) pe_int) (fun _ _ => rfl)))
        (pss_one (ps_if (pt_not (pt_val (pe_c (ok_law_far_pair (K := K) T) hr (by decide) (by rfl) (pa_cons (pe_ix (ix_listk K rfl) (pv 13) pe_int (fun _ _ => rfl)) (pa_cons (pe_ix (ix_listk K rfl) (pv 13) pe_int (fun _ _ => rfl)) pa_nil))))) (pss_one (ps_ret pe_bl)) (pss_nil)))) (pss_nil))
      (pss_cut (ps_if (pt_own (ok_primes_bool (K := K) T) hr (by decide) (pe_op (op_own (op := .Sub) (ok_primes_sub (K := K) T) hr (by decide) T.first_Primes) (pv 3) (pv 4))) (pss_one (ps_if (pt_cmpR op_isnot0 (pv 8) pe_non (nomark _)) (pss_one (ps_ret pe_bl)) (pss_nil))) (pss_one (ps_if (pt_cmpR (op_neD hr.units) (pv 8) (pe_tup (pa_cons (pv 5) (pa_cons (pe_ix (ix_listk K rfl) (pv 6) pe_int (fun _ _ => rfl)) (pa_cons (pe_ix (ix_listk K rfl) (pv 6) pe_int (fun _ _ => rfl)) pa_nil)))) (nomark _)) (pss_one (ps_ret pe_bl)) (pss_nil))))
      (pss_cons (ps_set (i := 9) sc_law.nd rfl (Or.inl rfl) (pe_tup (pa_cons (pv 5) (pa_cons (pe_ix (ix_listk K rfl) (pv 6) pe_int (fun _ _ => rfl)) (pa_cons (pe_ix (ix_listk K rfl) (pv 6) pe_int (fun _ _ => rfl)) pa_nil)))))
      (pss_cons (ps_for PassesOwn.never rfl (pi_list (pe_op op_cat (pe_lst (pa_cons pe_int pa_nil)) (pe_callTy c_list (by rfl) T.b_list (by decide +kernel) (pa_cons (pe_slice sl_list (pv 0) (po_some pe_int) (po_some pe_int)) pa_nil)))) (pg_name (i := 10) sc_law.nd rfl (Or.inl rfl)) (pss_cons (ps_set (i := 1) sc_law.nd rfl (Or.inl rfl) (pe_c (ok_law_draws (K := K) T) hr (by decide) (by rfl) (pa_cons (pv 10) (pa_cons (pe_lst (pa_cons pe_int (pa_cons pe_int (pa_cons pe_int (pa_cons pe_int (pa_cons pe_int pa_nil)))))) pa_nil))))
        (pss_cons (ps_set (i := 14) sc_law.nd rfl (Or.inl rfl) (pe_c (ok_law_changed (K := K) T) hr (by decide) (by rfl) (pa_cons (pe_slice sl_list (pv 1) po_none (po_some pe_int)) (pa_cons (pv 3) (pa_cons (pv 4) (pa_cons (pv 9) pa_nil))))))
        (pss_cut (ps_if (pt_cmpR op_eq (pe_ix (ix_listk K rfl) (pv 1) pe_int (fun _ _ => rfl)) pe_int (nomark _)) (pss_one (ps_set (i := 14) sc_law.nd rfl (Or.inl rfl) (pe_c (ok_law_changed (K := K) T) hr (by decide) (by rfl) (pa_cons (pe_slice sl_list (pv 1) (po_some pe_int) (po_some pe_int)) (pa_cons (pv 3) (pa_cons (pv 4) (pa_cons (pe_c (ok_law_changed (K := K) T) hr (by decide) (by rfl) (pa_cons (pe_lst (pa_cons pe_int (pa_cons (pe_ix (ix_listk K rfl) (pv 1) pe_int (fun _ _ => rfl)) pa_nil))) (pa_cons (pv 3) (pa_cons (pv 4) (pa_cons (pv 9) pa_nil))))) pa_nil))))))) (pss_nil))
        (pss_cons (ps_set (i := 15) sc_law.nd rfl (Or.inl rfl) (pe_c (ok_law_shows (K := K) T) hr (by decide) (by rfl) (pa_cons (pv 3) (pa_cons (pv 4) (pa_cons (pv 14) pa_nil)))))
        (pss_cons (ps_set (i := 16) sc_law.nd rfl (Or.inl rfl) (pe_c (ok_is_paper (K := K) T) hr (by decide) (by rfl) (pa_cons (pe_mk (ok_saying_init (K := K) T) hr (by decide) (by rfl) (pa_cons (pv 11) pa_nil)) (pa_cons (pe_mk (ok_saying_init (K := K) T) hr (by decide) (by rfl) (pa_cons (pv 12) pa_nil)) (pa_cons (pv 14) pa_nil)))))
        (pss_one (ps_if (PW.pt (pw_or (pt_not (pt_val (pe_callB call_isi (by rfl) T.b_isinstance (by decide +kernel) (pa_cons (pv 16) (pa_cons (pe_gt (n := "bool") rfl T.b_bool (by decide +kernel)) pa_nil))))) (pw_or (pt_cmpR op_ne (pv 16) (pv 15) (nomark _)) (pw_or1 (PW.pt (pw_and (pt_val (pv 15)) (pw_and1 (pt_own (ok_primes_bool (K := K) T) hr (by decide) (pe_op (op_own (op := .Sub) (ok_primes_sub (K := K) T) hr (by decide) T.first_Primes) (pv 3) (pv 4)))))))))) (pss_one (ps_ret pe_bl)) (pss_nil)))))))))
      (pss_one (ps_ret (pe_cmpR op_eq (pe_c (ok_is_paper (K := K) T) hr (by decide) (by rfl) (pa_cons (pe_mk (ok_saying_init (K := K) T) hr (by decide) (by rfl) (pa_cons (pv 11) pa_nil)) (pa_cons (pe_mk (ok_saying_init (K := K) T) hr (by decide) (by rfl) (pa_cons (pv 12) pa_nil)) (pa_cons (pv 9) pa_nil)))) (pe_cmpR op_isnot0 (pv 8) pe_non (nomark _)) (nomark _))))))))))))))))), ?_⟩
  have el3 : ∀ {x y z : Nat} {tx ty tz : TE} {σ : L2.St} {H1 : Hp}, Ev tx σ H1 (.int (x : Nat)) → Ev ty σ H1 (.int (y : Nat)) → Ev tz σ H1 (.int (z : Nat)) → EvL (tLst (tCons tx (tCons ty (tCons tz tNil)))) σ H1 (nv [x, y, z]) := fun h1 h2 h3 => el_lst (ea_cons h1 (ea_cons h2 (ea_cons h3 ea_nil))) (by simp)
  have e152 : ∀ {σ : L2.St} {H1 : Hp}, Ev (tOp (rI CMul fun i j => V.int (i * j)) (tC (.int 19)) (tC (.int 8))) σ H1 (.int ((152 : Nat) : Int)) := ev_eqI (ev_op ev_c ev_c (rv_I (cm1 (by decide)))) rfl
  have cell : ∀ {j : Nat} {σ : L2.St} {H1 : Hp}, Ex H H1 → σ[0]? = some (some (.ref a)) → Ev (tCalR (sp_law_cell K) (tCons (tVar 0) (tCons (tC (.int (j : Nat))) tNil))) σ H1 (.int (ns.getD j 0)) := fun {j σ H1} e hv => p_ev (ev_cal (ea_cons (ev_var hv) (ea_cons ev_c ea_nil)) (sp_mk' (a, ns, j) rfl fun H2 e2 => ex_l (e.trans e2) hs))
  refine q_asgP (i := 1) (ev_draw (ss := [12, 152, 24]) (cell (j := 0) (Ex.refl H) rfl) (fun H1 e1 => el3 (x := 12) (y := 152) (z := 24) ev_c e152 ev_c) (by decide) (by decide)) fun H0 v H1 e0 e1 ⟨da, ds, ev, _, hda, dl, dok⟩ => ?_
  subst ev
  have f1 := e0.trans e1
  refine q_asgP (i := 2) (ev_draw (ss := [12, 152, 24, 7, 5, 3]) (cell (j := 1) f1 rfl) (fun H1 e1 => el_lst (ea_cons ev_c (ea_cons e152 (ea_cons ev_c (ea_cons ev_c (ea_cons ev_c (ea_cons ev_c ea_nil)))))) (by simp)) (by decide) (by decide)) fun H2 v H3 e2 e3 ⟨ea, es, ev, _, hea, el, eok⟩ => ?_
  subst ev
  have f3 := f1.trans (e2.trans e3)
  have hda3 := (e2.trans e3) _ _ hda
  have dl : ds.length = 3 := dl
  have el : es.length = 6 := el
  obtain ⟨d0, hd0, -⟩ := getE (l := ds) (j := 0) (by omega)
  obtain ⟨d1, hd1, -⟩ := getE (l := ds) (j := 1) (by omega)
  obtain ⟨d2, hd2, -⟩ := getE (l := ds) (j := 2) (by omega)
  obtain ⟨c0, hc0, -⟩ := getE (l := es) (j := 0) (by omega)
  obtain ⟨c1, hc1, -⟩ := getE (l := es) (j := 1) (by omega)
  obtain ⟨c2, hc2, -⟩ := getE (l := es) (j := 2) (by omega)
  obtain ⟨c3, hc3, -⟩ := getE (l := es) (j := 3) (by omega)
  obtain ⟨c4, hc4, -⟩ := getE (l := es) (j := 4) (by omega)
  obtain ⟨c5, hc5, -⟩ := getE (l := es) (j := 5) (by omega)
  have d2b : d2 < 24 := dok 2 d2 24 hd2 rfl
  have c2b : c2 < 24 := eok 2 c2 24 hc2 rfl
  have c5b : c5 < 3 := eok 5 c5 3 hc5 rfl
  refine ev_cal (ea_cons (ev_var rfl) (ea_cons (ev_var rfl) ea_nil)) (sp_mk' ((da, ds, d0, d1, d2), (ea, es, c0, c1, c2), c3, c4, c5) rfl fun H4 e4 => ⟨⟨e4 _ _ hda3, hd0, hd1, hd2⟩, ⟨e4 _ _ hea, hc0, hc1, hc2⟩, hc3, hc4, hc5, c5b⟩) H3 (Ex.refl H3) _ fun H4 v H5 e4 e5 ⟨ta, sy, ty, ev, hta, ks, kt⟩ => ?_
  subst ev
  refine ⟨ta, _, rfl, SqL.of hta, rfl, _, _, rfl, _, _, rfl, rfl, ?_⟩
  dsimp only
  have f5 := f3.trans (e4.trans e5)
  have hda5 := (e4.trans e5) _ _ hda3
  have hea5 := (e4.trans e5) _ _ hea
  refine q_asgP (i := 3) (ev_where (s := sy) T (ev_var rfl) ks) fun H6 v1 H7 e6 e7 o1 => ?_
  have o1 : okP K v1 (setS sy) H7 := o1
  refine q_asgP (i := 4) (ev_where (s := ty) T (ev_var rfl) kt) fun H8 v2 H9 e8 e9 o2 => ?_
  have o2 : okP K v2 (setS ty) H9 := o2
  have o19 := o1.ex (e8.trans e9)
  have G1 := tx_good ks
  have G2 := tx_good kt
  generalize hA : setS sy = A1 at o1 o19 G1
  generalize hB : setS ty = A2 at o2 G2
  have l1 := G1.slen E8
  have l2 := G2.slen E8
  have pos1 : ∀ p ∈ A1.singles, 0 < p := fun p h => (G1.sless E8 p h).1
  have pos2 : ∀ p ∈ A2.singles, 0 < p := fun p h => (G2.sless E8 p h).1
  have m1 := G1.le E8
  have m2 := G2.le E8
  have L0 := lcmN_pos G1.pos G2.pos
  have Lb : lcmN A1.m A2.m ≤ 840 := Nat.le_of_dvd (by decide) (G1.lcm G2)
  have g0 : 0 < Nat.gcd A1.m A2.m := Nat.gcd_pos_of_pos_left _ G1.pos
  have gb : Nat.gcd A1.m A2.m ≤ A1.m := Nat.gcd_le_left _ G1.pos
  have TW := tx_two ks kt
  have TWr := tx_two kt ks
  have TWs := tx_two ks ks
  refine q_asg (i := 5) (v := .int (lcmN A1.m A2.m : Nat)) (ev_eqI (ev_op (ev_op (ev_pm T (ev_var rfl) o19) (ev_pm T (ev_var rfl) o2) (rv_I (cm1 (by omega)))) (p_ev (ev_cal (ea_cons (ev_pm T (ev_var rfl) o19) (ea_cons (ev_pm T (ev_var rfl) o2) ea_nil)) (sp_mk' ((A1.m : Int), (A2.m : Int)) rfl fun _ _ => trivial))) (rv_I (cdiv (j := Nat.gcd A1.m A2.m) g0 (by omega)))) (lcmI _ _)) fun H10 e10 => ?_
  have o110 := o19.ex e10
  have o210 := o2.ex e10
  obtain ⟨q1, q2, q3⟩ := made_ok (A := A1) (B := A2) L0 (by omega) E8 G1 G2
  refine q_asgP (i := 6) (ev_cal (ea_cons (ev_var rfl) (ea_cons (ev_var rfl) (ea_cons (ev_var rfl) ea_nil))) (sp_mk' ((v1, A1), (v2, A2), lcmN A1.m A2.m) rfl fun H11 e11 => ⟨o110.ex e11, o210.ex e11, ⟨L0, by show lcmN A1.m A2.m ≤ 40000; omega⟩, ⟨l1, l2⟩, G1.pos, pos1, pos2⟩)) fun H11 v H12 e11 e12 ⟨mb, mr, ms, ev, hmb, hmr, hms⟩ => ?_
  subst ev
  rw [← iv_zs] at hmr hms
  refine q_asgP (i := 7) (ep_lstP (PA := fun us H' => ∃ w1 w2, us = [w1, w2] ∧ okY K w1 sy H' ∧ okY K w2 ty H') (eap_cons (ev_saying (ev_var rfl) ks.fit) fun H0 v H1 e0 e1 hv => eap_cons (ev_saying (ev_var rfl) kt.fit) fun H2 v2 H3 e2 e3 hv2 => eap_nil fun H4 e4 => ⟨v, v2, rfl, okY.ex (e2.trans (e3.trans e4)) hv, okY.ex e4 hv2⟩) (fun us H' ⟨w1, w2, h, _⟩ => by rw [h]; show 2 ≤ 100000; omega)) fun H13 v H14 e13 e14 ⟨pa, us, H', ev, hpa, _, ⟨w1, w2, eu, y1', y2'⟩, e'⟩ => ?_
  subst ev
  subst eu
  have y1 := okY.ex e' y1'
  have y2 := okY.ex e' y2'
  have pr0 : ∀ {σ : L2.St} {H1 : Hp}, Ex H14 H1 → σ[7]? = some (some (.ref pa)) → EvP (tOp (rIxL K) (tVar 7) (tC (.int 0))) σ H1 (fun _ v H2 => okY K v sy H2) := fun e hv => (ev_p (ev_set0 (ev_var hv) (e _ _ hpa))).imp fun H0 v H2 e0 e1 ev => by rw [show v = w1 from ev]; exact okY.ex ((e.trans e0).trans e1) y1
  have pr1 : ∀ {σ : L2.St} {H1 : Hp}, Ex H14 H1 → σ[7]? = some (some (.ref pa)) → EvP (tOp (rIxL K) (tVar 7) (tC (.int 1))) σ H1 (fun _ v H2 => okY K v ty H2) := fun e hv => (ev_p (ev_set1 (ev_var hv) (e _ _ hpa))).imp fun H0 v H2 e0 e1 ev => by rw [show v = w2 from ev]; exact okY.ex ((e.trans e0).trans e1) y2
  refine q_asgP (i := 8) (ev_paper (s := sy) (t := ty) (pr0 (Ex.refl _) rfl) (fun H15 e15 => pr1 e15 rfl) TW) fun H15 v8 H16 e15 e16 told => ?_
  rw [hA, hB] at told
  have told : okO v8 (paperN A1 A2) H16 := told
  have e1416 := e15.trans e16
  have o116 := o110.ex (((e11.trans e12).trans (e13.trans e14)).trans e1416)
  have o216 := o210.ex (((e11.trans e12).trans (e13.trans e14)).trans e1416)
  refine q_if (b := false) (et_is (et_or (a := false) (b := false) (et_is (et_test (ev_op (ev_is0O (ev_paper (s := ty) (t := sy) (pr1 e1416 rfl) (fun H17 e17 => pr0 (e1416.trans e17) rfl) TWr)) (ev_bool (ev_sub (ev_var rfl) (ev_var rfl) o216 o116 E8 G2 G1) (sub_len E8 G2 G1)) (rv_ne rfl))) ?_) fun _ => et_is (et_test (ev_is0O (ev_paper (s := sy) (t := sy) (pr0 e1416 rfl) (fun H17 e17 => pr0 (e1416.trans e17) rfl) TWs))) ?_) rfl) (fun c => by cases c) (fun _ H17 e17 => ?_)
  · rw [hA, hB, paper_isNone, decide_eq_true rfl]; rfl
  · rw [hA]; exact paper_self E8 G1
  have sg : ∀ {x : Nat}, x < 24 → 1 + x ≠ 0 ∧ 1 + x < 25 := fun h => by omega
  have two : ∀ {x y : Nat} {t1 t2 : TE} {σ : L2.St} {H1 : Hp}, Ev t1 σ H1 (.int (x : Nat)) → Ev t2 σ H1 (.int (y : Nat)) → (x ≠ 0 ∧ x < 25) → (y ≠ 0 ∧ y < 25) → EvP (tLst (tCons t1 (tCons t2 tNil))) σ H1 isTwo := fun {x y t1 t2 σ H1} h1 h2 hx hy => (el_p (xs := nv [x, y]) (el_lst (ea_cons h1 (ea_cons h2 ea_nil)) (by simp))).imp fun H0 v H2 _ _ ⟨l, ev, _, hl⟩ => ⟨l, x, y, ev, hl, hx, hy⟩
  have e517 := (((((e6.trans e7).trans (e8.trans e9)).trans e10).trans ((e11.trans e12).trans (e13.trans e14))).trans e1416).trans e17
  have hda17 := e517 _ _ hda5
  have hea17 := e517 _ _ hea5
  have o117 := o116.ex e17
  have o217 := o216.ex e17
  refine q_cut (M := fun σ' H' => ∃ o13, σ' = [some (.ref a), some (.ref da), some (.ref ea), some v1, some v2, some (.int (lcmN A1.m A2.m : Nat)), some (.ref mb), some (.ref pa), some v8, none, none, some (.str (textS sy)), some (.str (textS ty)), o13, none, none, none] ∧ Ex H17 H') ?_ ?_
  · refine s_when (b := decide (c1 % 8 = 0)) (et_is (et_test (ev_op (ev_eqI (ev_op (ev_drawn (j := 1) (ev_var rfl) hea17 hc1) ev_c (rv_I (cmod (j := 8) (by decide)))) (emod_nat c1 8)) ev_c (rv_eq rfl))) (dec_ii (c1 % 8) 0)) (fun _ H18 e18 => ?_) (fun _ H18 e18 => ⟨_, rfl, e18⟩)
    have hda18 := e18 _ _ hda17
    have hea18 := e18 _ _ hea17
    refine q_asgP (i := 13) (ev_two (j := c5 % 2) (two (x := 6) (y := 6) ev_c ev_c (by decide) (by decide)) (fun H19 e19 => two (x := 1 + c2) (y := 1 + d2) (ev_eqI (ev_op ev_c (ev_drawn (j := 2) (ev_var rfl) (e19 _ _ hea18) hc2) rv_I0) (by rw [Int.natCast_add] <;> rfl)) (ev_eqI (ev_op ev_c (ev_drawn (j := 2) (ev_var rfl) (e19 _ _ hda18) hd2) rv_I0) (by rw [Int.natCast_add] <;> rfl)) (sg c2b) (sg d2b)) (fun H19 e19 => ev_eqI (ev_op (ev_drawn (j := 5) (ev_var rfl) (e19 _ _ hea18) hc5) ev_c (rv_I (cmod (j := 2) (by decide)))) (emod_nat c5 2)) (Nat.mod_lt _ (by decide))) fun H19 v H20 e19 e20 ⟨fl, fx, fy, ev, hfl, fxb, fyb⟩ => ?_
    subst ev
    refine s_when (b := false) (et_is (et_not (et_test (p_ev (ev_cal (ea_cons (ev_drawn (j := 0) (ev_var rfl) hfl rfl) (ea_cons (ev_drawn (j := 1) (ev_var rfl) hfl rfl) ea_nil)) (sp_mk' (fx, fy) rfl fun H21 e21 => ⟨fxb, fyb⟩))))) rfl) (fun c => by cases c) (fun _ H21 e21 => ⟨_, rfl, e18.trans (e19.trans (e20.trans e21))⟩)
  rintro σ' H18 ⟨o13, rfl, e18⟩
  have o118 := o117.ex e18
  have o218 := o217.ex e18
  have told18 := okO.ex (e17.trans e18) told
  have sb : ∀ {σ : L2.St} {H1 : Hp}, Ex H18 H1 → σ[3]? = some (some v1) → σ[4]? = some (some v2) → EvT (tOwnT (He.ga K "Primes") (sp_primes_bool K) (tOp (rOwn (He.ga K "Primes") (sp_join K .dif)) (tVar 3) (tVar 4))) σ H1 (truthN (combN fMinus A1 A2)) := fun e h3 h4 => et_bool (ev_sub (ev_var h3) (ev_var h4) (o118.ex e) (o218.ex e) E8 G1 G2) (sub_len E8 G1 G2)
  have e1218 := ((((e13.trans e14).trans e1416).trans e17).trans e18)
  have hmb18 := e1218 _ _ hmb
  have hmr18 := e1218 _ _ hmr
  have hms18 := e1218 _ _ hms
  have pap : ∀ {σ : L2.St} {H1 : Hp}, Ex H18 H1 → σ[5]? = some (some (.int (lcmN A1.m A2.m : Nat))) → σ[6]? = some (some (.ref mb)) → EvP (tTup (tCons (tVar 5) (tCons (tOp (rIxL K) (tVar 6) (tC (.int 0))) (tCons (tOp (rIxL K) (tVar 6) (tC (.int 1))) tNil)))) σ H1 (fun _ v H2 => okW v (natW (wideM A1 A2)) H2) := fun e h5 h6 => ev_pap (ev_var h5) (il_a (ev_set0 (ev_var h6) (e _ _ hmb18)) (e _ _ hmr18)) fun H2 e2 => il_a (ev_set1 (ev_var h6) ((e.trans e2) _ _ hmb18)) ((e.trans e2) _ _ hms18)
  refine q_cut (M := fun σ' H' => σ' = [some (.ref a), some (.ref da), some (.ref ea), some v1, some v2, some (.int (lcmN A1.m A2.m : Nat)), some (.ref mb), some (.ref pa), some v8, none, none, some (.str (textS sy)), some (.str (textS ty)), o13, none, none, none] ∧ Ex H18 H') ?_ ?_
  · refine s_if (b := truthN (combN fMinus A1 A2)) (sb (Ex.refl _) rfl rfl) (fun c H19 e19 => ?_) (fun c H19 e19 => ?_)
    · have hn : (paperN A1 A2).isNone = true := by rw [paper_isNone]; exact c
      have hv := okO_non told18
      rw [hn] at hv
      exact s_when (b := false) (et_is (et_test (ev_op (ev_var rfl) ev_c rv_isnot0)) (by rw [hv]; rfl)) (fun c => by cases c) (fun _ H20 e20 => ⟨rfl, e19.trans e20⟩)
    · have hp : paperN A1 A2 = some (wideM A1 A2) := by rw [paper_eq, c]; rfl
      have hw : okW v8 (natW (wideM A1 A2)) H18 := by
        have := told18
        rw [hp] at this
        exact this
      exact s_when (b := false) (et_is (et_test (ev_nePap (p := natW (wideM A1 A2)) (q := natW (wideM A1 A2)) ((ev_p (ev_var rfl)).imp fun H0 v H2 e0 e1 ev => by rw [show v = v8 from ev]; exact okW.ex (e19.trans (e0.trans e1)) hw) fun H20 e20 => pap (e19.trans e20) rfl rfl)) (by rw [decide_eq_true rfl]; rfl)) (fun c => by cases c) (fun _ H20 e20 => ⟨rfl, e19.trans e20⟩)
  rintro σ' H19 ⟨rfl, e19⟩
  refine q_asgP (i := 9) (pap e19 rfl rfl) fun H20 v9 H21 e20 e21 wp => ?_
  have wp : okW v9 (natW (wideM A1 A2)) H21 := wp
  have e1821 := e19.trans (e20.trans e21)
  have o121 := o118.ex e1821
  have o221 := o218.ex e1821
  have told21 := okO.ex e1821 told18
  have hs21 : SqL K H21 a (iv ns) := ex_l ((f5.trans e517).trans (e18.trans e1821)) hs
  have mdok := made_is E8 G1 G2
  have win : PapIn (natW (wideM A1 A2)) := by
    refine ⟨q1.pos, by show lcmN A1.m A2.m ≤ 9000; omega, ?_, ?_, q1.lt⟩
    · show (zs (madeR A1 (lcmN A1.m A2.m))).length ≤ 19000
      unfold zs
      rw [List.length_map]
      omega
    · show (zs (madeS A1 A2 (lcmN A1.m A2.m))).length ≤ 19000
      unfold zs
      rw [List.length_map]
      omega
  have hE : ∃ D Ss, EnvOk D Ss ∧ Good D Ss A1 ∧ Good D Ss A2 := ⟨840, S8, E8, G1, G2⟩
  have wM : (natW (wideM A1 A2)).1 ≤ 840 := Lb
  generalize hW : natW (wideM A1 A2) = W at wp win mdok wM
  /- one change -/
  have chg : ∀ {σ : L2.St} {H1 : Hp} {td tp : TE} {x y : Nat} {p : Paper}, Ex H21 H1 → σ[3]? = some (some v1) → σ[4]? = some (some v2) → EvL td σ H1 (nv [x, y]) → (∀ H2, Ex H1 H2 → EvP tp σ H2 (fun _ v H3 => okW v p H3)) → PapIn p → EvP (tCalR (sp_law_changed K) (tCons td (tCons (tVar 3) (tCons (tVar 4) (tCons tp tNil))))) σ H1 (isPap p.1 x) := fun {σ H1 td tp x y p} e h3 h4 hd hp hi =>
    ev_calP (PA := fun us H2 => ∃ (l : Addr) (v : V), us = [.ref l, v1, v2, v] ∧ H2 l = some (.lst (nv [x, y])) ∧ okP K v1 A1 H2 ∧ okP K v2 A2 H2 ∧ okW v p H2) (eap_cons (el_p hd) fun H0 v H2 e0 e2 ⟨l, ev, _, hl⟩ => eap_consV (ev_var h3) (eap_consV (ev_var h4) (eap_cons (hp H2 (e0.trans e2)) fun H3 v' H4 e3 e4 hv => eap_nil fun H5 e5 => by
      have eall := (e.trans (e0.trans e2)).trans (e3.trans (e4.trans e5))
      exact ⟨l, v', by rw [show v = .ref l from ev], (e3.trans (e4.trans e5)) _ _ hl, o121.ex eall, o221.ex eall, okW.ex e5 hv⟩))) fun us H2 _ ⟨l, v, eu, hl, k1, k2, kw⟩ => by
      subst eu
      exact sp_mk' ((l, x, y), (v1, A1), (v2, A2), (v, p)) rfl fun H3 e3 => ⟨e3 _ _ hl, k1.ex e3, k2.ex e3, okW.ex e3 kw, hi, hE⟩
  have chg2 : ∀ {σ : L2.St} {H1 : Hp} {td tp : TE} {x y : Nat}, Ex H21 H1 → σ[3]? = some (some v1) → σ[4]? = some (some v2) → EvL td σ H1 (nv [x, y]) → (∀ H2, Ex H1 H2 → EvP tp σ H2 (fun _ v H3 => ∃ p, okW v p H3 ∧ PapIn p)) → EvP (tCalR (sp_law_changed K) (tCons td (tCons (tVar 3) (tCons (tVar 4) (tCons tp tNil))))) σ H1 (fun _ v H3 => ∃ q, okW v q H3 ∧ PapOk q) := fun {σ H1 td tp x y} e h3 h4 hd hp =>
    ev_calP (PA := fun us H2 => ∃ (l : Addr) (v : V) (p : Paper), us = [.ref l, v1, v2, v] ∧ H2 l = some (.lst (nv [x, y])) ∧ okP K v1 A1 H2 ∧ okP K v2 A2 H2 ∧ okW v p H2 ∧ PapIn p) (eap_cons (el_p hd) fun H0 v H2 e0 e2 ⟨l, ev, _, hl⟩ => eap_consV (ev_var h3) (eap_consV (ev_var h4) (eap_cons (hp H2 (e0.trans e2)) fun H3 v' H4 e3 e4 ⟨p, hv, hi⟩ => eap_nil fun H5 e5 => by
      have eall := (e.trans (e0.trans e2)).trans (e3.trans (e4.trans e5))
      exact ⟨l, v', p, by rw [show v = .ref l from ev], (e3.trans (e4.trans e5)) _ _ hl, o121.ex eall, o221.ex eall, okW.ex e5 hv, hi⟩))) fun us H2 _ ⟨l, v, p, eu, hl, k1, k2, kw, hi⟩ => by
      subst eu
      have sp : SpP (sp_law_changed K) [.ref l, v1, v2, v] H2 (isPap p.1 x) := sp_mk' ((l, x, y), (v1, A1), (v2, A2), (v, p)) rfl fun H3 e3 => ⟨e3 _ _ hl, k1.ex e3, k2.ex e3, okW.ex e3 kw, hi, hE⟩
      exact fun H3 e3 Q3 q3 => sp H3 e3 Q3 fun H4 u H5 e4 e5 ⟨q, w1, w2, _⟩ => q3 H4 u H5 e4 e5 ⟨q, w1, w2⟩
  have isp : ∀ {σ : L2.St} {H1 : Hp} {tp : TE} {p : Paper}, σ[11]? = some (some (.str (textS sy))) → σ[12]? = some (some (.str (textS ty))) → (∀ H2, Ex H1 H2 → EvP tp σ H2 (fun _ v H3 => okW v p H3)) → PapOk p → Ev (tCalR (sp_is_paper K) (tCons (StX.tMakeR (He.ga K "Saying") (sp_saying_init K) E0 (tCons (tVar 11) tNil)) (tCons (StX.tMakeR (He.ga K "Saying") (sp_saying_init K) E0 (tCons (tVar 12) tNil)) (tCons tp tNil)))) σ H1 (.bl (isPaperN A1 A2 p)) := fun {σ H1 tp p} h11 h12 hp hi => by
    refine p_ev (ev_calP (PA := fun us H2 => ∃ u1 u2 u3, us = [u1, u2, u3] ∧ okY K u1 sy H2 ∧ okY K u2 ty H2 ∧ okW u3 p H2) (eap_cons (ev_saying (ev_var h11) ks.fit) fun H0 x H2 e0 e2 hx => eap_cons (ev_saying (ev_var h12) kt.fit) fun H3 y H4 e3 e4 hy => eap_cons (hp H4 ((e0.trans e2).trans (e3.trans e4))) fun H5 z H6 e5 e6 hz => eap_nil fun H7 e7 => ⟨x, y, z, rfl, okY.ex ((e3.trans e4).trans (e5.trans (e6.trans e7))) hx, okY.ex (e5.trans (e6.trans e7)) hy, okW.ex e7 hz⟩) fun us H2 _ ⟨u1, u2, u3, eu, k1, k2, k3⟩ => ?_)
    subst eu
    rw [← hA, ← hB]
    exact sp_mk' ((u1, sy), (u2, ty), (u3, p)) rfl fun H3 e3 => ⟨okY.ex e3 k1, okY.ex e3 k2, okW.ex e3 k3, TW, hi⟩
  refine q_forNL (xs := V.int 0 :: cutV (iv ns) (some 2) (some 7)) ?_ (fun p i σ' H' => ∃ o1 o10 o14 o15 o16, σ' = [some (.ref a), o1, some (.ref ea), some v1, some v2, some (.int (lcmN A1.m A2.m : Nat)), some (.ref mb), some (.ref pa), some v8, some v9, o10, some (.str (textS sy)), some (.str (textS ty)), o13, o14, o15, o16] ∧ Ex H21 H' ∧ H' p = some (.lst (V.int 0 :: cutV (iv ns) (some 2) (some 7))))
    (fun p H3 p0 e3 hp => ⟨_, _, _, _, _, rfl, e3, hp⟩) (fun p i σ' H' _ ⟨_, _, _, _, _, _, _, hp⟩ => SqL.of hp) ?_ ?_
  · refine el_cat (xs := [V.int 0]) (el_lst (ea_cons ev_c ea_nil) (by simp)) (el_listN (el_sl (ev_var rfl) (eo_some ev_c) (eo_some ev_c) hs21)) ?_
    have := cut_le7 (iv ns)
    show 1 + (cutV (iv ns) (some 2) (some 7)).length ≤ 100000
    omega
  · rintro p i x σ' H22 hx ⟨o1, o10, o14, o15, o16, rfl, ex, hp⟩
    obtain ⟨c, rfl⟩ : ∃ c : Int, x = V.int c := by
      have hm := List.mem_of_getElem? hx
      rw [cut_map] at hm
      rcases List.mem_cons.mp hm with h | h
      · exact ⟨0, h⟩
      · obtain ⟨c, _, h⟩ := List.mem_map.mp h
        exact ⟨c, h.symm⟩
    refine q_asgP (i := 1) (ev_draw (ss := [9, 60, 9, 60, 3]) (ev_var rfl) (fun H1 e1 => el_lst (ea_cons ev_c (ea_cons ev_c (ea_cons ev_c (ea_cons ev_c (ea_cons ev_c ea_nil))))) (by simp)) (by decide) (by decide)) fun H23 v H24 e23 e24 ⟨da', ds', ev, _, hda', dl', _⟩ => ?_
    subst ev
    obtain ⟨x0, x1, x2, x3, x4, rfl⟩ : ∃ x0 x1 x2 x3 x4, ds' = [x0, x1, x2, x3, x4] := by
      match ds', dl' with
      | [x0, x1, x2, x3, x4], _ => exact ⟨_, _, _, _, _, rfl⟩
    have x24 := ex.trans (e23.trans e24)
    have hp24 := (e23.trans e24) _ _ hp
    have wv : ∀ {σ : L2.St} {H1 : Hp}, Ex H21 H1 → σ[9]? = some (some v9) → EvP (tVar 9) σ H1 (fun _ v H3 => okW v W H3) := fun e h => (ev_p (ev_var h)).imp fun H0 v H2 e0 e1 ev => by rw [show v = v9 from ev]; exact okW.ex (e.trans (e0.trans e1)) wp
    refine q_asgP (i := 14) (chg (x := x0) (y := x1) (p := W) x24 rfl rfl (el_sl (ev_var rfl) eo_none (eo_some ev_c) (SqL.of hda')) (fun H2 e2 => wv (x24.trans e2) rfl) win) fun H25 v14 H26 e25 e26 ⟨p14, w14, ok14, _⟩ => ?_
    have e2426 := e25.trans e26
    have hda26 := e2426 _ _ hda'
    have x26 := x24.trans e2426
    refine q_cut (M := fun σ' H' => ∃ (v : V) (q : Paper), σ' = [some (.ref a), some (.ref da'), some (.ref ea), some v1, some v2, some (.int (lcmN A1.m A2.m : Nat)), some (.ref mb), some (.ref pa), some v8, some v9, some (.int c), some (.str (textS sy)), some (.str (textS ty)), o13, some v, o15, o16] ∧ Ex H26 H' ∧ okW v q H' ∧ PapOk q) ?_ ?_
    · refine s_when (b := decide (x4 = 0)) (et_is (et_test (ev_op (ev_drawn (j := 4) (ev_var rfl) hda26 rfl) ev_c (rv_eq rfl))) (dec_ii x4 0)) (fun _ H27 e27 => ?_) (fun _ H27 e27 => ⟨v14, p14, rfl, e27, okW.ex e27 w14, ok14⟩)
      have hda27 := e27 _ _ hda26
      refine s_asgP (i := 14) (chg2 (x := x2) (y := x3) (x26.trans e27) rfl rfl (el_sl (ev_var rfl) (eo_some ev_c) (eo_some ev_c) (SqL.of hda27)) (fun H2 e2 => (chg (x := 0) (y := x1) (p := W) ((x26.trans e27).trans e2) rfl rfl (el_lst (ea_cons ev_c (ea_cons (ev_drawn (j := 1) (ev_var rfl) (e2 _ _ hda27) rfl) ea_nil)) (by simp)) (fun H3 e3 => wv (((x26.trans e27).trans e2).trans e3) rfl) win).imp fun H0 v H3 _ _ ⟨p, wp', okp, bd⟩ => ⟨p, wp', ?_⟩)) fun H28 v H29 e28 e29 ⟨q, wq, okq⟩ => ⟨v, q, rfl, e27.trans (e28.trans e29), wq, okq⟩
      obtain ⟨b1, b2, b3⟩ := bd rfl
      exact ⟨okp.pos, by omega, by omega, by omega, okp.lt⟩
    rintro σ' H27 ⟨v, q, rfl, e27, wq, okq⟩
    have x27 := x26.trans e27
    refine q_asg (i := 15) (v := .bl (isPaperN A1 A2 q)) (p_ev (ev_cal (ea_cons (ev_var rfl) (ea_cons (ev_var rfl) (ea_cons (ev_var rfl) ea_nil))) (sp_mk' ((v1, A1), (v2, A2), (v, q)) rfl fun H28 e28 => ⟨o121.ex (x27.trans e28), o221.ex (x27.trans e28), okW.ex e28 wq, okq, hE⟩))) fun H28 e28 => ?_
    refine q_asg (i := 16) (v := .bl (isPaperN A1 A2 q)) (isp (p := q) rfl rfl (fun H29 e29 => (ev_p (ev_var rfl)).imp fun H0 u H2 e0 e1 ev => by rw [show u = v from ev]; exact okW.ex ((e28.trans e29).trans (e0.trans e1)) wq) okq) fun H29 e29 => ?_
    have x29 := x27.trans (e28.trans e29)
    have hp29 := ((e2426.trans e27).trans (e28.trans e29)) _ _ hp24
    refine s_when (b := false) (et_is (et_or (a := false) (b := false) (et_is (et_not (et_test (ev_cb (ea_cons (ev_var rfl) (ea_cons ev_c ea_nil)) fun H30 e30 Q q' => ⟨_, _, _, _, true, rfl, .ty "bool", .base (.bl _), T.ki_bool, q' H30 (Ex.refl _)⟩))) rfl) fun _ => et_is (et_or (a := false) (b := false) (et_is (et_test (ev_op (ev_var rfl) (ev_var rfl) (rv_ne rfl))) ?_) fun _ => et_is (et_and (a := isPaperN A1 A2 q) (et_test (ev_var rfl)) fun _ => sb (e1821.trans x29) rfl rfl) ?_) rfl) rfl) (fun c => by cases c) (fun _ H30 e30 => ⟨_, _, _, _, _, rfl, x29.trans e30, e30 _ _ hp29⟩)
    · rw [decide_eq_true rfl]; rfl
    · cases hq : isPaperN A1 A2 q with
      | false => rfl
      | true => rw [shown E8 G1 G2 okq.pos hq]; rfl
  rintro p σ' H22 ⟨o1, o10, o14, o15, o16, rfl, ex, -⟩
  refine s_retP (ev_p (ev_eqB (ev_op (isp (p := W) rfl rfl (fun H23 e23 => (ev_p (ev_var rfl)).imp fun H0 v H2 e0 e1 ev => by rw [show v = v9 from ev]; exact okW.ex ((ex.trans e23).trans (e0.trans e1)) wp) win.ok) (ev_op (ev_var rfl) ev_c rv_isnot0) (rv_eq rfl)) ?_)) (k.mono ((f5.trans e517).trans ((e18.trans e1821).trans ex)))
  rw [mdok, okO_non told21]
  cases paperN A1 A2 <;> rfl
end
end EP
end

section
set_option Elab.async false
set_option linter.all false
set_option maxRecDepth 100000
set_option maxHeartbeats 0
/-! G2: the end. -/
namespace EP
open PySem PySem.Spec PyProof.Rows L2
section
variable {P : Program} {w : World} {K : PySem.W.Frag} {mg : Str → Option Value}
theorem law_fn {h : Heap} {f : Addr} (c : Says K) (X : K.In h) (G : h.Ns mainGlobals mg) (hfa : mg ("law" : Str) = some (.ref f)) :
    ∃ fd : FuncData, (∀ (s : Shared) (v : Value), BindsTo s fd ⟨[v], []⟩ [("_law_script", v)]) ∧ ∀ base : Heap, K.In base → base.Ns mainGlobals mg → FnOk P w K mg base CX0 22 f fd ["_law_script"] (sp_law K) := by
  have T0 : Tx K mg h := ⟨c, X, G⟩
  obtain ⟨fd, F⟩ := c.def_ 46 (d := ⟨fun K => He.fAd K ("law", none), "law", "law", defArgs s_law, defBody s_law, defScope s_law, [], []⟩) rfl
  have e := hfa.symm.trans T0.g_law
  cases e
  have b := FunD.bindsA (ps := ["_law_script"]) F fun _ _ _ _ _ _ us hl => match us, hl with | [_], _ => rfl
  refine ⟨fd, fun s v => b s [v] rfl, fun base h1 h2 => ?_⟩
  have T : Tx K mg base := ⟨c, h1, h2⟩
  exact (He5.fun_of F).ok sc_law (fun vs H Q E q => len_sp (n := 1) (fun _ => rfl) vs H Q (any_sp vs H Q E q)) fun cdv A outer s H vs Q E hr q => body_law T _ cdv A outer s H vs Q E hr (any_sp vs H Q E q)
end
end EP
open PySem PySem.W PySem.Calls PyProof.Rows
theorem PySem.Challenge.cw_everyprime_k18_whole_papers_that_sayings_holds : PySem.Challenge.rw_everyprime_k18_whole_papers_that_sayings.Holds := by
  w_on; o_law
  refine HandSHeadRun.head_any (r := OpenLaw.row PySem.Challenge.rw_everyprime_k18_whole_papers_that_sayings) (q := view (OpenLaw.row PySem.Challenge.rw_everyprime_k18_whole_papers_that_sayings).prog [89]) (H := EP.hk) (ob := EP.ob) (M := 12000) (loose := EP.names) (d := HandSHeadRun.topDef (OpenLaw.row PySem.Challenge.rw_everyprime_k18_whole_papers_that_sayings).prog 89) (kwd := []) EP.ob_eq
    (by kernel_rfl) (fun s => by kernel_rfl) EP.run (by kernel_rfl) (by kernel_rfl) (by kernel_rfl) (by rfl) (by first | assumption | decide +kernel) (by decide +kernel) ⟨rfl, rfl, rfl, rfl, rfl, by decide +kernel⟩ ?hw ?hc
  case hw => w_witness2
  case hc =>
    refine L2.walk_ofE (l := PySem.Challenge.rw_everyprime_k18_whole_papers_that_sayings) (n := 63) (k := 22) (x := "_law_script") (CX := L2.CX0) rfl (by decide) (by kernel_rfl) ⟨rfl, by decide, by decide⟩ ?F (fun _ _ _ _ z => z)
    intro w mg fa h Y G hmg0
    obtain ⟨K, KX, c⟩ := Y
    have hmg : mg ("law" : PySem.Str) = some (.ref fa) := by
      have e : (HandSHeadRun.topDef (OpenLaw.row PySem.Challenge.rw_everyprime_k18_whole_papers_that_sayings).prog 89).name = ("law" : PySem.Str) := by kernel_rfl
      rw [← e]
      exact hmg0
    obtain ⟨fd, hb, hF⟩ := EP.law_fn (P := (PySem.Challenge.rw_everyprime_k18_whole_papers_that_sayings).prog) (w := w) c KX G hmg
    exact ⟨K, fd, EP.sp_law K, KX, hb, fun H a ns hl _ hS => ⟨(a, ns), rfl, hS, fun H0 v H' _ _ p => p⟩, hF⟩
end
