import PyProof.Rows.All
import Wide.All
import OpenK.AllK
import Wide.FinOn
import KE.KStateDown
import Lean
import HandS.ForExc
import HandS.Comp
import HandS.Iter
import HandS.Wide
import HandS.WideBits
import HandS.Defaults
import HandS.IsInst
import HandS.ExcIs
import HandS.ExcInit
import HandS.CallSlots
import HandS.TupLe
import HandS.ClsMeth
import HandS.Head0
import HandS.Head1
import HandS.Head2
import HandS.HeadEnd
import HandS.HeadHook1
import HandS.HeadHook2
import HandS.Walk
import PySem.Challenge.RW_sheetproofs_k04_whole_fields_reckoned
set_option Elab.async false
set_option linter.all false
set_option maxRecDepth 100000
set_option maxHeartbeats 0
set_option exponentiation.threshold 100000
/-! plain mathematics: primes, powers modulo a prime, sources -/
namespace G3
/-! ### primes -/
def Pr (p : Nat) : Prop := 2 ≤ p ∧ ∀ d, 2 ≤ d → d < p → ¬ d ∣ p
theorem Pr.two {p : Nat} (h : Pr p) : 2 ≤ p := h.1
theorem Pr.dvd {p d : Nat} (h : Pr p) (hd : d ∣ p) : d = 1 ∨ d = p := by
  have hp := h.1
  have h0 : 0 < d := Nat.pos_of_dvd_of_pos hd (by omega)
  have hle : d ≤ p := Nat.le_of_dvd (by omega) hd
  by_cases h1 : d = 1
  · exact .inl h1
  · by_cases h2 : d = p
    · exact .inr h2
    · exact absurd hd (h.2 d (by omega) (by omega))
/-- a factor that is no multiple has no common part with p -/
theorem Pr.cop {p a : Nat} (h : Pr p) (ha : ¬ p ∣ a) : Nat.Coprime p a := by
  rcases h.dvd (Nat.gcd_dvd_left p a) with e | e
  · exact e
  · exact absurd (by have := Nat.gcd_dvd_right p a; rw [e] at this; exact this) ha
theorem Pr.mul {p a b : Nat} (h : Pr p) (hd : p ∣ a * b) : p ∣ a ∨ p ∣ b := by
  by_cases ha : p ∣ a
  · exact .inl ha
  · exact .inr ((h.cop ha).dvd_of_dvd_mul_left hd)
theorem Pr.pow {p a : Nat} (h : Pr p) : ∀ {n : Nat}, p ∣ a ^ n → p ∣ a
  | 0, hd => by
    have := Nat.le_of_dvd (by simp) hd
    have := h.1
    simp at *
    omega
  | n + 1, hd => by
    rw [Nat.pow_succ] at hd
    rcases h.mul hd with e | e
    · exact Pr.pow h e
    · exact e
/-- every number from 2 has a prime divisor -/
theorem has_prime : ∀ (k n : Nat), n ≤ k → 2 ≤ n → ∃ q, Pr q ∧ q ∣ n
  | 0, n, h, h2 => by omega
  | k + 1, n, h, h2 => by
    by_cases hp : Pr n
    · exact ⟨n, hp, Nat.dvd_refl n⟩
    · have : ∃ d, 2 ≤ d ∧ d < n ∧ d ∣ n := by
        refine Classical.byContradiction fun hn => hp ⟨h2, fun d h1 h3 h4 => hn ⟨d, h1, h3, h4⟩⟩
      obtain ⟨d, h1, h3, h4⟩ := this
      obtain ⟨q, hq, hd⟩ := has_prime k d (by omega) h1
      exact ⟨q, hq, Nat.dvd_trans hd h4⟩
/-- trial division up to the root is enough -/
theorem pr_of_root {n d : Nat} (h2 : 2 ≤ n) (hs : ∀ e, 2 ≤ e → e < d → ¬ e ∣ n) (hd : n < d * d) : Pr n := by
  refine ⟨h2, fun e h1 h3 h4 => ?_⟩
  obtain ⟨f, rfl⟩ := h4
  by_cases he : e < d
  · exact hs e h1 he ⟨f, rfl⟩
  · have hf : ¬ f < d := fun hf => by
      have f0 : f ≠ 0 := by
        rintro rfl
        simp at h2
      have f1 : f ≠ 1 := by
        rintro rfl
        simp at h3
      exact hs f (by omega) hf ⟨e, Nat.mul_comm _ _⟩
    have : d * d ≤ e * f := Nat.mul_le_mul (by omega) (by omega)
    omega
/-- the same where no prime is below d -/
theorem pr_of_root' {n d : Nat} (h2 : 2 ≤ n) (hs : ∀ q, Pr q → q ∣ n → d ≤ q) (hd : n < d * d) : Pr n := by
  refine pr_of_root h2 (fun e h1 h3 h4 => ?_) hd
  obtain ⟨q, hq, hqe⟩ := has_prime e e (Nat.le_refl _) h1
  have := hs q hq (Nat.dvd_trans hqe h4)
  have := Nat.le_of_dvd (by omega) hqe
  omega
/-! ### lists without doubles -/
theorem perm_of {α : Type} [BEq α] [LawfulBEq α] : ∀ (l m : List α), l.Nodup → (∀ x ∈ l, x ∈ m) → m.length ≤ l.length → l.Perm m
  | [], m, _, _, h => by
    have : m = [] := List.length_eq_zero_iff.mp (by simpa using h)
    rw [this]
  | a :: l, m, hn, hs, hl => by
    have ha : a ∈ m := hs a List.mem_cons_self
    have hp : m.Perm (a :: m.erase a) := List.perm_cons_erase ha
    have hn' := List.nodup_cons.mp hn
    have ih := perm_of l (m.erase a) hn'.2 (fun x hx => by
      have hxa : x ≠ a := fun e => hn'.1 (by rw [← e]; exact hx)
      exact (List.mem_erase_of_ne hxa).mpr (hs x (List.mem_cons_of_mem _ hx))) (by
      rw [List.length_erase_of_mem ha]
      simp only [List.length_cons] at hl
      omega)
    exact (ih.cons a).trans hp.symm
def prod : List Nat → Nat
  | [] => 1
  | a :: l => a * prod l
theorem prod_perm {l m : List Nat} (h : l.Perm m) : prod l = prod m := by
  induction h with
  | nil => rfl
  | cons a _ ih => simp only [prod, ih]
  | swap a b l => simp only [prod, Nat.mul_left_comm]
  | trans _ _ h1 h2 => rw [h1, h2]
theorem Pr.prod {p : Nat} (h : Pr p) : ∀ l : List Nat, (∀ x ∈ l, ¬ p ∣ x) → ¬ p ∣ G3.prod l
  | [], _ => fun hd => by
    have := Nat.le_of_dvd (by decide) hd
    have := h.1
    simp [G3.prod] at *
    omega
  | a :: l, hs => fun hd => by
    rcases h.mul hd with e | e
    · exact hs a List.mem_cons_self e
    · exact Pr.prod h l (fun x hx => hs x (List.mem_cons_of_mem _ hx)) e
theorem prod_mod (p a : Nat) : ∀ l : List Nat, G3.prod (l.map fun k => a * k % p) % p = a ^ l.length * G3.prod l % p
  | [] => by simp [G3.prod]
  | b :: l => by
    have ih := prod_mod p a l
    simp only [List.map_cons, G3.prod, List.length_cons]
    rw [Nat.mul_mod, Nat.mod_mod, ih, ← Nat.mul_mod]
    congr 1
    rw [Nat.pow_succ]
    simp only [Nat.mul_comm, Nat.mul_left_comm, Nat.mul_assoc]
/-! ### Fermat -/
theorem cancel_mod {p a x y : Nat} (h : Pr p) (ha : ¬ p ∣ a) (e : a * x % p = a * y % p) : x % p = y % p := by
  have key : ∀ x y : Nat, x ≤ y → a * x % p = a * y % p → x % p = y % p := fun x y hxy e => by
    have h1 : p ∣ a * y - a * x := Nat.dvd_of_mod_eq_zero (Nat.sub_mod_eq_zero_of_mod_eq e.symm)
    rw [← Nat.mul_sub] at h1
    rcases h.mul h1 with q | q
    · exact absurd q ha
    · obtain ⟨c, hc⟩ := q
      have hy : y = x + p * c := by omega
      rw [hy, Nat.add_mul_mod_self_left]
  rcases Nat.le_total x y with q | q
  · exact key x y q e
  · exact (key y x q e.symm).symm
theorem nodup_map {α β : Type} {f : α → β} : ∀ {l : List α}, l.Nodup → (∀ x ∈ l, ∀ y ∈ l, f x = f y → x = y) → (l.map f).Nodup
  | [], _, _ => List.nodup_nil
  | a :: l, hn, hi => by
    have hn' := List.nodup_cons.mp hn
    rw [List.map_cons]
    refine List.nodup_cons.mpr ⟨fun hm => ?_, nodup_map hn'.2 fun x hx y hy => hi x (List.mem_cons_of_mem _ hx) y (List.mem_cons_of_mem _ hy)⟩
    obtain ⟨b, hb, e⟩ := List.mem_map.mp hm
    have : b = a := hi b (List.mem_cons_of_mem _ hb) a List.mem_cons_self e
    exact hn'.1 (by rw [← this]; exact hb)
/-- 1, .., p - 1 -/
def units (p : Nat) : List Nat := List.range' 1 (p - 1)
theorem mem_units {p x : Nat} : x ∈ units p ↔ 1 ≤ x ∧ x < p := by
  unfold units
  rw [List.mem_range'_1]
  omega
theorem nodup_units (p : Nat) : (units p).Nodup := List.nodup_range'
theorem len_units (p : Nat) : (units p).length = p - 1 := List.length_range'
theorem not_dvd {p x : Nat} (h1 : 1 ≤ x) (h2 : x < p) : ¬ p ∣ x := fun h => by
  have := Nat.le_of_dvd (by omega) h
  omega
theorem fermat {p a : Nat} (h : Pr p) (ha : ¬ p ∣ a) : a ^ (p - 1) % p = 1 := by
  have h2 := h.1
  have inj : ∀ x ∈ units p, ∀ y ∈ units p, a * x % p = a * y % p → x = y := fun x hx y hy e => by
    have q := cancel_mod h ha e
    rw [Nat.mod_eq_of_lt (mem_units.mp hx).2, Nat.mod_eq_of_lt (mem_units.mp hy).2] at q
    exact q
  have nd : ((units p).map fun k => a * k % p).Nodup := nodup_map (nodup_units p) inj
  have sub : ∀ x ∈ (units p).map (fun k => a * k % p), x ∈ units p := fun x hx => by
    obtain ⟨k, hk, e⟩ := List.mem_map.mp hx
    have hk' := mem_units.mp hk
    subst e
    refine mem_units.mpr ⟨?_, Nat.mod_lt _ (by omega)⟩
    rcases Nat.eq_zero_or_pos (a * k % p) with z | z
    · rcases h.mul (Nat.dvd_of_mod_eq_zero z) with q | q
      · exact absurd q ha
      · exact absurd q (not_dvd hk'.1 hk'.2)
    · exact z
  have pm := perm_of _ _ nd sub (by rw [List.length_map]; exact Nat.le_refl _)
  have e1 := prod_mod p a (units p)
  rw [prod_perm pm, len_units] at e1
  have hP : ¬ p ∣ G3.prod (units p) := h.prod _ fun x hx => not_dvd (mem_units.mp hx).1 (mem_units.mp hx).2
  have e2 : G3.prod (units p) * 1 % p = G3.prod (units p) * a ^ (p - 1) % p := by rw [Nat.mul_one, e1, Nat.mul_comm]
  have e3 := cancel_mod h hP e2
  rw [← e3]
  exact Nat.mod_eq_of_lt (by omega)
/-- powers of powers of one -/
theorem pow_one_mod {p a d : Nat} (h1 : 1 < p) (h : a ^ d % p = 1) (k : Nat) : a ^ (d * k) % p = 1 := by
  rw [Nat.pow_mul, Nat.pow_mod, h, Nat.one_pow]
  exact Nat.mod_eq_of_lt h1
theorem pow_red {p a d : Nat} (h1 : 1 < p) (h : a ^ d % p = 1) (e : Nat) : a ^ e % p = a ^ (e % d) % p := by
  have q : e = d * (e / d) + e % d := (Nat.div_add_mod e d).symm
  have := pow_one_mod h1 h (e / d)
  conv => lhs; rw [q, Nat.pow_add, Nat.mul_mod, this, Nat.one_mul, Nat.mod_mod]
/-! ### sources -/
/-- the least exponent from 1 whose power is one -/
theorem least_exp {p a m : Nat} (hm : 1 ≤ m) (h : a ^ m % p = 1) : ∃ d, 1 ≤ d ∧ a ^ d % p = 1 ∧ ∀ k, 1 ≤ k → k < d → a ^ k % p ≠ 1 := by
  have key : ∀ n m : Nat, m ≤ n → 1 ≤ m → a ^ m % p = 1 → ∃ d, 1 ≤ d ∧ a ^ d % p = 1 ∧ ∀ k, 1 ≤ k → k < d → a ^ k % p ≠ 1 := by
    intro n
    induction n with
    | zero => intro m h1 h2; omega
    | succ n ih =>
      intro m h1 h2 h3
      by_cases q : ∃ k, 1 ≤ k ∧ k < m ∧ a ^ k % p = 1
      · obtain ⟨k, k1, k2, k3⟩ := q
        exact ih k (by omega) k1 k3
      · exact ⟨m, h2, h3, fun k k1 k2 k3 => q ⟨k, k1, k2, k3⟩⟩
  exact key m m (Nat.le_refl _) hm h
/-- what the program asks of a source: for every prime q that divides p - 1 -/
def Src (p g : Nat) : Prop := ∀ q, Pr q → q ∣ p - 1 → g ^ ((p - 1) / q) % p ≠ 1
theorem src_order {p g d : Nat} (h : Pr p) (hg : ¬ p ∣ g) (hs : Src p g) (hd : 1 ≤ d) (h1 : g ^ d % p = 1) (hl : ∀ k, 1 ≤ k → k < d → g ^ k % p ≠ 1) : p - 1 ≤ d := by
  have hp := h.1
  have f := fermat h hg
  have r := pow_red (by omega) h1 (p - 1)
  rw [f] at r
  have hdv : d ∣ p - 1 := by
    refine Nat.dvd_of_mod_eq_zero ?_
    rcases Nat.eq_zero_or_pos ((p - 1) % d) with z | z
    · exact z
    · exact absurd r.symm (hl _ z (Nat.mod_lt _ (by omega)))
  obtain ⟨c, hc⟩ := hdv
  by_cases c1 : c = 1
  · rw [hc, c1]
    omega
  · have c0 : c ≠ 0 := by
      rintro rfl
      omega
    obtain ⟨q, hq, hqc⟩ := has_prime c c (Nat.le_refl _) (by omega)
    obtain ⟨e, rfl⟩ := hqc
    have hq2 := hq.1
    have e1 : (p - 1) / q = d * e := by
      rw [hc, Nat.mul_left_comm]
      exact Nat.mul_div_cancel_left _ (by omega)
    refine absurd ?_ (hs q hq ⟨d * e, by rw [hc, Nat.mul_left_comm]⟩)
    rw [e1]
    exact pow_one_mod (by omega) h1 e
theorem pow_not_dvd {p g k : Nat} (h : Pr p) (hg : ¬ p ∣ g) : ¬ p ∣ g ^ k := fun hd => hg (h.pow hd)
/-- a source's powers are all numbers but zero -/
theorem src_all {p g n : Nat} (h : Pr p) (hg : ¬ p ∣ g) (hs : Src p g) (h1 : 1 ≤ n) (h2 : n < p) : ∃ k, k < p - 1 ∧ g ^ k % p = n := by
  have hp := h.1
  have f := fermat h hg
  obtain ⟨d, d1, d2, d3⟩ := least_exp (p := p) (a := g) (m := p - 1) (by omega) f
  have hd := src_order h hg hs d1 d2 d3
  have inj' : ∀ x y : Nat, x ≤ y → y < p - 1 → g ^ x % p = g ^ y % p → x = y := fun x y hxy hy e => by
    have e2 : g ^ x * 1 % p = g ^ x * g ^ (y - x) % p := by
      rw [Nat.mul_one, ← Nat.pow_add, show x + (y - x) = y by omega]
      exact e
    have e3 := cancel_mod h (pow_not_dvd h hg) e2
    rcases Nat.eq_zero_or_pos (y - x) with z | z
    · omega
    · refine absurd ?_ (d3 (y - x) z (by omega))
      rw [← e3]
      exact Nat.mod_eq_of_lt (by omega)
  have inj : ∀ x ∈ List.range (p - 1), ∀ y ∈ List.range (p - 1), g ^ x % p = g ^ y % p → x = y := fun x hx y hy e => by
    have hx' := List.mem_range.mp hx
    have hy' := List.mem_range.mp hy
    rcases Nat.le_total x y with q | q
    · exact inj' x y q hy' e
    · exact (inj' y x q hx' e.symm).symm
  have nd : ((List.range (p - 1)).map fun k => g ^ k % p).Nodup := nodup_map List.nodup_range inj
  have sub : ∀ x ∈ (List.range (p - 1)).map (fun k => g ^ k % p), x ∈ units p := fun x hx => by
    obtain ⟨k, hk, e⟩ := List.mem_map.mp hx
    subst e
    refine mem_units.mpr ⟨?_, Nat.mod_lt _ (by omega)⟩
    rcases Nat.eq_zero_or_pos (g ^ k % p) with z | z
    · exact absurd (Nat.dvd_of_mod_eq_zero z) (pow_not_dvd h hg)
    · exact z
  have pm := perm_of _ _ nd sub (by rw [List.length_map, List.length_range, len_units]; exact Nat.le_refl _)
  have hm : n ∈ (List.range (p - 1)).map fun k => g ^ k % p := pm.symm.subset (mem_units.mpr ⟨h1, h2⟩)
  obtain ⟨k, hk, e⟩ := List.mem_map.mp hm
  exact ⟨k, List.mem_range.mp hk, e⟩
end G3
/-! every prime below 20000 has a source: by reckoning -/
namespace G3
/-- some of 2, 3, .., 139 is a proper divisor -/
def smallPrimes : List Nat := [2, 3, 5, 7, 11, 13, 17, 19, 23, 29, 31, 37, 41, 43, 47, 53, 59, 61, 67, 71, 73, 79, 83, 89, 97, 101, 103, 107, 109, 113, 127, 131, 137, 139]
def divides (n : Nat) : List Nat → Bool
  | [] => false
  | d :: l => Nat.beq (Nat.mod n d) 0 && Nat.blt d n || divides n l
/-- no prime q that divides m = p - 1 has g ^ (m / q) = 1: the small ones among them, and what is left when they are taken out -/
def strip (d : Nat) : Nat → Nat → Nat
  | 0, m => m
  | k + 1, m => cond (Nat.beq (Nat.mod m d) 0) (strip d k (Nat.div m d)) m
def goodAt (p g m q : Nat) : Bool := not (Nat.beq (Nat.mod (Nat.pow g (Nat.div m q)) p) 1)
def good (p g m : Nat) : List Nat → Nat → Bool
  | [], r => Nat.ble r 1 || goodAt p g m r
  | d :: l, r => cond (Nat.beq (Nat.mod r d) 0) (goodAt p g m d && good p g m l (strip d 15 r)) (good p g m l r)
def seek (p m : Nat) : Nat → Nat → Bool
  | 0, _ => false
  | k + 1, g => good p g m smallPrimes m || seek p m k (Nat.add g 1)
def chk (p : Nat) : Bool := divides p smallPrimes || seek p (Nat.sub p 1) (cond (Nat.ble p 60) (Nat.sub p 1) 60) 1
def chkAll (lo : Nat) : Nat → Bool
  | 0 => true
  | k + 1 => chk (Nat.add lo k) && chkAll lo k
theorem c1 : chkAll 2 5000 = true := by decide +kernel
theorem c2 : chkAll 5002 5000 = true := by decide +kernel
theorem c3 : chkAll 10002 5000 = true := by decide +kernel
theorem c4 : chkAll 15002 5000 = true := by decide +kernel
theorem strip_pos {d : Nat} (hd : 2 ≤ d) : ∀ (k : Nat) {m : Nat}, 1 ≤ m → 1 ≤ strip d k m
  | 0, m, h => h
  | k + 1, m, h => by
    unfold strip
    cases e : Nat.beq (Nat.mod m d) 0 with
    | false => exact h
    | true =>
      have e1 : m % d = 0 := Nat.eq_of_beq_eq_true e
      refine strip_pos hd k ?_
      show 1 ≤ m / d
      exact Nat.div_pos (Nat.le_of_dvd (by omega) (Nat.dvd_of_mod_eq_zero e1)) (by omega)
theorem strip_dvd (d : Nat) : ∀ (k m : Nat), strip d k m ∣ m
  | 0, m => Nat.dvd_refl m
  | k + 1, m => by
    unfold strip
    cases e : Nat.beq (Nat.mod m d) 0 with
    | false => exact Nat.dvd_refl m
    | true =>
      have e1 : m % d = 0 := Nat.eq_of_beq_eq_true e
      have h2 : m / d ∣ m := ⟨d, by rw [Nat.mul_comm]; exact (Nat.mul_div_cancel' (Nat.dvd_of_mod_eq_zero e1)).symm⟩
      exact Nat.dvd_trans (strip_dvd d k (m / d)) h2
/-- behind so many turns d is gone -/
theorem strip_done {d : Nat} (hd : 2 ≤ d) : ∀ (k : Nat) {m : Nat}, 1 ≤ m → m < 2 ^ k → ¬ d ∣ strip d k m
  | 0, m, h, h2 => by simp at h2; omega
  | k + 1, m, h, h2 => by
    unfold strip
    cases e : Nat.beq (Nat.mod m d) 0 with
    | false =>
      intro hm
      have hm' : d ∣ m := hm
      exact Nat.ne_of_beq_eq_false e (Nat.mod_eq_zero_of_dvd hm')
    | true =>
      have e1 : m % d = 0 := Nat.eq_of_beq_eq_true e
      have h3 := Nat.mul_div_cancel' (Nat.dvd_of_mod_eq_zero e1)
      refine strip_done hd k (m := m / d) (Nat.div_pos (Nat.le_of_dvd (by omega) (Nat.dvd_of_mod_eq_zero e1)) (by omega)) ?_
      have h4 : 2 * (m / d) ≤ d * (m / d) := Nat.mul_le_mul_right _ hd
      rw [Nat.pow_succ] at h2
      omega
theorem strip_keep {d q : Nat} (hd : 2 ≤ d) (hq : Pr q) (hn : ¬ q ∣ d) : ∀ (k : Nat) {m : Nat}, q ∣ m → q ∣ strip d k m
  | 0, m, h => h
  | k + 1, m, h => by
    unfold strip
    cases e : Nat.beq (Nat.mod m d) 0 with
    | false => exact h
    | true =>
      have e1 : m % d = 0 := Nat.eq_of_beq_eq_true e
      have h3 := Nat.mul_div_cancel' (Nat.dvd_of_mod_eq_zero e1)
      refine strip_keep hd hq hn k ?_
      rw [← h3] at h
      rcases hq.mul h with z | z
      · exact absurd z hn
      · exact z
theorem good_ok {p g m : Nat} : ∀ (l : List Nat) (r : Nat), 1 ≤ r → r ≤ 20000 → (∀ d ∈ l, Pr d) → (∀ q, Pr q → q ∣ r → q ∈ l ∨ 149 ≤ q) → good p g m l r = true → ∀ q, Pr q → q ∣ r → goodAt p g m q = true
  | [], r, h1, h2, _, hl, hg, q, hq, hqr => by
    have hq2 := hq.1
    have hr2 : 2 ≤ r := Nat.le_trans hq2 (Nat.le_of_dvd (by omega) hqr)
    have pr : Pr r := pr_of_root' (d := 149) hr2 (fun q hq hqr => by
      rcases hl q hq hqr with z | z
      · exact absurd z (by simp)
      · exact z) (by omega)
    rcases pr.dvd hqr with z | z
    · omega
    · subst z
      unfold good at hg
      rcases Bool.or_eq_true_iff.mp hg with z | z
      · have := Nat.le_of_ble_eq_true z
        omega
      · exact z
  | d :: l, r, h1, h2, hd, hl, hg, q, hq, hqr => by
    have hdp : Pr d := hd d List.mem_cons_self
    have hd2 : 2 ≤ d := hdp.1
    unfold good at hg
    cases e : Nat.beq (Nat.mod r d) 0 with
    | false =>
      rw [e] at hg
      have hn : ¬ d ∣ r := fun hm => Nat.ne_of_beq_eq_false e (Nat.mod_eq_zero_of_dvd hm)
      refine good_ok l r h1 h2 (fun x hx => hd x (List.mem_cons_of_mem _ hx)) (fun u hu hur => ?_) hg q hq hqr
      rcases hl u hu hur with z | z
      · rcases List.mem_cons.mp z with y | y
        · exact absurd (by rw [← y]; exact hur) hn
        · exact .inl y
      · exact .inr z
    | true =>
      rw [e] at hg
      obtain ⟨g1, g2⟩ := Bool.and_eq_true_iff.mp (show (goodAt p g m d && good p g m l (strip d 15 r)) = true from hg)
      by_cases hqd : q ∣ d
      · rcases hdp.dvd hqd with z | z
        · have := hq.1
          omega
        · rw [z]
          exact g1
      · refine good_ok l (strip d 15 r) (strip_pos hd2 15 h1) (Nat.le_trans (Nat.le_of_dvd (by omega) (strip_dvd d 15 r)) h2) (fun x hx => hd x (List.mem_cons_of_mem _ hx)) (fun u hu hur => ?_) g2 q hq (strip_keep hd2 hq hqd 15 hqr)
        have hur2 := Nat.dvd_trans hur (strip_dvd d 15 r)
        rcases hl u hu hur2 with z | z
        · rcases List.mem_cons.mp z with y | y
          · rw [y] at hur
            exact absurd hur (strip_done hd2 15 h1 (by omega))
          · exact .inl y
        · exact .inr z
theorem isPr_of {p : Nat} (h2 : 2 ≤ p) (h : (List.range p).all (fun d => decide (d < 2) || !decide (p % d = 0)) = true) : Pr p := by
  refine ⟨h2, fun d h1 h3 h4 => ?_⟩
  have := List.all_eq_true.mp h d (List.mem_range.mpr h3)
  have e : p % d = 0 := Nat.mod_eq_zero_of_dvd h4
  simp [e] at this
  omega
def prB (p : Nat) : Bool := decide (2 ≤ p) && (List.range p).all fun d => decide (d < 2) || !decide (p % d = 0)
theorem pr_iff {p : Nat} : prB p = true ↔ Pr p := by
  constructor
  · intro h
    obtain ⟨h1, h2⟩ := Bool.and_eq_true_iff.mp h
    exact isPr_of (of_decide_eq_true h1) h2
  · intro h
    refine Bool.and_eq_true_iff.mpr ⟨decide_eq_true h.1, List.all_eq_true.mpr fun d hd => ?_⟩
    by_cases h2 : d < 2
    · simp [h2]
    · have : ¬ p % d = 0 := fun e => h.2 d (by omega) (List.mem_range.mp hd) (Nat.dvd_of_mod_eq_zero e)
      simp [this]
instance (p : Nat) : Decidable (Pr p) := decidable_of_iff (prB p = true) pr_iff
theorem small_pr : ∀ d ∈ smallPrimes, Pr d := fun d hd => pr_iff.mp (List.all_eq_true.mp (show smallPrimes.all prB = true by decide +kernel) d hd)
theorem small_all {q : Nat} (hq : Pr q) : q ∈ smallPrimes ∨ 149 ≤ q := by
  by_cases h : 149 ≤ q
  · exact .inr h
  · refine .inl ?_
    have e : (List.range 149).all (fun q => !prB q || smallPrimes.contains q) = true := by decide +kernel
    have e2 := List.all_eq_true.mp e q (List.mem_range.mpr (by omega))
    rw [pr_iff.mpr hq] at e2
    simpa using e2
theorem divides_ok {n : Nat} : ∀ {l : List Nat}, divides n l = true → ∃ d ∈ l, d ∣ n ∧ d < n
  | [], h => by cases h
  | d :: l, h => by
    unfold divides at h
    rcases Bool.or_eq_true_iff.mp h with z | z
    · obtain ⟨z1, z2⟩ := Bool.and_eq_true_iff.mp z
      exact ⟨d, List.mem_cons_self, Nat.dvd_of_mod_eq_zero (Nat.eq_of_beq_eq_true z1), Nat.le_of_ble_eq_true z2⟩
    · obtain ⟨e, he, h1⟩ := divides_ok z
      exact ⟨e, List.mem_cons_of_mem _ he, h1⟩
theorem seek_ok {p m : Nat} : ∀ {k g : Nat}, seek p m k g = true → ∃ g', g ≤ g' ∧ g' < g + k ∧ good p g' m smallPrimes m = true
  | 0, g, h => by cases h
  | k + 1, g, h => by
    unfold seek at h
    rcases Bool.or_eq_true_iff.mp h with z | z
    · exact ⟨g, Nat.le_refl _, by omega, z⟩
    · obtain ⟨g', h1, h2, h3⟩ := seek_ok z
      have h1' : g + 1 ≤ g' := h1
      have h2' : g' < g + 1 + k := h2
      exact ⟨g', by omega, by omega, h3⟩
theorem chkAll_ok {lo : Nat} : ∀ {k p : Nat}, chkAll lo k = true → lo ≤ p → p < lo + k → chk p = true
  | 0, p, _, h1, h2 => by omega
  | k + 1, p, h, h1, h2 => by
    unfold chkAll at h
    obtain ⟨z1, z2⟩ := Bool.and_eq_true_iff.mp h
    by_cases e : p = lo + k
    · rw [e]
      exact z1
    · exact chkAll_ok z2 h1 (by omega)
theorem chk_every {p : Nat} (h1 : 2 ≤ p) (h2 : p ≤ 20000) : chk p = true := by
  by_cases a : p < 5002
  · exact chkAll_ok c1 h1 (by omega)
  · by_cases b : p < 10002
    · exact chkAll_ok c2 (by omega) (by omega)
    · by_cases c : p < 15002
      · exact chkAll_ok c3 (by omega) (by omega)
      · exact chkAll_ok c4 (by omega) (by omega)
/-- THE SOURCE -/
theorem has_src {p : Nat} (h : Pr p) (h2 : p ≤ 20000) : ∃ g, 1 ≤ g ∧ g < p ∧ Src p g := by
  have hp := h.1
  by_cases e2 : p = 2
  · subst e2
    refine ⟨1, by omega, by omega, fun q hq hd => ?_⟩
    have := hq.1
    have := Nat.le_of_dvd (by omega) hd
    omega
  · have c := chk_every hp h2
    unfold chk at c
    rcases Bool.or_eq_true_iff.mp c with z | z
    · obtain ⟨d, hd, h3, h4⟩ := divides_ok z
      have := (small_pr d hd).1
      exact absurd h3 (h.2 d this h4)
    · obtain ⟨g, g1, g2, g3⟩ := seek_ok z
      have g3' : good p g (p - 1) smallPrimes (p - 1) = true := g3
      have k := good_ok smallPrimes (p - 1) (by omega) (by omega) small_pr (fun q hq _ => small_all hq) g3'
      have s : Src p g := fun q hq hd e => by
        have := k q hq hd
        unfold goodAt at this
        have e' : Nat.mod (Nat.pow g (Nat.div (p - 1) q)) p = 1 := e
        rw [e'] at this
        cases this
      refine ⟨g, g1, ?_, s⟩
      cases e : Nat.ble p 60 with
      | true =>
        rw [e] at g2
        have g2' : g < 1 + (p - 1) := g2
        omega
      | false =>
        rw [e] at g2
        have g2' : g < 1 + 60 := g2
        have : ¬ p ≤ 60 := fun q => by
          rw [Nat.ble_eq_true_of_le q] at e
          cases e
        omega
end G3
/-! fractions in lowest terms, powers -/
namespace G3
/-! ### lowest terms -/
def sg (t b : Int) : Int := if b < 0 then -(Int.gcd t b : Int) else (Int.gcd t b : Int)
def low (t b : Int) : Int × Int := (t.fdiv (sg t b), b.fdiv (sg t b))
def IsFr (x : Int × Int) : Prop := 0 < x.2 ∧ Int.gcd x.1 x.2 = 1
theorem gcd_pos {t b : Int} (h : b ≠ 0) : 0 < Int.gcd t b := Int.gcd_pos_of_ne_zero_right t h
theorem sg_ne {t b : Int} (h : b ≠ 0) : sg t b ≠ 0 := by
  have := gcd_pos (t := t) h
  unfold sg
  split <;> omega
theorem sg_abs (t b : Int) : (sg t b).natAbs = Int.gcd t b := by
  unfold sg
  split <;> omega
theorem low_mul {t b : Int} (h : b ≠ 0) : t = sg t b * (low t b).1 ∧ b = sg t b * (low t b).2 := by
  have hs := sg_ne (t := t) h
  have d1 : sg t b ∣ t := by
    unfold sg
    split
    · exact Int.neg_dvd.mpr (Int.gcd_dvd_left ..)
    · exact Int.gcd_dvd_left ..
  have d2 : sg t b ∣ b := by
    unfold sg
    split
    · exact Int.neg_dvd.mpr (Int.gcd_dvd_right ..)
    · exact Int.gcd_dvd_right ..
  constructor
  · show t = sg t b * t.fdiv (sg t b)
    rw [Int.fdiv_eq_ediv_of_dvd d1]
    exact (Int.mul_ediv_cancel' d1).symm
  · show b = sg t b * b.fdiv (sg t b)
    rw [Int.fdiv_eq_ediv_of_dvd d2]
    exact (Int.mul_ediv_cancel' d2).symm
theorem low_fr {t b : Int} (h : b ≠ 0) : IsFr (low t b) := by
  obtain ⟨e1, e2⟩ := low_mul (t := t) h
  have g := gcd_pos (t := t) h
  constructor
  · have : sg t b * (low t b).2 * sg t b = b * sg t b := by rw [← e2]
    rcases Int.lt_or_gt_of_ne h with q | q
    · have hs : sg t b < 0 := by
        unfold sg
        rw [if_pos q]
        omega
      rcases Int.lt_trichotomy (low t b).2 0 with z | z | z
      · have := Int.mul_pos_of_neg_of_neg hs z
        omega
      · rw [z] at e2
        simp at e2
        omega
      · exact z
    · have hs : 0 < sg t b := by
        unfold sg
        rw [if_neg (by omega)]
        omega
      rcases Int.lt_trichotomy (low t b).2 0 with z | z | z
      · have := Int.mul_neg_of_pos_of_neg hs z
        omega
      · rw [z] at e2
        simp at e2
        omega
      · exact z
  · have e : Int.gcd t b = (sg t b).natAbs * Int.gcd (low t b).1 (low t b).2 := by
      have q := Int.gcd_mul_left (sg t b) (low t b).1 (low t b).2
      rw [← e1, ← e2] at q
      exact q
    rw [sg_abs] at e
    have : Int.gcd t b * Int.gcd (low t b).1 (low t b).2 = Int.gcd t b * 1 := by rw [← e, Nat.mul_one]
    exact Nat.eq_of_mul_eq_mul_left g this
theorem low_cross {t b : Int} (h : b ≠ 0) : (low t b).1 * b = t * (low t b).2 := by
  obtain ⟨e1, e2⟩ := low_mul (t := t) h
  generalize hx : low t b = x at *
  generalize sg t b = s at *
  rw [e1, e2]
  simp only [Int.mul_comm, Int.mul_left_comm]
theorem cop_dvd {a b d : Int} (h : Int.gcd a b = 1) (hd : b ∣ a * d) : b ∣ d := by
  have h2 : Nat.Coprime b.natAbs a.natAbs := Nat.Coprime.symm h
  have h3 : b.natAbs ∣ a.natAbs * d.natAbs := by
    rw [← Int.natAbs_mul]
    exact Int.natAbs_dvd_natAbs.mpr hd
  exact Int.natAbs_dvd_natAbs.mp (h2.dvd_of_dvd_mul_left h3)
theorem fr_unique {x y : Int × Int} (hx : IsFr x) (hy : IsFr y) (h : x.1 * y.2 = y.1 * x.2) : x = y := by
  obtain ⟨a, b⟩ := x
  obtain ⟨c, d⟩ := y
  obtain ⟨h1, h2⟩ := hx
  obtain ⟨h3, h4⟩ := hy
  simp only at *
  have d1 : b ∣ d := by
    have : b ∣ a * d := ⟨c, by rw [h, Int.mul_comm]⟩
    exact cop_dvd h2 this
  have d2 : d ∣ b := by
    have : d ∣ c * b := ⟨a, by rw [← h, Int.mul_comm]⟩
    exact cop_dvd h4 this
  have e : b = d := Int.dvd_antisymm (by omega) (by omega) d1 d2
  subst e
  have : a = c := Int.eq_of_mul_eq_mul_right (by omega) h
  rw [this]
theorem low_is {t b : Int} (h : b ≠ 0) {x : Int × Int} (hx : IsFr x) (e : x.1 * b = t * x.2) : low t b = x := by
  have hl := low_fr (t := t) h
  have hc := low_cross (t := t) h
  refine fr_unique hl hx ?_
  refine Int.eq_of_mul_eq_mul_right h ?_
  rw [Int.mul_right_comm, hc, Int.mul_right_comm, Int.mul_right_comm x.1, e, Int.mul_right_comm]
theorem low_self {x : Int × Int} (hx : IsFr x) : low x.1 x.2 = x := low_is (by have := hx.1; omega) hx rfl
theorem low_le {t b : Int} (h : b ≠ 0) : (low t b).1.natAbs ≤ t.natAbs ∧ (low t b).2.natAbs ≤ b.natAbs := by
  obtain ⟨e1, e2⟩ := low_mul (t := t) h
  have hs : 1 ≤ (sg t b).natAbs := by
    have := sg_ne (t := t) h
    omega
  constructor
  · have q := congrArg Int.natAbs e1
    rw [Int.natAbs_mul] at q
    rw [q]
    exact Nat.le_mul_of_pos_left _ hs
  · have q := congrArg Int.natAbs e2
    rw [Int.natAbs_mul] at q
    rw [q]
    exact Nat.le_mul_of_pos_left _ hs
/-! ### powers of fractions -/
def frPow (x : Int × Int) (n : Nat) : Int × Int := (x.1 ^ n, x.2 ^ n)
theorem frPow_fr {x : Int × Int} (hx : IsFr x) (n : Nat) : IsFr (frPow x n) := by
  constructor
  · exact Int.pow_pos hx.1
  · show Int.gcd (x.1 ^ n) (x.2 ^ n) = 1
    have h := hx.2
    unfold Int.gcd at *
    rw [Int.natAbs_pow, Int.natAbs_pow]
    exact Nat.Coprime.pow n n h
theorem frPow_mul {x : Int × Int} (hx : IsFr x) (m n : Nat) : low ((frPow x m).1 * (frPow x n).1) ((frPow x m).2 * (frPow x n).2) = frPow x (m + n) := by
  have e : ((frPow x m).1 * (frPow x n).1, (frPow x m).2 * (frPow x n).2) = frPow x (m + n) := by
    unfold frPow
    rw [Int.pow_add, Int.pow_add]
  have e1 := congrArg Prod.fst e
  have e2 := congrArg Prod.snd e
  simp only at e1 e2
  rw [e1, e2]
  exact low_self (frPow_fr hx _)
/-- the inverse's power, in lowest terms -/
theorem frPow_neg {x : Int × Int} (h0 : x.1 ≠ 0) (n : Nat) : low (x.2 ^ n) (x.1 ^ n) = frPow (low x.2 x.1) n := by
  have hb : IsFr (low x.2 x.1) := low_fr h0
  have hc := low_cross (t := x.2) h0
  refine low_is (Int.pow_ne_zero h0) (frPow_fr hb n) ?_
  show (low x.2 x.1).1 ^ n * x.1 ^ n = x.2 ^ n * (low x.2 x.1).2 ^ n
  rw [← Int.mul_pow, ← Int.mul_pow, hc]
/-! ### modulo a prime, in whole numbers -/
theorem pow_cast (a n p : Nat) : ((a : Int) ^ n) % (p : Int) = ((a ^ n % p : Nat) : Int) := by
  rw [Int.natCast_emod, Int.natCast_pow]
theorem fermatZ {p : Nat} (h : Pr p) {a : Int} (h0 : 0 < a) (h1 : a < p) : a ^ (p - 1) % (p : Int) = 1 := by
  obtain ⟨n, rfl⟩ : ∃ n : Nat, a = (n : Int) := ⟨a.toNat, by omega⟩
  rw [pow_cast, fermat h (not_dvd (by omega) (by omega))]
  rfl
theorem pow_redZ {p : Nat} (h : Pr p) {a : Int} (h0 : 0 < a) (h1 : a < p) (e : Nat) : a ^ e % (p : Int) = a ^ (e % (p - 1)) % (p : Int) := by
  have h2 := h.1
  obtain ⟨n, rfl⟩ : ∃ n : Nat, a = (n : Int) := ⟨a.toNat, by omega⟩
  rw [pow_cast, pow_cast, pow_red (by omega) (fermat h (not_dvd (by omega) (by omega))) e]
theorem pow_modZ (a : Int) (n : Nat) (p : Int) : (a % p) ^ n % p = a ^ n % p := by
  induction n with
  | zero => simp
  | succ n ih => rw [Int.pow_succ, Int.pow_succ, Int.mul_emod, ih, Int.emod_emod, ← Int.mul_emod]
/-- the program's exponent, taken modulo p - 1 -/
def redE (p : Nat) (e : Int) : Nat := (e % ((p : Int) - 1)).toNat
theorem redE_nat {p : Nat} (h : 2 ≤ p) (e : Nat) : redE p (e : Int) = e % (p - 1) := by
  unfold redE
  have : (p : Int) - 1 = ((p - 1 : Nat) : Int) := by omega
  rw [this, ← Int.natCast_emod]
  exact Int.toNat_natCast _
theorem redE_neg {p : Nat} (h : 2 ≤ p) (n : Nat) : redE p (-(n : Int)) = (p - 2) * n % (p - 1) := by
  rw [← redE_nat h]
  unfold redE
  have e : (((p - 2) * n : Nat) : Int) = -(n : Int) + (n : Int) * ((p : Int) - 1) := by
    rw [Int.natCast_mul, show ((p - 2 : Nat) : Int) = (p : Int) - 2 by omega, Int.mul_sub, Int.sub_mul, Int.mul_comm (n : Int) (p : Int)]
    omega
  rw [e, Int.add_mul_emod_self_right]
theorem raise_pos {p : Nat} (h : Pr p) {a : Int} (h0 : 0 < a) (h1 : a < p) {e : Int} (he : 0 ≤ e) : a ^ redE p e % (p : Int) = a ^ e.toNat % (p : Int) := by
  obtain ⟨n, rfl⟩ : ∃ n : Nat, e = (n : Int) := ⟨e.toNat, by omega⟩
  rw [redE_nat h.1, Int.toNat_natCast]
  exact (pow_redZ h h0 h1 n).symm
theorem raise_neg {p : Nat} (h : Pr p) {a : Int} (h0 : 0 < a) (h1 : a < p) {e : Int} (he : e < 0) : a ^ redE p e % (p : Int) = (a ^ (p - 2) % (p : Int)) ^ e.natAbs % (p : Int) := by
  obtain ⟨n, rfl⟩ : ∃ n : Nat, e = -(n : Int) := ⟨e.natAbs, by omega⟩
  rw [redE_neg h.1, pow_modZ, ← Int.pow_mul, Int.natAbs_neg, Int.natAbs_natCast]
  exact (pow_redZ h h0 h1 _).symm
theorem div_back {p : Nat} (h : Pr p) {a b : Int} (h0 : 0 < b) (h1 : b < p) (ha0 : 0 ≤ a) (ha1 : a < p) : (a * (b ^ redE p (-1) % (p : Int)) % (p : Int)) * b % (p : Int) = a := by
  have h2 := h.1
  have e : redE p (-1) + 1 = p - 1 := by
    have := redE_neg h2 1
    rw [show (-((1 : Nat) : Int)) = -1 by rfl, Nat.mul_one, Nat.mod_eq_of_lt (by omega)] at this
    omega
  have f := fermatZ h h0 h1
  rw [← e, Int.pow_succ] at f
  rw [Int.mul_emod, Int.emod_emod, ← Int.mul_emod, Int.mul_assoc, Int.mul_emod, Int.mul_emod (b ^ redE p (-1) % (p : Int)), Int.emod_emod, ← Int.mul_emod (b ^ redE p (-1)), f]
  have e1 : (1 : Int) % (p : Int) = 1 := Int.emod_eq_of_lt (by omega) (by omega)
  rw [Int.mul_one, Int.emod_emod]
  exact Int.emod_eq_of_lt ha0 ha1
/-! ### numbers of a field: the prime, 0 for the fractions; modulo a prime the bottom is 1 -/
abbrev Nb := Int × Int
def IsN (p : Nat) (x : Nb) : Prop := if p = 0 then IsFr x else 0 ≤ x.1 ∧ x.1 < p ∧ x.2 = 1
def nPlus (p : Nat) (x y : Nb) : Nb := if p = 0 then low (x.1 * y.2 + y.1 * x.2) (x.2 * y.2) else ((x.1 + y.1) % (p : Int), 1)
def nLess (p : Nat) (x y : Nb) : Nb := if p = 0 then low (x.1 * y.2 - y.1 * x.2) (x.2 * y.2) else ((x.1 - y.1) % (p : Int), 1)
def nTimes (p : Nat) (x y : Nb) : Nb := if p = 0 then low (x.1 * y.1) (x.2 * y.2) else ((x.1 * y.1) % (p : Int), 1)
def nPow (p : Nat) (x : Nb) (n : Nat) : Nb := if p = 0 then frPow x n else (x.1 ^ n % (p : Int), 1)
def nMinus (p : Nat) : Nb := if p = 0 then (-1, 1) else ((p : Int) - 1, 1)
/-- 0 or a prime -/
def Fp (p : Nat) : Prop := p = 0 ∨ (Pr p ∧ p ≤ 20000)
theorem Fp.two {p : Nat} (h : Fp p) (h0 : p ≠ 0) : 2 ≤ p := (h.resolve_left h0).1.1
section
variable {p : Nat} {x y : Nb}
theorem isN_mod (hp : Fp p) (h0 : p ≠ 0) (a : Int) : IsN p (a % (p : Int), 1) := by
  have := hp.two h0
  unfold IsN
  rw [if_neg h0]
  exact ⟨Int.emod_nonneg _ (by omega), Int.emod_lt_of_pos _ (by omega), rfl⟩
theorem isN_plus (hp : Fp p) (hx : IsN p x) (hy : IsN p y) : IsN p (nPlus p x y) := by
  by_cases h0 : p = 0
  · subst h0
    have hx' : IsFr x := hx
    have hy' : IsFr y := hy
    exact low_fr (by have := Int.mul_pos hx'.1 hy'.1; omega)
  · unfold nPlus
    rw [if_neg h0]
    exact isN_mod hp h0 _
theorem isN_less (hp : Fp p) (hx : IsN p x) (hy : IsN p y) : IsN p (nLess p x y) := by
  by_cases h0 : p = 0
  · subst h0
    have hx' : IsFr x := hx
    have hy' : IsFr y := hy
    exact low_fr (by have := Int.mul_pos hx'.1 hy'.1; omega)
  · unfold nLess
    rw [if_neg h0]
    exact isN_mod hp h0 _
theorem isN_times (hp : Fp p) (hx : IsN p x) (hy : IsN p y) : IsN p (nTimes p x y) := by
  by_cases h0 : p = 0
  · subst h0
    have hx' : IsFr x := hx
    have hy' : IsFr y := hy
    exact low_fr (by have := Int.mul_pos hx'.1 hy'.1; omega)
  · unfold nTimes
    rw [if_neg h0]
    exact isN_mod hp h0 _
theorem isN_pow (hp : Fp p) (hx : IsN p x) (n : Nat) : IsN p (nPow p x n) := by
  by_cases h0 : p = 0
  · subst h0
    exact frPow_fr hx n
  · unfold nPow
    rw [if_neg h0]
    exact isN_mod hp h0 _
theorem isN_one (hp : Fp p) : IsN p (1, 1) := by
  unfold IsN
  split
  · exact ⟨by decide, by decide⟩
  · rename_i h
    have := hp.two h
    exact ⟨by decide, by omega, rfl⟩
theorem isN_zero (hp : Fp p) : IsN p (0, 1) := by
  unfold IsN
  split
  · exact ⟨by decide, by decide⟩
  · rename_i h
    have := hp.two h
    exact ⟨by decide, by omega, rfl⟩
theorem isN_minus (hp : Fp p) : IsN p (nMinus p) := by
  unfold IsN nMinus
  split
  · exact ⟨by decide, by decide⟩
  · rename_i h
    have := hp.two h
    exact ⟨by omega, by omega, rfl⟩
theorem nPow_mul (hx : IsN p x) (m n : Nat) : nTimes p (nPow p x m) (nPow p x n) = nPow p x (m + n) := by
  unfold nTimes nPow
  by_cases h0 : p = 0
  · subst h0
    rw [if_pos rfl, if_pos rfl, if_pos rfl, if_pos rfl]
    exact frPow_mul hx m n
  · rw [if_neg h0, if_neg h0, if_neg h0, if_neg h0]
    have e : (x.1 ^ m % (p : Int)) * (x.1 ^ n % (p : Int)) % (p : Int) = x.1 ^ (m + n) % (p : Int) := by rw [← Int.mul_emod, Int.pow_add]
    rw [e]
theorem nPow_zero (hp : Fp p) : nPow p x 0 = (1, 1) := by
  unfold nPow
  by_cases h0 : p = 0
  · rw [if_pos h0]
    unfold frPow
    rw [Int.pow_zero, Int.pow_zero]
  · have := hp.two h0
    rw [if_neg h0, Int.pow_zero, Int.emod_eq_of_lt (by decide) (by omega)]
theorem nPow_one (hx : IsN p x) : nPow p x 1 = x := by
  unfold nPow
  by_cases h0 : p = 0
  · rw [if_pos h0]
    unfold frPow
    rw [Int.pow_succ, Int.pow_succ, Int.pow_zero, Int.pow_zero, Int.one_mul, Int.one_mul]
  · unfold IsN at hx
    rw [if_neg h0] at hx ⊢
    obtain ⟨h1, h2, h3⟩ := hx
    rw [Int.pow_succ, Int.pow_zero, Int.one_mul, Int.emod_eq_of_lt h1 h2, ← h3]
/-- the law's power, of any exponent -/
def nRaise (p : Nat) (x : Nb) (e : Int) : Nb := if e < 0 then nPow p (if p = 0 then low x.2 x.1 else nPow p x (p - 2)) e.natAbs else nPow p x e.toNat
/-- the program's power of a number other than zero is the law's -/
theorem raise_mod (hp : Fp p) (h0 : p ≠ 0) (hx : IsN p x) (hz : x.1 ≠ 0) (e : Int) : nRaise p x e = (x.1 ^ redE p e % (p : Int), 1) := by
  have pr := (hp.resolve_left h0).1
  unfold IsN at hx
  rw [if_neg h0] at hx
  unfold nRaise nPow
  rw [if_neg h0, if_neg h0, if_neg h0, if_neg h0]
  split
  · rename_i he
    rw [raise_neg pr (by omega) (by omega) he]
  · rename_i he
    rw [raise_pos pr (by omega) (by omega) (by omega)]
theorem raise_fr (hx : IsN 0 x) (hz : x.1 ≠ 0) (e : Int) : nRaise 0 x e = if e < 0 then low (x.2 ^ e.natAbs) (x.1 ^ e.natAbs) else (x.1 ^ e.toNat, x.2 ^ e.toNat) := by
  unfold nRaise nPow
  rw [if_pos rfl, if_pos rfl, if_pos rfl]
  split
  · rw [frPow_neg hz]
  · rfl
/-- the quotient, times the divisor -/
theorem quot_fr (hx : IsN 0 x) (hy : IsN 0 y) (hz : y.1 ≠ 0) : nTimes 0 (low (x.1 * y.2) (x.2 * y.1)) y = x ∧ IsN 0 (low (x.1 * y.2) (x.2 * y.1)) := by
  have hx' : IsFr x := hx
  have hy' : IsFr y := hy
  have hb : x.2 * y.1 ≠ 0 := Int.mul_ne_zero (by have := hx'.1; omega) hz
  have hq : IsFr (low (x.1 * y.2) (x.2 * y.1)) := low_fr hb
  have hc := low_cross (t := x.1 * y.2) hb
  refine ⟨?_, hq⟩
  unfold nTimes
  rw [if_pos rfl]
  generalize low (x.1 * y.2) (x.2 * y.1) = q at *
  refine low_is (by have := Int.mul_pos hq.1 hy'.1; omega) hx' ?_
  have e : q.1 * (x.2 * y.1) = x.1 * (q.2 * y.2) := by rw [hc, Int.mul_assoc, Int.mul_comm y.2]
  rw [← e]
  simp only [Int.mul_comm, Int.mul_left_comm]
theorem quot_mod (hp : Fp p) (h0 : p ≠ 0) (hx : IsN p x) (hy : IsN p y) (hz : y.1 ≠ 0) : nTimes p (x.1 * (y.1 ^ redE p (-1) % (p : Int)) % (p : Int), 1) y = x := by
  have pr := (hp.resolve_left h0).1
  unfold IsN at hx hy
  rw [if_neg h0] at hx hy
  unfold nTimes
  rw [if_neg h0, div_back pr (by omega) (by omega) hx.1 hx.2.1, ← hx.2.2]
end
end G3
/-! the divisors' lists, Euclid's turns -/
namespace G3
/-! ### the primes that divide n -/
def PD (n : Nat) (ds : List Nat) : Prop := ∀ q, q ∈ ds ↔ Pr q ∧ q ∣ n
structure PDI (n : Nat) (out : List Nat) (left d : Nat) : Prop where
  pos : 1 ≤ left
  dv : left ∣ n
  ok : ∀ q ∈ out, Pr q ∧ q ∣ n
  all : ∀ q, Pr q → q ∣ n → q ∈ out ∨ q ∣ left
  low : ∀ q, Pr q → q ∣ left → d ≤ q
structure Mid (l d l' : Nat) : Prop where
  pos : 1 ≤ l'
  dv : l' ∣ l
  all : ∀ q, Pr q → q ∣ l → q = d ∨ q ∣ l'
section
variable {n left d l l' : Nat} {out : List Nat}
theorem PDI.start (h : 1 ≤ n) : PDI n [] n 2 := ⟨h, Nat.dvd_refl n, fun _ hq => (nomatch hq), fun _ _ hd => .inr hd, fun _ hq _ => hq.1⟩
theorem PDI.skip (I : PDI n out left d) (h : ¬ d ∣ left) : PDI n out left (d + 1) := ⟨I.pos, I.dv, I.ok, I.all, fun q hq hd => by
  have := I.low q hq hd
  have : q ≠ d := fun e => h (by rw [← e]; exact hd)
  omega⟩
theorem PDI.prime (I : PDI n out left d) (h2 : 2 ≤ d) (h : d ∣ left) : Pr d := by
  obtain ⟨q, hq, hd⟩ := has_prime d d (Nat.le_refl _) h2
  have h1 := I.low q hq (Nat.dvd_trans hd h)
  have h3 := Nat.le_of_dvd (by omega) hd
  have : q = d := by omega
  rw [← this]
  exact hq
theorem Mid.start (h : 1 ≤ l) : Mid l d l := ⟨h, Nat.dvd_refl l, fun _ _ hd => .inr hd⟩
theorem Mid.step (hp : Pr d) (I : Mid l d l') (h : d ∣ l') : Mid l d (l' / d) := by
  have e := Nat.mul_div_cancel' h
  have h2 := hp.1
  refine ⟨Nat.div_pos (Nat.le_of_dvd I.pos h) (by omega), Nat.dvd_trans ⟨d, by rw [Nat.mul_comm]; exact e.symm⟩ I.dv, fun q hq hd => ?_⟩
  rcases I.all q hq hd with z | z
  · exact .inl z
  · rw [← e] at z
    rcases hq.mul z with y | y
    · rcases hp.dvd y with x | x
      · have := hq.1
        omega
      · exact .inl x
    · exact .inr y
theorem PDI.take (I : PDI n out left d) (h2 : 2 ≤ d) (h : d ∣ left) (J : Mid left d l') (hn : ¬ d ∣ l') : PDI n (out ++ [d]) l' (d + 1) := by
  have hp := I.prime h2 h
  refine ⟨J.pos, Nat.dvd_trans J.dv I.dv, fun q hq => ?_, fun q hq hd => ?_, fun q hq hd => ?_⟩
  · rcases List.mem_append.mp hq with z | z
    · exact I.ok q z
    · have e : q = d := by simpa using z
      rw [e]
      exact ⟨hp, Nat.dvd_trans h I.dv⟩
  · rcases I.all q hq hd with z | z
    · exact .inl (List.mem_append_left _ z)
    · rcases J.all q hq z with y | y
      · exact .inl (List.mem_append_right _ (by simp [y]))
      · exact .inr y
  · have := I.low q hq (Nat.dvd_trans hd J.dv)
    have : q ≠ d := fun e => hn (by rw [← e]; exact hd)
    omega
theorem PDI.done1 (I : PDI n out left d) (h : left < d * d) (h1 : 1 < left) : PD n (out ++ [left]) := by
  have hp : Pr left := pr_of_root' h1 I.low h
  intro q
  constructor
  · intro hq
    rcases List.mem_append.mp hq with z | z
    · exact I.ok q z
    · have e : q = left := by simpa using z
      rw [e]
      exact ⟨hp, I.dv⟩
  · rintro ⟨hq, hd⟩
    rcases I.all q hq hd with z | z
    · exact List.mem_append_left _ z
    · rcases hp.dvd z with y | y
      · have := hq.1
        omega
      · exact List.mem_append_right _ (by simp [y])
theorem PDI.done0 (I : PDI n out left d) (h1 : ¬ 1 < left) : PD n out := by
  have e : left = 1 := by
    have := I.pos
    omega
  intro q
  constructor
  · exact I.ok q
  · rintro ⟨hq, hd⟩
    rcases I.all q hq hd with z | z
    · exact z
    · have := hq.1
      have := Nat.le_of_dvd (by omega) z
      omega
theorem PD.src {p g : Nat} {ds : List Nat} (h : PD (p - 1) ds) : Src p g ↔ ∀ q ∈ ds, g ^ ((p - 1) / q) % p ≠ 1 :=
  ⟨fun s q hq => s q ((h q).mp hq).1 ((h q).mp hq).2, fun s q hq hd => s q ((h q).mpr ⟨hq, hd⟩)⟩
/-- at most so many turns -/
def Turns (l d l' j : Nat) : Prop := ¬ d ∣ l' ∨ l' * 2 ^ j ≤ l
theorem Turns.step (h2 : 2 ≤ d) {j : Nat} (t : Turns l d l' j) (h : d ∣ l') : Turns l d (l' / d) (j + 1) := by
  rcases t with t | t
  · exact absurd h t
  · refine .inr ?_
    have e := Nat.mul_div_cancel' h
    have q : 2 * (l' / d) ≤ d * (l' / d) := Nat.mul_le_mul_right _ h2
    rw [e] at q
    have q2 := Nat.mul_le_mul_right (2 ^ j) q
    rw [Nat.pow_succ]
    have e2 : l' / d * (2 ^ j * 2) = 2 * (l' / d) * 2 ^ j := by rw [Nat.mul_comm (2 ^ j) 2, ← Nat.mul_assoc, Nat.mul_comm (l' / d) 2]
    rw [e2]
    exact Nat.le_trans q2 t
theorem Turns.stay {j : Nat} (h : ¬ d ∣ l') : Turns l d l' (j + 1) := .inl h
theorem Turns.done (h1 : 1 ≤ l') (h : l < 2 ^ 15) (t : Turns l d l' 15) : ¬ d ∣ l' := by
  rcases t with t | t
  · exact t
  · have := Nat.mul_le_mul_right (2 ^ 15) h1
    omega
end
/-! ### Euclid's turns -/
def EucI (a0 b0 i a b : Nat) : Prop := Nat.gcd a b = Nat.gcd a0 b0 ∧ ((i = 0 ∧ b = b0) ∨ (1 ≤ i ∧ b < a ∧ a * b * 2 ^ (i - 1) ≤ b0 * b0))
theorem EucI.start (a b : Nat) : EucI a b 0 a b := ⟨rfl, .inl ⟨rfl, rfl⟩⟩
theorem gcd_turn {a b : Nat} : Nat.gcd b (a % b) = Nat.gcd a b := by
  rw [Nat.gcd_comm b, ← Nat.gcd_rec, Nat.gcd_comm]
theorem EucI.step {a0 b0 i a b : Nat} (I : EucI a0 b0 i a b) (hb : b ≠ 0) : EucI a0 b0 (i + 1) b (a % b) := by
  obtain ⟨g, h⟩ := I
  have hr : a % b < b := Nat.mod_lt _ (by omega)
  refine ⟨by rw [gcd_turn, g], .inr ⟨by omega, hr, ?_⟩⟩
  rcases h with ⟨h1, h2⟩ | ⟨h1, h2, h3⟩
  · subst h1
    subst h2
    simp only [Nat.add_sub_cancel, Nat.pow_zero, Nat.mul_one]
    exact Nat.mul_le_mul_left _ (Nat.le_of_lt hr)
  · have e := Nat.div_add_mod a b
    have hq : 1 ≤ a / b := Nat.div_pos (by omega) (by omega)
    have hq2 : b * 1 ≤ b * (a / b) := Nat.mul_le_mul_left b hq
    have h4 : 2 * (a % b) ≤ a := by omega
    have h5 : b * (a % b) * 2 ≤ a * b := by
      have := Nat.mul_le_mul_left b h4
      rw [Nat.mul_comm a b, Nat.mul_assoc, Nat.mul_comm (a % b) 2]
      exact this
    have e2 : i + 1 - 1 = (i - 1) + 1 := by omega
    rw [e2, Nat.pow_succ, Nat.mul_comm (2 ^ (i - 1)) 2, ← Nat.mul_assoc]
    exact Nat.le_trans (Nat.mul_le_mul_right _ h5) h3
theorem EucI.done {a0 b0 a b : Nat} (I : EucI a0 b0 9000 a b) (h : b0 < 2 ^ 4400) : a = Nat.gcd a0 b0 := by
  obtain ⟨g, h1⟩ := I
  rcases h1 with ⟨h1, _⟩ | ⟨_, h2, h3⟩
  · cases h1
  · have hb : b = 0 := by
      rcases Nat.eq_zero_or_pos b with z | z
      · exact z
      · have h4 : 1 ≤ a * b := Nat.mul_pos (by omega) z
        have h5 : 1 * 2 ^ (9000 - 1) ≤ a * b * 2 ^ (9000 - 1) := Nat.mul_le_mul_right _ h4
        have h6 : b0 * b0 < 2 ^ 4400 * 2 ^ 4400 := Nat.mul_lt_mul'' h h
        rw [← Nat.pow_add] at h6
        have h7 : (2 : Nat) ^ (4400 + 4400) ≤ 2 ^ (9000 - 1) := Nat.pow_le_pow_right (by decide) (by decide)
        omega
    rw [hb, Nat.gcd_zero_right] at g
    exact g
theorem EucI.broke {a0 b0 i a b : Nat} (I : EucI a0 b0 i a b) (hb : b = 0) : a = Nat.gcd a0 b0 := by
  obtain ⟨g, _⟩ := I
  rw [hb, Nat.gcd_zero_right] at g
  exact g
end G3
/-! shared tools: the text by places, a def as its callers see it, readings of either of two terms, great divisors -/
namespace G3
open PySem PySem.Spec PyProof.Rows L2
/-! ### the text -/
def top (i : Nat) : Stmt := PySem.Challenge.pw_sheetproofs_k04_whole_fields_reckoned.main.body.getD i (.Pass ⟨0, 0, 0, 0⟩)
/-! ### a def of the text; a def as its callers see it -/
section
variable (P : Program) (w : World) (K : PySem.W.Frag) (mg : Str → Option Value) (base : Heap)
/-- the def st stands behind the module's name x -/
def Df (x : Str) (st : Stmt) (ps : List Str) : Prop := ∃ (f : Addr) (fd : FuncData), FunD K x x (defArgs st) (defBody st) (defScope st) [] [] f fd ∧ mg x = some (.ref f) ∧ Binds K fd ps []
/-- the def st is the method m of the class at C -/
def Dm (C : Addr) (m qual : Str) (st : Stmt) (ps : List Str) : Prop := ∃ (f : Addr) (fd : FuncData), FunD K m qual (defArgs st) (defBody st) (defScope st) [] [] f fd ∧ Meth K C m f ∧ Binds K fd ps []
/-- what a caller of the module's name x leans on: the promise sp, the room k, what may be raised CX -/
def Cal (CX : CXT) (k : Nat) (x : Str) (ps : List Str) (sp : Sp) : Prop := ∃ (f : Addr) (fd : FuncData), FnOk P w K mg base CX k f fd ps sp ∧ mg x = some (.ref f) ∧ PySem.W.keepIn K (.ref f) = true ∧ Binds K fd ps []
/-- the same of a method -/
def Cam (CX : CXT) (k : Nat) (C : Addr) (m : Str) (ps : List Str) (sp : Sp) : Prop := ∃ (f : Addr) (fd : FuncData), FnOk P w K mg base CX k f fd ps sp ∧ Meth K C m f ∧ Binds K fd ps []
/-- the same of a class that is called -/
def Cac (CX : CXT) (k : Nat) (C : Addr) (x : Str) (ps : List Str) (sp : Sp) : Prop := ∃ (f : Addr) (fd : FuncData), FnOk P w K mg base CX k f fd ps sp ∧ Mk K C f ∧ mg x = some (.ref C) ∧ Binds K fd ps []
end
section
variable {P : Program} {w : World} {K : PySem.W.Frag} {mg : Str → Option Value} {base : Heap} {x m qual : Str} {st : Stmt} {ps N : List Str} {k j : Nat} {sp sp' : Sp} {C : Addr} {CX : CXT}
/-- a def out of which nothing is raised -/
theorem Df.ok (D : Df K mg x st ps) (S : FnScope N ps (defScope st)) (len : ∀ vs H Q E, sp vs H Q E → vs.length = ps.length)
    (hb : ∀ (f : Addr) (cdv : Value) (A : Around) (outer : List Env) (s : Shared) (H : Hp) (vs : List V) (Q : VK) (E : XK), Room k (A.deeper (envOfC x (defScope st) s.heap.objs.size f cdv)) → sp vs H Q E →
      ∃ t, PSs (cxOf CX0 P w K mg base N x (defScope st) f cdv A outer s H E).nox (defBody st) t ∧ t { nx := fun _ H' => Q .non H', rt := Q } (start N vs) H) : Cal P w K mg base CX0 (k + 1) x ps sp := by
  obtain ⟨f, fd, F, g, b⟩ := D
  exact ⟨f, fd, F.ok S len (fun cdv A outer s H vs Q E hr h => let ⟨t, h1, h2⟩ := hb f cdv A outer s H vs Q E hr h; ⟨t, h1.nox, h2⟩), g, F.kp, b⟩
/-- a def that may raise -/
theorem Df.okX (D : Df K mg x st ps) (S : FnScope N ps (defScope st)) (len : ∀ vs H Q E, sp vs H Q E → vs.length = ps.length)
    (hb : ∀ (f : Addr) (cdv : Value) (A : Around) (outer : List Env) (s : Shared) (H : Hp) (vs : List V) (Q : VK) (E : XK), Room k (A.deeper (envOfC x (defScope st) s.heap.objs.size f cdv)) → sp vs H Q E →
      ∃ t, PSs (cxOf (L2.CX P w) P w K mg base N x (defScope st) f cdv A outer s H E) (defBody st) t ∧ t { nx := fun _ H' => Q .non H', rt := Q } (start N vs) H) : Cal P w K mg base (L2.CX P w) (k + 1) x ps sp := by
  obtain ⟨f, fd, F, g, b⟩ := D
  exact ⟨f, fd, F.ok S len (fun cdv A outer s H vs Q E hr h => hb f cdv A outer s H vs Q E hr h), g, F.kp, b⟩
theorem Dm.ok (D : Dm K C m qual st ps) (S : FnScope N ps (defScope st)) (len : ∀ vs H Q E, sp vs H Q E → vs.length = ps.length)
    (hb : ∀ (f : Addr) (cdv : Value) (A : Around) (outer : List Env) (s : Shared) (H : Hp) (vs : List V) (Q : VK) (E : XK), Room k (A.deeper (envOfC qual (defScope st) s.heap.objs.size f cdv)) → sp vs H Q E →
      ∃ t, PSs (cxOf CX0 P w K mg base N qual (defScope st) f cdv A outer s H E).nox (defBody st) t ∧ t { nx := fun _ H' => Q .non H', rt := Q } (start N vs) H) : Cam P w K mg base CX0 (k + 1) C m ps sp := by
  obtain ⟨f, fd, F, g, b⟩ := D
  exact ⟨f, fd, F.ok S len (fun cdv A outer s H vs Q E hr h => let ⟨t, h1, h2⟩ := hb f cdv A outer s H vs Q E hr h; ⟨t, h1.nox, h2⟩), g, b⟩
theorem Dm.okX (D : Dm K C m qual st ps) (S : FnScope N ps (defScope st)) (len : ∀ vs H Q E, sp vs H Q E → vs.length = ps.length)
    (hb : ∀ (f : Addr) (cdv : Value) (A : Around) (outer : List Env) (s : Shared) (H : Hp) (vs : List V) (Q : VK) (E : XK), Room k (A.deeper (envOfC qual (defScope st) s.heap.objs.size f cdv)) → sp vs H Q E →
      ∃ t, PSs (cxOf (L2.CX P w) P w K mg base N qual (defScope st) f cdv A outer s H E) (defBody st) t ∧ t { nx := fun _ H' => Q .non H', rt := Q } (start N vs) H) : Cam P w K mg base (L2.CX P w) (k + 1) C m ps sp := by
  obtain ⟨f, fd, F, g, b⟩ := D
  exact ⟨f, fd, F.ok S len (fun cdv A outer s H vs Q E hr h => hb f cdv A outer s H vs Q E hr h), g, b⟩
theorem Cal.mono (c : Cal P w K mg base CX j x ps sp) (h : j ≤ k) : Cal P w K mg base CX k x ps sp := by
  obtain ⟨f, fd, F, g, kp, b⟩ := c
  exact ⟨f, fd, F.mono h, g, kp, b⟩
theorem Cam.mono (c : Cam P w K mg base CX j C m ps sp) (h : j ≤ k) : Cam P w K mg base CX k C m ps sp := by
  obtain ⟨f, fd, F, g, b⟩ := c
  exact ⟨f, fd, F.mono h, g, b⟩
theorem Cac.mono (c : Cac P w K mg base CX j C x ps sp) (h : j ≤ k) : Cac P w K mg base CX k C x ps sp := by
  obtain ⟨f, fd, F, g, m, b⟩ := c
  exact ⟨f, fd, F.mono h, g, m, b⟩
end
/-! ### calls -/
section
variable {X : Cx} {CX : CXT} {k : Nat} {C : Addr} {ps : List Str} {sp : Sp} {E : XK} {x m : Str} {p pos apos : Pos} {e o : Expr} {es : List Expr} {ta : TE} {t : TA}
theorem pcl (c : Cal X.prog X.w X.K X.mg X.base CX k x ps sp) (hr : Room k X.A) (hx : Passes CX X E) (ha : PA X (e :: es) t) (hg : Gl X x := by rfl)
    (hdb : (x == ("__debug__" : Str)) = false := by decide) (he : starEach (e :: es) X.env = (false, eval e X.env) :: starEach es X.env := by rfl) (hpl : (backTo pos (starEach es X.env)).any (·.1) = false := by rfl) :
    PE X (.Call (.Name x p) (e :: es) [] pos) (tCall sp [] E t) := by
  obtain ⟨f, fd, F, g, kp, b⟩ := c
  exact pe_call F hr hg g kp b .nil hx ha hdb he hpl
theorem pcm {pl : Sem Bool} (c : Cam X.prog X.w X.K X.mg X.base CX k C m ps sp) (cl : Cls X.K C) (hr : Room k X.A) (hx : Passes CX X E) (ho : PE X o ta) (ha : PA X (e :: es) t)
    (hst : starEach (e :: es) X.env = (false, eval e X.env) :: starEach es X.env := by rfl) (hpl : (backTo pos (starEach es X.env)).any (·.1) = false := by rfl)
    (ht : eval (.Call (.Attribute o m apos) (e :: es) [] pos) X.env = (do
      let ov ← eval o X.env
      standAt apos.atName
      let (f, first) ← holding [ov] (getMethod ov m pl)
      callWith pos f first (backTo pos (starEach (e :: es) X.env)) (backToKw pos (keywordEach [] X.env))) := by rfl) :
    PE X (.Call (.Attribute o m apos) (e :: es) [] pos) (tMeth C m sp [] E ta t) := by
  obtain ⟨f, fd, F, g, b⟩ := c
  exact pe_meth ho cl g F hr b .nil hx ha hst hpl ht
theorem pcc (c : Cac X.prog X.w X.K X.mg X.base CX k C x ps sp) (hr : Room (k + 1) X.A) (hx : Passes CX X E) (ha : PA X (e :: es) t) (hg : Gl X x := by rfl)
    (hdb : (x == ("__debug__" : Str)) = false := by decide) (he : starEach (e :: es) X.env = (false, eval e X.env) :: starEach es X.env := by rfl) (hpl : (backTo pos (starEach es X.env)).any (·.1) = false := by rfl) :
    PE X (.Call (.Name x p) (e :: es) [] pos) (tMake C sp [] E t) := by
  obtain ⟨f, fd, F, M, g, b⟩ := c
  exact pe_make M F hr hg g b .nil hx ha hdb he hpl
theorem pcc0 (c : Cac X.prog X.w X.K X.mg X.base CX k C x ps sp) (hr : Room (k + 1) X.A) (hx : Passes CX X E) (hg : Gl X x := by rfl)
    (hdb : (x == ("__debug__" : Str)) = false := by decide) :
    PE X (.Call (.Name x p) [] [] pos) (tMake C sp [] E tNil) := by
  obtain ⟨f, fd, F, M, g, b⟩ := c
  exact pe_make0 M F hr hg g b .nil hx hdb
/-- either of two readings -/
def tOr2 (t u : TE) : TE := fun σ H Q => t σ H Q ∨ u σ H Q
theorem pe_or2 {t u : TE} (h1 : PE X e t) (h2 : PE X e u) : PE X e (tOr2 t u) := ⟨fun pins s σ H Q I h => h.elim (h1.run pins s σ H Q I) (h2.run pins s σ H Q I)⟩
/-- // by a divisor of either sign, below 2 ^ 9000 -/
def CDivX (_ j : Int) : Prop := j ≠ 0 ∧ j.natAbs.log2 < 9000
theorem op_fdivX : OpR X (binaryOp .FloorDiv) (rI CDivX fun i j => .int (i.fdiv j)) := opI fun _ _ _ _ _ _ _ hc q => floordiv_int hc.1 q (.inl (PyProof.noPylong_of_log2 hc.2))
theorem divX {i j : Int} {b : Nat} (h : j ≠ 0) (hb : j.natAbs < 2 ^ b) (h0 : 0 < b) (h9 : b ≤ 9000) : CDivX i j := ⟨h, Nat.lt_of_lt_of_le (PySem.Flt.log2_lt_of h0 hb) h9⟩
end
/-! ### heaps -/
theorem Same.up {H : Hp} {p : Addr} {o : HO} (h : H p = none) : Same H (upd H p o) := fun b u e => by rw [upd_ne (ne_of_none e h)]; exact e
theorem Same.up' {H H1 : Hp} {p : Addr} {o : HO} (s : Same H H1) (h : H1 p = none) : Same H (upd H1 p o) := s.trans (Same.up h)
/-- names that the module does not have: the built-in ones -/
structure Bn (mg : Str → Option Value) : Prop where
  abs_ : mg "abs" = none
  int_ : mg "int" = none
  bool_ : mg "bool" = none
  tuple_ : mg "tuple" = none
  str_ : mg "str" = none
  len_ : mg "len" = none
  isi : mg "isinstance" = none
  divmod_ : mg "divmod" = none
  range_ : mg "range" = none
  enum_ : mg "enumerate" = none
  all_ : mg "all" = none
  max_ : mg "max" = none
  ve : mg "ValueError" = none
end G3
namespace G3
open PySem PySem.Spec PyProof.Rows L2
/-! ### what the head tells: defs, facts by names, facts of this text -/
def dOf (x : Str) (i : Nat) (dv : List He.Dv) : He.DefD := ⟨(x, none), x, x, defArgs (top i), defBody (top i), defScope (top i), dv, []⟩
def dMt (C m q : Str) (i j : Nat) : He.DefD := ⟨(C, some m), m, q, defArgs (inClass (top i) j), defBody (inClass (top i) j), defScope (inClass (top i) j), [], []⟩
def fnd : List He.DefD := [dOf "is_whole" 6 [.non, .non], dOf "common_divisor" 7 [], dOf "power_of" 8 [], dOf "is_prime" 11 [], dOf "rest_power" 12 [], dOf "lowest_terms" 13 [], dOf "prime_divisors" 16 [], dOf "source_of" 17 [], dOf "steps_of" 18 [], dOf "_law_mixed" 20 [], dOf "_law_hand" 21 [], dOf "_law_draw" 22 [], dOf "_law_whole" 23 [], dOf "_law_divisor" 24 [], dOf "_law_lowest" 25 [], dOf "_law_prime" 26 [], dOf "_law_next_prime" 27 [], dOf "_law_field" 28 [], dOf "_law_made_field" 29 [], dOf "_law_one" 30 [], dOf "_law_minus" 31 [], dOf "_law_times" 32 [], dOf "_law_power" 33 [], dOf "_law_number" 34 [], dOf "_law_is_number" 35 [], dOf "_law_same" 36 [], dOf "_law_odd" 37 [], dOf "_law_field_told" 38 [], dOf "_law_primes_hold" 39 [], dOf "_law_number_told" 40 [], dOf "_law_divided" 41 [], dOf "_law_raised" 42 [], dOf "_law_plus" 43 [], dOf "_law_less" 44 [], dOf "_law_any_number" 45 [], dOf "_law_exponent" 46 [], dOf "_law_powers_hold" 47 [], dOf "_law_sums_hold" 48 [], dOf "_law_prime_parts" 49 [], dOf "_law_is_source" 50 [], dOf "_law_steps_told" 51 [], dOf "_law_source_holds" 52 [], dOf "law" 53 [], dMt "BadPrime" "__init__" "BadPrime.__init__" 2 0, dMt "BadNumber" "__init__" "BadNumber.__init__" 3 0, dMt "ByZero" "__init__" "ByZero.__init__" 4 0, dMt "RestField" "__init__" "RestField.__init__" 14 0, dMt "RestField" "__eq__" "RestField.__eq__" 14 1, dMt "RestField" "check_number" "RestField.check_number" 14 2, dMt "RestField" "number_of" "RestField.number_of" 14 3, dMt "RestField" "plus" "RestField.plus" 14 4, dMt "RestField" "less" "RestField.less" 14 5, dMt "RestField" "times" "RestField.times" 14 6, dMt "RestField" "quotient" "RestField.quotient" 14 7, dMt "RestField" "power" "RestField.power" 14 8, dMt "FractionField" "__init__" "FractionField.__init__" 15 0, dMt "FractionField" "__eq__" "FractionField.__eq__" 15 1, dMt "FractionField" "check_number" "FractionField.check_number" 15 2, dMt "FractionField" "number_of" "FractionField.number_of" 15 3, dMt "FractionField" "plus" "FractionField.plus" 15 4, dMt "FractionField" "less" "FractionField.less" 15 5, dMt "FractionField" "times" "FractionField.times" 15 6, dMt "FractionField" "quotient" "FractionField.quotient" 15 7, dMt "FractionField" "power" "FractionField.power" 15 8]
def fas : List He.Fa := [.glo "is_whole", .glo "common_divisor", .glo "power_of", .glo "is_prime", .glo "rest_power", .glo "lowest_terms", .glo "prime_divisors", .glo "source_of", .glo "steps_of", .glo "_law_mixed", .glo "_law_hand", .glo "_law_draw", .glo "_law_whole", .glo "_law_divisor", .glo "_law_lowest", .glo "_law_prime", .glo "_law_next_prime", .glo "_law_field", .glo "_law_made_field", .glo "_law_one", .glo "_law_minus", .glo "_law_times", .glo "_law_power", .glo "_law_number", .glo "_law_is_number", .glo "_law_same", .glo "_law_odd", .glo "_law_field_told", .glo "_law_primes_hold", .glo "_law_number_told", .glo "_law_divided", .glo "_law_raised", .glo "_law_plus", .glo "_law_less", .glo "_law_any_number", .glo "_law_exponent", .glo "_law_powers_hold", .glo "_law_sums_hold", .glo "_law_prime_parts", .glo "_law_is_source", .glo "_law_steps_told", .glo "_law_source_holds", .glo "law", .glo "SheetError", .glo "BadPrime", .glo "BadNumber", .glo "ByZero", .glo "RestField", .glo "FractionField", .free "abs", .free "int", .free "bool", .free "tuple", .free "str", .free "len", .free "isinstance", .free "divmod", .free "range", .free "enumerate", .free "all", .free "max", .free "ValueError", .int "MOST_PRIME" 20000, .cls "RestField", .mkr "RestField", .cls "FractionField", .mkr "FractionField", .noat "RestField" "prime", .noat "RestField" "zero", .noat "RestField" "one", .noat "RestField" "minus_one", .noat "FractionField" "zero", .noat "FractionField" "one", .noat "FractionField" "minus_one", .meth "RestField" "__eq__", .meth "RestField" "check_number", .meth "RestField" "number_of", .meth "RestField" "plus", .meth "RestField" "less", .meth "RestField" "times", .meth "RestField" "quotient", .meth "RestField" "power", .meth "FractionField" "__eq__", .meth "FractionField" "check_number", .meth "FractionField" "number_of", .meth "FractionField" "plus", .meth "FractionField" "less", .meth "FractionField" "times", .meth "FractionField" "quotient", .meth "FractionField" "power", .exm "BadPrime" "BadPrime" true, .exm "BadNumber" "BadNumber" true, .exm "ByZero" "ByZero" true]
abbrev FB : Type := PySem.W.Frag → Bool
def oexB (x : Str) : FB := fun K => (match K.lookup (He.ga K x) with
  | some ⟨.type t, _, .cls cd, sl⟩ => (match cd.mro, sl.toList with
    | .ref C' :: bm, [_, _, _, _, some (.builtin n), _] => decide (t = "type") && (decide (C' = He.ga K x) && (decide (n = "ValueError.__new__") && (!cd.hasDel && (cd.hasDict && PySem.HandSPX.refsVE bm))))
    | _, _ => false)
  | _ => false) && (He.eqO (PySem.W.findIn K (.ref (He.ga K x)) "__setattr__") (some (some (.builtin "object.__setattr__"))) && (decide (PySem.W.subIn K (.ref (He.ga K x)) (.type "BaseException") = some true) &&
    (decide (PySem.W.typeIn K (.ref (He.ga K x)) = some (.type "type")) && PySem.W.keepIn K (.ref (He.ga K x)))))
def iniB (x : Str) : FB := fun K => He.eqO (PySem.W.findIn K (.ref (He.ga K x)) "__init__") (some (some (.ref (He.ma K (He.ga K x) "__init__")))) && decide (PySem.W.typeIn K (.ref (He.ma K (He.ga K x) "__init__")) = some (.type "function"))
def clnB (x : Str) : FB := fun K => He.eqO (PySem.W.findIn K (.ref (He.ga K x)) "__class__") (some (some (.builtin "object.__class__"))) && decide (PySem.W.mroIn K (He.ga K x) (.type "object") = some true)
def getB : FB := fun K => He.eqO (PySem.W.specialIn K (.builtin "object.__class__") "__get__") (some (some (.builtin "getset_descriptor.__get__"))) && decide (PySem.W.takesIn K (.builtin "object.__class__") = some true)
def kitRB (x y : Str) (b : Bool) : FB := fun K => decide (PySem.W.kitOne K (.ref (He.ga K x)) (.ref (He.ga K y)) = some b)
def kitVB (x : Str) : FB := fun K => decide (PySem.W.kitOne K (.ref (He.ga K x)) (.type "ValueError") = some true)
def basB : FB := fun K => PySem.W.readsIn K (He.ga K "SheetError") (.type "type") && (He.eqO (PySem.W.specialIn K (.ref (He.ga K "SheetError")) "__getattribute__") (some (some (.builtin "type.__getattribute__"))) &&
  (match PySem.W.findCls K (.ref (He.ga K "SheetError")) (.type "type") "__init__" with
    | some (.val (.builtin n)) => decide (n = "ValueError.__init__")
    | _ => false))
def excB (x : Str) : FB := fun K => He.eqO (PySem.W.findIn K (.ref (He.ga K x)) "__getattribute__") (some (some (.builtin "BaseException.__getattribute__"))) && (He.eqO (PySem.W.findIn K (.ref (He.ga K x)) "__getattr__") (some none) && PySem.W.hasDictIn K (He.ga K x))
def ordB (x y : Str) : FB := fun K => PySem.W.notFirst K (He.ga K x) (.ref (He.ga K y))
def fbs : List FB := [oexB "BadPrime", iniB "BadPrime", excB "BadPrime", oexB "BadNumber", iniB "BadNumber", excB "BadNumber", oexB "ByZero", iniB "ByZero", excB "ByZero", clnB "BadPrime", clnB "BadNumber", clnB "ByZero", clnB "RestField", clnB "FractionField", getB, basB, kitRB "RestField" "RestField" true, kitRB "FractionField" "RestField" false, kitRB "RestField" "FractionField" false, kitRB "FractionField" "FractionField" true, kitRB "BadPrime" "SheetError" true, kitRB "BadPrime" "BadNumber" false, kitRB "BadNumber" "SheetError" true, kitRB "BadNumber" "BadPrime" false, kitRB "ByZero" "SheetError" true, kitRB "ByZero" "BadNumber" false, kitVB "BadPrime", kitVB "ByZero", ordB "RestField" "RestField", ordB "RestField" "FractionField", ordB "FractionField" "RestField", ordB "FractionField" "FractionField"]
def asX (g : Addr → Option Obj) (n : Nat) : List Addr := cStatics :: He.asD g n
def obsX (K : PySem.W.Frag) : He.AlD := (((fas.all fun f => f.ok K) && fbs.all fun f => f K) && fnd.all fun d => d.ok K, fnd.map fun d => He.fnW K d.at_)
def valX : He.AlD := (true, fnd.map He.DefD.val)
def SaysX (K : PySem.W.Frag) : Prop := obsX K = valX
def obsXG (n : Nat) (g : Addr → Option Obj) : He.AlD := obsX (He.frG g (asX g n))
def hookX (n : Nat) : PySem.W.Hook where
  α := He.AlD
  obs := fun s => obsXG n s.heap.get?
  val := fun _ => valX
  says := fun _ h => ∃ K : PySem.W.Frag, K.In h ∧ SaysX K
  of := fun _ _ e => ⟨_, He.frG_in, e⟩
  keeps := fun _ _ _ ⟨K, hK, c⟩ k => ⟨K, PySem.W.Frag.In.keeps hK k, c⟩
theorem obsXG_eq {n : Nat} {g : Addr → Option Obj} {s : Shared} (h : ∀ a, g a = s.heap.get? a) : obsXG n g = (hookX n).obs s := by
  have e : g = s.heap.get? := funext h
  rw [e] <;> rfl
end G3
namespace G3
open PySem PySem.Spec PyProof.Rows L2
abbrev R : PySem.W.OpenRow := PySem.W.OpenLaw.row PySem.Challenge.rw_sheetproofs_k04_whole_fields_reckoned
abbrev hk : PySem.W.Hook := hookX 5
def ob (s : PySem.W.SharedT) : He.AlD := obsXG 5 (HandSHeadRun.getT s)
theorem ob_eq (s : PySem.W.SharedT) : ob s = hk.obs s.abs := obsXG_eq (HandSHeadRun.getT_eq s)
def loo1 : List PySem.Str := [("SheetError" : PySem.Str), ("BadPrime" : PySem.Str), ("BadNumber" : PySem.Str), ("ByZero" : PySem.Str), ("is_whole" : PySem.Str), ("common_divisor" : PySem.Str), ("power_of" : PySem.Str), ("MOST_PRIME" : PySem.Str), ("is_prime" : PySem.Str), ("rest_power" : PySem.Str), ("lowest_terms" : PySem.Str), ("RestField" : PySem.Str), ("FractionField" : PySem.Str), ("prime_divisors" : PySem.Str), ("source_of" : PySem.Str), ("steps_of" : PySem.Str)]
def loo2 : List PySem.Str := [("_law_mixed" : PySem.Str), ("_law_hand" : PySem.Str), ("_law_draw" : PySem.Str), ("_law_whole" : PySem.Str), ("_law_divisor" : PySem.Str), ("_law_lowest" : PySem.Str), ("_law_prime" : PySem.Str), ("_law_next_prime" : PySem.Str), ("_law_field" : PySem.Str), ("_law_made_field" : PySem.Str), ("_law_one" : PySem.Str), ("_law_minus" : PySem.Str), ("_law_times" : PySem.Str), ("_law_power" : PySem.Str), ("_law_number" : PySem.Str), ("_law_is_number" : PySem.Str), ("_law_same" : PySem.Str), ("_law_odd" : PySem.Str), ("_law_field_told" : PySem.Str), ("_law_primes_hold" : PySem.Str), ("_law_number_told" : PySem.Str), ("_law_divided" : PySem.Str), ("_law_raised" : PySem.Str), ("_law_plus" : PySem.Str), ("_law_less" : PySem.Str), ("_law_any_number" : PySem.Str), ("_law_exponent" : PySem.Str), ("_law_powers_hold" : PySem.Str), ("_law_sums_hold" : PySem.Str), ("_law_prime_parts" : PySem.Str), ("_law_is_source" : PySem.Str), ("_law_steps_told" : PySem.Str), ("_law_source_holds" : PySem.Str)]
def loo : List PySem.Str := loo1 ++ loo2
theorem run (w : World) : HandSHeadRun.RunEq R (PySem.W.view R.prog [53]) hk ob 4000 loo w := by
  intro os
  kernel_rfl
end G3
/-! the program's own errors: a class over a class over ValueError, its __init__ hands a text to the base's __init__ -/
namespace G3
open PySem PySem.Spec PyProof.Rows L2
/-- what the base class must say, so that its __init__ is ValueError's -/
structure BaseX (K : PySem.W.Frag) (mg : Str → Option Value) (x : Str) (S : Addr) : Prop where
  g : mg x = some (.ref S)
  rd : PySem.W.readsIn K S (.type "type") = true
  ga : PySem.W.specialIn K (.ref S) "__getattribute__" = some (some (.builtin "type.__getattribute__"))
  at_ : PySem.W.findCls K (.ref S) (.type "type") "__init__" = some (.val (.builtin "ValueError.__init__"))
section
variable {X : Cx} {e : Expr} {es : List Expr} {ta : TA} {p p1 p2 pos : Pos} {x : Str} {S C : Addr}
/-- S.__init__(self, ..), S the base class -/
theorem pe_binit {pl : Sem Bool} (B : BaseX X.K X.mg x S) (ha : PA X (e :: es) ta) (hg : Gl X x := by rfl)
    (hc : eval (.Call (.Attribute (.Name x p1) "__init__" p2) (e :: es) [] pos) X.env = (do
      let ov ← eval (.Name x p1) X.env
      standAt p2.atName
      let (f, first) ← holding [ov] (getMethod ov "__init__" pl)
      callWith pos f first (backTo pos (starEach (e :: es) X.env)) (backToKw pos (keywordEach [] X.env))) := by rfl)
    (he : starEach (e :: es) X.env = (false, eval e X.env) :: starEach es X.env := by rfl) (hpl : (backTo pos (starEach es X.env)).any (·.1) = false := by rfl)
    (hdb : (x == ("__debug__" : Str)) = false := by decide) :
    PE X (.Call (.Attribute (.Name x p1) "__init__" p2) (e :: es) [] pos) (tVeI X.K ta) := by
  refine ⟨fun pins s σ H Q I h => ?_⟩
  refine PySem.W.methodCall_KW (ld_glob I hg B.g ?_ hdb) hc
  refine PySem.W.method_cls I.kIn B.ga (PySem.W.cls_value I.kIn B.rd B.at_ (by decide +kernel) ?_)
  refine PyProof.Rows.callWith_method1 (thn (ha.run pos pins { s with toks := s.toks + 1 } σ H _ (I.tok _) h) fun us s1 hh => ?_) he hpl
  obtain ⟨vs, H1, I1, r1, a, D, ws, ev, hl, T, ea, q⟩ := hh
  subst ev
  cases r1 with
  | @cons _ u0 _ ur ra rw' =>
    have e0 : u0 = Value.ref a := ra
    subst e0
    refine oinit_ok T I1 ea ?_ fun s' J => ⟨.non, H1, J, rfl, q⟩
    rw [← Paired.length rw', sizeLine_eq]
    omega
/-- what an error's __init__ promises -/
def spXI (C : Addr) : Sp := fun vs H Q _ => ∃ a : Addr, vs = [.ref a] ∧ H a = some (exo a C none) ∧ Q .non H
/-- what the end of the error's making leaves: the error itself is let go, all else stands -/
theorem made_end {pins : List (Addr × Obj)} {σ : L2.St} {H1 : Hp} {Q : XK} {hp hp2 h2 : Heap} {g1 g2 : Array GenState} {d1 d2 : Drawn} {t1 t2 : Nat} {os1 os2 : OsState} {a : Addr} (T : Raises X (.ref C))
    (I1 : Inv X pins σ H1 ⟨hp, g1, d1, t1, os1⟩) (ha : hp.objs.size ≤ a) (k : ∀ b o, hp.get? b = some o → hp2.get? b = some o) (un : Un (frs X.stack) [] (upd H1 a (exo a C none)) (upd H1 a (exo a C none)) hp2 h2)
    (hok : HOk X.prog X.w (upd H1 a (exo a C none)) h2) (ho : os2 = os1) (hb : AllBare g2) (q : Q (.ref C) none H1) : MkP X pins σ Q (.ref a) ⟨h2, g2, d2, t2, os2⟩ := by
  have hn : H1 a = none := I1.hok.fresh ha
  obtain ⟨t0, hoe⟩ := exo_at hok (upd_same (H := H1))
  obtain ⟨G, r1, r2⟩ := restrict h2 fun b => decide (b ≠ a)
  have gk : ∀ b, b ≠ a → G.get? b = h2.get? b := fun b hba => r1 b (decide_eq_true hba)
  have ge : G.get? a = none := r2 a (by simp)
  have old : ∀ {b : Addr} {o : Obj}, hp.get? b = some o → b ≠ a := fun {b o} z => Nat.ne_of_lt (Nat.lt_of_lt_of_le (Heap.lt_size z) ha)
  have nn : ∀ {b : Addr}, b ≠ a → H1 b = none → upd H1 a (exo a C none) b = none := fun {b} hba n => (upd_ne hba).trans n
  have U : Un (frs X.stack) [] H1 H1 hp G := {
    keep := fun b o z n hf hx => (gk b (old z)).trans (un.keep b o (k b o z) (nn (old z) n) hf hx)
    slot := fun b o z n hf hx => by
      obtain ⟨sl, z2⟩ := un.slot b o (k b o z) (nn (old z) n) hf hx
      exact ⟨sl, (gk b (old z)).trans z2⟩
    free := fun b o z n hx => n
    there := fun b o z hx => by
      obtain ⟨o', z2⟩ := un.there b o (k b o z) hx
      exact ⟨o', (gk b (old z)).trans z2⟩
    tups := fun b xs z => z
    frzs := fun b o v z => z
    tbls := fun b ps z => ⟨#[], by rw [z]; simp⟩ }
  have hok1 : HOk X.prog X.w H1 G := fun b o z => by
    have hba : b ≠ a := ne_of_none z hn
    refine (hok b o ((upd_ne hba).trans z)).stay (fun c v hc y => (gk c ?_).trans y) (fun c hc => ?_) (fun c xs hc => ?_)
    · rcases hc with hc | hc
      · rw [hc]
        exact hba
      · intro hca
        rw [hca, upd_same] at hc
        exact exo_own (Option.some.inj hc)
    · have hca : c ≠ a := fun hca => by
        rw [hca, upd_same] at hc
        exact exo_own (Option.some.inj hc)
      rw [upd_ne hca] at hc
      exact hc
    · have hca : c ≠ a := fun hca => by
        rw [hca, upd_same] at hc
        exact exo_tup (Option.some.inj hc)
      rw [upd_ne hca] at hc
      exact hc
  have J : Inv X pins σ H1 ⟨G, g2, d2, t2, os2⟩ := I1.call' (ch := []) ho U hok1 hb (fun b z => absurd z (by simp))
  refine ⟨a, _, _, ⟨G, g2, d2, t2, os2⟩, H1, .ref C, none, rfl, J, fun b o z => ?_, ge, hoe, ⟨rfl, rfl⟩, rfl, rfl, hn, rfl, hb, T, q⟩
  by_cases hba : b = a
  · rw [hba, ge] at z
    cases z
  · exact (gk b hba).symm.trans z
/-- C(), C's own __init__ keeping spXI -/
theorem pmk_x0 {CX : CXT} {fI : Addr} {k : Nat} {fd : FuncData} (T : OexC X.K C) (iC : PySem.W.findIn X.K (.ref C) "__init__" = some (some (.ref fI))) (tI : PySem.W.typeIn X.K (.ref fI) = some (.type "function"))
    (F1 : FnOk X.prog X.w X.K X.mg X.base CX k fI fd ["self"] (spXI C)) (hr : Room (k + 1) X.A) (hb : Binds X.K fd ["self"] []) (hx : Passes CX X E0) (hm : X.mg x = some (.ref C)) (hg : Gl X x)
    (hdb : (x == ("__debug__" : Str)) = false) : PMk X (.Call (.Name x p) [] [] pos) (fun _ H Q => Q (.ref C) none H) := by
  intro pins s σ H Q I h
  obtain ⟨nm, q, N, bs, bm, sn, sub, ab, col, dd, k0, k1, k2, k3, k5, hC, hbm⟩ := T.cls
  refine wpAny_Call_Name_kw (ld_glob I hg hm ?_ hdb)
  refine PySem.W.callWith_K0 I.kIn T.kC ?_
  show wpAny _ _ (call (.ref C) []) _ _ _
  obtain ⟨hp, gs, dr, tk, os⟩ := s
  have hsz : hp.objs.size ≤ hp.objs.size + 1 := Nat.le_succ _
  have hn : H (hp.objs.size + 1) = none := I.hok.fresh hsz
  have kk : ∀ b o, hp.get? b = some o → ((hp.push (PySem.W.kdv_tup [])).push (PySem.HandSPX.excO C hp.objs.size)).get? b = some o := fun b o z => Heap.get?_push_of_some _ (Heap.get?_push_of_some _ z)
  have hget : ((hp.push (PySem.W.kdv_tup [])).push (PySem.HandSPX.excO C hp.objs.size)).get? (hp.objs.size + 1) = some (PySem.HandSPX.excO C hp.objs.size) := by heap_get
  have I2 : Inv X pins σ (upd H (hp.objs.size + 1) (exo (hp.objs.size + 1) C none)) ⟨(hp.push (PySem.W.kdv_tup [])).push (PySem.HandSPX.excO C hp.objs.size), gs, dr, tk, os⟩ :=
    I.laid (t' := tk) (a := hp.objs.size + 1) (o := exo (hp.objs.size + 1) C none) kk hsz (exo_ok hget)
  have hs0 : sizeLine ≥ ([] : List Value).length := Nat.zero_le _
  refine wpAny_call (PySem.HandSPX.call_own F.excBase_ValueError (fun Y => PySem.HandSPX.refsVE_contains Y bm hbm) (I.kIn _ _ hC) (PySem.W.looks_findIn I.kIn iC) (fun self => PySem.W.bind_fn I.kIn self tI) hs0
    (codeAny_mono (F1.run _ X.stack _ _ ⟨[Value.ref (hp.objs.size + 1)], []⟩ [Value.ref (hp.objs.size + 1)] [V.ref (hp.objs.size + 1)] (fun v H2 => v = .non ∧ H2 = upd H (hp.objs.size + 1) (exo (hp.objs.size + 1) C none)) E0
      (hr.make C [] []) (I2.env0.make C [] []) ?_ (.cons rfl .nil) ⟨_, rfl, upd_same, rfl, rfl⟩) fun r s' hq' => ?_))
  · have b := hb ⟨(hp.push (PySem.W.kdv_tup [])).push (PySem.HandSPX.excO C hp.objs.size), gs, dr, tk, os⟩ [Value.ref (hp.objs.size + 1)] I2.kIn rfl
    exact b
  · cases r with
    | error er => exact hx pins σ _ _ er s' I2 hq'
    | ok fl =>
      cases fl with
      | ret u =>
        obtain ⟨v, H2, os2, bare2, un2, hok2, rv, ev, eH⟩ := hq'
        subst ev
        subst eH
        obtain ⟨h2, g2, d2, t2, os'⟩ := s'
        exact ⟨rv, made_end (d2 := d2) (t2 := t2) (raises_own T.exC T.tyC) I hsz kk un2 hok2 os2 bare2 h⟩
      | next => exact False.elim hq'
      | brk => exact False.elim hq'
      | cont => exact False.elim hq'
end
/-- what a raiser leans on: the error class x at C -/
def Xc (P : Program) (w : World) (K : PySem.W.Frag) (mg : Str → Option Value) (base : Heap) (x : Str) (C : Addr) : Prop :=
  ∃ (fI : Addr) (fd : FuncData), OexC K C ∧ PySem.W.findIn K (.ref C) "__init__" = some (some (.ref fI)) ∧ PySem.W.typeIn K (.ref fI) = some (.type "function") ∧ FnOk P w K mg base CX0 1 fI fd ["self"] (spXI C) ∧ Binds K fd ["self"] [] ∧ mg x = some (.ref C)
theorem pmk_x {X : Cx} {x : Str} {C : Addr} {p pos : Pos} (Z : Xc X.prog X.w X.K X.mg X.base x C) (hr : Room 2 X.A) (hg : Gl X x := by rfl) (hdb : (x == ("__debug__" : Str)) = false := by decide) : PMk X (.Call (.Name x p) [] [] pos) (fun _ H Q => Q (.ref C) none H) := by
  obtain ⟨fI, fd, T, iC, tI, F1, hb, hm⟩ := Z
  exact pmk_x0 T iC tI F1 hr hb pass0 hm hg hdb
theorem sc_xBadPrime : FnScope ["self"] ["self"] (defScope (inClass (top 2) 0)) := ⟨rfl, rfl, rfl, by decide +kernel, rfl, by decide +kernel, by decide +kernel⟩
theorem ok_xBadPrime {P : Program} {w : World} {K : PySem.W.Frag} {mg : Str → Option Value} {base : Heap} {C S f : Addr} {fd : FuncData} (T : OexC K C) (B : BaseX K mg "SheetError" S)
    (F : FunD K "__init__" "BadPrime.__init__" (defArgs (inClass (top 2) 0)) (defBody (inClass (top 2) 0)) (defScope (inClass (top 2) 0)) [] [] f fd) (iC : PySem.W.findIn K (.ref C) "__init__" = some (some (.ref f)))
    (tI : PySem.W.typeIn K (.ref f) = some (.type "function")) (hb : Binds K fd ["self"] []) (hm : mg "BadPrime" = some (.ref C)) : Xc P w K mg base "BadPrime" C := by
  refine ⟨f, fd, T, iC, tI, F.ok sc_xBadPrime (fun vs H Q E h => ?_) (fun cdv A outer s H vs Q E hr h => ?_), hb, hm⟩
  · obtain ⟨a, rfl, _⟩ := h
    rfl
  · obtain ⟨a, rfl, ha, q⟩ := h
    refine ⟨_, PSs.nox (pss_one (ps_expr (pe_binit B (pa_cons (pv 0) (pa_cons pe_str pa_nil))))), ?_⟩
    exact ⟨_, rfl, a, C, _, rfl, by show 1 ≤ 1000; decide, T, ha, q⟩
theorem sc_xBadNumber : FnScope ["self"] ["self"] (defScope (inClass (top 3) 0)) := ⟨rfl, rfl, rfl, by decide +kernel, rfl, by decide +kernel, by decide +kernel⟩
theorem ok_xBadNumber {P : Program} {w : World} {K : PySem.W.Frag} {mg : Str → Option Value} {base : Heap} {C S f : Addr} {fd : FuncData} (T : OexC K C) (B : BaseX K mg "SheetError" S)
    (F : FunD K "__init__" "BadNumber.__init__" (defArgs (inClass (top 3) 0)) (defBody (inClass (top 3) 0)) (defScope (inClass (top 3) 0)) [] [] f fd) (iC : PySem.W.findIn K (.ref C) "__init__" = some (some (.ref f)))
    (tI : PySem.W.typeIn K (.ref f) = some (.type "function")) (hb : Binds K fd ["self"] []) (hm : mg "BadNumber" = some (.ref C)) : Xc P w K mg base "BadNumber" C := by
  refine ⟨f, fd, T, iC, tI, F.ok sc_xBadNumber (fun vs H Q E h => ?_) (fun cdv A outer s H vs Q E hr h => ?_), hb, hm⟩
  · obtain ⟨a, rfl, _⟩ := h
    rfl
  · obtain ⟨a, rfl, ha, q⟩ := h
    refine ⟨_, PSs.nox (pss_one (ps_expr (pe_binit B (pa_cons (pv 0) (pa_cons pe_str pa_nil))))), ?_⟩
    exact ⟨_, rfl, a, C, _, rfl, by show 1 ≤ 1000; decide, T, ha, q⟩
theorem sc_xByZero : FnScope ["self"] ["self"] (defScope (inClass (top 4) 0)) := ⟨rfl, rfl, rfl, by decide +kernel, rfl, by decide +kernel, by decide +kernel⟩
theorem ok_xByZero {P : Program} {w : World} {K : PySem.W.Frag} {mg : Str → Option Value} {base : Heap} {C S f : Addr} {fd : FuncData} (T : OexC K C) (B : BaseX K mg "SheetError" S)
    (F : FunD K "__init__" "ByZero.__init__" (defArgs (inClass (top 4) 0)) (defBody (inClass (top 4) 0)) (defScope (inClass (top 4) 0)) [] [] f fd) (iC : PySem.W.findIn K (.ref C) "__init__" = some (some (.ref f)))
    (tI : PySem.W.typeIn K (.ref f) = some (.type "function")) (hb : Binds K fd ["self"] []) (hm : mg "ByZero" = some (.ref C)) : Xc P w K mg base "ByZero" C := by
  refine ⟨f, fd, T, iC, tI, F.ok sc_xByZero (fun vs H Q E h => ?_) (fun cdv A outer s H vs Q E hr h => ?_), hb, hm⟩
  · obtain ⟨a, rfl, _⟩ := h
    rfl
  · obtain ⟨a, rfl, ha, q⟩ := h
    refine ⟨_, PSs.nox (pss_one (ps_expr (pe_binit B (pa_cons (pv 0) (pa_cons pe_str pa_nil))))), ?_⟩
    exact ⟨_, rfl, a, C, _, rfl, by show 1 ≤ 1000; decide, T, ha, q⟩
end G3
/-! what each def promises -/
namespace G3
open PySem PySem.Spec PyProof.Rows L2
/-! ### things, numbers, fields -/
/-- a thing that a caller may pass: None, a bool, an int, a text, a list, a tuple -/
inductive Th (H : Hp) : V → Prop where
  | non : Th H .non
  | bl (b : Bool) : Th H (.bl b)
  | int (i : Int) : Th H (.int i)
  | str (z : Str) : Th H (.str z)
  | lst {a : Addr} {xs : List V} (h : H a = some (.lst xs)) : Th H (.ref a)
  | tup {a : Addr} {xs : List V} (h : H a = some (.tup xs)) : Th H (.ref a)
/-- a bound: None or an int -/
inductive Lh : V → Prop where
  | non : Lh .non
  | int (i : Int) : Lh (.int i)
def loB : V → Int → Bool
  | .int l, i => decide (l ≤ i)
  | _, _ => true
def hiB : V → Int → Bool
  | .int l, i => decide (i ≤ l)
  | _, _ => true
/-- is a whole number within the bounds -/
def isW : V → V → V → Bool
  | .int i, lo, hi => loB lo i && hiB hi i
  | _, _, _ => false
/-- is a prime to 20000 -/
def isPv : V → Bool
  | .int i => decide (2 ≤ i ∧ i ≤ 20000) && decide (Pr i.toNat)
  | _ => false
/-- v stands for the number x of the field p -/
def NAt (H : Hp) (p : Nat) (v : V) (x : Nb) : Prop := if p = 0 then ∃ a, v = .ref a ∧ H a = some (.tup [.int x.1, .int x.2]) else v = .int x.1 ∧ x.2 = 1
def Sm (b : Nat) (x : Nb) : Prop := x.1.natAbs < 2 ^ b ∧ x.2.natAbs < 2 ^ b
abbrev CR (K : PySem.W.Frag) : Addr := He.ga K "RestField"
abbrev CF (K : PySem.W.Frag) : Addr := He.ga K "FractionField"
abbrev XP (K : PySem.W.Frag) : Addr := He.ga K "BadPrime"
abbrev XN (K : PySem.W.Frag) : Addr := He.ga K "BadNumber"
abbrev XZ (K : PySem.W.Frag) : Addr := He.ga K "ByZero"
def rF (p : Int) : List (Str × V) := [("prime", .int p), ("zero", .int 0), ("one", .int 1), ("minus_one", .int (p - 1))]
def fF (z o m : Addr) : List (Str × V) := [("zero", .ref z), ("one", .ref o), ("minus_one", .ref m)]
def FldR (K : PySem.W.Frag) (H : Hp) (p : Nat) (f : Addr) : Prop := Pr p ∧ p ≤ 20000 ∧ ∃ dx, H f = some (.ins (CR K) dx (rF p))
def FldF (K : PySem.W.Frag) (H : Hp) (f : Addr) : Prop := ∃ dx z o m, H f = some (.ins (CF K) dx (fF z o m)) ∧ H z = some (.tup [.int 0, .int 1]) ∧ H o = some (.tup [.int 1, .int 1]) ∧ H m = some (.tup [.int (-1), .int 1])
def Fld (K : PySem.W.Frag) (H : Hp) (p : Nat) (f : Addr) : Prop := if p = 0 then FldF K H f else FldR K H p f
/-! ### the hand: a list of the cells, a place, a great cell's rest, a state -/
def Hand (H : Hp) (l : Addr) : Prop := ∃ (c : Addr) (ns : List Nat) (i b st : Nat), H l = some (.lst [.ref c, .int i, .int b, .int st]) ∧ H c = some (.lst (ns.map fun n : Nat => V.int n)) ∧ c ≠ l ∧ ns.length ≤ 63 ∧ i ≤ 63 ∧ st < 2147483587
/-- all but the hand is as it was -/
def But (l : Addr) (H H' : Hp) : Prop := ∀ b o, b ≠ l → H b = some o → H' b = some o
/-! ### the numbers' module -/
def sp_is_whole : Sp := fun vs H Q _ => ∃ x lo hi : V, vs = [x, lo, hi] ∧ Th H x ∧ Lh lo ∧ Lh hi ∧ Q (.bl (isW x lo hi)) H
def sp_common_divisor : Sp := fun vs H Q _ => ∃ a b : Int, vs = [.int a, .int b] ∧ Q (.int (Int.gcd a b : Nat)) H
def sp_power_of : Sp := fun vs H Q _ => ∃ (a : Int) (n : Nat), vs = [.int a, .int n] ∧ a.natAbs < 2 ^ 1000 ∧ n ≤ 64 ∧ Q (.int (a ^ n)) H
def sp_is_prime : Sp := fun vs H Q _ => ∃ x : V, vs = [x] ∧ Th H x ∧ Q (.bl (isPv x)) H
def sp_rest_power : Sp := fun vs H Q _ => ∃ (a : Int) (n p : Nat), vs = [.int a, .int n, .int p] ∧ 2 ≤ p ∧ p ≤ 20000 ∧ n < 2 ^ 200 ∧ ∀ H', Same H H' → Q (.int (a ^ n % (p : Int))) H'
def sp_lowest : Sp := fun vs H Q _ => ∃ t b : Int, vs = [.int t, .int b] ∧ b ≠ 0 ∧ t.natAbs < 2 ^ 4000 ∧ b.natAbs < 2 ^ 4000 ∧ ∀ H' q, Same H H' → H q = none → H' q = some (.tup [.int (low t b).1, .int (low t b).2]) → Q (.ref q) H'
/-! ### the fields -/
def spR_init (K : PySem.W.Frag) : Sp := fun vs H Q E => ∃ (x dx : Addr) (v : V), vs = [.ref x, v] ∧ H x = some (.ins (CR K) dx []) ∧ Th H v ∧
  (∀ p : Nat, v = .int p → isPv v = true → Pr p → p ≤ 20000 → ∀ H' : Hp, (∀ b o, b ≠ x → H b = some o → H' b = some o) → H' x = some (.ins (CR K) dx (rF p)) → Q .non H') ∧
  (isPv v = false → E (.ref (XP K)) none H)
def spF_init (K : PySem.W.Frag) : Sp := fun vs H Q _ => ∃ (x dx : Addr), vs = [.ref x] ∧ H x = some (.ins (CF K) dx []) ∧ ∀ H' : Hp, (∀ b o, b ≠ x → H b = some o → H' b = some o) → FldF K H' x → Q .non H'
def sp_eq (K : PySem.W.Frag) (fr : Bool) : Sp := fun vs H Q _ => ∃ (a b : Addr) (p q : Nat), vs = [.ref a, .ref b] ∧ Fp p ∧ (p = 0 ↔ fr = true) ∧ Fld K H p a ∧ Fld K H q b ∧ Q (.bl (decide (p = q))) H
/-- things that are no numbers of the fractions -/
inductive BadF (H : Hp) : V → Prop where
  | non : BadF H .non
  | bl (b : Bool) : BadF H (.bl b)
  | int (i : Int) : BadF H (.int i)
  | str (z : Str) : BadF H (.str z)
  | lst {a : Addr} {xs : List V} (h : H a = some (.lst xs)) : BadF H (.ref a)
  | len {a : Addr} {xs : List V} (h : H a = some (.tup xs)) (n : xs.length ≠ 2) : BadF H (.ref a)
  | fst {a : Addr} {x y : V} (h : H a = some (.tup [x, y])) (t : Th H x) (n : isW x .non .non = false) : BadF H (.ref a)
  | snd {a : Addr} {x y : V} (h : H a = some (.tup [x, y])) (t : Th H x) (u : Th H y) (n : isW x .non .non = true) (n2 : isW y (.int 1) .non = false) : BadF H (.ref a)
  | gcd {a : Addr} {t b : Int} (h : H a = some (.tup [.int t, .int b])) (h1 : 1 ≤ b) (g : Int.gcd t b ≠ 1) : BadF H (.ref a)
/-- a thing that the field p refuses -/
def Bad (H : Hp) (p : Nat) (v : V) : Prop := if p = 0 then BadF H v else Th H v ∧ isW v (.int 0) (.int ((p : Int) - 1)) = false
def sp_check (K : PySem.W.Frag) (fr : Bool) : Sp := fun vs H Q E => ∃ (f : Addr) (p : Nat) (v : V), vs = [.ref f, v] ∧ (p = 0 ↔ fr = true) ∧ Fld K H p f ∧
  ((∃ x, NAt H p v x ∧ IsN p x ∧ Q v H) ∨ (Bad H p v ∧ E (.ref (XN K)) none H))
def sp_number_of (K : PySem.W.Frag) (fr : Bool) : Sp := fun vs H Q _ => ∃ (f : Addr) (p : Nat) (i : Int), vs = [.ref f, .int i] ∧ (p = 0 ↔ fr = true) ∧ Fp p ∧ Fld K H p f ∧
  ∀ H' v, Same H H' → NAt H' p v (if p = 0 then (i, 1) else (i % (p : Int), 1)) → Q v H'
def sp_op (K : PySem.W.Frag) (op : Nat → Nb → Nb → Nb) (fr : Bool) : Sp := fun vs H Q _ => ∃ (f : Addr) (p : Nat) (va vb : V) (x y : Nb), vs = [.ref f, va, vb] ∧ (p = 0 ↔ fr = true) ∧ Fp p ∧ Fld K H p f ∧ NAt H p va x ∧ NAt H p vb y ∧ IsN p x ∧ IsN p y ∧ Sm 60 x ∧ Sm 60 y ∧
  ∀ H' v, Same H H' → NAt H' p v (op p x y) → Q v H'
def sp_quotient (K : PySem.W.Frag) (fr : Bool) : Sp := fun vs H Q E => ∃ (f : Addr) (p : Nat) (va vb : V) (x y : Nb), vs = [.ref f, va, vb] ∧ (p = 0 ↔ fr = true) ∧ Fp p ∧ Fld K H p f ∧ NAt H p va x ∧ NAt H p vb y ∧ IsN p x ∧ IsN p y ∧ Sm 60 x ∧ Sm 60 y ∧
  (y.1 = 0 → E (.ref (XZ K)) none H) ∧ (y.1 ≠ 0 → ∀ H' v z, Same H H' → NAt H' p v z → IsN p z → Sm 200 z → nTimes p z y = x → Q v H')
def sp_raise (K : PySem.W.Frag) (fr : Bool) : Sp := fun vs H Q E => ∃ (f : Addr) (p : Nat) (va : V) (x : Nb) (e : Int), vs = [.ref f, va, .int e] ∧ (p = 0 ↔ fr = true) ∧ Fp p ∧ Fld K H p f ∧ NAt H p va x ∧ IsN p x ∧ Sm 60 x ∧ e.natAbs < 2 ^ 110 ∧ (p = 0 → e.natAbs ≤ 8) ∧
  (x.1 = 0 → e < 0 → E (.ref (XZ K)) none H) ∧ (¬ (x.1 = 0 ∧ e < 0) → ∀ H' v, Same H H' → NAt H' p v (if x.1 = 0 then (if e = 0 then (1, 1) else (0, 1)) else nRaise p x e) → Q v H')
/-! ### sources -/
/-- the least source -/
def LS (p g : Nat) : Prop := 1 ≤ g ∧ g < p ∧ Src p g ∧ ∀ k, 1 ≤ k → k < g → ¬ Src p k
def sp_prime_divisors : Sp := fun vs H Q _ => ∃ n : Nat, vs = [.int n] ∧ 1 ≤ n ∧ n ≤ 20000 ∧ ∀ H' a (ds : List Nat), Same H H' → H a = none → H' a = some (.lst (ds.map fun d : Nat => V.int d)) → PD n ds → ds.length ≤ 20000 → Q (.ref a) H'
def sp_source_of (K : PySem.W.Frag) : Sp := fun vs H Q _ => ∃ (f : Addr) (p : Nat), vs = [.ref f] ∧ FldR K H p f ∧ ∀ H' (g : Nat), Same H H' → LS p g → Q (.int g) H'
def sp_steps_of (K : PySem.W.Frag) : Sp := fun vs H Q E => ∃ (f : Addr) (p : Nat) (v : V), vs = [.ref f, v] ∧ FldR K H p f ∧ Th H v ∧
  ((∃ n : Nat, v = .int n ∧ 1 ≤ n ∧ n < p ∧ ∀ H' (g k : Nat), Same H H' → LS p g → k < p - 1 → g ^ k % p = n → Q (.int k) H') ∨
    ((isW v (.int 0) (.int ((p : Int) - 1)) = false ∨ v = .int 0) ∧ E (.ref (XN K)) none H))
/-! ### the law's helpers -/
def sp_l_mixed : Sp := fun vs H Q _ => ∃ a b : Nat, vs = [.int a, .int b] ∧ a < 2 ^ 64 ∧ b < 2 ^ 64 ∧ ∀ r : Nat, Q (.int r) H
def sp_l_hand (K : PySem.W.Frag) : Sp := fun vs H Q _ => ∃ (a : Addr) (ns : List Int), vs = [.ref a] ∧ SqL K H a (ns.map V.int) ∧ ns.length ≤ 63 ∧ ∀ H' l, Same H H' → H l = none → Hand H' l → Q (.ref l) H'
def sp_l_draw : Sp := fun vs H Q _ => ∃ (l : Addr) (m : Nat), vs = [.ref l, .int m] ∧ Hand H l ∧ 1 ≤ m ∧ m < 2 ^ 200 ∧ ∀ H' (r : Nat), But l H H' → Hand H' l → r < m → Q (.int r) H'
def sp_l_whole : Sp := fun vs H Q _ => ∃ x : V, vs = [x] ∧ Th H x ∧ Q (.bl (isW x .non .non)) H
def sp_l_divisor : Sp := fun vs H Q _ => ∃ a b : Int, vs = [.int a, .int b] ∧ b.natAbs < 2 ^ 4400 ∧ Q (.int (Int.gcd a b : Nat)) H
def sp_l_prime : Sp := fun vs H Q _ => ∃ n : Int, vs = [.int n] ∧ n ≤ 30000 ∧ Q (.bl (decide (Pr n.toNat))) H
def sp_l_next_prime : Sp := fun vs H Q _ => ∃ n : Nat, vs = [.int n] ∧ 2 ≤ n ∧ n ≤ 19997 ∧ ∀ p : Nat, Pr p → p ≤ 19997 → Q (.int p) H
def sp_l_field : Sp := fun vs H Q _ => ∃ l : Addr, vs = [.ref l] ∧ Hand H l ∧ ∀ H' (p : Nat), But l H H' → Hand H' l → Fp p → Q (.int p) H'
def sp_l_made_field (K : PySem.W.Frag) : Sp := fun vs H Q _ => ∃ p : Nat, vs = [.int p] ∧ Fp p ∧ ∀ H' f, Same H H' → H f = none → Fld K H' p f → Q (.ref f) H'
def sp_l_const (c : Nat → Nb) : Sp := fun vs H Q _ => ∃ p : Nat, vs = [.int p] ∧ Fp p ∧ ∀ H' v, Same H H' → NAt H' p v (c p) → Q v H'
def sp_l_op (op : Nat → Nb → Nb → Nb) : Sp := fun vs H Q _ => ∃ (p : Nat) (va vb : V) (x y : Nb), vs = [.int p, va, vb] ∧ Fp p ∧ NAt H p va x ∧ NAt H p vb y ∧ IsN p x ∧ IsN p y ∧ Sm 1000 x ∧ Sm 1000 y ∧ ∀ H' v, Same H H' → NAt H' p v (op p x y) → Q v H'
/-- powers of exponents from 0 -/
def sp_l_power0 : Sp := fun vs H Q _ => ∃ (p : Nat) (va : V) (x : Nb) (e : Nat), vs = [.int p, va, .int e] ∧ Fp p ∧ NAt H p va x ∧ IsN p x ∧ Sm 60 x ∧ e < 2 ^ 110 ∧ (p = 0 → e ≤ 8) ∧ ∀ H' v, Same H H' → NAt H' p v (nPow p x e) → Q v H'
def sp_l_power : Sp := fun vs H Q _ => ∃ (p : Nat) (va : V) (x : Nb) (e : Int), vs = [.int p, va, .int e] ∧ Fp p ∧ NAt H p va x ∧ IsN p x ∧ x.1 ≠ 0 ∧ Sm 60 x ∧ e.natAbs < 2 ^ 110 ∧ (p = 0 → e.natAbs ≤ 8) ∧ ∀ H' v, Same H H' → NAt H' p v (nRaise p x e) → Q v H'
def sp_l_number : Sp := fun vs H Q _ => ∃ (l : Addr) (p : Nat), vs = [.ref l, .int p] ∧ Hand H l ∧ Fp p ∧ ∀ H' v x, But l H H' → Hand H' l → NAt H' p v x → IsN p x → x.1 ≠ 0 → Sm 31 x → Q v H'
def sp_l_is_number : Sp := fun vs H Q _ => ∃ (p : Nat) (v : V) (x : Nb), vs = [.int p, v] ∧ Fp p ∧ NAt H p v x ∧ IsN p x ∧ Sm 4000 x ∧ Q (.bl true) H
def sp_l_same : Sp := fun vs H Q _ => ∃ (p : Nat) (v u : V) (x : Nb), vs = [.int p, v, u] ∧ Fp p ∧ NAt H p v x ∧ NAt H p u x ∧ IsN p x ∧ Sm 4000 x ∧ Q (.bl true) H
/-- zero, as data -/
def zd (p : Nat) : PyData := if p = 0 then .tuple [.int 0, .int 1] else .int 0
/-- what l_odd gives: zero, or a thing that is refused -/
def Odd (K : PySem.W.Frag) (H : Hp) (p : Nat) (v : V) : Prop := ∃ d, Dp K H v d ∧ SeqAt.shaped d = true ∧ Th H v ∧ (PyData.eqv d (zd p) = true ∨ Bad H p v) ∧ (p ≠ 0 → isW v (.int 0) (.int ((p : Int) - 1)) = false ∨ v = .int 0)
def sp_l_odd (K : PySem.W.Frag) : Sp := fun vs H Q _ => ∃ (l : Addr) (p : Nat), vs = [.ref l, .int p] ∧ Hand H l ∧ Fp p ∧ ∀ H' v, But l H H' → Hand H' l → Odd K H' p v → Q v H'
def sp_l_field_told (K : PySem.W.Frag) : Sp := fun vs H Q _ => ∃ v : V, vs = [v] ∧ Th H v ∧ ∀ H' a, Same H H' → H a = none → H' a = some (.lst (if isPv v = true then [.str "made", v] else [.str "bad", .bl true])) → Q (.ref a) H'
def sp_l_ok (K : PySem.W.Frag) : Sp := fun vs H Q _ => ∃ l : Addr, vs = [.ref l] ∧ Hand H l ∧ ∀ H', But l H H' → Hand H' l → Q (.bl true) H'
def sp_l_number_told (K : PySem.W.Frag) : Sp := fun vs H Q _ => ∃ (f : Addr) (p : Nat) (v : V), vs = [.ref f, v] ∧ Fld K H p f ∧
  ((∃ x, NAt H p v x ∧ IsN p x ∧ ∀ H' a, Same H H' → H a = none → H' a = some (.lst [.str "told", v]) → Q (.ref a) H') ∨ (Bad H p v ∧ ∀ H' a, Same H H' → H a = none → H' a = some (.lst [.str "bad", .bl true]) → Q (.ref a) H'))
def sp_l_divided (K : PySem.W.Frag) : Sp := fun vs H Q _ => ∃ (f : Addr) (p : Nat) (va vb : V) (x y : Nb), vs = [.ref f, va, vb] ∧ Fp p ∧ Fld K H p f ∧ NAt H p va x ∧ NAt H p vb y ∧ IsN p x ∧ IsN p y ∧ Sm 60 x ∧ Sm 60 y ∧
  (y.1 = 0 → ∀ H' a, Same H H' → H' a = some (.lst [.str "zero", .bl true]) → Q (.ref a) H') ∧ (y.1 ≠ 0 → ∀ H' a v z, Same H H' → H' a = some (.lst [.str "told", v]) → NAt H' p v z → IsN p z → Sm 200 z → nTimes p z y = x → Q (.ref a) H')
def sp_l_raised (K : PySem.W.Frag) : Sp := fun vs H Q _ => ∃ (f : Addr) (p : Nat) (va : V) (x : Nb) (e : Int), vs = [.ref f, va, .int e] ∧ Fp p ∧ Fld K H p f ∧ NAt H p va x ∧ IsN p x ∧ Sm 60 x ∧ e.natAbs < 2 ^ 110 ∧ (p = 0 → e.natAbs ≤ 8) ∧
  (x.1 = 0 → e < 0 → ∀ H' a, Same H H' → H' a = some (.lst [.str "zero", .bl true]) → Q (.ref a) H') ∧
  (¬ (x.1 = 0 ∧ e < 0) → ∀ H' a v, Same H H' → H' a = some (.lst [.str "told", v]) → NAt H' p v (if x.1 = 0 then (if e = 0 then (1, 1) else (0, 1)) else nRaise p x e) → Q (.ref a) H')
def sp_l_any_number : Sp := fun vs H Q _ => ∃ (l : Addr) (p : Nat), vs = [.ref l, .int p] ∧ Hand H l ∧ Fp p ∧ ∀ H' v x, But l H H' → Hand H' l → NAt H' p v x → IsN p x → Sm 31 x → Q v H'
def sp_l_exponent : Sp := fun vs H Q _ => ∃ (l : Addr) (p : Nat), vs = [.ref l, .int p] ∧ Hand H l ∧ Fp p ∧ ∀ H' (e : Int), But l H H' → Hand H' l → e.natAbs < 2 ^ 110 → (p = 0 → e.natAbs ≤ 8) → Q (.int e) H'
def sp_l_powers_hold (K : PySem.W.Frag) : Sp := fun vs H Q _ => ∃ (f : Addr) (p : Nat) (va vz : V) (x : Nb) (e : Int), vs = [.ref f, .int p, va, .int e, vz] ∧ Fp p ∧ Fld K H p f ∧ NAt H p va x ∧ IsN p x ∧ Sm 31 x ∧ e.natAbs < 2 ^ 110 ∧ (p = 0 → e.natAbs ≤ 8) ∧ NAt H p vz (0, 1) ∧
  ∀ H', Same H H' → Q (.bl true) H'
def sp_l_sums_hold (K : PySem.W.Frag) : Sp := fun vs H Q _ => ∃ (l f : Addr) (p : Nat), vs = [.ref l, .ref f, .int p] ∧ Hand H l ∧ Fp p ∧ Fld K H p f ∧ ∀ H', But l H H' → Hand H' l → Q (.bl true) H'
open Classical in
def sp_l_is_source : Sp := fun vs H Q _ => ∃ (p n : Nat) (a : Addr) (ds : List Nat), vs = [.int p, .int n, .ref a] ∧ Pr p ∧ p ≤ 20000 ∧ 1 ≤ n ∧ n < p ∧ H a = some (.lst (ds.map fun d : Nat => V.int d)) ∧ PD (p - 1) ds ∧ ds.length ≤ 20000 ∧ ∀ H', Same H H' → Q (.bl (decide (Src p n))) H'
def sp_l_steps_told (K : PySem.W.Frag) : Sp := fun vs H Q _ => ∃ (f : Addr) (p : Nat) (v : V), vs = [.ref f, v] ∧ FldR K H p f ∧ Th H v ∧
  ((∃ n : Nat, v = .int n ∧ 1 ≤ n ∧ n < p ∧ ∀ H' (a : Addr) (g k : Nat), Same H H' → H' a = some (.lst [.str "told", .int k]) → LS p g → k < p - 1 → g ^ k % p = n → Q (.ref a) H') ∨
    ((isW v (.int 0) (.int ((p : Int) - 1)) = false ∨ v = .int 0) ∧ ∀ H' a, Same H H' → H' a = some (.lst [.str "bad"]) → Q (.ref a) H'))
def sp_l_source_holds (K : PySem.W.Frag) : Sp := fun vs H Q _ => ∃ (l : Addr) (p : Nat), vs = [.ref l, .int p] ∧ Hand H l ∧ Pr p ∧ p ≤ 20000 ∧ ∀ H', But l H H' → Hand H' l → Q (.bl true) H'
def sp_law (K : PySem.W.Frag) : Sp := fun vs H Q _ => ∃ (a : Addr) (ns : List Int), vs = [.ref a] ∧ SqL K H a (ns.map V.int) ∧ ns.length ≤ 63 ∧ ∀ H', Q (.bl true) H'
/-! ### as their callers see them -/
section
variable (P : Program) (w : World) (K : PySem.W.Frag) (mg : Str → Option Value) (base : Heap)
/-- is_whole, called with some of its defaults left -/
def Cad (k : Nat) (x : Str) (ps : List Str) (sp : Sp) (dvs : List V) : Prop := ∃ (f : Addr) (fd : FuncData) (ds : List Value), FnOk P w K mg base CX0 k f fd ps sp ∧ mg x = some (.ref f) ∧ PySem.W.keepIn K (.ref f) = true ∧ Vals dvs ds ∧ Binds K fd ps ds
abbrev C_is_whole (dvs : List V) : Prop := Cad P w K mg base 1 "is_whole" ["thing", "low", "high"] sp_is_whole dvs
abbrev C_common_divisor : Prop := Cal P w K mg base CX0 1 "common_divisor" ["one", "other"] sp_common_divisor
abbrev C_power_of : Prop := Cal P w K mg base CX0 1 "power_of" ["base", "exponent"] sp_power_of
abbrev C_is_prime : Prop := Cal P w K mg base CX0 2 "is_prime" ["number"] sp_is_prime
abbrev C_rest_power : Prop := Cal P w K mg base CX0 1 "rest_power" ["number", "exponent", "prime"] sp_rest_power
abbrev C_lowest_terms : Prop := Cal P w K mg base CX0 2 "lowest_terms" ["top", "bottom"] sp_lowest
abbrev C_RestField : Prop := Cac P w K mg base (L2.CX P w) 3 (CR K) "RestField" ["self", "prime"] (spR_init K)
abbrev C_FractionField : Prop := Cac P w K mg base CX0 1 (CF K) "FractionField" ["self"] (spF_init K)
abbrev C_R_eq : Prop := Cam P w K mg base CX0 1 (CR K) "__eq__" ["self", "other"] (sp_eq K false)
abbrev C_F_eq : Prop := Cam P w K mg base CX0 1 (CF K) "__eq__" ["self", "other"] (sp_eq K true)
abbrev C_R_check_number : Prop := Cam P w K mg base (L2.CX P w) 3 (CR K) "check_number" ["self", "number"] (sp_check K false)
abbrev C_F_check_number : Prop := Cam P w K mg base (L2.CX P w) 3 (CF K) "check_number" ["self", "number"] (sp_check K true)
abbrev C_R_number_of : Prop := Cam P w K mg base CX0 1 (CR K) "number_of" ["self", "whole"] (sp_number_of K false)
abbrev C_F_number_of : Prop := Cam P w K mg base CX0 1 (CF K) "number_of" ["self", "whole"] (sp_number_of K true)
abbrev C_R_op (m : Str) (op : Nat → Nb → Nb → Nb) : Prop := Cam P w K mg base CX0 1 (CR K) m ["self", "one", "other"] (sp_op K op false)
abbrev C_F_op (m : Str) (op : Nat → Nb → Nb → Nb) : Prop := Cam P w K mg base CX0 3 (CF K) m ["self", "one", "other"] (sp_op K op true)
abbrev C_R_quotient : Prop := Cam P w K mg base (L2.CX P w) 4 (CR K) "quotient" ["self", "one", "other"] (sp_quotient K false)
abbrev C_F_quotient : Prop := Cam P w K mg base (L2.CX P w) 3 (CF K) "quotient" ["self", "one", "other"] (sp_quotient K true)
abbrev C_R_power : Prop := Cam P w K mg base (L2.CX P w) 3 (CR K) "power" ["self", "number", "exponent"] (sp_raise K false)
abbrev C_F_power : Prop := Cam P w K mg base (L2.CX P w) 3 (CF K) "power" ["self", "number", "exponent"] (sp_raise K true)
abbrev C_prime_divisors : Prop := Cal P w K mg base CX0 1 "prime_divisors" ["number"] sp_prime_divisors
abbrev C_source_of : Prop := Cal P w K mg base CX0 2 "source_of" ["field"] (sp_source_of K)
abbrev C_steps_of : Prop := Cal P w K mg base (L2.CX P w) 4 "steps_of" ["field", "number"] (sp_steps_of K)
abbrev C_l_mixed : Prop := Cal P w K mg base CX0 1 "_law_mixed" ["_law_number_here", "_law_turn"] sp_l_mixed
abbrev C_l_hand : Prop := Cal P w K mg base CX0 1 "_law_hand" ["_law_script"] (sp_l_hand K)
abbrev C_l_draw : Prop := Cal P w K mg base CX0 2 "_law_draw" ["_law_hand_here", "_law_many"] sp_l_draw
abbrev C_l_whole : Prop := Cal P w K mg base CX0 1 "_law_whole" ["_law_thing"] sp_l_whole
abbrev C_l_divisor : Prop := Cal P w K mg base CX0 1 "_law_divisor" ["_law_one_here", "_law_other"] sp_l_divisor
abbrev C_l_lowest : Prop := Cal P w K mg base CX0 2 "_law_lowest" ["_law_top", "_law_bottom"] sp_lowest
abbrev C_l_prime : Prop := Cal P w K mg base CX0 1 "_law_prime" ["_law_number_here"] sp_l_prime
abbrev C_l_next_prime : Prop := Cal P w K mg base CX0 2 "_law_next_prime" ["_law_number_here"] sp_l_next_prime
abbrev C_l_field : Prop := Cal P w K mg base CX0 3 "_law_field" ["_law_hand_here"] sp_l_field
abbrev C_l_made_field : Prop := Cal P w K mg base CX0 5 "_law_made_field" ["_law_prime_here"] (sp_l_made_field K)
abbrev C_l_one : Prop := Cal P w K mg base CX0 1 "_law_one" ["_law_prime_here"] (sp_l_const fun _ => (1, 1))
abbrev C_l_minus : Prop := Cal P w K mg base CX0 1 "_law_minus" ["_law_prime_here"] (sp_l_const nMinus)
abbrev C_l_times : Prop := Cal P w K mg base CX0 3 "_law_times" ["_law_prime_here", "_law_a", "_law_b"] (sp_l_op nTimes)
abbrev C_l_power0 : Prop := Cal P w K mg base CX0 4 "_law_power" ["_law_prime_here", "_law_a", "_law_exponent_here"] sp_l_power0
abbrev C_l_power : Prop := Cal P w K mg base CX0 5 "_law_power" ["_law_prime_here", "_law_a", "_law_exponent_here"] sp_l_power
abbrev C_l_number : Prop := Cal P w K mg base CX0 3 "_law_number" ["_law_hand_here", "_law_prime_here"] sp_l_number
abbrev C_l_is_number : Prop := Cal P w K mg base CX0 2 "_law_is_number" ["_law_prime_here", "_law_thing"] sp_l_is_number
abbrev C_l_same : Prop := Cal P w K mg base CX0 3 "_law_same" ["_law_prime_here", "_law_thing", "_law_due"] sp_l_same
abbrev C_l_odd : Prop := Cal P w K mg base CX0 3 "_law_odd" ["_law_hand_here", "_law_prime_here"] (sp_l_odd K)
abbrev C_l_field_told : Prop := Cal P w K mg base CX0 5 "_law_field_told" ["_law_number_here"] (sp_l_field_told K)
abbrev C_l_primes_hold : Prop := Cal P w K mg base CX0 6 "_law_primes_hold" ["_law_hand_here"] (sp_l_ok K)
abbrev C_l_number_told : Prop := Cal P w K mg base CX0 4 "_law_number_told" ["_law_field_here", "_law_thing"] (sp_l_number_told K)
abbrev C_l_divided : Prop := Cal P w K mg base CX0 5 "_law_divided" ["_law_field_here", "_law_one_here", "_law_other"] (sp_l_divided K)
abbrev C_l_raised : Prop := Cal P w K mg base CX0 5 "_law_raised" ["_law_field_here", "_law_number_here", "_law_exponent_here"] (sp_l_raised K)
abbrev C_l_plus : Prop := Cal P w K mg base CX0 3 "_law_plus" ["_law_prime_here", "_law_a", "_law_b"] (sp_l_op nPlus)
abbrev C_l_less : Prop := Cal P w K mg base CX0 3 "_law_less" ["_law_prime_here", "_law_a", "_law_b"] (sp_l_op nLess)
abbrev C_l_any_number : Prop := Cal P w K mg base CX0 4 "_law_any_number" ["_law_hand_here", "_law_prime_here"] sp_l_any_number
abbrev C_l_exponent : Prop := Cal P w K mg base CX0 3 "_law_exponent" ["_law_hand_here", "_law_prime_here"] sp_l_exponent
abbrev C_l_powers_hold : Prop := Cal P w K mg base CX0 6 "_law_powers_hold" ["_law_field_here", "_law_prime_here", "_law_a", "_law_exponent_here", "_law_zero"] (sp_l_powers_hold K)
abbrev C_l_sums_hold : Prop := Cal P w K mg base CX0 7 "_law_sums_hold" ["_law_hand_here", "_law_field_here", "_law_prime_here"] (sp_l_sums_hold K)
abbrev C_l_prime_parts : Prop := Cal P w K mg base CX0 1 "_law_prime_parts" ["_law_number_here"] sp_prime_divisors
abbrev C_l_is_source : Prop := Cal P w K mg base CX0 6 "_law_is_source" ["_law_prime_here", "_law_number_here", "_law_parts"] sp_l_is_source
abbrev C_l_steps_told : Prop := Cal P w K mg base CX0 5 "_law_steps_told" ["_law_field_here", "_law_thing"] (sp_l_steps_told K)
abbrev C_l_source_holds : Prop := Cal P w K mg base CX0 7 "_law_source_holds" ["_law_hand_here", "_law_prime_here"] (sp_l_source_holds K)
abbrev C_law : Prop := Cal P w K mg base CX0 8 "law" ["_law_script"] (sp_law K)
end
/-- f(e, ..), the last defaults dvs left -/
theorem pcd {X : Cx} {k : Nat} {ps : List Str} {sp : Sp} {dvs : List V} {x : Str} {p pos : Pos} {e : Expr} {es : List Expr} {t : TA} {E : XK} (c : Cad X.prog X.w X.K X.mg X.base k x ps sp dvs) (hr : Room k X.A) (hx : Passes CX0 X E) (ha : PA X (e :: es) t) (hg : Gl X x := by rfl)
    (hdb : (x == ("__debug__" : Str)) = false := by decide) (he : starEach (e :: es) X.env = (false, eval e X.env) :: starEach es X.env := by rfl) (hpl : (backTo pos (starEach es X.env)).any (·.1) = false := by rfl) :
    PE X (.Call (.Name x p) (e :: es) [] pos) (tCall sp dvs E t) := by
  obtain ⟨f, fd, ds, F, g, kp, hd, b⟩ := c
  exact pe_call F hr hg g kp b hd hx ha hdb he hpl
end G3
namespace G3
open PySem PySem.Spec PyProof.Rows L2
theorem absI (i : Int) : (if i < 0 then -i else i) = ((i.natAbs : Nat) : Int) := by split <;> omega
section
variable {P : Program} {w : World} {K : PySem.W.Frag} {mg : Str → Option Value} {base : Heap}
theorem sc_common_divisor : FnScope ["one", "other", "first", "second"] ["one", "other"] (defScope (top 7)) := ⟨rfl, rfl, rfl, by decide +kernel, rfl, by decide +kernel, by decide +kernel⟩
theorem ok_common_divisor (D : Df K mg "common_divisor" (top 7) ["one", "other"]) (B : Bn mg) : C_common_divisor P w K mg base := by
  refine D.ok sc_common_divisor (fun vs H Q E h => ?_) (fun f cdv A outer s H vs Q E hr h => ?_)
  · obtain ⟨_, _, rfl, _⟩ := h
    rfl
  · obtain ⟨a, b, rfl, k⟩ := h
    refine ⟨_, (pss_cons (ps_par (i := 2) (j := 3) rfl sc_common_divisor.nd rfl rfl (by decide) rfl rfl (pa_cons (pe_callB call_abs (by rfl) B.abs_ (by decide +kernel) (pa_cons (pv 0) pa_nil)) (pa_cons (pe_callB call_abs (by rfl) B.abs_ (by decide +kernel) (pa_cons (pv 1) pa_nil)) pa_nil)) (by rfl))
      (pss_cons (ps_while PassesOwn.never (pt_truth (pv 3) (by intro _; rfl))
        (pss_one (ps_par (i := 2) (j := 3) rfl sc_common_divisor.nd rfl rfl (by decide) rfl rfl (pa_cons (pv 3) (pa_cons (pe_op op_mod (pe_callTy call_int1 (by rfl) B.int_ PyProof.Rows.boot_int (pa_cons (pv 2) pa_nil)) (pv 3)) pa_nil)) (by rfl))))
      (pss_one (ps_ret (pv 2))))), ?_⟩
    refine ⟨_, rfl, _, rfl, _, rfl, _, rfl, _, _, rfl, ?_⟩
    rw [absI, absI]
    refine ⟨fun m σ H' => H' = H ∧ ∃ x y : Nat, σ = [some (.int a), some (.int b), some (.int x), some (.int y)] ∧ m = y ∧ Nat.gcd x y = Int.gcd a b, ⟨_, rfl, _, _, rfl, rfl, rfl⟩, ?_⟩
    rintro m σ H' ⟨rfl, x, y, rfl, rfl, g⟩
    refine ⟨_, rfl, decide (m ≠ 0), ?_, ite2 (fun c => ?_) (fun c => ?_)⟩
    · show decide (m ≠ 0) = ((m : Int) != 0)
      by_cases z : m = 0
      · subst z
        rfl
      · simp [z]
    · have hm : m ≠ 0 := of_decide_eq_true c
      refine ⟨_, fun σ' H' h => h, _, rfl, _, rfl, .inl ⟨_, rfl, _, rfl, _, _, rfl, rfl, by omega, _, _, rfl, ?_⟩⟩
      refine ⟨x % m, Nat.mod_lt _ (by omega), rfl, m, x % m, rfl, rfl, by rw [gcd_turn]; exact g⟩
    · have hm : m = 0 := by
        have := of_decide_eq_false (eq_false_of_ne_true c)
        omega
      refine ⟨_, rfl, ?_⟩
      rw [hm, Nat.gcd_zero_right] at g
      rw [g]
      exact k
end
end G3
namespace G3
open PySem PySem.Spec PyProof.Rows L2
theorem pow_small {a : Int} {c : Nat} (h : a.natAbs < 2 ^ c) : ∀ t : Nat, (a ^ t).natAbs < 2 ^ (c * t + 1)
  | 0 => by simp
  | t + 1 => by
    have ih := pow_small h t
    rw [Int.pow_succ]
    have := wide_lt ih h
    have e : c * t + 1 + c = c * (t + 1) + 1 := by rw [Nat.mul_succ]; omega
    rw [e] at this
    exact this
theorem inj_int {i j : Int} (h : decide (V.int i = V.int j) = true) : i = j := V.int.inj (of_decide_eq_true h)
theorem ninj_int {i j : Int} (h : ¬ decide (V.int i = V.int j) = true) : i ≠ j := fun e => h (by rw [e]; exact decide_eq_true rfl)
section
variable {P : Program} {w : World} {K : PySem.W.Frag} {mg : Str → Option Value} {base : Heap}
theorem sc_power_of : FnScope ["base", "exponent", "total", "factor", "left"] ["base", "exponent"] (defScope (top 8)) := ⟨rfl, rfl, rfl, by decide +kernel, rfl, by decide +kernel, by decide +kernel⟩
theorem ok_power_of (D : Df K mg "power_of" (top 8) ["base", "exponent"]) (B : Bn mg) : C_power_of P w K mg base := by
  refine D.ok sc_power_of (fun vs H Q E h => ?_) (fun f cdv A outer s H vs Q E hr h => ?_)
  · obtain ⟨_, _, rfl, _⟩ := h
    rfl
  · obtain ⟨a, n, rfl, ha, hn, k⟩ := h
    refine ⟨_, (pss_cons (ps_set (i := 2) sc_power_of.nd rfl (Or.inl rfl) pe_int)
      (pss_cons (ps_set (i := 3) sc_power_of.nd rfl (Or.inl rfl) (pv 0))
      (pss_cons (ps_set (i := 4) sc_power_of.nd rfl (Or.inl rfl) (pv 1))
      (pss_cons (ps_while PassesOwn.never (pt_cmpR op_gt (pv 4) pe_int (nomark _))
        (pss_cons (ps_if (pt_cmpR op_eq (pe_op op_mod (pe_callTy call_int1 (by rfl) B.int_ PyProof.Rows.boot_int (pa_cons (pv 4) pa_nil)) pe_int) pe_int (nomark _))
          (pss_one (ps_set (i := 2) sc_power_of.nd rfl (Or.inl rfl) (pe_op op_mulW (pv 2) (pv 3))))
          pss_nil)
        (pss_cons (ps_set (i := 3) sc_power_of.nd rfl (Or.inl rfl) (pe_op op_mulW (pv 3) (pv 3)))
        (pss_one (ps_set (i := 4) sc_power_of.nd rfl (Or.inl rfl) (pe_op op_fdiv (pv 4) pe_int))))))
      (pss_one (ps_ret (pv 2))))))), ?_⟩
    refine ⟨_, rfl, _, rfl, fun m σ H' => H' = H ∧ ∃ t g : Nat, σ = [some (.int a), some (.int n), some (.int (a ^ t)), some (.int (a ^ g)), some (.int m)] ∧ t + g * m = n, ⟨n, rfl, 0, 1, ?_, by omega⟩, ?_⟩
    · rw [Int.pow_zero, Int.pow_succ, Int.pow_zero, Int.one_mul]
      rfl
    rintro m σ H' ⟨rfl, t, g, rfl, e⟩
    refine ⟨_, rfl, _, _, rfl, rfl, _, rfl, ite2 (fun c => ?_) (fun c => ?_)⟩
    · have hm : 1 ≤ m := by
        have := of_decide_eq_true c
        omega
      have hg : g ≤ 64 := by
        have := Nat.mul_le_mul_left g hm
        omega
      have b1 := pow_small ha t
      have b2 := pow_small ha g
      have fin : ∀ t' : Nat, t' + g * 2 * (m / 2) = n → t' ≤ 64 → ∃ m', m' < m ∧ H' = H' ∧ ∃ t2 g2 : Nat, [some (V.int a), some (.int n), some (.int (a ^ t')), some (.int (a ^ g * a ^ g)), some (.int ((m : Int) / 2))] = [some (V.int a), some (.int n), some (.int (a ^ t2)), some (.int (a ^ g2)), some (.int m')] ∧ t2 + g2 * m' = n := fun t' h1 h2 =>
        ⟨m / 2, by omega, rfl, t', g * 2, by rw [← Int.pow_add, show g + g = g * 2 by omega]; rfl, h1⟩
      refine ⟨_, fun σ' H2 h => h, _, rfl, .inl ⟨_, rfl, _, _, rfl, rfl, (by show (0 : Int) < 2; decide), rfl, _, rfl, ite2 (fun c2 => ?_) (fun c2 => ?_)⟩⟩
      · have hodd := inj_int c2
        have hd : m = 2 * (m / 2) + 1 := by omega
        have hq : g * m = g * 2 * (m / 2) + g := by
          conv => lhs; rw [hd, Nat.mul_add, ← Nat.mul_assoc, Nat.mul_one]
        have ht : t + g ≤ 64 := by omega
        refine ⟨_, rfl, _, rfl, _, _, rfl, rfl, wide_mul b1 b2 (by omega) (by omega) (by omega), ?_⟩
        refine ⟨_, rfl, _, rfl, _, _, rfl, rfl, wide_mul b2 b2 (by omega) (by omega) (by omega), _, rfl, _, _, rfl, rfl, ⟨by decide, by decide⟩, ?_⟩
        have q := fin (t + g) (by omega) ht
        rw [Int.pow_add] at q
        exact q
      · have heven := ninj_int c2
        have hd : m = 2 * (m / 2) := by omega
        have hq : g * m = g * 2 * (m / 2) := by
          conv => lhs; rw [hd, ← Nat.mul_assoc]
        refine ⟨_, rfl, _, rfl, _, _, rfl, rfl, wide_mul b2 b2 (by omega) (by omega) (by omega), _, rfl, _, _, rfl, rfl, ⟨by decide, by decide⟩, ?_⟩
        exact fin t (by omega) (by omega)
    · have hm : m = 0 := by
        have := of_decide_eq_false (eq_false_of_ne_true c)
        omega
      subst hm
      refine ⟨_, rfl, ?_⟩
      rw [show t = n by omega]
      exact k
theorem sc_lowest_terms : FnScope ["top", "bottom", "part"] ["top", "bottom"] (defScope (top 13)) := ⟨rfl, rfl, rfl, by decide +kernel, rfl, by decide +kernel, by decide +kernel⟩
theorem ok_lowest_terms (D : Df K mg "lowest_terms" (top 13) ["top", "bottom"]) (B : Bn mg) (c_common_divisor : C_common_divisor P w K mg base) : C_lowest_terms P w K mg base := by
  refine D.ok sc_lowest_terms (fun vs H Q E h => ?_) (fun f cdv A outer s H vs Q E hr h => ?_)
  · obtain ⟨_, _, rfl, _⟩ := h
    rfl
  · obtain ⟨t, b, rfl, hb, ht4, hb4, k⟩ := h
    refine ⟨_, (pss_cons (ps_set (i := 2) sc_lowest_terms.nd rfl (Or.inl rfl) (pcl c_common_divisor (hr.mono (by decide)) pass0 (pa_cons (pv 0) (pa_cons (pv 1) pa_nil))))
      (pss_cons (ps_if (pt_cmpR op_lt (pv 1) pe_int (nomark _))
        (pss_one (ps_set (i := 2) sc_lowest_terms.nd rfl (Or.inl rfl) (pe_un un_neg (pv 2))))
        pss_nil)
      (pss_one (ps_ret (pe_tup (pa_cons (pe_op op_fdivX (pv 0) (pv 2)) (pa_cons (pe_op op_fdivX (pv 1) (pv 2)) pa_nil))))))), ?_⟩
    have hs : CDivX t (sg t b) ∧ CDivX b (sg t b) := by
      have h1 := sg_ne (t := t) hb
      have h2 : (sg t b).natAbs < 2 ^ 4000 := by
        rw [sg_abs]
        exact Nat.lt_of_le_of_lt (Nat.le_of_dvd (by omega) (Int.natAbs_dvd_natAbs.mpr (Int.gcd_dvd_right t b))) hb4
      exact ⟨divX h1 h2 (by decide) (by decide), divX h1 h2 (by decide) (by decide)⟩
    have fin : ∀ q, H q = none → Q (.ref q) (upd H q (.tup [.int (t.fdiv (sg t b)), .int (b.fdiv (sg t b))])) := fun q hq => k _ q (Same.up hq) hq upd_same
    refine ⟨_, rfl, _, rfl, t, b, rfl, ?_⟩
    refine ⟨_, rfl, _, _, rfl, rfl, _, rfl, ite2 (fun c => ?_) (fun c => ?_)⟩
    · have hneg : b < 0 := of_decide_eq_true c
      have e : sg t b = -(Int.gcd t b : Int) := if_pos hneg
      rw [e] at hs fin
      exact ⟨_, rfl, _, rfl, _, rfl, _, rfl, _, _, rfl, rfl, hs.1, _, rfl, _, rfl, _, _, rfl, rfl, hs.2, by show 2 ≤ sizeLine; decide, fin⟩
    · have hpos : ¬ b < 0 := of_decide_eq_false (eq_false_of_ne_true c)
      have e : sg t b = (Int.gcd t b : Int) := if_neg hpos
      rw [e] at hs fin
      exact ⟨_, rfl, _, rfl, _, _, rfl, rfl, hs.1, _, rfl, _, rfl, _, _, rfl, rfl, hs.2, by show 2 ≤ sizeLine; decide, fin⟩
end
end G3
namespace G3
open PySem PySem.Spec PyProof.Rows L2
/-- the type of a thing -/
def tyS : V → String
  | .non => "NoneType"
  | .bl _ => "bool"
  | .int _ => "int"
  | .str _ => "str"
  | _ => "list"
theorem Th.ty {K : PySem.W.Frag} {H : Hp} {x : V} (h : Th H x) : ∃ T : String, TyX K H x (.type T) ∧ (T = tyS x ∨ ∃ a xs, x = .ref a ∧ H a = some (.tup xs) ∧ T = "tuple") := by
  cases h with
  | non => exact ⟨_, .base .non, .inl rfl⟩
  | bl b => exact ⟨_, .base (.bl b), .inl rfl⟩
  | int i => exact ⟨_, .base (.int i), .inl rfl⟩
  | str z => exact ⟨_, .base (.str z), .inl rfl⟩
  | lst h => exact ⟨_, .base (.lst h), .inl rfl⟩
  | tup h => exact ⟨_, .base (.tup h), .inr ⟨_, _, rfl, h, rfl⟩⟩
theorem k_non_int : kitB "NoneType" "int" = some false := by decide +kernel
theorem k_str_int : kitB "str" "int" = some false := by decide +kernel
theorem k_list_int : kitB "list" "int" = some false := by decide +kernel
theorem k_tuple_int : kitB "tuple" "int" = some false := by decide +kernel
theorem k_int_int : kitB "int" "int" = some true := by decide +kernel
theorem k_bool_int : kitB "bool" "int" = some true := by decide +kernel
theorem k_int_bool : kitB "int" "bool" = some false := by decide +kernel
theorem k_bool_bool : kitB "bool" "bool" = some true := by decide +kernel
/-- a thing that is no int by type -/
theorem Th.cases3 {K : PySem.W.Frag} {H : Hp} {x : V} (h : Th H x) : (∃ i, x = .int i) ∨ (∃ b, x = .bl b) ∨ ((∀ lo hi, isW x lo hi = false) ∧ ∃ T : String, TyX K H x (.type T) ∧ kitB T "int" = some false) := by
  cases h with
  | non => exact .inr (.inr ⟨fun _ _ => rfl, _, .base .non, k_non_int⟩)
  | bl b => exact .inr (.inl ⟨b, rfl⟩)
  | int i => exact .inl ⟨i, rfl⟩
  | str z => exact .inr (.inr ⟨fun _ _ => rfl, _, .base (.str z), k_str_int⟩)
  | lst h => exact .inr (.inr ⟨fun _ _ => rfl, _, .base (.lst h), k_list_int⟩)
  | tup h => exact .inr (.inr ⟨fun _ _ => rfl, _, .base (.tup h), k_tuple_int⟩)
section
variable {P : Program} {w : World} {K : PySem.W.Frag} {mg : Str → Option Value} {base : Heap}
theorem sc_is_whole : FnScope ["thing", "low", "high"] ["thing", "low", "high"] (defScope (top 6)) := ⟨rfl, rfl, rfl, by decide +kernel, rfl, by decide +kernel, by decide +kernel⟩
theorem ok_is_whole {f : Addr} {fd : FuncData} (F : FunD K "is_whole" "is_whole" (defArgs (top 6)) (defBody (top 6)) (defScope (top 6)) [.non, .non] [] f fd) (B : Bn mg) : FnOk P w K mg base CX0 1 f fd ["thing", "low", "high"] sp_is_whole := by
  refine F.ok sc_is_whole (fun vs H Q E h => ?_) (fun cdv A outer s H vs Q E hr h => ?_)
  · obtain ⟨_, _, _, rfl, _⟩ := h
    rfl
  · obtain ⟨x, lo, hi, rfl, hx, hlo, hhi, k⟩ := h
    refine ⟨_, PSs.nox (pss_cons (ps_if (PW.pt (pw_or (pt_not (pt_val (pe_callB call_isi (by rfl) B.isi boot_isinstance (pa_cons (pv 0) (pa_cons (pe_bltn (v := .ty "int") (by rfl) B.int_ PyProof.Rows.boot_int rfl) pa_nil))))) (pw_or1 (pt_val (pe_callB call_isi (by rfl) B.isi boot_isinstance (pa_cons (pv 0) (pa_cons (pe_bltn (v := .ty "bool") (by rfl) B.bool_ PyProof.Rows.boot_bool rfl) pa_nil)))))))
        (pss_one (ps_ret pe_bl))
        pss_nil)
      (pss_cons (ps_if (PW.pt (pw_and (pt_cmpR op_notN (pv 1) pe_non (nomark _)) (pw_and1 (pt_cmpR op_lt (pv 0) (pv 1) (nomark _)))))
        (pss_one (ps_ret pe_bl))
        pss_nil)
      (pss_one (ps_ret (pe_or (pe_cmpR op_isN (pv 2) pe_non (nomark _)) (pe_one (pe_cmpR op_le (pv 0) (pv 2) (nomark _)))))))), ?_⟩
    rcases hx.cases3 (K := K) with ⟨i, rfl⟩ | ⟨b, rfl⟩ | ⟨hw, T, ty, kt⟩
    · refine ⟨_, rfl, _, _, _, _, _, rfl, .ty "int", .base (.int i), kit_ty k_int_int, _, rfl, iteF ?_⟩
      refine ⟨_, rfl, _, _, _, _, _, rfl, .ty "bool", .base (.int i), kit_ty k_int_bool, _, rfl, iteF ?_⟩
      have fin : (∃ v, hi = v ∧ ∃ b, (V.bl (decide (v = .non)) = V.bl b) ∧ (if b = true then Q (.bl true) H else ∃ j, hi = .int j ∧ Q (.bl (decide (i ≤ j))) H)) → loB lo i = true → Q (.bl (isW (.int i) lo hi)) H := fun _ _ => k
      cases hlo with
      | non =>
        refine ⟨_, rfl, rfl, _, rfl, iteF (iteF ?_)⟩
        cases hhi with
        | non => exact ⟨_, rfl, rfl, true, rfl, iteT k⟩
        | int j => exact ⟨_, rfl, rfl, false, rfl, iteF ⟨_, rfl, _, rfl, _, _, rfl, rfl, k⟩⟩
      | int l =>
        refine ⟨_, rfl, rfl, _, rfl, iteT ⟨_, rfl, _, rfl, _, _, rfl, rfl, _, rfl, ite2 (fun c => ?_) (fun c => ?_)⟩⟩
        · have h1 : i < l := of_decide_eq_true c
          have e : isW (.int i) (.int l) hi = false := by
            show (decide (l ≤ i) && hiB hi i) = false
            rw [decide_eq_false (by omega)]
            rfl
          rw [e] at k
          exact k
        · have h1 : ¬ i < l := of_decide_eq_false (eq_false_of_ne_true c)
          have e : isW (.int i) (.int l) hi = hiB hi i := by
            show (decide (l ≤ i) && hiB hi i) = hiB hi i
            rw [decide_eq_true (by omega)]
            rfl
          rw [e] at k
          cases hhi with
          | non => exact ⟨_, rfl, rfl, true, rfl, iteT k⟩
          | int j => exact ⟨_, rfl, rfl, false, rfl, iteF ⟨_, rfl, _, rfl, _, _, rfl, rfl, k⟩⟩
    · refine ⟨_, rfl, _, _, _, _, _, rfl, .ty "int", .base (.bl b), kit_ty k_bool_int, _, rfl, iteF ?_⟩
      exact ⟨_, rfl, _, _, _, _, _, rfl, .ty "bool", .base (.bl b), kit_ty k_bool_bool, _, rfl, iteT k⟩
    · refine ⟨_, rfl, _, _, _, _, _, rfl, .ty "int", ty, kit_ty kt, _, rfl, iteT (iteT ?_)⟩
      rw [hw] at k
      exact k
theorem sc_is_prime : FnScope ["number", "divisor"] ["number"] (defScope (top 11)) := ⟨rfl, rfl, rfl, by decide +kernel, rfl, by decide +kernel, by decide +kernel⟩
theorem ok_is_prime (D : Df K mg "is_prime" (top 11) ["number"]) (B : Bn mg) (c_is_whole : C_is_whole P w K mg base []) (gM : ∃ t, mg "MOST_PRIME" = some (.int 20000 t)) : C_is_prime P w K mg base := by
  obtain ⟨tM, g_MOST_PRIME⟩ := gM
  refine D.ok sc_is_prime (fun vs H Q E h => ?_) (fun f cdv A outer s H vs Q E hr h => ?_)
  · obtain ⟨_, rfl, _⟩ := h
    rfl
  · obtain ⟨x, rfl, hx, k⟩ := h
    refine ⟨_, (pss_cons (ps_if (pt_not (pt_val (pcd c_is_whole (hr.mono (by decide)) pass0 (pa_cons (pv 0) (pa_cons pe_int (pa_cons (pe_glob (v := .int 20000) rfl g_MOST_PRIME ⟨_, rfl⟩) pa_nil))))))
        (pss_one (ps_ret pe_bl))
        pss_nil)
      (pss_cons (ps_set (i := 1) sc_is_prime.nd rfl (Or.inl rfl) pe_int)
      (pss_cons (ps_while PassesOwn.never (pt_cmpR op_le (pe_op op_mul (pv 1) (pv 1)) (pv 0) (nomark _))
        (pss_cons (ps_if (pt_cmpR op_eq (pe_op op_mod (pe_callTy call_int1 (by rfl) B.int_ PyProof.Rows.boot_int (pa_cons (pv 0) pa_nil)) (pv 1)) pe_int (nomark _))
          (pss_one (ps_ret pe_bl))
          pss_nil)
        (pss_one (ps_set (i := 1) sc_is_prime.nd rfl (Or.inl rfl) (pe_op op_add (pv 1) pe_int)))))
      (pss_one (ps_ret pe_bl))))), ?_⟩
    refine ⟨_, rfl, x, .int 2, .int 20000, rfl, hx, .int _, .int _, _, rfl, ?_⟩
    cases e : isW x (.int 2) (.int 20000) with
    | false =>
      refine iteT ?_
      have e2 : isPv x = false := by
        cases x with
        | int i =>
          have e' : (decide (2 ≤ i) && decide (i ≤ 20000)) = false := e
          show (decide (2 ≤ i ∧ i ≤ 20000) && decide (Pr i.toNat)) = false
          rw [Bool.decide_and, e']
          rfl
        | _ => rfl
      rw [e2] at k
      exact k
    | true =>
      refine iteF ?_
      obtain ⟨i, rfl⟩ : ∃ i, x = .int i := by
        cases x with
        | int i => exact ⟨i, rfl⟩
        | _ => cases e
      have e' : (decide (2 ≤ i) && decide (i ≤ 20000)) = true := e
      obtain ⟨h1, h2⟩ := Bool.and_eq_true_iff.mp e'
      replace h1 := of_decide_eq_true h1
      replace h2 := of_decide_eq_true h2
      obtain ⟨n, rfl⟩ : ∃ n : Nat, i = (n : Int) := ⟨i.toNat, by omega⟩
      have kT : Pr n → Q (.bl true) H := fun hp => by
        have e3 : isPv (.int (n : Int)) = true := by
          show (decide (2 ≤ (n : Int) ∧ (n : Int) ≤ 20000) && decide (Pr (n : Int).toNat)) = true
          rw [Int.toNat_natCast, decide_eq_true hp, decide_eq_true ⟨h1, h2⟩]
          rfl
        rw [e3] at k
        exact k
      have kF : ¬ Pr n → Q (.bl false) H := fun hp => by
        have e3 : isPv (.int (n : Int)) = false := by
          show (decide (2 ≤ (n : Int) ∧ (n : Int) ≤ 20000) && decide (Pr (n : Int).toNat)) = false
          rw [Int.toNat_natCast, decide_eq_false hp, Bool.and_false]
        rw [e3] at k
        exact k
      refine ⟨fun m σ H' => H' = H ∧ ∃ d : Nat, σ = [some (.int n), some (.int d)] ∧ m = n + 2 - d ∧ 2 ≤ d ∧ ∀ e, 2 ≤ e → e < d → ¬ e ∣ n, ⟨_, rfl, 2, rfl, rfl, by omega, fun e h1 h2 => by omega⟩, ?_⟩
      rintro m σ H' ⟨rfl, d, rfl, rfl, hd, hs⟩
      by_cases hc : d * d ≤ n
      · have hdn : 2 * d ≤ n := Nat.le_trans (Nat.mul_le_mul_right d hd) hc
        refine ⟨_, rfl, _, rfl, _, _, rfl, rfl, .inl ⟨by omega, by omega⟩, _, rfl, _, _, rfl, rfl, true, ?_, iteT ?_⟩
        · show V.bl (decide ((d : Int) * (d : Int) ≤ (n : Int))) = V.bl true
          rw [decide_eq_true (by rw [← Int.natCast_mul]; omega)]
        refine ⟨_, fun σ' H2 h => h, _, rfl, .inl ⟨_, rfl, _, rfl, _, _, rfl, rfl, by omega, rfl, _, rfl, ite2 (fun c2 => ?_) (fun c2 => ?_)⟩⟩
        · have c3 := inj_int c2
          refine kF fun hp => hp.2 d hd (by omega) (Nat.dvd_of_mod_eq_zero ?_)
          omega
        · have c3 := ninj_int c2
          refine ⟨_, rfl, _, _, rfl, rfl, n + 2 - (d + 1), by omega, rfl, d + 1, rfl, rfl, by omega, fun e h3 h4 h5 => ?_⟩
          by_cases hed : e = d
          · subst hed
            have := Nat.mod_eq_zero_of_dvd h5
            omega
          · exact hs e h3 (by omega) h5
      · have hb : d ≤ n + 2 := by
          rcases Nat.lt_or_ge n d with z | z
          · -- the last turn was at d - 1 with (d - 1) * (d - 1) ≤ n, or d = 2
            by_cases z2 : d ≤ n + 2
            · exact z2
            · exact absurd (show n ∣ n from Nat.dvd_refl n) (hs n (by omega) z)
          · omega
        refine ⟨_, rfl, _, rfl, _, _, rfl, rfl, .inl ⟨by omega, by omega⟩, _, rfl, _, _, rfl, rfl, false, ?_, iteF ?_⟩
        · show V.bl (decide ((d : Int) * (d : Int) ≤ (n : Int))) = V.bl false
          rw [decide_eq_false (by rw [← Int.natCast_mul]; omega)]
        exact kT (pr_of_root (by omega) hs (by omega))
theorem sc_rest_power : FnScope ["number", "exponent", "prime", "out", "base", "left", "bit"] ["number", "exponent", "prime"] (defScope (top 12)) := ⟨rfl, rfl, rfl, by decide +kernel, rfl, by decide +kernel, by decide +kernel⟩
theorem ok_rest_power (D : Df K mg "rest_power" (top 12) ["number", "exponent", "prime"]) (B : Bn mg) : C_rest_power P w K mg base := by
  refine D.ok sc_rest_power (fun vs H Q E h => ?_) (fun f cdv A outer s H vs Q E hr h => ?_)
  · obtain ⟨_, _, _, rfl, _⟩ := h
    rfl
  · obtain ⟨a, n, p, rfl, hp, hp2, hn, k⟩ := h
    refine ⟨_, (pss_cons (ps_set (i := 3) sc_rest_power.nd rfl (Or.inl rfl) pe_int)
      (pss_cons (ps_set (i := 4) sc_rest_power.nd rfl (Or.inl rfl) (pe_op op_mod (pe_callTy call_int1 (by rfl) B.int_ PyProof.Rows.boot_int (pa_cons (pv 0) pa_nil)) (pv 2)))
      (pss_cons (ps_set (i := 5) sc_rest_power.nd rfl (Or.inl rfl) (pv 1))
      (pss_cons (ps_while PassesOwn.never (pt_cmpR op_gt (pv 5) pe_int (nomark _))
        (pss_cons (ps_asg (pe_callB call_divmodW (by rfl) B.divmod_ boot_divmod (pa_cons (pv 5) (pa_cons pe_int pa_nil))) (pg_tup rfl (pgs_cons (pg_name (i := 5) sc_rest_power.nd rfl (Or.inl rfl)) (pgs_cons (pg_name (i := 6) sc_rest_power.nd rfl (Or.inl rfl)) pgs_nil))))
        (pss_cons (ps_if (pt_cmpR op_eq (pv 6) pe_int (nomark _))
          (pss_one (ps_set (i := 3) sc_rest_power.nd rfl (Or.inl rfl) (pe_op op_mod (pe_op op_mul (pv 3) (pv 4)) (pv 2))))
          pss_nil)
        (pss_one (ps_set (i := 4) sc_rest_power.nd rfl (Or.inl rfl) (pe_op op_mod (pe_op op_mul (pv 4) (pv 4)) (pv 2)))))))
      (pss_one (ps_ret (pv 3))))))), ?_⟩
    have hpz : (p : Int) ≠ 0 := by omega
    have nn : ∀ t : Nat, 0 ≤ a ^ t % (p : Int) ∧ a ^ t % (p : Int) < 20000 := fun t => ⟨Int.emod_nonneg _ hpz, by have := Int.emod_lt_of_pos (a ^ t) (show (0 : Int) < p by omega); omega⟩
    have mm : ∀ t g : Nat, a ^ t % (p : Int) * (a ^ g % (p : Int)) % (p : Int) = a ^ (t + g) % (p : Int) := fun t g => by rw [← Int.mul_emod, Int.pow_add]
    refine ⟨_, rfl, .inl ⟨_, rfl, _, rfl, _, _, rfl, rfl, by omega, _, rfl, fun m σ H' => Same H H' ∧ m < 2 ^ 200 ∧ ∃ (t g : Nat) (v : Option V), σ = [some (.int a), some (.int n), some (.int p), some (.int (a ^ t % (p : Int))), some (.int (a ^ g % (p : Int))), some (.int m), v] ∧ t + g * m = n,
      ⟨n, Same.refl _, hn, 0, 1, none, ?_, by omega⟩, ?_⟩⟩
    · rw [Int.pow_zero, Int.pow_succ, Int.pow_zero, Int.one_mul, Int.emod_eq_of_lt (by decide) (by omega : (1 : Int) < p)]
      rfl
    rintro m σ H' ⟨hS, hm2, t, g, v, rfl, e⟩
    refine ⟨_, rfl, _, _, rfl, rfl, _, rfl, ite2 (fun c => ?_) (fun c => ?_)⟩
    · have hm : 1 ≤ m := by
        have := of_decide_eq_true c
        omega
      have fin : ∀ (t' : Nat) (H2 : Hp), Same H H2 → t' + g * 2 * (m / 2) = n → ∃ m', m' < m ∧ Same H H2 ∧ m' < 2 ^ 200 ∧ ∃ (t2 g2 : Nat) (v : Option V), [some (V.int a), some (.int n), some (.int p), some (.int (a ^ t' % (p : Int))), some (.int (a ^ g % (p : Int) * (a ^ g % (p : Int)) % (p : Int))), some (.int ((m : Int) / 2)), some (.int ((m : Int) % 2))] =
          [some (V.int a), some (.int n), some (.int p), some (.int (a ^ t2 % (p : Int))), some (.int (a ^ g2 % (p : Int))), some (.int m'), v] ∧ t2 + g2 * m' = n := fun t' H2 h0 h1 =>
        ⟨m / 2, by omega, h0, by omega, t', g * 2, _, by rw [mm, show g + g = g * 2 by omega]; rfl, h1⟩
      refine ⟨_, fun σ' H2 h => h, _, rfl, _, _, rfl, divp_ok (by decide) ?_, fun q hq => ?_⟩
      · have hl : (m : Int).natAbs < 2 ^ 200 := by omega
        have := PyProof.Rows.intBits_le hl
        omega
      refine ⟨_, _, rfl, SqT.of upd_same, rfl, _, _, rfl, _, _, rfl, rfl, ?_⟩
      have hS2 := Same.up' hS (o := .tup [.int ((m : Int) / 2), .int ((m : Int) % 2)]) hq
      have n1 := nn t
      have n2 := nn g
      refine ⟨_, rfl, rfl, _, rfl, ite2 (fun c2 => ?_) (fun c2 => ?_)⟩
      · have hodd := inj_int c2
        have hd : m = 2 * (m / 2) + 1 := by omega
        have hq : g * m = g * 2 * (m / 2) + g := by
          conv => lhs; rw [hd, Nat.mul_add, ← Nat.mul_assoc, Nat.mul_one]
        refine ⟨_, rfl, _, rfl, _, _, rfl, rfl, .inl ⟨by omega, by omega⟩, _, rfl, _, _, rfl, rfl, by omega, ?_⟩
        refine ⟨_, rfl, _, rfl, _, _, rfl, rfl, .inl ⟨by omega, by omega⟩, _, rfl, _, _, rfl, rfl, by omega, ?_⟩
        have q := fin (t + g) _ hS2 (by omega)
        rw [← mm] at q
        exact q
      · have heven := ninj_int c2
        have hd : m = 2 * (m / 2) := by omega
        have hq : g * m = g * 2 * (m / 2) := by
          conv => lhs; rw [hd, ← Nat.mul_assoc]
        refine ⟨_, rfl, _, rfl, _, _, rfl, rfl, .inl ⟨by omega, by omega⟩, _, rfl, _, _, rfl, rfl, by omega, ?_⟩
        exact fin t _ hS2 (by omega)
    · have hm : m = 0 := by
        have := of_decide_eq_false (eq_false_of_ne_true c)
        omega
      subst hm
      refine ⟨_, rfl, ?_⟩
      rw [show t = n by omega]
      exact k _ hS
end
end G3
namespace G3
open PySem PySem.Spec PyProof.Rows L2
/-- what the top says of the two field classes -/
structure FT (K : PySem.W.Frag) (mg : Str → Option Value) : Prop where
  clR : Cls K (CR K)
  clF : Cls K (CF K)
  rp : NoAttr K (CR K) "prime"
  rz : NoAttr K (CR K) "zero"
  ro : NoAttr K (CR K) "one"
  rm : NoAttr K (CR K) "minus_one"
  fz : NoAttr K (CF K) "zero"
  fo : NoAttr K (CF K) "one"
  fm : NoAttr K (CF K) "minus_one"
  gR : mg "RestField" = some (.ref (CR K))
  gF : mg "FractionField" = some (.ref (CF K))
  haR : PySem.W.findIn K (.ref (CR K)) "__class__" = some (some (.builtin "object.__class__"))
  haF : PySem.W.findIn K (.ref (CF K)) "__class__" = some (some (.builtin "object.__class__"))
  hmR : PySem.W.mroIn K (CR K) (.type "object") = some true
  hmF : PySem.W.mroIn K (CF K) (.type "object") = some true
  hn : PySem.W.specialIn K (.builtin "object.__class__") "__get__" = some (some (.builtin "getset_descriptor.__get__"))
  ht : PySem.W.takesIn K (.builtin "object.__class__") = some true
  iRR : PySem.W.kitOne K (.ref (CR K)) (.ref (CR K)) = some true
  iFR : PySem.W.kitOne K (.ref (CF K)) (.ref (CR K)) = some false
  iRF : PySem.W.kitOne K (.ref (CR K)) (.ref (CF K)) = some false
  iFF : PySem.W.kitOne K (.ref (CF K)) (.ref (CF K)) = some true
section
variable {K : PySem.W.Frag} {mg : Str → Option Value} {H : Hp}
theorem FT.tyR (T : FT K mg) {f dx : Addr} {fs : List (Str × V)} (h : H f = some (.ins (CR K) dx fs)) : TyX K H (.ref f) (.ref (CR K)) := .base (.ins h T.clR T.haR T.hn T.ht T.hmR)
theorem FT.tyF (T : FT K mg) {f dx : Addr} {fs : List (Str × V)} (h : H f = some (.ins (CF K) dx fs)) : TyX K H (.ref f) (.ref (CF K)) := .base (.ins h T.clF T.haF T.hn T.ht T.hmF)
end
theorem lk_here {k : Str} {v : V} {r : List (Str × V)} : List.lookup k ((k, v) :: r) = some v := by
  have e : (k == k) = true := beq_self_eq_true k
  simp only [List.lookup, e]
theorem lk_past {k g : Str} {v : V} {r : List (Str × V)} (h : (k == g) = false) : List.lookup k ((g, v) :: r) = List.lookup k r := by
  simp only [List.lookup, h]
theorem rF_prime (p : Int) : (rF p).lookup ("prime" : Str) = some (.int p) := lk_here
theorem rF_zero (p : Int) : (rF p).lookup ("zero" : Str) = some (.int 0) := (lk_past (by decide +kernel)).trans lk_here
theorem rF_one (p : Int) : (rF p).lookup ("one" : Str) = some (.int 1) := (lk_past (by decide +kernel)).trans ((lk_past (by decide +kernel)).trans lk_here)
theorem rF_minus (p : Int) : (rF p).lookup ("minus_one" : Str) = some (.int (p - 1)) := (lk_past (by decide +kernel)).trans ((lk_past (by decide +kernel)).trans ((lk_past (by decide +kernel)).trans lk_here))
theorem rF_no (p : Int) {m : Str} (h1 : (m == ("prime" : Str)) = false) (h2 : (m == ("zero" : Str)) = false) (h3 : (m == ("one" : Str)) = false) (h4 : (m == ("minus_one" : Str)) = false) : (rF p).lookup m = none :=
  (lk_past h1).trans ((lk_past h2).trans ((lk_past h3).trans ((lk_past h4).trans rfl)))
theorem fF_zero (z o m : Addr) : (fF z o m).lookup ("zero" : Str) = some (.ref z) := lk_here
theorem fF_one (z o m : Addr) : (fF z o m).lookup ("one" : Str) = some (.ref o) := (lk_past (by decide +kernel)).trans lk_here
theorem fF_minus (z o m : Addr) : (fF z o m).lookup ("minus_one" : Str) = some (.ref m) := (lk_past (by decide +kernel)).trans ((lk_past (by decide +kernel)).trans lk_here)
theorem fF_no (z o n : Addr) {m : Str} (h2 : (m == ("zero" : Str)) = false) (h3 : (m == ("one" : Str)) = false) (h4 : (m == ("minus_one" : Str)) = false) : (fF z o n).lookup m = none :=
  (lk_past h2).trans ((lk_past h3).trans ((lk_past h4).trans rfl))
theorem put_past {f g : Str} {v x : V} {r : List (Str × V)} (h : ¬ g = f) : putF f v ((g, x) :: r) = (g, x) :: putF f v r := if_neg h
theorem rF_made (p : Int) : putF "minus_one" (.int (p - 1)) (putF "one" (.int 1) (putF "zero" (.int 0) (putF "prime" (.int p) []))) = rF p := by
  show putF "minus_one" (.int (p - 1)) (putF "one" (.int 1) (putF "zero" (.int 0) [(("prime" : Str), V.int p)])) = rF p
  rw [put_past (by decide +kernel)]
  show putF "minus_one" (.int (p - 1)) (putF "one" (.int 1) [(("prime" : Str), V.int p), (("zero" : Str), V.int 0)]) = rF p
  rw [put_past (by decide +kernel), put_past (by decide +kernel)]
  show putF "minus_one" (.int (p - 1)) [(("prime" : Str), V.int p), (("zero" : Str), V.int 0), (("one" : Str), V.int 1)] = rF p
  rw [put_past (by decide +kernel), put_past (by decide +kernel), put_past (by decide +kernel)]
  rfl
theorem fF_made (z o m : Addr) : putF "minus_one" (.ref m) (putF "one" (.ref o) (putF "zero" (.ref z) [])) = fF z o m := by
  show putF "minus_one" (.ref m) (putF "one" (.ref o) [(("zero" : Str), V.ref z)]) = fF z o m
  rw [put_past (by decide +kernel)]
  show putF "minus_one" (.ref m) [(("zero" : Str), V.ref z), (("one" : Str), V.ref o)] = fF z o m
  rw [put_past (by decide +kernel), put_past (by decide +kernel)]
  rfl
theorem rF_len (p : Int) : (rF p).length < 1000 := by show 4 < 1000; decide
section
variable {K : PySem.W.Frag} {H H' : Hp} {p : Nat} {f : Addr} {v : V} {x : Nb}
theorem Fld.r (h0 : p ≠ 0) (h : Fld K H p f) : FldR K H p f := by
  unfold Fld at h
  rw [if_neg h0] at h
  exact h
theorem Fld.fr (h : Fld K H 0 f) : FldF K H f := h
theorem FldR.fld (h : FldR K H p f) : Fld K H p f := by
  have := h.1.1
  unfold Fld
  rw [if_neg (by omega)]
  exact h
theorem NAt.r (h0 : p ≠ 0) (h : NAt H p v x) : v = .int x.1 ∧ x.2 = 1 := by
  unfold NAt at h
  rw [if_neg h0] at h
  exact h
theorem NAt.fr (h : NAt H 0 v x) : ∃ a, v = .ref a ∧ H a = some (.tup [.int x.1, .int x.2]) := h
theorem NAt.of_r (h0 : p ≠ 0) {i : Int} : NAt H p (.int i) (i, 1) := by
  unfold NAt
  rw [if_neg h0]
  exact ⟨rfl, rfl⟩
theorem NAt.of_fr {a : Addr} (h : H a = some (.tup [.int x.1, .int x.2])) : NAt H 0 (.ref a) x := ⟨a, rfl, h⟩
theorem IsN.r (h0 : p ≠ 0) (h : IsN p x) : 0 ≤ x.1 ∧ x.1 < p ∧ x.2 = 1 := by
  unfold IsN at h
  rw [if_neg h0] at h
  exact h
theorem FldF.same (h : FldF K H f) (s : Same H H') : FldF K H' f := by
  obtain ⟨dx, z, o, m, h1, h2, h3, h4⟩ := h
  exact ⟨dx, z, o, m, s _ _ h1, s _ _ h2, s _ _ h3, s _ _ h4⟩
theorem FldR.same (h : FldR K H p f) (s : Same H H') : FldR K H' p f := by
  obtain ⟨h1, h2, dx, h3⟩ := h
  exact ⟨h1, h2, dx, s _ _ h3⟩
theorem Fld.same (h : Fld K H p f) (s : Same H H') : Fld K H' p f := by
  unfold Fld at *
  split
  · rename_i e
    rw [if_pos e] at h
    exact FldF.same h s
  · rename_i e
    rw [if_neg e] at h
    exact FldR.same h s
theorem NAt.same (h : NAt H p v x) (s : Same H H') : NAt H' p v x := by
  unfold NAt at *
  split
  · rename_i e
    rw [if_pos e] at h
    obtain ⟨a, h1, h2⟩ := h
    exact ⟨a, h1, s _ _ h2⟩
  · rename_i e
    rw [if_neg e] at h
    exact h
end
theorem ne0_of {p : Nat} (h : p = 0 ↔ false = true) : p ≠ 0 := fun e => by
  have := h.mp e
  cases this
theorem eq0_of {p : Nat} (h : p = 0 ↔ true = true) : p = 0 := h.mpr rfl
section
variable {P : Program} {w : World} {K : PySem.W.Frag} {mg : Str → Option Value} {base : Heap}
theorem sc_R_init : FnScope ["self", "prime"] ["self", "prime"] (defScope (inClass (top 14) 0)) := ⟨rfl, rfl, rfl, by decide +kernel, rfl, by decide +kernel, by decide +kernel⟩
theorem ok_R_init {f : Addr} {fd : FuncData} (F : FunD K "__init__" "RestField.__init__" (defArgs (inClass (top 14) 0)) (defBody (inClass (top 14) 0)) (defScope (inClass (top 14) 0)) [] [] f fd) (M : Mk K (CR K) f) (b : Binds K fd ["self", "prime"] []) (T : FT K mg)
    (c_is_prime : C_is_prime P w K mg base) (z : Xc P w K mg base "BadPrime" (XP K)) : C_RestField P w K mg base := by
  refine ⟨f, fd, F.ok sc_R_init (fun vs H Q E h => ?_) (fun cdv A outer s H vs Q E hr h => ?_), M, T.gR, b⟩
  · obtain ⟨_, _, _, rfl, _⟩ := h
    rfl
  · obtain ⟨x, dx, v, rfl, hx, ht, kT, kF⟩ := h
    refine ⟨_, (pss_cons (ps_if (pt_not (pt_val (pcl c_is_prime (hr.mono (by decide)) pass0 (pa_cons (pv 1) pa_nil))))
        (pss_one (ps_raise rfl (takes_of rfl rfl rfl rfl) (pmk_x z (hr.mono (by decide)))))
        pss_nil)
      (pss_cons (ps_fld (pv 0) (pv 1) rfl)
      (pss_cons (ps_fld (pv 0) pe_int rfl)
      (pss_cons (ps_fld (pv 0) pe_int rfl)
      (pss_one (ps_fld (pv 0) (pe_op op_sub (pv 1) pe_int) rfl)))))), ?_⟩
    refine ⟨_, rfl, v, rfl, ht, _, rfl, ?_⟩
    cases e : isPv v with
    | false => exact iteT (kF e)
    | true =>
      refine iteF ?_
      obtain ⟨i, rfl⟩ : ∃ i, v = .int i := by
        cases v with
        | int i => exact ⟨i, rfl⟩
        | _ => cases e
      obtain ⟨e1, e2⟩ := Bool.and_eq_true_iff.mp (show (decide (2 ≤ i ∧ i ≤ 20000) && decide (Pr i.toNat)) = true from e)
      have h1 := of_decide_eq_true e1
      have h2 := of_decide_eq_true e2
      obtain ⟨p, rfl⟩ : ∃ p : Nat, i = (p : Int) := ⟨i.toNat, by omega⟩
      rw [Int.toNat_natCast] at h2
      refine ⟨_, rfl, _, rfl, x, _, dx, [], rfl, hx, T.clR, T.rp, (by show 0 < 1000; decide), ?_⟩
      refine ⟨_, rfl, x, _, dx, _, rfl, upd_same, T.clR, T.rz, (by show 1 < 1000; decide), ?_⟩
      refine ⟨_, rfl, x, _, dx, _, rfl, upd_same, T.clR, T.ro, ?_, ?_⟩
      · show (putF "zero" (.int 0) [(("prime" : Str), V.int (p : Int))]).length < 1000
        rw [put_past (by decide +kernel)]
        show 2 < 1000
        decide
      refine ⟨_, rfl, _, _, rfl, rfl, _, rfl, x, _, dx, _, rfl, upd_same, T.clR, T.rm, ?_, ?_⟩
      · show (putF "one" (.int 1) (putF "zero" (.int 0) [(("prime" : Str), V.int (p : Int))])).length < 1000
        rw [put_past (by decide +kernel)]
        show (putF "one" (.int 1) [(("prime" : Str), V.int (p : Int)), (("zero" : Str), V.int 0)]).length < 1000
        rw [put_past (by decide +kernel), put_past (by decide +kernel)]
        show 3 < 1000
        decide
      refine kT p rfl e h2 (by omega) _ (fun b o hb hz => ?_) ?_
      · rw [upd_ne hb, upd_ne hb, upd_ne hb, upd_ne hb]
        exact hz
      · rw [upd_same]
        exact congrArg (fun q => some (HO.ins (CR K) dx q)) (rF_made p)
theorem sc_R_eq : FnScope ["self", "other"] ["self", "other"] (defScope (inClass (top 14) 1)) := ⟨rfl, rfl, rfl, by decide +kernel, rfl, by decide +kernel, by decide +kernel⟩
theorem ok_R_eq (D : Dm K (CR K) "__eq__" "RestField.__eq__" (inClass (top 14) 1) ["self", "other"]) (B : Bn mg) (T : FT K mg) : C_R_eq P w K mg base := by
  have g_RestField := T.gR
  refine D.ok sc_R_eq (fun vs H Q E h => ?_) (fun f cdv A outer s H vs Q E hr h => ?_)
  · obtain ⟨_, _, _, _, rfl, _⟩ := h
    rfl
  · obtain ⟨a, b, p, q, rfl, hp, h0, ha, hb, k⟩ := h
    refine ⟨_, (pss_one (ps_ret (pe_and (pe_callB call_isi (by rfl) B.isi boot_isinstance (pa_cons (pv 1) (pa_cons (pe_glob (v := .ref (CR K)) rfl g_RestField rfl) pa_nil))) (pe_one (pe_cmpR op_eq (pe_fld (pv 0) rfl) (pe_fld (pv 1) rfl) (nomark _)))))), ?_⟩
    obtain ⟨h1, h2, dx, hA⟩ := ha.r (ne0_of h0)
    by_cases hq : q = 0
    · subst hq
      obtain ⟨dy, _, _, _, hB, _⟩ := hb.fr
      refine ⟨_, rfl, _, _, _, _, _, rfl, .own _, T.tyF hB, T.iFR, false, rfl, iteF ?_⟩
      rw [decide_eq_false (ne0_of h0)] at k
      exact k
    · obtain ⟨h3, h4, dy, hB⟩ := hb.r hq
      refine ⟨_, rfl, _, _, _, _, _, rfl, .own _, T.tyR hB, T.iRR, true, rfl, iteT ?_⟩
      refine ⟨_, rfl, a, _, dx, _, _, rfl, hA, T.clR, T.rp, rF_prime _, _, rfl, b, _, dy, _, _, rfl, hB, T.clR, T.rp, rF_prime _, rfl, ?_⟩
      have e : decide (V.int (p : Int) = V.int (q : Int)) = decide (p = q) := by
        by_cases z : p = q
        · subst z
          rw [decide_eq_true rfl, decide_eq_true rfl]
        · rw [decide_eq_false z, decide_eq_false fun z2 => z (by have := V.int.inj z2; omega)]
      show Q (.bl (decide (V.int (p : Int) = V.int (q : Int)))) H
      rw [e]
      exact k
theorem sc_R_check_number : FnScope ["self", "number"] ["self", "number"] (defScope (inClass (top 14) 2)) := ⟨rfl, rfl, rfl, by decide +kernel, rfl, by decide +kernel, by decide +kernel⟩
theorem ok_R_check_number (D : Dm K (CR K) "check_number" "RestField.check_number" (inClass (top 14) 2) ["self", "number"]) (B : Bn mg) (T : FT K mg) (c_is_whole : C_is_whole P w K mg base []) (z : Xc P w K mg base "BadNumber" (XN K)) : C_R_check_number P w K mg base := by
  refine D.okX sc_R_check_number (fun vs H Q E h => ?_) (fun f cdv A outer s H vs Q E hr h => ?_)
  · obtain ⟨_, _, _, rfl, _⟩ := h
    rfl
  · obtain ⟨g, p, v, rfl, h0, hf, k⟩ := h
    refine ⟨_, (pss_cons (ps_if (pt_not (pt_val (pcd c_is_whole (hr.mono (by decide)) pass0 (pa_cons (pv 1) (pa_cons pe_int (pa_cons (pe_op op_sub (pe_fld (pv 0) rfl) pe_int) pa_nil))))))
        (pss_one (ps_raise rfl (takes_of rfl rfl rfl rfl) (pmk_x z (hr.mono (by decide)))))
        pss_nil)
      (pss_one (ps_ret (pv 1)))), ?_⟩
    have hp := ne0_of h0
    obtain ⟨h1, h2, dx, hA⟩ := hf.r hp
    have hth : Th H v ∧ ((isW v (.int 0) (.int ((p : Int) - 1)) = true ∧ Q v H) ∨ (isW v (.int 0) (.int ((p : Int) - 1)) = false ∧ E (.ref (XN K)) none H)) := by
      rcases k with ⟨x, hv, hn, q⟩ | ⟨hb, q⟩
      · obtain ⟨rfl, _⟩ := hv.r hp
        obtain ⟨n1, n2, _⟩ := hn.r hp
        refine ⟨.int _, .inl ⟨?_, q⟩⟩
        show (decide (0 ≤ x.1) && decide (x.1 ≤ (p : Int) - 1)) = true
        rw [decide_eq_true n1, decide_eq_true (by omega)]
        rfl
      · unfold Bad at hb
        rw [if_neg hp] at hb
        exact ⟨hb.1, .inr ⟨hb.2, q⟩⟩
    obtain ⟨ht, k⟩ := hth
    refine ⟨_, rfl, _, rfl, g, _, dx, _, _, rfl, hA, T.clR, T.rp, rF_prime _, _, _, rfl, rfl, v, _, _, rfl, ht, .int _, .int _, _, rfl, ?_⟩
    rcases k with ⟨e, q⟩ | ⟨e, q⟩
    · rw [e]
      exact iteF ⟨_, rfl, q⟩
    · rw [e]
      exact iteT q
theorem sc_R_number_of : FnScope ["self", "whole"] ["self", "whole"] (defScope (inClass (top 14) 3)) := ⟨rfl, rfl, rfl, by decide +kernel, rfl, by decide +kernel, by decide +kernel⟩
theorem ok_R_number_of (D : Dm K (CR K) "number_of" "RestField.number_of" (inClass (top 14) 3) ["self", "whole"]) (B : Bn mg) (T : FT K mg) : C_R_number_of P w K mg base := by
  refine D.ok sc_R_number_of (fun vs H Q E h => ?_) (fun f cdv A outer s H vs Q E hr h => ?_)
  · obtain ⟨_, _, _, rfl, _⟩ := h
    rfl
  · obtain ⟨g, p, i, rfl, h0, hfp, hf, k⟩ := h
    refine ⟨_, (pss_one (ps_ret (pe_op op_mod (pe_callTy call_int1 (by rfl) B.int_ PyProof.Rows.boot_int (pa_cons (pv 1) pa_nil)) (pe_fld (pv 0) rfl)))), ?_⟩
    have hp := ne0_of h0
    obtain ⟨h1, h2, dx, hA⟩ := hf.r hp
    have := h1.1
    rw [if_neg hp] at k
    exact ⟨_, rfl, .inl ⟨_, rfl, _, rfl, g, _, dx, _, _, rfl, hA, T.clR, T.rp, rF_prime _, _, _, rfl, rfl, by omega, k _ _ (Same.refl _) (NAt.of_r hp)⟩⟩
theorem sc_R_plus : FnScope ["self", "one", "other"] ["self", "one", "other"] (defScope (inClass (top 14) 4)) := ⟨rfl, rfl, rfl, by decide +kernel, rfl, by decide +kernel, by decide +kernel⟩
theorem ok_R_plus (D : Dm K (CR K) "plus" "RestField.plus" (inClass (top 14) 4) ["self", "one", "other"]) (B : Bn mg) (T : FT K mg) : C_R_op P w K mg base "plus" nPlus := by
  refine D.ok sc_R_plus (fun vs H Q E h => ?_) (fun f cdv A outer s H vs Q E hr h => ?_)
  · obtain ⟨_, _, _, _, _, _, rfl, _⟩ := h
    rfl
  · obtain ⟨g, p, va, vb, x, y, rfl, h0, hfp, hf, hx, hy, nx, ny, sx, sy, k⟩ := h
    refine ⟨_, (pss_one (ps_ret (pe_op op_mod (pe_callTy call_int1 (by rfl) B.int_ PyProof.Rows.boot_int (pa_cons (pe_op op_add (pv 1) (pv 2)) pa_nil)) (pe_fld (pv 0) rfl)))), ?_⟩
    have hp := ne0_of h0
    obtain ⟨h1, h2, dx, hA⟩ := hf.r hp
    have := h1.1
    obtain ⟨rfl, _⟩ := hx.r hp
    obtain ⟨rfl, _⟩ := hy.r hp
    refine ⟨_, rfl, _, rfl, _, _, rfl, rfl, .inl ⟨_, rfl, _, rfl, g, _, dx, _, _, rfl, hA, T.clR, T.rp, rF_prime _, _, _, rfl, rfl, by omega, k _ _ (Same.refl _) ?_⟩⟩
    unfold nPlus
    rw [if_neg hp]
    exact NAt.of_r hp
theorem sc_R_less : FnScope ["self", "one", "other"] ["self", "one", "other"] (defScope (inClass (top 14) 5)) := ⟨rfl, rfl, rfl, by decide +kernel, rfl, by decide +kernel, by decide +kernel⟩
theorem ok_R_less (D : Dm K (CR K) "less" "RestField.less" (inClass (top 14) 5) ["self", "one", "other"]) (B : Bn mg) (T : FT K mg) : C_R_op P w K mg base "less" nLess := by
  refine D.ok sc_R_less (fun vs H Q E h => ?_) (fun f cdv A outer s H vs Q E hr h => ?_)
  · obtain ⟨_, _, _, _, _, _, rfl, _⟩ := h
    rfl
  · obtain ⟨g, p, va, vb, x, y, rfl, h0, hfp, hf, hx, hy, nx, ny, sx, sy, k⟩ := h
    refine ⟨_, (pss_one (ps_ret (pe_op op_mod (pe_callTy call_int1 (by rfl) B.int_ PyProof.Rows.boot_int (pa_cons (pe_op op_sub (pv 1) (pv 2)) pa_nil)) (pe_fld (pv 0) rfl)))), ?_⟩
    have hp := ne0_of h0
    obtain ⟨h1, h2, dx, hA⟩ := hf.r hp
    have := h1.1
    obtain ⟨rfl, _⟩ := hx.r hp
    obtain ⟨rfl, _⟩ := hy.r hp
    refine ⟨_, rfl, _, rfl, _, _, rfl, rfl, .inl ⟨_, rfl, _, rfl, g, _, dx, _, _, rfl, hA, T.clR, T.rp, rF_prime _, _, _, rfl, rfl, by omega, k _ _ (Same.refl _) ?_⟩⟩
    unfold nLess
    rw [if_neg hp]
    exact NAt.of_r hp
theorem sc_R_times : FnScope ["self", "one", "other"] ["self", "one", "other"] (defScope (inClass (top 14) 6)) := ⟨rfl, rfl, rfl, by decide +kernel, rfl, by decide +kernel, by decide +kernel⟩
theorem ok_R_times (D : Dm K (CR K) "times" "RestField.times" (inClass (top 14) 6) ["self", "one", "other"]) (B : Bn mg) (T : FT K mg) : C_R_op P w K mg base "times" nTimes := by
  refine D.ok sc_R_times (fun vs H Q E h => ?_) (fun f cdv A outer s H vs Q E hr h => ?_)
  · obtain ⟨_, _, _, _, _, _, rfl, _⟩ := h
    rfl
  · obtain ⟨g, p, va, vb, x, y, rfl, h0, hfp, hf, hx, hy, nx, ny, sx, sy, k⟩ := h
    refine ⟨_, (pss_one (ps_ret (pe_op op_mod (pe_callTy call_int1 (by rfl) B.int_ PyProof.Rows.boot_int (pa_cons (pe_op op_mulW (pv 1) (pv 2)) pa_nil)) (pe_fld (pv 0) rfl)))), ?_⟩
    have hp := ne0_of h0
    obtain ⟨h1, h2, dx, hA⟩ := hf.r hp
    have := h1.1
    obtain ⟨rfl, _⟩ := hx.r hp
    obtain ⟨rfl, _⟩ := hy.r hp
    refine ⟨_, rfl, _, rfl, _, _, rfl, rfl, wide_mul sx.1 sy.1 (by decide) (by decide) (by decide), .inl ⟨_, rfl, _, rfl, g, _, dx, _, _, rfl, hA, T.clR, T.rp, rF_prime _, _, _, rfl, rfl, by omega, k _ _ (Same.refl _) ?_⟩⟩
    unfold nTimes
    rw [if_neg hp]
    exact NAt.of_r hp
end
end G3
namespace G3
open PySem PySem.Spec PyProof.Rows L2
theorem redE_lt {p : Nat} (h : 2 ≤ p) (e : Int) : redE p e < p := by
  unfold redE
  have h1 := Int.emod_lt_of_pos e (show (0 : Int) < (p : Int) - 1 by omega)
  omega
theorem redE_cast {p : Nat} (h : 2 ≤ p) (e : Int) : e % ((p : Int) - 1) = ((redE p e : Nat) : Int) := by
  unfold redE
  have h1 := Int.emod_nonneg e (show (p : Int) - 1 ≠ 0 by omega)
  omega
theorem small_up {a : Int} {n : Nat} (m : Nat) (h : a.natAbs < 2 ^ n) (hm : n ≤ m) : a.natAbs < 2 ^ m := Nat.lt_of_lt_of_le h (Nat.pow_le_pow_right (by decide) hm)
theorem add_small {a b : Int} {n : Nat} (ha : a.natAbs < 2 ^ n) (hb : b.natAbs < 2 ^ n) : (a + b).natAbs < 2 ^ (n + 1) := by
  rw [Nat.pow_succ]
  omega
theorem sub_small {a b : Int} {n : Nat} (ha : a.natAbs < 2 ^ n) (hb : b.natAbs < 2 ^ n) : (a - b).natAbs < 2 ^ (n + 1) := by
  rw [Nat.pow_succ]
  omega
theorem fr_zero {x : Nb} (h : IsFr x) (h0 : x.1 = 0) : x.2 = 1 := by
  obtain ⟨h1, h2⟩ := h
  rw [h0, Int.zero_gcd] at h2
  omega
theorem zero_pow {n : Nat} (h : n ≠ 0) : (0 : Int) ^ n = 0 := by
  obtain ⟨m, rfl⟩ := Nat.exists_eq_succ_of_ne_zero h
  rw [Int.pow_succ, Int.mul_zero]
section
variable {P : Program} {w : World} {K : PySem.W.Frag} {mg : Str → Option Value} {base : Heap}
theorem sc_R_power : FnScope ["self", "number", "exponent"] ["self", "number", "exponent"] (defScope (inClass (top 14) 8)) := ⟨rfl, rfl, rfl, by decide +kernel, rfl, by decide +kernel, by decide +kernel⟩
theorem ok_R_power (D : Dm K (CR K) "power" "RestField.power" (inClass (top 14) 8) ["self", "number", "exponent"]) (B : Bn mg) (T : FT K mg) (c_rest_power : C_rest_power P w K mg base) (z : Xc P w K mg base "ByZero" (XZ K)) : C_R_power P w K mg base := by
  refine D.okX sc_R_power (fun vs H Q E h => ?_) (fun f cdv A outer s H vs Q E hr h => ?_)
  · obtain ⟨_, _, _, _, _, rfl, _⟩ := h
    rfl
  · obtain ⟨g, p, va, x, e, rfl, h0, hfp, hf, hx, nx, sx, he, _, kZ, k⟩ := h
    refine ⟨_, (pss_cons (ps_if (pt_cmpR op_eq (pv 1) pe_int (nomark _))
        (pss_cons (ps_if (pt_cmpR op_lt (pv 2) pe_int (nomark _))
          (pss_one (ps_raise rfl (takes_of rfl rfl rfl rfl) (pmk_x z (hr.mono (by decide)))))
          pss_nil)
        (pss_one (ps_ret (pe_ifExp (pt_cmpR op_eq (pv 2) pe_int (nomark _)) pe_int pe_int))))
        pss_nil)
      (pss_one (ps_ret (pcl c_rest_power (hr.mono (by decide)) pass0 (pa_cons (pv 1) (pa_cons (pe_op op_mod (pe_callTy call_int1 (by rfl) B.int_ PyProof.Rows.boot_int (pa_cons (pv 2) pa_nil)) (pe_op op_sub (pe_fld (pv 0) rfl) pe_int)) (pa_cons (pe_fld (pv 0) rfl) pa_nil))))))), ?_⟩
    have hp := ne0_of h0
    obtain ⟨h1, h2, dx, hA⟩ := hf.r hp
    have h3 := h1.1
    obtain ⟨rfl, _⟩ := hx.r hp
    obtain ⟨n1, n2, n3⟩ := nx.r hp
    refine ⟨_, rfl, rfl, _, rfl, ite2 (fun c => ?_) (fun c => ?_)⟩
    · have hz := inj_int c
      refine ⟨_, rfl, _, _, rfl, rfl, _, rfl, ite2 (fun c2 => ?_) (fun c2 => ?_)⟩
      · exact kZ hz (of_decide_eq_true c2)
      · have hne : ¬ e < 0 := of_decide_eq_false (eq_false_of_ne_true c2)
        have k2 := k (fun q => hne q.2)
        rw [if_pos hz] at k2
        refine ⟨_, rfl, rfl, _, rfl, ite2 (fun c3 => ?_) (fun c3 => ?_)⟩
        · rw [if_pos (inj_int c3)] at k2
          exact k2 _ _ (Same.refl _) (NAt.of_r hp)
        · rw [if_neg (ninj_int c3)] at k2
          exact k2 _ _ (Same.refl _) (NAt.of_r hp)
    · have hz := ninj_int c
      have k2 := k (fun q => hz q.1)
      rw [if_neg hz, raise_mod hfp hp nx hz] at k2
      refine ⟨_, rfl, _, rfl, .inl ⟨_, rfl, _, rfl, g, _, dx, _, _, rfl, hA, T.clR, T.rp, rF_prime _, _, _, rfl, rfl, _, _, rfl, rfl, by omega, _, rfl, g, _, dx, _, _, rfl, hA, T.clR, T.rp, rF_prime _, x.1, redE p e, p, ?_, h3, h2, ?_, fun H' hs => ?_⟩⟩
      · rw [← redE_cast h3]
        rfl
      · have := redE_lt h3 e
        omega
      · exact k2 _ _ hs (NAt.of_r hp)
theorem sc_R_quotient : FnScope ["self", "one", "other"] ["self", "one", "other"] (defScope (inClass (top 14) 7)) := ⟨rfl, rfl, rfl, by decide +kernel, rfl, by decide +kernel, by decide +kernel⟩
theorem ok_R_quotient (D : Dm K (CR K) "quotient" "RestField.quotient" (inClass (top 14) 7) ["self", "one", "other"]) (B : Bn mg) (T : FT K mg) (c_power : C_R_power P w K mg base) : C_R_quotient P w K mg base := by
  refine D.okX sc_R_quotient (fun vs H Q E h => ?_) (fun f cdv A outer s H vs Q E hr h => ?_)
  · obtain ⟨_, _, _, _, _, _, rfl, _⟩ := h
    rfl
  · obtain ⟨g, p, va, vb, x, y, rfl, h0, hfp, hf, hx, hy, nx, ny, sx, sy, kZ, k⟩ := h
    refine ⟨_, (pss_one (ps_ret (pe_op op_mod (pe_callTy call_int1 (by rfl) B.int_ PyProof.Rows.boot_int (pa_cons (pe_op op_mulW (pv 1) (pcm (E := E) c_power T.clR (hr.mono (by decide)) (passes_call (takes_of rfl rfl rfl rfl) fun _ _ _ _ q => q) (pv 0) (pa_cons (pv 2) (pa_cons (pe_un un_neg pe_int) pa_nil)))) pa_nil)) (pe_fld (pv 0) rfl)))), ?_⟩
    have hp := ne0_of h0
    obtain ⟨h1, h2, dx, hA⟩ := hf.r hp
    have h3 := h1.1
    obtain ⟨rfl, _⟩ := hx.r hp
    have hy' := hy
    obtain ⟨rfl, _⟩ := hy.r hp
    obtain ⟨n1, n2, n3⟩ := nx.r hp
    refine ⟨_, rfl, _, rfl, g, dx, _, rfl, hA, rF_no _ (by decide +kernel) (by decide +kernel) (by decide +kernel) (by decide +kernel), _, rfl, _, rfl, g, p, _, y, -1, rfl, h0, hfp, hf, hy', ny, sy, by decide, fun q => absurd q hp, fun hz _ => kZ hz, fun hn H' v hs hv => ?_⟩
    have hz : y.1 ≠ 0 := fun q => hn ⟨q, by decide⟩
    rw [if_neg hz, raise_mod hfp hp ny hz] at hv
    obtain ⟨rfl, _⟩ := hv.r hp
    have hA' := hs _ _ hA
    have hm1 : 0 ≤ y.1 ^ redE p (-1) % (p : Int) := Int.emod_nonneg _ (by omega)
    have hm2 : y.1 ^ redE p (-1) % (p : Int) < p := Int.emod_lt_of_pos _ (by omega)
    refine ⟨_, _, rfl, rfl, wide_mul (a := 60) (b := 60) sx.1 ?_ (by decide) (by decide) (by decide), .inl ⟨_, rfl, _, rfl, g, _, dx, _, _, rfl, hA', T.clR, T.rp, rF_prime _, _, _, rfl, rfl, by omega, k hz H' _ _ hs (NAt.of_r hp) (isN_mod hfp hp _) ?_ (quot_mod hfp hp nx ny hz)⟩⟩
    · omega
    · have hq1 := Int.emod_nonneg (x.1 * (y.1 ^ redE p (-1) % (p : Int))) (show (p : Int) ≠ 0 by omega)
      have hq2 := Int.emod_lt_of_pos (x.1 * (y.1 ^ redE p (-1) % (p : Int))) (show (0 : Int) < p by omega)
      constructor
      · show (x.1 * (y.1 ^ redE p (-1) % (p : Int)) % (p : Int)).natAbs < 2 ^ 200
        omega
      · show (1 : Int).natAbs < 2 ^ 200
        decide
/-! ### the fractions -/
theorem sc_F_init : FnScope ["self"] ["self"] (defScope (inClass (top 15) 0)) := ⟨rfl, rfl, rfl, by decide +kernel, rfl, by decide +kernel, by decide +kernel⟩
theorem ok_F_init {f : Addr} {fd : FuncData} (F : FunD K "__init__" "FractionField.__init__" (defArgs (inClass (top 15) 0)) (defBody (inClass (top 15) 0)) (defScope (inClass (top 15) 0)) [] [] f fd) (M : Mk K (CF K) f) (b : Binds K fd ["self"] []) (T : FT K mg) : C_FractionField P w K mg base := by
  refine ⟨f, fd, F.ok sc_F_init (fun vs H Q E h => ?_) (fun cdv A outer s H vs Q E hr h => ?_), M, T.gF, b⟩
  · obtain ⟨_, _, rfl, _⟩ := h
    rfl
  · obtain ⟨x, dx, rfl, hx, k⟩ := h
    refine ⟨_, PSs.nox (pss_cons (ps_fld (pv 0) (pe_tup (pa_cons pe_int (pa_cons pe_int pa_nil))) rfl)
      (pss_cons (ps_fld (pv 0) (pe_tup (pa_cons pe_int (pa_cons pe_int pa_nil))) rfl)
      (pss_one (ps_fld (pv 0) (pe_tup (pa_cons (pe_un un_neg pe_int) (pa_cons pe_int pa_nil))) rfl)))), ?_⟩
    refine ⟨by show 2 ≤ sizeLine; decide, fun z hz => ?_⟩
    have nz : x ≠ z := ne_of_none hx hz
    refine ⟨_, rfl, x, _, dx, [], rfl, (upd_ne nz).trans hx, T.clF, T.fz, (by show 0 < 1000; decide), by show 2 ≤ sizeLine; decide, fun o ho => ?_⟩
    have no : x ≠ o := ne_of_none upd_same ho
    have nzo : z ≠ o := ne_of_none (by rw [upd_ne nz.symm]; exact upd_same) ho
    have ho0 : H o = none := by
      rw [upd_ne no.symm, upd_ne nzo.symm] at ho
      exact ho
    refine ⟨_, rfl, x, _, dx, _, rfl, (upd_ne no).trans upd_same, T.clF, T.fo, (by show 1 < 1000; decide), _, rfl, by show 2 ≤ sizeLine; decide, fun m hm => ?_⟩
    have nm : x ≠ m := ne_of_none upd_same hm
    have nom : o ≠ m := ne_of_none (by rw [upd_ne no.symm]; exact upd_same) hm
    have nzm : z ≠ m := ne_of_none (by rw [upd_ne nz.symm, upd_ne nzo, upd_ne nz.symm]; exact upd_same) hm
    have hm0 : H m = none := by
      rw [upd_ne nm.symm, upd_ne nom.symm, upd_ne nm.symm, upd_ne nzm.symm] at hm
      exact hm
    refine ⟨_, rfl, x, _, dx, _, rfl, (upd_ne nm).trans upd_same, T.clF, T.fm, ?_, ?_⟩
    · show (putF "one" (.ref o) [(("zero" : Str), V.ref z)]).length < 1000
      rw [put_past (by decide +kernel)]
      show 2 < 1000
      decide
    refine k _ (fun b u hb hu => ?_) ⟨dx, z, o, m, ?_, ?_, ?_, ?_⟩
    · rw [upd_ne hb, upd_ne (ne_of_none hu hm0), upd_ne hb, upd_ne (ne_of_none hu ho0), upd_ne hb, upd_ne (ne_of_none hu hz)]
      exact hu
    · rw [upd_same]
      exact congrArg (fun q => some (HO.ins (CF K) dx q)) (fF_made z o m)
    · rw [upd_ne nz.symm, upd_ne nzm, upd_ne nz.symm, upd_ne nzo, upd_ne nz.symm]
      exact upd_same
    · rw [upd_ne no.symm, upd_ne nom, upd_ne no.symm]
      exact upd_same
    · rw [upd_ne nm.symm]
      exact upd_same
theorem sc_F_eq : FnScope ["self", "other"] ["self", "other"] (defScope (inClass (top 15) 1)) := ⟨rfl, rfl, rfl, by decide +kernel, rfl, by decide +kernel, by decide +kernel⟩
theorem ok_F_eq (D : Dm K (CF K) "__eq__" "FractionField.__eq__" (inClass (top 15) 1) ["self", "other"]) (B : Bn mg) (T : FT K mg) : C_F_eq P w K mg base := by
  have g_FractionField := T.gF
  refine D.ok sc_F_eq (fun vs H Q E h => ?_) (fun f cdv A outer s H vs Q E hr h => ?_)
  · obtain ⟨_, _, _, _, rfl, _⟩ := h
    rfl
  · obtain ⟨a, b, p, q, rfl, hp, h0, ha, hb, k⟩ := h
    refine ⟨_, (pss_one (ps_ret (pe_callB call_isi (by rfl) B.isi boot_isinstance (pa_cons (pv 1) (pa_cons (pe_glob (v := .ref (CF K)) rfl g_FractionField rfl) pa_nil))))), ?_⟩
    have hp0 := eq0_of h0
    subst hp0
    by_cases hq : q = 0
    · subst hq
      obtain ⟨dy, _, _, _, hB, _⟩ := hb.fr
      exact ⟨_, rfl, _, _, _, _, _, rfl, .own _, T.tyF hB, T.iFF, k⟩
    · obtain ⟨h3, h4, dy, hB⟩ := hb.r hq
      rw [decide_eq_false (fun z => hq z.symm)] at k
      exact ⟨_, rfl, _, _, _, _, _, rfl, .own _, T.tyR hB, T.iRF, k⟩
theorem k_non_tuple : kitB "NoneType" "tuple" = some false := by decide +kernel
theorem k_bool_tuple : kitB "bool" "tuple" = some false := by decide +kernel
theorem k_int_tuple : kitB "int" "tuple" = some false := by decide +kernel
theorem k_str_tuple : kitB "str" "tuple" = some false := by decide +kernel
theorem k_list_tuple : kitB "list" "tuple" = some false := by decide +kernel
theorem k_tuple_tuple : kitB "tuple" "tuple" = some true := by decide +kernel
theorem sc_F_check_number : FnScope ["self", "number"] ["self", "number"] (defScope (inClass (top 15) 2)) := ⟨rfl, rfl, rfl, by decide +kernel, rfl, by decide +kernel, by decide +kernel⟩
theorem ok_F_check_number (D : Dm K (CF K) "check_number" "FractionField.check_number" (inClass (top 15) 2) ["self", "number"]) (B : Bn mg) (T : FT K mg) (c_w1 : C_is_whole P w K mg base [.non, .non]) (c_w2 : C_is_whole P w K mg base [.non])
    (c_common_divisor : C_common_divisor P w K mg base) (z : Xc P w K mg base "BadNumber" (XN K)) : C_F_check_number P w K mg base := by
  refine D.okX sc_F_check_number (fun vs H Q E h => ?_) (fun f cdv A outer s H vs Q E hr h => ?_)
  · obtain ⟨_, _, _, rfl, _⟩ := h
    rfl
  · obtain ⟨g, p, v, rfl, h0, hf, k⟩ := h
    have hp0 := eq0_of h0
    subst hp0
    refine ⟨_, (pss_cons (ps_if (PW.pt (pw_or (pt_not (pt_val (pe_callB call_isi (by rfl) B.isi boot_isinstance (pa_cons (pv 1) (pa_cons (pe_bltn (v := .ty "tuple") (by rfl) B.tuple_ PyProof.Rows.boot_tuple rfl) pa_nil))))) (pw_or1 (pt_cmpR op_ne (pe_callB call_len_seq (by rfl) B.len_ PySem.boot_len (pa_cons (pv 1) pa_nil)) pe_int (nomark _)))))
        (pss_one (ps_raise rfl (takes_of rfl rfl rfl rfl) (pmk_x z (hr.mono (by decide)))))
        pss_nil)
      (pss_cons (ps_if (PW.pt (pw_or (pt_not (pt_val (pcd c_w1 (hr.mono (by decide)) pass0 (pa_cons (pe_ix ix_tup (pv 1) pe_int (fun _ _ => rfl)) pa_nil)))) (pw_or1 (pt_not (pt_val (pcd c_w2 (hr.mono (by decide)) pass0 (pa_cons (pe_ix ix_tup (pv 1) pe_int (fun _ _ => rfl)) (pa_cons pe_int pa_nil))))))))
        (pss_one (ps_raise rfl (takes_of rfl rfl rfl rfl) (pmk_x z (hr.mono (by decide)))))
        pss_nil)
      (pss_cons (ps_if (pt_cmpR op_ne (pcl c_common_divisor (hr.mono (by decide)) pass0 (pa_cons (pe_ix ix_tup (pv 1) pe_int (fun _ _ => rfl)) (pa_cons (pe_ix ix_tup (pv 1) pe_int (fun _ _ => rfl)) pa_nil))) pe_int (nomark _))
        (pss_one (ps_raise rfl (takes_of rfl rfl rfl rfl) (pmk_x z (hr.mono (by decide)))))
        pss_nil)
      (pss_one (ps_ret (pv 1)))))), ?_⟩
    rcases k with ⟨x, hv, hn, q⟩ | ⟨hb, q⟩
    · obtain ⟨a, rfl, ha⟩ := hv.fr
      have hfr : IsFr x := hn
      refine ⟨_, rfl, _, _, _, _, _, rfl, .ty "tuple", .base (.tup ha), kit_ty k_tuple_tuple, _, rfl, iteF ?_⟩
      refine ⟨_, rfl, a, _, rfl, .inr (SqT.of ha), rfl, _, rfl, iteF ?_⟩
      refine ⟨_, rfl, _, _, _, _, rfl, rfl, SqT.of ha, rfl, _, .non, .non, rfl, .int _, .non, .non, _, rfl, iteF ?_⟩
      refine ⟨_, rfl, _, _, _, _, rfl, rfl, SqT.of ha, rfl, _, .int 1, .non, rfl, .int _, .int 1, .non, true, ?_, iteF ?_⟩
      · show V.bl (decide (1 ≤ x.2) && true) = V.bl true
        rw [decide_eq_true (by have := hfr.1; omega)]
        rfl
      refine ⟨_, rfl, _, _, _, _, rfl, rfl, SqT.of ha, rfl, _, rfl, _, _, _, _, rfl, rfl, SqT.of ha, rfl, x.1, x.2, rfl, rfl, false, ?_, iteF ⟨_, rfl, q⟩⟩
      show V.bl (!decide (V.int ((Int.gcd x.1 x.2 : Nat) : Int) = V.int 1)) = V.bl false
      rw [hfr.2]
      rfl
    · have hb' : BadF H v := hb
      cases hb' with
      | non => exact ⟨_, rfl, _, _, _, _, _, rfl, .ty "tuple", .base .non, kit_ty k_non_tuple, _, rfl, iteT (iteT q)⟩
      | bl b => exact ⟨_, rfl, _, _, _, _, _, rfl, .ty "tuple", .base (.bl b), kit_ty k_bool_tuple, _, rfl, iteT (iteT q)⟩
      | int i => exact ⟨_, rfl, _, _, _, _, _, rfl, .ty "tuple", .base (.int i), kit_ty k_int_tuple, _, rfl, iteT (iteT q)⟩
      | str y => exact ⟨_, rfl, _, _, _, _, _, rfl, .ty "tuple", .base (.str y), kit_ty k_str_tuple, _, rfl, iteT (iteT q)⟩
      | lst ha => exact ⟨_, rfl, _, _, _, _, _, rfl, .ty "tuple", .base (.lst ha), kit_ty k_list_tuple, _, rfl, iteT (iteT q)⟩
      | @len a xs ha n =>
        refine ⟨_, rfl, _, _, _, _, _, rfl, .ty "tuple", .base (.tup ha), kit_ty k_tuple_tuple, _, rfl, iteF ?_⟩
        refine ⟨_, rfl, a, _, rfl, .inr (SqT.of ha), rfl, true, ?_, iteT q⟩
        show V.bl (!decide (V.int (xs.length : Int) = V.int 2)) = V.bl true
        rw [decide_eq_false fun e => n (by have := V.int.inj e; omega)]
        rfl
      | @fst a x y ha t n =>
        refine ⟨_, rfl, _, _, _, _, _, rfl, .ty "tuple", .base (.tup ha), kit_ty k_tuple_tuple, _, rfl, iteF ?_⟩
        refine ⟨_, rfl, a, _, rfl, .inr (SqT.of ha), rfl, _, rfl, iteF ?_⟩
        refine ⟨_, rfl, _, _, _, _, rfl, rfl, SqT.of ha, rfl, _, .non, .non, rfl, t, .non, .non, _, rfl, ?_⟩
        rw [n]
        exact iteT (iteT q)
      | @snd a x y ha t u n n2 =>
        refine ⟨_, rfl, _, _, _, _, _, rfl, .ty "tuple", .base (.tup ha), kit_ty k_tuple_tuple, _, rfl, iteF ?_⟩
        refine ⟨_, rfl, a, _, rfl, .inr (SqT.of ha), rfl, _, rfl, iteF ?_⟩
        refine ⟨_, rfl, _, _, _, _, rfl, rfl, SqT.of ha, rfl, _, .non, .non, rfl, t, .non, .non, _, rfl, ?_⟩
        rw [n]
        refine iteF ⟨_, rfl, _, _, _, _, rfl, rfl, SqT.of ha, rfl, _, .int 1, .non, rfl, u, .int 1, .non, _, rfl, ?_⟩
        rw [n2]
        exact iteT q
      | @gcd a t b ha h1 hg =>
        refine ⟨_, rfl, _, _, _, _, _, rfl, .ty "tuple", .base (.tup ha), kit_ty k_tuple_tuple, _, rfl, iteF ?_⟩
        refine ⟨_, rfl, a, _, rfl, .inr (SqT.of ha), rfl, _, rfl, iteF ?_⟩
        refine ⟨_, rfl, _, _, _, _, rfl, rfl, SqT.of ha, rfl, _, .non, .non, rfl, .int _, .non, .non, _, rfl, iteF ?_⟩
        refine ⟨_, rfl, _, _, _, _, rfl, rfl, SqT.of ha, rfl, _, .int 1, .non, rfl, .int _, .int 1, .non, true, ?_, iteF ?_⟩
        · show V.bl (decide (1 ≤ b) && true) = V.bl true
          rw [decide_eq_true h1]
          rfl
        refine ⟨_, rfl, _, _, _, _, rfl, rfl, SqT.of ha, rfl, _, rfl, _, _, _, _, rfl, rfl, SqT.of ha, rfl, t, b, rfl, rfl, true, ?_, iteT q⟩
        show V.bl (!decide (V.int ((Int.gcd t b : Nat) : Int) = V.int 1)) = V.bl true
        rw [decide_eq_false fun e => hg (by have := V.int.inj e; omega)]
        rfl
theorem sc_F_number_of : FnScope ["self", "whole"] ["self", "whole"] (defScope (inClass (top 15) 3)) := ⟨rfl, rfl, rfl, by decide +kernel, rfl, by decide +kernel, by decide +kernel⟩
theorem ok_F_number_of (D : Dm K (CF K) "number_of" "FractionField.number_of" (inClass (top 15) 3) ["self", "whole"]) (B : Bn mg) : C_F_number_of P w K mg base := by
  refine D.ok sc_F_number_of (fun vs H Q E h => ?_) (fun f cdv A outer s H vs Q E hr h => ?_)
  · obtain ⟨_, _, _, rfl, _⟩ := h
    rfl
  · obtain ⟨g, p, i, rfl, h0, hfp, hf, k⟩ := h
    refine ⟨_, (pss_one (ps_ret (pe_tup (pa_cons (pv 1) (pa_cons pe_int pa_nil))))), ?_⟩
    have hp0 := eq0_of h0
    subst hp0
    exact ⟨_, rfl, by show 2 ≤ sizeLine; decide, fun q hq => k _ _ (Same.up hq) (NAt.of_fr (x := (i, 1)) upd_same)⟩
theorem sc_F_plus : FnScope ["self", "one", "other"] ["self", "one", "other"] (defScope (inClass (top 15) 4)) := ⟨rfl, rfl, rfl, by decide +kernel, rfl, by decide +kernel, by decide +kernel⟩
theorem ok_F_plus (D : Dm K (CF K) "plus" "FractionField.plus" (inClass (top 15) 4) ["self", "one", "other"]) (B : Bn mg) (c_lowest_terms : C_lowest_terms P w K mg base) : C_F_op P w K mg base "plus" nPlus := by
  refine D.ok sc_F_plus (fun vs H Q E h => ?_) (fun f cdv A outer s H vs Q E hr h => ?_)
  · obtain ⟨_, _, _, _, _, _, rfl, _⟩ := h
    rfl
  · obtain ⟨g, p, va, vb, x, y, rfl, h0, hfp, hf, hx, hy, nx, ny, sx, sy, k⟩ := h
    refine ⟨_, (pss_one (ps_ret (pcl c_lowest_terms (hr.mono (by decide)) pass0 (pa_cons (pe_op op_add (pe_op op_mulW (pe_ix ix_tup (pv 1) pe_int (fun _ _ => rfl)) (pe_ix ix_tup (pv 2) pe_int (fun _ _ => rfl))) (pe_op op_mulW (pe_ix ix_tup (pv 2) pe_int (fun _ _ => rfl)) (pe_ix ix_tup (pv 1) pe_int (fun _ _ => rfl)))) (pa_cons (pe_op op_mulW (pe_ix ix_tup (pv 1) pe_int (fun _ _ => rfl)) (pe_ix ix_tup (pv 2) pe_int (fun _ _ => rfl))) pa_nil))))), ?_⟩
    have hp0 := eq0_of h0
    subst hp0
    obtain ⟨a, rfl, ha⟩ := hx.fr
    obtain ⟨b, rfl, hb⟩ := hy.fr
    have fx : IsFr x := nx
    have fy : IsFr y := ny
    refine ⟨_, rfl, _, _, _, _, rfl, rfl, SqT.of ha, rfl, _, rfl, _, _, _, _, rfl, rfl, SqT.of hb, rfl, _, _, rfl, rfl, wide_mul sx.1 sy.2 (by decide) (by decide) (by decide), ?_⟩
    refine ⟨_, rfl, _, _, _, _, rfl, rfl, SqT.of hb, rfl, _, rfl, _, _, _, _, rfl, rfl, SqT.of ha, rfl, _, _, rfl, rfl, wide_mul sy.1 sx.2 (by decide) (by decide) (by decide), _, _, rfl, rfl, ?_⟩
    refine ⟨_, rfl, _, _, _, _, rfl, rfl, SqT.of ha, rfl, _, rfl, _, _, _, _, rfl, rfl, SqT.of hb, rfl, _, _, rfl, rfl, wide_mul sx.2 sy.2 (by decide) (by decide) (by decide), ?_⟩
    exact ⟨_, _, rfl, by have := Int.mul_pos fx.1 fy.1; omega, small_up 4000 (add_small (wide_lt sx.1 sy.2) (wide_lt sy.1 sx.2)) (by decide), small_up 4000 (wide_lt sx.2 sy.2) (by decide), fun H' q hs hq hv => k _ _ hs (NAt.of_fr hv)⟩
theorem sc_F_less : FnScope ["self", "one", "other"] ["self", "one", "other"] (defScope (inClass (top 15) 5)) := ⟨rfl, rfl, rfl, by decide +kernel, rfl, by decide +kernel, by decide +kernel⟩
theorem ok_F_less (D : Dm K (CF K) "less" "FractionField.less" (inClass (top 15) 5) ["self", "one", "other"]) (B : Bn mg) (c_lowest_terms : C_lowest_terms P w K mg base) : C_F_op P w K mg base "less" nLess := by
  refine D.ok sc_F_less (fun vs H Q E h => ?_) (fun f cdv A outer s H vs Q E hr h => ?_)
  · obtain ⟨_, _, _, _, _, _, rfl, _⟩ := h
    rfl
  · obtain ⟨g, p, va, vb, x, y, rfl, h0, hfp, hf, hx, hy, nx, ny, sx, sy, k⟩ := h
    refine ⟨_, (pss_one (ps_ret (pcl c_lowest_terms (hr.mono (by decide)) pass0 (pa_cons (pe_op op_sub (pe_op op_mulW (pe_ix ix_tup (pv 1) pe_int (fun _ _ => rfl)) (pe_ix ix_tup (pv 2) pe_int (fun _ _ => rfl))) (pe_op op_mulW (pe_ix ix_tup (pv 2) pe_int (fun _ _ => rfl)) (pe_ix ix_tup (pv 1) pe_int (fun _ _ => rfl)))) (pa_cons (pe_op op_mulW (pe_ix ix_tup (pv 1) pe_int (fun _ _ => rfl)) (pe_ix ix_tup (pv 2) pe_int (fun _ _ => rfl))) pa_nil))))), ?_⟩
    have hp0 := eq0_of h0
    subst hp0
    obtain ⟨a, rfl, ha⟩ := hx.fr
    obtain ⟨b, rfl, hb⟩ := hy.fr
    have fx : IsFr x := nx
    have fy : IsFr y := ny
    refine ⟨_, rfl, _, _, _, _, rfl, rfl, SqT.of ha, rfl, _, rfl, _, _, _, _, rfl, rfl, SqT.of hb, rfl, _, _, rfl, rfl, wide_mul sx.1 sy.2 (by decide) (by decide) (by decide), ?_⟩
    refine ⟨_, rfl, _, _, _, _, rfl, rfl, SqT.of hb, rfl, _, rfl, _, _, _, _, rfl, rfl, SqT.of ha, rfl, _, _, rfl, rfl, wide_mul sy.1 sx.2 (by decide) (by decide) (by decide), _, _, rfl, rfl, ?_⟩
    refine ⟨_, rfl, _, _, _, _, rfl, rfl, SqT.of ha, rfl, _, rfl, _, _, _, _, rfl, rfl, SqT.of hb, rfl, _, _, rfl, rfl, wide_mul sx.2 sy.2 (by decide) (by decide) (by decide), ?_⟩
    exact ⟨_, _, rfl, by have := Int.mul_pos fx.1 fy.1; omega, small_up 4000 (sub_small (wide_lt sx.1 sy.2) (wide_lt sy.1 sx.2)) (by decide), small_up 4000 (wide_lt sx.2 sy.2) (by decide), fun H' q hs hq hv => k _ _ hs (NAt.of_fr hv)⟩
theorem sc_F_times : FnScope ["self", "one", "other"] ["self", "one", "other"] (defScope (inClass (top 15) 6)) := ⟨rfl, rfl, rfl, by decide +kernel, rfl, by decide +kernel, by decide +kernel⟩
theorem ok_F_times (D : Dm K (CF K) "times" "FractionField.times" (inClass (top 15) 6) ["self", "one", "other"]) (B : Bn mg) (c_lowest_terms : C_lowest_terms P w K mg base) : C_F_op P w K mg base "times" nTimes := by
  refine D.ok sc_F_times (fun vs H Q E h => ?_) (fun f cdv A outer s H vs Q E hr h => ?_)
  · obtain ⟨_, _, _, _, _, _, rfl, _⟩ := h
    rfl
  · obtain ⟨g, p, va, vb, x, y, rfl, h0, hfp, hf, hx, hy, nx, ny, sx, sy, k⟩ := h
    refine ⟨_, (pss_one (ps_ret (pcl c_lowest_terms (hr.mono (by decide)) pass0 (pa_cons (pe_op op_mulW (pe_ix ix_tup (pv 1) pe_int (fun _ _ => rfl)) (pe_ix ix_tup (pv 2) pe_int (fun _ _ => rfl))) (pa_cons (pe_op op_mulW (pe_ix ix_tup (pv 1) pe_int (fun _ _ => rfl)) (pe_ix ix_tup (pv 2) pe_int (fun _ _ => rfl))) pa_nil))))), ?_⟩
    have hp0 := eq0_of h0
    subst hp0
    obtain ⟨a, rfl, ha⟩ := hx.fr
    obtain ⟨b, rfl, hb⟩ := hy.fr
    have fx : IsFr x := nx
    have fy : IsFr y := ny
    refine ⟨_, rfl, _, _, _, _, rfl, rfl, SqT.of ha, rfl, _, rfl, _, _, _, _, rfl, rfl, SqT.of hb, rfl, _, _, rfl, rfl, wide_mul sx.1 sy.1 (by decide) (by decide) (by decide), ?_⟩
    refine ⟨_, rfl, _, _, _, _, rfl, rfl, SqT.of ha, rfl, _, rfl, _, _, _, _, rfl, rfl, SqT.of hb, rfl, _, _, rfl, rfl, wide_mul sx.2 sy.2 (by decide) (by decide) (by decide), ?_⟩
    exact ⟨_, _, rfl, by have := Int.mul_pos fx.1 fy.1; omega, small_up 4000 (wide_lt sx.1 sy.1) (by decide), small_up 4000 (wide_lt sx.2 sy.2) (by decide), fun H' q hs hq hv => k _ _ hs (NAt.of_fr hv)⟩
theorem sc_F_quotient : FnScope ["self", "one", "other"] ["self", "one", "other"] (defScope (inClass (top 15) 7)) := ⟨rfl, rfl, rfl, by decide +kernel, rfl, by decide +kernel, by decide +kernel⟩
theorem ok_F_quotient (D : Dm K (CF K) "quotient" "FractionField.quotient" (inClass (top 15) 7) ["self", "one", "other"]) (B : Bn mg) (c_lowest_terms : C_lowest_terms P w K mg base) (z : Xc P w K mg base "ByZero" (XZ K)) : C_F_quotient P w K mg base := by
  refine D.okX sc_F_quotient (fun vs H Q E h => ?_) (fun f cdv A outer s H vs Q E hr h => ?_)
  · obtain ⟨_, _, _, _, _, _, rfl, _⟩ := h
    rfl
  · obtain ⟨g, p, va, vb, x, y, rfl, h0, hfp, hf, hx, hy, nx, ny, sx, sy, kZ, k⟩ := h
    refine ⟨_, (pss_cons (ps_if (pt_cmpR op_eq (pe_ix ix_tup (pv 2) pe_int (fun _ _ => rfl)) pe_int (nomark _))
        (pss_one (ps_raise rfl (takes_of rfl rfl rfl rfl) (pmk_x z (hr.mono (by decide)))))
        pss_nil)
      (pss_one (ps_ret (pcl c_lowest_terms (hr.mono (by decide)) pass0 (pa_cons (pe_op op_mulW (pe_ix ix_tup (pv 1) pe_int (fun _ _ => rfl)) (pe_ix ix_tup (pv 2) pe_int (fun _ _ => rfl))) (pa_cons (pe_op op_mulW (pe_ix ix_tup (pv 1) pe_int (fun _ _ => rfl)) (pe_ix ix_tup (pv 2) pe_int (fun _ _ => rfl))) pa_nil)))))), ?_⟩
    have hp0 := eq0_of h0
    subst hp0
    obtain ⟨a, rfl, ha⟩ := hx.fr
    obtain ⟨b, rfl, hb⟩ := hy.fr
    have fx : IsFr x := nx
    have fy : IsFr y := ny
    refine ⟨_, rfl, _, _, _, _, rfl, rfl, SqT.of hb, rfl, rfl, _, rfl, ite2 (fun c => ?_) (fun c => ?_)⟩
    · exact kZ (inj_int c)
    · have hz := ninj_int c
      obtain ⟨q1, q2⟩ := quot_fr nx ny hz
      have hne : x.2 * y.1 ≠ 0 := Int.mul_ne_zero (by have := fx.1; omega) hz
      have l := low_le (t := x.1 * y.2) hne
      refine ⟨_, rfl, _, _, _, _, rfl, rfl, SqT.of ha, rfl, _, rfl, _, _, _, _, rfl, rfl, SqT.of hb, rfl, _, _, rfl, rfl, wide_mul sx.1 sy.2 (by decide) (by decide) (by decide), ?_⟩
      refine ⟨_, rfl, _, _, _, _, rfl, rfl, SqT.of ha, rfl, _, rfl, _, _, _, _, rfl, rfl, SqT.of hb, rfl, _, _, rfl, rfl, wide_mul sx.2 sy.1 (by decide) (by decide) (by decide), ?_⟩
      exact ⟨_, _, rfl, hne, small_up 4000 (wide_lt sx.1 sy.2) (by decide), small_up 4000 (wide_lt sx.2 sy.1) (by decide), fun H' q hs hq hv => k hz H' _ _ hs (NAt.of_fr hv) q2 ⟨Nat.lt_of_le_of_lt l.1 (small_up 200 (wide_lt sx.1 sy.2) (by decide)), Nat.lt_of_le_of_lt l.2 (small_up 200 (wide_lt sx.2 sy.1) (by decide))⟩ q1⟩
theorem sc_F_power : FnScope ["self", "number", "exponent", "top", "bottom"] ["self", "number", "exponent"] (defScope (inClass (top 15) 8)) := ⟨rfl, rfl, rfl, by decide +kernel, rfl, by decide +kernel, by decide +kernel⟩
theorem ok_F_power (D : Dm K (CF K) "power" "FractionField.power" (inClass (top 15) 8) ["self", "number", "exponent"]) (B : Bn mg) (c_lowest_terms : C_lowest_terms P w K mg base) (c_power_of : C_power_of P w K mg base) (z : Xc P w K mg base "ByZero" (XZ K)) : C_F_power P w K mg base := by
  refine D.okX sc_F_power (fun vs H Q E h => ?_) (fun f cdv A outer s H vs Q E hr h => ?_)
  · obtain ⟨_, _, _, _, _, rfl, _⟩ := h
    rfl
  · obtain ⟨g, p, va, x, e, rfl, h0, hfp, hf, hx, nx, sx, he, he8, kZ, k⟩ := h
    refine ⟨_, (pss_cons (ps_asg (pv 1) (pg_tup rfl (pgs_cons (pg_name (i := 3) sc_F_power.nd rfl (Or.inl rfl)) (pgs_cons (pg_name (i := 4) sc_F_power.nd rfl (Or.inl rfl)) pgs_nil))))
      (pss_cons (ps_if (pt_cmpR op_lt (pv 2) pe_int (nomark _))
        (pss_cons (ps_if (pt_cmpR op_eq (pv 3) pe_int (nomark _))
          (pss_one (ps_raise rfl (takes_of rfl rfl rfl rfl) (pmk_x z (hr.mono (by decide)))))
          pss_nil)
        (pss_one (ps_ret (pcl c_lowest_terms (hr.mono (by decide)) pass0 (pa_cons (pcl c_power_of (hr.mono (by decide)) pass0 (pa_cons (pv 4) (pa_cons (pe_un un_neg (pv 2)) pa_nil))) (pa_cons (pcl c_power_of (hr.mono (by decide)) pass0 (pa_cons (pv 3) (pa_cons (pe_un un_neg (pv 2)) pa_nil))) pa_nil))))))
        pss_nil)
      (pss_one (ps_ret (pe_tup (pa_cons (pcl c_power_of (hr.mono (by decide)) pass0 (pa_cons (pv 3) (pa_cons (pv 2) pa_nil))) (pa_cons (pcl c_power_of (hr.mono (by decide)) pass0 (pa_cons (pv 4) (pa_cons (pv 2) pa_nil))) pa_nil))))))), ?_⟩
    have hp0 := eq0_of h0
    subst hp0
    obtain ⟨a, rfl, ha⟩ := hx.fr
    have fx : IsFr x := nx
    have e8 := he8 rfl
    have b1 : x.1.natAbs < 2 ^ 1000 := small_up 1000 sx.1 (by decide)
    have b2 : x.2.natAbs < 2 ^ 1000 := small_up 1000 sx.2 (by decide)
    refine ⟨_, rfl, _, _, rfl, SqT.of ha, rfl, _, _, rfl, _, _, rfl, rfl, ?_⟩
    refine ⟨_, rfl, _, _, rfl, rfl, _, rfl, ite2 (fun c => ?_) (fun c => ?_)⟩
    · have hneg : e < 0 := of_decide_eq_true c
      refine ⟨_, rfl, rfl, _, rfl, ite2 (fun c2 => ?_) (fun c2 => ?_)⟩
      · exact kZ (inj_int c2) hneg
      · have hz := ninj_int c2
        have k2 := k (fun q => hz q.1)
        rw [if_neg hz, raise_fr nx hz, if_pos hneg] at k2
        have en : (-e : Int) = ((e.natAbs : Nat) : Int) := by omega
        have p1 := pow_small sx.1 e.natAbs
        have p2 := pow_small sx.2 e.natAbs
        refine ⟨_, rfl, _, rfl, _, rfl, x.2, e.natAbs, congrArg (fun z => [V.int x.2, V.int z]) en, b2, by omega, _, rfl, _, rfl, _, rfl, x.1, e.natAbs, congrArg (fun z => [V.int x.1, V.int z]) en, b1, by omega, ?_⟩
        exact ⟨_, _, rfl, Int.pow_ne_zero hz, small_up 4000 p2 (by omega), small_up 4000 p1 (by omega), fun H' q hs hq hv => k2 _ _ hs (NAt.of_fr hv)⟩
    · have hpos : ¬ e < 0 := of_decide_eq_false (eq_false_of_ne_true c)
      obtain ⟨n, rfl⟩ : ∃ n : Nat, e = (n : Int) := ⟨e.toNat, by omega⟩
      have k2 := k (fun q => hpos q.2)
      refine ⟨_, rfl, _, rfl, x.1, n, rfl, b1, by omega, _, rfl, _, rfl, x.2, n, rfl, b2, by omega, by show 2 ≤ sizeLine; decide, fun q hq => ?_⟩
      refine k2 _ _ (Same.up hq) ?_
      by_cases hz : x.1 = 0
      · rw [if_pos hz]
        have h2 := fr_zero fx hz
        by_cases hn : n = 0
        · subst hn
          rw [if_pos (show ((0 : Nat) : Int) = 0 from rfl)]
          refine NAt.of_fr (x := (1, 1)) ?_
          rw [upd_same, Int.pow_zero, Int.pow_zero]
        · rw [if_neg (by omega)]
          refine NAt.of_fr (x := (0, 1)) ?_
          rw [upd_same, hz, h2, zero_pow hn, Int.one_pow]
      · rw [if_neg hz, raise_fr nx hz, if_neg hpos, Int.toNat_natCast]
        exact NAt.of_fr (x := (x.1 ^ n, x.2 ^ n)) upd_same
end
end G3
namespace G3
open PySem PySem.Spec PyProof.Rows L2
/-- a statement whose ways meet behind it -/
def tMid (t u : TS) : TS := fun D σ H => ∃ Mid : L2.St → Hp → Prop, t { D with nx := Mid } σ H ∧ ∀ σ' H', Mid σ' H' → u D σ' H'
theorem pss_mid {X : Cx} {st : Stmt} {rest : List Stmt} {t u : TS} (h1 : PS X st t) (h2 : PSs X rest u) : PSs X (st :: rest) (tMid t u) := by
  refine ⟨fun pins s σ H D I h => ?_⟩
  obtain ⟨Mid, ht, hu⟩ := h
  refine wpAny_execs_cons (thn (h1.run pins s σ H { D with nx := Mid } I ht) fun f s1 q => ?_)
  cases f with
  | next =>
    obtain ⟨σ2, H2, J, z⟩ := q
    exact h2.run pins s1 σ2 H2 D J (hu σ2 H2 z)
  | brk => exact q
  | cont => exact q
  | ret v => exact q
theorem But.refl (l : Addr) (H : Hp) : But l H H := fun _ _ _ h => h
theorem But.trans {l : Addr} {H H1 H2 : Hp} (a : But l H H1) (b : But l H1 H2) : But l H H2 := fun c o n h => b c o n (a c o n h)
theorem But.up {l : Addr} {H : Hp} (o : HO) : But l H (upd H l o) := fun b u n h => (upd_ne n).trans h
theorem But.same {l : Addr} {H H1 H2 : Hp} (a : But l H H1) (s : Same H1 H2) : But l H H2 := fun b o n h => s _ _ (a b o n h)
theorem Same.but {l : Addr} {H H1 : Hp} (s : Same H H1) : But l H H1 := fun b o _ h => s b o h
theorem Hand.same {H H' : Hp} {l : Addr} (h : Hand H l) (s : Same H H') : Hand H' l := by
  obtain ⟨c, ns, i, b, st, h1, h2, h3⟩ := h
  exact ⟨c, ns, i, b, st, s _ _ h1, s _ _ h2, h3⟩
theorem natV {v : Int} (h : 0 ≤ v) : V.int v = V.int ((v.toNat : Nat) : Int) := by rw [Int.toNat_of_nonneg h]
section
variable {P : Program} {w : World} {K : PySem.W.Frag} {mg : Str → Option Value} {base : Heap}
theorem sc_l_mixed : FnScope ["_law_number_here", "_law_turn", "_law_once", "_law_twice"] ["_law_number_here", "_law_turn"] (defScope (top 20)) := ⟨rfl, rfl, rfl, by decide +kernel, rfl, by decide +kernel, by decide +kernel⟩
theorem ok_l_mixed (D : Df K mg "_law_mixed" (top 20) ["_law_number_here", "_law_turn"]) (B : Bn mg) : C_l_mixed P w K mg base := by
  refine D.ok sc_l_mixed (fun vs H Q E h => ?_) (fun f cdv A outer s H vs Q E hr h => ?_)
  · obtain ⟨_, _, rfl, _⟩ := h
    rfl
  · obtain ⟨a, b, rfl, ha, hb, k⟩ := h
    refine ⟨_, (pss_cons (ps_set (i := 2) sc_l_mixed.nd rfl (Or.inl rfl) (pe_op op_mod (pe_callTy call_int1 (by rfl) B.int_ PyProof.Rows.boot_int (pa_cons (pe_op op_add (pe_op op_add (pe_op op_mul (pv 0) pe_int) (pe_op op_mul (pv 1) pe_int)) pe_int) pa_nil)) pe_int))
      (pss_cons (ps_set (i := 3) sc_l_mixed.nd rfl (Or.inl rfl) (pe_op op_mod (pe_callTy call_int1 (by rfl) B.int_ PyProof.Rows.boot_int (pa_cons (pe_op op_add (pe_op op_add (pe_op op_mul (pv 2) (pv 2)) (pe_op op_mul (pv 1) pe_int)) (pe_op op_fdiv (pv 2) pe_int)) pa_nil)) pe_int))
      (pss_one (ps_ret (pe_op op_fdiv (pe_op op_mod (pe_callTy call_int1 (by rfl) B.int_ PyProof.Rows.boot_int (pa_cons (pe_op op_add (pe_op op_mul (pv 3) pe_int) (pe_op op_fdiv (pv 2) pe_int)) pa_nil)) pe_int) pe_int))))), ?_⟩
    refine ⟨_, rfl, _, _, rfl, rfl, .inr ⟨by decide, by decide⟩, _, rfl, _, _, rfl, rfl, .inr ⟨by decide, by decide⟩, _, _, rfl, rfl, _, _, rfl, rfl, .inl ⟨_, rfl, _, _, rfl, rfl, (by show (0 : Int) < 2147483587; decide), ?_⟩⟩
    have o1 : 0 ≤ ((a : Int) * 48611 + (b : Int) * 30323 + 577) % 2147483587 := Int.emod_nonneg _ (by decide)
    have o2 : ((a : Int) * 48611 + (b : Int) * 30323 + 577) % 2147483587 < 2147483587 := Int.emod_lt_of_pos _ (by decide)
    refine ⟨_, rfl, _, rfl, _, _, rfl, rfl, .inl ⟨by omega, by omega⟩, _, rfl, _, _, rfl, rfl, .inr ⟨by decide, by decide⟩, _, _, rfl, rfl, _, rfl, _, _, rfl, rfl, ⟨by decide, by decide⟩, _, _, rfl, rfl, .inl ⟨_, rfl, _, _, rfl, rfl, (by show (0 : Int) < 2147483563; decide), ?_⟩⟩
    refine ⟨_, rfl, _, _, rfl, rfl, .inr ⟨by decide, by decide⟩, _, rfl, _, _, rfl, rfl, ⟨by decide, by decide⟩, _, _, rfl, rfl, .inl ⟨_, rfl, _, _, rfl, rfl, (by show (0 : Int) < 2147483629; decide), _, _, rfl, rfl, ⟨by decide, by decide⟩, ?_⟩⟩
    refine Eq.mpr (congrArg (fun z => Q z H) (natV ?_)) (k _)
    exact Int.ediv_nonneg (Int.emod_nonneg _ (by decide)) (by decide)
theorem sc_l_hand : FnScope ["_law_script", "_law_state", "_law_place", "_law_cell"] ["_law_script"] (defScope (top 21)) := ⟨rfl, rfl, rfl, by decide +kernel, rfl, by decide +kernel, by decide +kernel⟩
theorem ok_l_hand (D : Df K mg "_law_hand" (top 21) ["_law_script"]) (B : Bn mg) : C_l_hand P w K mg base := by
  refine D.ok sc_l_hand (fun vs H Q E h => ?_) (fun f cdv A outer s H vs Q E hr h => ?_)
  · obtain ⟨_, _, rfl, _⟩ := h
    rfl
  · obtain ⟨a, ns, rfl, hS, hlen, k⟩ := h
    refine ⟨_, (pss_cons (ps_set (i := 1) sc_l_hand.nd rfl (Or.inl rfl) pe_int)
      (pss_cons (ps_for PassesOwn.never rfl (pi_enum (by rfl) B.enum_ (pa_cons (pv 0) pa_nil)) (pg_tup rfl (pgs_cons (pg_name (i := 2) sc_l_hand.nd rfl (Or.inl rfl)) (pgs_cons (pg_name (i := 3) sc_l_hand.nd rfl (Or.inl rfl)) pgs_nil)))
        (pss_one (ps_set (i := 1) sc_l_hand.nd rfl (Or.inl rfl) (pe_op op_mod (pe_callTy call_int1 (by rfl) B.int_ PyProof.Rows.boot_int (pa_cons (pe_op op_add (pe_op op_add (pe_op op_mul (pv 1) pe_int) (pe_op op_mul (pe_callTy call_int1 (by rfl) B.int_ PyProof.Rows.boot_int (pa_cons (pv 3) pa_nil)) (pe_op op_add (pe_op op_mul pe_int (pv 2)) pe_int))) pe_int) pa_nil)) pe_int))))
      (pss_one (ps_ret (pe_lst (pa_cons (pe_lc (own := [("_law_cell", 3)]) (g := gName 3) (tt := tYes) rfl sc_l_hand.nd (pi_list (pv 0)) (blkOk_by (N := ["_law_script", "_law_state", "_law_place", "_law_cell"]) (sc := defScope (top 21)) (by decide +kernel)) (fun _ _ _ _ _ => pg_name (i := 3) sc_l_hand.nd rfl (Or.inl rfl)) (fun _ _ _ _ _ => pts_nil) (fun _ _ _ _ _ => (pe_callB call_abs (by rfl) B.abs_ (by decide +kernel) (pa_cons (pe_callTy call_int1 (by rfl) B.int_ PyProof.Rows.boot_int (pa_cons (pv 3) pa_nil)) pa_nil)))) (pa_cons pe_int (pa_cons pe_int (pa_cons (pv 1) pa_nil))))))))), ?_⟩
    refine ⟨_, rfl, a, _, rfl, hS, for_it walk_enum (fun i σ H' => Same H H' ∧ ∃ (st : Nat) (v2 v3 : Option V), σ = [some (.ref a), some (.int st), v2, v3] ∧ st < 2147483587) ⟨Same.refl _, 11, none, none, rfl, by decide⟩ (fun i σ H' _ h => h.1.seq hS) ?_ ?_⟩
    · rintro i x σ H1 H2 hi ⟨s1, st, v2, v3, rfl, hst⟩ ⟨T, x1, x2, rfl, hT, rfl, e1, e2⟩
      cases e1
      replace e2 : (ns.map V.int)[i]? = some x2 := e2
      rw [List.getElem?_map] at e2
      obtain ⟨n, hn, rfl⟩ := Option.map_eq_some_iff.mp e2
      rw [List.length_map] at hi
      refine ⟨T, _, rfl, SqT.of upd_same, rfl, _, _, rfl, _, _, rfl, rfl, ?_⟩
      refine ⟨_, rfl, _, _, rfl, rfl, .inr ⟨by decide, by decide⟩, _, rfl, .inl ⟨_, rfl, _, rfl, _, _, rfl, rfl, .inl ⟨by decide, by decide⟩, _, _, rfl, rfl, _, _, rfl, rfl, .inr ⟨by omega, by omega⟩, _, _, rfl, rfl, _, _, rfl, rfl, .inl ⟨_, rfl, _, _, rfl, rfl, (by show (0 : Int) < 2147483587; decide), ?_⟩⟩⟩
      have o1 : 0 ≤ ((st : Int) * 41 + n * (2 * (i : Int) + 3) + 5) % 2147483587 := Int.emod_nonneg _ (by decide)
      have o2 : ((st : Int) * 41 + n * (2 * (i : Int) + 3) + 5) % 2147483587 < 2147483587 := Int.emod_lt_of_pos _ (by decide)
      refine ⟨Same.up' s1 hT, (((st : Int) * 41 + n * (2 * (i : Int) + 3) + 5) % 2147483587).toNat, some (.int (i : Nat)), some (.int n), ?_, by omega⟩
      rw [Int.toNat_of_nonneg o1]
      rfl
    · rintro σ H1 ⟨s1, st, v2, v3, rfl, hst⟩
      refine ⟨_, rfl, a, rfl, ⟨_, s1.seq hS⟩, fun Dl hD => lc_list (K := K) (a := a) (xs := ns.map V.int) (fun i H2 => Same H1 H2 ∧ H2 Dl = some (.lst ((ns.take i).map fun n : Int => V.int (n.natAbs : Nat)))) ⟨Same.up hD, by rw [upd_same]; rfl⟩ (fun i H2 _ h => (s1.trans h.1).seq hS) ?_ ?_⟩
      · rintro i x H2 hx ⟨s2, h2⟩
        rw [List.getElem?_map] at hx
        obtain ⟨n, hn, rfl⟩ := Option.map_eq_some_iff.mp hx
        have hi : i < ns.length := (List.getElem?_eq_some_iff.mp hn).1
        refine ⟨rfl, ?_⟩
        refine ⟨_, rfl, .inl ⟨_, rfl, _, rfl, _, h2, ?_, ?_, ?_⟩⟩
        · rw [List.length_map, List.length_take]
          exact small1000 (by omega)
        · intro b o hb
          have nb : b ≠ Dl := ne_of_none hb hD
          rw [upd_ne nb]
          exact s2 b o hb
        · rw [upd_same, absI, List.take_add_one, hn, List.map_append]
          rfl
      · rintro H2 ⟨s2, h2⟩
        rw [List.length_map, List.take_length] at h2
        refine ⟨_, rfl, by show 4 ≤ sizeLine; decide, fun l hl => ?_⟩
        have hHl : H l = none := s1.free (s2.free hl)
        refine k _ l (Same.up' (s1.trans s2) hl) hHl ⟨Dl, ns.map Int.natAbs, 0, 0, st, upd_same, ?_, ne_of_none h2 hl, by rw [List.length_map]; exact hlen, by decide, hst⟩
        rw [upd_ne (ne_of_none h2 hl), h2, List.map_map]
        rfl
end
end G3
namespace G3
open PySem PySem.Spec PyProof.Rows L2
theorem pr19997 : Pr 19997 := pr_iff.mp (by decide +kernel)
section
variable {P : Program} {w : World} {K : PySem.W.Frag} {mg : Str → Option Value} {base : Heap}
theorem sc_l_draw : FnScope ["_law_hand_here", "_law_many", "_law_cell", "_law_rest"] ["_law_hand_here", "_law_many"] (defScope (top 22)) := ⟨rfl, rfl, rfl, by decide +kernel, rfl, by decide +kernel, by decide +kernel⟩
theorem ok_l_draw (D : Df K mg "_law_draw" (top 22) ["_law_hand_here", "_law_many"]) (B : Bn mg) (c_l_mixed : C_l_mixed P w K mg base) : C_l_draw P w K mg base := by
  refine D.ok sc_l_draw (fun vs H Q E h => ?_) (fun f cdv A outer s H vs Q E hr h => ?_)
  · obtain ⟨_, _, rfl, _⟩ := h
    rfl
  · obtain ⟨l, m, rfl, ⟨c, ns, i, b, st, hl, hc, hcl, hlen, hi, hst⟩, hm1, hm2, k⟩ := h
    refine ⟨_, (pss_mid (ps_if (PW.pt (pw_and (pt_cmpR op_eq (pe_ix ix_list (pv 0) pe_int (fun _ _ => rfl)) pe_int (nomark _)) (pw_and1 (pt_cmpR op_lt (pe_ix ix_list (pv 0) pe_int (fun _ _ => rfl)) (pe_callB call_len_seq (by rfl) B.len_ PySem.boot_len (pa_cons (pe_ix ix_list (pv 0) pe_int (fun _ _ => rfl)) pa_nil)) (nomark _)))))
        (pss_cons (ps_set (i := 2) sc_l_draw.nd rfl (Or.inl rfl) (pe_ix ix_list (pe_ix ix_list (pv 0) pe_int (fun _ _ => rfl)) (pe_ix ix_list (pv 0) pe_int (fun _ _ => rfl)) (fun _ _ => rfl)))
        (pss_cons (ps_asg (pe_op op_add (pe_ix ix_list (pv 0) pe_int (fun _ _ => rfl)) pe_int) (pg_sub (pv 0) pe_int set_list))
        (pss_cons (ps_if (pt_cmpR op_lt (pv 2) (pe_op op_pow pe_int pe_int) (nomark _))
          (pss_one (ps_ret (pe_op op_mod (pe_callTy call_int1 (by rfl) B.int_ PyProof.Rows.boot_int (pa_cons (pcl c_l_mixed (hr.mono (by decide)) pass0 (pa_cons (pv 2) (pa_cons (pe_ix ix_list (pv 0) pe_int (fun _ _ => rfl)) pa_nil))) pa_nil)) (pv 1))))
          pss_nil)
        (pss_one (ps_asg (pv 2) (pg_sub (pv 0) pe_int set_list))))))
        pss_nil)
      (pss_cons (ps_if (pt_cmpR op_gt (pe_ix ix_list (pv 0) pe_int (fun _ _ => rfl)) pe_int (nomark _))
        (pss_cons (ps_set (i := 3) sc_l_draw.nd rfl (Or.inl rfl) (pe_ix ix_list (pv 0) pe_int (fun _ _ => rfl)))
        (pss_cons (ps_asg (pe_op op_fdivX (pv 3) (pv 1)) (pg_sub (pv 0) pe_int set_list))
        (pss_one (ps_ret (pe_op op_mod (pe_callTy call_int1 (by rfl) B.int_ PyProof.Rows.boot_int (pa_cons (pv 3) pa_nil)) (pv 1))))))
        pss_nil)
      (pss_cons (ps_asg (pe_op op_mod (pe_callTy call_int1 (by rfl) B.int_ PyProof.Rows.boot_int (pa_cons (pe_op op_add (pe_ix ix_list (pv 0) pe_int (fun _ _ => rfl)) pe_int) pa_nil)) pe_int) (pg_sub (pv 0) pe_int set_list))
      (pss_one (ps_ret (pe_op op_mod (pe_callTy call_int1 (by rfl) B.int_ PyProof.Rows.boot_int (pa_cons (pcl c_l_mixed (hr.mono (by decide)) pass0 (pa_cons (pe_ix ix_list (pv 0) pe_int (fun _ _ => rfl)) (pa_cons (pe_ix ix_list (pv 0) pe_int (fun _ _ => rfl)) pa_nil))) pa_nil)) (pv 1))))))), ?_⟩
    have hmz : (0 : Int) < (m : Int) := by omega
    have ret : ∀ (H' : Hp) (r : Nat), But l H H' → Hand H' l → Q (.int ((r : Int) % (m : Int))) H' := fun H' r h1 h2 => k H' (r % m) h1 h2 (Nat.mod_lt _ (by omega))
    refine ⟨fun σ' H' => ∃ (v : Option V) (i' b' : Nat), σ' = [some (.ref l), some (.int m), v, none] ∧ But l H H' ∧ i' ≤ 63 ∧ H' l = some (.lst [.ref c, .int i', .int b', .int st]) ∧ H' c = some (.lst (ns.map fun n : Nat => V.int n)), ?_, ?_⟩
    · refine ⟨_, rfl, _, _, _, _, rfl, rfl, SqL.of hl, rfl, rfl, _, rfl, ite2 (fun c1 => ?_) (fun c1 => iteF ⟨none, i, b, rfl, But.refl _ _, hi, hl, hc⟩)⟩
      refine ⟨_, rfl, _, _, _, _, rfl, rfl, SqL.of hl, rfl, _, rfl, _, _, _, _, rfl, rfl, SqL.of hl, rfl, c, _, rfl, .inl (SqL.of hc), _, _, rfl, rfl, _, rfl, ite2 (fun c2 => ?_) (fun c2 => ⟨none, i, b, rfl, But.refl _ _, hi, hl, hc⟩)⟩
      have hin : i < ns.length := by
        have := of_decide_eq_true c2
        rw [List.length_map] at this
        omega
      have hcell : (ns.map fun n : Nat => V.int n)[i]? = some (V.int (ns[i] : Nat)) := by rw [List.getElem?_map, List.getElem?_eq_getElem hin]; rfl
      refine ⟨_, rfl, _, _, _, _, rfl, rfl, SqL.of hl, rfl, _, rfl, _, _, _, _, rfl, rfl, SqL.of hl, rfl, _, _, _, _, rfl, rfl, SqL.of hc, atI_nat hcell, ?_⟩
      generalize ns[i] = cell at *
      refine ⟨_, rfl, _, _, _, _, rfl, rfl, SqL.of hl, rfl, _, _, rfl, rfl, _, rfl, l, _, _, 1, rfl, rfl, hl, rfl, ?_⟩
      have hB1 : But l H (upd H l (.lst [.ref c, .int ((i : Int) + 1), .int b, .int st])) := But.up _
      have hc1 : upd H l (.lst [.ref c, .int ((i : Int) + 1), .int b, .int st]) c = some (.lst (ns.map fun n : Nat => V.int n)) := (upd_ne hcl).trans hc
      have e18 : (10 : Int) ^ ((18 : Int).toNat) = 1000000000000000000 := by decide
      obtain ⟨N, hN⟩ : ∃ N : Int, N = (10 : Int) ^ ((18 : Int).toNat) := ⟨_, rfl⟩
      rw [e18] at hN
      rw [← hN] at e18
      refine ⟨_, rfl, _, _, rfl, rfl, ⟨by decide, by decide, by decide⟩, (cell : Int), N, rfl, congrArg V.int e18, _, rfl, ite2 (fun c3 => ?_) (fun c3 => ?_)⟩
      · have hsm : (cell : Int) < 1000000000000000000 := hN ▸ of_decide_eq_true c3
        refine ⟨_, rfl, _, rfl, _, _, _, _, rfl, rfl, SqL.of upd_same, rfl, cell, i + 1, rfl, by omega, by omega, fun r => .inl ⟨_, rfl, _, rfl, _, _, rfl, rfl, hmz, ?_⟩⟩
        exact ret _ _ hB1 ⟨c, ns, i + 1, b, st, upd_same, hc1, hcl, hlen, by omega, hst⟩
      · refine ⟨_, rfl, _, rfl, l, _, _, 2, rfl, rfl, upd_same, rfl, ?_⟩
        refine ⟨_, i + 1, cell, rfl, hB1.trans (But.up _), by omega, upd_same, (upd_ne hcl).trans hc1⟩
    · rintro σ H1 ⟨v, i', b', rfl, hB, hi', hl1, hc1⟩
      refine ⟨_, rfl, _, _, _, _, rfl, rfl, SqL.of hl1, rfl, _, _, rfl, rfl, _, rfl, ite2 (fun c1 => ?_) (fun c1 => ?_)⟩
      · refine ⟨_, rfl, _, _, _, _, rfl, rfl, SqL.of hl1, rfl, _, rfl, _, rfl, _, _, rfl, rfl, divX (by omega) (b := 200) (by omega) (by decide) (by decide), _, rfl, l, _, _, 2, rfl, rfl, hl1, rfl, ?_⟩
        refine ⟨_, rfl, .inl ⟨_, rfl, _, rfl, _, _, rfl, rfl, hmz, ?_⟩⟩
        refine ret _ _ (hB.trans (But.up _)) ⟨c, ns, i', b' / m, st, ?_, (upd_ne hcl).trans hc1, hcl, hlen, hi', hst⟩
        rw [upd_same]
        have e : ((b' : Int).fdiv (m : Int)) = ((b' / m : Nat) : Int) := by rw [Int.fdiv_eq_ediv_of_nonneg _ (by omega), Int.natCast_ediv]
        exact congrArg (fun z => some (HO.lst [.ref c, .int i', .int z, .int st])) e
      · refine ⟨_, rfl, _, _, _, _, rfl, rfl, SqL.of hl1, rfl, _, _, rfl, rfl, .inl ⟨_, rfl, _, _, rfl, rfl, (by show (0 : Int) < 2147483587; decide), _, rfl, l, _, _, 3, rfl, rfl, hl1, rfl, ?_⟩⟩
        refine ⟨_, rfl, _, _, _, _, rfl, rfl, SqL.of upd_same, rfl, _, rfl, _, _, _, _, rfl, rfl, SqL.of upd_same, rfl, (st + 1) % 2147483587, i', rfl, by omega, by omega, fun r => .inl ⟨_, rfl, _, rfl, _, _, rfl, rfl, hmz, ?_⟩⟩
        exact ret _ _ (hB.trans (But.up _)) ⟨c, ns, i', b', (st + 1) % 2147483587, upd_same, (upd_ne hcl).trans hc1, hcl, hlen, hi', by omega⟩
theorem sc_l_whole : FnScope ["_law_thing"] ["_law_thing"] (defScope (top 23)) := ⟨rfl, rfl, rfl, by decide +kernel, rfl, by decide +kernel, by decide +kernel⟩
theorem ok_l_whole (D : Df K mg "_law_whole" (top 23) ["_law_thing"]) (B : Bn mg) : C_l_whole P w K mg base := by
  refine D.ok sc_l_whole (fun vs H Q E h => ?_) (fun f cdv A outer s H vs Q E hr h => ?_)
  · obtain ⟨_, rfl, _⟩ := h
    rfl
  · obtain ⟨x, rfl, hx, k⟩ := h
    refine ⟨_, (pss_one (ps_ret (pe_and (pe_callB call_isi (by rfl) B.isi boot_isinstance (pa_cons (pv 0) (pa_cons (pe_bltn (v := .ty "int") (by rfl) B.int_ PyProof.Rows.boot_int rfl) pa_nil))) (pe_one (pe_not (pe_callB call_isi (by rfl) B.isi boot_isinstance (pa_cons (pv 0) (pa_cons (pe_bltn (v := .ty "bool") (by rfl) B.bool_ PyProof.Rows.boot_bool rfl) pa_nil)))))))), ?_⟩
    rcases hx.cases3 (K := K) with ⟨i, rfl⟩ | ⟨b, rfl⟩ | ⟨hw, T, ty, kt⟩
    · exact ⟨_, rfl, _, _, _, _, _, rfl, .ty "int", .base (.int i), kit_ty k_int_int, true, rfl, iteT ⟨_, rfl, _, _, _, _, _, rfl, .ty "bool", .base (.int i), kit_ty k_int_bool, false, rfl, k⟩⟩
    · exact ⟨_, rfl, _, _, _, _, _, rfl, .ty "int", .base (.bl b), kit_ty k_bool_int, true, rfl, iteT ⟨_, rfl, _, _, _, _, _, rfl, .ty "bool", .base (.bl b), kit_ty k_bool_bool, true, rfl, k⟩⟩
    · rw [hw] at k
      exact ⟨_, rfl, _, _, _, _, _, rfl, .ty "int", ty, kit_ty kt, false, rfl, iteF k⟩
theorem sc_l_divisor : FnScope ["_law_one_here", "_law_other", "_law_a", "_law_b", "_law_step"] ["_law_one_here", "_law_other"] (defScope (top 24)) := ⟨rfl, rfl, rfl, by decide +kernel, rfl, by decide +kernel, by decide +kernel⟩
theorem ok_l_divisor (D : Df K mg "_law_divisor" (top 24) ["_law_one_here", "_law_other"]) (B : Bn mg) : C_l_divisor P w K mg base := by
  refine D.ok sc_l_divisor (fun vs H Q E h => ?_) (fun f cdv A outer s H vs Q E hr h => ?_)
  · obtain ⟨_, _, rfl, _⟩ := h
    rfl
  · obtain ⟨a, b, rfl, hb, k⟩ := h
    refine ⟨_, (pss_cons (ps_set (i := 2) sc_l_divisor.nd rfl (Or.inl rfl) (pe_callB call_abs (by rfl) B.abs_ (by decide +kernel) (pa_cons (pv 0) pa_nil)))
      (pss_cons (ps_set (i := 3) sc_l_divisor.nd rfl (Or.inl rfl) (pe_callB call_abs (by rfl) B.abs_ (by decide +kernel) (pa_cons (pv 1) pa_nil)))
      (pss_cons (ps_for PassesOwn.never rfl (pi_range1 rfl B.range_ (pa_cons pe_int pa_nil)) (pg_name (i := 4) sc_l_divisor.nd rfl (Or.inl rfl))
        (pss_cons (ps_if (pt_cmpR op_eq (pv 3) pe_int (nomark _))
          (pss_one ps_break)
          pss_nil)
        (pss_one (ps_par (i := 2) (j := 3) rfl sc_l_divisor.nd rfl rfl (by decide) rfl rfl (pa_cons (pv 3) (pa_cons (pe_op op_mod (pe_callTy call_int1 (by rfl) B.int_ PyProof.Rows.boot_int (pa_cons (pv 2) pa_nil)) (pv 3)) pa_nil)) (by rfl)))))
      (pss_one (ps_ret (pv 2)))))), ?_⟩
    refine ⟨_, rfl, _, rfl, _, rfl, _, rfl, 9000, rfl, by decide, by decide, for_range (lo := 0) (n := 9000) (fun i σ H' => H' = H ∧ ∃ (x y : Nat) (v : Option V), σ = [some (.int a), some (.int b), some (.int x), some (.int y), v] ∧ EucI a.natAbs b.natAbs i x y)
      ⟨rfl, a.natAbs, b.natAbs, none, by rw [absI, absI]; rfl, EucI.start _ _⟩ ?_ ?_⟩
    · rintro i σ H' hi ⟨rfl, x, y, v, rfl, I⟩
      refine ⟨_, rfl, rfl, _, rfl, ite2 (fun c => ?_) (fun c => ?_)⟩
      · have hy : y = 0 := by
          have := inj_int c
          omega
        refine ⟨_, rfl, ?_⟩
        rw [I.broke hy]
        exact k
      · have hy : y ≠ 0 := by
          have := ninj_int c
          omega
        exact ⟨_, rfl, _, rfl, .inl ⟨_, rfl, _, rfl, _, _, rfl, rfl, by omega, _, _, rfl, rfl, y, x % y, _, rfl, I.step hy⟩⟩
    · rintro σ H' ⟨rfl, x, y, v, rfl, I⟩
      refine ⟨_, rfl, ?_⟩
      rw [I.done hb]
      exact k
theorem sc_l_lowest : FnScope ["_law_top", "_law_bottom", "_law_part"] ["_law_top", "_law_bottom"] (defScope (top 25)) := ⟨rfl, rfl, rfl, by decide +kernel, rfl, by decide +kernel, by decide +kernel⟩
theorem ok_l_lowest (D : Df K mg "_law_lowest" (top 25) ["_law_top", "_law_bottom"]) (B : Bn mg) (c_l_divisor : C_l_divisor P w K mg base) : C_l_lowest P w K mg base := by
  refine D.ok sc_l_lowest (fun vs H Q E h => ?_) (fun f cdv A outer s H vs Q E hr h => ?_)
  · obtain ⟨_, _, rfl, _⟩ := h
    rfl
  · obtain ⟨t, b, rfl, hb, ht4, hb4, k⟩ := h
    refine ⟨_, (pss_cons (ps_set (i := 2) sc_l_lowest.nd rfl (Or.inl rfl) (pcl c_l_divisor (hr.mono (by decide)) pass0 (pa_cons (pv 0) (pa_cons (pv 1) pa_nil))))
      (pss_cons (ps_if (pt_cmpR op_lt (pv 1) pe_int (nomark _))
        (pss_one (ps_set (i := 2) sc_l_lowest.nd rfl (Or.inl rfl) (pe_op op_sub pe_int (pv 2))))
        pss_nil)
      (pss_one (ps_ret (pe_tup (pa_cons (pe_op op_fdivX (pv 0) (pv 2)) (pa_cons (pe_op op_fdivX (pv 1) (pv 2)) pa_nil))))))), ?_⟩
    have hs : CDivX t (sg t b) ∧ CDivX b (sg t b) := by
      have h1 := sg_ne (t := t) hb
      have h2 : (sg t b).natAbs < 2 ^ 4000 := by
        rw [sg_abs]
        exact Nat.lt_of_le_of_lt (Nat.le_of_dvd (by omega) (Int.natAbs_dvd_natAbs.mpr (Int.gcd_dvd_right t b))) hb4
      exact ⟨divX h1 h2 (by decide) (by decide), divX h1 h2 (by decide) (by decide)⟩
    have fin : ∀ q, H q = none → Q (.ref q) (upd H q (.tup [.int (t.fdiv (sg t b)), .int (b.fdiv (sg t b))])) := fun q hq => k _ q (Same.up hq) hq upd_same
    refine ⟨_, rfl, _, rfl, t, b, rfl, small_up 4400 hb4 (by decide), ?_⟩
    refine ⟨_, rfl, _, _, rfl, rfl, _, rfl, ite2 (fun c => ?_) (fun c => ?_)⟩
    · have hneg : b < 0 := of_decide_eq_true c
      have e : sg t b = 0 - (Int.gcd t b : Int) := by
        unfold sg
        rw [if_pos hneg]
        omega
      rw [e] at hs fin
      exact ⟨_, rfl, _, _, rfl, rfl, _, rfl, _, rfl, _, _, rfl, rfl, hs.1, _, rfl, _, rfl, _, _, rfl, rfl, hs.2, by show 2 ≤ sizeLine; decide, fin⟩
    · have hpos : ¬ b < 0 := of_decide_eq_false (eq_false_of_ne_true c)
      have e : sg t b = (Int.gcd t b : Int) := if_neg hpos
      rw [e] at hs fin
      exact ⟨_, rfl, _, rfl, _, _, rfl, rfl, hs.1, _, rfl, _, rfl, _, _, rfl, rfl, hs.2, by show 2 ≤ sizeLine; decide, fin⟩
theorem sc_l_prime : FnScope ["_law_number_here", "_law_divisor_here"] ["_law_number_here"] (defScope (top 26)) := ⟨rfl, rfl, rfl, by decide +kernel, rfl, by decide +kernel, by decide +kernel⟩
theorem ok_l_prime (D : Df K mg "_law_prime" (top 26) ["_law_number_here"]) (B : Bn mg) : C_l_prime P w K mg base := by
  refine D.ok sc_l_prime (fun vs H Q E h => ?_) (fun f cdv A outer s H vs Q E hr h => ?_)
  · obtain ⟨_, rfl, _⟩ := h
    rfl
  · obtain ⟨n, rfl, hn, k⟩ := h
    refine ⟨_, (pss_cons (ps_if (pt_cmpR op_lt (pv 0) pe_int (nomark _))
        (pss_one (ps_ret pe_bl))
        pss_nil)
      (pss_cons (ps_for PassesOwn.never rfl (pi_range2 rfl B.range_ (pa_cons pe_int (pa_cons pe_int pa_nil))) (pg_name (i := 1) sc_l_prime.nd rfl (Or.inl rfl))
        (pss_cons (ps_if (pt_cmpR op_gt (pe_op op_mul (pv 1) (pv 1)) (pv 0) (nomark _))
          (pss_one (ps_ret pe_bl))
          pss_nil)
        (pss_one (ps_if (pt_cmpR op_eq (pe_op op_mod (pe_callTy call_int1 (by rfl) B.int_ PyProof.Rows.boot_int (pa_cons (pv 0) pa_nil)) (pv 1)) pe_int (nomark _))
          (pss_one (ps_ret pe_bl))
          pss_nil))))
      (pss_one (ps_ret pe_bl)))), ?_⟩
    refine ⟨_, rfl, _, _, rfl, rfl, _, rfl, ite2 (fun c => ?_) (fun c => ?_)⟩
    · have h2 : n < 2 := of_decide_eq_true c
      rw [decide_eq_false (fun hp => by have := hp.1; omega)] at k
      exact k
    · have h2 : ¬ n < 2 := of_decide_eq_false (eq_false_of_ne_true c)
      obtain ⟨x, rfl⟩ : ∃ x : Nat, n = (x : Int) := ⟨n.toNat, by omega⟩
      rw [Int.toNat_natCast] at k
      have kT : Pr x → Q (.bl true) H := fun hp => by
        rw [decide_eq_true hp] at k
        exact k
      have kF : ¬ Pr x → Q (.bl false) H := fun hp => by
        rw [decide_eq_false hp] at k
        exact k
      refine ⟨2, 200, rfl, ⟨by decide, by decide, by decide, by decide⟩, for_range (lo := 2) (n := 198) (fun i σ H' => H' = H ∧ ∃ v : Option V, σ = [some (.int x), v] ∧ ∀ e, 2 ≤ e → e < 2 + i → ¬ e ∣ x) ⟨rfl, none, rfl, fun e h1 h2 => by omega⟩ ?_ ?_⟩
      · rintro i σ H' hi ⟨rfl, v, rfl, hs⟩
        have e1 : ((2 : Int) + (i : Int)) = ((2 + i : Nat) : Int) := by omega
        rw [e1]
        generalize 2 + i = d at *
        have hd2 : 2 ≤ d := by omega
        have hd : d < 200 := by omega
        refine ⟨_, rfl, _, rfl, _, _, rfl, rfl, .inl ⟨by omega, by omega⟩, _, rfl, _, _, rfl, rfl, _, rfl, ite2 (fun c => ?_) (fun c => ?_)⟩
        · have h3 := of_decide_eq_true c
          rw [← Int.natCast_mul] at h3
          exact kT (pr_of_root (by omega) hs (by omega))
        · have h3 : ¬ (x : Int) < (d : Int) * (d : Int) := of_decide_eq_false (eq_false_of_ne_true c)
          rw [← Int.natCast_mul] at h3
          have hdx : 2 * d ≤ x := Nat.le_trans (Nat.mul_le_mul_right d hd2) (by omega)
          refine ⟨_, rfl, .inl ⟨_, rfl, _, rfl, _, _, rfl, rfl, by omega, rfl, _, rfl, ite2 (fun c2 => ?_) (fun c2 => ?_)⟩⟩
          · have h4 := inj_int c2
            exact kF fun hp => hp.2 d hd2 (by omega) (Nat.dvd_of_mod_eq_zero (by omega))
          · have h4 := ninj_int c2
            refine ⟨rfl, _, rfl, fun e h5 h6 h7 => ?_⟩
            by_cases hed : e = d
            · subst hed
              have := Nat.mod_eq_zero_of_dvd h7
              omega
            · exact hs e h5 (by omega) h7
      · rintro σ H' ⟨rfl, v, rfl, hs⟩
        exact kT (pr_of_root (d := 200) (by omega) hs (by omega))
theorem sc_l_next_prime : FnScope ["_law_number_here", "_law_prime_here"] ["_law_number_here"] (defScope (top 27)) := ⟨rfl, rfl, rfl, by decide +kernel, rfl, by decide +kernel, by decide +kernel⟩
theorem ok_l_next_prime (D : Df K mg "_law_next_prime" (top 27) ["_law_number_here"]) (B : Bn mg) (c_l_prime : C_l_prime P w K mg base) : C_l_next_prime P w K mg base := by
  refine D.ok sc_l_next_prime (fun vs H Q E h => ?_) (fun f cdv A outer s H vs Q E hr h => ?_)
  · obtain ⟨_, rfl, _⟩ := h
    rfl
  · obtain ⟨n, rfl, hn2, hn, k⟩ := h
    refine ⟨_, (pss_cons (ps_for PassesOwn.never rfl (pi_range2 rfl B.range_ (pa_cons (pv 0) (pa_cons pe_int pa_nil))) (pg_name (i := 1) sc_l_next_prime.nd rfl (Or.inl rfl))
        (pss_one (ps_if (pt_val (pcl c_l_prime (hr.mono (by decide)) pass0 (pa_cons (pv 1) pa_nil)))
          (pss_one (ps_ret (pv 1)))
          pss_nil)))
      (pss_one (ps_ret pe_int))), ?_⟩
    refine ⟨_, rfl, (n : Int), 20012, rfl, ⟨by omega, by omega, by decide, by decide⟩, for_range (lo := (n : Int)) (n := ((20012 : Int) - (n : Int)).toNat) (fun i σ H' => H' = H ∧ ∃ v : Option V, σ = [some (.int n), v] ∧ ∀ x : Nat, n ≤ x → x < n + i → ¬ (Pr x ∧ x ≤ 19997)) ⟨rfl, none, rfl, fun x h1 h2 => by omega⟩ ?_ ?_⟩
    · rintro i σ H' hi ⟨rfl, v, rfl, hs⟩
      have e1 : ((n : Int) + (i : Int)) = ((n + i : Nat) : Int) := by omega
      rw [e1]
      refine ⟨_, rfl, _, rfl, by omega, _, rfl, ite2 (fun c => ?_) (fun c => ?_)⟩
      · have hp := of_decide_eq_true c
        rw [Int.toNat_natCast] at hp
        refine ⟨_, rfl, k _ hp ?_⟩
        rcases Nat.lt_or_ge 19997 (n + i) with z | z
        · exact absurd ⟨pr19997, Nat.le_refl _⟩ (hs 19997 hn z)
        · exact z
      · have hp := of_decide_eq_false (eq_false_of_ne_true c)
        rw [Int.toNat_natCast] at hp
        refine ⟨rfl, _, rfl, fun x h1 h2 h3 => ?_⟩
        by_cases hx : x = n + i
        · subst hx
          exact hp h3.1
        · exact hs x h1 (by omega) h3
    · rintro σ H' ⟨rfl, v, rfl, hs⟩
      exact absurd ⟨pr19997, Nat.le_refl _⟩ (hs 19997 hn (by omega))
end
end G3
namespace G3
open PySem PySem.Spec PyProof.Rows L2
/-- nothing is wanted of an exception, so none comes -/
theorem passF {X : Cx} : Passes (L2.CX X.prog X.w) X E0 := by
  rintro pins σ H s e s' I ⟨_, _, _, _, _, _, _, _, _, _, _, _, q⟩
  exact q.elim
theorem six : ∀ r : Nat, r < 6 → ∃ p : Nat, [V.int 2, V.int 3, V.int 5, V.int 7, V.int 11, V.int 13][r]? = some (.int p) ∧ Pr p ∧ p ≤ 20000
  | 0, _ => ⟨2, rfl, pr_iff.mp (by decide +kernel), by decide⟩
  | 1, _ => ⟨3, rfl, pr_iff.mp (by decide +kernel), by decide⟩
  | 2, _ => ⟨5, rfl, pr_iff.mp (by decide +kernel), by decide⟩
  | 3, _ => ⟨7, rfl, pr_iff.mp (by decide +kernel), by decide⟩
  | 4, _ => ⟨11, rfl, pr_iff.mp (by decide +kernel), by decide⟩
  | 5, _ => ⟨13, rfl, pr_iff.mp (by decide +kernel), by decide⟩
  | n + 6, h => absurd h (by omega)
theorem inj0 {p : Nat} (h : decide (V.int (p : Int) = V.int 0) = true) : p = 0 := by
  have := inj_int h
  omega
theorem ninj0 {p : Nat} (h : ¬ decide (V.int (p : Int) = V.int 0) = true) : p ≠ 0 := by
  have := ninj_int h
  omega
section
variable {P : Program} {w : World} {K : PySem.W.Frag} {mg : Str → Option Value} {base : Heap}
theorem sc_l_field : FnScope ["_law_hand_here", "_law_pick"] ["_law_hand_here"] (defScope (top 28)) := ⟨rfl, rfl, rfl, by decide +kernel, rfl, by decide +kernel, by decide +kernel⟩
theorem ok_l_field (D : Df K mg "_law_field" (top 28) ["_law_hand_here"]) (B : Bn mg) (c_l_draw : C_l_draw P w K mg base) (c_l_next_prime : C_l_next_prime P w K mg base) : C_l_field P w K mg base := by
  refine D.ok sc_l_field (fun vs H Q E h => ?_) (fun f cdv A outer s H vs Q E hr h => ?_)
  · obtain ⟨_, rfl, _⟩ := h
    rfl
  · obtain ⟨l, rfl, hl, k⟩ := h
    refine ⟨_, (pss_cons (ps_set (i := 1) sc_l_field.nd rfl (Or.inl rfl) (pcl c_l_draw (hr.mono (by decide)) pass0 (pa_cons (pv 0) (pa_cons pe_int pa_nil))))
      (pss_cons (ps_if (pt_cmpR op_lt (pv 1) pe_int (nomark _))
        (pss_one (ps_ret (pe_ix ix_tup (pe_tup (pa_cons pe_int (pa_cons pe_int (pa_cons pe_int (pa_cons pe_int (pa_cons pe_int (pa_cons pe_int pa_nil))))))) (pv 1) (fun _ _ => rfl))))
        pss_nil)
      (pss_cons (ps_if (pt_cmpR op_lt (pv 1) pe_int (nomark _))
        (pss_one (ps_ret (pcl c_l_next_prime (hr.mono (by decide)) pass0 (pa_cons (pe_op op_add pe_int (pcl c_l_draw (hr.mono (by decide)) pass0 (pa_cons (pv 0) (pa_cons pe_int pa_nil)))) pa_nil))))
        pss_nil)
      (pss_one (ps_ret pe_int))))), ?_⟩
    refine ⟨_, rfl, l, 12, rfl, hl, by decide, by decide, fun H1 r b1 h1 hr1 => ?_⟩
    refine ⟨_, rfl, _, _, rfl, rfl, _, rfl, ite2 (fun c => ?_) (fun c => ?_)⟩
    · have h6 : r < 6 := by
        have := of_decide_eq_true c
        omega
      obtain ⟨p, e, hp, hp2⟩ := six r h6
      exact ⟨by show 6 ≤ sizeLine; decide, fun q hq => ⟨_, rfl, _, _, _, _, rfl, rfl, SqT.of upd_same, atI_nat e, k _ p (b1.same (Same.up hq)) (h1.same (Same.up hq)) (.inr ⟨hp, hp2⟩)⟩⟩
    · refine ⟨_, rfl, _, _, rfl, rfl, _, rfl, ite2 (fun c2 => ?_) (fun c2 => ?_)⟩
      · exact ⟨_, rfl, l, 19996, rfl, h1, by decide, by decide, fun H2 r2 b2 h2 hr2 => ⟨_, _, rfl, rfl, 2 + r2, congrArg (fun z => [V.int z]) (by omega), by omega, by omega, fun p hp hp2 => k _ p (b1.trans b2) h2 (.inr ⟨hp, by omega⟩)⟩⟩
      · exact k H1 0 b1 h1 (.inl rfl)
theorem sc_l_made_field : FnScope ["_law_prime_here"] ["_law_prime_here"] (defScope (top 29)) := ⟨rfl, rfl, rfl, by decide +kernel, rfl, by decide +kernel, by decide +kernel⟩
theorem ok_l_made_field (D : Df K mg "_law_made_field" (top 29) ["_law_prime_here"]) (B : Bn mg) (c_FractionField : C_FractionField P w K mg base) (c_RestField : C_RestField P w K mg base) : C_l_made_field P w K mg base := by
  refine D.ok sc_l_made_field (fun vs H Q E h => ?_) (fun f cdv A outer s H vs Q E hr h => ?_)
  · obtain ⟨_, rfl, _⟩ := h
    rfl
  · obtain ⟨p, rfl, hp, k⟩ := h
    refine ⟨_, (pss_cons (ps_if (pt_cmpR op_eq (pv 0) pe_int (nomark _))
        (pss_one (ps_ret (pcc0 (E := E0) c_FractionField (hr.mono (by decide)) pass0)))
        pss_nil)
      (pss_one (ps_ret (pcc (E := E0) c_RestField (hr.mono (by decide)) passF (pa_cons (pv 0) pa_nil))))), ?_⟩
    refine ⟨_, rfl, rfl, _, rfl, ite2 (fun c => ?_) (fun c => ?_)⟩
    · have hp0 := inj0 c
      subst hp0
      exact fun x dx h1 h2 h3 => ⟨x, dx, rfl, upd_same, fun H' hk hf => ⟨rfl, k H' x (fun b o hb => hk b o (ne_of_none hb h1) (by rw [upd_ne (ne_of_none hb h1), upd_ne (ne_of_none hb h2)]; exact hb)) h1 hf⟩⟩
    · have h0 := ninj0 c
      obtain ⟨pr, h2⟩ := hp.resolve_left h0
      refine ⟨_, rfl, fun x dx h1 h2 h3 => ⟨x, dx, .int p, rfl, upd_same, .int _, fun q e hi hq1 hq2 H' hk hx => ⟨rfl, k H' x (fun b o hb => hk b o (ne_of_none hb h1) (by rw [upd_ne (ne_of_none hb h1), upd_ne (ne_of_none hb h2)]; exact hb)) h1 ?_⟩, fun e => ?_⟩⟩
      · obtain rfl : p = q := by
          have := V.int.inj e
          omega
        exact FldR.fld ⟨hq1, hq2, dx, hx⟩
      · have e' : (decide (2 ≤ (p : Int) ∧ (p : Int) ≤ 20000) && decide (Pr (p : Int).toNat)) = false := e
        rw [Int.toNat_natCast, decide_eq_true pr, decide_eq_true (by have := pr.1; omega)] at e'
        cases e'
theorem sc_l_one : FnScope ["_law_prime_here"] ["_law_prime_here"] (defScope (top 30)) := ⟨rfl, rfl, rfl, by decide +kernel, rfl, by decide +kernel, by decide +kernel⟩
theorem ok_l_one (D : Df K mg "_law_one" (top 30) ["_law_prime_here"]) (B : Bn mg) : C_l_one P w K mg base := by
  refine D.ok sc_l_one (fun vs H Q E h => ?_) (fun f cdv A outer s H vs Q E hr h => ?_)
  · obtain ⟨_, rfl, _⟩ := h
    rfl
  · obtain ⟨p, rfl, hp, k⟩ := h
    refine ⟨_, (pss_one (ps_ret (pe_ifExp (pt_cmpR op_eq (pv 0) pe_int (nomark _)) (pe_tup (pa_cons pe_int (pa_cons pe_int pa_nil))) pe_int))), ?_⟩
    refine ⟨_, rfl, rfl, _, rfl, ite2 (fun c => ?_) (fun c => ?_)⟩
    · have hp0 := inj0 c
      subst hp0
      exact ⟨by show 2 ≤ sizeLine; decide, fun q hq => k _ _ (Same.up hq) (NAt.of_fr (x := (1, 1)) upd_same)⟩
    · exact k _ _ (Same.refl _) (NAt.of_r (ninj0 c))
theorem sc_l_minus : FnScope ["_law_prime_here"] ["_law_prime_here"] (defScope (top 31)) := ⟨rfl, rfl, rfl, by decide +kernel, rfl, by decide +kernel, by decide +kernel⟩
theorem ok_l_minus (D : Df K mg "_law_minus" (top 31) ["_law_prime_here"]) (B : Bn mg) : C_l_minus P w K mg base := by
  refine D.ok sc_l_minus (fun vs H Q E h => ?_) (fun f cdv A outer s H vs Q E hr h => ?_)
  · obtain ⟨_, rfl, _⟩ := h
    rfl
  · obtain ⟨p, rfl, hp, k⟩ := h
    refine ⟨_, (pss_one (ps_ret (pe_ifExp (pt_cmpR op_eq (pv 0) pe_int (nomark _)) (pe_tup (pa_cons (pe_op op_sub pe_int pe_int) (pa_cons pe_int pa_nil))) (pe_op op_sub (pv 0) pe_int)))), ?_⟩
    refine ⟨_, rfl, rfl, _, rfl, ite2 (fun c => ?_) (fun c => ?_)⟩
    · have hp0 := inj0 c
      subst hp0
      exact ⟨_, _, rfl, rfl, by show 2 ≤ sizeLine; decide, fun q hq => k _ _ (Same.up hq) (NAt.of_fr (x := (-1, 1)) upd_same)⟩
    · have h0 := ninj0 c
      refine ⟨_, rfl, _, _, rfl, rfl, k _ _ (Same.refl _) ?_⟩
      unfold nMinus
      rw [if_neg h0]
      exact NAt.of_r h0
theorem sc_l_times : FnScope ["_law_prime_here", "_law_a", "_law_b"] ["_law_prime_here", "_law_a", "_law_b"] (defScope (top 32)) := ⟨rfl, rfl, rfl, by decide +kernel, rfl, by decide +kernel, by decide +kernel⟩
theorem ok_l_times (D : Df K mg "_law_times" (top 32) ["_law_prime_here", "_law_a", "_law_b"]) (B : Bn mg) (c_l_lowest : C_l_lowest P w K mg base) : C_l_times P w K mg base := by
  refine D.ok sc_l_times (fun vs H Q E h => ?_) (fun f cdv A outer s H vs Q E hr h => ?_)
  · obtain ⟨_, _, _, _, _, rfl, _⟩ := h
    rfl
  · obtain ⟨p, va, vb, x, y, rfl, hp, hx, hy, nx, ny, sx, sy, k⟩ := h
    refine ⟨_, (pss_cons (ps_if (pt_cmpR op_eq (pv 0) pe_int (nomark _))
        (pss_one (ps_ret (pcl c_l_lowest (hr.mono (by decide)) pass0 (pa_cons (pe_op op_mulW (pe_ix ix_tup (pv 1) pe_int (fun _ _ => rfl)) (pe_ix ix_tup (pv 2) pe_int (fun _ _ => rfl))) (pa_cons (pe_op op_mulW (pe_ix ix_tup (pv 1) pe_int (fun _ _ => rfl)) (pe_ix ix_tup (pv 2) pe_int (fun _ _ => rfl))) pa_nil)))))
        pss_nil)
      (pss_one (ps_ret (pe_op op_mod (pe_callTy call_int1 (by rfl) B.int_ PyProof.Rows.boot_int (pa_cons (pe_op op_mulW (pv 1) (pv 2)) pa_nil)) (pv 0))))), ?_⟩
    refine ⟨_, rfl, rfl, _, rfl, ite2 (fun c => ?_) (fun c => ?_)⟩
    · have hp0 := inj0 c
      subst hp0
      obtain ⟨a, rfl, ha⟩ := hx.fr
      obtain ⟨b, rfl, hb⟩ := hy.fr
      have fx : IsFr x := nx
      have fy : IsFr y := ny
      refine ⟨_, rfl, _, _, _, _, rfl, rfl, SqT.of ha, rfl, _, rfl, _, _, _, _, rfl, rfl, SqT.of hb, rfl, _, _, rfl, rfl, wide_mul sx.1 sy.1 (by decide) (by decide) (by decide), ?_⟩
      refine ⟨_, rfl, _, _, _, _, rfl, rfl, SqT.of ha, rfl, _, rfl, _, _, _, _, rfl, rfl, SqT.of hb, rfl, _, _, rfl, rfl, wide_mul sx.2 sy.2 (by decide) (by decide) (by decide), ?_⟩
      exact ⟨_, _, rfl, by have := Int.mul_pos fx.1 fy.1; omega, small_up 4000 (wide_lt sx.1 sy.1) (by decide), small_up 4000 (wide_lt sx.2 sy.2) (by decide), fun H' q hs hq hv => k _ _ hs (NAt.of_fr hv)⟩
    · have h0 := ninj0 c
      have := hp.two h0
      obtain ⟨rfl, _⟩ := hx.r h0
      obtain ⟨rfl, _⟩ := hy.r h0
      refine ⟨_, rfl, _, rfl, _, _, rfl, rfl, wide_mul sx.1 sy.1 (by decide) (by decide) (by decide), .inl ⟨_, rfl, _, rfl, _, _, rfl, rfl, by omega, k _ _ (Same.refl _) ?_⟩⟩
      unfold nTimes
      rw [if_neg h0]
      exact NAt.of_r h0
theorem sc_l_plus : FnScope ["_law_prime_here", "_law_a", "_law_b"] ["_law_prime_here", "_law_a", "_law_b"] (defScope (top 43)) := ⟨rfl, rfl, rfl, by decide +kernel, rfl, by decide +kernel, by decide +kernel⟩
theorem ok_l_plus (D : Df K mg "_law_plus" (top 43) ["_law_prime_here", "_law_a", "_law_b"]) (B : Bn mg) (c_l_lowest : C_l_lowest P w K mg base) : C_l_plus P w K mg base := by
  refine D.ok sc_l_plus (fun vs H Q E h => ?_) (fun f cdv A outer s H vs Q E hr h => ?_)
  · obtain ⟨_, _, _, _, _, rfl, _⟩ := h
    rfl
  · obtain ⟨p, va, vb, x, y, rfl, hp, hx, hy, nx, ny, sx, sy, k⟩ := h
    refine ⟨_, (pss_cons (ps_if (pt_cmpR op_eq (pv 0) pe_int (nomark _))
        (pss_one (ps_ret (pcl c_l_lowest (hr.mono (by decide)) pass0 (pa_cons (pe_op op_add (pe_op op_mulW (pe_ix ix_tup (pv 1) pe_int (fun _ _ => rfl)) (pe_ix ix_tup (pv 2) pe_int (fun _ _ => rfl))) (pe_op op_mulW (pe_ix ix_tup (pv 2) pe_int (fun _ _ => rfl)) (pe_ix ix_tup (pv 1) pe_int (fun _ _ => rfl)))) (pa_cons (pe_op op_mulW (pe_ix ix_tup (pv 1) pe_int (fun _ _ => rfl)) (pe_ix ix_tup (pv 2) pe_int (fun _ _ => rfl))) pa_nil)))))
        pss_nil)
      (pss_one (ps_ret (pe_op op_mod (pe_callTy call_int1 (by rfl) B.int_ PyProof.Rows.boot_int (pa_cons (pe_op op_add (pv 1) (pv 2)) pa_nil)) (pv 0))))), ?_⟩
    refine ⟨_, rfl, rfl, _, rfl, ite2 (fun c => ?_) (fun c => ?_)⟩
    · have hp0 := inj0 c
      subst hp0
      obtain ⟨a, rfl, ha⟩ := hx.fr
      obtain ⟨b, rfl, hb⟩ := hy.fr
      have fx : IsFr x := nx
      have fy : IsFr y := ny
      refine ⟨_, rfl, _, _, _, _, rfl, rfl, SqT.of ha, rfl, _, rfl, _, _, _, _, rfl, rfl, SqT.of hb, rfl, _, _, rfl, rfl, wide_mul sx.1 sy.2 (by decide) (by decide) (by decide), ?_⟩
      refine ⟨_, rfl, _, _, _, _, rfl, rfl, SqT.of hb, rfl, _, rfl, _, _, _, _, rfl, rfl, SqT.of ha, rfl, _, _, rfl, rfl, wide_mul sy.1 sx.2 (by decide) (by decide) (by decide), _, _, rfl, rfl, ?_⟩
      refine ⟨_, rfl, _, _, _, _, rfl, rfl, SqT.of ha, rfl, _, rfl, _, _, _, _, rfl, rfl, SqT.of hb, rfl, _, _, rfl, rfl, wide_mul sx.2 sy.2 (by decide) (by decide) (by decide), ?_⟩
      exact ⟨_, _, rfl, by have := Int.mul_pos fx.1 fy.1; omega, small_up 4000 (add_small (wide_lt sx.1 sy.2) (wide_lt sy.1 sx.2)) (by decide), small_up 4000 (wide_lt sx.2 sy.2) (by decide), fun H' q hs hq hv => k _ _ hs (NAt.of_fr hv)⟩
    · have h0 := ninj0 c
      have := hp.two h0
      obtain ⟨rfl, _⟩ := hx.r h0
      obtain ⟨rfl, _⟩ := hy.r h0
      refine ⟨_, rfl, _, rfl, _, _, rfl, rfl, .inl ⟨_, rfl, _, rfl, _, _, rfl, rfl, by omega, k _ _ (Same.refl _) ?_⟩⟩
      unfold nPlus
      rw [if_neg h0]
      exact NAt.of_r h0
theorem sc_l_less : FnScope ["_law_prime_here", "_law_a", "_law_b"] ["_law_prime_here", "_law_a", "_law_b"] (defScope (top 44)) := ⟨rfl, rfl, rfl, by decide +kernel, rfl, by decide +kernel, by decide +kernel⟩
theorem ok_l_less (D : Df K mg "_law_less" (top 44) ["_law_prime_here", "_law_a", "_law_b"]) (B : Bn mg) (c_l_lowest : C_l_lowest P w K mg base) : C_l_less P w K mg base := by
  refine D.ok sc_l_less (fun vs H Q E h => ?_) (fun f cdv A outer s H vs Q E hr h => ?_)
  · obtain ⟨_, _, _, _, _, rfl, _⟩ := h
    rfl
  · obtain ⟨p, va, vb, x, y, rfl, hp, hx, hy, nx, ny, sx, sy, k⟩ := h
    refine ⟨_, (pss_cons (ps_if (pt_cmpR op_eq (pv 0) pe_int (nomark _))
        (pss_one (ps_ret (pcl c_l_lowest (hr.mono (by decide)) pass0 (pa_cons (pe_op op_sub (pe_op op_mulW (pe_ix ix_tup (pv 1) pe_int (fun _ _ => rfl)) (pe_ix ix_tup (pv 2) pe_int (fun _ _ => rfl))) (pe_op op_mulW (pe_ix ix_tup (pv 2) pe_int (fun _ _ => rfl)) (pe_ix ix_tup (pv 1) pe_int (fun _ _ => rfl)))) (pa_cons (pe_op op_mulW (pe_ix ix_tup (pv 1) pe_int (fun _ _ => rfl)) (pe_ix ix_tup (pv 2) pe_int (fun _ _ => rfl))) pa_nil)))))
        pss_nil)
      (pss_one (ps_ret (pe_op op_mod (pe_callTy call_int1 (by rfl) B.int_ PyProof.Rows.boot_int (pa_cons (pe_op op_sub (pv 1) (pv 2)) pa_nil)) (pv 0))))), ?_⟩
    refine ⟨_, rfl, rfl, _, rfl, ite2 (fun c => ?_) (fun c => ?_)⟩
    · have hp0 := inj0 c
      subst hp0
      obtain ⟨a, rfl, ha⟩ := hx.fr
      obtain ⟨b, rfl, hb⟩ := hy.fr
      have fx : IsFr x := nx
      have fy : IsFr y := ny
      refine ⟨_, rfl, _, _, _, _, rfl, rfl, SqT.of ha, rfl, _, rfl, _, _, _, _, rfl, rfl, SqT.of hb, rfl, _, _, rfl, rfl, wide_mul sx.1 sy.2 (by decide) (by decide) (by decide), ?_⟩
      refine ⟨_, rfl, _, _, _, _, rfl, rfl, SqT.of hb, rfl, _, rfl, _, _, _, _, rfl, rfl, SqT.of ha, rfl, _, _, rfl, rfl, wide_mul sy.1 sx.2 (by decide) (by decide) (by decide), _, _, rfl, rfl, ?_⟩
      refine ⟨_, rfl, _, _, _, _, rfl, rfl, SqT.of ha, rfl, _, rfl, _, _, _, _, rfl, rfl, SqT.of hb, rfl, _, _, rfl, rfl, wide_mul sx.2 sy.2 (by decide) (by decide) (by decide), ?_⟩
      exact ⟨_, _, rfl, by have := Int.mul_pos fx.1 fy.1; omega, small_up 4000 (sub_small (wide_lt sx.1 sy.2) (wide_lt sy.1 sx.2)) (by decide), small_up 4000 (wide_lt sx.2 sy.2) (by decide), fun H' q hs hq hv => k _ _ hs (NAt.of_fr hv)⟩
    · have h0 := ninj0 c
      have := hp.two h0
      obtain ⟨rfl, _⟩ := hx.r h0
      obtain ⟨rfl, _⟩ := hy.r h0
      refine ⟨_, rfl, _, rfl, _, _, rfl, rfl, .inl ⟨_, rfl, _, rfl, _, _, rfl, rfl, by omega, k _ _ (Same.refl _) ?_⟩⟩
      unfold nLess
      rw [if_neg h0]
      exact NAt.of_r h0
end
end G3
namespace G3
open PySem PySem.Spec PyProof.Rows L2
theorem lt_bits (n : Nat) : n < 2 ^ Builtin.Int.intBits (n : Int) := by
  unfold Builtin.Int.intBits
  by_cases h : n = 0
  · subst h
    decide
  · rw [if_neg (by simpa using h), Int.natAbs_natCast]
    exact Nat.lt_log2_self
theorem nPow_sm {p : Nat} {y : Nb} (hp : Fp p) (sy : Sm 60 y) {t : Nat} (h8 : p = 0 → t ≤ 8) : Sm 1000 (nPow p y t) := by
  unfold nPow
  by_cases h0 : p = 0
  · rw [if_pos h0]
    have := h8 h0
    exact ⟨small_up 1000 (pow_small sy.1 t) (by omega), small_up 1000 (pow_small sy.2 t) (by omega)⟩
  · rw [if_neg h0]
    have h2 := hp.two h0
    have h3 := (hp.resolve_left h0).2
    have hm1 : 0 ≤ y.1 ^ t % (p : Int) := Int.emod_nonneg _ (by omega)
    have hm2 : y.1 ^ t % (p : Int) < p := Int.emod_lt_of_pos _ (by omega)
    constructor
    · exact small_up (n := 60) 1000 (by show (y.1 ^ t % (p : Int)).natAbs < 2 ^ 60; omega) (by decide)
    · exact small_up (n := 60) 1000 (by show (1 : Int).natAbs < 2 ^ 60; decide) (by decide)
theorem nb_sm {p : Nat} {x : Nb} (hp : Fp p) (h0 : p ≠ 0) (nx : IsN p x) {b : Nat} (hb : 15 ≤ b) : Sm b x := by
  have h3 := (hp.resolve_left h0).2
  obtain ⟨n1, n2, n3⟩ := nx.r h0
  constructor
  · exact small_up (n := 15) b (by omega) hb
  · rw [n3]
    exact small_up (n := 15) b (by decide) hb
theorem low_sm {t d : Int} (h : d ≠ 0) {b : Nat} (h1 : t.natAbs < 2 ^ b) (h2 : d.natAbs < 2 ^ b) : Sm b (low t d) := by
  have l := low_le (t := t) h
  exact ⟨Nat.lt_of_le_of_lt l.1 h1, Nat.lt_of_le_of_lt l.2 h2⟩
def pwBase (p : Nat) (x : Nb) (e : Int) : Nb := if e < 0 then (if p = 0 then low x.2 x.1 else nPow p x (p - 2)) else x
theorem raise_base (p : Nat) (x : Nb) (e : Int) : nRaise p x e = nPow p (pwBase p x e) e.natAbs := by
  unfold nRaise pwBase
  split
  · rfl
  · rw [show e.toNat = e.natAbs by omega]
def sp_pwG (neg : Bool) : Sp := fun vs H Q _ => ∃ (p : Nat) (va : V) (x : Nb) (e : Int), vs = [.int p, va, .int e] ∧ Fp p ∧ NAt H p va x ∧ IsN p x ∧ Sm 60 x ∧ e.natAbs < 2 ^ 110 ∧ (p = 0 → e.natAbs ≤ 8) ∧ (e < 0 → neg = true ∧ x.1 ≠ 0) ∧
  ∀ H' v, Same H H' → NAt H' p v (nRaise p x e) → Q v H'
section
variable {P : Program} {w : World} {K : PySem.W.Frag} {mg : Str → Option Value} {base : Heap}
theorem sc_l_power : FnScope ["_law_prime_here", "_law_a", "_law_exponent_here", "_law_base", "_law_left", "_law_out", "_law_step"] ["_law_prime_here", "_law_a", "_law_exponent_here"] (defScope (top 33)) := ⟨rfl, rfl, rfl, by decide +kernel, rfl, by decide +kernel, by decide +kernel⟩
theorem ok_l_powerG {j : Nat} {spR : Sp} (neg : Bool) (hj : 3 ≤ j) (D : Df K mg "_law_power" (top 33) ["_law_prime_here", "_law_a", "_law_exponent_here"]) (B : Bn mg) (c_l_lowest : C_l_lowest P w K mg base) (c_l_one : C_l_one P w K mg base) (c_l_times : C_l_times P w K mg base)
    (c_l_power : Cal P w K mg base CX0 j "_law_power" ["_law_prime_here", "_law_a", "_law_exponent_here"] spR)
    (hR : neg = true → ∀ (p : Nat) (va : V) (x : Nb) (H : Hp) (Q : VK) (E : XK), p ≠ 0 → Fp p → NAt H p va x → IsN p x → Sm 60 x → (∀ H' v, Same H H' → NAt H' p v (nPow p x (p - 2)) → Q v H') → spR [.int p, va, .int ((p : Int) - 2)] H Q E) :
    Cal P w K mg base CX0 (j + 1) "_law_power" ["_law_prime_here", "_law_a", "_law_exponent_here"] (sp_pwG neg) := by
  refine D.ok sc_l_power (fun vs H Q E h => ?_) (fun f cdv A outer s H vs Q E hr h => ?_)
  · obtain ⟨_, _, _, _, rfl, _⟩ := h
    rfl
  · obtain ⟨p, va, x, e, rfl, hp, hx, nx, sx, he, he8, hneg, k⟩ := h
    refine ⟨_, (pss_cons (ps_set (i := 3) sc_l_power.nd rfl (Or.inl rfl) (pv 1))
      (pss_cons (ps_set (i := 4) sc_l_power.nd rfl (Or.inl rfl) (pe_callB call_abs (by rfl) B.abs_ (by decide +kernel) (pa_cons (pv 2) pa_nil)))
      (pss_mid (ps_if (PW.pt (pw_and (pt_cmpR op_eq (pv 0) pe_int (nomark _)) (pw_and1 (pt_cmpR op_lt (pv 2) pe_int (nomark _)))))
        (pss_one (ps_set (i := 3) sc_l_power.nd rfl (Or.inl rfl) (pcl c_l_lowest (hr.mono (by omega)) pass0 (pa_cons (pe_ix ix_tup (pv 1) pe_int (fun _ _ => rfl)) (pa_cons (pe_ix ix_tup (pv 1) pe_int (fun _ _ => rfl)) pa_nil)))))
        pss_nil)
      (pss_mid (ps_if (PW.pt (pw_and (pt_cmpR op_gt (pv 0) pe_int (nomark _)) (pw_and1 (pt_cmpR op_lt (pv 2) pe_int (nomark _)))))
        (pss_one (ps_set (i := 3) sc_l_power.nd rfl (Or.inl rfl) (pcl (E := E0) c_l_power hr pass0 (pa_cons (pv 0) (pa_cons (pv 1) (pa_cons (pe_op op_sub (pv 0) pe_int) pa_nil))))))
        pss_nil)
      (pss_cons (ps_set (i := 5) sc_l_power.nd rfl (Or.inl rfl) (pcl c_l_one (hr.mono (by omega)) pass0 (pa_cons (pv 0) pa_nil)))
      (pss_cons (ps_for PassesOwn.never rfl (pi_range1 rfl B.range_ (pa_cons (pe_bits (pv 4)) pa_nil)) (pg_name (i := 6) sc_l_power.nd rfl (Or.inl rfl))
        (pss_mid (ps_if (pt_cmpR op_eq (pe_op op_mod (pe_callTy call_int1 (by rfl) B.int_ PyProof.Rows.boot_int (pa_cons (pv 4) pa_nil)) pe_int) pe_int (nomark _))
          (pss_one (ps_set (i := 5) sc_l_power.nd rfl (Or.inl rfl) (pcl c_l_times (hr.mono hj) pass0 (pa_cons (pv 0) (pa_cons (pv 5) (pa_cons (pv 3) pa_nil))))))
          pss_nil)
        (pss_cons (ps_set (i := 4) sc_l_power.nd rfl (Or.inl rfl) (pe_op op_fdiv (pv 4) pe_int))
        (pss_one (ps_if (pt_cmpR op_gt (pv 4) pe_int (nomark _))
          (pss_one (ps_set (i := 3) sc_l_power.nd rfl (Or.inl rfl) (pcl c_l_times (hr.mono hj) pass0 (pa_cons (pv 0) (pa_cons (pv 3) (pa_cons (pv 3) pa_nil))))))
          pss_nil)))))
      (pss_one (ps_ret (pv 5))))))))), ?_⟩
    refine ⟨_, rfl, _, rfl, _, rfl, ?_⟩
    rw [absI]
    refine ⟨fun σ' H' => Same H H' ∧ ∃ vb : V, σ' = [some (.int p), some va, some (.int e), some vb, some (.int (e.natAbs : Nat)), none, none] ∧ NAt H' p vb (if e < 0 ∧ p = 0 then low x.2 x.1 else x), ?_, ?_⟩
    · refine ⟨_, rfl, rfl, _, rfl, ite2 (fun c => ?_) (fun c => iteF ⟨Same.refl _, _, rfl, ?_⟩)⟩
      · have hp0 := inj0 c
        subst hp0
        refine ⟨_, rfl, _, _, rfl, rfl, _, rfl, ite2 (fun c2 => ?_) (fun c2 => ⟨Same.refl _, _, rfl, ?_⟩)⟩
        · have hn : e < 0 := of_decide_eq_true c2
          obtain ⟨a, rfl, ha⟩ := hx.fr
          exact ⟨_, rfl, _, _, _, _, rfl, rfl, SqT.of ha, rfl, _, rfl, _, _, _, _, rfl, rfl, SqT.of ha, rfl, _, _, rfl, (hneg hn).2, small_up 4000 sx.2 (by decide), small_up 4000 sx.1 (by decide), fun H' q hs hq hv => ⟨hs, _, rfl, by rw [if_pos ⟨hn, rfl⟩]; exact NAt.of_fr hv⟩⟩
        · have hn : ¬ e < 0 := of_decide_eq_false (eq_false_of_ne_true c2)
          rw [if_neg (fun z => hn z.1)]
          exact hx
      · rw [if_neg (fun z => ninj0 c z.2)]
        exact hx
    · rintro σ1 H1 ⟨s1, vb1, rfl, hb1⟩
      refine ⟨fun σ' H' => Same H H' ∧ ∃ vb : V, σ' = [some (.int p), some va, some (.int e), some vb, some (.int (e.natAbs : Nat)), none, none] ∧ NAt H' p vb (pwBase p x e), ?_, ?_⟩
      · refine ⟨_, rfl, _, _, rfl, rfl, _, rfl, ite2 (fun c => ?_) (fun c => iteF ⟨s1, _, rfl, ?_⟩)⟩
        · have h0 : p ≠ 0 := by
            have := of_decide_eq_true c
            omega
          rw [if_neg (fun z => h0 z.2)] at hb1
          refine ⟨_, rfl, _, _, rfl, rfl, _, rfl, ite2 (fun c2 => ?_) (fun c2 => ⟨s1, _, rfl, ?_⟩)⟩
          · have hn : e < 0 := of_decide_eq_true c2
            refine ⟨_, rfl, _, rfl, _, rfl, _, _, rfl, rfl, hR (hneg hn).1 p va x H1 _ _ h0 hp (hx.same s1) nx sx fun H' v hs hv => ⟨s1.trans hs, _, rfl, ?_⟩⟩
            unfold pwBase
            rw [if_pos hn, if_neg h0]
            exact hv
          · have hn : ¬ e < 0 := of_decide_eq_false (eq_false_of_ne_true c2)
            unfold pwBase
            rw [if_neg hn]
            exact hb1
        · have h0 : p = 0 := by
            have := of_decide_eq_false (eq_false_of_ne_true c)
            omega
          subst h0
          unfold pwBase
          by_cases hn : e < 0
          · rw [if_pos ⟨hn, rfl⟩] at hb1
            rw [if_pos hn, if_pos rfl]
            exact hb1
          · rw [if_neg (fun z => hn z.1)] at hb1
            rw [if_neg hn]
            exact hb1
      · rintro σ2 H2 ⟨s2, vb2, rfl, hb2⟩
        have ny : IsN p (pwBase p x e) := by
          unfold pwBase
          by_cases hn : e < 0
          · rw [if_pos hn]
            by_cases h0 : p = 0
            · subst h0
              rw [if_pos rfl]
              exact low_fr (hneg hn).2
            · rw [if_neg h0]
              exact isN_pow hp nx _
          · rw [if_neg hn]
            exact nx
        have sy : Sm 60 (pwBase p x e) := by
          by_cases h0 : p = 0
          · subst h0
            unfold pwBase
            by_cases hn : e < 0
            · rw [if_pos hn, if_pos rfl]
              exact low_sm (hneg hn).2 sx.2 sx.1
            · rw [if_neg hn]
              exact sx
          · exact nb_sm hp h0 ny (by decide)
        rw [raise_base] at k
        generalize pwBase p x e = y at *
        generalize e.natAbs = n at *
        refine ⟨_, rfl, p, rfl, hp, fun H3 vo s3 ho => ?_⟩
        rw [← nPow_zero (x := y) hp] at ho
        have hbit : Builtin.Int.intBits (n : Int) ≤ 110 := PyProof.Rows.intBits_le (by rw [Int.natAbs_natCast]; exact he)
        have hlt := lt_bits n
        refine ⟨_, rfl, _, rfl, (Builtin.Int.intBits (n : Int) : Nat), rfl, by omega, by omega, ?_⟩
        generalize Builtin.Int.intBits (n : Int) = nb at *
        refine for_range (lo := 0) (n := nb) (fun i σ H' => Same H H' ∧ ∃ (L t g : Nat) (vb vo : V) (v : Option V), σ = [some (.int p), some va, some (.int e), some vb, some (.int L), some vo, v] ∧ NAt H' p vb (nPow p y g) ∧ NAt H' p vo (nPow p y t) ∧ t + g * L = n ∧ L < 2 ^ (nb - i))
          ⟨s2.trans s3, n, 0, 1, vb2, vo, none, rfl, by rw [nPow_one ny]; exact hb2.same s3, ho, by omega, hlt⟩ ?_ ?_
        · rintro i σ H4 hi ⟨s4, L, t, g, vb, vo, v, rfl, hb, ho, e1, hL⟩
          have ht8 : p = 0 → t ≤ 8 := fun z => by
            have := he8 z
            omega
          refine ⟨fun σ' H' => Same H H' ∧ ∃ (t2 : Nat) (vo2 v2 : V), σ' = [some (.int p), some va, some (.int e), some vb, some (.int L), some vo2, some v2] ∧ NAt H' p vb (nPow p y g) ∧ NAt H' p vo2 (nPow p y t2) ∧ t2 + 2 * g * (L / 2) = n, ?_, ?_⟩
          · refine ⟨_, rfl, .inl ⟨_, rfl, _, _, rfl, rfl, (by show (0 : Int) < 2; decide), rfl, _, rfl, ite2 (fun c => ?_) (fun c => ?_)⟩⟩
            · have hodd := inj_int c
              have hd : L = 2 * (L / 2) + 1 := by omega
              have hq : g * L = 2 * g * (L / 2) + g := by
                conv => lhs; rw [hd, Nat.mul_add, ← Nat.mul_assoc, Nat.mul_one, Nat.mul_comm g 2]
              have hg8 : p = 0 → g ≤ 8 := fun z => by
                have := he8 z
                omega
              refine ⟨_, rfl, _, rfl, _, rfl, p, vo, vb, _, _, rfl, hp, ho, hb, isN_pow hp ny t, isN_pow hp ny g, nPow_sm hp sy ht8, nPow_sm hp sy hg8, fun H5 v5 s5 h5 => ?_⟩
              rw [nPow_mul ny] at h5
              exact ⟨s4.trans s5, t + g, v5, _, rfl, hb.same s5, h5, by omega⟩
            · have heven := ninj_int c
              have hd : L = 2 * (L / 2) := by omega
              have hq : g * L = 2 * g * (L / 2) := by
                conv => lhs; rw [hd, ← Nat.mul_assoc, Nat.mul_comm g 2]
              exact ⟨s4, t, vo, _, rfl, hb, ho, by omega⟩
          · rintro σ5 H5 ⟨s5, t2, vo2, v2, rfl, hb5, ho5, e5⟩
            have hL2 : L / 2 < 2 ^ (nb - (i + 1)) := by
              have z : 2 ^ (nb - i) = 2 ^ (nb - (i + 1)) * 2 := by rw [← Nat.pow_succ]; congr 1; omega
              omega
            refine ⟨_, rfl, _, _, rfl, rfl, ⟨by decide, by decide⟩, _, rfl, _, _, rfl, rfl, _, rfl, ite2 (fun c => ?_) (fun c => ?_)⟩
            · have h1 : 1 ≤ L / 2 := by
                have := of_decide_eq_true c
                omega
              have hg8 : p = 0 → g ≤ 8 := fun z => by
                have := he8 z
                have := Nat.mul_le_mul_left (2 * g) h1
                omega
              refine ⟨_, rfl, _, rfl, _, rfl, p, vb, vb, _, _, rfl, hp, hb5, hb5, isN_pow hp ny g, isN_pow hp ny g, nPow_sm hp sy hg8, nPow_sm hp sy hg8, fun H6 v6 s6 h6 => ?_⟩
              rw [nPow_mul ny] at h6
              exact ⟨s5.trans s6, L / 2, t2, g + g, v6, vo2, _, rfl, h6, ho5.same s6, by rw [← Nat.two_mul]; exact e5, hL2⟩
            · have h1 : L / 2 = 0 := by
                have := of_decide_eq_false (eq_false_of_ne_true c)
                omega
              refine ⟨s5, L / 2, t2, g, vb, vo2, _, rfl, hb5, ho5, ?_, hL2⟩
              rw [h1] at e5 ⊢
              exact e5
        · rintro σ H4 ⟨s4, L, t, g, vb, vo, v, rfl, hb, ho, e1, hL⟩
          rw [Nat.sub_self] at hL
          have hL0 : L = 0 := by omega
          subst hL0
          have ht : t = n := by omega
          subst ht
          exact ⟨_, rfl, k _ _ s4 ho⟩
theorem ok_l_power0 (D : Df K mg "_law_power" (top 33) ["_law_prime_here", "_law_a", "_law_exponent_here"]) (B : Bn mg) (c_l_lowest : C_l_lowest P w K mg base) (c_l_one : C_l_one P w K mg base) (c_l_times : C_l_times P w K mg base) : C_l_power0 P w K mg base := by
  have c0 : Cal P w K mg base CX0 3 "_law_power" ["_law_prime_here", "_law_a", "_law_exponent_here"] (fun _ _ _ _ => False) := D.ok (k := 2) sc_l_power (fun vs H Q E h => h.elim) (fun f cdv A outer s H vs Q E hr h => h.elim)
  obtain ⟨f, fd, F, g, kp, b⟩ := ok_l_powerG false (by decide) D B c_l_lowest c_l_one c_l_times c0 (fun z => nomatch z)
  refine ⟨f, fd, F.imp (fun vs H Q E h => ?_), g, kp, b⟩
  obtain ⟨p, va, x, e, rfl, hp, hx, nx, sx, he, he8, k⟩ := h
  exact ⟨p, va, x, e, rfl, hp, hx, nx, sx, by rw [Int.natAbs_natCast]; exact he, by rw [Int.natAbs_natCast]; exact he8, fun z => absurd z (by omega), fun H' v hs hv => k H' v hs (by unfold nRaise at hv; rw [if_neg (by omega), Int.toNat_natCast] at hv; exact hv)⟩
theorem ok_l_power (D : Df K mg "_law_power" (top 33) ["_law_prime_here", "_law_a", "_law_exponent_here"]) (B : Bn mg) (c_l_lowest : C_l_lowest P w K mg base) (c_l_one : C_l_one P w K mg base) (c_l_times : C_l_times P w K mg base) (c0 : C_l_power0 P w K mg base) : C_l_power P w K mg base := by
  obtain ⟨f, fd, F, g, kp, b⟩ := ok_l_powerG true (by decide) D B c_l_lowest c_l_one c_l_times c0 (fun _ p va x H Q E h0 hp hx nx sx k => by
    have h2 := hp.two h0
    have h3 := (hp.resolve_left h0).2
    exact ⟨p, va, x, p - 2, congrArg (fun z => [V.int p, va, V.int z]) (by omega), hp, hx, nx, sx, by omega, fun z => absurd z h0, k⟩)
  refine ⟨f, fd, F.imp (fun vs H Q E h => ?_), g, kp, b⟩
  obtain ⟨p, va, x, e, rfl, hp, hx, nx, hz, sx, he, he8, k⟩ := h
  exact ⟨p, va, x, e, rfl, hp, hx, nx, sx, he, he8, fun _ => ⟨rfl, hz⟩, k⟩
end
end G3
namespace G3
open PySem PySem.Spec PyProof.Rows L2
/-! ### numbers as data -/
def nd (p : Nat) (x : Nb) : PyData := if p = 0 then .tuple [.int x.1, .int x.2] else .int x.1
theorem sh_int (i : Int) : SeqAt.shaped (.int i) = true := by simp [SeqAt.shaped, PyData.canLay0, PyData.depth]
theorem sh_pair (i j : Int) : SeqAt.shaped (.tuple [.int i, .int j]) = true := by simp [SeqAt.shaped, PyData.canLay0, PyData.canLayAll0, PyData.depth, PyData.depthAll]
theorem sh_nd (p : Nat) (x : Nb) : SeqAt.shaped (nd p x) = true := by
  unfold nd
  split
  · exact sh_pair _ _
  · exact sh_int _
theorem dp_nd {K : PySem.W.Frag} {H : Hp} {p : Nat} {v : V} {x : Nb} (h : NAt H p v x) : Dp K H v (nd p x) := by
  unfold nd
  unfold NAt at h
  split
  · rename_i z
    rw [if_pos z] at h
    obtain ⟨a, rfl, ha⟩ := h
    exact .tup (SqT.of ha) (.cons (.int _) (.cons (.int _) .nil))
  · rename_i z
    rw [if_neg z] at h
    obtain ⟨rfl, _⟩ := h
    exact .int _
theorem eqv_same {d : PyData} (h : SeqAt.shaped d = true) : PyData.eqv d d = true := SeqAt.eqv_refl d (SeqAt.canLay_of_shaped h)
theorem eqv_pair (a b c d : Int) : PyData.eqv (.tuple [.int a, .int b]) (.tuple [.int c, .int d]) = (a == c && b == d) := by
  rw [PyData.eqv, PyData.eqvAll, PyData.eqvAll, PyData.eqvAll, PyData.eqv, PyData.eqv, Bool.and_true]
/-- two numbers are the same thing exactly if they are the same number -/
theorem eqv_nd {p : Nat} {x y : Nb} (hp : Fp p) (nx : IsN p x) (ny : IsN p y) : PyData.eqv (nd p x) (nd p y) = decide (x = y) := by
  unfold nd
  by_cases h0 : p = 0
  · rw [if_pos h0, if_pos h0, eqv_pair]
    rw [Bool.eq_iff_iff]
    simp only [Bool.and_eq_true, beq_iff_eq, decide_eq_true_eq]
    exact ⟨fun z => Prod.ext z.1 z.2, fun z => z ▸ ⟨rfl, rfl⟩⟩
  · rw [if_neg h0, if_neg h0, PyData.eqv, Bool.eq_iff_iff]
    simp only [beq_iff_eq, decide_eq_true_eq]
    exact ⟨fun z => Prod.ext z ((nx.r h0).2.2.trans (ny.r h0).2.2.symm), fun z => z ▸ rfl⟩
theorem nd_zero (p : Nat) : nd p (0, 1) = zd p := rfl
/-- a number is zero exactly if its top is -/
theorem zero_iff {p : Nat} {x : Nb} (hp : Fp p) (nx : IsN p x) : x = (0, 1) ↔ x.1 = 0 := by
  refine ⟨fun z => by rw [z], fun z => Prod.ext z ?_⟩
  by_cases h0 : p = 0
  · subst h0
    exact fr_zero nx z
  · exact (nx.r h0).2.2
theorem low_ne {t d : Int} (h : d ≠ 0) (ht : t ≠ 0) : (low t d).1 ≠ 0 := fun z => ht (by rw [(low_mul (t := t) h).1, z, Int.mul_zero])
theorem isW_int (i : Int) : isW (.int i) .non .non = true := rfl
section
variable {P : Program} {w : World} {K : PySem.W.Frag} {mg : Str → Option Value} {base : Heap}
theorem sc_l_number : FnScope ["_law_hand_here", "_law_prime_here", "_law_pick", "_law_top", "_law_bottom"] ["_law_hand_here", "_law_prime_here"] (defScope (top 34)) := ⟨rfl, rfl, rfl, by decide +kernel, rfl, by decide +kernel, by decide +kernel⟩
theorem ok_l_number (D : Df K mg "_law_number" (top 34) ["_law_hand_here", "_law_prime_here"]) (B : Bn mg) (c_l_draw : C_l_draw P w K mg base) (c_l_one : C_l_one P w K mg base) (c_l_minus : C_l_minus P w K mg base) (c_l_lowest : C_l_lowest P w K mg base) : C_l_number P w K mg base := by
  refine D.ok sc_l_number (fun vs H Q E h => ?_) (fun f cdv A outer s H vs Q E hr h => ?_)
  · obtain ⟨_, _, rfl, _⟩ := h
    rfl
  · obtain ⟨l, p, rfl, hl, hp, k⟩ := h
    refine ⟨_, (pss_cons (ps_set (i := 2) sc_l_number.nd rfl (Or.inl rfl) (pcl c_l_draw (hr.mono (by decide)) pass0 (pa_cons (pv 0) (pa_cons pe_int pa_nil))))
      (pss_cons (ps_if (pt_cmpR op_eq (pv 2) pe_int (nomark _))
        (pss_one (ps_ret (pcl c_l_one (hr.mono (by decide)) pass0 (pa_cons (pv 1) pa_nil))))
        pss_nil)
      (pss_cons (ps_if (pt_cmpR op_eq (pv 2) pe_int (nomark _))
        (pss_one (ps_ret (pcl c_l_minus (hr.mono (by decide)) pass0 (pa_cons (pv 1) pa_nil))))
        pss_nil)
      (pss_cons (ps_if (pt_cmpR op_gt (pv 1) pe_int (nomark _))
        (pss_one (ps_ret (pe_op op_add pe_int (pcl c_l_draw (hr.mono (by decide)) pass0 (pa_cons (pv 0) (pa_cons (pe_op op_sub (pv 1) pe_int) pa_nil))))))
        pss_nil)
      (pss_cons (ps_set (i := 3) sc_l_number.nd rfl (Or.inl rfl) (pe_op op_add pe_int (pcl c_l_draw (hr.mono (by decide)) pass0 (pa_cons (pv 0) (pa_cons pe_int pa_nil)))))
      (pss_cons (ps_set (i := 4) sc_l_number.nd rfl (Or.inl rfl) (pe_op op_add pe_int (pcl c_l_draw (hr.mono (by decide)) pass0 (pa_cons (pv 0) (pa_cons pe_int pa_nil)))))
      (pss_cons (ps_if (pt_cmpR op_eq (pcl c_l_draw (hr.mono (by decide)) pass0 (pa_cons (pv 0) (pa_cons pe_int pa_nil))) pe_int (nomark _))
        (pss_one (ps_set (i := 3) sc_l_number.nd rfl (Or.inl rfl) (pe_op op_sub pe_int (pv 3))))
        pss_nil)
      (pss_one (ps_ret (pcl c_l_lowest (hr.mono (by decide)) pass0 (pa_cons (pv 3) (pa_cons (pv 4) pa_nil)))))))))))), ?_⟩
    refine ⟨_, rfl, l, 8, rfl, hl, by decide, by decide, fun H1 r b1 h1 hr1 => ?_⟩
    refine ⟨_, rfl, rfl, _, rfl, ite2 (fun c => ?_) (fun c => ?_)⟩
    · exact ⟨_, rfl, p, rfl, hp, fun H' v hs hv => k H' v _ (b1.same hs) (h1.same hs) hv (isN_one hp) (show (1 : Int) ≠ 0 by decide) ⟨show (1 : Int).natAbs < 2 ^ 31 by decide, show (1 : Int).natAbs < 2 ^ 31 by decide⟩⟩
    refine ⟨_, rfl, rfl, _, rfl, ite2 (fun c2 => ?_) (fun c2 => ?_)⟩
    · refine ⟨_, rfl, p, rfl, hp, fun H' v hs hv => k H' v _ (b1.same hs) (h1.same hs) hv (isN_minus hp) ?_ ?_⟩
      · unfold nMinus
        split
        · decide
        · rename_i z
          have := hp.two z
          show (p : Int) - 1 ≠ 0
          omega
      · by_cases h0 : p = 0
        · subst h0
          exact ⟨by decide, by decide⟩
        · exact nb_sm hp h0 (isN_minus hp) (by decide)
    refine ⟨_, rfl, _, _, rfl, rfl, _, rfl, ite2 (fun c3 => ?_) (fun c3 => ?_)⟩
    · have h0 : p ≠ 0 := by
        have := of_decide_eq_true c3
        omega
      have h2 := hp.two h0
      have h3 := (hp.resolve_left h0).2
      refine ⟨_, rfl, _, rfl, _, _, rfl, rfl, l, p - 1, congrArg (fun z => [V.ref l, V.int z]) (by omega), h1, by omega, by omega, fun H2 r2 b2 h2' hr2 => ⟨_, _, rfl, rfl, ?_⟩⟩
      have nx : IsN p (1 + (r2 : Int), 1) := by
        unfold IsN
        rw [if_neg h0]
        exact ⟨by omega, by omega, rfl⟩
      exact k H2 _ _ (b1.trans b2) h2' (NAt.of_r h0) nx (by show (1 + (r2 : Int)) ≠ 0; omega) (nb_sm hp h0 nx (by decide))
    · have h0 : p = 0 := by
        have := of_decide_eq_false (eq_false_of_ne_true c3)
        omega
      subst h0
      refine ⟨_, rfl, l, 12, rfl, h1, by decide, by decide, fun H2 r2 b2 h2 hr2 => ⟨_, _, rfl, rfl, ?_⟩⟩
      refine ⟨_, rfl, l, 12, rfl, h2, by decide, by decide, fun H3 r3 b3 h3 hr3 => ⟨_, _, rfl, rfl, ?_⟩⟩
      refine ⟨_, rfl, l, 3, rfl, h3, by decide, by decide, fun H4 r4 b4 h4 hr4 => ⟨rfl, _, rfl, ite2 (fun c4 => ?_) (fun c4 => ?_)⟩⟩
      · refine ⟨_, rfl, _, _, rfl, rfl, ?_⟩
        refine ⟨_, rfl, _, rfl, _, _, rfl, by omega, small_up (n := 31) 4000 (by omega) (by decide), small_up (n := 31) 4000 (by omega) (by decide), fun H' q hs hq hv => ?_⟩
        exact k H' _ _ (((b1.trans b2).trans (b3.trans b4)).same hs) (h4.same hs) (NAt.of_fr hv) (low_fr (by omega)) (low_ne (by omega) (by omega)) (low_sm (by omega) (by omega) (by omega))
      · refine ⟨_, rfl, _, rfl, _, _, rfl, by omega, small_up (n := 31) 4000 (by omega) (by decide), small_up (n := 31) 4000 (by omega) (by decide), fun H' q hs hq hv => ?_⟩
        exact k H' _ _ (((b1.trans b2).trans (b3.trans b4)).same hs) (h4.same hs) (NAt.of_fr hv) (low_fr (by omega)) (low_ne (by omega) (by omega)) (low_sm (by omega) (by omega) (by omega))
theorem sc_l_is_number : FnScope ["_law_prime_here", "_law_thing"] ["_law_prime_here", "_law_thing"] (defScope (top 35)) := ⟨rfl, rfl, rfl, by decide +kernel, rfl, by decide +kernel, by decide +kernel⟩
theorem ok_l_is_number (D : Df K mg "_law_is_number" (top 35) ["_law_prime_here", "_law_thing"]) (B : Bn mg) (c_l_whole : C_l_whole P w K mg base) (c_l_divisor : C_l_divisor P w K mg base) : C_l_is_number P w K mg base := by
  refine D.ok sc_l_is_number (fun vs H Q E h => ?_) (fun f cdv A outer s H vs Q E hr h => ?_)
  · obtain ⟨_, _, _, rfl, _⟩ := h
    rfl
  · obtain ⟨p, v, x, rfl, hp, hx, nx, sx, k⟩ := h
    refine ⟨_, (pss_cons (ps_if (pt_cmpR op_gt (pv 0) pe_int (nomark _))
        (pss_one (ps_ret (pe_and (pcl c_l_whole (hr.mono (by decide)) pass0 (pa_cons (pv 1) pa_nil)) (pe_one (pe_chain op_le op_lt pe_int (pv 1) (pv 0))))))
        pss_nil)
      (pss_cons (ps_if (PW.pt (pw_or (pt_not (pt_val (pe_callB call_isi (by rfl) B.isi boot_isinstance (pa_cons (pv 1) (pa_cons (pe_bltn (v := .ty "tuple") (by rfl) B.tuple_ PyProof.Rows.boot_tuple rfl) pa_nil))))) (pw_or (pt_cmpR op_ne (pe_callB call_len_seq (by rfl) B.len_ PySem.boot_len (pa_cons (pv 1) pa_nil)) pe_int (nomark _)) (pw_or (pt_not (pt_val (pcl c_l_whole (hr.mono (by decide)) pass0 (pa_cons (pe_ix ix_tup (pv 1) pe_int (fun _ _ => rfl)) pa_nil)))) (pw_or1 (pt_not (pt_val (pcl c_l_whole (hr.mono (by decide)) pass0 (pa_cons (pe_ix ix_tup (pv 1) pe_int (fun _ _ => rfl)) pa_nil)))))))))
        (pss_one (ps_ret pe_bl))
        pss_nil)
      (pss_one (ps_ret (pe_and (pe_cmpR op_gt (pe_ix ix_tup (pv 1) pe_int (fun _ _ => rfl)) pe_int (nomark _)) (pe_one (pe_cmpR op_eq (pcl c_l_divisor (hr.mono (by decide)) pass0 (pa_cons (pe_ix ix_tup (pv 1) pe_int (fun _ _ => rfl)) (pa_cons (pe_ix ix_tup (pv 1) pe_int (fun _ _ => rfl)) pa_nil))) pe_int (nomark _)))))))), ?_⟩
    refine ⟨_, rfl, _, _, rfl, rfl, _, rfl, ite2 (fun c => ?_) (fun c => ?_)⟩
    · have h0 : p ≠ 0 := by
        have := of_decide_eq_true c
        omega
      obtain ⟨rfl, _⟩ := hx.r h0
      obtain ⟨n1, n2, n3⟩ := nx.r h0
      refine ⟨_, rfl, _, rfl, .int _, true, rfl, iteT ⟨_, rfl, _, _, rfl, rfl, _, rfl, ite2 (fun c2 => ?_) (fun c2 => absurd (decide_eq_true n1) c2)⟩⟩
      refine ⟨_, rfl, _, _, rfl, rfl, ?_⟩
      show Q (.bl (decide (x.1 < (p : Int)))) H
      rw [decide_eq_true n2]
      exact k
    · have h0 : p = 0 := by
        have := of_decide_eq_false (eq_false_of_ne_true c)
        omega
      subst h0
      obtain ⟨a, rfl, ha⟩ := hx.fr
      have hfr : IsFr x := nx
      refine ⟨_, rfl, _, _, _, _, _, rfl, .ty "tuple", .base (.tup ha), kit_ty k_tuple_tuple, _, rfl, iteF ?_⟩
      refine ⟨_, rfl, a, _, rfl, .inr (SqT.of ha), rfl, _, rfl, iteF ?_⟩
      refine ⟨_, rfl, _, _, _, _, rfl, rfl, SqT.of ha, rfl, _, rfl, .int _, _, rfl, iteF ?_⟩
      refine ⟨_, rfl, _, _, _, _, rfl, rfl, SqT.of ha, rfl, _, rfl, .int _, _, rfl, iteF ?_⟩
      refine ⟨_, rfl, _, _, _, _, rfl, rfl, SqT.of ha, rfl, _, _, rfl, rfl, true, ?_, iteT ?_⟩
      · show V.bl (decide (0 < x.2)) = V.bl true
        rw [decide_eq_true hfr.1]
      refine ⟨_, rfl, _, _, _, _, rfl, rfl, SqT.of ha, rfl, _, rfl, _, _, _, _, rfl, rfl, SqT.of ha, rfl, x.1, x.2, rfl, small_up 4400 sx.2 (by decide), rfl, ?_⟩
      show Q (.bl (decide (V.int ((Int.gcd x.1 x.2 : Nat) : Int) = V.int 1))) H
      rw [hfr.2]
      exact k
theorem sc_l_same : FnScope ["_law_prime_here", "_law_thing", "_law_due"] ["_law_prime_here", "_law_thing", "_law_due"] (defScope (top 36)) := ⟨rfl, rfl, rfl, by decide +kernel, rfl, by decide +kernel, by decide +kernel⟩
theorem ok_l_same (D : Df K mg "_law_same" (top 36) ["_law_prime_here", "_law_thing", "_law_due"]) (B : Bn mg) (c_l_is_number : C_l_is_number P w K mg base) : C_l_same P w K mg base := by
  refine D.ok sc_l_same (fun vs H Q E h => ?_) (fun f cdv A outer s H vs Q E hr h => ?_)
  · obtain ⟨_, _, _, _, rfl, _⟩ := h
    rfl
  · obtain ⟨p, v, u, x, rfl, hp, hv, hu, nx, sx, k⟩ := h
    refine ⟨_, (pss_one (ps_ret (pe_and (pcl c_l_is_number (hr.mono (by decide)) pass0 (pa_cons (pv 0) (pa_cons (pv 1) pa_nil))) (pe_one (pe_cmpR (op_eqD hr.units) (pv 1) (pv 2) (nomark _)))))), ?_⟩
    refine ⟨_, rfl, _, rfl, p, v, x, rfl, hp, hv, nx, sx, true, rfl, iteT ⟨_, rfl, _, rfl, nd p x, nd p x, dp_nd hv, dp_nd hu, sh_nd _ _, sh_nd _ _, ?_⟩⟩
    rw [eqv_same (sh_nd _ _)]
    exact k
theorem sc_l_any_number : FnScope ["_law_hand_here", "_law_prime_here"] ["_law_hand_here", "_law_prime_here"] (defScope (top 45)) := ⟨rfl, rfl, rfl, by decide +kernel, rfl, by decide +kernel, by decide +kernel⟩
theorem ok_l_any_number (D : Df K mg "_law_any_number" (top 45) ["_law_hand_here", "_law_prime_here"]) (B : Bn mg) (c_l_draw : C_l_draw P w K mg base) (c_l_number : C_l_number P w K mg base) (c_l_lowest : C_l_lowest P w K mg base) : C_l_any_number P w K mg base := by
  refine D.ok sc_l_any_number (fun vs H Q E h => ?_) (fun f cdv A outer s H vs Q E hr h => ?_)
  · obtain ⟨_, _, rfl, _⟩ := h
    rfl
  · obtain ⟨l, p, rfl, hl, hp, k⟩ := h
    refine ⟨_, (pss_cons (ps_if (pt_cmpR op_eq (pcl c_l_draw (hr.mono (by decide)) pass0 (pa_cons (pv 0) (pa_cons pe_int pa_nil))) pe_int (nomark _))
        (pss_one (ps_ret (pe_ifExp (pt_cmpR op_eq (pv 1) pe_int (nomark _)) (pe_tup (pa_cons pe_int (pa_cons pe_int pa_nil))) pe_int)))
        pss_nil)
      (pss_cons (ps_if (PW.pt (pw_or (pt_cmpR op_gt (pv 1) pe_int (nomark _)) (pw_or1 (pt_cmpR op_eq (pcl c_l_draw (hr.mono (by decide)) pass0 (pa_cons (pv 0) (pa_cons pe_int pa_nil))) pe_int (nomark _)))))
        (pss_one (ps_ret (pcl c_l_number (hr.mono (by decide)) pass0 (pa_cons (pv 0) (pa_cons (pv 1) pa_nil)))))
        pss_nil)
      (pss_one (ps_ret (pcl c_l_lowest (hr.mono (by decide)) pass0 (pa_cons (pe_op op_sub (pcl c_l_draw (hr.mono (by decide)) pass0 (pa_cons (pv 0) (pa_cons (pe_op op_add (pe_op op_mul pe_int (pe_op op_pow pe_int pe_int)) pe_int) pa_nil))) (pe_op op_pow pe_int pe_int)) (pa_cons (pe_op op_add pe_int (pcl c_l_draw (hr.mono (by decide)) pass0 (pa_cons (pv 0) (pa_cons (pe_op op_pow pe_int pe_int) pa_nil)))) pa_nil))))))), ?_⟩
    refine ⟨_, rfl, l, 8, rfl, hl, by decide, by decide, fun H1 r b1 h1 hr1 => ⟨rfl, _, rfl, ite2 (fun c => ?_) (fun c => ?_)⟩⟩
    · refine ⟨_, rfl, rfl, _, rfl, ite2 (fun c2 => ?_) (fun c2 => ?_)⟩
      · have h0 := inj0 c2
        subst h0
        exact ⟨by show 2 ≤ sizeLine; decide, fun q hq => k _ _ _ (b1.same (Same.up hq)) (h1.same (Same.up hq)) (NAt.of_fr (x := (0, 1)) upd_same) (isN_zero hp) ⟨by decide, by decide⟩⟩
      · exact k _ _ _ b1 h1 (NAt.of_r (ninj0 c2)) (isN_zero hp) ⟨by decide, by decide⟩
    refine ⟨_, rfl, _, _, rfl, rfl, _, rfl, ite2 (fun c3 => iteT ?_) (fun c3 => ?_)⟩
    · exact ⟨_, rfl, _, rfl, l, p, rfl, h1, hp, fun H' v x hb hh hv nx _ sx => k H' v x (b1.trans hb) hh hv nx sx⟩
    · have h0 : p = 0 := by
        have := of_decide_eq_false (eq_false_of_ne_true c3)
        omega
      subst h0
      refine ⟨_, rfl, l, 2, rfl, h1, by decide, by decide, fun H2 r2 b2 h2 hr2 => ⟨rfl, _, rfl, ite2 (fun c4 => ?_) (fun c4 => ?_)⟩⟩
      · exact ⟨_, rfl, _, rfl, l, 0, rfl, h2, hp, fun H' v x hb hh hv nx _ sx => k H' v x ((b1.trans b2).trans hb) hh hv nx sx⟩
      · have e9 : (10 : Int) ^ ((9 : Int).toNat) = 1000000000 := by decide
        refine ⟨_, rfl, _, _, rfl, rfl, ⟨by decide, by decide, by decide⟩, _, _, rfl, rfl, .inl ⟨by decide, by decide⟩, _, _, rfl, rfl, l, 2000000001, congrArg (fun z => [V.ref l, V.int z]) (by rw [e9]; rfl), h2, by decide, by decide, fun H3 r3 b3 h3 hr3 => ?_⟩
        refine ⟨_, _, rfl, rfl, ⟨by decide, by decide, by decide⟩, _, _, rfl, rfl, ?_⟩
        refine ⟨_, rfl, _, _, rfl, rfl, ⟨by decide, by decide, by decide⟩, l, 1000000000, congrArg (fun z => [V.ref l, V.int z]) (by rw [e9]; rfl), h3, by decide, by decide, fun H4 r4 b4 h4 hr4 => ⟨_, _, rfl, rfl, ?_⟩⟩
        rw [e9]
        refine ⟨_, _, rfl, by omega, small_up (n := 31) 4000 (by omega) (by decide), small_up (n := 31) 4000 (by omega) (by decide), fun H' q hs hq hv => ?_⟩
        exact k H' _ _ (((b1.trans b2).trans (b3.trans b4)).same hs) (h4.same hs) (NAt.of_fr hv) (low_fr (by omega)) (low_sm (by omega) (by omega) (by omega))
theorem sc_l_exponent : FnScope ["_law_hand_here", "_law_prime_here", "_law_pick"] ["_law_hand_here", "_law_prime_here"] (defScope (top 46)) := ⟨rfl, rfl, rfl, by decide +kernel, rfl, by decide +kernel, by decide +kernel⟩
theorem ok_l_exponent (D : Df K mg "_law_exponent" (top 46) ["_law_hand_here", "_law_prime_here"]) (B : Bn mg) (c_l_draw : C_l_draw P w K mg base) : C_l_exponent P w K mg base := by
  refine D.ok sc_l_exponent (fun vs H Q E h => ?_) (fun f cdv A outer s H vs Q E hr h => ?_)
  · obtain ⟨_, _, rfl, _⟩ := h
    rfl
  · obtain ⟨l, p, rfl, hl, hp, k⟩ := h
    refine ⟨_, (pss_cons (ps_set (i := 2) sc_l_exponent.nd rfl (Or.inl rfl) (pcl c_l_draw (hr.mono (by decide)) pass0 (pa_cons (pv 0) (pa_cons pe_int pa_nil))))
      (pss_cons (ps_if (PW.pt (pw_or (pt_cmpR op_eq (pv 1) pe_int (nomark _)) (pw_or1 (pt_cmpR op_lt (pv 2) pe_int (nomark _)))))
        (pss_one (ps_ret (pe_op op_sub (pcl c_l_draw (hr.mono (by decide)) pass0 (pa_cons (pv 0) (pa_cons pe_int pa_nil))) pe_int)))
        pss_nil)
      (pss_cons (ps_if (pt_cmpR op_eq (pv 2) pe_int (nomark _))
        (pss_one (ps_ret (pe_op op_sub (pe_op op_add (pe_op op_mul (pe_op op_sub (pv 1) pe_int) (pe_op op_sub (pcl c_l_draw (hr.mono (by decide)) pass0 (pa_cons (pv 0) (pa_cons pe_int pa_nil))) pe_int)) (pcl c_l_draw (hr.mono (by decide)) pass0 (pa_cons (pv 0) (pa_cons pe_int pa_nil)))) pe_int)))
        pss_nil)
      (pss_one (ps_ret (pe_op op_sub (pcl c_l_draw (hr.mono (by decide)) pass0 (pa_cons (pv 0) (pa_cons (pe_op op_add (pe_op op_mul pe_int (pe_op op_pow pe_int pe_int)) pe_int) pa_nil))) (pe_op op_pow pe_int pe_int))))))), ?_⟩
    refine ⟨_, rfl, l, 5, rfl, hl, by decide, by decide, fun H1 r b1 h1 hr1 => ?_⟩
    have fr8 : ∀ (H2 : Hp) (r2 : Nat), But l H1 H2 → Hand H2 l → r2 < 17 → Q (.int ((r2 : Int) - 8)) H2 := fun H2 r2 b2 h2 hr2 => k H2 _ (b1.trans b2) h2 (by omega) (fun _ => by omega)
    refine ⟨_, rfl, rfl, _, rfl, ite2 (fun c => iteT ?_) (fun c => ?_)⟩
    · exact ⟨_, rfl, l, 17, rfl, h1, by decide, by decide, fun H2 r2 b2 h2 hr2 => ⟨_, _, rfl, rfl, fr8 H2 r2 b2 h2 hr2⟩⟩
    have h0 := ninj0 c
    have hp2 := hp.two h0
    have hp3 := (hp.resolve_left h0).2
    refine ⟨_, rfl, _, _, rfl, rfl, _, rfl, ite2 (fun c2 => ?_) (fun c2 => ?_)⟩
    · exact ⟨_, rfl, l, 17, rfl, h1, by decide, by decide, fun H2 r2 b2 h2 hr2 => ⟨_, _, rfl, rfl, fr8 H2 r2 b2 h2 hr2⟩⟩
    refine ⟨_, rfl, rfl, _, rfl, ite2 (fun c3 => ?_) (fun c3 => ?_)⟩
    · refine ⟨_, rfl, _, _, rfl, rfl, _, rfl, l, 5, rfl, h1, by decide, by decide, fun H2 r2 b2 h2 hr2 => ⟨_, _, rfl, rfl, _, _, rfl, rfl, .inl ⟨by omega, by omega⟩, ?_⟩⟩
      refine ⟨_, rfl, l, 3, rfl, h2, by decide, by decide, fun H3 r3 b3 h3 hr3 => ⟨_, _, rfl, rfl, _, _, rfl, rfl, k H3 _ ((b1.trans b2).trans b3) h3 ?_ (fun z => absurd z h0)⟩⟩
      have q := Int.natAbs_mul ((p : Int) - 1) ((r2 : Int) - 2)
      have q2 : ((p : Int) - 1).natAbs * ((r2 : Int) - 2).natAbs ≤ 20000 * 2 := Nat.mul_le_mul (by omega) (by omega)
      rw [← q] at q2
      generalize ((p : Int) - 1) * ((r2 : Int) - 2) = z at *
      omega
    · have e30 : (10 : Int) ^ ((30 : Int).toNat) = 1000000000000000000000000000000 := by decide
      refine ⟨_, rfl, _, _, rfl, rfl, ⟨by decide, by decide, by decide⟩, _, _, rfl, rfl, .inl ⟨by decide, by decide⟩, _, _, rfl, rfl, l, 2000000000000000000000000000001, congrArg (fun z => [V.ref l, V.int z]) (by rw [e30]; decide), h1, by decide, by decide, fun H3 r3 b3 h3 hr3 => ?_⟩
      refine ⟨_, _, rfl, rfl, ⟨by decide, by decide, by decide⟩, _, _, rfl, rfl, k H3 _ (b1.trans b3) h3 ?_ (fun z => absurd z h0)⟩
      rw [e30]
      omega
end
end G3
/-! calls within a try; isinstance of what is caught; an own == of instances -/
namespace G3
open PySem PySem.Spec PyProof.Rows L2
section
variable {X : Cx} {CX : CXT} {k : Nat} {f C : Addr} {fd : FuncData} {ps : List Str} {sp : Sp} {W : WX} {x m : Str} {p pos apos : Pos} {e o : Expr} {es : List Expr} {ta : TE} {t : TA}
/-- o.m(e, ..) in a try -/
def tMethT (C : Addr) (m : Str) (sp : Sp) (W : WX) (ta : TE) (t : TA) : TE := fun σ H Q => ta σ H fun x H1 => ∃ (a dx : Addr) (fs : List (Str × V)), x = .ref a ∧ H1 a = some (.ins C dx fs) ∧ fs.lookup m = none ∧
  t σ H1 fun vs H2 => sp (x :: vs) H2 Q fun cls d H' => W cls d σ H'
theorem pcmT {pl : Sem Bool} (c : Cam X.prog X.w X.K X.mg X.base (L2.CX X.prog X.w) k C m ps sp) (cl : Cls X.K C) (hr : Room k X.A) (tk : Takes X W) (ho : PE X o ta) (ha : PA X (e :: es) t)
    (hst : starEach (e :: es) X.env = (false, eval e X.env) :: starEach es X.env := by rfl) (hpl : (backTo pos (starEach es X.env)).any (·.1) = false := by rfl)
    (ht : eval (.Call (.Attribute o m apos) (e :: es) [] pos) X.env = (do
      let ov ← eval o X.env
      standAt apos.atName
      let (f, first) ← holding [ov] (getMethod ov m pl)
      callWith pos f first (backTo pos (starEach (e :: es) X.env)) (backToKw pos (keywordEach [] X.env))) := by rfl) :
    PE X (.Call (.Attribute o m apos) (e :: es) [] pos) (tMethT C m sp W ta t) := by
  obtain ⟨f, fd, F, hm, hb⟩ := c
  constructor
  intro pins s σ H Q I h
  refine PySem.W.methodCall_KW (pl := pl) (thn (ho.run pins s σ H _ I h) fun u s1 z => ?_) ht
  obtain ⟨y, H1, I1, ry, a, dx, fs, ey, ea, l, q⟩ := z
  subst ey
  have eu : u = Value.ref a := ry
  subst eu
  refine getmeth_ok I1 ea cl hm l ?_
  refine PySem.W.callWith_K (first := [.ref a]) (h₀ := X.base) I.ok.mod.kin hm.kp (thn (ha.run pos pins s1 σ H1 _ I1 q) fun us s2 z2 => ?_) hst hpl
  obtain ⟨vs, H2, I2, rv, q2⟩ := z2
  exact ⟨I2.kIn, run_fnS (E := WE W) (us := .ref a :: us) (vs := .ref a :: vs) F hr hb (passAt tk σ) I2 (.cons rfl rv) q2⟩
/-- f(e, ..) in a try -/
theorem pclT (c : Cal X.prog X.w X.K X.mg X.base (L2.CX X.prog X.w) k x ps sp) (hr : Room k X.A) (tk : Takes X W) (ha : PA X (e :: es) t) (hg : Gl X x := by rfl)
    (hdb : (x == ("__debug__" : Str)) = false := by decide) (he : starEach (e :: es) X.env = (false, eval e X.env) :: starEach es X.env := by rfl) (hpl : (backTo pos (starEach es X.env)).any (·.1) = false := by rfl) :
    PE X (.Call (.Name x p) (e :: es) [] pos) (tCallS sp (WE W) t) := by
  obtain ⟨f, fd, F, g, kp, b⟩ := c
  exact pe_callS F hr hg g kp b (fun σ => passAt tk σ) ha hdb he hpl
/-- C(e, ..) in a try -/
def tMakeT (C : Addr) (sp : Sp) (W : WX) (t : TA) : TE := fun σ H Q => t σ H fun vs H1 => ∀ x dx, H1 x = none → H1 dx = none → dx ≠ x →
  sp (.ref x :: vs) (upd (upd H1 dx (.own x)) x (.ins C dx [])) (fun v H2 => v = .non ∧ Q (.ref x) H2) fun cls d H' => W cls d σ H'
theorem pccT (c : Cac X.prog X.w X.K X.mg X.base (L2.CX X.prog X.w) k C x ps sp) (hr : Room (k + 1) X.A) (tk : Takes X W) (ha : PA X (e :: es) t) (hg : Gl X x := by rfl)
    (hdb : (x == ("__debug__" : Str)) = false := by decide) (he : starEach (e :: es) X.env = (false, eval e X.env) :: starEach es X.env := by rfl) (hpl : (backTo pos (starEach es X.env)).any (·.1) = false := by rfl) :
    PE X (.Call (.Name x p) (e :: es) [] pos) (tMakeT C sp W t) := by
  obtain ⟨f, fd, F, M, g, b⟩ := c
  constructor
  intro pins s σ H Q I h
  refine wpAny_Call_Name_kw (ld_glob I hg g ?_ hdb)
  refine PySem.W.callWith_K (h₀ := X.base) I.ok.mod.kin M.kp (thn (ha.run pos pins s σ H _ I h) fun us s1 z => ?_) he hpl
  obtain ⟨vs, H1, I1, rv, q⟩ := z
  refine ⟨I1.kIn, ?_⟩
  have q1 := q (s1.heap.objs.size + 1) s1.heap.objs.size (I1.hok.fresh (Nat.le_succ _)) (I1.hok.fresh (Nat.le_refl _)) (Nat.ne_of_lt (Nat.lt_succ_self _))
  have J := Inv.made (C := C) I1
  have r2 : Vals (V.ref (s1.heap.objs.size + 1) :: vs) (Value.ref (s1.heap.objs.size + 1) :: us) := .cons rfl rv
  have hl : (Value.ref (s1.heap.objs.size + 1) :: us ++ []).length = ps.length := by
    rw [List.append_nil, ← r2.length]
    exact F.len _ _ _ _ q1
  have hbb := b _ (Value.ref (s1.heap.objs.size + 1) :: us) J.kIn hl
  rw [List.append_nil] at hbb
  refine wpAny_call (make_map (f := f) I1.kIn M.makes M.init (beq_iff_eq.mp M.fn) (codeAny_mono (F.run _ X.stack _ _ ⟨Value.ref (s1.heap.objs.size + 1) :: us, []⟩ (Value.ref (s1.heap.objs.size + 1) :: us) _ _ (WE W σ) (hr.make C us [])
    (J.env0.make C us []) hbb r2 q1) fun r s' hq => ?_))
  cases r with
  | error er => exact passAt tk σ pins _ _ er s' J hq
  | ok fl =>
    cases fl with
    | ret u =>
      obtain ⟨v, H', J', rv', ev, q3⟩ := J.after hq
      subst ev
      exact ⟨rv', V.ref (s1.heap.objs.size + 1), H', J', rfl, q3⟩
    | next => exact False.elim hq
    | brk => exact False.elim hq
    | cont => exact False.elim hq
end
/-! ### what is caught -/
/-- isinstance(e, c) in an except suite, whatever was caught; it is read only for an error of the class at D -/
def rIsX (K : PySem.W.Frag) (D a : Addr) (cls : Value) (d : Option Addr) : List V → Hp → VK → Prop := fun xs H Q => cls = .ref D ∧ d = none ∧ rIsE K D a xs H Q
theorem call_isX {X : Cx} {a D : Addr} {oe : Obj} {pn : List (Addr × Obj)} {cls : Value} {d : Option Addr} (C : ExcC X.K D) (hz : Zc cls d oe) (hf : ∃ vs, oe.data = .fields vs) : CallR (X.suite a ((a, oe) :: pn)) (.builtin "isinstance") (rIsX X.K D a cls d) := by
  intro pins s σ H xs us Q I r h
  obtain ⟨rfl, rfl, h⟩ := h
  exact call_isE C hz hf pins s σ H xs us Q I r h
abbrev SE (K : PySem.W.Frag) : Addr := He.ga K "SheetError"
/-- what the top says of the errors -/
structure XT (K : PySem.W.Frag) (mg : Str → Option Value) : Prop where
  gS : mg "SheetError" = some (.ref (SE K))
  gP : mg "BadPrime" = some (.ref (XP K))
  gN : mg "BadNumber" = some (.ref (XN K))
  gZ : mg "ByZero" = some (.ref (XZ K))
  cP : ExcC K (XP K)
  cN : ExcC K (XN K)
  cZ : ExcC K (XZ K)
  mP : PySem.W.exmOne K (.ref (XP K)) (.ref (XP K)) = some true
  mN : PySem.W.exmOne K (.ref (XN K)) (.ref (XN K)) = some true
  mZ : PySem.W.exmOne K (.ref (XZ K)) (.ref (XZ K)) = some true
  kPS : PySem.W.kitOne K (.ref (XP K)) (.ref (SE K)) = some true
  kPV : PySem.W.kitOne K (.ref (XP K)) (.type "ValueError") = some true
  kPN : PySem.W.kitOne K (.ref (XP K)) (.ref (XN K)) = some false
  kNS : PySem.W.kitOne K (.ref (XN K)) (.ref (SE K)) = some true
  kNP : PySem.W.kitOne K (.ref (XN K)) (.ref (XP K)) = some false
  kZS : PySem.W.kitOne K (.ref (XZ K)) (.ref (SE K)) = some true
  kZV : PySem.W.kitOne K (.ref (XZ K)) (.type "ValueError") = some true
  kZN : PySem.W.kitOne K (.ref (XZ K)) (.ref (XN K)) = some false
/-! ### an own == of instances -/
theorem back_of {P : Value → Shared → Prop} {z : V} {v : Value} {s' : Shared} (r : RelV z v) (h : P v s') : PySem.W.CmpBack P v s' := by
  cases v with
  | notImplemented => cases z <;> first | (cases r; done) | (obtain ⟨_, e⟩ := r; cases e)
  | _ => exact h
/-- x == y, x an instance of the class at C whose __eq__ promises sp, y an instance of the class at C' -/
def rOwnEq (C C' : Addr) (sp : Sp) : R2 := fun x y H Q => ∃ (a b dx dy : Addr) (fs gs : List (Str × V)), x = .ref a ∧ y = .ref b ∧ H a = some (.ins C dx fs) ∧ H b = some (.ins C' dy gs) ∧ sp [x, y] H Q E0
theorem op_ownEq {X : Cx} {CX : CXT} {k : Nat} {C C' : Addr} {ps : List Str} {sp : Sp} (c : Cam X.prog X.w X.K X.mg X.base CX k C "__eq__" ps sp) (hn : PySem.W.notFirst X.K C (.ref C') = true) (hr : Room k X.A) (hx : Passes CX X E0) :
    OpR X (compareOp .Eq) (rOwnEq C C' sp) := by
  obtain ⟨f, fd, F, hm, hb⟩ := c
  intro pins s σ H x y v u Q I rx ry h
  obtain ⟨a, b, dx, dy, fs, gs, rfl, rfl, ha, hb', q⟩ := h
  cases (show v = Value.ref a from rx)
  cases (show u = Value.ref b from ry)
  obtain ⟨mA, J, _⟩ := ins_get I.hok ha
  obtain ⟨mB, J', _⟩ := ins_get I.hok hb'
  obtain ⟨od, J, _⟩ := J.look
  obtain ⟨od', J', _⟩ := J'.look
  obtain ⟨m, hF⟩ := I.fr
  show wpAny _ _ (richCompare .Eq (.ref a) (.ref b)) _ _ _
  refine PySem.W.cmp_K (op := .Eq) (tb := .ref C') hr.units0 hF I.ok.mod.kin J J'.type hn hm.at_ hm.fn ?_
  refine wpAny_mono (run_fn (us := [.ref a, .ref b]) (vs := [.ref a, .ref b]) (dvs := []) (ds := []) F hr hb .nil hx I (.cons rfl (.cons rfl .nil)) q) (fun w s' z => ?_) fun _ _ x => x
  obtain ⟨z', H', I', rz, qz⟩ := z
  exact back_of rz ⟨z', H', I', rz, qz⟩
end G3
namespace G3
open PySem PySem.Spec PyProof.Rows L2
theorem boot_VE : bootBuiltins "ValueError" = some (.type "ValueError") := by decide +kernel
section
variable {P : Program} {w : World} {K : PySem.W.Frag} {mg : Str → Option Value} {base : Heap}
theorem sc_l_field_told : FnScope ["_law_number_here", "e"] ["_law_number_here"] (defScope (top 38)) := ⟨rfl, rfl, rfl, by decide +kernel, rfl, by decide +kernel, by decide +kernel⟩
theorem ok_l_field_told (D : Df K mg "_law_field_told" (top 38) ["_law_number_here"]) (B : Bn mg) (T : FT K mg) (Y : XT K mg) (c_RestField : C_RestField P w K mg base) : C_l_field_told P w K mg base := by
  have g_SheetError := Y.gS
  have g_BadNumber := Y.gN
  refine D.ok sc_l_field_told (fun vs H Q E h => ?_) (fun f cdv A outer s H vs Q E hr h => ?_)
  · obtain ⟨_, rfl, _⟩ := h
    rfl
  · obtain ⟨v, rfl, ht, k⟩ := h
    refine ⟨_, (pss_one (ps_try_as (i := 1) (tb := fun W => tRet (tLst (tCons (tC (.str "made")) (tCons (tFld K (tMakeT (CR K) (spR_init K) W (tCons (tVar 0) tNil)) "prime") tNil)))) (Wout := fun _ _ _ _ => False) rfl rfl sc_l_field_told.nd rfl rfl ⟨rfl, by decide, .inl Y.gP⟩ takes0
      (fun W pn xe tk _ => pss_one (ps_ret (pe_lst (pa_cons pe_str (pa_cons (pe_fld (pccT c_RestField (hr.mono (by decide)) tk (pa_cons (pv 0) pa_nil)) rfl) pa_nil)))))
      (fun a oe cls d pn hz hf => pss_one (ps_ret (pe_lst (pa_cons pe_str (pa_cons (pe_and (pe_callB (call_isX Y.cP hz hf) (by rfl) B.isi boot_isinstance (pa_cons (pv 1) (pa_cons (pe_glob (v := .ref (SE K)) rfl g_SheetError rfl) pa_nil))) (pe_and (pe_callB (call_isX Y.cP hz hf) (by rfl) B.isi boot_isinstance (pa_cons (pv 1) (pa_cons (pe_bltn (v := .ty "ValueError") (by rfl) B.ve boot_VE rfl) pa_nil))) (pe_one (pe_not (pe_callB (call_isX Y.cP hz hf) (by rfl) B.isi boot_isinstance (pa_cons (pv 1) (pa_cons (pe_glob (v := .ref (XN K)) rfl g_BadNumber rfl) pa_nil))))))) pa_nil))))))), ?_⟩
    refine ⟨_, rfl, fun x dx h1 h2 h3 => ⟨x, dx, v, rfl, upd_same, ?_, fun p e hi hp hp2 H' hk hx => ⟨rfl, ?_⟩, fun e => ?_⟩⟩
    · cases ht with
      | non => exact .non
      | bl b => exact .bl b
      | int i => exact .int i
      | str z => exact .str z
      | lst q => exact .lst ((upd_ne (ne_of_none q h1)).trans ((upd_ne (ne_of_none q h2)).trans q))
      | tup q => exact .tup ((upd_ne (ne_of_none q h1)).trans ((upd_ne (ne_of_none q h2)).trans q))
    · subst e
      refine ⟨x, _, dx, _, _, rfl, hx, T.clR, T.rp, rF_prime _, by show 2 ≤ sizeLine; decide, fun a ha => ?_⟩
      have s1 : Same H H' := fun b o hb => hk b o (ne_of_none hb h1) (by rw [upd_ne (ne_of_none hb h1), upd_ne (ne_of_none hb h2)]; exact hb)
      rw [if_pos hi] at k
      exact k _ a (Same.up' s1 ha) (s1.free ha) upd_same
    · rw [if_neg (by rw [e]; decide)] at k
      refine ⟨true, Y.mP, fun _ a ha => ?_, fun q => nomatch q⟩
      refine ⟨_, rfl, rfl, rfl, _, _, _, rfl, fun u h => h, Y.kPS, _, rfl, iteT ?_⟩
      refine ⟨_, rfl, rfl, rfl, _, _, _, rfl, fun u h => h, Y.kPV, _, rfl, iteT ?_⟩
      refine ⟨_, rfl, rfl, rfl, _, _, _, rfl, fun u h => h, Y.kPN, _, rfl, by show 2 ≤ sizeLine; decide, fun a2 ha2 => ?_⟩
      have s1 : Same H (upd (upd H dx (.own x)) x (.ins (CR K) dx [])) := fun b o hb => by rw [upd_ne (ne_of_none hb h1), upd_ne (ne_of_none hb h2)]; exact hb
      exact k _ a2 (Same.up' s1 ha2) (s1.free ha2) upd_same
theorem sc_l_number_told : FnScope ["_law_field_here", "_law_thing", "e"] ["_law_field_here", "_law_thing"] (defScope (top 40)) := ⟨rfl, rfl, rfl, by decide +kernel, rfl, by decide +kernel, by decide +kernel⟩
theorem ok_l_number_told (D : Df K mg "_law_number_told" (top 40) ["_law_field_here", "_law_thing"]) (B : Bn mg) (T : FT K mg) (Y : XT K mg) (cR : C_R_check_number P w K mg base) (cF : C_F_check_number P w K mg base) : C_l_number_told P w K mg base := by
  have g_SheetError := Y.gS
  have g_BadPrime := Y.gP
  refine D.ok sc_l_number_told (fun vs H Q E h => ?_) (fun f cdv A outer s H vs Q E hr h => ?_)
  · obtain ⟨_, _, _, rfl, _⟩ := h
    rfl
  · obtain ⟨g, p, v, rfl, hf, k⟩ := h
    refine ⟨_, (pss_one (ps_try_as (i := 2) (Wout := fun _ _ _ _ => False) rfl rfl sc_l_number_told.nd rfl rfl ⟨rfl, by decide, .inl Y.gN⟩ takes0
      (fun W pn xe tk _ => pss_one (ps_ret (pe_lst (pa_cons pe_str (pa_cons (pe_or2 (pcmT cR T.clR (hr.mono (by decide)) tk (pv 0) (pa_cons (pv 1) pa_nil)) (pcmT cF T.clF (hr.mono (by decide)) tk (pv 0) (pa_cons (pv 1) pa_nil))) pa_nil)))))
      (fun a oe cls d pn hz hf => pss_one (ps_ret (pe_lst (pa_cons pe_str (pa_cons (pe_and (pe_callB (call_isX Y.cN hz hf) (by rfl) B.isi boot_isinstance (pa_cons (pv 2) (pa_cons (pe_glob (v := .ref (SE K)) rfl g_SheetError rfl) pa_nil))) (pe_one (pe_not (pe_callB (call_isX Y.cN hz hf) (by rfl) B.isi boot_isinstance (pa_cons (pv 2) (pa_cons (pe_glob (v := .ref (XP K)) rfl g_BadPrime rfl) pa_nil)))))) pa_nil))))))), ?_⟩
    by_cases h0 : p = 0
    · subst h0
      obtain ⟨dx, z, o, m, hA, _⟩ := hf.fr
      refine .inr ⟨_, rfl, g, dx, _, rfl, hA, fF_no _ _ _ (by decide +kernel) (by decide +kernel) (by decide +kernel), _, rfl, g, 0, v, rfl, by simp, hf, ?_⟩
      rcases k with ⟨x, hx, nx, k⟩ | ⟨hb, k⟩
      · exact .inl ⟨x, hx, nx, by show 2 ≤ sizeLine; decide, fun a ha => k _ a (Same.up ha) ha upd_same⟩
      · refine .inr ⟨hb, true, Y.mN, fun _ a ha => ?_, fun q => nomatch q⟩
        refine ⟨_, rfl, rfl, rfl, _, _, _, rfl, fun u h => h, Y.kNS, _, rfl, iteT ?_⟩
        exact ⟨_, rfl, rfl, rfl, _, _, _, rfl, fun u h => h, Y.kNP, _, rfl, by show 2 ≤ sizeLine; decide, fun a2 ha2 => k _ a2 (Same.up ha2) ha2 upd_same⟩
    · obtain ⟨h1, h2, dx, hA⟩ := hf.r h0
      refine .inl ⟨_, rfl, g, dx, _, rfl, hA, rF_no _ (by decide +kernel) (by decide +kernel) (by decide +kernel) (by decide +kernel), _, rfl, g, p, v, rfl, by simp [h0], hf, ?_⟩
      rcases k with ⟨x, hx, nx, k⟩ | ⟨hb, k⟩
      · exact .inl ⟨x, hx, nx, by show 2 ≤ sizeLine; decide, fun a ha => k _ a (Same.up ha) ha upd_same⟩
      · refine .inr ⟨hb, true, Y.mN, fun _ a ha => ?_, fun q => nomatch q⟩
        refine ⟨_, rfl, rfl, rfl, _, _, _, rfl, fun u h => h, Y.kNS, _, rfl, iteT ?_⟩
        exact ⟨_, rfl, rfl, rfl, _, _, _, rfl, fun u h => h, Y.kNP, _, rfl, by show 2 ≤ sizeLine; decide, fun a2 ha2 => k _ a2 (Same.up ha2) ha2 upd_same⟩
theorem sc_l_divided : FnScope ["_law_field_here", "_law_one_here", "_law_other", "e"] ["_law_field_here", "_law_one_here", "_law_other"] (defScope (top 41)) := ⟨rfl, rfl, rfl, by decide +kernel, rfl, by decide +kernel, by decide +kernel⟩
theorem ok_l_divided (D : Df K mg "_law_divided" (top 41) ["_law_field_here", "_law_one_here", "_law_other"]) (B : Bn mg) (T : FT K mg) (Y : XT K mg) (cR : C_R_quotient P w K mg base) (cF : C_F_quotient P w K mg base) : C_l_divided P w K mg base := by
  have g_SheetError := Y.gS
  refine D.ok sc_l_divided (fun vs H Q E h => ?_) (fun f cdv A outer s H vs Q E hr h => ?_)
  · obtain ⟨_, _, _, _, _, _, rfl, _⟩ := h
    rfl
  · obtain ⟨g, p, va, vb, x, y, rfl, hp, hf, hx, hy, nx, ny, sx, sy, kZ, k⟩ := h
    refine ⟨_, (pss_one (ps_try_as (i := 3) (Wout := fun _ _ _ _ => False) rfl rfl sc_l_divided.nd rfl rfl ⟨rfl, by decide, .inl Y.gZ⟩ takes0
      (fun W pn xe tk _ => pss_one (ps_ret (pe_lst (pa_cons pe_str (pa_cons (pe_or2 (pcmT cR T.clR hr tk (pv 0) (pa_cons (pv 1) (pa_cons (pv 2) pa_nil))) (pcmT cF T.clF (hr.mono (by decide)) tk (pv 0) (pa_cons (pv 1) (pa_cons (pv 2) pa_nil)))) pa_nil)))))
      (fun a oe cls d pn hz hf => pss_one (ps_ret (pe_lst (pa_cons pe_str (pa_cons (pe_and (pe_callB (call_isX Y.cZ hz hf) (by rfl) B.isi boot_isinstance (pa_cons (pv 3) (pa_cons (pe_glob (v := .ref (SE K)) rfl g_SheetError rfl) pa_nil))) (pe_one (pe_callB (call_isX Y.cZ hz hf) (by rfl) B.isi boot_isinstance (pa_cons (pv 3) (pa_cons (pe_bltn (v := .ty "ValueError") (by rfl) B.ve boot_VE rfl) pa_nil))))) pa_nil))))))), ?_⟩
    by_cases h0 : p = 0
    · subst h0
      obtain ⟨dx, z, o, m, hA, _⟩ := hf.fr
      refine .inr ⟨_, rfl, g, dx, _, rfl, hA, fF_no _ _ _ (by decide +kernel) (by decide +kernel) (by decide +kernel), _, rfl, _, rfl, g, 0, va, vb, x, y, rfl, by simp, hp, hf, hx, hy, nx, ny, sx, sy, fun hz => ?_, fun hz H' v z s1 hv nz sz e => ?_⟩
      · refine ⟨true, Y.mZ, fun _ a ha => ?_, fun q => nomatch q⟩
        refine ⟨_, rfl, rfl, rfl, _, _, _, rfl, fun u h => h, Y.kZS, _, rfl, iteT ?_⟩
        exact ⟨_, rfl, rfl, rfl, _, _, _, rfl, fun u h => h, Y.kZV, by show 2 ≤ sizeLine; decide, fun a2 ha2 => kZ hz _ a2 (Same.up ha2) upd_same⟩
      · exact ⟨by show 2 ≤ sizeLine; decide, fun a ha => k hz _ a v z (Same.up' s1 ha) upd_same (hv.same (Same.up ha)) nz sz e⟩
    · obtain ⟨h1, h2, dx, hA⟩ := hf.r h0
      refine .inl ⟨_, rfl, g, dx, _, rfl, hA, rF_no _ (by decide +kernel) (by decide +kernel) (by decide +kernel) (by decide +kernel), _, rfl, _, rfl, g, p, va, vb, x, y, rfl, by simp [h0], hp, hf, hx, hy, nx, ny, sx, sy, fun hz => ?_, fun hz H' v z s1 hv nz sz e => ?_⟩
      · refine ⟨true, Y.mZ, fun _ a ha => ?_, fun q => nomatch q⟩
        refine ⟨_, rfl, rfl, rfl, _, _, _, rfl, fun u h => h, Y.kZS, _, rfl, iteT ?_⟩
        exact ⟨_, rfl, rfl, rfl, _, _, _, rfl, fun u h => h, Y.kZV, by show 2 ≤ sizeLine; decide, fun a2 ha2 => kZ hz _ a2 (Same.up ha2) upd_same⟩
      · exact ⟨by show 2 ≤ sizeLine; decide, fun a ha => k hz _ a v z (Same.up' s1 ha) upd_same (hv.same (Same.up ha)) nz sz e⟩
theorem sc_l_raised : FnScope ["_law_field_here", "_law_number_here", "_law_exponent_here", "e"] ["_law_field_here", "_law_number_here", "_law_exponent_here"] (defScope (top 42)) := ⟨rfl, rfl, rfl, by decide +kernel, rfl, by decide +kernel, by decide +kernel⟩
theorem ok_l_raised (D : Df K mg "_law_raised" (top 42) ["_law_field_here", "_law_number_here", "_law_exponent_here"]) (B : Bn mg) (T : FT K mg) (Y : XT K mg) (cR : C_R_power P w K mg base) (cF : C_F_power P w K mg base) : C_l_raised P w K mg base := by
  have g_BadNumber := Y.gN
  refine D.ok sc_l_raised (fun vs H Q E h => ?_) (fun f cdv A outer s H vs Q E hr h => ?_)
  · obtain ⟨_, _, _, _, _, rfl, _⟩ := h
    rfl
  · obtain ⟨g, p, va, x, e, rfl, hp, hf, hx, nx, sx, he, he8, kZ, k⟩ := h
    refine ⟨_, (pss_one (ps_try_as (i := 3) (Wout := fun _ _ _ _ => False) rfl rfl sc_l_raised.nd rfl rfl ⟨rfl, by decide, .inl Y.gZ⟩ takes0
      (fun W pn xe tk _ => pss_one (ps_ret (pe_lst (pa_cons pe_str (pa_cons (pe_or2 (pcmT cR T.clR (hr.mono (by decide)) tk (pv 0) (pa_cons (pv 1) (pa_cons (pv 2) pa_nil))) (pcmT cF T.clF (hr.mono (by decide)) tk (pv 0) (pa_cons (pv 1) (pa_cons (pv 2) pa_nil)))) pa_nil)))))
      (fun a oe cls d pn hz hf => pss_one (ps_ret (pe_lst (pa_cons pe_str (pa_cons (pe_not (pe_callB (call_isX Y.cZ hz hf) (by rfl) B.isi boot_isinstance (pa_cons (pv 3) (pa_cons (pe_glob (v := .ref (XN K)) rfl g_BadNumber rfl) pa_nil)))) pa_nil))))))), ?_⟩
    by_cases h0 : p = 0
    · subst h0
      obtain ⟨dx, z, o, m, hA, _⟩ := hf.fr
      refine .inr ⟨_, rfl, g, dx, _, rfl, hA, fF_no _ _ _ (by decide +kernel) (by decide +kernel) (by decide +kernel), _, rfl, _, rfl, g, 0, va, x, e, rfl, by simp, hp, hf, hx, nx, sx, he, he8, fun hz hn => ?_, fun hz H' v s1 hv => ?_⟩
      · refine ⟨true, Y.mZ, fun _ a ha => ?_, fun q => nomatch q⟩
        exact ⟨_, rfl, rfl, rfl, _, _, _, rfl, fun u h => h, Y.kZN, _, rfl, by show 2 ≤ sizeLine; decide, fun a2 ha2 => kZ hz hn _ a2 (Same.up ha2) upd_same⟩
      · exact ⟨by show 2 ≤ sizeLine; decide, fun a ha => k hz _ a v (Same.up' s1 ha) upd_same (hv.same (Same.up ha))⟩
    · obtain ⟨h1, h2, dx, hA⟩ := hf.r h0
      refine .inl ⟨_, rfl, g, dx, _, rfl, hA, rF_no _ (by decide +kernel) (by decide +kernel) (by decide +kernel) (by decide +kernel), _, rfl, _, rfl, g, p, va, x, e, rfl, by simp [h0], hp, hf, hx, nx, sx, he, he8, fun hz hn => ?_, fun hz H' v s1 hv => ?_⟩
      · refine ⟨true, Y.mZ, fun _ a ha => ?_, fun q => nomatch q⟩
        exact ⟨_, rfl, rfl, rfl, _, _, _, rfl, fun u h => h, Y.kZN, _, rfl, by show 2 ≤ sizeLine; decide, fun a2 ha2 => kZ hz hn _ a2 (Same.up ha2) upd_same⟩
      · exact ⟨by show 2 ≤ sizeLine; decide, fun a ha => k hz _ a v (Same.up' s1 ha) upd_same (hv.same (Same.up ha))⟩
theorem sc_l_steps_told : FnScope ["_law_field_here", "_law_thing"] ["_law_field_here", "_law_thing"] (defScope (top 51)) := ⟨rfl, rfl, rfl, by decide +kernel, rfl, by decide +kernel, by decide +kernel⟩
theorem ok_l_steps_told (D : Df K mg "_law_steps_told" (top 51) ["_law_field_here", "_law_thing"]) (B : Bn mg) (Y : XT K mg) (c_steps_of : C_steps_of P w K mg base) : C_l_steps_told P w K mg base := by
  refine D.ok sc_l_steps_told (fun vs H Q E h => ?_) (fun f cdv A outer s H vs Q E hr h => ?_)
  · obtain ⟨_, _, _, rfl, _⟩ := h
    rfl
  · obtain ⟨g, p, v, rfl, hf, ht, k⟩ := h
    refine ⟨_, (pss_one (ps_try_only (Wout := fun _ _ _ _ => False) rfl rfl ⟨rfl, by decide, .inl Y.gN⟩ takes0
      (fun W pn xe tk _ => pss_one (ps_ret (pe_lst (pa_cons pe_str (pa_cons (pclT c_steps_of hr tk (pa_cons (pv 0) (pa_cons (pv 1) pa_nil))) pa_nil)))))
      (fun a oe cls d pn hz hf => pss_one (ps_ret (pe_lst (pa_cons pe_str pa_nil)))))), ?_⟩
    refine ⟨_, rfl, _, rfl, g, p, v, rfl, hf, ht, ?_⟩
    rcases k with ⟨n, rfl, n1, n2, k⟩ | ⟨hb, k⟩
    · exact .inl ⟨n, rfl, n1, n2, fun H' src j s1 hs hj e => ⟨by show 2 ≤ sizeLine; decide, fun a ha => k _ a src j (Same.up' s1 ha) upd_same hs hj e⟩⟩
    · exact .inr ⟨hb, true, Y.mN, fun _ a ha => ⟨by show 1 ≤ sizeLine; decide, fun a2 ha2 => k _ a2 (Same.up ha2) upd_same⟩, fun q => nomatch q⟩
end
end G3
namespace G3
open PySem PySem.Spec PyProof.Rows L2
theorem ofs_ok (x : String) : PyData.strOk (Str.ofString x) = true := by
  unfold PyData.strOk
  rw [PySem.Str.ofString_eq_toList]
  simp only [List.all_toArray, List.all_map, List.all_eq_true, Function.comp_apply, decide_eq_true_eq]
  intro c _
  have h := c.valid
  have e : c.toNat = c.val.toNat := rfl
  rw [e]
  rcases h with h | h <;> omega
theorem sh_str (x : String) : SeqAt.shaped (.str (Str.ofString x)) = true := by
  show (PyData.strOk (Str.ofString x) && decide (PyData.depth (.str (Str.ofString x)) ≤ 64)) = true
  rw [ofs_ok]
  simp [PyData.depth]
theorem sh_non : SeqAt.shaped .none = true := by simp [SeqAt.shaped, PyData.canLay0, PyData.depth]
theorem sh_bl (b : Bool) : SeqAt.shaped (.bool b) = true := by simp [SeqAt.shaped, PyData.canLay0, PyData.depth]
theorem isW_ge {p : Nat} {i : Int} (h : (p : Int) ≤ i) : isW (.int i) (.int 0) (.int ((p : Int) - 1)) = false := by
  show (decide (0 ≤ i) && decide (i ≤ (p : Int) - 1)) = false
  rw [decide_eq_false (show ¬ i ≤ (p : Int) - 1 by omega), Bool.and_false]
theorem bad_r {H : Hp} {p : Nat} {v : V} (h0 : p ≠ 0) (t : Th H v) (h : isW v (.int 0) (.int ((p : Int) - 1)) = false) : Bad H p v := by
  unfold Bad
  rw [if_neg h0]
  exact ⟨t, h⟩
/-- of the fields of rests: a thing that the field refuses -/
theorem oddR {K : PySem.W.Frag} {H : Hp} {p : Nat} {v : V} {d : PyData} (h0 : p ≠ 0) (hd : Dp K H v d) (sh : SeqAt.shaped d = true) (t : Th H v) (h : isW v (.int 0) (.int ((p : Int) - 1)) = false) : Odd K H p v :=
  ⟨d, hd, sh, t, .inr (bad_r h0 t h), fun _ => .inl h⟩
theorem oddZ {K : PySem.W.Frag} {H : Hp} {p : Nat} (h0 : p ≠ 0) : Odd K H p (.int 0) := by
  refine ⟨.int 0, .int 0, sh_int 0, .int 0, .inl ?_, fun _ => .inr rfl⟩
  unfold zd
  rw [if_neg h0]
  exact eqv_same (sh_int 0)
theorem oddF {K : PySem.W.Frag} {H : Hp} {v : V} {d : PyData} (hd : Dp K H v d) (sh : SeqAt.shaped d = true) (t : Th H v) (h : BadF H v) : Odd K H 0 v := ⟨d, hd, sh, t, .inr h, fun z => absurd rfl z⟩
section
variable {P : Program} {w : World} {K : PySem.W.Frag} {mg : Str → Option Value} {base : Heap}
theorem odd_listR {H1 : Hp} {p : Nat} (h0 : p ≠ 0) {q : Addr} {z : String} {X : Int} (hX : 0 ≤ X) (hq : H1 q = some (.tup [.int 1, .int 1])) : ∀ r : Nat, r < 8 → ∃ v, [V.int 0, V.int p, V.int (0 - 1), V.non, V.ref q, V.bl true, V.str (Str.ofString z), V.int (p + X)][r]? = some v ∧ Odd K H1 p v
  | 0, _ => ⟨_, rfl, oddZ h0⟩
  | 1, _ => ⟨_, rfl, oddR h0 (.int _) (sh_int _) (.int _) (isW_ge (by omega))⟩
  | 2, _ => ⟨_, rfl, oddR h0 (.int _) (sh_int _) (.int _) rfl⟩
  | 3, _ => ⟨_, rfl, oddR h0 .non sh_non .non rfl⟩
  | 4, _ => ⟨_, rfl, oddR h0 (.tup (SqT.of hq) (.cons (.int _) (.cons (.int _) .nil))) (sh_pair _ _) (.tup hq) rfl⟩
  | 5, _ => ⟨_, rfl, oddR h0 (.bl _) (sh_bl _) (.bl _) rfl⟩
  | 6, _ => ⟨_, rfl, oddR h0 (.str _) (sh_str _) (.str _) rfl⟩
  | 7, _ => ⟨_, rfl, oddR h0 (.int _) (sh_int _) (.int _) (isW_ge (by omega))⟩
  | n + 8, h => absurd h (by omega)
theorem odd_listF {H1 : Hp} {q0 q1 q2 q4 q5 q7 q8 q9 q10 q11 : Addr} (f0 : H1 q0 = some (.tup [.int 0, .int 1])) (f1 : H1 q1 = some (.tup [.int 2, .int 4])) (f2 : H1 q2 = some (.lst [.int 1, .int 1])) (f4 : H1 q4 = some (.tup [.int 1, .int (0 - 1)])) (f5 : H1 q5 = some (.tup [.int 1, .int 0]))
    (f7 : H1 q7 = some (.tup [.bl true, .int 1])) (f8 : H1 q8 = some (.tup [.int 3])) (f9 : H1 q9 = some (.tup [.int 1, .int 2, .int 3])) (f10 : H1 q10 = some (.tup [.int 5, .bl true])) (f11 : H1 q11 = some (.tup [.int 0, .int 2])) :
    ∀ r : Nat, r < 12 → ∃ v, [V.ref q0, V.ref q1, V.ref q2, V.int 1, V.ref q4, V.ref q5, V.non, V.ref q7, V.ref q8, V.ref q9, V.ref q10, V.ref q11][r]? = some v ∧ Odd K H1 0 v
  | 0, _ => ⟨_, rfl, _, .tup (SqT.of f0) (.cons (.int _) (.cons (.int _) .nil)), sh_pair _ _, .tup f0, .inl (eqv_same (sh_pair _ _)), fun z => absurd rfl z⟩
  | 1, _ => ⟨_, rfl, oddF (.tup (SqT.of f1) (.cons (.int _) (.cons (.int _) .nil))) (sh_pair _ _) (.tup f1) (.gcd f1 (by decide) (by decide))⟩
  | 2, _ => ⟨_, rfl, oddF (.lst (SqL.of f2) (.cons (.int _) (.cons (.int _) .nil))) (by simp [SeqAt.shaped, PyData.canLay0, PyData.canLayAll0, PyData.depth, PyData.depthAll]) (.lst f2) (.lst f2)⟩
  | 3, _ => ⟨_, rfl, oddF (.int _) (sh_int _) (.int _) (.int _)⟩
  | 4, _ => ⟨_, rfl, oddF (.tup (SqT.of f4) (.cons (.int _) (.cons (.int _) .nil))) (sh_pair _ _) (.tup f4) (.snd f4 (.int _) (.int _) rfl rfl)⟩
  | 5, _ => ⟨_, rfl, oddF (.tup (SqT.of f5) (.cons (.int _) (.cons (.int _) .nil))) (sh_pair _ _) (.tup f5) (.snd f5 (.int _) (.int _) rfl rfl)⟩
  | 6, _ => ⟨_, rfl, oddF .non sh_non .non .non⟩
  | 7, _ => ⟨_, rfl, oddF (.tup (SqT.of f7) (.cons (.bl _) (.cons (.int _) .nil))) (by simp [SeqAt.shaped, PyData.canLay0, PyData.canLayAll0, PyData.depth, PyData.depthAll]) (.tup f7) (.fst f7 (.bl _) rfl)⟩
  | 8, _ => ⟨_, rfl, oddF (.tup (SqT.of f8) (.cons (.int _) .nil)) (by simp [SeqAt.shaped, PyData.canLay0, PyData.canLayAll0, PyData.depth, PyData.depthAll]) (.tup f8) (.len f8 (by decide))⟩
  | 9, _ => ⟨_, rfl, oddF (.tup (SqT.of f9) (.cons (.int _) (.cons (.int _) (.cons (.int _) .nil)))) (by simp [SeqAt.shaped, PyData.canLay0, PyData.canLayAll0, PyData.depth, PyData.depthAll]) (.tup f9) (.len f9 (by decide))⟩
  | 10, _ => ⟨_, rfl, oddF (.tup (SqT.of f10) (.cons (.int _) (.cons (.bl _) .nil))) (by simp [SeqAt.shaped, PyData.canLay0, PyData.canLayAll0, PyData.depth, PyData.depthAll]) (.tup f10) (.snd f10 (.int _) (.bl _) rfl rfl)⟩
  | 11, _ => ⟨_, rfl, oddF (.tup (SqT.of f11) (.cons (.int _) (.cons (.int _) .nil))) (sh_pair _ _) (.tup f11) (.gcd f11 (by decide) (by decide))⟩
  | n + 12, h => absurd h (by omega)
theorem Hand.ne {H : Hp} {l q : Addr} (h : Hand H l) (hq : H q = none) : q ≠ l := by
  obtain ⟨c, ns, i, b, st, h1, _⟩ := h
  exact (ne_of_none h1 hq).symm
theorem sc_l_odd : FnScope ["_law_hand_here", "_law_prime_here", "_law_odds"] ["_law_hand_here", "_law_prime_here"] (defScope (top 37)) := ⟨rfl, rfl, rfl, by decide +kernel, rfl, by decide +kernel, by decide +kernel⟩
theorem ok_l_odd (D : Df K mg "_law_odd" (top 37) ["_law_hand_here", "_law_prime_here"]) (B : Bn mg) (c_l_draw : C_l_draw P w K mg base) : C_l_odd P w K mg base := by
  refine D.ok sc_l_odd (fun vs H Q E h => ?_) (fun f cdv A outer s H vs Q E hr h => ?_)
  · obtain ⟨_, _, rfl, _⟩ := h
    rfl
  · obtain ⟨l, p, rfl, hl, hp, k⟩ := h
    refine ⟨_, (pss_cons (ps_if (pt_cmpR op_gt (pv 1) pe_int (nomark _))
        (pss_one (ps_ret (pe_ix ix_tup (pe_tup (pa_cons pe_int (pa_cons (pv 1) (pa_cons (pe_op op_sub pe_int pe_int) (pa_cons pe_non (pa_cons (pe_tup (pa_cons pe_int (pa_cons pe_int pa_nil))) (pa_cons pe_bl (pa_cons (pe_callTy call_str_int (by rfl) B.str_ PyProof.Rows.boot_str (pa_cons (pe_op op_sub (pv 1) pe_int) pa_nil)) (pa_cons (pe_op op_add (pv 1) (pe_op op_pow pe_int pe_int)) pa_nil))))))))) (pcl c_l_draw (hr.mono (by decide)) pass0 (pa_cons (pv 0) (pa_cons pe_int pa_nil))) (fun _ _ => rfl))))
        pss_nil)
      (pss_cons (ps_set (i := 2) sc_l_odd.nd rfl (Or.inl rfl) (pe_tup (pa_cons (pe_tup (pa_cons pe_int (pa_cons pe_int pa_nil))) (pa_cons (pe_tup (pa_cons pe_int (pa_cons pe_int pa_nil))) (pa_cons (pe_lst (pa_cons pe_int (pa_cons pe_int pa_nil))) (pa_cons pe_int (pa_cons (pe_tup (pa_cons pe_int (pa_cons (pe_op op_sub pe_int pe_int) pa_nil))) (pa_cons (pe_tup (pa_cons pe_int (pa_cons pe_int pa_nil))) (pa_cons pe_non (pa_cons (pe_tup (pa_cons pe_bl (pa_cons pe_int pa_nil))) (pa_cons (pe_tup (pa_cons pe_int pa_nil)) (pa_cons (pe_tup (pa_cons pe_int (pa_cons pe_int (pa_cons pe_int pa_nil)))) (pa_cons (pe_tup (pa_cons pe_int (pa_cons pe_bl pa_nil))) (pa_cons (pe_tup (pa_cons pe_int (pa_cons pe_int pa_nil))) pa_nil))))))))))))))
      (pss_one (ps_ret (pe_ix ix_tup (pv 2) (pcl c_l_draw (hr.mono (by decide)) pass0 (pa_cons (pv 0) (pa_cons pe_int pa_nil))) (fun _ _ => rfl)))))), ?_⟩
    refine ⟨_, rfl, _, _, rfl, rfl, _, rfl, ite2 (fun c => ?_) (fun c => ?_)⟩
    · have h0 : p ≠ 0 := by
        have := of_decide_eq_true c
        omega
      have h3 := (hp.resolve_left h0).2
      have hX : (0 : Int) ≤ (10 : Int) ^ ((20 : Int).toNat) := by decide
      refine ⟨_, rfl, _, _, rfl, rfl, by show 2 ≤ sizeLine; decide, fun q hq => ?_⟩
      refine ⟨_, rfl, _, _, rfl, rfl, _, rfl, ?_, _, rfl, _, _, rfl, rfl, ⟨by decide, by decide, by decide⟩, _, _, rfl, rfl, ?_⟩
      · exact PySem.Flt.log2_lt_of (by decide) (small_up (n := 60) 1920 (by omega) (by decide))
      refine ⟨by show 8 ≤ sizeLine; decide, fun t ht => ?_⟩
      have sq : Same H (upd H q (.tup [.int 1, .int 1])) := Same.up hq
      have fq : upd H q (.tup [.int 1, .int 1]) q = some (.tup [.int 1, .int 1]) := upd_same
      generalize upd H q (.tup [.int 1, .int 1]) = H2 at *
      have nq := hl.ne hq
      have h2 := hl.same sq
      have nt := h2.ne ht
      refine ⟨_, rfl, l, 8, rfl, h2.same (Same.up ht), by decide, by decide, fun H1 r b1 h1 hr1 => ?_⟩
      have fq1 := b1 q _ nq (Same.up ht _ _ fq)
      have ft1 := b1 t _ nt upd_same
      obtain ⟨v, e, ho⟩ := odd_listR (K := K) h0 hX fq1 r hr1
      exact ⟨_, _, _, _, rfl, rfl, SqT.of ft1, atI_nat e, k H1 v (((Same.but sq).same (Same.up ht)).trans b1) h1 ho⟩
    · have h0 : p = 0 := by
        have := of_decide_eq_false (eq_false_of_ne_true c)
        omega
      subst h0
      refine ⟨by show 2 ≤ sizeLine; decide, fun q0 e0 => ?_⟩
      have s0 := Same.up (o := .tup [.int 0, .int 1]) e0
      have f0 : upd H q0 (.tup [.int 0, .int 1]) q0 = some (.tup [.int 0, .int 1]) := upd_same
      generalize upd H q0 (.tup [.int 0, .int 1]) = G0 at *
      have S0 : Same H G0 := s0
      refine ⟨by show 2 ≤ sizeLine; decide, fun q1 e1 => ?_⟩
      have s1 := Same.up (o := .tup [.int 2, .int 4]) e1
      have f1 : upd G0 q1 (.tup [.int 2, .int 4]) q1 = some (.tup [.int 2, .int 4]) := upd_same
      generalize upd G0 q1 (.tup [.int 2, .int 4]) = G1 at *
      replace f0 := s1 _ _ f0
      have S1 : Same H G1 := S0.trans s1
      refine ⟨by show 2 ≤ sizeLine; decide, fun q2 e2 => ?_⟩
      have s2 := Same.up (o := .lst [.int 1, .int 1]) e2
      have f2 : upd G1 q2 (.lst [.int 1, .int 1]) q2 = some (.lst [.int 1, .int 1]) := upd_same
      generalize upd G1 q2 (.lst [.int 1, .int 1]) = G2 at *
      replace f0 := s2 _ _ f0
      replace f1 := s2 _ _ f1
      have S2 : Same H G2 := S1.trans s2
      refine ⟨_, _, rfl, rfl, by show 2 ≤ sizeLine; decide, fun q4 e4 => ?_⟩
      have s4 := Same.up (o := .tup [.int 1, .int (0 - 1)]) e4
      have f4 : upd G2 q4 (.tup [.int 1, .int (0 - 1)]) q4 = some (.tup [.int 1, .int (0 - 1)]) := upd_same
      generalize upd G2 q4 (.tup [.int 1, .int (0 - 1)]) = G4 at *
      replace f0 := s4 _ _ f0
      replace f1 := s4 _ _ f1
      replace f2 := s4 _ _ f2
      have S4 : Same H G4 := S2.trans s4
      refine ⟨by show 2 ≤ sizeLine; decide, fun q5 e5 => ?_⟩
      have s5 := Same.up (o := .tup [.int 1, .int 0]) e5
      have f5 : upd G4 q5 (.tup [.int 1, .int 0]) q5 = some (.tup [.int 1, .int 0]) := upd_same
      generalize upd G4 q5 (.tup [.int 1, .int 0]) = G5 at *
      replace f0 := s5 _ _ f0
      replace f1 := s5 _ _ f1
      replace f2 := s5 _ _ f2
      replace f4 := s5 _ _ f4
      have S5 : Same H G5 := S4.trans s5
      refine ⟨by show 2 ≤ sizeLine; decide, fun q7 e7 => ?_⟩
      have s7 := Same.up (o := .tup [.bl true, .int 1]) e7
      have f7 : upd G5 q7 (.tup [.bl true, .int 1]) q7 = some (.tup [.bl true, .int 1]) := upd_same
      generalize upd G5 q7 (.tup [.bl true, .int 1]) = G7 at *
      replace f0 := s7 _ _ f0
      replace f1 := s7 _ _ f1
      replace f2 := s7 _ _ f2
      replace f4 := s7 _ _ f4
      replace f5 := s7 _ _ f5
      have S7 : Same H G7 := S5.trans s7
      refine ⟨by show 1 ≤ sizeLine; decide, fun q8 e8 => ?_⟩
      have s8 := Same.up (o := .tup [.int 3]) e8
      have f8 : upd G7 q8 (.tup [.int 3]) q8 = some (.tup [.int 3]) := upd_same
      generalize upd G7 q8 (.tup [.int 3]) = G8 at *
      replace f0 := s8 _ _ f0
      replace f1 := s8 _ _ f1
      replace f2 := s8 _ _ f2
      replace f4 := s8 _ _ f4
      replace f5 := s8 _ _ f5
      replace f7 := s8 _ _ f7
      have S8 : Same H G8 := S7.trans s8
      refine ⟨by show 3 ≤ sizeLine; decide, fun q9 e9 => ?_⟩
      have s9 := Same.up (o := .tup [.int 1, .int 2, .int 3]) e9
      have f9 : upd G8 q9 (.tup [.int 1, .int 2, .int 3]) q9 = some (.tup [.int 1, .int 2, .int 3]) := upd_same
      generalize upd G8 q9 (.tup [.int 1, .int 2, .int 3]) = G9 at *
      replace f0 := s9 _ _ f0
      replace f1 := s9 _ _ f1
      replace f2 := s9 _ _ f2
      replace f4 := s9 _ _ f4
      replace f5 := s9 _ _ f5
      replace f7 := s9 _ _ f7
      replace f8 := s9 _ _ f8
      have S9 : Same H G9 := S8.trans s9
      refine ⟨by show 2 ≤ sizeLine; decide, fun q10 e10 => ?_⟩
      have s10 := Same.up (o := .tup [.int 5, .bl true]) e10
      have f10 : upd G9 q10 (.tup [.int 5, .bl true]) q10 = some (.tup [.int 5, .bl true]) := upd_same
      generalize upd G9 q10 (.tup [.int 5, .bl true]) = G10 at *
      replace f0 := s10 _ _ f0
      replace f1 := s10 _ _ f1
      replace f2 := s10 _ _ f2
      replace f4 := s10 _ _ f4
      replace f5 := s10 _ _ f5
      replace f7 := s10 _ _ f7
      replace f8 := s10 _ _ f8
      replace f9 := s10 _ _ f9
      have S10 : Same H G10 := S9.trans s10
      refine ⟨by show 2 ≤ sizeLine; decide, fun q11 e11 => ?_⟩
      have s11 := Same.up (o := .tup [.int 0, .int 2]) e11
      have f11 : upd G10 q11 (.tup [.int 0, .int 2]) q11 = some (.tup [.int 0, .int 2]) := upd_same
      generalize upd G10 q11 (.tup [.int 0, .int 2]) = G11 at *
      replace f0 := s11 _ _ f0
      replace f1 := s11 _ _ f1
      replace f2 := s11 _ _ f2
      replace f4 := s11 _ _ f4
      replace f5 := s11 _ _ f5
      replace f7 := s11 _ _ f7
      replace f8 := s11 _ _ f8
      replace f9 := s11 _ _ f9
      replace f10 := s11 _ _ f10
      have S11 : Same H G11 := S10.trans s11
      refine ⟨by show 12 ≤ sizeLine; decide, fun t ht => ?_⟩
      have n0 := hl.ne e0
      have n1 := (hl.same S0).ne e1
      have n2 := (hl.same S1).ne e2
      have n4 := (hl.same S2).ne e4
      have n5 := (hl.same S4).ne e5
      have n7 := (hl.same S5).ne e7
      have n8 := (hl.same S7).ne e8
      have n9 := (hl.same S8).ne e9
      have n10 := (hl.same S9).ne e10
      have n11 := (hl.same S10).ne e11
      have hl2 := hl.same S11
      have nt := hl2.ne ht
      refine ⟨_, rfl, _, rfl, l, 12, rfl, hl2.same (Same.up ht), by decide, by decide, fun H1 r b1 h1 hr1 => ?_⟩
      have U : ∀ {q : Addr} {o : HO}, q ≠ l → G11 q = some o → H1 q = some o := fun nq z => b1 _ _ nq (Same.up ht _ _ z)
      have ft1 := b1 t _ nt upd_same
      obtain ⟨v, e, ho⟩ := odd_listF (K := K) (U n0 f0) (U n1 f1) (U n2 f2) (U n4 f4) (U n5 f5) (U n7 f7) (U n8 f8) (U n9 f9) (U n10 f10) (U n11 f11) r hr1
      exact ⟨_, _, _, _, rfl, rfl, SqT.of ft1, atI_nat e, k H1 v (((Same.but S11).same (Same.up ht)).trans b1) h1 ho⟩
end
end G3
namespace G3
open PySem PySem.Spec PyProof.Rows L2
theorem raise_sm {p : Nat} {x : Nb} {e : Int} (hp : Fp p) (nx : IsN p x) (sx : Sm 60 x) (e8 : p = 0 → e.natAbs ≤ 8) (hz : x.1 ≠ 0) : IsN p (nRaise p x e) ∧ Sm 4000 (nRaise p x e) := by
  rw [raise_base]
  have ny : IsN p (pwBase p x e) := by
    unfold pwBase
    by_cases hn : e < 0
    · rw [if_pos hn]
      by_cases h0 : p = 0
      · subst h0
        rw [if_pos rfl]
        exact low_fr hz
      · rw [if_neg h0]
        exact isN_pow hp nx _
    · rw [if_neg hn]
      exact nx
  have sy : Sm 60 (pwBase p x e) := by
    by_cases h0 : p = 0
    · subst h0
      unfold pwBase
      by_cases hn : e < 0
      · rw [if_pos hn, if_pos rfl]
        exact low_sm hz sx.2 sx.1
      · rw [if_neg hn]
        exact sx
    · exact nb_sm hp h0 ny (by decide)
  have q := nPow_sm hp sy (t := e.natAbs) e8
  exact ⟨isN_pow hp ny _, small_up 4000 q.1 (by decide), small_up 4000 q.2 (by decide)⟩
/-- what the program's power gives -/
def rsv (p : Nat) (x : Nb) (e : Int) : Nb := if x.1 = 0 then (if e = 0 then (1, 1) else (0, 1)) else nRaise p x e
theorem rsv_ok {p : Nat} {x : Nb} {e : Int} (hp : Fp p) (nx : IsN p x) (sx : Sm 60 x) (e8 : p = 0 → e.natAbs ≤ 8) : IsN p (rsv p x e) ∧ Sm 4000 (rsv p x e) := by
  unfold rsv
  by_cases hz : x.1 = 0
  · rw [if_pos hz]
    by_cases he : e = 0
    · rw [if_pos he]
      exact ⟨isN_one hp, small_up (n := 1) 4000 (by show (1 : Int).natAbs < 2 ^ 1; decide) (by decide), small_up (n := 1) 4000 (by show (1 : Int).natAbs < 2 ^ 1; decide) (by decide)⟩
    · rw [if_neg he]
      exact ⟨isN_zero hp, small_up (n := 1) 4000 (by show (0 : Int).natAbs < 2 ^ 1; decide) (by decide), small_up (n := 1) 4000 (by show (1 : Int).natAbs < 2 ^ 1; decide) (by decide)⟩
  · rw [if_neg hz]
    exact raise_sm hp nx sx e8 hz
theorem rsv_one {p : Nat} {x : Nb} (hp : Fp p) : rsv p x 0 = (1, 1) := by
  unfold rsv
  by_cases hz : x.1 = 0
  · rw [if_pos hz, if_pos rfl]
  · rw [if_neg hz]
    exact nPow_zero hp
/-- [text, True] and [text, number] as data -/
theorem dp_tb {K : PySem.W.Frag} {H : Hp} {a : Addr} {x : Str} {b : Bool} (h : H a = some (.lst [.str x, .bl b])) : Dp K H (.ref a) (.list [.str x, .bool b]) := .lst (SqL.of h) (.cons (.str _) (.cons (.bl _) .nil))
theorem dp_ti {K : PySem.W.Frag} {H : Hp} {a : Addr} {x : Str} {i : Int} (h : H a = some (.lst [.str x, .int i])) : Dp K H (.ref a) (.list [.str x, .int i]) := .lst (SqL.of h) (.cons (.str _) (.cons (.int _) .nil))
theorem sh_tb (x : String) (b : Bool) : SeqAt.shaped (.list [.str (Str.ofString x), .bool b]) = true := by simp [SeqAt.shaped, PyData.canLay0, PyData.canLayAll0, PyData.depth, PyData.depthAll, ofs_ok]
theorem sh_ti (x : String) (i : Int) : SeqAt.shaped (.list [.str (Str.ofString x), .int i]) = true := by simp [SeqAt.shaped, PyData.canLay0, PyData.canLayAll0, PyData.depth, PyData.depthAll, ofs_ok]
theorem isPv_int (n : Int) : (decide (Pr n.toNat) && decide (n ≤ 20000)) = isPv (.int n) := by
  show _ = (decide (2 ≤ n ∧ n ≤ 20000) && decide (Pr n.toNat))
  by_cases h : Pr n.toNat
  · have := h.1
    rw [decide_eq_true h, Bool.true_and, Bool.and_true]
    by_cases h2 : n ≤ 20000
    · rw [decide_eq_true h2, decide_eq_true ⟨by omega, h2⟩]
    · rw [decide_eq_false h2, decide_eq_false fun z => h2 z.2]
  · rw [decide_eq_false h, Bool.false_and, Bool.and_false]
section
variable {P : Program} {w : World} {K : PySem.W.Frag} {mg : Str → Option Value} {base : Heap}
theorem sc_l_powers_hold : FnScope ["_law_field_here", "_law_prime_here", "_law_a", "_law_exponent_here", "_law_zero", "_law_told", "_law_due"] ["_law_field_here", "_law_prime_here", "_law_a", "_law_exponent_here", "_law_zero"] (defScope (top 47)) := ⟨rfl, rfl, rfl, by decide +kernel, rfl, by decide +kernel, by decide +kernel⟩
theorem ok_l_powers_hold (D : Df K mg "_law_powers_hold" (top 47) ["_law_field_here", "_law_prime_here", "_law_a", "_law_exponent_here", "_law_zero"]) (B : Bn mg) (c_l_raised : C_l_raised P w K mg base) (c_l_one : C_l_one P w K mg base) (c_l_power : C_l_power P w K mg base) (c_l_same : C_l_same P w K mg base) : C_l_powers_hold P w K mg base := by
  refine D.ok sc_l_powers_hold (fun vs H Q E h => ?_) (fun f cdv A outer s H vs Q E hr h => ?_)
  · obtain ⟨_, _, _, _, _, _, rfl, _⟩ := h
    rfl
  · obtain ⟨g, p, va, vz, x, e, rfl, hp, hf, hx, nx, sx31, he, he8, hz0, k⟩ := h
    have sx : Sm 60 x := ⟨small_up 60 sx31.1 (by decide), small_up 60 sx31.2 (by decide)⟩
    refine ⟨_, (pss_cons (ps_set (i := 5) sc_l_powers_hold.nd rfl (Or.inl rfl) (pcl c_l_raised (hr.mono (by decide)) pass0 (pa_cons (pv 0) (pa_cons (pv 2) (pa_cons (pv 3) pa_nil)))))
      (pss_mid (ps_if (PW.pt (pw_and (pt_cmpR (op_eqD hr.units) (pv 2) (pv 4) (nomark _)) (pw_and1 (pt_cmpR op_lt (pv 3) pe_int (nomark _)))))
        (pss_one (ps_ret (pe_cmpR (op_eqD hr.units) (pv 5) (pe_lst (pa_cons pe_str (pa_cons pe_bl pa_nil))) (nomark _))))
        pss_nil)
      (pss_cons (ps_set (i := 6) sc_l_powers_hold.nd rfl (Or.inl rfl) (pv 4))
      (pss_mid (ps_if (pt_cmpR op_eq (pv 3) pe_int (nomark _))
        (pss_one (ps_set (i := 6) sc_l_powers_hold.nd rfl (Or.inl rfl) (pcl c_l_one (hr.mono (by decide)) pass0 (pa_cons (pv 1) pa_nil))))
        (pss_one (ps_if (pt_cmpR (op_neD hr.units) (pv 2) (pv 4) (nomark _))
          (pss_one (ps_set (i := 6) sc_l_powers_hold.nd rfl (Or.inl rfl) (pcl c_l_power (hr.mono (by decide)) pass0 (pa_cons (pv 1) (pa_cons (pv 2) (pa_cons (pv 3) pa_nil))))))
          pss_nil)))
      (pss_one (ps_ret (pe_and (pe_cmpR op_eq (pe_ix ix_list (pv 5) pe_int (fun _ _ => rfl)) pe_str (nomark _)) (pe_one (pcl c_l_same (hr.mono (by decide)) pass0 (pa_cons (pv 1) (pa_cons (pe_ix ix_list (pv 5) pe_int (fun _ _ => rfl)) (pa_cons (pv 6) pa_nil)))))))))))), ?_⟩
    have ez : PyData.eqv (nd p x) (nd p (0, 1)) = decide (x = (0, 1)) := eqv_nd hp nx (isN_zero hp)
    refine ⟨_, rfl, _, rfl, _, rfl, g, p, va, x, e, rfl, hp, hf, hx, nx, sx, he, he8, fun hz hn H1 a s1 ha => ?_, fun hnz H1 a v s1 ha hv => ?_⟩
    · refine ⟨fun _ _ => False, ?_, fun _ _ q => q.elim⟩
      refine ⟨_, rfl, _, rfl, nd p x, nd p (0, 1), dp_nd (hx.same s1), dp_nd (hz0.same s1), sh_nd _ _, sh_nd _ _, true, by rw [ez, decide_eq_true ((zero_iff hp nx).mpr hz)], iteT ?_⟩
      refine ⟨_, rfl, _, _, rfl, rfl, true, by show V.bl (decide (e < 0)) = V.bl true; rw [decide_eq_true hn], iteT ?_⟩
      refine ⟨_, rfl, by show 2 ≤ sizeLine; decide, fun b hb => ⟨_, _, dp_tb ((upd_ne (ne_of_none ha hb)).trans ha), dp_tb upd_same, sh_tb _ _, sh_tb _ _, ?_⟩⟩
      rw [eqv_same (sh_tb _ _)]
      exact k _ (Same.up' s1 hb)
    · change NAt H1 p v (rsv p x e) at hv
      refine ⟨fun σ' H' => H' = H1 ∧ σ' = [some (.ref g), some (.int p), some va, some (.int e), some vz, some (.ref a), none], ?_, ?_⟩
      · refine ⟨_, rfl, _, rfl, nd p x, nd p (0, 1), dp_nd (hx.same s1), dp_nd (hz0.same s1), sh_nd _ _, sh_nd _ _, _, rfl, ite2 (fun c => ?_) (fun c => iteF ⟨rfl, rfl⟩)⟩
        rw [ez] at c
        have hz := (zero_iff hp nx).mp (of_decide_eq_true c)
        refine ⟨_, rfl, _, _, rfl, rfl, _, rfl, ite2 (fun c2 => absurd ⟨hz, of_decide_eq_true c2⟩ hnz) (fun c2 => ⟨rfl, rfl⟩)⟩
      · rintro σ1 H2 ⟨rfl, rfl⟩
        refine ⟨_, rfl, ?_⟩
        refine ⟨fun σ' H' => Same H2 H' ∧ ∃ vd : V, σ' = [some (.ref g), some (.int p), some va, some (.int e), some vz, some (.ref a), some vd] ∧ NAt H' p vd (rsv p x e), ?_, ?_⟩
        · refine ⟨_, rfl, rfl, _, rfl, ite2 (fun c => ?_) (fun c => ?_)⟩
          · have he0 : e = 0 := inj_int c
            subst he0
            exact ⟨_, rfl, p, rfl, hp, fun H' vd hs hv2 => ⟨hs, vd, rfl, by rw [rsv_one hp]; exact hv2⟩⟩
          · have he0 : e ≠ 0 := ninj_int c
            refine ⟨_, rfl, _, rfl, nd p x, nd p (0, 1), dp_nd (hx.same s1), dp_nd (hz0.same s1), sh_nd _ _, sh_nd _ _, _, rfl, ite2 (fun c2 => ?_) (fun c2 => ?_)⟩
            · rw [ez] at c2
              have hxz : x.1 ≠ 0 := fun z => by
                rw [decide_eq_true ((zero_iff hp nx).mpr z)] at c2
                cases c2
              exact ⟨_, rfl, _, rfl, _, rfl, p, va, x, e, rfl, hp, hx.same s1, nx, hxz, sx, he, he8, fun H' vd hs hv2 => ⟨hs, vd, rfl, by unfold rsv; rw [if_neg hxz]; exact hv2⟩⟩
            · rw [ez] at c2
              have hxz : x.1 = 0 := by
                by_cases z : x = (0, 1)
                · rw [z]
                · exact absurd (by rw [decide_eq_false z]; rfl) c2
              refine ⟨Same.refl _, vz, rfl, ?_⟩
              unfold rsv
              rw [if_pos hxz, if_neg he0]
              exact hz0.same s1
        · rintro σ3 H3 ⟨s3, vd, rfl, hd⟩
          have rk := rsv_ok hp nx sx he8
          refine ⟨_, rfl, _, _, _, _, rfl, rfl, SqL.of (s3 _ _ ha), rfl, rfl, true, congrArg V.bl (decide_eq_true rfl), iteT ?_⟩
          exact ⟨_, rfl, _, rfl, _, _, _, _, rfl, rfl, SqL.of (s3 _ _ ha), rfl, _, rfl, p, v, vd, _, rfl, hp, hv.same s3, hd, rk.1, rk.2, k H3 (s1.trans s3)⟩
theorem six_ints {r : Nat} {q : Nat} (hr : r < 20026) (hq : q ≤ 19997) {i : Nat} {x : V} (h : [V.int ((r : Int) - 5), V.int q, V.int 19997, V.int 20011, V.int 2, V.int 1][i]? = some x) : ∃ n : Int, x = .int n ∧ n ≤ 30000 := by
  have m := List.mem_of_getElem? h
  simp only [List.mem_cons, List.not_mem_nil, or_false] at m
  rcases m with rfl | rfl | rfl | rfl | rfl | rfl
  · exact ⟨_, rfl, by omega⟩
  · exact ⟨_, rfl, by omega⟩
  · exact ⟨_, rfl, by decide⟩
  · exact ⟨_, rfl, by decide⟩
  · exact ⟨_, rfl, by decide⟩
  · exact ⟨_, rfl, by decide⟩
theorem nine {H : Hp} {q1 q2 : Addr} {X : Int} (hX : 20000 < X) (h1 : H q1 = some (.tup [.int 7])) (h2 : H q2 = some (.lst [.int 5])) : ∀ r : Nat, r < 9 → ∃ v, [V.bl true, V.non, V.str "7", V.ref q1, V.ref q2, V.int 0, V.int (0 - 7), V.int X, V.bl false][r]? = some v ∧ Th H v ∧ isPv v = false
  | 0, _ => ⟨_, rfl, .bl _, rfl⟩
  | 1, _ => ⟨_, rfl, .non, rfl⟩
  | 2, _ => ⟨_, rfl, .str _, rfl⟩
  | 3, _ => ⟨_, rfl, .tup h1, rfl⟩
  | 4, _ => ⟨_, rfl, .lst h2, rfl⟩
  | 5, _ => ⟨_, rfl, .int _, rfl⟩
  | 6, _ => ⟨_, rfl, .int _, rfl⟩
  | 7, _ => ⟨_, rfl, .int _, by
      show (decide (2 ≤ X ∧ X ≤ 20000) && decide (Pr X.toNat)) = false
      rw [decide_eq_false (by omega), Bool.false_and]⟩
  | 8, _ => ⟨_, rfl, .bl _, rfl⟩
  | n + 9, h => absurd h (by omega)
theorem sc_l_primes_hold : FnScope ["_law_hand_here", "_law_number_here", "_law_due", "_law_told", "_law_odd_here"] ["_law_hand_here"] (defScope (top 39)) := ⟨rfl, rfl, rfl, by decide +kernel, rfl, by decide +kernel, by decide +kernel⟩
theorem ok_l_primes_hold (D : Df K mg "_law_primes_hold" (top 39) ["_law_hand_here"]) (B : Bn mg) (c_l_draw : C_l_draw P w K mg base) (c_l_next_prime : C_l_next_prime P w K mg base) (c_l_prime : C_l_prime P w K mg base) (c_is_prime : C_is_prime P w K mg base) (c_l_field_told : C_l_field_told P w K mg base) : C_l_primes_hold P w K mg base := by
  refine D.ok sc_l_primes_hold (fun vs H Q E h => ?_) (fun f cdv A outer s H vs Q E hr h => ?_)
  · obtain ⟨_, rfl, _⟩ := h
    rfl
  · obtain ⟨l, rfl, hl, k⟩ := h
    refine ⟨_, (pss_cons (ps_for PassesOwn.never rfl (pi_tup (pe_tup (pa_cons (pe_op op_sub (pcl c_l_draw (hr.mono (by decide)) pass0 (pa_cons (pv 0) (pa_cons pe_int pa_nil))) pe_int) (pa_cons (pcl c_l_next_prime (hr.mono (by decide)) pass0 (pa_cons (pe_op op_add pe_int (pcl c_l_draw (hr.mono (by decide)) pass0 (pa_cons (pv 0) (pa_cons pe_int pa_nil)))) pa_nil)) (pa_cons pe_int (pa_cons pe_int (pa_cons pe_int (pa_cons pe_int pa_nil)))))))) (pg_name (i := 1) sc_l_primes_hold.nd rfl (Or.inl rfl))
        (pss_mid (ps_set (i := 2) sc_l_primes_hold.nd rfl (Or.inl rfl) (pe_and (pcl c_l_prime (hr.mono (by decide)) pass0 (pa_cons (pv 1) pa_nil)) (pe_one (pe_cmpR op_le (pv 1) pe_int (nomark _)))))
        (pss_cons (ps_set (i := 3) sc_l_primes_hold.nd rfl (Or.inl rfl) (pcl c_is_prime (hr.mono (by decide)) pass0 (pa_cons (pv 1) pa_nil)))
        (pss_one (ps_if (PW.pt (pw_or (pt_not (pt_val (pe_callB call_isi (by rfl) B.isi boot_isinstance (pa_cons (pv 3) (pa_cons (pe_bltn (v := .ty "bool") (by rfl) B.bool_ PyProof.Rows.boot_bool rfl) pa_nil))))) (pw_or (pt_cmpR op_ne (pv 3) (pv 2) (nomark _)) (pw_or1 (pt_cmpR (op_neD hr.units) (pcl c_l_field_told (hr.mono (by decide)) pass0 (pa_cons (pv 1) pa_nil)) (pe_ifExp (pt_truth (pv 2) (by intro _; rfl)) (pe_lst (pa_cons pe_str (pa_cons (pv 1) pa_nil))) (pe_lst (pa_cons pe_str (pa_cons pe_bl pa_nil)))) (nomark _))))))
          (pss_one (ps_ret pe_bl))
          pss_nil)))))
      (pss_cons (ps_set (i := 4) sc_l_primes_hold.nd rfl (Or.inl rfl) (pe_ix ix_tup (pe_tup (pa_cons pe_bl (pa_cons pe_non (pa_cons pe_str (pa_cons (pe_tup (pa_cons pe_int pa_nil)) (pa_cons (pe_lst (pa_cons pe_int pa_nil)) (pa_cons pe_int (pa_cons (pe_op op_sub pe_int pe_int) (pa_cons (pe_op op_add (pe_op op_pow pe_int pe_int) pe_int) (pa_cons pe_bl pa_nil)))))))))) (pcl c_l_draw (hr.mono (by decide)) pass0 (pa_cons (pv 0) (pa_cons pe_int pa_nil))) (fun _ _ => rfl)))
      (pss_one (ps_ret (pe_and (pe_cmpR op_is_bl (pcl c_is_prime (hr.mono (by decide)) pass0 (pa_cons (pv 4) pa_nil)) pe_bl (nomark _)) (pe_one (pe_cmpR (op_eqD hr.units) (pcl c_l_field_told (hr.mono (by decide)) pass0 (pa_cons (pv 4) pa_nil)) (pe_lst (pa_cons pe_str (pa_cons pe_bl pa_nil))) (nomark _)))))))), ?_⟩
    refine ⟨_, rfl, l, 20026, rfl, hl, by decide, by decide, fun H1 r b1 h1 hr1 => ⟨_, _, rfl, rfl, ?_⟩⟩
    refine ⟨_, rfl, l, 19996, rfl, h1, by decide, by decide, fun H2 r2 b2 h2 hr2 => ⟨_, _, rfl, rfl, 2 + r2, congrArg (fun z => [V.int z]) (by omega), by omega, by omega, fun q hq hq2 => ?_⟩⟩
    refine ⟨by show 6 ≤ sizeLine; decide, fun t ht => ⟨t, rfl, ⟨_, SqT.of upd_same⟩, ?_⟩⟩
    have nt := h2.ne ht
    refine for_tup (K := K) (a := t) (xs := [V.int ((r : Int) - 5), V.int q, V.int 19997, V.int 20011, V.int 2, V.int 1]) (fun i σ H' => But l H H' ∧ Hand H' l ∧ H' t = some (.tup [V.int ((r : Int) - 5), V.int q, V.int 19997, V.int 20011, V.int 2, V.int 1]) ∧ ∃ v1 v2 v3 : Option V, σ = [some (.ref l), v1, v2, v3, none])
      ⟨(b1.trans b2).same (Same.up ht), h2.same (Same.up ht), upd_same, none, none, none, rfl⟩ (fun i σ H' _ h => SqT.of h.2.2.1) ?_ ?_
    · rintro i x σ H3 hx ⟨b3, h3, ht3, v1, v2, v3, rfl⟩
      obtain ⟨n, rfl, hn⟩ := six_ints hr1 hq2 hx
      refine ⟨fun σ' H' => H' = H3 ∧ σ' = [some (.ref l), some (.int n), some (.bl (isPv (.int n))), v3, none], ?_, ?_⟩
      · refine ⟨_, rfl, n, rfl, hn, _, rfl, ite2 (fun c => ?_) (fun c => ⟨rfl, ?_⟩)⟩
        · refine ⟨_, rfl, _, _, rfl, rfl, rfl, ?_⟩
          rw [← isPv_int, c, Bool.true_and]
          rfl
        · rw [← isPv_int, eq_false_of_ne_true c]
          rfl
      · rintro σ4 H4 ⟨rfl, rfl⟩
        refine ⟨_, rfl, .int n, rfl, .int n, ?_⟩
        refine ⟨_, rfl, _, _, _, _, _, rfl, .ty "bool", .base (.bl _), kit_ty k_bool_bool, _, rfl, iteF ?_⟩
        refine ⟨_, rfl, _, rfl, rfl, false, by show V.bl (!decide (V.bl (isPv (.int n)) = V.bl (isPv (.int n)))) = V.bl false; rw [decide_eq_true rfl]; rfl, iteF ?_⟩
        refine ⟨_, rfl, .int n, rfl, .int n, fun H5 a s5 ha ha5 => ?_⟩
        have fin : But l H H5 ∧ Hand H5 l ∧ H5 t = some (.tup [V.int ((r : Int) - 5), V.int q, V.int 19997, V.int 20011, V.int 2, V.int 1]) := ⟨b3.same s5, h3.same s5, s5 _ _ ht3⟩
        cases e : isPv (.int n) with
        | true =>
          rw [if_pos e] at ha5
          refine ⟨_, rfl, _, rfl, iteT ⟨_, rfl, by show 2 ≤ sizeLine; decide, fun b hb => ⟨_, _, dp_ti ((upd_ne (ne_of_none ha5 hb)).trans ha5), dp_ti upd_same, sh_ti _ _, sh_ti _ _, false, by rw [eqv_same (sh_ti _ _)]; rfl, ?_⟩⟩⟩
          exact ⟨fin.1.same (Same.up hb), fin.2.1.same (Same.up hb), Same.up hb _ _ fin.2.2, _, _, _, rfl⟩
        | false =>
          rw [if_neg (by rw [e]; decide)] at ha5
          refine ⟨_, rfl, _, rfl, iteF ⟨by show 2 ≤ sizeLine; decide, fun b hb => ⟨_, _, dp_tb ((upd_ne (ne_of_none ha5 hb)).trans ha5), dp_tb upd_same, sh_tb _ _, sh_tb _ _, false, by rw [eqv_same (sh_tb _ _)]; rfl, ?_⟩⟩⟩
          exact ⟨fin.1.same (Same.up hb), fin.2.1.same (Same.up hb), Same.up hb _ _ fin.2.2, _, _, _, rfl⟩
    · rintro σ H3 ⟨b3, h3, ht3, v1, v2, v3, rfl⟩
      have hX : (20000 : Int) < (10 : Int) ^ ((30 : Int).toNat) + 57 := by decide
      refine ⟨by show 1 ≤ sizeLine; decide, fun q1 e1 => ?_⟩
      have s1 := Same.up (o := .tup [.int 7]) e1
      have f1 : upd H3 q1 (.tup [.int 7]) q1 = some (.tup [.int 7]) := upd_same
      have n1 := h3.ne e1
      generalize upd H3 q1 (.tup [.int 7]) = G1 at *
      refine ⟨by show 1 ≤ sizeLine; decide, fun q2 e2 => ?_⟩
      have s2 := Same.up (o := .lst [.int 5]) e2
      have f2 : upd G1 q2 (.lst [.int 5]) q2 = some (.lst [.int 5]) := upd_same
      have n2 := (h3.same s1).ne e2
      generalize upd G1 q2 (.lst [.int 5]) = G2 at *
      replace f1 := s2 _ _ f1
      refine ⟨_, _, rfl, rfl, _, _, rfl, rfl, ⟨by decide, by decide, by decide⟩, _, _, rfl, rfl, ?_⟩
      refine ⟨by show 9 ≤ sizeLine; decide, fun q3 e3 => ?_⟩
      have hG := (h3.same s1).same s2
      have n3 := hG.ne e3
      refine ⟨_, rfl, l, 9, rfl, hG.same (Same.up e3), by decide, by decide, fun H4 r4 b4 h4 hr4 => ?_⟩
      have U : ∀ {q : Addr} {o : HO}, q ≠ l → G2 q = some o → H4 q = some o := fun nq z => b4 _ _ nq (Same.up e3 _ _ z)
      have f3 := b4 q3 _ n3 upd_same
      obtain ⟨v, e, tv, iv⟩ := nine hX (U n1 f1) (U n2 f2) r4 hr4
      have bb : But l H H4 := (((b3.same s1).same s2).same (Same.up e3)).trans b4
      refine ⟨_, _, _, _, rfl, rfl, SqT.of f3, atI_nat e, ?_⟩
      refine ⟨_, rfl, v, rfl, tv, _, false, by rw [iv], rfl, true, rfl, iteT ?_⟩
      refine ⟨_, rfl, v, rfl, tv, fun H5 a s5 ha ha5 => ?_⟩
      rw [if_neg (by rw [iv]; decide)] at ha5
      refine ⟨by show 2 ≤ sizeLine; decide, fun b hb => ⟨_, _, dp_tb ((upd_ne (ne_of_none ha5 hb)).trans ha5), dp_tb upd_same, sh_tb _ _, sh_tb _ _, ?_⟩⟩
      rw [eqv_same (sh_tb _ _)]
      exact k _ ((bb.same s5).same (Same.up hb)) ((h4.same s5).same (Same.up hb))
end
end G3
namespace G3
open PySem PySem.Spec PyProof.Rows L2
section
variable {K : PySem.W.Frag} {mg : Str → Option Value} {H H' : Hp} {p : Nat} {g l : Addr} {v : V} {x y : Nb}
theorem lst_ne {a : Addr} {xs ys : List V} (h : H l = some (.lst xs)) (h2 : H a = some (.tup ys)) : a ≠ l := fun e => by
  rw [e, h] at h2
  cases h2
theorem ins_ne {a C dx : Addr} {xs : List V} {fs : List (Str × V)} (h : H l = some (.lst xs)) (h2 : H a = some (.ins C dx fs)) : a ≠ l := fun e => by
  rw [e, h] at h2
  cases h2
theorem NAt.but (h : NAt H p v x) (hl : Hand H l) (b : But l H H') : NAt H' p v x := by
  obtain ⟨_, _, _, _, _, hl, _⟩ := hl
  unfold NAt at *
  split
  · rename_i e
    rw [if_pos e] at h
    obtain ⟨a, h1, h2⟩ := h
    exact ⟨a, h1, b _ _ (lst_ne hl h2) h2⟩
  · rename_i e
    rw [if_neg e] at h
    exact h
theorem Fld.but (h : Fld K H p g) (hl : Hand H l) (b : But l H H') : Fld K H' p g := by
  obtain ⟨_, _, _, _, _, hl, _⟩ := hl
  unfold Fld at *
  split
  · rename_i e
    rw [if_pos e] at h
    obtain ⟨dx, z, o, m, h1, h2, h3, h4⟩ := h
    exact ⟨dx, z, o, m, b _ _ (ins_ne hl h1) h1, b _ _ (lst_ne hl h2) h2, b _ _ (lst_ne hl h3) h3, b _ _ (lst_ne hl h4) h4⟩
  · rename_i e
    rw [if_neg e] at h
    obtain ⟨h1, h2, dx, h3⟩ := h
    exact ⟨h1, h2, dx, b _ _ (ins_ne hl h3) h3⟩
/-- field.m(..) -/
theorem fop {E : XK} {m : Str} {op : Nat → Nb → Nb → Nb} {σ : L2.St} {Q : VK} {t : TA} {ta : TE} {va vb : V} (T : FT K mg) (hp : Fp p) (hf : Fld K H p g) (hx : NAt H p va x) (hy : NAt H p vb y) (nx : IsN p x) (ny : IsN p y) (sx : Sm 60 x) (sy : Sm 60 y)
    (hR : (rF p).lookup m = none) (hF : ∀ z o n, (fF z o n).lookup m = none) (ha : ∀ R : VK, R (.ref g) H → ta σ H R) (ht : ∀ R : List V → Hp → Prop, R [va, vb] H → t σ H R) (k : ∀ H' v, Same H H' → NAt H' p v (op p x y) → Q v H') :
    tOr2 (tMeth (CR K) m (sp_op K op false) [] E ta t) (tMeth (CF K) m (sp_op K op true) [] E ta t) σ H Q := by
  by_cases h0 : p = 0
  · subst h0
    obtain ⟨dx, z, o, n, hA, _⟩ := hf.fr
    exact .inr (ha _ ⟨g, dx, _, rfl, hA, hF _ _ _, ht _ ⟨g, 0, va, vb, x, y, rfl, by simp, hp, hf, hx, hy, nx, ny, sx, sy, k⟩⟩)
  · obtain ⟨h1, h2, dx, hA⟩ := hf.r h0
    exact .inl (ha _ ⟨g, dx, _, rfl, hA, hR, ht _ ⟨g, p, va, vb, x, y, rfl, by simp [h0], hp, hf, hx, hy, nx, ny, sx, sy, k⟩⟩)
theorem fnum {E : XK} {m : Str} {σ : L2.St} {Q : VK} {t : TA} {ta : TE} {i : Int} (T : FT K mg) (hp : Fp p) (hf : Fld K H p g)
    (hR : (rF p).lookup m = none) (hF : ∀ z o n, (fF z o n).lookup m = none) (ha : ∀ R : VK, R (.ref g) H → ta σ H R) (ht : ∀ R : List V → Hp → Prop, R [.int i] H → t σ H R) (k : ∀ H' v, Same H H' → NAt H' p v (if p = 0 then (i, 1) else (i % (p : Int), 1)) → Q v H') :
    tOr2 (tMeth (CR K) m (sp_number_of K false) [] E ta t) (tMeth (CF K) m (sp_number_of K true) [] E ta t) σ H Q := by
  by_cases h0 : p = 0
  · subst h0
    obtain ⟨dx, z, o, n, hA, _⟩ := hf.fr
    exact .inr (ha _ ⟨g, dx, _, rfl, hA, hF _ _ _, ht _ ⟨g, 0, i, rfl, by simp, hp, hf, k⟩⟩)
  · obtain ⟨h1, h2, dx, hA⟩ := hf.r h0
    exact .inl (ha _ ⟨g, dx, _, rfl, hA, hR, ht _ ⟨g, p, i, rfl, by simp [h0], hp, hf, k⟩⟩)
/-- field.f -/
theorem fget {nm : Str} {c : Nb} {σ : L2.St} {Q : VK} {ta : TE} (T : FT K mg) (hf : Fld K H p g) (nR : NoAttr K (CR K) nm) (nF : NoAttr K (CF K) nm) (hR : p ≠ 0 → (rF p).lookup nm = some (.int c.1) ∧ c.2 = 1)
    (hF : p = 0 → ∀ z o m, H z = some (.tup [.int 0, .int 1]) → H o = some (.tup [.int 1, .int 1]) → H m = some (.tup [.int (-1), .int 1]) → ∃ q, (fF z o m).lookup nm = some (.ref q) ∧ H q = some (.tup [.int c.1, .int c.2]))
    (ha : ∀ R : VK, R (.ref g) H → ta σ H R) (k : ∀ v, NAt H p v c → Q v H) : tFld K ta nm σ H Q := by
  by_cases h0 : p = 0
  · subst h0
    obtain ⟨dx, z, o, n, hA, h1, h2, h3⟩ := hf.fr
    obtain ⟨q, e, hq⟩ := hF rfl z o n h1 h2 h3
    exact ha _ ⟨g, _, dx, _, _, rfl, hA, T.clF, nF, e, k _ (NAt.of_fr hq)⟩
  · obtain ⟨h1, h2, dx, hA⟩ := hf.r h0
    obtain ⟨e, e1⟩ := hR h0
    refine ha _ ⟨g, _, dx, _, _, rfl, hA, T.clR, nR, e, k _ ?_⟩
    unfold NAt
    rw [if_neg h0]
    exact ⟨rfl, e1⟩
theorem sm_up {a : Nat} (b : Nat) (h : Sm a x) (hb : a ≤ b) : Sm b x := ⟨small_up b h.1 hb, small_up b h.2 hb⟩
theorem plus_sm (hp : Fp p) (nx : IsN p x) (ny : IsN p y) (sx : Sm 60 x) (sy : Sm 60 y) : Sm 4000 (nPlus p x y) := by
  by_cases h0 : p = 0
  · subst h0
    have fx : IsFr x := nx
    have fy : IsFr y := ny
    exact sm_up (a := 121) 4000 (low_sm (by have := Int.mul_pos fx.1 fy.1; omega) (add_small (wide_lt sx.1 sy.2) (wide_lt sy.1 sx.2)) (small_up 121 (wide_lt sx.2 sy.2) (by decide))) (by decide)
  · exact nb_sm hp h0 (isN_plus hp nx ny) (by decide)
theorem less_sm (hp : Fp p) (nx : IsN p x) (ny : IsN p y) (sx : Sm 60 x) (sy : Sm 60 y) : Sm 4000 (nLess p x y) := by
  by_cases h0 : p = 0
  · subst h0
    have fx : IsFr x := nx
    have fy : IsFr y := ny
    exact sm_up (a := 121) 4000 (low_sm (by have := Int.mul_pos fx.1 fy.1; omega) (sub_small (wide_lt sx.1 sy.2) (wide_lt sy.1 sx.2)) (small_up 121 (wide_lt sx.2 sy.2) (by decide))) (by decide)
  · exact nb_sm hp h0 (isN_less hp nx ny) (by decide)
theorem times_sm (hp : Fp p) (nx : IsN p x) (ny : IsN p y) (sx : Sm 60 x) (sy : Sm 60 y) : Sm 4000 (nTimes p x y) := by
  by_cases h0 : p = 0
  · subst h0
    have fx : IsFr x := nx
    have fy : IsFr y := ny
    exact sm_up (a := 120) 4000 (low_sm (by have := Int.mul_pos fx.1 fy.1; omega) (wide_lt sx.1 sy.1) (wide_lt sx.2 sy.2)) (by decide)
  · exact nb_sm hp h0 (isN_times hp nx ny) (by decide)
theorem sm_one {b : Nat} (hb : 1 ≤ b) : Sm b (1, 1) := sm_up (a := 1) b ⟨by decide, by decide⟩ hb
theorem sm_zero {b : Nat} (hb : 1 ≤ b) : Sm b (0, 1) := sm_up (a := 1) b ⟨by decide, by decide⟩ hb
theorem sm_minus (hp : Fp p) {b : Nat} (hb : 15 ≤ b) : Sm b (nMinus p) := by
  by_cases h0 : p = 0
  · subst h0
    exact sm_up (a := 15) b ⟨by decide, by decide⟩ hb
  · exact nb_sm hp h0 (isN_minus hp) hb
def wn (p : Nat) (i : Int) : Nb := if p = 0 then (i, 1) else (i % (p : Int), 1)
theorem wn_ok (hp : Fp p) {i : Int} (hi : i.natAbs < 2 ^ 31) : IsN p (wn p i) ∧ Sm 4000 (wn p i) := by
  unfold wn
  by_cases h0 : p = 0
  · subst h0
    rw [if_pos rfl]
    exact ⟨⟨show (0 : Int) < 1 by decide, Int.gcd_one_right i⟩, sm_up (a := 31) 4000 ⟨hi, show (1 : Int).natAbs < 2 ^ 31 by decide⟩ (by decide)⟩
  · rw [if_neg h0]
    exact ⟨isN_mod hp h0 i, nb_sm hp h0 (isN_mod hp h0 i) (by decide)⟩
/-- what stands between the statements of a turn -/
structure Tn (K : PySem.W.Frag) (H0 : Hp) (l g : Addr) (p : Nat) (vz va vb : V) (x y : Nb) (H : Hp) : Prop where
  b : But l H0 H
  h : Hand H l
  f : Fld K H p g
  z : NAt H p vz (0, 1)
  x : NAt H p va x
  y : NAt H p vb y
theorem Tn.same {H0 : Hp} {vz va vb : V} (t : Tn K H0 l g p vz va vb x y H) (s : Same H H') : Tn K H0 l g p vz va vb x y H' := ⟨t.b.same s, t.h.same s, t.f.same s, t.z.same s, t.x.same s, t.y.same s⟩
theorem Tn.but {H0 : Hp} {vz va vb : V} (t : Tn K H0 l g p vz va vb x y H) (b : But l H H') (h : Hand H' l) : Tn K H0 l g p vz va vb x y H' := ⟨t.b.trans b, h, t.f.but t.h b, t.z.but t.h b, t.x.but t.h b, t.y.but t.h b⟩
end
/-- the quotient, told -/
def Qtd (p : Nat) (x y : Nb) (a : Addr) (H : Hp) : Prop :=
  (y.1 = 0 ∧ H a = some (.lst [.str "zero", .bl true])) ∨ (y.1 ≠ 0 ∧ ∃ v z, H a = some (.lst [.str "told", v]) ∧ NAt H p v z ∧ IsN p z ∧ Sm 200 z ∧ nTimes p z y = x)
theorem Qtd.same {p : Nat} {x y : Nb} {a : Addr} {H H' : Hp} (q : Qtd p x y a H) (s : Same H H') : Qtd p x y a H' := by
  rcases q with ⟨h, ha⟩ | ⟨h, v, z, ha, hv, r⟩
  · exact .inl ⟨h, s _ _ ha⟩
  · exact .inr ⟨h, v, z, s _ _ ha, hv.same s, r⟩
section
variable {P : Program} {w : World} {K : PySem.W.Frag} {mg : Str → Option Value} {base : Heap}
theorem sc_l_sums_hold : FnScope ["_law_hand_here", "_law_field_here", "_law_prime_here", "_law_zero", "_law_turn", "_law_a", "_law_b", "_law_told", "_law_whole_here", "_law_odd_here"] ["_law_hand_here", "_law_field_here", "_law_prime_here"] (defScope (top 48)) := ⟨rfl, rfl, rfl, by decide +kernel, rfl, by decide +kernel, by decide +kernel⟩
theorem ok_l_sums_hold (D : Df K mg "_law_sums_hold" (top 48) ["_law_hand_here", "_law_field_here", "_law_prime_here"]) (B : Bn mg) (T : FT K mg)
    (c_l_same : C_l_same P w K mg base) (c_l_one : C_l_one P w K mg base) (c_l_minus : C_l_minus P w K mg base) (c_l_any_number : C_l_any_number P w K mg base) (c_l_plus : C_l_plus P w K mg base) (c_l_less : C_l_less P w K mg base) (c_l_times : C_l_times P w K mg base)
    (c_l_divided : C_l_divided P w K mg base) (c_l_is_number : C_l_is_number P w K mg base) (c_l_powers_hold : C_l_powers_hold P w K mg base) (c_l_exponent : C_l_exponent P w K mg base) (c_l_draw : C_l_draw P w K mg base) (c_l_number_told : C_l_number_told P w K mg base) (c_l_odd : C_l_odd P w K mg base)
    (rPlus : C_R_op P w K mg base "plus" nPlus) (fPlus : C_F_op P w K mg base "plus" nPlus) (rLess : C_R_op P w K mg base "less" nLess) (fLess : C_F_op P w K mg base "less" nLess) (rTimes : C_R_op P w K mg base "times" nTimes) (fTimes : C_F_op P w K mg base "times" nTimes)
    (rNum : C_R_number_of P w K mg base) (fNum : C_F_number_of P w K mg base) : C_l_sums_hold P w K mg base := by
  refine D.ok sc_l_sums_hold (fun vs H Q E h => ?_) (fun f cdv A outer s H vs Q E hr h => ?_)
  · obtain ⟨_, _, _, rfl, _⟩ := h
    rfl
  · obtain ⟨l, g, p, rfl, hl, hp, hf, k⟩ := h
    refine ⟨_, (pss_mid (ps_set (i := 3) sc_l_sums_hold.nd rfl (Or.inl rfl) (pe_ifExp (pt_cmpR op_eq (pv 2) pe_int (nomark _)) (pe_tup (pa_cons pe_int (pa_cons pe_int pa_nil))) pe_int))
      (pss_mid (ps_if (PW.pt (pw_or (pt_not (pt_val (pcl c_l_same (hr.mono (by decide)) pass0 (pa_cons (pv 2) (pa_cons (pe_fld (pv 1) rfl) (pa_cons (pv 3) pa_nil)))))) (pw_or1 (pt_not (pt_val (pcl c_l_same (hr.mono (by decide)) pass0 (pa_cons (pv 2) (pa_cons (pe_fld (pv 1) rfl) (pa_cons (pcl c_l_one (hr.mono (by decide)) pass0 (pa_cons (pv 2) pa_nil)) pa_nil)))))))))
        (pss_one (ps_ret pe_bl))
        pss_nil)
      (pss_mid (ps_if (pt_not (pt_val (pcl c_l_same (hr.mono (by decide)) pass0 (pa_cons (pv 2) (pa_cons (pe_fld (pv 1) rfl) (pa_cons (pcl c_l_minus (hr.mono (by decide)) pass0 (pa_cons (pv 2) pa_nil)) pa_nil))))))
        (pss_one (ps_ret pe_bl))
        pss_nil)
      (pss_cons (ps_for PassesOwn.never rfl (pi_range1 rfl B.range_ (pa_cons pe_int pa_nil)) (pg_name (i := 4) sc_l_sums_hold.nd rfl (Or.inl rfl))
        (pss_cons (ps_set (i := 5) sc_l_sums_hold.nd rfl (Or.inl rfl) (pcl c_l_any_number (hr.mono (by decide)) pass0 (pa_cons (pv 0) (pa_cons (pv 2) pa_nil))))
        (pss_mid (ps_set (i := 6) sc_l_sums_hold.nd rfl (Or.inl rfl) (pcl c_l_any_number (hr.mono (by decide)) pass0 (pa_cons (pv 0) (pa_cons (pv 2) pa_nil))))
        (pss_mid (ps_if (pt_not (pt_val (pcl c_l_same (hr.mono (by decide)) pass0 (pa_cons (pv 2) (pa_cons (pe_or2 (pcm (E := E0) rPlus T.clR (hr.mono (by decide)) pass0 (pv 1) (pa_cons (pv 5) (pa_cons (pv 6) pa_nil))) (pcm (E := E0) fPlus T.clF (hr.mono (by decide)) pass0 (pv 1) (pa_cons (pv 5) (pa_cons (pv 6) pa_nil)))) (pa_cons (pcl c_l_plus (hr.mono (by decide)) pass0 (pa_cons (pv 2) (pa_cons (pv 5) (pa_cons (pv 6) pa_nil)))) pa_nil))))))
          (pss_one (ps_ret pe_bl))
          pss_nil)
        (pss_mid (ps_if (pt_not (pt_val (pcl c_l_same (hr.mono (by decide)) pass0 (pa_cons (pv 2) (pa_cons (pe_or2 (pcm (E := E0) rLess T.clR (hr.mono (by decide)) pass0 (pv 1) (pa_cons (pv 5) (pa_cons (pv 6) pa_nil))) (pcm (E := E0) fLess T.clF (hr.mono (by decide)) pass0 (pv 1) (pa_cons (pv 5) (pa_cons (pv 6) pa_nil)))) (pa_cons (pcl c_l_less (hr.mono (by decide)) pass0 (pa_cons (pv 2) (pa_cons (pv 5) (pa_cons (pv 6) pa_nil)))) pa_nil))))))
          (pss_one (ps_ret pe_bl))
          pss_nil)
        (pss_mid (ps_if (pt_not (pt_val (pcl c_l_same (hr.mono (by decide)) pass0 (pa_cons (pv 2) (pa_cons (pe_or2 (pcm (E := E0) rTimes T.clR (hr.mono (by decide)) pass0 (pv 1) (pa_cons (pv 5) (pa_cons (pv 6) pa_nil))) (pcm (E := E0) fTimes T.clF (hr.mono (by decide)) pass0 (pv 1) (pa_cons (pv 5) (pa_cons (pv 6) pa_nil)))) (pa_cons (pcl c_l_times (hr.mono (by decide)) pass0 (pa_cons (pv 2) (pa_cons (pv 5) (pa_cons (pv 6) pa_nil)))) pa_nil))))))
          (pss_one (ps_ret pe_bl))
          pss_nil)
        (pss_mid (ps_set (i := 7) sc_l_sums_hold.nd rfl (Or.inl rfl) (pcl c_l_divided (hr.mono (by decide)) pass0 (pa_cons (pv 1) (pa_cons (pv 5) (pa_cons (pv 6) pa_nil)))))
        (pss_mid (ps_if (PW.pt (pw_and (pt_cmpR (op_eqD hr.units) (pv 6) (pv 3) (nomark _)) (pw_and1 (pt_cmpR (op_neD hr.units) (pv 7) (pe_lst (pa_cons pe_str (pa_cons pe_bl pa_nil))) (nomark _)))))
          (pss_one (ps_ret pe_bl))
          pss_nil)
        (pss_mid (ps_if (PW.pt (pw_and (pt_cmpR (op_neD hr.units) (pv 6) (pv 3) (nomark _)) (pw_and1 (PW.pt (pw_or (pt_cmpR op_ne (pe_ix ix_list (pv 7) pe_int (fun _ _ => rfl)) pe_str (nomark _)) (pw_or1 (pt_not (pt_val (pcl c_l_is_number (hr.mono (by decide)) pass0 (pa_cons (pv 2) (pa_cons (pe_ix ix_list (pv 7) pe_int (fun _ _ => rfl)) pa_nil)))))))))))
          (pss_one (ps_ret pe_bl))
          pss_nil)
        (pss_mid (ps_if (PW.pt (pw_and (pt_cmpR (op_neD hr.units) (pv 6) (pv 3) (nomark _)) (pw_and1 (pt_cmpR (op_neD hr.units) (pcl c_l_times (hr.mono (by decide)) pass0 (pa_cons (pv 2) (pa_cons (pe_ix ix_list (pv 7) pe_int (fun _ _ => rfl)) (pa_cons (pv 6) pa_nil)))) (pv 5) (nomark _)))))
          (pss_one (ps_ret pe_bl))
          pss_nil)
        (pss_mid (ps_if (pt_not (pt_val (pcl c_l_powers_hold (hr.mono (by decide)) pass0 (pa_cons (pv 1) (pa_cons (pv 2) (pa_cons (pv 5) (pa_cons (pcl c_l_exponent (hr.mono (by decide)) pass0 (pa_cons (pv 0) (pa_cons (pv 2) pa_nil))) (pa_cons (pv 3) pa_nil))))))))
          (pss_one (ps_ret pe_bl))
          pss_nil)
        (pss_mid (ps_if (PW.pt (pw_or (pt_not (pt_val (pcl c_l_powers_hold (hr.mono (by decide)) pass0 (pa_cons (pv 1) (pa_cons (pv 2) (pa_cons (pv 6) (pa_cons pe_int (pa_cons (pv 3) pa_nil)))))))) (pw_or1 (pt_not (pt_val (pcl c_l_powers_hold (hr.mono (by decide)) pass0 (pa_cons (pv 1) (pa_cons (pv 2) (pa_cons (pv 3) (pa_cons (pe_op op_sub (pv 4) pe_int) (pa_cons (pv 3) pa_nil)))))))))))
          (pss_one (ps_ret pe_bl))
          pss_nil)
        (pss_mid (ps_set (i := 8) sc_l_sums_hold.nd rfl (Or.inl rfl) (pe_op op_sub (pcl c_l_draw (hr.mono (by decide)) pass0 (pa_cons (pv 0) (pa_cons (pe_op op_add (pe_op op_mul pe_int (pe_op op_pow pe_int pe_int)) pe_int) pa_nil))) (pe_op op_pow pe_int pe_int)))
        (pss_mid (ps_if (pt_not (pt_val (pcl c_l_same (hr.mono (by decide)) pass0 (pa_cons (pv 2) (pa_cons (pe_or2 (pcm (E := E0) rNum T.clR (hr.mono (by decide)) pass0 (pv 1) (pa_cons (pv 8) pa_nil)) (pcm (E := E0) fNum T.clF (hr.mono (by decide)) pass0 (pv 1) (pa_cons (pv 8) pa_nil))) (pa_cons (pe_ifExp (pt_cmpR op_eq (pv 2) pe_int (nomark _)) (pe_tup (pa_cons (pv 8) (pa_cons pe_int pa_nil))) (pe_op op_mod (pe_callTy call_int1 (by rfl) B.int_ PyProof.Rows.boot_int (pa_cons (pv 8) pa_nil)) (pv 2))) pa_nil))))))
          (pss_one (ps_ret pe_bl))
          pss_nil)
        (pss_cons (ps_set (i := 7) sc_l_sums_hold.nd rfl (Or.inl rfl) (pcl c_l_number_told (hr.mono (by decide)) pass0 (pa_cons (pv 1) (pa_cons (pv 5) pa_nil))))
        (pss_mid (ps_if (PW.pt (pw_or (pt_cmpR op_ne (pe_ix ix_list (pv 7) pe_int (fun _ _ => rfl)) pe_str (nomark _)) (pw_or1 (pt_not (pt_val (pcl c_l_same (hr.mono (by decide)) pass0 (pa_cons (pv 2) (pa_cons (pe_ix ix_list (pv 7) pe_int (fun _ _ => rfl)) (pa_cons (pv 5) pa_nil)))))))))
          (pss_one (ps_ret pe_bl))
          pss_nil)
        (pss_cons (ps_set (i := 9) sc_l_sums_hold.nd rfl (Or.inl rfl) (pcl c_l_odd (hr.mono (by decide)) pass0 (pa_cons (pv 0) (pa_cons (pv 2) pa_nil))))
        (pss_one (ps_if (PW.pt (pw_and (pt_cmpR (op_neD hr.units) (pv 9) (pv 3) (nomark _)) (pw_and1 (pt_cmpR (op_neD hr.units) (pcl c_l_number_told (hr.mono (by decide)) pass0 (pa_cons (pv 1) (pa_cons (pv 9) pa_nil))) (pe_lst (pa_cons pe_str (pa_cons pe_bl pa_nil))) (nomark _)))))
          (pss_one (ps_ret pe_bl))
          pss_nil)))))))))))))))))))
      (pss_one (ps_ret pe_bl)))))), ?_⟩
    refine ⟨fun σ' H' => Same H H' ∧ ∃ vz : V, σ' = [some (.ref l), some (.ref g), some (.int p), some vz, none, none, none, none, none, none] ∧ NAt H' p vz (0, 1), ?_, ?_⟩
    · refine ⟨_, rfl, rfl, _, rfl, ite2 (fun c => ?_) (fun c => ?_)⟩
      · have h0 := inj0 c
        subst h0
        exact ⟨by show 2 ≤ sizeLine; decide, fun q hq => ⟨Same.up hq, _, rfl, NAt.of_fr (x := (0, 1)) upd_same⟩⟩
      · exact ⟨Same.refl _, _, rfl, NAt.of_r (ninj0 c)⟩
    rintro σ1 H1 ⟨s1, vz, rfl, hz1⟩
    have hf1 := hf.same s1
    have hl1 := hl.same s1
    refine ⟨fun σ' H' => Same H1 H' ∧ σ' = [some (.ref l), some (.ref g), some (.int p), some vz, none, none, none, none, none, none], ?_, ?_⟩
    · refine ⟨_, rfl, fget (c := (0, 1)) T hf1 T.rz T.fz (fun _ => ⟨rF_zero _, rfl⟩) (fun _ z o m a b c => ⟨z, fF_zero _ _ _, a⟩) (fun R q => ⟨_, rfl, q⟩) fun v hv => ⟨_, rfl, p, v, vz, (0, 1), rfl, hp, hv, hz1, isN_zero hp, sm_zero (by decide), _, rfl, iteF ?_⟩⟩
      refine ⟨_, rfl, fget (c := (1, 1)) T hf1 T.ro T.fo (fun _ => ⟨rF_one _, rfl⟩) (fun _ z o m a b c => ⟨o, fF_one _ _ _, b⟩) (fun R q => ⟨_, rfl, q⟩) fun v2 hv2 => ⟨_, rfl, p, rfl, hp, fun H2 v3 s2 h3 => ⟨p, v2, v3, (1, 1), rfl, hp, hv2.same s2, h3, isN_one hp, sm_one (by decide), _, rfl, iteF ⟨s2, rfl⟩⟩⟩⟩
    rintro σ2 H2 ⟨s2, rfl⟩
    refine ⟨fun σ' H' => Same H2 H' ∧ σ' = [some (.ref l), some (.ref g), some (.int p), some vz, none, none, none, none, none, none], ?_, ?_⟩
    · refine ⟨_, rfl, fget (c := nMinus p) T (hf1.same s2) T.rm T.fm (fun h0 => ?_) (fun h0 z o m a b c => ⟨m, fF_minus _ _ _, ?_⟩) (fun R q => ⟨_, rfl, q⟩) fun v2 hv2 => ⟨_, rfl, p, rfl, hp, fun H3 v3 s3 h3 => ⟨p, v2, v3, nMinus p, rfl, hp, hv2.same s3, h3, isN_minus hp, sm_minus hp (by decide), _, rfl, iteF ⟨s3, rfl⟩⟩⟩⟩
      · unfold nMinus
        rw [if_neg h0]
        exact ⟨rF_minus _, rfl⟩
      · subst h0
        exact c
    rintro σ3 H3 ⟨s3, rfl⟩
    have s23 := s2.trans s3
    refine ⟨4, rfl, by decide, by decide, for_range (lo := 0) (n := 4) (fun i σ H' => But l H H' ∧ Hand H' l ∧ Fld K H' p g ∧ NAt H' p vz (0, 1) ∧ ∃ v4 v5 v6 v7 v8 v9 : Option V, σ = [some (.ref l), some (.ref g), some (.int p), some vz, v4, v5, v6, v7, v8, v9])
      ⟨Same.but (s1.trans s23), hl1.same s23, hf1.same s23, hz1.same s23, _, _, _, _, _, _, rfl⟩ ?_ ?_⟩
    · rintro i σ H4 hi ⟨b4, h4, f4, z4, v4, v5, v6, v7, v8, v9, rfl⟩
      refine ⟨_, rfl, _, rfl, l, p, rfl, h4, hp, fun H5 va x b5 h5 hx nx sx => ?_⟩
      refine ⟨fun σ' H' => ∃ (vb : V) (y : Nb), IsN p y ∧ Sm 31 y ∧ Tn K H l g p vz va vb x y H' ∧ σ' = [some (.ref l), some (.ref g), some (.int p), some vz, some (.int (0 + (i : Int))), some va, some vb, v7, v8, v9], ?_, ?_⟩
      · exact ⟨_, rfl, _, rfl, l, p, rfl, h5, hp, fun H6 vb y b6 h6 hy ny sy => ⟨vb, y, ny, sy, ⟨(b4.trans b5).trans b6, h6, (f4.but h4 b5).but h5 b6, (z4.but h4 b5).but h5 b6, hx.but h5 b6, hy⟩, rfl⟩⟩
      rintro σ6 H6 ⟨vb, y, ny, sy, t6, rfl⟩
      have sx60 := sm_up 60 sx (by decide)
      have sy60 := sm_up 60 sy (by decide)
      have ez : PyData.eqv (nd p y) (nd p (0, 1)) = decide (y = (0, 1)) := eqv_nd hp ny (isN_zero hp)
      -- plus
      refine ⟨fun σ' H' => Tn K H l g p vz va vb x y H' ∧ σ' = [some (.ref l), some (.ref g), some (.int p), some vz, some (.int (0 + (i : Int))), some va, some vb, v7, v8, v9], ?_, ?_⟩
      · refine ⟨_, rfl, fop T hp t6.f t6.x t6.y nx ny sx60 sy60 (rF_no _ (by decide +kernel) (by decide +kernel) (by decide +kernel) (by decide +kernel)) (fun _ _ _ => fF_no _ _ _ (by decide +kernel) (by decide +kernel) (by decide +kernel)) (fun R q => ⟨_, rfl, q⟩) (fun R q => ⟨_, rfl, _, rfl, q⟩) fun H7 r1 s7 e1 => ?_⟩
        have t7 := t6.same s7
        exact ⟨_, rfl, _, rfl, _, rfl, p, va, vb, x, y, rfl, hp, t7.x, t7.y, nx, ny, sm_up 1000 sx (by decide), sm_up 1000 sy (by decide), fun H8 r2 s8 e2 => ⟨p, r1, r2, _, rfl, hp, e1.same s8, e2, isN_plus hp nx ny, plus_sm hp nx ny sx60 sy60, _, rfl, iteF ⟨t7.same s8, rfl⟩⟩⟩
      rintro σ7 H7 ⟨t7, rfl⟩
      -- less
      refine ⟨fun σ' H' => Tn K H l g p vz va vb x y H' ∧ σ' = [some (.ref l), some (.ref g), some (.int p), some vz, some (.int (0 + (i : Int))), some va, some vb, v7, v8, v9], ?_, ?_⟩
      · refine ⟨_, rfl, fop T hp t7.f t7.x t7.y nx ny sx60 sy60 (rF_no _ (by decide +kernel) (by decide +kernel) (by decide +kernel) (by decide +kernel)) (fun _ _ _ => fF_no _ _ _ (by decide +kernel) (by decide +kernel) (by decide +kernel)) (fun R q => ⟨_, rfl, q⟩) (fun R q => ⟨_, rfl, _, rfl, q⟩) fun H8 r1 s8 e1 => ?_⟩
        have t8 := t7.same s8
        exact ⟨_, rfl, _, rfl, _, rfl, p, va, vb, x, y, rfl, hp, t8.x, t8.y, nx, ny, sm_up 1000 sx (by decide), sm_up 1000 sy (by decide), fun H9 r2 s9 e2 => ⟨p, r1, r2, _, rfl, hp, e1.same s9, e2, isN_less hp nx ny, less_sm hp nx ny sx60 sy60, _, rfl, iteF ⟨t8.same s9, rfl⟩⟩⟩
      rintro σ8 H8 ⟨t8, rfl⟩
      -- times
      refine ⟨fun σ' H' => Tn K H l g p vz va vb x y H' ∧ σ' = [some (.ref l), some (.ref g), some (.int p), some vz, some (.int (0 + (i : Int))), some va, some vb, v7, v8, v9], ?_, ?_⟩
      · refine ⟨_, rfl, fop T hp t8.f t8.x t8.y nx ny sx60 sy60 (rF_no _ (by decide +kernel) (by decide +kernel) (by decide +kernel) (by decide +kernel)) (fun _ _ _ => fF_no _ _ _ (by decide +kernel) (by decide +kernel) (by decide +kernel)) (fun R q => ⟨_, rfl, q⟩) (fun R q => ⟨_, rfl, _, rfl, q⟩) fun H9 r1 s9 e1 => ?_⟩
        have t9 := t8.same s9
        exact ⟨_, rfl, _, rfl, _, rfl, p, va, vb, x, y, rfl, hp, t9.x, t9.y, nx, ny, sm_up 1000 sx (by decide), sm_up 1000 sy (by decide), fun H9 r2 s10 e2 => ⟨p, r1, r2, _, rfl, hp, e1.same s10, e2, isN_times hp nx ny, times_sm hp nx ny sx60 sy60, _, rfl, iteF ⟨t9.same s10, rfl⟩⟩⟩
      rintro σ9 H9 ⟨t9, rfl⟩
      -- the quotient
      refine ⟨fun σ' H' => Tn K H l g p vz va vb x y H' ∧ ∃ a, Qtd p x y a H' ∧ σ' = [some (.ref l), some (.ref g), some (.int p), some vz, some (.int (0 + (i : Int))), some va, some vb, some (.ref a), v8, v9], ?_, ?_⟩
      · exact ⟨_, rfl, _, rfl, _, rfl, g, p, va, vb, x, y, rfl, hp, t9.f, t9.x, t9.y, nx, ny, sx60, sy60, fun hz H' a s ha => ⟨t9.same s, a, .inl ⟨hz, ha⟩, rfl⟩, fun hz H' a v z s ha hv nz sz e => ⟨t9.same s, a, .inr ⟨hz, v, z, ha, hv, nz, sz, e⟩, rfl⟩⟩
      rintro σ10 H10 ⟨t10, a, q10, rfl⟩
      refine ⟨fun σ' H' => Tn K H l g p vz va vb x y H' ∧ Qtd p x y a H' ∧ σ' = [some (.ref l), some (.ref g), some (.int p), some vz, some (.int (0 + (i : Int))), some va, some vb, some (.ref a), v8, v9], ?_, ?_⟩
      · refine ⟨_, rfl, _, rfl, nd p y, nd p (0, 1), dp_nd t10.y, dp_nd t10.z, sh_nd _ _, sh_nd _ _, _, rfl, ite2 (fun c => ?_) (fun c => iteF ⟨t10, q10, rfl⟩)⟩
        rw [ez] at c
        have hz := (zero_iff hp ny).mp (of_decide_eq_true c)
        rcases id q10 with ⟨_, ha⟩ | ⟨hn, _⟩
        · exact ⟨_, rfl, by show 2 ≤ sizeLine; decide, fun b hb => ⟨_, _, dp_tb ((upd_ne (ne_of_none ha hb)).trans ha), dp_tb upd_same, sh_tb _ _, sh_tb _ _, false, by rw [eqv_same (sh_tb _ _)]; rfl, iteF ⟨t10.same (Same.up hb), q10.same (Same.up hb), rfl⟩⟩⟩
        · exact absurd hz hn
      rintro σ11 H11 ⟨t11, q11, rfl⟩
      refine ⟨fun σ' H' => Tn K H l g p vz va vb x y H' ∧ Qtd p x y a H' ∧ σ' = [some (.ref l), some (.ref g), some (.int p), some vz, some (.int (0 + (i : Int))), some va, some vb, some (.ref a), v8, v9], ?_, ?_⟩
      · refine ⟨_, rfl, _, rfl, nd p y, nd p (0, 1), dp_nd t11.y, dp_nd t11.z, sh_nd _ _, sh_nd _ _, _, rfl, ite2 (fun c => ?_) (fun c => iteF ⟨t11, q11, rfl⟩)⟩
        rw [ez] at c
        rcases id q11 with ⟨hz, _⟩ | ⟨hn, v, z, ha, hv, nz, sz, e⟩
        · rw [decide_eq_true ((zero_iff hp ny).mpr hz)] at c
          cases c
        · refine ⟨_, rfl, _, _, _, _, rfl, rfl, SqL.of ha, rfl, rfl, false, congrArg (fun z => V.bl (!z)) (decide_eq_true rfl), iteF ?_⟩
          exact ⟨_, rfl, _, rfl, _, _, _, _, rfl, rfl, SqL.of ha, rfl, p, v, z, rfl, hp, hv, nz, sm_up 4000 sz (by decide), _, rfl, iteF ⟨t11, q11, rfl⟩⟩
      rintro σ12 H12 ⟨t12, q12, rfl⟩
      refine ⟨fun σ' H' => Tn K H l g p vz va vb x y H' ∧ ∃ a' : V, σ' = [some (.ref l), some (.ref g), some (.int p), some vz, some (.int (0 + (i : Int))), some va, some vb, some a', v8, v9], ?_, ?_⟩
      · refine ⟨_, rfl, _, rfl, nd p y, nd p (0, 1), dp_nd t12.y, dp_nd t12.z, sh_nd _ _, sh_nd _ _, _, rfl, ite2 (fun c => ?_) (fun c => iteF ⟨t12, _, rfl⟩)⟩
        rw [ez] at c
        rcases id q12 with ⟨hz, _⟩ | ⟨hn, v, z, ha, hv, nz, sz, e⟩
        · rw [decide_eq_true ((zero_iff hp ny).mpr hz)] at c
          cases c
        · refine ⟨_, rfl, _, rfl, _, _, _, _, rfl, rfl, SqL.of ha, rfl, _, rfl, p, v, vb, z, y, rfl, hp, hv, t12.y, nz, ny, sm_up 1000 sz (by decide), sm_up 1000 sy (by decide), fun H' r s er => ?_⟩
          rw [e] at er
          exact ⟨_, rfl, nd p x, nd p x, dp_nd er, dp_nd (t12.x.same s), sh_nd _ _, sh_nd _ _, false, by rw [eqv_same (sh_nd _ _)]; rfl, iteF ⟨t12.same s, _, rfl⟩⟩
      rintro σ13 H13 ⟨t13, a', rfl⟩
      -- powers
      refine ⟨fun σ' H' => Tn K H l g p vz va vb x y H' ∧ σ' = [some (.ref l), some (.ref g), some (.int p), some vz, some (.int (0 + (i : Int))), some va, some vb, some a', v8, v9], ?_, ?_⟩
      · refine ⟨_, rfl, _, rfl, _, rfl, _, rfl, _, rfl, l, p, rfl, t13.h, hp, fun H' e b h he he8 => ?_⟩
        have t := t13.but b h
        exact ⟨_, rfl, g, p, va, vz, x, e, rfl, hp, t.f, t.x, nx, sx, he, he8, t.z, fun H'' s => ⟨_, rfl, iteF ⟨t.same s, rfl⟩⟩⟩
      rintro σ14 H14 ⟨t14, rfl⟩
      refine ⟨fun σ' H' => Tn K H l g p vz va vb x y H' ∧ σ' = [some (.ref l), some (.ref g), some (.int p), some vz, some (.int (0 + (i : Int))), some va, some vb, some a', v8, v9], ?_, ?_⟩
      · refine ⟨_, rfl, _, rfl, _, rfl, _, rfl, g, p, vb, vz, y, 0, rfl, hp, t14.f, t14.y, ny, sy, by decide, fun _ => by decide, t14.z, fun H' s => ⟨_, rfl, iteF ?_⟩⟩
        have t := t14.same s
        exact ⟨_, rfl, _, rfl, _, rfl, _, rfl, _, _, rfl, rfl, _, rfl, g, p, vz, vz, (0, 1), _, rfl, hp, t.f, t.z, isN_zero hp, sm_zero (by decide), by omega, fun _ => by omega, t.z, fun H'' s2 => ⟨_, rfl, iteF ⟨t.same s2, rfl⟩⟩⟩
      rintro σ15 H15 ⟨t15, rfl⟩
      -- a whole number
      refine ⟨fun σ' H' => Tn K H l g p vz va vb x y H' ∧ ∃ n : Int, n.natAbs < 2 ^ 31 ∧ σ' = [some (.ref l), some (.ref g), some (.int p), some vz, some (.int (0 + (i : Int))), some va, some vb, some a', some (.int n), v9], ?_, ?_⟩
      · have e9 : (10 : Int) ^ ((9 : Int).toNat) = 1000000000 := by decide
        refine ⟨_, rfl, _, _, rfl, rfl, ⟨by decide, by decide, by decide⟩, _, _, rfl, rfl, .inl ⟨by decide, by decide⟩, _, _, rfl, rfl, l, 2000000001, congrArg (fun z => [V.ref l, V.int z]) (by rw [e9]; rfl), t15.h, by decide, by decide, fun H' r b h hr' => ?_⟩
        refine ⟨_, _, rfl, rfl, ⟨by decide, by decide, by decide⟩, _, _, rfl, rfl, t15.but b h, _, ?_, rfl⟩
        rw [e9]
        omega
      rintro σ16 H16 ⟨t16, n, hn, rfl⟩
      refine ⟨fun σ' H' => Tn K H l g p vz va vb x y H' ∧ σ' = [some (.ref l), some (.ref g), some (.int p), some vz, some (.int (0 + (i : Int))), some va, some vb, some a', some (.int n), v9], ?_, ?_⟩
      · refine ⟨_, rfl, fnum T hp t16.f (rF_no _ (by decide +kernel) (by decide +kernel) (by decide +kernel) (by decide +kernel)) (fun _ _ _ => fF_no _ _ _ (by decide +kernel) (by decide +kernel) (by decide +kernel)) (fun R q => ⟨_, rfl, q⟩) (fun R q => ⟨_, rfl, q⟩) fun H17 r1 s17 e1 => ?_⟩
        have t17 := t16.same s17
        have wk := wn_ok hp hn
        change NAt H17 p r1 (wn p n) at e1
        refine ⟨_, rfl, rfl, _, rfl, ite2 (fun c => ?_) (fun c => ?_)⟩
        · have h0 := inj0 c
          subst h0
          exact ⟨_, rfl, by show 2 ≤ sizeLine; decide, fun q hq => ⟨0, r1, _, wn 0 n, rfl, hp, e1.same (Same.up hq), NAt.of_fr (x := wn 0 n) upd_same, wk.1, wk.2, _, rfl, iteF ⟨t17.same (Same.up hq), rfl⟩⟩⟩
        · have h0 := ninj0 c
          have h2 := hp.two h0
          refine ⟨_, rfl, .inl ⟨_, rfl, _, rfl, _, _, rfl, rfl, by omega, p, r1, _, wn p n, rfl, hp, e1, ?_, wk.1, wk.2, _, rfl, iteF ⟨t17, rfl⟩⟩⟩
          unfold wn
          rw [if_neg h0]
          exact NAt.of_r h0
      rintro σ17 H17 ⟨t17, rfl⟩
      -- a number, told
      refine ⟨_, rfl, _, rfl, g, p, va, rfl, t17.f, .inl ⟨x, t17.x, nx, fun H18 a2 s18 _ ha2 => ?_⟩⟩
      have t18 := t17.same s18
      refine ⟨fun σ' H' => Tn K H l g p vz va vb x y H' ∧ σ' = [some (.ref l), some (.ref g), some (.int p), some vz, some (.int (0 + (i : Int))), some va, some vb, some (.ref a2), some (.int n), v9], ?_, ?_⟩
      · refine ⟨_, rfl, _, _, _, _, rfl, rfl, SqL.of ha2, rfl, rfl, false, congrArg (fun z => V.bl (!z)) (decide_eq_true rfl), iteF ?_⟩
        exact ⟨_, rfl, _, rfl, _, _, _, _, rfl, rfl, SqL.of ha2, rfl, _, rfl, p, va, va, x, rfl, hp, t18.x, t18.x, nx, sm_up 4000 sx (by decide), _, rfl, iteF ⟨t18, rfl⟩⟩
      rintro σ19 H19 ⟨t19, rfl⟩
      -- an odd thing
      refine ⟨_, rfl, _, rfl, l, p, rfl, t19.h, hp, fun H20 vo b20 h20 ho => ?_⟩
      have t20 := t19.but b20 h20
      obtain ⟨d, dd, sh, th, hor, _⟩ := ho
      refine ⟨_, rfl, _, rfl, d, nd p (0, 1), dd, dp_nd t20.z, sh, sh_nd _ _, _, rfl, ite2 (fun c => ?_) (fun c => iteF ⟨t20.b, t20.h, t20.f, t20.z, _, _, _, _, _, _, rfl⟩)⟩
      have hb : Bad H20 p vo := by
        rcases hor with q | q
        · have c' : (!PyData.eqv d (zd p)) = true := c
          rw [q] at c'
          cases c'
        · exact q
      refine ⟨_, rfl, _, rfl, g, p, vo, rfl, t20.f, .inr ⟨hb, fun H21 a3 s21 _ ha3 => ?_⟩⟩
      have t21 := t20.same s21
      refine ⟨by show 2 ≤ sizeLine; decide, fun b hb => ⟨_, _, dp_tb ((upd_ne (ne_of_none ha3 hb)).trans ha3), dp_tb upd_same, sh_tb _ _, sh_tb _ _, false, by rw [eqv_same (sh_tb _ _)]; rfl, iteF ?_⟩⟩
      have t22 := t21.same (Same.up (o := .lst [.str "bad", .bl true]) hb)
      exact ⟨t22.b, t22.h, t22.f, t22.z, _, _, _, _, _, _, rfl⟩
    · rintro σ H4 ⟨b4, h4, _⟩
      exact k H4 b4 h4
end
end G3
namespace G3
open PySem PySem.Spec PyProof.Rows L2
abbrev dl (ds : List Nat) : List V := ds.map fun d : Nat => V.int d
theorem dl_add (ds : List Nat) (d : Nat) : dl ds ++ [V.int d] = dl (ds ++ [d]) := by
  show ds.map _ ++ _ = (ds ++ [d]).map _
  rw [List.map_append]
  rfl
theorem fdiv_nat (a b : Nat) : ((a : Int).fdiv (b : Int)) = ((a / b : Nat) : Int) := by rw [Int.fdiv_eq_ediv_of_nonneg _ (by omega), Int.natCast_ediv]
theorem mod_zero {a b : Nat} (c : decide (V.int ((a : Int) % (b : Int)) = V.int 0) = true) : b ∣ a := Nat.dvd_of_mod_eq_zero (by have := inj_int c; omega)
theorem mod_nzero {a b : Nat} (c : ¬ decide (V.int ((a : Int) % (b : Int)) = V.int 0) = true) : ¬ b ∣ a := fun h => by
  have h2 := ninj_int c
  have := Nat.mod_eq_zero_of_dvd h
  omega
/-- all but what is new at q stands -/
def Past (q : Addr) (H H' : Hp) : Prop := H q = none ∧ ∀ b o, H b = some o → H' b = some o
theorem Past.up {q : Addr} {H H' : Hp} (s : Past q H H') (o : HO) : Past q H (upd H' q o) := ⟨s.1, fun b u e => by rw [upd_ne (ne_of_none e s.1)]; exact s.2 b u e⟩
theorem sizeline_big {n : Nat} (h : n ≤ 20001) : n < sizeLine := by
  rw [sizeLine_eq]
  omega
section
variable {P : Program} {w : World} {K : PySem.W.Frag} {mg : Str → Option Value} {base : Heap}
theorem sc_prime_divisors : FnScope ["number", "out", "left", "divisor"] ["number"] (defScope (top 16)) := ⟨rfl, rfl, rfl, by decide +kernel, rfl, by decide +kernel, by decide +kernel⟩
theorem ok_prime_divisors (D : Df K mg "prime_divisors" (top 16) ["number"]) (B : Bn mg) : C_prime_divisors P w K mg base := by
  refine D.ok sc_prime_divisors (fun vs H Q E h => ?_) (fun f cdv A outer s H vs Q E hr h => ?_)
  · obtain ⟨_, rfl, _⟩ := h
    rfl
  · obtain ⟨n, rfl, hn1, hn2, k⟩ := h
    refine ⟨_, (pss_cons (ps_set (i := 1) sc_prime_divisors.nd rfl (Or.inl rfl) (pe_lst pa_nil))
      (pss_cons (ps_set (i := 2) sc_prime_divisors.nd rfl (Or.inl rfl) (pv 0))
      (pss_cons (ps_set (i := 3) sc_prime_divisors.nd rfl (Or.inl rfl) pe_int)
      (pss_cons (ps_while PassesOwn.never (pt_cmpR op_le (pe_op op_mul (pv 3) (pv 3)) (pv 2) (nomark _))
        (pss_mid (ps_if (pt_cmpR op_eq (pe_op op_mod (pe_callTy call_int1 (by rfl) B.int_ PyProof.Rows.boot_int (pa_cons (pv 2) pa_nil)) (pv 3)) pe_int (nomark _))
          (pss_cons (ps_expr (pe_bm PySem.F.plainAttrs_list PySem.F.slot_list_append PySem.F.type_list_append mt_append (pv 1) (pa_cons (pv 3) pa_nil)))
          (pss_one (ps_while PassesOwn.never (pt_cmpR op_eq (pe_op op_mod (pe_callTy call_int1 (by rfl) B.int_ PyProof.Rows.boot_int (pa_cons (pv 2) pa_nil)) (pv 3)) pe_int (nomark _))
            (pss_one (ps_set (i := 2) sc_prime_divisors.nd rfl (Or.inl rfl) (pe_op op_fdivX (pv 2) (pv 3)))))))
          pss_nil)
        (pss_one (ps_set (i := 3) sc_prime_divisors.nd rfl (Or.inl rfl) (pe_op op_add (pv 3) pe_int)))))
      (pss_mid (ps_if (pt_cmpR op_gt (pv 2) pe_int (nomark _))
        (pss_one (ps_expr (pe_bm PySem.F.plainAttrs_list PySem.F.slot_list_append PySem.F.type_list_append mt_append (pv 1) (pa_cons (pv 2) pa_nil))))
        pss_nil)
      (pss_one (ps_ret (pv 1)))))))), ?_⟩
    refine ⟨by show 0 ≤ sizeLine; decide, fun q hq => ?_⟩
    refine ⟨_, rfl, fun m σ H' => ∃ (out : List Nat) (left d : Nat), σ = [some (.int n), some (.ref q), some (.int left), some (.int d)] ∧ Past q H H' ∧ H' q = some (.lst (dl out)) ∧ PDI n out left d ∧ 2 ≤ d ∧ d ≤ n + 1 ∧ out.length + 2 ≤ d ∧ m = n + 2 - d,
      ⟨_, [], n, 2, rfl, ⟨hq, fun b u e => (upd_ne (ne_of_none e hq)).trans e⟩, upd_same, PDI.start hn1, by omega, by omega, by simp, rfl⟩, ?_⟩
    rintro m σ H1 ⟨out, left, d, rfl, hp, ho, I, hd2, hdn, hlen, rfl⟩
    have hle : left ≤ n := Nat.le_of_dvd hn1 I.dv
    have hpos := I.pos
    refine ⟨_, rfl, _, rfl, _, _, rfl, rfl, .inl ⟨by omega, by omega⟩, _, rfl, _, _, rfl, rfl, _, rfl, ite2 (fun c => ?_) (fun c => ?_)⟩
    · have hdd : d * d ≤ left := by
        have h := of_decide_eq_true c
        rw [← Int.natCast_mul] at h
        exact Int.ofNat_le.mp h
      have hdl : 2 * d ≤ left := Nat.le_trans (Nat.mul_le_mul_right d hd2) hdd
      refine ⟨_, fun σ' H2 h => h, fun σ' H' => ∃ (out' : List Nat) (left' : Nat), σ' = [some (.int n), some (.ref q), some (.int left'), some (.int d)] ∧ Past q H H' ∧ H' q = some (.lst (dl out')) ∧ PDI n out' left' (d + 1) ∧ out'.length ≤ out.length + 1, ?_, ?_⟩
      · refine ⟨_, rfl, .inl ⟨_, rfl, _, rfl, _, _, rfl, rfl, by omega, rfl, _, rfl, ite2 (fun c2 => ?_) (fun c2 => ?_)⟩⟩
        · have hdv := mod_zero c2
          refine ⟨_, rfl, .inl ⟨rfl, _, SqL.of ho⟩, _, rfl, q, _, _, rfl, rfl, ho, sizeline_big (by rw [List.length_map]; omega), ?_⟩
          refine ⟨fun m' σ' H' => ∃ l' : Nat, σ' = [some (.int n), some (.ref q), some (.int l'), some (.int d)] ∧ H' = upd H1 q (.lst (dl (out ++ [d]))) ∧ Mid left d l' ∧ m' = l', ⟨_, left, rfl, by rw [dl_add], Mid.start hpos, rfl⟩, ?_⟩
          rintro m' σ' H' ⟨l', rfl, rfl, J, rfl⟩
          have hll : m' ≤ left := Nat.le_of_dvd hpos J.dv
          refine ⟨_, rfl, .inl ⟨_, rfl, _, rfl, _, _, rfl, rfl, by omega, rfl, _, rfl, ite2 (fun c3 => ?_) (fun c3 => ?_)⟩⟩
          · have hdv' := mod_zero c3
            refine ⟨_, fun σ' H2 h => h, _, rfl, _, rfl, _, _, rfl, rfl, divX (by omega) (b := 200) (by omega) (by decide) (by decide), ?_⟩
            have := J.pos
            exact ⟨m' / d, Nat.div_lt_self (by omega) (by omega), m' / d, congrArg (fun z => [some (V.int n), some (V.ref q), some (V.int z), some (V.int d)]) (fdiv_nat m' d), rfl, J.step (I.prime hd2 hdv) hdv', rfl⟩
          · exact ⟨out ++ [d], m', rfl, hp.up _, upd_same, I.take hd2 hdv J (mod_nzero c3), by simp⟩
        · exact ⟨out, left, rfl, hp, ho, I.skip (mod_nzero c2), by omega⟩
      · rintro σ2 H2 ⟨out', left', rfl, hp2, ho2, I2, hlen2⟩
        exact ⟨_, rfl, _, _, rfl, rfl, n + 2 - (d + 1), by omega, out', left', d + 1, rfl, hp2, ho2, I2, by omega, by omega, by omega, rfl⟩
    · have hdd : left < d * d := by
        have h : ¬ (d : Int) * (d : Int) ≤ (left : Int) := of_decide_eq_false (eq_false_of_ne_true c)
        rw [← Int.natCast_mul] at h
        have : ¬ d * d ≤ left := fun z => h (Int.ofNat_le.mpr z)
        omega
      refine ⟨fun σ' H' => ∃ ds : List Nat, σ'[1]? = some (some (.ref q)) ∧ Past q H H' ∧ H' q = some (.lst (dl ds)) ∧ PD n ds ∧ ds.length ≤ 20000, ?_, ?_⟩
      · refine ⟨_, rfl, _, _, rfl, rfl, _, rfl, ite2 (fun c2 => ?_) (fun c2 => ?_)⟩
        · have h1 : 1 < left := by
            have := of_decide_eq_true c2
            omega
          refine ⟨_, rfl, .inl ⟨rfl, _, SqL.of ho⟩, _, rfl, q, _, _, rfl, rfl, ho, sizeline_big (by rw [List.length_map]; omega), ?_⟩
          exact ⟨out ++ [left], rfl, hp.up _, by rw [dl_add]; exact upd_same, I.done1 hdd h1, by rw [List.length_append]; simp only [List.length_cons, List.length_nil]; omega⟩
        · have h1 : ¬ 1 < left := by
            have := of_decide_eq_false (eq_false_of_ne_true c2)
            omega
          exact ⟨out, rfl, hp, ho, I.done0 h1, by omega⟩
      · rintro σ2 H2 ⟨ds, e, hp2, ho2, hPD, hlen2⟩
        exact ⟨_, e, k H2 q ds hp2.2 hq ho2 hPD hlen2⟩
theorem sc_l_prime_parts : FnScope ["_law_number_here", "_law_out", "_law_left", "_law_divisor_here", "_law_turn"] ["_law_number_here"] (defScope (top 49)) := ⟨rfl, rfl, rfl, by decide +kernel, rfl, by decide +kernel, by decide +kernel⟩
theorem ok_l_prime_parts (D : Df K mg "_law_prime_parts" (top 49) ["_law_number_here"]) (B : Bn mg) : C_l_prime_parts P w K mg base := by
  refine D.ok sc_l_prime_parts (fun vs H Q E h => ?_) (fun f cdv A outer s H vs Q E hr h => ?_)
  · obtain ⟨_, rfl, _⟩ := h
    rfl
  · obtain ⟨n, rfl, hn1, hn2, k⟩ := h
    refine ⟨_, (pss_cons (ps_set (i := 1) sc_l_prime_parts.nd rfl (Or.inl rfl) (pe_lst pa_nil))
      (pss_cons (ps_set (i := 2) sc_l_prime_parts.nd rfl (Or.inl rfl) (pv 0))
      (pss_cons (ps_for PassesOwn.never rfl (pi_range2 rfl B.range_ (pa_cons pe_int (pa_cons pe_int pa_nil))) (pg_name (i := 3) sc_l_prime_parts.nd rfl (Or.inl rfl))
        (pss_one (ps_if (pt_cmpR op_eq (pe_op op_mod (pe_callTy call_int1 (by rfl) B.int_ PyProof.Rows.boot_int (pa_cons (pv 2) pa_nil)) (pv 3)) pe_int (nomark _))
          (pss_cons (ps_expr (pe_bm PySem.F.plainAttrs_list PySem.F.slot_list_append PySem.F.type_list_append mt_append (pv 1) (pa_cons (pv 3) pa_nil)))
          (pss_one (ps_for PassesOwn.never rfl (pi_range1 rfl B.range_ (pa_cons pe_int pa_nil)) (pg_name (i := 4) sc_l_prime_parts.nd rfl (Or.inl rfl))
            (pss_one (ps_if (pt_cmpR op_eq (pe_op op_mod (pe_callTy call_int1 (by rfl) B.int_ PyProof.Rows.boot_int (pa_cons (pv 2) pa_nil)) (pv 3)) pe_int (nomark _))
              (pss_one (ps_set (i := 2) sc_l_prime_parts.nd rfl (Or.inl rfl) (pe_op op_fdivX (pv 2) (pv 3))))
              pss_nil)))))
          pss_nil)))
      (pss_mid (ps_if (pt_cmpR op_gt (pv 2) pe_int (nomark _))
        (pss_one (ps_expr (pe_bm PySem.F.plainAttrs_list PySem.F.slot_list_append PySem.F.type_list_append mt_append (pv 1) (pa_cons (pv 2) pa_nil))))
        pss_nil)
      (pss_one (ps_ret (pv 1))))))), ?_⟩
    refine ⟨by show 0 ≤ sizeLine; decide, fun q hq => ?_⟩
    refine ⟨_, rfl, 2, 150, rfl, ⟨by decide, by decide, by decide, by decide⟩, for_range (lo := 2) (n := 148) (fun i σ H' => ∃ (out : List Nat) (left : Nat) (v3 v4 : Option V), σ = [some (.int n), some (.ref q), some (.int left), v3, v4] ∧ Past q H H' ∧ H' q = some (.lst (dl out)) ∧ PDI n out left (2 + i) ∧ out.length ≤ i)
      ⟨[], n, none, none, rfl, ⟨hq, fun b u e => (upd_ne (ne_of_none e hq)).trans e⟩, upd_same, PDI.start hn1, by simp⟩ ?_ ?_⟩
    · rintro i σ H1 hi ⟨out, left, v3, v4, rfl, hp, ho, I, hlen⟩
      have e1 : ((2 : Int) + (i : Int)) = ((2 + i : Nat) : Int) := by omega
      rw [e1]
      have e2 : 2 + (i + 1) = 2 + i + 1 := by omega
      rw [e2]
      have hlen' : out.length + 1 ≤ i + 1 := by omega
      generalize i + 1 = i1 at *
      generalize hd : 2 + i = d at *
      have hd2 : 2 ≤ d := by omega
      have hle : left ≤ n := Nat.le_of_dvd hn1 I.dv
      have hpos := I.pos
      refine ⟨_, rfl, .inl ⟨_, rfl, _, rfl, _, _, rfl, rfl, by omega, rfl, _, rfl, ite2 (fun c2 => ?_) (fun c2 => ?_)⟩⟩
      · have hdv := mod_zero c2
        refine ⟨_, rfl, .inl ⟨rfl, _, SqL.of ho⟩, _, rfl, q, _, _, rfl, rfl, ho, sizeline_big (by rw [List.length_map]; omega), ?_⟩
        refine ⟨15, rfl, by decide, by decide, for_range (lo := 0) (n := 15) (fun j σ' H' => ∃ (l' : Nat) (v4 : Option V), σ' = [some (.int n), some (.ref q), some (.int l'), some (.int d), v4] ∧ H' = upd H1 q (.lst (dl (out ++ [d]))) ∧ Mid left d l' ∧ Turns left d l' j)
          ⟨left, v4, rfl, by rw [dl_add], Mid.start hpos, .inr (by simp)⟩ ?_ ?_⟩
        · rintro j σ' H' hj ⟨l', v4', rfl, rfl, J, T⟩
          have hll : l' ≤ left := Nat.le_of_dvd hpos J.dv
          refine ⟨_, rfl, .inl ⟨_, rfl, _, rfl, _, _, rfl, rfl, by omega, rfl, _, rfl, ite2 (fun c3 => ?_) (fun c3 => ?_)⟩⟩
          · have hdv' := mod_zero c3
            refine ⟨_, rfl, _, rfl, _, _, rfl, rfl, divX (by omega) (b := 200) (by omega) (by decide) (by decide), ?_⟩
            exact ⟨l' / d, _, congrArg (fun z => [some (V.int n), some (V.ref q), some (V.int z), some (V.int d), some (V.int (0 + (j : Int)))]) (fdiv_nat l' d), rfl, J.step (I.prime hd2 hdv) hdv', T.step hd2 hdv'⟩
          · exact ⟨l', _, rfl, rfl, J, .inl (mod_nzero c3)⟩
        · rintro σ' H' ⟨l', v4', rfl, rfl, J, T⟩
          exact ⟨out ++ [d], l', _, _, rfl, hp.up _, upd_same, I.take hd2 hdv J (T.done J.pos (by omega)), by rw [List.length_append]; exact hlen'⟩
      · exact ⟨out, left, _, _, rfl, hp, ho, I.skip (mod_nzero c2), by omega⟩
    · rintro σ H1 ⟨out, left, v3, v4, rfl, hp, ho, I, hlen⟩
      have hle : left ≤ n := Nat.le_of_dvd hn1 I.dv
      refine ⟨fun σ' H' => ∃ ds : List Nat, σ'[1]? = some (some (.ref q)) ∧ Past q H H' ∧ H' q = some (.lst (dl ds)) ∧ PD n ds ∧ ds.length ≤ 20000, ?_, ?_⟩
      · refine ⟨_, rfl, _, _, rfl, rfl, _, rfl, ite2 (fun c2 => ?_) (fun c2 => ?_)⟩
        · have h1 : 1 < left := by
            have := of_decide_eq_true c2
            omega
          refine ⟨_, rfl, .inl ⟨rfl, _, SqL.of ho⟩, _, rfl, q, _, _, rfl, rfl, ho, sizeline_big (by rw [List.length_map]; omega), ?_⟩
          exact ⟨out ++ [left], rfl, hp.up _, by rw [dl_add]; exact upd_same, I.done1 (by omega) h1, by rw [List.length_append]; simp only [List.length_cons, List.length_nil]; omega⟩
        · have h1 : ¬ 1 < left := by
            have := of_decide_eq_false (eq_false_of_ne_true c2)
            omega
          exact ⟨out, rfl, hp, ho, I.done0 h1, by omega⟩
      · rintro σ2 H2 ⟨ds, e, hp2, ho2, hPD, hlen2⟩
        exact ⟨_, e, k H2 q ds hp2.2 hq ho2 hPD hlen2⟩
end
end G3
namespace G3
open PySem PySem.Spec PyProof.Rows L2
theorem take_one {α β : Type} {f : α → β} {l : List α} {i : Nat} {x : α} (h : l[i]? = some x) : (l.take i).map f ++ [f x] = (l.take (i + 1)).map f := by
  rw [List.take_add_one, h, List.map_append]
  rfl
theorem LS.uniq {p g g' : Nat} (h : LS p g) (h' : LS p g') : g = g' := by
  obtain ⟨a1, a2, a3, a4⟩ := h
  obtain ⟨b1, b2, b3, b4⟩ := h'
  rcases Nat.lt_trichotomy g g' with z | z | z
  · exact absurd a3 (b4 g a1 z)
  · exact z
  · exact absurd b3 (a4 g' b1 z)
theorem all_ne {p : Nat} {num : Nat} (es : List Nat) : (es.map fun e => !decide ((num : Int) ^ e % (p : Int) = 1)).all id = true ↔ ∀ e ∈ es, num ^ e % p ≠ 1 := by
  rw [List.all_eq_true]
  constructor
  · intro h e he z
    have := h (!decide ((num : Int) ^ e % (p : Int) = 1)) (List.mem_map.mpr ⟨e, he, rfl⟩)
    rw [pow_cast, z] at this
    cases this
  · intro h b hb
    obtain ⟨e, he, rfl⟩ := List.mem_map.mp hb
    show (!decide ((num : Int) ^ e % (p : Int) = 1)) = true
    rw [pow_cast, decide_eq_false (fun z => h e he (by omega))]
    rfl
theorem src_iff {p num : Nat} {ds : List Nat} (h : PD (p - 1) ds) : ((ds.map fun q => (p - 1) / q).map fun e => !decide ((num : Int) ^ e % (p : Int) = 1)).all id = true ↔ Src p num := by
  rw [all_ne, h.src]
  constructor
  · intro k q hq
    exact k _ (List.mem_map.mpr ⟨q, hq, rfl⟩)
  · intro k e he
    obtain ⟨q, hq, rfl⟩ := List.mem_map.mp he
    exact k q hq
theorem ne_bl {i j : Int} : V.bl (!decide (V.int i = V.int j)) = V.bl (!decide (i = j)) := by
  by_cases h : i = j
  · rw [decide_eq_true (congrArg V.int h), decide_eq_true h]
  · rw [decide_eq_false (fun z => h (V.int.inj z)), decide_eq_false h]
theorem exp_lt {p d : Nat} (h2 : p ≤ 20000) : (p - 1) / d < 2 ^ 200 := Nat.lt_of_le_of_lt (Nat.div_le_self _ _) (by omega)
/-- e.f, the frag named -/
theorem pfld {X : Cx} {K : PySem.W.Frag} {e : Expr} {f : Str} {ta : TE} {pos : Pos} (hK : X.K = K) (he : PE X e ta) (hb : attributeBase e f X.env (eval e X.env) = eval e X.env) : PE X (.Attribute e f pos) (tFld K ta f) := by
  subst hK
  exact pe_fld he hb
section
variable {P : Program} {w : World} {K : PySem.W.Frag} {mg : Str → Option Value} {base : Heap}
theorem sc_source_of : FnScope ["field", "steps", "exponents", "number", "divisor", "exponent"] ["field"] (defScope (top 17)) := ⟨rfl, rfl, rfl, by decide +kernel, rfl, by decide +kernel, by decide +kernel⟩
theorem ok_source_of (D : Df K mg "source_of" (top 17) ["field"]) (B : Bn mg) (T : FT K mg) (c_prime_divisors : C_prime_divisors P w K mg base) (c_rest_power : C_rest_power P w K mg base) : C_source_of P w K mg base := by
  refine D.ok sc_source_of (fun vs H Q E h => ?_) (fun f cdv A outer s H vs Q E hr h => ?_)
  · obtain ⟨_, _, rfl, _⟩ := h
    rfl
  · obtain ⟨g, p, rfl, hf, k⟩ := h
    refine ⟨_, (pss_cons (ps_set (i := 1) sc_source_of.nd rfl (Or.inr rfl) (pe_op op_sub (pe_fld (pv 0) rfl) pe_int))
      (pss_cons (ps_setLc (i := 2) (own := [("divisor", 4)]) (g := gName 4) (tt := tYes) rfl sc_source_of.nd rfl rfl (sw_true rfl rfl rfl (by decide +kernel)) (pi_list (pcl c_prime_divisors (hr.mono (by decide)) pass0 (pa_cons (pv 1) pa_nil))) (blkOk_by (N := ["field", "steps", "exponents", "number", "divisor", "exponent"]) (sc := defScope (top 17)) (by decide +kernel)) (fun _ _ _ _ _ => pg_name (i := 4) sc_source_of.nd rfl (Or.inl rfl)) (fun _ _ _ _ _ => pts_nil) (fun _ _ _ _ _ => (pe_op op_fdivX (pv 1) (pv 4))))
      (pss_cons (ps_for PassesOwn.never rfl (pi_range2 rfl B.range_ (pa_cons pe_int (pa_cons (pe_fld (pv 0) rfl) pa_nil))) (pg_name (i := 3) sc_source_of.nd rfl (Or.inr rfl))
        (pss_one (ps_if (pt_val (pe_callB (cr_all rfl) (by rfl) B.all_ boot_all (pa_cons (pe_lc (own := [("exponent", 5)]) (g := gName 5) (tt := tYes) rfl sc_source_of.nd (pi_list (pv 2)) (blkOk_by (N := ["field", "steps", "exponents", "number", "divisor", "exponent"]) (sc := defScope (top 17)) (by decide +kernel)) (fun _ _ _ _ _ => pg_name (i := 5) sc_source_of.nd rfl (Or.inl rfl)) (fun _ _ _ _ _ => pts_nil) (fun _ _ _ _ _ => (pe_cmpR op_ne (pcl c_rest_power (hr.mono (by decide)) pass0 (pa_cons (pv 3) (pa_cons (pv 5) (pa_cons (pfld (K := K) rfl (pv 0) rfl) pa_nil)))) pe_int (nomark _)))) pa_nil)))
          (pss_one (ps_ret (pv 3)))
          pss_nil)))
      (pss_one (ps_ret pe_int))))), ?_⟩
    obtain ⟨pr, p2, dx, hA⟩ := hf
    have hp2 := pr.1
    refine ⟨_, rfl, g, _, dx, _, _, rfl, hA, T.clR, T.rp, rF_prime _, _, _, rfl, rfl, ?_⟩
    refine ⟨_, rfl, p - 1, congrArg (fun z => [V.int z]) (by omega), by omega, by omega, fun H1 a ds s1 ha0 ha hPD hlen => ?_⟩
    have hd0 : ∀ {i d : Nat}, ds[i]? = some d → 2 ≤ d ∧ d ≤ 20000 := fun h => by
      have m := (hPD _).mp (List.mem_of_getElem? h)
      have := Nat.le_of_dvd (by omega) m.2
      have := m.1.1
      omega
    refine ⟨a, rfl, ⟨_, SqL.of ha⟩, fun Dl hD => lc_list (K := K) (a := a) (xs := ds.map fun d : Nat => V.int d) (fun i H2 => Same H1 H2 ∧ H2 Dl = some (.lst ((ds.take i).map fun d : Nat => V.int (((p - 1) / d : Nat) : Int)))) ⟨Same.up hD, by rw [upd_same]; rfl⟩ (fun i H2 _ h => SqL.of (h.1 _ _ ha)) ?_ ?_⟩
    · rintro i x H2 hx ⟨s2, h2⟩
      rw [List.getElem?_map] at hx
      obtain ⟨d, hd, rfl⟩ := Option.map_eq_some_iff.mp hx
      have hi : i < ds.length := (List.getElem?_eq_some_iff.mp hd).1
      have := hd0 hd
      refine ⟨rfl, ?_⟩
      refine ⟨_, rfl, _, rfl, _, _, rfl, rfl, divX (by omega) (b := 200) (by omega) (by decide) (by decide), _, h2, sizeline_big (by rw [List.length_map, List.length_take]; omega), fun b o hb => ?_, ?_⟩
      · rw [upd_ne (ne_of_none hb hD)]
        exact s2 b o hb
      · have e : (((p : Int) - 1).fdiv (d : Int)) = (((p - 1) / d : Nat) : Int) := by
          rw [show (p : Int) - 1 = ((p - 1 : Nat) : Int) by omega]
          exact fdiv_nat _ _
        show upd H2 Dl (.lst (_ ++ [V.int (((p : Int) - 1).fdiv (d : Int))])) Dl = _
        rw [upd_same, e, ← take_one (f := fun d : Nat => V.int (((p - 1) / d : Nat) : Int)) hd]
    · rintro H3 ⟨s3, h3⟩
      rw [List.length_map, List.take_length] at h3
      have eds : (ds.map fun d : Nat => V.int (((p - 1) / d : Nat) : Int)) = (ds.map fun q => (p - 1) / q).map fun e : Nat => V.int e := by
        rw [List.map_map]
        rfl
      rw [eds] at h3
      clear eds
      have hsrc : ∀ num : Nat, _ := fun num => src_iff (p := p) (num := num) hPD
      have elen : (ds.map fun q => (p - 1) / q).length ≤ 20000 := by rw [List.length_map]; exact hlen
      have elt : ∀ {i e : Nat}, (ds.map fun q => (p - 1) / q)[i]? = some e → e < 2 ^ 200 := fun h => by
        obtain ⟨q, hq, rfl⟩ := List.mem_map.mp (List.mem_of_getElem? h)
        exact exp_lt p2
      generalize (ds.map fun q => (p - 1) / q) = es at *
      have hA3 := (s1.trans s3) _ _ hA
      refine ⟨_, rfl, g, _, dx, _, _, rfl, hA3, T.clR, T.rp, rF_prime _, 1, p, rfl, ⟨by decide, by decide, by omega, by omega⟩, for_range (lo := 1) (n := ((p : Int) - 1).toNat) (fun i σ H' => Same H3 H' ∧ ∃ v3 v4 v5 : Option V, σ = [some (.ref g), some (.int ((p : Int) - 1)), some (.ref Dl), v3, v4, v5] ∧ ∀ k, 1 ≤ k → k < 1 + i → ¬ Src p k)
        ⟨Same.refl _, _, _, _, rfl, fun k h1 h2 => by omega⟩ ?_ ?_⟩
      · rintro i σ H4 hi ⟨s4, v3, v4, v5, rfl, hno⟩
        have e1 : ((1 : Int) + (i : Int)) = ((1 + i : Nat) : Int) := by omega
        rw [e1]
        have h4 := s4 _ _ h3
        have hA4 := s4 _ _ hA3
        refine ⟨_, rfl, Dl, rfl, ⟨_, SqL.of h4⟩, fun D2 hD2 => lc_list (K := K) (a := Dl) (xs := es.map fun e : Nat => V.int e) (fun j H2 => Same H4 H2 ∧ H2 D2 = some (.lst ((es.take j).map fun e => V.bl (!decide (((1 + i : Nat) : Int) ^ e % (p : Int) = 1))))) ⟨Same.up hD2, by rw [upd_same]; rfl⟩ (fun j H2 _ h => SqL.of (h.1 _ _ h4)) ?_ ?_⟩
        · rintro j x H5 hx ⟨s5, h5⟩
          rw [List.getElem?_map] at hx
          obtain ⟨e, he, rfl⟩ := Option.map_eq_some_iff.mp hx
          have hj : j < es.length := (List.getElem?_eq_some_iff.mp he).1
          refine ⟨rfl, ?_⟩
          refine ⟨_, rfl, _, rfl, _, rfl, g, _, dx, _, _, rfl, s5 _ _ hA4, T.clR, T.rp, rF_prime _, ((1 + i : Nat) : Int), e, p, rfl, hp2, p2, elt he, fun H6 s6 => ⟨rfl, _, s6 _ _ h5, sizeline_big (by rw [List.length_map, List.length_take]; omega), fun b o hb => ?_, ?_⟩⟩
          · rw [upd_ne (ne_of_none hb hD2)]
            exact s6 _ _ (s5 b o hb)
          · rw [upd_same, ne_bl]
            exact congrArg (fun z => some (HO.lst z)) (take_one (f := fun e : Nat => V.bl (!decide (((1 + i : Nat) : Int) ^ e % (p : Int) = 1))) he)
        · rintro H5 ⟨s5, h5⟩
          rw [List.length_map, List.take_length] at h5
          refine ⟨D2, es.map fun e => !decide (((1 + i : Nat) : Int) ^ e % (p : Int) = 1), rfl, ?_, _, rfl, ite2 (fun c => ?_) (fun c => ?_)⟩
          · rw [List.map_map]
            exact SqL.of h5
          · have hs := (hsrc (1 + i)).mp c
            exact ⟨_, rfl, k H5 (1 + i) ((s1.trans s3).trans (s4.trans s5)) ⟨by omega, by omega, hs, hno⟩⟩
          · refine ⟨s4.trans s5, _, _, _, rfl, fun k h1 h2 => ?_⟩
            by_cases z : k = 1 + i
            · subst z
              exact fun hs => c ((hsrc (1 + i)).mpr hs)
            · exact hno k h1 (by omega)
      · rintro σ H4 ⟨s4, v3, v4, v5, rfl, hno⟩
        obtain ⟨gg, g1, g2, g3⟩ := has_src pr p2
        exact absurd g3 (hno gg g1 (by omega))
end
end G3
namespace G3
open PySem PySem.Spec PyProof.Rows L2
/-- the least step -/
theorem least_step {p g n : Nat} (h : Pr p) (hs : LS p g) (h1 : 1 ≤ n) (h2 : n < p) : ∃ k, k < p - 1 ∧ g ^ k % p = n := src_all h (not_dvd hs.1 hs.2.1) hs.2.2.1 h1 h2
section
variable {P : Program} {w : World} {K : PySem.W.Frag} {mg : Str → Option Value} {base : Heap}
theorem sc_steps_of : FnScope ["field", "number", "source", "at", "steps"] ["field", "number"] (defScope (top 18)) := ⟨rfl, rfl, rfl, by decide +kernel, rfl, by decide +kernel, by decide +kernel⟩
theorem ok_steps_of (D : Df K mg "steps_of" (top 18) ["field", "number"]) (B : Bn mg) (T : FT K mg) (c_check_number : C_R_check_number P w K mg base) (c_source_of : C_source_of P w K mg base) (z : Xc P w K mg base "BadNumber" (XN K)) : C_steps_of P w K mg base := by
  refine D.okX sc_steps_of (fun vs H Q E h => ?_) (fun f cdv A outer s H vs Q E hr h => ?_)
  · obtain ⟨_, _, _, rfl, _⟩ := h
    rfl
  · obtain ⟨g, p, v, rfl, hf, ht, k⟩ := h
    refine ⟨_, (pss_cons (ps_if (pt_cmpR op_eq (pcm (E := E) c_check_number T.clR (hr.mono (by decide)) (passes_call (takes_of rfl rfl rfl rfl) fun _ _ _ _ q => q) (pv 0) (pa_cons (pv 1) pa_nil)) pe_int (nomark _))
        (pss_one (ps_raise rfl (takes_of rfl rfl rfl rfl) (pmk_x z (hr.mono (by decide)))))
        pss_nil)
      (pss_cons (ps_set (i := 2) sc_steps_of.nd rfl (Or.inl rfl) (pcl (E := E0) c_source_of (hr.mono (by decide)) pass0 (pa_cons (pv 0) pa_nil)))
      (pss_cons (ps_set (i := 3) sc_steps_of.nd rfl (Or.inl rfl) pe_int)
      (pss_cons (ps_set (i := 4) sc_steps_of.nd rfl (Or.inl rfl) pe_int)
      (pss_cons (ps_while (passes_of rfl) (pt_cmpR op_ne (pv 3) (pv 1) (nomark _))
        (pss_cons (ps_set (i := 3) sc_steps_of.nd rfl (Or.inl rfl) (pe_op op_mod (pe_op op_mul (pv 3) (pv 2)) (pe_fld (pv 0) rfl)))
        (pss_one (ps_set (i := 4) sc_steps_of.nd rfl (Or.inl rfl) (pe_op op_add (pv 4) pe_int)))))
      (pss_one (ps_ret (pv 4)))))))), ?_⟩
    obtain ⟨pr, p2, dx, hA⟩ := id hf
    have hp2 := pr.1
    have h0 : p ≠ 0 := by omega
    refine ⟨_, rfl, g, dx, _, rfl, hA, rF_no _ (by decide +kernel) (by decide +kernel) (by decide +kernel) (by decide +kernel), _, rfl, g, p, v, rfl, by simp [h0], hf.fld, ?_⟩
    have chk0 : ∀ {i : Int}, 0 ≤ i → i < p → NAt H p (.int i) (i, 1) ∧ IsN p (i, 1) := fun a b => ⟨NAt.of_r h0, by unfold IsN; rw [if_neg h0]; exact ⟨a, b, rfl⟩⟩
    rcases k with ⟨n, rfl, n1, n2, k⟩ | ⟨hb, k⟩
    · obtain ⟨c1, c2⟩ := chk0 (i := (n : Int)) (by omega) (by omega)
      refine .inl ⟨_, c1, c2, rfl, false, ?_, iteF ?_⟩
      · show V.bl (decide (V.int (n : Int) = V.int 0)) = V.bl false
        rw [decide_eq_false (fun e => by have := V.int.inj e; omega)]
      refine ⟨_, rfl, g, p, rfl, hf, fun H1 src s1 hs => ?_⟩
      have hA1 := s1 _ _ hA
      obtain ⟨k0, k1, k2⟩ := least_step pr hs n1 n2
      have g1 := hs.1
      have g2 := hs.2.1
      have nn : ∀ t : Nat, src ^ t % p < p := fun t => Nat.mod_lt _ (by omega)
      refine ⟨fun m σ H' => H' = H1 ∧ ∃ t : Nat, σ = [some (.ref g), some (.int n), some (.int src), some (.int ((src ^ t % p : Nat) : Int)), some (.int t)] ∧ t ≤ k0 ∧ m = k0 - t, ⟨_, rfl, 0, ?_, by omega, rfl⟩, ?_⟩
      · rw [Nat.pow_zero, Nat.mod_eq_of_lt (by omega)]
        rfl
      rintro m σ H' ⟨rfl, t, rfl, ht0, rfl⟩
      refine ⟨_, rfl, _, rfl, rfl, _, rfl, ite2 (fun c => ?_) (fun c => ?_)⟩
      · have hne : src ^ t % p ≠ n := fun e => by
          rw [e, decide_eq_true rfl] at c
          cases c
        have htk : t ≠ k0 := fun e => hne (by rw [e]; exact k2)
        have b1 := nn t
        refine ⟨_, fun σ' H2 h => h, _, rfl, _, rfl, _, _, rfl, rfl, .inl ⟨by omega, by omega⟩, _, rfl, g, _, dx, _, _, rfl, hA1, T.clR, T.rp, rF_prime _, _, _, rfl, rfl, by omega, _, rfl, _, _, rfl, rfl, ?_⟩
        refine ⟨k0 - (t + 1), by omega, rfl, t + 1, ?_, by omega, rfl⟩
        have e : ((src ^ t % p : Nat) : Int) * (src : Int) % (p : Int) = ((src ^ (t + 1) % p : Nat) : Int) := by
          rw [← Int.natCast_mul, ← Int.natCast_emod, Nat.pow_succ, Nat.mul_mod, Nat.mod_mod, ← Nat.mul_mod]
        exact congrArg (fun z => [some (V.ref g), some (V.int n), some (V.int src), some (V.int z), some (V.int ((t : Int) + 1))]) e
      · have he : src ^ t % p = n := by
          by_cases e : src ^ t % p = n
          · exact e
          · exact absurd (by rw [decide_eq_false (fun z => e (by have := V.int.inj z; omega))]; rfl) c
        exact ⟨_, rfl, k _ src t s1 hs (by omega) he⟩
    · rcases hb with hb | rfl
      · exact .inr ⟨bad_r h0 ht hb, k⟩
      · obtain ⟨c1, c2⟩ := chk0 (i := 0) (by omega) (by omega)
        exact .inl ⟨_, c1, c2, rfl, true, rfl, iteT k⟩
theorem sc_l_is_source : FnScope ["_law_prime_here", "_law_number_here", "_law_parts", "_law_part"] ["_law_prime_here", "_law_number_here", "_law_parts"] (defScope (top 50)) := ⟨rfl, rfl, rfl, by decide +kernel, rfl, by decide +kernel, by decide +kernel⟩
theorem ok_l_is_source (D : Df K mg "_law_is_source" (top 50) ["_law_prime_here", "_law_number_here", "_law_parts"]) (B : Bn mg) (c_l_power : C_l_power P w K mg base) : C_l_is_source P w K mg base := by
  refine D.ok sc_l_is_source (fun vs H Q E h => ?_) (fun f cdv A outer s H vs Q E hr h => ?_)
  · obtain ⟨_, _, _, _, rfl, _⟩ := h
    rfl
  · obtain ⟨p, n, a, ds, rfl, pr, p2, n1, n2, ha, hPD, hlen, k⟩ := h
    refine ⟨_, (pss_one (ps_ret (pe_callB (cr_all rfl) (by rfl) B.all_ boot_all (pa_cons (pe_lc (own := [("_law_part", 3)]) (g := gName 3) (tt := tYes) rfl sc_l_is_source.nd (pi_list (pv 2)) (blkOk_by (N := ["_law_prime_here", "_law_number_here", "_law_parts", "_law_part"]) (sc := defScope (top 50)) (by decide +kernel)) (fun _ _ _ _ _ => pg_name (i := 3) sc_l_is_source.nd rfl (Or.inl rfl)) (fun _ _ _ _ _ => pts_nil) (fun _ _ _ _ _ => (pe_cmpR op_ne (pcl c_l_power (hr.mono (by decide)) pass0 (pa_cons (pv 0) (pa_cons (pv 1) (pa_cons (pe_op op_fdivX (pe_op op_sub (pv 0) pe_int) (pv 3)) pa_nil)))) pe_int (nomark _)))) pa_nil)))), ?_⟩
    have hp2 := pr.1
    have h0 : p ≠ 0 := by omega
    have hp : Fp p := .inr ⟨pr, p2⟩
    have nx : IsN p ((n : Int), 1) := by
      unfold IsN
      rw [if_neg h0]
      exact ⟨by omega, by omega, rfl⟩
    refine ⟨_, rfl, a, rfl, ⟨_, SqL.of ha⟩, fun D2 hD2 => lc_list (K := K) (a := a) (xs := ds.map fun d : Nat => V.int d) (fun j H2 => Same H H2 ∧ H2 D2 = some (.lst ((ds.take j).map fun d => V.bl (!decide ((n : Int) ^ ((p - 1) / d) % (p : Int) = 1))))) ⟨Same.up hD2, by rw [upd_same]; rfl⟩ (fun j H2 _ h => SqL.of (h.1 _ _ ha)) ?_ ?_⟩
    · rintro j x H5 hx ⟨s5, h5⟩
      rw [List.getElem?_map] at hx
      obtain ⟨d, hd, rfl⟩ := Option.map_eq_some_iff.mp hx
      have hj : j < ds.length := (List.getElem?_eq_some_iff.mp hd).1
      have hd2 : 2 ≤ d ∧ d ≤ 20000 := by
        have m := (hPD _).mp (List.mem_of_getElem? hd)
        have := Nat.le_of_dvd (by omega) m.2
        have := m.1.1
        omega
      have e : (((p : Int) - 1).fdiv (d : Int)) = (((p - 1) / d : Nat) : Int) := by
        rw [show (p : Int) - 1 = ((p - 1 : Nat) : Int) by omega]
        exact fdiv_nat _ _
      refine ⟨rfl, ?_⟩
      refine ⟨_, rfl, _, rfl, _, rfl, _, _, rfl, rfl, _, rfl, _, _, rfl, rfl, divX (by omega) (b := 200) (by omega) (by decide) (by decide), p, _, ((n : Int), 1), (((p - 1) / d : Nat) : Int), congrArg (fun z => [V.int p, V.int n, V.int z]) e, hp, NAt.of_r h0, nx, by show (n : Int) ≠ 0; omega, nb_sm hp h0 nx (by decide), ?_, fun z => absurd z h0, fun H6 v6 s6 hv6 => ?_⟩
      · rw [Int.natAbs_natCast]
        exact Nat.lt_of_le_of_lt (Nat.div_le_self _ _) (by omega)
      · have hr6 : nRaise p ((n : Int), 1) (((p - 1) / d : Nat) : Int) = ((n : Int) ^ ((p - 1) / d) % (p : Int), 1) := by
          unfold nRaise nPow
          rw [if_neg (Int.not_lt.mpr (Int.natCast_nonneg _)), if_neg h0, Int.toNat_natCast]
        rw [hr6] at hv6
        obtain ⟨rfl, _⟩ := hv6.r h0
        refine ⟨rfl, _, s6 _ _ h5, sizeline_big (by rw [List.length_map, List.length_take]; omega), fun b o hb => ?_, ?_⟩
        · rw [upd_ne (ne_of_none hb hD2)]
          exact s6 _ _ (s5 b o hb)
        · rw [upd_same, ne_bl]
          exact congrArg (fun z => some (HO.lst z)) (take_one (f := fun d : Nat => V.bl (!decide ((n : Int) ^ ((p - 1) / d) % (p : Int) = 1))) hd)
    · rintro H5 ⟨s5, h5⟩
      rw [List.length_map, List.take_length] at h5
      refine ⟨D2, (ds.map fun q => (p - 1) / q).map fun e => !decide ((n : Int) ^ e % (p : Int) = 1), rfl, ?_, ?_⟩
      · rw [List.map_map, List.map_map]
        exact SqL.of h5
      · have e : ((ds.map fun q => (p - 1) / q).map fun e => !decide ((n : Int) ^ e % (p : Int) = 1)).all id = @decide (Src p n) (Classical.propDecidable _) := by
          rw [Bool.eq_iff_iff, src_iff hPD]
          exact (@decide_eq_true_iff _ (Classical.propDecidable _)).symm
        rw [e]
        exact k H5 s5
theorem sc_l_source_holds : FnScope ["_law_hand_here", "_law_prime_here", "_law_field_here", "_law_parts", "_law_source", "_law_lesser", "_law_number_here", "_law_told"] ["_law_hand_here", "_law_prime_here"] (defScope (top 52)) := ⟨rfl, rfl, rfl, by decide +kernel, rfl, by decide +kernel, by decide +kernel⟩
theorem ok_l_source_holds (D : Df K mg "_law_source_holds" (top 52) ["_law_hand_here", "_law_prime_here"]) (B : Bn mg) (T : FT K mg) (c_RestField : C_RestField P w K mg base) (c_l_prime_parts : C_l_prime_parts P w K mg base) (c_source_of : C_source_of P w K mg base) (c_l_whole : C_l_whole P w K mg base) (c_l_is_source : C_l_is_source P w K mg base)
    (c_l_number : C_l_number P w K mg base) (c_l_steps_told : C_l_steps_told P w K mg base) (c_l_power : C_l_power P w K mg base) (c_l_odd : C_l_odd P w K mg base) : C_l_source_holds P w K mg base := by
  refine D.ok sc_l_source_holds (fun vs H Q E h => ?_) (fun f cdv A outer s H vs Q E hr h => ?_)
  · obtain ⟨_, _, rfl, _⟩ := h
    rfl
  · obtain ⟨l, p, rfl, hl, pr, p2, k⟩ := h
    refine ⟨_, (pss_cons (ps_set (i := 2) sc_l_source_holds.nd rfl (Or.inl rfl) (pcc (E := E0) c_RestField (hr.mono (by decide)) passF (pa_cons (pv 1) pa_nil)))
      (pss_cons (ps_set (i := 3) sc_l_source_holds.nd rfl (Or.inl rfl) (pcl c_l_prime_parts (hr.mono (by decide)) pass0 (pa_cons (pe_op op_sub (pv 1) pe_int) pa_nil)))
      (pss_cons (ps_set (i := 4) sc_l_source_holds.nd rfl (Or.inl rfl) (pcl c_source_of (hr.mono (by decide)) pass0 (pa_cons (pv 2) pa_nil)))
      (pss_cons (ps_if (PW.pt (pw_or (pt_not (pt_val (pcl c_l_whole (hr.mono (by decide)) pass0 (pa_cons (pv 4) pa_nil)))) (pw_or (pt_not (pt_chain op_le op_lt pe_int (pv 4) (pv 1))) (pw_or1 (pt_not (pt_val (pcl c_l_is_source (hr.mono (by decide)) pass0 (pa_cons (pv 1) (pa_cons (pv 4) (pa_cons (pv 3) pa_nil))))))))))
        (pss_one (ps_ret pe_bl))
        pss_nil)
      (pss_cons (ps_for PassesOwn.never rfl (pi_range2 rfl B.range_ (pa_cons pe_int (pa_cons (pv 4) pa_nil))) (pg_name (i := 5) sc_l_source_holds.nd rfl (Or.inl rfl))
        (pss_one (ps_if (pt_val (pcl c_l_is_source (hr.mono (by decide)) pass0 (pa_cons (pv 1) (pa_cons (pv 5) (pa_cons (pv 3) pa_nil)))))
          (pss_one (ps_ret pe_bl))
          pss_nil)))
      (pss_cons (ps_set (i := 6) sc_l_source_holds.nd rfl (Or.inl rfl) (pcl c_l_number (hr.mono (by decide)) pass0 (pa_cons (pv 0) (pa_cons (pv 1) pa_nil))))
      (pss_cons (ps_set (i := 7) sc_l_source_holds.nd rfl (Or.inl rfl) (pcl c_l_steps_told (hr.mono (by decide)) pass0 (pa_cons (pv 2) (pa_cons (pv 6) pa_nil))))
      (pss_cons (ps_if (PW.pt (pw_or (pt_cmpR op_ne (pe_ix ix_list (pv 7) pe_int (fun _ _ => rfl)) pe_str (nomark _)) (pw_or (pt_not (pt_val (pcl c_l_whole (hr.mono (by decide)) pass0 (pa_cons (pe_ix ix_list (pv 7) pe_int (fun _ _ => rfl)) pa_nil)))) (pw_or1 (pt_not (pt_chain op_le op_lt pe_int (pe_ix ix_list (pv 7) pe_int (fun _ _ => rfl)) (pe_callB (call_max2 rfl) (by rfl) B.max_ boot_max (pa_cons pe_int (pa_cons (pe_op op_sub (pv 1) pe_int) pa_nil)))))))))
        (pss_one (ps_ret pe_bl))
        pss_nil)
      (pss_cons (ps_if (pt_cmpR op_ne (pcl c_l_power (hr.mono (by decide)) pass0 (pa_cons (pv 1) (pa_cons (pv 4) (pa_cons (pe_ix ix_list (pv 7) pe_int (fun _ _ => rfl)) pa_nil)))) (pv 6) (nomark _))
        (pss_one (ps_ret pe_bl))
        pss_nil)
      (pss_one (ps_ret (pe_cmpR (op_eqD hr.units) (pcl c_l_steps_told (hr.mono (by decide)) pass0 (pa_cons (pv 2) (pa_cons (pcl c_l_odd (hr.mono (by decide)) pass0 (pa_cons (pv 0) (pa_cons (pv 1) pa_nil))) pa_nil))) (pe_lst (pa_cons pe_str pa_nil)) (nomark _))))))))))))), ?_⟩
    have hp2 := pr.1
    have h0 : p ≠ 0 := by omega
    have hp : Fp p := .inr ⟨pr, p2⟩
    refine ⟨_, rfl, fun g dx e1 e2 e3 => ⟨g, dx, .int p, rfl, upd_same, .int _, fun q e hi hq1 hq2 H1 hk hx => ⟨rfl, ?_⟩, fun e => ?_⟩⟩
    rotate_left
    · have e' : (decide (2 ≤ (p : Int) ∧ (p : Int) ≤ 20000) && decide (Pr (p : Int).toNat)) = false := e
      rw [Int.toNat_natCast, decide_eq_true pr, decide_eq_true (by omega)] at e'
      cases e'
    obtain rfl : p = q := by
      have := V.int.inj e
      omega
    have s1 : Same H H1 := fun b o hb => hk b o (ne_of_none hb e1) (by rw [upd_ne (ne_of_none hb e1), upd_ne (ne_of_none hb e2)]; exact hb)
    have hf : FldR K H1 p g := ⟨pr, p2, dx, hx⟩
    have hl1 := hl.same s1
    clear hi hq1 hq2 hk
    refine ⟨_, rfl, _, _, rfl, rfl, p - 1, congrArg (fun z => [V.int z]) (by omega), by omega, by omega, fun H2 a ds s2 ha0 ha hPD hlen => ?_⟩
    have na := hl1.ne ha0
    refine ⟨_, rfl, g, p, rfl, hf.same s2, fun H3 src s3 hs => ?_⟩
    have ha3 := s3 _ _ ha
    have hl3 := (hl1.same s2).same s3
    obtain ⟨g1, g2, g3, g4⟩ := id hs
    have b13 : But l H H3 := Same.but (s1.trans (s2.trans s3))
    have hf3 := (hf.same s2).same s3
    refine ⟨_, rfl, .int src, rfl, .int _, true, rfl, iteF ?_⟩
    refine ⟨_, rfl, _, _, rfl, rfl, true, by show V.bl (decide ((1 : Int) ≤ (src : Int))) = V.bl true; rw [decide_eq_true (by omega)], iteT ?_⟩
    refine ⟨_, rfl, _, _, rfl, rfl, true, by show V.bl (decide ((src : Int) < (p : Int))) = V.bl true; rw [decide_eq_true (by omega)], iteF ?_⟩
    refine ⟨_, rfl, _, rfl, _, rfl, p, src, a, ds, rfl, pr, p2, g1, g2, ha3, hPD, hlen, fun H4 s4 => ⟨true, by rw [@decide_eq_true _ (Classical.propDecidable _) g3], iteF ?_⟩⟩
    refine ⟨_, rfl, 1, (src : Int), rfl, ⟨by decide, by decide, by omega, by omega⟩, for_range (lo := 1) (n := ((src : Int) - 1).toNat) (fun i σ H' => Same H3 H' ∧ ∃ v5 : Option V, σ = [some (.ref l), some (.int p), some (.ref g), some (.ref a), some (.int src), v5, none, none]) ⟨s4, _, rfl⟩ ?_ ?_⟩
    · rintro i σ H5 hi ⟨s5, v5, rfl⟩
      have ei : ((1 : Int) + (i : Int)) = ((1 + i : Nat) : Int) := by omega
      rw [ei]
      refine ⟨_, rfl, _, rfl, _, rfl, p, 1 + i, a, ds, rfl, pr, p2, by omega, by omega, s5 _ _ ha3, hPD, hlen, fun H6 s6 => ⟨false, by rw [@decide_eq_false _ (Classical.propDecidable _) (g4 (1 + i) (by omega) (by omega))], iteF ⟨s5.trans s6, _, rfl⟩⟩⟩
    · rintro σ H5 ⟨s5, v5, rfl⟩
      have hl5 := hl3.same s5
      have hf5 := hf3.same s5
      refine ⟨_, rfl, _, rfl, l, p, rfl, hl5, hp, fun H6 v x b6 h6 hv nx nz sx => ?_⟩
      obtain ⟨rfl, _⟩ := hv.r h0
      obtain ⟨x0, x1, x2⟩ := nx.r h0
      obtain ⟨xt, xb⟩ := x
      have y0 : 0 ≤ xt := x0
      have y1 : xt < p := x1
      have y2 : xt ≠ 0 := nz
      obtain ⟨n, rfl⟩ : ∃ n : Nat, xt = (n : Int) := ⟨xt.toNat, by omega⟩
      have hf6 : FldR K H6 p g := (hf5.fld.but hl5 b6).r h0
      refine ⟨_, rfl, _, rfl, g, p, .int n, rfl, hf6, .int _, .inl ⟨n, rfl, by omega, by omega, fun H7 a7 src' t s7 ha7 hs' ht he => ?_⟩⟩
      obtain rfl := hs.uniq hs'
      have hf7 := hf6.same s7
      have h7 := h6.same s7
      refine ⟨_, rfl, _, _, _, _, rfl, rfl, SqL.of ha7, rfl, rfl, false, congrArg (fun z => V.bl (!z)) (decide_eq_true rfl), iteF ?_⟩
      refine ⟨_, rfl, _, _, _, _, rfl, rfl, SqL.of ha7, rfl, .int t, rfl, .int _, true, rfl, iteF ?_⟩
      refine ⟨_, rfl, _, _, _, _, rfl, rfl, SqL.of ha7, rfl, _, _, rfl, rfl, true, by show V.bl (decide ((0 : Int) ≤ (t : Int))) = V.bl true; rw [decide_eq_true (by omega)], iteT ?_⟩
      refine ⟨_, rfl, _, _, rfl, rfl, 1, (p : Int) - 1, rfl, _, _, rfl, rfl, true, ?_, iteF ?_⟩
      · show V.bl (decide ((t : Int) < (if (p : Int) - 1 > 1 then (p : Int) - 1 else 1))) = V.bl true
        rw [decide_eq_true]
        split <;> omega
      have nsrc : IsN p ((src : Int), 1) := by
        unfold IsN
        rw [if_neg h0]
        exact ⟨by omega, by omega, rfl⟩
      refine ⟨_, rfl, _, rfl, _, rfl, _, _, _, _, rfl, rfl, SqL.of ha7, rfl, p, _, ((src : Int), 1), (t : Int), rfl, hp, NAt.of_r h0, nsrc, by show (src : Int) ≠ 0; omega, nb_sm hp h0 nsrc (by decide), by omega, fun z => absurd z h0, fun H8 v8 s8 hv8 => ?_⟩
      have hr8 : nRaise p ((src : Int), 1) (t : Int) = ((n : Int), 1) := by
        unfold nRaise nPow
        rw [if_neg (by omega), if_neg h0, Int.toNat_natCast]
        show ((src : Int) ^ t % (p : Int), (1 : Int)) = ((n : Int), 1)
        rw [pow_cast, he]
      rw [hr8] at hv8
      obtain ⟨rfl, _⟩ := hv8.r h0
      refine ⟨_, rfl, rfl, false, congrArg (fun z => V.bl (!z)) (decide_eq_true rfl), iteF ?_⟩
      have h8 := h7.same s8
      have hf8 := hf7.same s8
      refine ⟨_, rfl, _, rfl, _, rfl, l, p, rfl, h8, hp, fun H9 vo b9 h9 ho => ?_⟩
      obtain ⟨d, dd, sh, th, _, hor⟩ := ho
      have hf9 : FldR K H9 p g := (hf8.fld.but h8 b9).r h0
      refine ⟨g, p, vo, rfl, hf9, th, .inr ⟨hor h0, fun H10 a10 s10 ha10 => ?_⟩⟩
      refine ⟨by show 1 ≤ sizeLine; decide, fun b hb => ?_⟩
      have sb : SeqAt.shaped (.list [.str ("bad" : Str)]) = true := by simp [SeqAt.shaped, PyData.canLay0, PyData.canLayAll0, PyData.depth, PyData.depthAll, ofs_ok]
      refine ⟨.list [.str "bad"], .list [.str "bad"], .lst (SqL.of ((upd_ne (ne_of_none ha10 hb)).trans ha10)) (.cons (.str _) .nil), .lst (SqL.of upd_same) (.cons (.str _) .nil), sb, sb, ?_⟩
      rw [eqv_same sb]
      have bb : But l H H9 := (((b13.same s5).trans b6).same (s7.trans s8)).trans b9
      exact k _ ((bb.same s10).same (Same.up hb)) ((h9.same s10).same (Same.up hb))
end
end G3
namespace G3
open PySem PySem.Spec PyProof.Rows L2
theorem op_any {X : Cx} {f : Value → Value → Sem Value} {r r' : R2} (h : OpR X f r) (h' : OpR X f r') : OpR X f (fun x y H Q => r x y H Q ∨ r' x y H Q) := by
  intro pins s σ H x y v u Q I rx ry q
  exact q.elim (h pins s σ H x y v u Q I rx ry) (h' pins s σ H x y v u Q I rx ry)
/-- == of two fields -/
def rFEq (K : PySem.W.Frag) : R2 := fun x y H Q => (rOwnEq (CR K) (CR K) (sp_eq K false) x y H Q ∨ rOwnEq (CR K) (CF K) (sp_eq K false) x y H Q) ∨ (rOwnEq (CF K) (CR K) (sp_eq K true) x y H Q ∨ rOwnEq (CF K) (CF K) (sp_eq K true) x y H Q)
/-- what the top says of the order of the two classes -/
structure ET (K : PySem.W.Frag) : Prop where
  rr : PySem.W.notFirst K (CR K) (.ref (CR K)) = true
  rf : PySem.W.notFirst K (CR K) (.ref (CF K)) = true
  fr : PySem.W.notFirst K (CF K) (.ref (CR K)) = true
  ff : PySem.W.notFirst K (CF K) (.ref (CF K)) = true
theorem op_feq {X : Cx} {K : PySem.W.Frag} (hK : X.K = K) (e : ET K) (cR : C_R_eq X.prog X.w K X.mg X.base) (cF : C_F_eq X.prog X.w K X.mg X.base) (hr : Room 1 X.A) : OpR X (compareOp .Eq) (rFEq K) := by
  subst hK
  exact op_any (op_any (op_ownEq cR e.rr hr pass0) (op_ownEq cR e.rf hr pass0)) (op_any (op_ownEq cF e.fr hr pass0) (op_ownEq cF e.ff hr pass0))
theorem feq {K : PySem.W.Frag} {H : Hp} {p q : Nat} {a b : Addr} {Q : VK} (hp : Fp p) (ha : Fld K H p a) (hb : Fld K H q b) (k : Q (.bl (decide (p = q))) H) : rFEq K (.ref a) (.ref b) H Q := by
  have base : ∀ (fr : Bool), (p = 0 ↔ fr = true) → sp_eq K fr [.ref a, .ref b] H Q E0 := fun fr h => ⟨a, b, p, q, rfl, hp, h, ha, hb, k⟩
  by_cases h0 : p = 0
  · obtain ⟨dx, _, _, _, h1, _⟩ : FldF K H a := by
      unfold Fld at ha
      rw [if_pos h0] at ha
      exact ha
    by_cases h1' : q = 0
    · obtain ⟨dy, _, _, _, h2, _⟩ : FldF K H b := by
        unfold Fld at hb
        rw [if_pos h1'] at hb
        exact hb
      exact .inr (.inr ⟨a, b, dx, dy, _, _, rfl, rfl, h1, h2, base true (by simp [h0])⟩)
    · obtain ⟨_, _, dy, h2⟩ := hb.r h1'
      exact .inr (.inl ⟨a, b, dx, dy, _, _, rfl, rfl, h1, h2, base true (by simp [h0])⟩)
  · obtain ⟨_, _, dx, h1⟩ := ha.r h0
    by_cases h1' : q = 0
    · obtain ⟨dy, _, _, _, h2, _⟩ : FldF K H b := by
        unfold Fld at hb
        rw [if_pos h1'] at hb
        exact hb
      exact .inl (.inr ⟨a, b, dx, dy, _, _, rfl, rfl, h1, h2, base false (by simp [h0])⟩)
    · obtain ⟨_, _, dy, h2⟩ := hb.r h1'
      exact .inl (.inl ⟨a, b, dx, dy, _, _, rfl, rfl, h1, h2, base false (by simp [h0])⟩)
section
variable {P : Program} {w : World} {K : PySem.W.Frag} {mg : Str → Option Value} {base : Heap}
theorem sc_law : FnScope ["_law_script", "_law_hand_here", "_law_prime_here", "_law_other", "_law_one_here", "_law_largest"] ["_law_script"] (defScope (top 53)) := ⟨rfl, rfl, rfl, by decide +kernel, rfl, by decide +kernel, by decide +kernel⟩
theorem fn_okD {k : Nat} {x : Str} {st : Stmt} {ps N : List Str} {sp : Sp} {f : Addr} {fd : FuncData} (F : FunD K x x (defArgs st) (defBody st) (defScope st) [] [] f fd) (S : FnScope N ps (defScope st)) (len : ∀ vs H Q E, sp vs H Q E → vs.length = ps.length)
    (hb : ∀ (cdv : Value) (A : Around) (outer : List Env) (s : Shared) (H : Hp) (vs : List V) (Q : VK) (E : XK), Room k (A.deeper (envOfC x (defScope st) s.heap.objs.size f cdv)) → sp vs H Q E →
      ∃ t, PSs (cxOf CX0 P w K mg base N x (defScope st) f cdv A outer s H E).nox (defBody st) t ∧ t { nx := fun _ H' => Q .non H', rt := Q } (start N vs) H) : FnOk P w K mg base CX0 (k + 1) f fd ps sp :=
  F.ok S len fun cdv A outer s H vs Q E hr h => let ⟨t, h1, h2⟩ := hb cdv A outer s H vs Q E hr h; ⟨t, h1.nox, h2⟩
theorem ok_law {f : Addr} {fd : FuncData} (F : FunD K "law" "law" (defArgs (top 53)) (defBody (top 53)) (defScope (top 53)) [] [] f fd) (B : Bn mg) (ee : ET K) (cR : C_R_eq P w K mg base) (cF : C_F_eq P w K mg base) (c_l_hand : C_l_hand P w K mg base) (c_l_primes_hold : C_l_primes_hold P w K mg base) (c_l_field : C_l_field P w K mg base) (c_l_sums_hold : C_l_sums_hold P w K mg base)
    (c_l_made_field : C_l_made_field P w K mg base) (c_l_draw : C_l_draw P w K mg base) (c_l_source_holds : C_l_source_holds P w K mg base) (c_l_next_prime : C_l_next_prime P w K mg base) : FnOk P w K mg base CX0 8 f fd ["_law_script"] (sp_law K) := by
  refine fn_okD F sc_law (fun vs H Q E h => ?_) (fun cdv A outer s H vs Q E hr h => ?_)
  · obtain ⟨_, _, rfl, _⟩ := h
    rfl
  · obtain ⟨a, ns, rfl, hS, hlen, k⟩ := h
    refine ⟨_, (pss_cons (ps_set (i := 1) sc_law.nd rfl (Or.inl rfl) (pcl c_l_hand (hr.mono (by decide)) pass0 (pa_cons (pv 0) pa_nil)))
      (pss_cons (ps_if (pt_not (pt_val (pcl c_l_primes_hold (hr.mono (by decide)) pass0 (pa_cons (pv 1) pa_nil))))
        (pss_one (ps_ret pe_bl))
        pss_nil)
      (pss_cons (ps_set (i := 2) sc_law.nd rfl (Or.inl rfl) (pcl c_l_field (hr.mono (by decide)) pass0 (pa_cons (pv 1) pa_nil)))
      (pss_cons (ps_if (pt_not (pt_val (pcl c_l_sums_hold (hr.mono (by decide)) pass0 (pa_cons (pv 1) (pa_cons (pcl c_l_made_field (hr.mono (by decide)) pass0 (pa_cons (pv 2) pa_nil)) (pa_cons (pv 2) pa_nil))))))
        (pss_one (ps_ret pe_bl))
        pss_nil)
      (pss_cons (ps_set (i := 3) sc_law.nd rfl (Or.inl rfl) (pcl c_l_field (hr.mono (by decide)) pass0 (pa_cons (pv 1) pa_nil)))
      (pss_cons (ps_set (i := 4) sc_law.nd rfl (Or.inl rfl) (pcl c_l_made_field (hr.mono (by decide)) pass0 (pa_cons (pv 2) pa_nil)))
      (pss_cons (ps_if (PW.pt (pw_or (pt_cmpR op_ne (pe_cmpR (op_feq rfl ee cR cF (hr.mono (by decide))) (pv 4) (pcl c_l_made_field (hr.mono (by decide)) pass0 (pa_cons (pv 3) pa_nil)) (nomark _)) (pe_cmpR op_eq (pv 2) (pv 3) (nomark _)) (nomark _)) (pw_or1 (pt_not (pt_cmpR (op_feq rfl ee cR cF (hr.mono (by decide))) (pv 4) (pcl c_l_made_field (hr.mono (by decide)) pass0 (pa_cons (pv 2) pa_nil)) (nomark _))))))
        (pss_one (ps_ret pe_bl))
        pss_nil)
      (pss_cons (ps_if (pt_not (pt_val (pcl c_l_sums_hold (hr.mono (by decide)) pass0 (pa_cons (pv 1) (pa_cons (pcl c_l_made_field (hr.mono (by decide)) pass0 (pa_cons (pv 3) pa_nil)) (pa_cons (pv 3) pa_nil))))))
        (pss_one (ps_ret pe_bl))
        pss_nil)
      (pss_cons (ps_if (pt_not (pt_val (pcl c_l_sums_hold (hr.mono (by decide)) pass0 (pa_cons (pv 1) (pa_cons (pv 4) (pa_cons (pv 2) pa_nil))))))
        (pss_one (ps_ret pe_bl))
        pss_nil)
      (pss_mid (ps_set (i := 5) sc_law.nd rfl (Or.inl rfl) (pe_ifExp (pt_cmpR op_eq (pcl c_l_draw (hr.mono (by decide)) pass0 (pa_cons (pv 1) (pa_cons pe_int pa_nil))) pe_int (nomark _)) pe_int pe_int))
      (pss_one (ps_ret (pcl c_l_source_holds (hr.mono (by decide)) pass0 (pa_cons (pv 1) (pa_cons (pcl c_l_next_prime (hr.mono (by decide)) pass0 (pa_cons (pe_op op_add pe_int (pcl c_l_draw (hr.mono (by decide)) pass0 (pa_cons (pv 1) (pa_cons (pe_op op_sub (pv 5) pe_int) pa_nil)))) pa_nil)) pa_nil))))))))))))))), ?_⟩
    refine ⟨_, rfl, a, ns, rfl, hS, hlen, fun H1 l _ _ h1 => ?_⟩
    refine ⟨_, rfl, l, rfl, h1, fun H2 b2 h2 => ⟨_, rfl, iteF ?_⟩⟩
    refine ⟨_, rfl, l, rfl, h2, fun H3 p b3 h3 hp => ?_⟩
    refine ⟨_, rfl, _, rfl, p, rfl, hp, fun H4 f4 s4 _ hf4 => ⟨_, rfl, l, f4, p, rfl, h3.same s4, hp, hf4, fun H5 b5 h5 => ⟨_, rfl, iteF ?_⟩⟩⟩
    refine ⟨_, rfl, l, rfl, h5, fun H6 q b6 h6 hq => ?_⟩
    refine ⟨_, rfl, p, rfl, hp, fun H7 f7 s7 _ hf7 => ?_⟩
    have h7 := h6.same s7
    refine ⟨_, rfl, _, rfl, q, rfl, hq, fun H8 f8 s8 _ hf8 => feq hp (hf7.same s8) hf8 ?_⟩
    refine ⟨_, rfl, _, rfl, rfl, rfl, false, ?_, iteF ?_⟩
    · have e : decide (V.int (p : Int) = V.int (q : Int)) = decide (p = q) := by
        by_cases z : p = q
        · rw [decide_eq_true z, decide_eq_true (by rw [z])]
        · rw [decide_eq_false z, decide_eq_false fun z2 => z (by have := V.int.inj z2; omega)]
      show V.bl (!decide (V.bl (decide (p = q)) = V.bl (decide (V.int (p : Int) = V.int (q : Int))))) = V.bl false
      rw [e, decide_eq_true rfl]
      rfl
    have h8 := h7.same s8
    refine ⟨_, rfl, _, rfl, p, rfl, hp, fun H9 f9 s9 _ hf9 => feq hp ((hf7.same s8).same s9) hf9 ⟨true, by rw [decide_eq_true rfl], iteF ?_⟩⟩
    have h9 := h8.same s9
    have hf79 := (hf7.same s8).same s9
    refine ⟨_, rfl, _, rfl, q, rfl, hq, fun H10 f10 s10 _ hf10 => ⟨_, rfl, l, f10, q, rfl, h9.same s10, hq, hf10, fun H11 b11 h11 => ⟨_, rfl, iteF ?_⟩⟩⟩
    have hf11 := (hf79.same s10).but (h9.same s10) b11
    refine ⟨_, rfl, _, rfl, _, rfl, l, f7, p, rfl, h11, hp, hf11, fun H12 b12 h12 => ⟨_, rfl, iteF ?_⟩⟩
    refine ⟨fun σ' H' => Hand H' l ∧ ∃ n : Nat, (n = 20000 ∨ n = 400) ∧ σ' = [some (.ref a), some (.ref l), some (.int p), some (.int q), some (.ref f7), some (.int n)], ?_, ?_⟩
    · refine ⟨_, rfl, l, 8, rfl, h12, by decide, by decide, fun H13 r b13 h13 hr13 => ⟨rfl, _, rfl, ite2 (fun c => ⟨h13, 20000, .inl rfl, rfl⟩) (fun c => ⟨h13, 400, .inr rfl, rfl⟩)⟩⟩
    · rintro σ13 H13 ⟨h13, n, hn, rfl⟩
      refine ⟨_, rfl, _, rfl, _, rfl, _, _, rfl, rfl, l, n - 4, congrArg (fun z => [V.ref l, V.int z]) (by omega), h13, by omega, by omega, fun H14 r b14 h14 hr14 => ⟨_, _, rfl, rfl, 2 + r, congrArg (fun z => [V.int z]) (by omega), by omega, by omega, fun s hs hs2 => ?_⟩⟩
      exact ⟨l, s, rfl, h14, hs, by omega, fun H15 _ _ => k H15⟩
end
end G3
namespace G3
open PySem PySem.Spec PyProof.Rows L2
section
variable {K : PySem.W.Frag}
theorem SaysX.three (c : SaysX K) : (fas.all fun f => f.ok K) = true ∧ (fbs.all fun f => f K) = true ∧ (fnd.all fun d => d.ok K) = true := by
  have h : (((fas.all fun f => f.ok K) && fbs.all fun f => f K) && fnd.all fun d => d.ok K) = true := congrArg (fun z : He.AlD => z.1) c
  obtain ⟨h1, h2⟩ := Bool.and_eq_true_iff.mp h
  obtain ⟨h3, h4⟩ := Bool.and_eq_true_iff.mp h1
  exact ⟨h3, h4, h2⟩
theorem SaysX.fact (c : SaysX K) (i : Nat) {f : He.Fa} (h : fas[i]? = some f := by rfl) : f.ok K = true := List.all_eq_true.mp c.three.1 f (List.mem_of_getElem? h)
theorem SaysX.own (c : SaysX K) (i : Nat) {f : FB} (h : fbs[i]? = some f := by rfl) : f K = true := List.all_eq_true.mp c.three.2.1 f (List.mem_of_getElem? h)
theorem SaysX.def_ (c : SaysX K) (i : Nat) {d : He.DefD} (h : fnd[i]? = some d := by rfl) : ∃ fd, FunD K d.name d.qual d.params d.body d.scope (d.dvs K) (d.kws K) (He.fAd K d.at_) fd := by
  have e : fnd.map (fun d => He.fnW K d.at_) = fnd.map He.DefD.val := congrArg (fun z : He.AlD => z.2) c
  have e2 : (fnd.map fun d => He.fnW K d.at_)[i]? = (fnd.map He.DefD.val)[i]? := by rw [e]
  rw [List.getElem?_map, List.getElem?_map, h] at e2
  exact He.DefD.funD (Option.some.inj e2) (List.all_eq_true.mp c.three.2.2 d (List.mem_of_getElem? h))
theorem oex_of {x : Str} (c : oexB x K = true) : OexC K (He.ga K x) := by
  obtain ⟨c1, c⟩ := Bool.and_eq_true_iff.mp c
  obtain ⟨c2, c⟩ := Bool.and_eq_true_iff.mp c
  obtain ⟨c3, c⟩ := Bool.and_eq_true_iff.mp c
  obtain ⟨c4, c5⟩ := Bool.and_eq_true_iff.mp c
  refine ⟨?_, He.eqO_ok c2, of_decide_eq_true c3, of_decide_eq_true c4, c5⟩
  revert c1
  cases hk : K.lookup (He.ga K x) with
  | none => exact fun c1 => nomatch c1
  | some o =>
    obtain ⟨oc, dd, dt, sl⟩ := o
    intro c1
    cases oc with
    | type t =>
      cases dt with
      | cls cd =>
        dsimp only at c1
        split at c1
        · rename_i C' bm k0 k1 k2 k3 n k5 hm hs
          obtain ⟨e0, c1⟩ := Bool.and_eq_true_iff.mp c1
          obtain ⟨e1, c1⟩ := Bool.and_eq_true_iff.mp c1
          obtain ⟨e2, c1⟩ := Bool.and_eq_true_iff.mp c1
          obtain ⟨e3, c1⟩ := Bool.and_eq_true_iff.mp c1
          obtain ⟨e4, e5⟩ := Bool.and_eq_true_iff.mp c1
          have e0 := of_decide_eq_true e0
          have e1 := of_decide_eq_true e1
          have e2 := of_decide_eq_true e2
          obtain ⟨nm, bs, mro, ns, qn, hd, sn, sub, ab, col, del⟩ := cd
          obtain ⟨l⟩ := sl
          have e3 : del = false := by simpa using e3
          have e4 : hd = true := e4
          dsimp only at hm hs
          subst e0 e1 e2 e3 e4 hm hs
          exact ⟨nm, qn, ns, bs, bm, sn, sub, ab, col, dd, k0, k1, k2, k3, k5, rfl, e5⟩
        · cases c1
      | _ => cases c1
    | _ => cases dt <;> cases c1
theorem bas_of {mg : Str → Option Value} (g : mg "SheetError" = some (.ref (SE K))) (c : basB K = true) : BaseX K mg "SheetError" (SE K) := by
  obtain ⟨c1, c⟩ := Bool.and_eq_true_iff.mp c
  obtain ⟨c2, c3⟩ := Bool.and_eq_true_iff.mp c
  refine ⟨g, c1, He.eqO_ok c2, ?_⟩
  revert c3
  cases hk : PySem.W.findCls K (.ref (He.ga K "SheetError")) (.type "type") "__init__" with
  | none => exact fun c3 => nomatch c3
  | some z =>
    intro c3
    cases z with
    | val v =>
      cases v with
      | builtin n =>
        have e : n = "ValueError.__init__" := of_decide_eq_true c3
        rw [e]
      | _ => cases c3
    | _ => cases c3
theorem exc_of {x : Str} (o : OexC K (He.ga K x)) (c : excB x K = true) (l : clnB x K = true) (g : getB K = true) : ExcC K (He.ga K x) := by
  obtain ⟨c1, c⟩ := Bool.and_eq_true_iff.mp c
  obtain ⟨c2, c3⟩ := Bool.and_eq_true_iff.mp c
  obtain ⟨l1, l2⟩ := Bool.and_eq_true_iff.mp l
  obtain ⟨g1, g2⟩ := Bool.and_eq_true_iff.mp g
  exact ⟨He.eqO_ok c1, He.eqO_ok c2, o.exC, c3, He.eqO_ok l1, He.eqO_ok g1, of_decide_eq_true g2, of_decide_eq_true l2⟩
end
section
variable {P : Program} {w : World} {K : PySem.W.Frag} {h : Heap} {mg : Str → Option Value} {base : Heap}
theorem pair_ {a b : Bool} (h : (a && b) = true) : a = true ∧ b = true := Bool.and_eq_true_iff.mp h
theorem bn_of (X : K.In h) (G : h.Ns mainGlobals mg) (c : SaysX K) : Bn mg := ⟨He.free_ok X G (c.fact 49), He.free_ok X G (c.fact 50), He.free_ok X G (c.fact 51), He.free_ok X G (c.fact 52), He.free_ok X G (c.fact 53), He.free_ok X G (c.fact 54), He.free_ok X G (c.fact 55), He.free_ok X G (c.fact 56), He.free_ok X G (c.fact 57), He.free_ok X G (c.fact 58), He.free_ok X G (c.fact 59), He.free_ok X G (c.fact 60), He.free_ok X G (c.fact 61)⟩
theorem ft_of (X : K.In h) (G : h.Ns mainGlobals mg) (c : SaysX K) : FT K mg := ⟨He.cls_ok (c.fact 63), He.cls_ok (c.fact 65), He.noat_ok (c.fact 67), He.noat_ok (c.fact 68), He.noat_ok (c.fact 69), He.noat_ok (c.fact 70), He.noat_ok (c.fact 71), He.noat_ok (c.fact 72), He.noat_ok (c.fact 73), He.glo_ok X G (c.fact 47), He.glo_ok X G (c.fact 48), He.eqO_ok (pair_ (c.own 12)).1, He.eqO_ok (pair_ (c.own 13)).1, of_decide_eq_true (pair_ (c.own 12)).2, of_decide_eq_true (pair_ (c.own 13)).2, He.eqO_ok (pair_ (c.own 14)).1, of_decide_eq_true (pair_ (c.own 14)).2, of_decide_eq_true (c.own 16), of_decide_eq_true (c.own 17), of_decide_eq_true (c.own 18), of_decide_eq_true (c.own 19)⟩
theorem xt_of (X : K.In h) (G : h.Ns mainGlobals mg) (c : SaysX K) : XT K mg := ⟨He.glo_ok X G (c.fact 43), He.glo_ok X G (c.fact 44), He.glo_ok X G (c.fact 45), He.glo_ok X G (c.fact 46), exc_of (oex_of (c.own 0)) (c.own 2) (c.own 9) (c.own 14), exc_of (oex_of (c.own 3)) (c.own 5) (c.own 10) (c.own 14), exc_of (oex_of (c.own 6)) (c.own 8) (c.own 11) (c.own 14), He.exm_ok (c.fact 90), He.exm_ok (c.fact 91), He.exm_ok (c.fact 92), of_decide_eq_true (c.own 20), of_decide_eq_true (c.own 26), of_decide_eq_true (c.own 21), of_decide_eq_true (c.own 22), of_decide_eq_true (c.own 23), of_decide_eq_true (c.own 24), of_decide_eq_true (c.own 27), of_decide_eq_true (c.own 25)⟩
theorem et_of (c : SaysX K) : ET K := ⟨(c.own 28), (c.own 29), (c.own 30), (c.own 31)⟩
theorem df_of (X : K.In h) (G : h.Ns mainGlobals mg) {x : Str} {st : Stmt} {ps : List Str} (F : ∃ fd, FunD K x x (defArgs st) (defBody st) (defScope st) [] [] (He.fAd K (x, none)) fd) (hg : (He.Fa.glo x).ok K = true)
    (hb : ∀ (kV doc pm : Value) (an : Option Addr) (cdv ct : Value) (us : List Value), us.length = ps.length → bindArgs (PySem.W.fnOf x x (defArgs st) (defBody st) (defScope st) .none kV doc pm an cdv ct) ⟨us, []⟩ = pure (ps.zip us)) : Df K mg x st ps := by
  obtain ⟨fd, F⟩ := F
  exact ⟨_, fd, F, He.glo_ok X G hg, F.bindsN hb⟩
theorem dm_of {C m qual : Str} {st : Stmt} {ps : List Str} (F : ∃ fd, FunD K m qual (defArgs st) (defBody st) (defScope st) [] [] (He.fAd K (C, some m)) fd) (hm : (He.Fa.meth C m).ok K = true)
    (hb : ∀ (kV doc pm : Value) (an : Option Addr) (cdv ct : Value) (us : List Value), us.length = ps.length → bindArgs (PySem.W.fnOf m qual (defArgs st) (defBody st) (defScope st) .none kV doc pm an cdv ct) ⟨us, []⟩ = pure (ps.zip us)) : Dm K (He.ga K C) m qual st ps := by
  obtain ⟨fd, F⟩ := F
  exact ⟨_, fd, F, He.meth_ok hm, F.bindsN hb⟩
theorem D_common_divisor (X : K.In h) (G : h.Ns mainGlobals mg) (c : SaysX K) : Df K mg "common_divisor" (top 7) ["one", "other"] := df_of X G (c.def_ 1 (d := dOf "common_divisor" 7 [])) (c.fact 1) (fun _ _ _ _ _ _ us hl => match us, hl with | [_, _], _ => rfl)
theorem D_power_of (X : K.In h) (G : h.Ns mainGlobals mg) (c : SaysX K) : Df K mg "power_of" (top 8) ["base", "exponent"] := df_of X G (c.def_ 2 (d := dOf "power_of" 8 [])) (c.fact 2) (fun _ _ _ _ _ _ us hl => match us, hl with | [_, _], _ => rfl)
theorem D_is_prime (X : K.In h) (G : h.Ns mainGlobals mg) (c : SaysX K) : Df K mg "is_prime" (top 11) ["number"] := df_of X G (c.def_ 3 (d := dOf "is_prime" 11 [])) (c.fact 3) (fun _ _ _ _ _ _ us hl => match us, hl with | [_], _ => rfl)
theorem D_rest_power (X : K.In h) (G : h.Ns mainGlobals mg) (c : SaysX K) : Df K mg "rest_power" (top 12) ["number", "exponent", "prime"] := df_of X G (c.def_ 4 (d := dOf "rest_power" 12 [])) (c.fact 4) (fun _ _ _ _ _ _ us hl => match us, hl with | [_, _, _], _ => rfl)
theorem D_lowest_terms (X : K.In h) (G : h.Ns mainGlobals mg) (c : SaysX K) : Df K mg "lowest_terms" (top 13) ["top", "bottom"] := df_of X G (c.def_ 5 (d := dOf "lowest_terms" 13 [])) (c.fact 5) (fun _ _ _ _ _ _ us hl => match us, hl with | [_, _], _ => rfl)
theorem D_prime_divisors (X : K.In h) (G : h.Ns mainGlobals mg) (c : SaysX K) : Df K mg "prime_divisors" (top 16) ["number"] := df_of X G (c.def_ 6 (d := dOf "prime_divisors" 16 [])) (c.fact 6) (fun _ _ _ _ _ _ us hl => match us, hl with | [_], _ => rfl)
theorem D_source_of (X : K.In h) (G : h.Ns mainGlobals mg) (c : SaysX K) : Df K mg "source_of" (top 17) ["field"] := df_of X G (c.def_ 7 (d := dOf "source_of" 17 [])) (c.fact 7) (fun _ _ _ _ _ _ us hl => match us, hl with | [_], _ => rfl)
theorem D_steps_of (X : K.In h) (G : h.Ns mainGlobals mg) (c : SaysX K) : Df K mg "steps_of" (top 18) ["field", "number"] := df_of X G (c.def_ 8 (d := dOf "steps_of" 18 [])) (c.fact 8) (fun _ _ _ _ _ _ us hl => match us, hl with | [_, _], _ => rfl)
theorem D_l_mixed (X : K.In h) (G : h.Ns mainGlobals mg) (c : SaysX K) : Df K mg "_law_mixed" (top 20) ["_law_number_here", "_law_turn"] := df_of X G (c.def_ 9 (d := dOf "_law_mixed" 20 [])) (c.fact 9) (fun _ _ _ _ _ _ us hl => match us, hl with | [_, _], _ => rfl)
theorem D_l_hand (X : K.In h) (G : h.Ns mainGlobals mg) (c : SaysX K) : Df K mg "_law_hand" (top 21) ["_law_script"] := df_of X G (c.def_ 10 (d := dOf "_law_hand" 21 [])) (c.fact 10) (fun _ _ _ _ _ _ us hl => match us, hl with | [_], _ => rfl)
theorem D_l_draw (X : K.In h) (G : h.Ns mainGlobals mg) (c : SaysX K) : Df K mg "_law_draw" (top 22) ["_law_hand_here", "_law_many"] := df_of X G (c.def_ 11 (d := dOf "_law_draw" 22 [])) (c.fact 11) (fun _ _ _ _ _ _ us hl => match us, hl with | [_, _], _ => rfl)
theorem D_l_whole (X : K.In h) (G : h.Ns mainGlobals mg) (c : SaysX K) : Df K mg "_law_whole" (top 23) ["_law_thing"] := df_of X G (c.def_ 12 (d := dOf "_law_whole" 23 [])) (c.fact 12) (fun _ _ _ _ _ _ us hl => match us, hl with | [_], _ => rfl)
theorem D_l_divisor (X : K.In h) (G : h.Ns mainGlobals mg) (c : SaysX K) : Df K mg "_law_divisor" (top 24) ["_law_one_here", "_law_other"] := df_of X G (c.def_ 13 (d := dOf "_law_divisor" 24 [])) (c.fact 13) (fun _ _ _ _ _ _ us hl => match us, hl with | [_, _], _ => rfl)
theorem D_l_lowest (X : K.In h) (G : h.Ns mainGlobals mg) (c : SaysX K) : Df K mg "_law_lowest" (top 25) ["_law_top", "_law_bottom"] := df_of X G (c.def_ 14 (d := dOf "_law_lowest" 25 [])) (c.fact 14) (fun _ _ _ _ _ _ us hl => match us, hl with | [_, _], _ => rfl)
theorem D_l_prime (X : K.In h) (G : h.Ns mainGlobals mg) (c : SaysX K) : Df K mg "_law_prime" (top 26) ["_law_number_here"] := df_of X G (c.def_ 15 (d := dOf "_law_prime" 26 [])) (c.fact 15) (fun _ _ _ _ _ _ us hl => match us, hl with | [_], _ => rfl)
theorem D_l_next_prime (X : K.In h) (G : h.Ns mainGlobals mg) (c : SaysX K) : Df K mg "_law_next_prime" (top 27) ["_law_number_here"] := df_of X G (c.def_ 16 (d := dOf "_law_next_prime" 27 [])) (c.fact 16) (fun _ _ _ _ _ _ us hl => match us, hl with | [_], _ => rfl)
theorem D_l_field (X : K.In h) (G : h.Ns mainGlobals mg) (c : SaysX K) : Df K mg "_law_field" (top 28) ["_law_hand_here"] := df_of X G (c.def_ 17 (d := dOf "_law_field" 28 [])) (c.fact 17) (fun _ _ _ _ _ _ us hl => match us, hl with | [_], _ => rfl)
theorem D_l_made_field (X : K.In h) (G : h.Ns mainGlobals mg) (c : SaysX K) : Df K mg "_law_made_field" (top 29) ["_law_prime_here"] := df_of X G (c.def_ 18 (d := dOf "_law_made_field" 29 [])) (c.fact 18) (fun _ _ _ _ _ _ us hl => match us, hl with | [_], _ => rfl)
theorem D_l_one (X : K.In h) (G : h.Ns mainGlobals mg) (c : SaysX K) : Df K mg "_law_one" (top 30) ["_law_prime_here"] := df_of X G (c.def_ 19 (d := dOf "_law_one" 30 [])) (c.fact 19) (fun _ _ _ _ _ _ us hl => match us, hl with | [_], _ => rfl)
theorem D_l_minus (X : K.In h) (G : h.Ns mainGlobals mg) (c : SaysX K) : Df K mg "_law_minus" (top 31) ["_law_prime_here"] := df_of X G (c.def_ 20 (d := dOf "_law_minus" 31 [])) (c.fact 20) (fun _ _ _ _ _ _ us hl => match us, hl with | [_], _ => rfl)
theorem D_l_times (X : K.In h) (G : h.Ns mainGlobals mg) (c : SaysX K) : Df K mg "_law_times" (top 32) ["_law_prime_here", "_law_a", "_law_b"] := df_of X G (c.def_ 21 (d := dOf "_law_times" 32 [])) (c.fact 21) (fun _ _ _ _ _ _ us hl => match us, hl with | [_, _, _], _ => rfl)
theorem D_l_power (X : K.In h) (G : h.Ns mainGlobals mg) (c : SaysX K) : Df K mg "_law_power" (top 33) ["_law_prime_here", "_law_a", "_law_exponent_here"] := df_of X G (c.def_ 22 (d := dOf "_law_power" 33 [])) (c.fact 22) (fun _ _ _ _ _ _ us hl => match us, hl with | [_, _, _], _ => rfl)
theorem D_l_number (X : K.In h) (G : h.Ns mainGlobals mg) (c : SaysX K) : Df K mg "_law_number" (top 34) ["_law_hand_here", "_law_prime_here"] := df_of X G (c.def_ 23 (d := dOf "_law_number" 34 [])) (c.fact 23) (fun _ _ _ _ _ _ us hl => match us, hl with | [_, _], _ => rfl)
theorem D_l_is_number (X : K.In h) (G : h.Ns mainGlobals mg) (c : SaysX K) : Df K mg "_law_is_number" (top 35) ["_law_prime_here", "_law_thing"] := df_of X G (c.def_ 24 (d := dOf "_law_is_number" 35 [])) (c.fact 24) (fun _ _ _ _ _ _ us hl => match us, hl with | [_, _], _ => rfl)
theorem D_l_same (X : K.In h) (G : h.Ns mainGlobals mg) (c : SaysX K) : Df K mg "_law_same" (top 36) ["_law_prime_here", "_law_thing", "_law_due"] := df_of X G (c.def_ 25 (d := dOf "_law_same" 36 [])) (c.fact 25) (fun _ _ _ _ _ _ us hl => match us, hl with | [_, _, _], _ => rfl)
theorem D_l_odd (X : K.In h) (G : h.Ns mainGlobals mg) (c : SaysX K) : Df K mg "_law_odd" (top 37) ["_law_hand_here", "_law_prime_here"] := df_of X G (c.def_ 26 (d := dOf "_law_odd" 37 [])) (c.fact 26) (fun _ _ _ _ _ _ us hl => match us, hl with | [_, _], _ => rfl)
theorem D_l_field_told (X : K.In h) (G : h.Ns mainGlobals mg) (c : SaysX K) : Df K mg "_law_field_told" (top 38) ["_law_number_here"] := df_of X G (c.def_ 27 (d := dOf "_law_field_told" 38 [])) (c.fact 27) (fun _ _ _ _ _ _ us hl => match us, hl with | [_], _ => rfl)
theorem D_l_primes_hold (X : K.In h) (G : h.Ns mainGlobals mg) (c : SaysX K) : Df K mg "_law_primes_hold" (top 39) ["_law_hand_here"] := df_of X G (c.def_ 28 (d := dOf "_law_primes_hold" 39 [])) (c.fact 28) (fun _ _ _ _ _ _ us hl => match us, hl with | [_], _ => rfl)
theorem D_l_number_told (X : K.In h) (G : h.Ns mainGlobals mg) (c : SaysX K) : Df K mg "_law_number_told" (top 40) ["_law_field_here", "_law_thing"] := df_of X G (c.def_ 29 (d := dOf "_law_number_told" 40 [])) (c.fact 29) (fun _ _ _ _ _ _ us hl => match us, hl with | [_, _], _ => rfl)
theorem D_l_divided (X : K.In h) (G : h.Ns mainGlobals mg) (c : SaysX K) : Df K mg "_law_divided" (top 41) ["_law_field_here", "_law_one_here", "_law_other"] := df_of X G (c.def_ 30 (d := dOf "_law_divided" 41 [])) (c.fact 30) (fun _ _ _ _ _ _ us hl => match us, hl with | [_, _, _], _ => rfl)
theorem D_l_raised (X : K.In h) (G : h.Ns mainGlobals mg) (c : SaysX K) : Df K mg "_law_raised" (top 42) ["_law_field_here", "_law_number_here", "_law_exponent_here"] := df_of X G (c.def_ 31 (d := dOf "_law_raised" 42 [])) (c.fact 31) (fun _ _ _ _ _ _ us hl => match us, hl with | [_, _, _], _ => rfl)
theorem D_l_plus (X : K.In h) (G : h.Ns mainGlobals mg) (c : SaysX K) : Df K mg "_law_plus" (top 43) ["_law_prime_here", "_law_a", "_law_b"] := df_of X G (c.def_ 32 (d := dOf "_law_plus" 43 [])) (c.fact 32) (fun _ _ _ _ _ _ us hl => match us, hl with | [_, _, _], _ => rfl)
theorem D_l_less (X : K.In h) (G : h.Ns mainGlobals mg) (c : SaysX K) : Df K mg "_law_less" (top 44) ["_law_prime_here", "_law_a", "_law_b"] := df_of X G (c.def_ 33 (d := dOf "_law_less" 44 [])) (c.fact 33) (fun _ _ _ _ _ _ us hl => match us, hl with | [_, _, _], _ => rfl)
theorem D_l_any_number (X : K.In h) (G : h.Ns mainGlobals mg) (c : SaysX K) : Df K mg "_law_any_number" (top 45) ["_law_hand_here", "_law_prime_here"] := df_of X G (c.def_ 34 (d := dOf "_law_any_number" 45 [])) (c.fact 34) (fun _ _ _ _ _ _ us hl => match us, hl with | [_, _], _ => rfl)
theorem D_l_exponent (X : K.In h) (G : h.Ns mainGlobals mg) (c : SaysX K) : Df K mg "_law_exponent" (top 46) ["_law_hand_here", "_law_prime_here"] := df_of X G (c.def_ 35 (d := dOf "_law_exponent" 46 [])) (c.fact 35) (fun _ _ _ _ _ _ us hl => match us, hl with | [_, _], _ => rfl)
theorem D_l_powers_hold (X : K.In h) (G : h.Ns mainGlobals mg) (c : SaysX K) : Df K mg "_law_powers_hold" (top 47) ["_law_field_here", "_law_prime_here", "_law_a", "_law_exponent_here", "_law_zero"] := df_of X G (c.def_ 36 (d := dOf "_law_powers_hold" 47 [])) (c.fact 36) (fun _ _ _ _ _ _ us hl => match us, hl with | [_, _, _, _, _], _ => rfl)
theorem D_l_sums_hold (X : K.In h) (G : h.Ns mainGlobals mg) (c : SaysX K) : Df K mg "_law_sums_hold" (top 48) ["_law_hand_here", "_law_field_here", "_law_prime_here"] := df_of X G (c.def_ 37 (d := dOf "_law_sums_hold" 48 [])) (c.fact 37) (fun _ _ _ _ _ _ us hl => match us, hl with | [_, _, _], _ => rfl)
theorem D_l_prime_parts (X : K.In h) (G : h.Ns mainGlobals mg) (c : SaysX K) : Df K mg "_law_prime_parts" (top 49) ["_law_number_here"] := df_of X G (c.def_ 38 (d := dOf "_law_prime_parts" 49 [])) (c.fact 38) (fun _ _ _ _ _ _ us hl => match us, hl with | [_], _ => rfl)
theorem D_l_is_source (X : K.In h) (G : h.Ns mainGlobals mg) (c : SaysX K) : Df K mg "_law_is_source" (top 50) ["_law_prime_here", "_law_number_here", "_law_parts"] := df_of X G (c.def_ 39 (d := dOf "_law_is_source" 50 [])) (c.fact 39) (fun _ _ _ _ _ _ us hl => match us, hl with | [_, _, _], _ => rfl)
theorem D_l_steps_told (X : K.In h) (G : h.Ns mainGlobals mg) (c : SaysX K) : Df K mg "_law_steps_told" (top 51) ["_law_field_here", "_law_thing"] := df_of X G (c.def_ 40 (d := dOf "_law_steps_told" 51 [])) (c.fact 40) (fun _ _ _ _ _ _ us hl => match us, hl with | [_, _], _ => rfl)
theorem D_l_source_holds (X : K.In h) (G : h.Ns mainGlobals mg) (c : SaysX K) : Df K mg "_law_source_holds" (top 52) ["_law_hand_here", "_law_prime_here"] := df_of X G (c.def_ 41 (d := dOf "_law_source_holds" 52 [])) (c.fact 41) (fun _ _ _ _ _ _ us hl => match us, hl with | [_, _], _ => rfl)
theorem D_law (X : K.In h) (G : h.Ns mainGlobals mg) (c : SaysX K) : Df K mg "law" (top 53) ["_law_script"] := df_of X G (c.def_ 42 (d := dOf "law" 53 [])) (c.fact 42) (fun _ _ _ _ _ _ us hl => match us, hl with | [_], _ => rfl)
theorem D_R_eq (c : SaysX K) : Dm K (He.ga K "RestField") "__eq__" "RestField.__eq__" (inClass (top 14) 1) ["self", "other"] := dm_of (c.def_ 47 (d := dMt "RestField" "__eq__" "RestField.__eq__" 14 1)) (c.fact 74) (fun _ _ _ _ _ _ us hl => match us, hl with | [_, _], _ => rfl)
theorem D_R_check_number (c : SaysX K) : Dm K (He.ga K "RestField") "check_number" "RestField.check_number" (inClass (top 14) 2) ["self", "number"] := dm_of (c.def_ 48 (d := dMt "RestField" "check_number" "RestField.check_number" 14 2)) (c.fact 75) (fun _ _ _ _ _ _ us hl => match us, hl with | [_, _], _ => rfl)
theorem D_R_number_of (c : SaysX K) : Dm K (He.ga K "RestField") "number_of" "RestField.number_of" (inClass (top 14) 3) ["self", "whole"] := dm_of (c.def_ 49 (d := dMt "RestField" "number_of" "RestField.number_of" 14 3)) (c.fact 76) (fun _ _ _ _ _ _ us hl => match us, hl with | [_, _], _ => rfl)
theorem D_R_plus (c : SaysX K) : Dm K (He.ga K "RestField") "plus" "RestField.plus" (inClass (top 14) 4) ["self", "one", "other"] := dm_of (c.def_ 50 (d := dMt "RestField" "plus" "RestField.plus" 14 4)) (c.fact 77) (fun _ _ _ _ _ _ us hl => match us, hl with | [_, _, _], _ => rfl)
theorem D_R_less (c : SaysX K) : Dm K (He.ga K "RestField") "less" "RestField.less" (inClass (top 14) 5) ["self", "one", "other"] := dm_of (c.def_ 51 (d := dMt "RestField" "less" "RestField.less" 14 5)) (c.fact 78) (fun _ _ _ _ _ _ us hl => match us, hl with | [_, _, _], _ => rfl)
theorem D_R_times (c : SaysX K) : Dm K (He.ga K "RestField") "times" "RestField.times" (inClass (top 14) 6) ["self", "one", "other"] := dm_of (c.def_ 52 (d := dMt "RestField" "times" "RestField.times" 14 6)) (c.fact 79) (fun _ _ _ _ _ _ us hl => match us, hl with | [_, _, _], _ => rfl)
theorem D_R_quotient (c : SaysX K) : Dm K (He.ga K "RestField") "quotient" "RestField.quotient" (inClass (top 14) 7) ["self", "one", "other"] := dm_of (c.def_ 53 (d := dMt "RestField" "quotient" "RestField.quotient" 14 7)) (c.fact 80) (fun _ _ _ _ _ _ us hl => match us, hl with | [_, _, _], _ => rfl)
theorem D_R_power (c : SaysX K) : Dm K (He.ga K "RestField") "power" "RestField.power" (inClass (top 14) 8) ["self", "number", "exponent"] := dm_of (c.def_ 54 (d := dMt "RestField" "power" "RestField.power" 14 8)) (c.fact 81) (fun _ _ _ _ _ _ us hl => match us, hl with | [_, _, _], _ => rfl)
theorem D_F_eq (c : SaysX K) : Dm K (He.ga K "FractionField") "__eq__" "FractionField.__eq__" (inClass (top 15) 1) ["self", "other"] := dm_of (c.def_ 56 (d := dMt "FractionField" "__eq__" "FractionField.__eq__" 15 1)) (c.fact 82) (fun _ _ _ _ _ _ us hl => match us, hl with | [_, _], _ => rfl)
theorem D_F_check_number (c : SaysX K) : Dm K (He.ga K "FractionField") "check_number" "FractionField.check_number" (inClass (top 15) 2) ["self", "number"] := dm_of (c.def_ 57 (d := dMt "FractionField" "check_number" "FractionField.check_number" 15 2)) (c.fact 83) (fun _ _ _ _ _ _ us hl => match us, hl with | [_, _], _ => rfl)
theorem D_F_number_of (c : SaysX K) : Dm K (He.ga K "FractionField") "number_of" "FractionField.number_of" (inClass (top 15) 3) ["self", "whole"] := dm_of (c.def_ 58 (d := dMt "FractionField" "number_of" "FractionField.number_of" 15 3)) (c.fact 84) (fun _ _ _ _ _ _ us hl => match us, hl with | [_, _], _ => rfl)
theorem D_F_plus (c : SaysX K) : Dm K (He.ga K "FractionField") "plus" "FractionField.plus" (inClass (top 15) 4) ["self", "one", "other"] := dm_of (c.def_ 59 (d := dMt "FractionField" "plus" "FractionField.plus" 15 4)) (c.fact 85) (fun _ _ _ _ _ _ us hl => match us, hl with | [_, _, _], _ => rfl)
theorem D_F_less (c : SaysX K) : Dm K (He.ga K "FractionField") "less" "FractionField.less" (inClass (top 15) 5) ["self", "one", "other"] := dm_of (c.def_ 60 (d := dMt "FractionField" "less" "FractionField.less" 15 5)) (c.fact 86) (fun _ _ _ _ _ _ us hl => match us, hl with | [_, _, _], _ => rfl)
theorem D_F_times (c : SaysX K) : Dm K (He.ga K "FractionField") "times" "FractionField.times" (inClass (top 15) 6) ["self", "one", "other"] := dm_of (c.def_ 61 (d := dMt "FractionField" "times" "FractionField.times" 15 6)) (c.fact 87) (fun _ _ _ _ _ _ us hl => match us, hl with | [_, _, _], _ => rfl)
theorem D_F_quotient (c : SaysX K) : Dm K (He.ga K "FractionField") "quotient" "FractionField.quotient" (inClass (top 15) 7) ["self", "one", "other"] := dm_of (c.def_ 62 (d := dMt "FractionField" "quotient" "FractionField.quotient" 15 7)) (c.fact 88) (fun _ _ _ _ _ _ us hl => match us, hl with | [_, _, _], _ => rfl)
theorem D_F_power (c : SaysX K) : Dm K (He.ga K "FractionField") "power" "FractionField.power" (inClass (top 15) 8) ["self", "number", "exponent"] := dm_of (c.def_ 63 (d := dMt "FractionField" "power" "FractionField.power" 15 8)) (c.fact 89) (fun _ _ _ _ _ _ us hl => match us, hl with | [_, _, _], _ => rfl)
theorem Z_BadPrime (X : K.In h) (G : h.Ns mainGlobals mg) (c : SaysX K) : Xc P w K mg base "BadPrime" (XP K) := by
  obtain ⟨fd, F⟩ := c.def_ 43 (d := dMt "BadPrime" "__init__" "BadPrime.__init__" 2 0)
  obtain ⟨i1, i2⟩ := pair_ (c.own 1)
  exact ok_xBadPrime (oex_of (c.own 0)) (bas_of (He.glo_ok X G (c.fact 43)) (c.own 15)) F (He.eqO_ok i1) (of_decide_eq_true i2) (F.bindsN (ps := ["self"]) (fun _ _ _ _ _ _ us hl => match us, hl with | [_], _ => rfl)) (He.glo_ok X G (c.fact 44))
theorem Z_BadNumber (X : K.In h) (G : h.Ns mainGlobals mg) (c : SaysX K) : Xc P w K mg base "BadNumber" (XN K) := by
  obtain ⟨fd, F⟩ := c.def_ 44 (d := dMt "BadNumber" "__init__" "BadNumber.__init__" 3 0)
  obtain ⟨i1, i2⟩ := pair_ (c.own 4)
  exact ok_xBadNumber (oex_of (c.own 3)) (bas_of (He.glo_ok X G (c.fact 43)) (c.own 15)) F (He.eqO_ok i1) (of_decide_eq_true i2) (F.bindsN (ps := ["self"]) (fun _ _ _ _ _ _ us hl => match us, hl with | [_], _ => rfl)) (He.glo_ok X G (c.fact 45))
theorem Z_ByZero (X : K.In h) (G : h.Ns mainGlobals mg) (c : SaysX K) : Xc P w K mg base "ByZero" (XZ K) := by
  obtain ⟨fd, F⟩ := c.def_ 45 (d := dMt "ByZero" "__init__" "ByZero.__init__" 4 0)
  obtain ⟨i1, i2⟩ := pair_ (c.own 7)
  exact ok_xByZero (oex_of (c.own 6)) (bas_of (He.glo_ok X G (c.fact 43)) (c.own 15)) F (He.eqO_ok i1) (of_decide_eq_true i2) (F.bindsN (ps := ["self"]) (fun _ _ _ _ _ _ us hl => match us, hl with | [_], _ => rfl)) (He.glo_ok X G (c.fact 46))
theorem cad_whole (X : K.In h) (G : h.Ns mainGlobals mg) (c : SaysX K) (n j : Nat) (hn : n + (2 - j) = 3)
    (hb : ∀ (T : Addr) (kV doc pm : Value) (an : Option Addr) (cdv ct : Value) (us its : List Value), us.length = n → its.length = 2 →
      ∃ k, bindArgs (PySem.W.fnOf "is_whole" "is_whole" (defArgs (top 6)) (defBody (top 6)) (defScope (top 6)) (.ref T) kV doc pm an cdv ct) ⟨us, []⟩ = seqItems? (.ref T) >>= k ∧ k (some its.toArray) = pure ((["thing", "low", "high"] : List Str).zip (us ++ its.drop j))) : C_is_whole P w K mg base (([.non, .non] : List V).drop j) := by
  obtain ⟨fd, F⟩ := c.def_ 0 (d := dOf "is_whole" 6 [.non, .non])
  obtain ⟨dvs, r, b⟩ := FunD.binds1 (ps := ["thing", "low", "high"]) F n j (by exact List.cons_ne_nil _ _) hn hb
  exact ⟨_, fd, dvs, ok_is_whole F (bn_of X G c), He.glo_ok X G (c.fact 0), F.kp, r, b⟩
theorem W0 (X : K.In h) (G : h.Ns mainGlobals mg) (c : SaysX K) : C_is_whole P w K mg base [] := cad_whole X G c 3 2 rfl fun _ _ _ _ _ _ _ us its hl hi => match us, its, hl, hi with | [_, _, _], [_, _], _, _ => ⟨_, rfl, rfl⟩
theorem W1 (X : K.In h) (G : h.Ns mainGlobals mg) (c : SaysX K) : C_is_whole P w K mg base [.non] := cad_whole X G c 2 1 rfl fun _ _ _ _ _ _ _ us its hl hi => match us, its, hl, hi with | [_, _], [_, _], _, _ => ⟨_, rfl, rfl⟩
theorem W2 (X : K.In h) (G : h.Ns mainGlobals mg) (c : SaysX K) : C_is_whole P w K mg base [.non, .non] := cad_whole X G c 1 0 rfl fun _ _ _ _ _ _ _ us its hl hi => match us, its, hl, hi with | [_], [_, _], _, _ => ⟨_, rfl, rfl⟩
theorem Mk_R (X : K.In h) (G : h.Ns mainGlobals mg) (c : SaysX K) (cp : C_is_prime P w K mg base) : C_RestField P w K mg base := by
  obtain ⟨fd, F⟩ := c.def_ 46 (d := dMt "RestField" "__init__" "RestField.__init__" 14 0)
  exact ok_R_init F (He.mkr_ok (c.fact 64)) (F.bindsN (ps := ["self", "prime"]) (fun _ _ _ _ _ _ us hl => match us, hl with | [_, _], _ => rfl)) (ft_of X G c) cp (Z_BadPrime X G c)
theorem Mk_F (X : K.In h) (G : h.Ns mainGlobals mg) (c : SaysX K) : C_FractionField P w K mg base := by
  obtain ⟨fd, F⟩ := c.def_ 55 (d := dMt "FractionField" "__init__" "FractionField.__init__" 15 0)
  exact ok_F_init F (He.mkr_ok (c.fact 66)) (F.bindsN (ps := ["self"]) (fun _ _ _ _ _ _ us hl => match us, hl with | [_], _ => rfl)) (ft_of X G c)
end
end G3
namespace G3
open PySem PySem.Spec PyProof.Rows L2
/-- every def keeps its promise, the law's own last -/
theorem law_facts {P : Program} {w : World} {K : PySem.W.Frag} {h : Heap} {mg : Str → Option Value} {f : Addr} (X : K.In h) (G : h.Ns mainGlobals mg) (hfa : mg ("law" : Str) = some (.ref f)) (c : SaysX K) :
    ∃ fd : FuncData, (∀ (s : Shared) (v : Value), BindsTo s fd ⟨[v], []⟩ [("_law_script", v)]) ∧ ∀ base : Heap, K.In base → base.Ns mainGlobals mg → FnOk P w K mg base CX0 8 f fd ["_law_script"] (sp_law K) := by
  obtain ⟨fd, F⟩ := c.def_ 42 (d := dOf "law" 53 [])
  have e := hfa.symm.trans (He.glo_ok X G (c.fact 42))
  cases e
  have b := FunD.bindsA (ps := ["_law_script"]) F fun _ _ _ _ _ _ us hl => match us, hl with | [_], _ => rfl
  refine ⟨fd, fun s v => b s [v] rfl, fun base _ _ => ?_⟩
  have B := bn_of X G c
  have T := ft_of X G c
  have Y := xt_of X G c
  have zN : Xc P w K mg base "BadNumber" (XN K) := Z_BadNumber X G c
  have zZ : Xc P w K mg base "ByZero" (XZ K) := Z_ByZero X G c
  have w0 : C_is_whole P w K mg base [] := W0 X G c
  have w1 : C_is_whole P w K mg base [.non] := W1 X G c
  have w2 : C_is_whole P w K mg base [.non, .non] := W2 X G c
  have c_cd : C_common_divisor P w K mg base := ok_common_divisor (D_common_divisor X G c) B
  have c_po : C_power_of P w K mg base := ok_power_of (D_power_of X G c) B
  have c_lt : C_lowest_terms P w K mg base := ok_lowest_terms (D_lowest_terms X G c) B c_cd
  have c_ip : C_is_prime P w K mg base := ok_is_prime (D_is_prime X G c) B w0 (He.int_ok X G (c.fact 62))
  have c_rp : C_rest_power P w K mg base := ok_rest_power (D_rest_power X G c) B
  have c_R : C_RestField P w K mg base := Mk_R X G c c_ip
  have c_F : C_FractionField P w K mg base := Mk_F X G c
  have r_eq : C_R_eq P w K mg base := ok_R_eq (D_R_eq c) B T
  have r_ck : C_R_check_number P w K mg base := ok_R_check_number (D_R_check_number c) B T w0 zN
  have r_no : C_R_number_of P w K mg base := ok_R_number_of (D_R_number_of c) B T
  have r_pl : C_R_op P w K mg base "plus" nPlus := ok_R_plus (D_R_plus c) B T
  have r_le : C_R_op P w K mg base "less" nLess := ok_R_less (D_R_less c) B T
  have r_ti : C_R_op P w K mg base "times" nTimes := ok_R_times (D_R_times c) B T
  have r_pw : C_R_power P w K mg base := ok_R_power (D_R_power c) B T c_rp zZ
  have r_qu : C_R_quotient P w K mg base := ok_R_quotient (D_R_quotient c) B T r_pw
  have f_eq : C_F_eq P w K mg base := ok_F_eq (D_F_eq c) B T
  have f_ck : C_F_check_number P w K mg base := ok_F_check_number (D_F_check_number c) B T w2 w1 c_cd zN
  have f_no : C_F_number_of P w K mg base := ok_F_number_of (D_F_number_of c) B
  have f_pl : C_F_op P w K mg base "plus" nPlus := ok_F_plus (D_F_plus c) B c_lt
  have f_le : C_F_op P w K mg base "less" nLess := ok_F_less (D_F_less c) B c_lt
  have f_ti : C_F_op P w K mg base "times" nTimes := ok_F_times (D_F_times c) B c_lt
  have f_qu : C_F_quotient P w K mg base := ok_F_quotient (D_F_quotient c) B c_lt zZ
  have f_pw : C_F_power P w K mg base := ok_F_power (D_F_power c) B c_lt c_po zZ
  have c_pd : C_prime_divisors P w K mg base := ok_prime_divisors (D_prime_divisors X G c) B
  have c_so : C_source_of P w K mg base := ok_source_of (D_source_of X G c) B T c_pd c_rp
  have c_st : C_steps_of P w K mg base := ok_steps_of (D_steps_of X G c) B T r_ck c_so zN
  have l_mi : C_l_mixed P w K mg base := ok_l_mixed (D_l_mixed X G c) B
  have l_ha : C_l_hand P w K mg base := ok_l_hand (D_l_hand X G c) B
  have l_dr : C_l_draw P w K mg base := ok_l_draw (D_l_draw X G c) B l_mi
  have l_wh : C_l_whole P w K mg base := ok_l_whole (D_l_whole X G c) B
  have l_di : C_l_divisor P w K mg base := ok_l_divisor (D_l_divisor X G c) B
  have l_lo : C_l_lowest P w K mg base := ok_l_lowest (D_l_lowest X G c) B l_di
  have l_pr : C_l_prime P w K mg base := ok_l_prime (D_l_prime X G c) B
  have l_np : C_l_next_prime P w K mg base := ok_l_next_prime (D_l_next_prime X G c) B l_pr
  have l_fi : C_l_field P w K mg base := ok_l_field (D_l_field X G c) B l_dr l_np
  have l_mf : C_l_made_field P w K mg base := ok_l_made_field (D_l_made_field X G c) B c_F c_R
  have l_on : C_l_one P w K mg base := ok_l_one (D_l_one X G c) B
  have l_mn : C_l_minus P w K mg base := ok_l_minus (D_l_minus X G c) B
  have l_ti : C_l_times P w K mg base := ok_l_times (D_l_times X G c) B l_lo
  have l_pl : C_l_plus P w K mg base := ok_l_plus (D_l_plus X G c) B l_lo
  have l_le : C_l_less P w K mg base := ok_l_less (D_l_less X G c) B l_lo
  have l_p0 : C_l_power0 P w K mg base := ok_l_power0 (D_l_power X G c) B l_lo l_on l_ti
  have l_po : C_l_power P w K mg base := ok_l_power (D_l_power X G c) B l_lo l_on l_ti l_p0
  have l_nu : C_l_number P w K mg base := ok_l_number (D_l_number X G c) B l_dr l_on l_mn l_lo
  have l_in : C_l_is_number P w K mg base := ok_l_is_number (D_l_is_number X G c) B l_wh l_di
  have l_sa : C_l_same P w K mg base := ok_l_same (D_l_same X G c) B l_in
  have l_an : C_l_any_number P w K mg base := ok_l_any_number (D_l_any_number X G c) B l_dr l_nu l_lo
  have l_ex : C_l_exponent P w K mg base := ok_l_exponent (D_l_exponent X G c) B l_dr
  have l_ft : C_l_field_told P w K mg base := ok_l_field_told (D_l_field_told X G c) B T Y c_R
  have l_nt : C_l_number_told P w K mg base := ok_l_number_told (D_l_number_told X G c) B T Y r_ck f_ck
  have l_dv : C_l_divided P w K mg base := ok_l_divided (D_l_divided X G c) B T Y r_qu f_qu
  have l_ra : C_l_raised P w K mg base := ok_l_raised (D_l_raised X G c) B T Y r_pw f_pw
  have l_st : C_l_steps_told P w K mg base := ok_l_steps_told (D_l_steps_told X G c) B Y c_st
  have l_od : C_l_odd P w K mg base := ok_l_odd (D_l_odd X G c) B l_dr
  have l_ph : C_l_powers_hold P w K mg base := ok_l_powers_hold (D_l_powers_hold X G c) B l_ra l_on l_po l_sa
  have l_pm : C_l_primes_hold P w K mg base := ok_l_primes_hold (D_l_primes_hold X G c) B l_dr l_np l_pr c_ip l_ft
  have l_sh : C_l_sums_hold P w K mg base := ok_l_sums_hold (D_l_sums_hold X G c) B T l_sa l_on l_mn l_an l_pl l_le l_ti l_dv l_in l_ph l_ex l_dr l_nt l_od r_pl f_pl r_le f_le r_ti f_ti r_no f_no
  have l_pp : C_l_prime_parts P w K mg base := ok_l_prime_parts (D_l_prime_parts X G c) B
  have l_is : C_l_is_source P w K mg base := ok_l_is_source (D_l_is_source X G c) B l_po
  have l_so : C_l_source_holds P w K mg base := ok_l_source_holds (D_l_source_holds X G c) B T c_R l_pp c_so l_wh l_is l_nu l_st l_po l_od
  exact ok_law F B (et_of c) r_eq f_eq l_ha l_pm l_fi l_sh l_mf l_dr l_so l_np
end G3
open PySem PySem.W PySem.Calls PyProof.Rows
theorem PySem.Challenge.cw_sheetproofs_k04_whole_fields_reckoned_holds : PySem.Challenge.rw_sheetproofs_k04_whole_fields_reckoned.Holds := by
  w_on; o_law
  refine HandSHeadRun.head_any (r := G3.R) (q := view G3.R.prog [53]) (H := G3.hk) (ob := G3.ob) (M := 4000) (loose := G3.loo) (d := HandSHeadRun.topDef G3.R.prog 53) (kwd := []) G3.ob_eq
    (by kernel_rfl) (fun s => by kernel_rfl) G3.run (by kernel_rfl) (by kernel_rfl) (by kernel_rfl) (by rfl) (by first | assumption | decide +kernel) (by decide +kernel) ⟨rfl, rfl, rfl, rfl, rfl, by decide +kernel⟩ ?hw ?hc
  case hw => w_witness2
  case hc =>
    refine L2.walk_ofE (l := PySem.Challenge.rw_sheetproofs_k04_whole_fields_reckoned) (n := 63) (k := 8) (x := "_law_script") (CX := L2.CX0) rfl (by decide) (by kernel_rfl) ⟨rfl, by decide, by decide⟩ ?F (fun _ _ _ _ z => z)
    intro w mg fa h Y G hmg0
    obtain ⟨K, KX, c⟩ := Y
    have hmg : mg ("law" : PySem.Str) = some (.ref fa) := by
      have e : (HandSHeadRun.topDef G3.R.prog 53).name = ("law" : PySem.Str) := by kernel_rfl
      rw [← e]
      exact hmg0
    obtain ⟨fd, hb, hF⟩ := G3.law_facts (P := (PySem.Challenge.rw_sheetproofs_k04_whole_fields_reckoned).prog) (w := w) KX G hmg c
    exact ⟨K, fd, G3.sp_law K, KX, hb, fun H a ns hl _ hS => ⟨a, ns, rfl, hS, hl, fun _ => rfl⟩, hF⟩
