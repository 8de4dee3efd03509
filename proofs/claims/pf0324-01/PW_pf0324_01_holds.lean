import PyProof.Rows.All
import Wide.All
import OpenK.AllK
import Wide.FinOn
import Lean
import PySem.Challenge.RW_pf0324_01
set_option Elab.async false
set_option maxRecDepth 100000
set_option maxHeartbeats 8000000
set_option linter.unusedVariables false
/-! The proof of pf0324-01. A. the head; B. the plain law; C. rules; D. each def of the text, its contract; E. the law. -/
namespace Mine
section Head
open PySem PySem.W PyProof.Rows
-- A. the head
open_top hd for PySem.Challenge.rw_pf0324_01
end Head
section Plain
-- B. the plain law
open PySem
theorem p2 (k : Nat) : (0 : Int) < 2 ^ k := Int.pow_pos (by decide)
theorem p2_succ (k : Nat) : (2 : Int) ^ (k + 1) = 2 * 2 ^ k := by rw [Int.pow_succ]; omega
theorem p2_add (j k : Nat) : (2 : Int) ^ (j + k) = 2 ^ j * 2 ^ k := Int.pow_add ..
theorem p2_dvd {j k : Nat} (h : j ≤ k) : (2 : Int) ^ j ∣ 2 ^ k := ⟨2 ^ (k - j), by rw [← p2_add]; congr 1; omega⟩
theorem p2_le {j k : Nat} (h : j ≤ k) : (2 : Int) ^ j ≤ 2 ^ k := Int.le_of_dvd (p2 k) (p2_dvd h)

/-- a block of 2^k numbers may begin at a and end ahead of H -/
abbrev Ok (H a : Int) (k : Nat) : Prop := a % 2 ^ k = 0 ∧ a + 2 ^ k ≤ H
theorem Ok.down {H a : Int} {j k : Nat} (h : Ok H a k) (hj : j ≤ k) : Ok H a j := by
  refine ⟨?_, ?_⟩
  · exact Int.emod_eq_zero_of_dvd (Int.dvd_trans (p2_dvd hj) (Int.dvd_of_emod_eq_zero h.1))
  · have := p2_le hj; have := h.2; omega

def gk (H a : Int) : Nat → Nat
  | 0 => 0
  | n + 1 => if Ok H a (n + 1) then n + 1 else gk H a n
theorem gk_le (H a : Int) : ∀ n, gk H a n ≤ n
  | 0 => Nat.le_refl _
  | n + 1 => by
    unfold gk
    split
    · exact Nat.le_refl _
    · have := gk_le H a n; omega
theorem gk_ok {H a : Int} (h : a < H) : ∀ n, Ok H a (gk H a n)
  | 0 => ⟨by simp [gk], by simp [gk]; omega⟩
  | n + 1 => by
    unfold gk
    split
    · assumption
    · exact gk_ok h n
theorem gk_max {H a : Int} {k : Nat} (ok : Ok H a k) : ∀ n, k ≤ n → k ≤ gk H a n
  | 0, h => by simpa [gk] using h
  | n + 1, h => by
    unfold gk
    split
    · exact h
    · rename_i hn
      refine gk_max ok n ?_
      by_cases e : k = n + 1
      · subst e; exact absurd ok hn
      · omega
theorem gk_eq {H a : Int} {n k : Nat} (hk : k ≤ n) (ok : Ok H a k) (hm : k = n ∨ ¬ Ok H a (k + 1)) : gk H a n = k := by
  have h1 := gk_max ok n hk
  have h2 := gk_le H a n
  rcases hm with rfl | hm
  · omega
  · have lt : a < H := by have := ok.2; have := p2 k; omega
    have h3 := gk_ok lt n
    by_cases e : gk H a n = k
    · exact e
    · exact absurd (h3.down (by omega)) hm
theorem gk_congr {H H' a : Int} (h : ∀ k, Ok H a k ↔ Ok H' a k) : ∀ n, gk H a n = gk H' a n
  | 0 => rfl
  | n + 1 => by
    unfold gk
    rw [gk_congr h n]
    by_cases c : Ok H a (n + 1)
    · rw [if_pos c, if_pos ((h _).mp c)]
    · rw [if_neg c, if_neg fun x => c ((h _).mpr x)]

/-- the greedy list: (base, exponent) -/
def gr (n : Nat) (H a : Int) : List (Int × Nat) :=
  if a < H then (a, gk H a n) :: gr n H (a + 2 ^ gk H a n) else []
termination_by (H - a).toNat
decreasing_by
  have := p2 (gk H a n)
  omega
theorem gr_nil {n : Nat} {H a : Int} (h : H ≤ a) : gr n H a = [] := by rw [gr, if_neg (by omega)]
theorem gr_cons {n : Nat} {H a : Int} (h : a < H) : gr n H a = (a, gk H a n) :: gr n H (a + 2 ^ gk H a n) := by rw [gr, if_pos h]

theorem nocross {b a : Int} {j k : Nat} (hb : b % 2 ^ j = 0) (h1 : b < a) (h2 : a < b + 2 ^ j) (ha : a % 2 ^ k = 0) : a + 2 ^ k ≤ b + 2 ^ j := by
  have db := Int.dvd_of_emod_eq_zero hb
  have da := Int.dvd_of_emod_eq_zero ha
  by_cases hk : j ≤ k
  · have d : (2 : Int) ^ j ∣ a - b := Int.dvd_sub (Int.dvd_trans (p2_dvd hk) da) db
    have := Int.le_of_dvd (by omega) d
    omega
  · have hk' : k ≤ j := by omega
    have d : (2 : Int) ^ k ∣ b + 2 ^ j - a := Int.dvd_sub (Int.dvd_add (Int.dvd_trans (p2_dvd hk') db) (p2_dvd hk')) da
    have := Int.le_of_dvd (by omega) d
    omega

theorem gr_split {n : Nat} {b m H : Int} {j : Nat} (hm : m = b + 2 ^ j) (hb : b % 2 ^ j = 0) (hH : m ≤ H) (a : Int) (h1 : b < a) (h2 : a ≤ m) : gr n H a = gr n m a ++ gr n H m := by
  by_cases e : a = m
  · subst e; rw [gr_nil (Int.le_refl a)]; rfl
  · have lt : a < m := by omega
    have c : ∀ k, Ok H a k ↔ Ok m a k := fun k => ⟨fun h => ⟨h.1, by rw [hm]; exact nocross hb h1 (by omega) h.1⟩, fun h => ⟨h.1, by have := h.2; omega⟩⟩
    have ek := gk_congr c n
    have ok := gk_ok lt n
    have pp := p2 (gk m a n)
    have hx := ok.2
    rw [gr_cons (show a < H by omega), gr_cons lt, ek, List.cons_append, gr_split hm hb hH (a + 2 ^ gk m a n) (by omega) hx]
termination_by (m - a).toNat
decreasing_by omega

/-- the halving of all numbers -/
def dec (lo hi : Int) : Nat → Int → List (Int × Nat)
  | 0, b => if lo ≤ b ∧ b + 2 ^ 0 - 1 ≤ hi then [(b, 0)] else []
  | n + 1, b => if lo ≤ b ∧ b + 2 ^ (n + 1) - 1 ≤ hi then [(b, n + 1)] else if lo ≤ b + 2 ^ (n + 1) - 1 ∧ b ≤ hi then dec lo hi n b ++ dec lo hi n (b + 2 ^ n) else []

theorem dec_eq {lo hi : Int} (h : lo ≤ hi) (N : Nat) : ∀ (n : Nat) (b : Int), n ≤ N → b % 2 ^ n = 0 → dec lo hi n b = gr N (min (hi + 1) (b + 2 ^ n)) (max lo b) := by
  intro n
  induction n with
  | zero =>
    intro b _ hb
    unfold dec
    by_cases c : lo ≤ b ∧ b + 2 ^ 0 - 1 ≤ hi
    · rw [if_pos c]
      have e1 : min (hi + 1) (b + 2 ^ 0) = b + 1 := by simp only [Int.pow_zero] at *; omega
      have e2 : max lo b = b := by omega
      have e3 : gk (b + 1) b N = 0 := gk_eq (Nat.zero_le _) ⟨by simp, by simp⟩ (.inr fun x => by have := x.2; simp at this)
      rw [e1, e2, gr_cons (by omega), e3, gr_nil (by simp)]
    · rw [if_neg c, gr_nil]
      simp only [Int.pow_zero] at *
      omega
  | succ n ih =>
    intro b hn hb
    have hb' : b % 2 ^ n = 0 := Int.emod_eq_zero_of_dvd (Int.dvd_trans (p2_dvd (Nat.le_succ n)) (Int.dvd_of_emod_eq_zero hb))
    have hm' : (b + 2 ^ n) % 2 ^ n = 0 := by rw [Int.add_emod_right]; exact hb'
    have p := p2 n
    have ps := p2_succ n
    unfold dec
    by_cases c : lo ≤ b ∧ b + 2 ^ (n + 1) - 1 ≤ hi
    · rw [if_pos c]
      have e1 : min (hi + 1) (b + 2 ^ (n + 1)) = b + 2 ^ (n + 1) := by omega
      have e2 : max lo b = b := by omega
      have e3 : gk (b + 2 ^ (n + 1)) b N = n + 1 := gk_eq hn ⟨hb, Int.le_refl _⟩ (.inr fun x => by have := x.2; rw [p2_succ (n + 1)] at this; omega)
      rw [e1, e2, gr_cons (by omega), e3, gr_nil (Int.le_refl _)]
    · rw [if_neg c]
      by_cases d : lo ≤ b + 2 ^ (n + 1) - 1 ∧ b ≤ hi
      · rw [if_pos d, ih b (by omega) hb', ih (b + 2 ^ n) (by omega) hm']
        have eH : b + 2 ^ n + 2 ^ n = b + 2 ^ (n + 1) := by omega
        rw [eH]
        by_cases c1 : hi + 1 ≤ b + 2 ^ n
        · have e1 : min (hi + 1) (b + 2 ^ n) = hi + 1 := by omega
          have e2 : min (hi + 1) (b + 2 ^ (n + 1)) = hi + 1 := by omega
          rw [e1, e2, gr_nil (n := N) (H := hi + 1) (a := max lo (b + 2 ^ n)) (by omega), List.append_nil]
        · have e1 : min (hi + 1) (b + 2 ^ n) = b + 2 ^ n := by omega
          rw [e1]
          by_cases c2 : b + 2 ^ n ≤ lo
          · have e2 : max lo (b + 2 ^ n) = lo := by omega
            have e3 : max lo b = lo := by omega
            rw [e2, e3, gr_nil (H := b + 2 ^ n) (a := lo) (by omega), List.nil_append]
          · have e2 : max lo (b + 2 ^ n) = b + 2 ^ n := by omega
            rw [e2]
            by_cases c3 : lo ≤ b
            · have e3 : max lo b = b := by omega
              have e4 : min (hi + 1) (b + 2 ^ (n + 1)) = hi + 1 := by omega
              have k1 : gk (hi + 1) b N = n := gk_eq (by omega) ⟨hb', by omega⟩ (.inr fun x => by have := x.2; omega)
              have k2 : gk (b + 2 ^ n) b N = n := gk_eq (by omega) ⟨hb', by omega⟩ (.inr fun x => by have := x.2; omega)
              rw [e3, e4, gr_cons (H := hi + 1) (a := b) (by omega), gr_cons (H := b + 2 ^ n) (a := b) (by omega), k1, k2, gr_nil (H := b + 2 ^ n) (a := b + 2 ^ n) (Int.le_refl _)]
              rfl
            · have e3 : max lo b = lo := by omega
              rw [e3]
              exact (gr_split (m := b + 2 ^ n) (H := min (hi + 1) (b + 2 ^ (n + 1))) rfl hb' (by omega) lo (by omega) (by omega)).symm
      · rw [if_neg d]; exact (gr_nil (by omega)).symm

theorem dec_all {lo hi : Int} {N : Nat} (h0 : 0 ≤ lo) (h : lo ≤ hi) (h1 : hi < 2 ^ N) : dec lo hi N 0 = gr N (hi + 1) lo := by
  rw [dec_eq h N N 0 (Nat.le_refl _) (by simp)]
  congr 1
  · omega
  · omega

/-- how many -/
def cnt (n : Nat) (H a : Int) : Int := ((gr n H a).length : Int)
theorem cnt_end {n : Nat} {H a : Int} (h : H ≤ a) : cnt n H a = 0 := by unfold cnt; rw [gr_nil h]; rfl
theorem cnt_step {n : Nat} {H a : Int} (h : a < H) : cnt n H a = 1 + cnt n H (a + 2 ^ gk H a n) := by unfold cnt; rw [gr_cons h]; simp; omega
theorem cnt_le {n : Nat} {H a : Int} {k : Nat} (hk : k ≤ n) (ok : Ok H a k) : cnt n H a ≤ 1 + cnt n H (a + 2 ^ k) := by
  have lt : a < H := by have := ok.2; have := p2 k; omega
  have g := gk_ok lt n
  have m := gk_max ok n hk
  rw [cnt_step lt]
  by_cases e : k = gk H a n
  · rw [← e]; exact Int.le_refl _
  · have le := p2_le m
    have s := gr_split (n := n) (b := a) rfl g.1 g.2 (a + 2 ^ k) (by have := p2 k; omega) (by omega)
    unfold cnt
    rw [s, List.length_append]
    omega
theorem cnt_bound {n : Nat} {H : Int} (a : Int) (h : a ≤ H) : cnt n H a ≤ H - a := by
  by_cases c : a < H
  · have g := gk_ok c n
    have := p2 (gk H a n)
    have i := cnt_bound (n := n) (a + 2 ^ gk H a n) g.2
    rw [cnt_step c]
    omega
  · rw [cnt_end (by omega)]; omega
termination_by (H - a).toNat
decreasing_by omega
theorem cnt_nonneg {n : Nat} {H a : Int} : 0 ≤ cnt n H a := by unfold cnt; omega

theorem gr_mem {n : Nat} {H : Int} (a : Int) : ∀ p ∈ gr n H a, a ≤ p.1 ∧ p.2 ≤ n ∧ Ok H p.1 p.2 := by
  by_cases c : a < H
  · rw [gr_cons c]
    have g := gk_ok c n
    have pp := p2 (gk H a n)
    intro p hp
    rcases List.mem_cons.mp hp with rfl | hp
    · exact ⟨Int.le_refl _, gk_le _ _ _, g⟩
    · have := gr_mem (n := n) (H := H) (a + 2 ^ gk H a n) p hp
      exact ⟨by omega, this.2⟩
  · rw [gr_nil (by omega)]; exact fun _ h => nomatch h
termination_by (H - a).toNat
decreasing_by have := p2 (gk H a n); omega

/-- which pass of the two inner loops is the greedy one -/
theorem gk_found {H a : Int} {n k : Nat} (hk : k ≤ n) (h1 : a % 2 ^ k = 0) (h2 : a + 2 ^ k ≤ H) (h3 : a + 2 ^ k ≤ H → k = n ∨ ¬ Ok H a (k + 1)) : gk H a n = k := gk_eq hk ⟨h1, h2⟩ (h3 h2)

theorem and_shift (x y : Int) : ∀ k : Nat, Builtin.bitAnd x (2 ^ k * y) = 2 ^ k * Builtin.bitAnd (x / 2 ^ k) y
  | 0 => by simp
  | k + 1 => by
    have e1 : (2 : Int) ^ (k + 1) * y / 2 = 2 ^ k * y := by
      rw [p2_succ, Int.mul_assoc]; exact Int.mul_ediv_cancel_left _ (by decide)
    have e2 : (2 : Int) ^ (k + 1) * y % 2 = 0 := by rw [p2_succ, Int.mul_assoc]; exact Int.mul_emod_right _ _
    have e3 : x / 2 / 2 ^ k = x / 2 ^ (k + 1) := by rw [Int.ediv_ediv_of_nonneg (by decide), ← p2_succ]
    have h := PySem.W.kbt_halves x (2 ^ (k + 1) * y)
    rw [e1, e2, and_shift (x / 2) y k, e3] at h
    rw [h, p2_succ, Int.mul_assoc]
    simp
theorem and_mask {x : Int} {n k : Nat} (hk : k ≤ n) (h0 : 0 ≤ x) (h1 : x < 2 ^ n) : Builtin.bitAnd x (2 ^ n - 2 ^ k) = 2 ^ k * (x / 2 ^ k) := by
  have e : (2 : Int) ^ n - 2 ^ k = 2 ^ k * (2 ^ (n - k) - 1) := by
    have : (2 : Int) ^ n = 2 ^ k * 2 ^ (n - k) := by rw [← p2_add]; congr 1; omega
    rw [Int.mul_sub, ← this, Int.mul_one]
  rw [e, and_shift, PySem.W.kbt_mask, Int.emod_eq_of_lt]
  · exact Int.ediv_nonneg h0 (Int.le_of_lt (p2 k))
  · refine Int.ediv_lt_of_lt_mul (p2 k) ?_
    rw [← p2_add, Nat.sub_add_cancel hk]
    exact h1
theorem and_pow (k : Nat) : Builtin.bitAnd (2 ^ k) (2 ^ k - 1) = 0 := by rw [PySem.W.kbt_mask, Int.emod_self]
theorem and_pow_conv : ∀ (f : Nat) (s : Int), 1 ≤ s → s ≤ f → Builtin.bitAnd s (s - 1) = 0 → ∃ k : Nat, s = 2 ^ k
  | 0, s, h1, h2, _ => by omega
  | f + 1, s, h1, h2, h => by
    by_cases e : s = 1
    · exact ⟨0, by rw [e]; rfl⟩
    · have q := PySem.W.kbt_halves s (s - 1)
      rw [h] at q
      by_cases ev : s % 2 = 0
      · rw [if_neg (by omega), show (s - 1) / 2 = s / 2 - 1 by omega] at q
        obtain ⟨k, hk⟩ := and_pow_conv f (s / 2) (by omega) (by omega) (by omega)
        exact ⟨k + 1, by rw [p2_succ, ← hk]; omega⟩
      · rw [if_neg (by omega), show (s - 1) / 2 = s / 2 by omega, PyProof.Rows.bitAnd_self] at q
        omega

/-- a list of the two ends' blocks is short -/
theorem dec_lo {lo hi : Int} : ∀ (n : Nat) (b : Int), lo ≤ b → (dec lo hi n b).length ≤ n + 1
  | 0, b, _ => by unfold dec; split <;> simp
  | n + 1, b, h => by
    unfold dec
    have p := p2 n
    have ps := p2_succ n
    split
    · simp
    · split
      · rename_i c d
        rw [List.length_append]
        by_cases c1 : b + 2 ^ n - 1 ≤ hi
        · have h1 : (dec lo hi n b).length ≤ 1 := by
            cases n with
            | zero => unfold dec; split <;> simp
            | succ n => unfold dec; rw [if_pos ⟨h, c1⟩]; simp
          have := dec_lo (lo := lo) (hi := hi) n (b + 2 ^ n) (by omega)
          omega
        · have h1 : (dec lo hi n (b + 2 ^ n)).length = 0 := by
            cases n with
            | zero => unfold dec; rw [if_neg (by omega)]; rfl
            | succ n => unfold dec; rw [if_neg (by omega), if_neg (by omega)]; rfl
          have := dec_lo (lo := lo) (hi := hi) n b h
          omega
      · simp
theorem dec_hi {lo hi : Int} : ∀ (n : Nat) (b : Int), b + 2 ^ n - 1 ≤ hi → (dec lo hi n b).length ≤ n + 1
  | 0, b, _ => by unfold dec; split <;> simp
  | n + 1, b, h => by
    unfold dec
    have p := p2 n
    have ps := p2_succ n
    split
    · simp
    · split
      · rename_i c d
        rw [List.length_append]
        by_cases c1 : lo ≤ b + 2 ^ n
        · have h1 : (dec lo hi n (b + 2 ^ n)).length ≤ 1 := by
            cases n with
            | zero => unfold dec; split <;> simp
            | succ n => unfold dec; rw [if_pos ⟨c1, by omega⟩]; simp
          have := dec_hi (lo := lo) (hi := hi) n b (by omega)
          omega
        · have h1 : (dec lo hi n b).length = 0 := by
            cases n with
            | zero => unfold dec; rw [if_neg (by simp only [Int.pow_zero] at *; omega)]; rfl
            | succ n => unfold dec; rw [if_neg (by omega), if_neg (by omega)]; rfl
          have := dec_hi (lo := lo) (hi := hi) n (b + 2 ^ n) (by omega)
          omega
      · simp
theorem dec_len {lo hi : Int} : ∀ (n : Nat) (b : Int), (dec lo hi n b).length ≤ 2 * n + 2
  | 0, b => by unfold dec; split <;> simp
  | n + 1, b => by
    have p := p2 n
    have ps := p2_succ n
    unfold dec
    split
    · simp
    · split
      · rename_i c d
        rw [List.length_append]
        by_cases c1 : b + 2 ^ n - 1 ≤ hi
        · have h1 := dec_hi (lo := lo) (hi := hi) n b c1
          by_cases c2 : lo ≤ b + 2 ^ n
          · have h2 := dec_lo (lo := lo) (hi := hi) n (b + 2 ^ n) c2
            omega
          · have h2 : (dec lo hi n b).length = 0 := by
              cases n with
              | zero => unfold dec; rw [if_neg (by simp only [Int.pow_zero] at *; omega)]; rfl
              | succ n => unfold dec; rw [if_neg (by omega), if_neg (by omega)]; rfl
            have := dec_len (lo := lo) (hi := hi) n (b + 2 ^ n)
            omega
        · have h1 : (dec lo hi n (b + 2 ^ n)).length = 0 := by
            cases n with
            | zero => unfold dec; rw [if_neg (by omega)]; rfl
            | succ n => unfold dec; rw [if_neg (by omega), if_neg (by omega)]; rfl
          have := dec_len (lo := lo) (hi := hi) n b
          omega
      · simp
theorem gr_len {lo hi : Int} {N : Nat} (h0 : 0 ≤ lo) (h : lo ≤ hi) (h1 : hi < 2 ^ N) : (gr N (hi + 1) lo).length ≤ 2 * N + 2 := by
  rw [← dec_all h0 h h1]; exact dec_len N 0

/-- one more block of the greedy list -/
theorem gr_next {n k : Nat} {H a : Int} (hk : k ≤ n) (h1 : a % 2 ^ k = 0) (h2 : a + 2 ^ k ≤ H) (h3 : a + 2 ^ k ≤ H → k = n ∨ ¬ Ok H a (k + 1)) : gr n H a = (a, k) :: gr n H (a + 2 ^ k) := by
  have := p2 k
  rw [gr_cons (by omega), gk_found hk h1 h2 h3]
end Plain
section Walks
open PySem PySem.W PyProof.Rows PySem.Spec PySem.Calls
-- C. rules of my own
/-- what a call of the def at f hands back, and what stays -/
def Ctr (w : World) (mean : ExcName → Option Value) (mg mb : Str → Option Value) (f : Addr) (vs : List Value) (news : List (Addr × Obj)) (nd : Nat) (Out : List (Addr × Obj) → Value → Prop) : Prop :=
  ∀ (dp un : Nat) (gd : Option (List Code)) (cn : Str) (cs : Scope) (a : Addr) (ccd : Value) (cl : List (Str × Addr)) (outer : List Env) (A₀ : Around) (base h₀ : Heap) (L : Addr) (m : Str → Option Value) (s : Shared) (Q E : Value → Shared → Prop),
    Below A₀ base outer h₀ → Fr h₀ L s.heap m → (hd.heap_39 w.params).In h₀ → News h₀ L s.heap news → Top hd.view_39 (looseW hd.view_39 []) mean mg mb h₀ → cs.kind = .function → dp + nd < recursionLimit → un + 32 * nd < cLine →
    (∀ r tl h' tk', Fr h₀ L h' m → News h₀ L h' (tl ++ news) → (∀ q ∈ news, ∀ p ∈ tl, q.1 < p.1) → Out tl r → Q r { s with heap := h', toks := tk' }) →
    wpAny (model PySem.Challenge.rw_pf0324_01.row.prog w) (ktrTop dp un gd cn cs L a ccd cl outer) (call (.ref f) vs) Q E s

theorem Ctr.use {w : World} {mean : ExcName → Option Value} {mg mb : Str → Option Value} {f : Addr} {vs : List Value} {news : List (Addr × Obj)} {nd : Nat} {Out : List (Addr × Obj) → Value → Prop}
    {dp un : Nat} {gd : Option (List Code)} {cn : Str} {cs : Scope} {a : Addr} {ccd : Value} {cl : List (Str × Addr)} {outer : List Env} {A₀ : Around} {base h₀ : Heap} {L : Addr} {m : Str → Option Value} {s : Shared} {Q E : Value → Shared → Prop}
    (C : Ctr w mean mg mb f vs news nd Out)
    (B : Below A₀ base outer h₀) (F : Fr h₀ L s.heap m) (X : (hd.heap_39 w.params).In h₀) (N : News h₀ L s.heap news) (T : Top hd.view_39 (looseW hd.view_39 []) mean mg mb h₀) (hk : cs.kind = .function) (hdp : dp + nd < recursionLimit) (hun : un + 32 * nd < cLine)
    (ret : ∀ r tl h' tk', Fr h₀ L h' m → News h₀ L h' (tl ++ news) → (∀ q ∈ news, ∀ p ∈ tl, q.1 < p.1) → Out tl r → Q r { s with heap := h', toks := tk' }) :
    wpAny (model PySem.Challenge.rw_pf0324_01.row.prog w) (ktrTop dp un gd cn cs L a ccd cl outer) (call (.ref f) vs) Q E s :=
  C _ _ _ _ _ _ _ _ _ _ _ _ _ _ _ _ _ B F X N T hk hdp hun ret

/-- the walk stops at what is wrapped so -/
structure Halt (P : Prop) : Prop where
  out : P

/-- a def that hands back a plain value -/
theorem ret0 {h₀ : Heap} {L : Addr} {m : Str → Option Value} {news : List (Addr × Obj)} {s : Shared} {Q : Value → Shared → Prop} {Out : List (Addr × Obj) → Value → Prop} {h' : Heap} {tk' : Nat} {r : Value}
    (hret : ∀ r tl h' tk', Fr h₀ L h' m → News h₀ L h' (tl ++ news) → (∀ q ∈ news, ∀ p ∈ tl, q.1 < p.1) → Out tl r → Q r { s with heap := h', toks := tk' })
    (F : Fr h₀ L h' m) (N : News h₀ L h' news) (o : Out [] r) : Q r { s with heap := h', toks := tk' } :=
  hret r [] h' tk' F N (fun _ _ _ h => nomatch h) o

/-- a frame with some names bound anew -/
def upd (m : Str → Option Value) : List (Str × Option Value) → Str → Option Value
  | [] => m
  | p :: r => fun y => if y = p.1 then p.2 else upd m r y
theorem upd_at {m m' : Str → Option Value} {y : Str} : ∀ {ps : List (Str × Option Value)}, (∀ p ∈ ps, m' p.1 = p.2) → ((∀ p ∈ ps, y ≠ p.1) → m' y = m y) → upd m ps y = m' y
  | [], _, h => (h fun _ hp => nomatch hp).symm
  | p :: r, h1, h2 => by
    show (if y = p.1 then p.2 else upd m r y) = m' y
    by_cases e : y = p.1
    · rw [if_pos e, e]; exact (h1 p (.head _)).symm
    · rw [if_neg e]
      exact upd_at (fun q hq => h1 q (.tail _ hq)) fun hr => h2 fun q hq => by
        rcases List.mem_cons.mp hq with rfl | hq
        · exact e
        · exact hr q hq
theorem upd_eq {m m' : Str → Option Value} {ps : List (Str × Option Value)} (h1 : ∀ p ∈ ps, m' p.1 = p.2) (h2 : ∀ y, (∀ p ∈ ps, y ≠ p.1) → m' y = m y) : upd m ps = m' := funext fun y => upd_at h1 (h2 y)
/-- the end of a while's turn -/
structure WPost {ι : Type} (h₀ : Heap) (L : Addr) (s : Shared) (m : Str → Option Value) (ps : ι → List (Str × Option Value)) (nf : ι → List (Addr × Obj)) (I : ι → Prop) (μ : ι → Nat) (Q : Flow → Shared → Prop) (i : ι) (f : Flow) (s₃ : Shared) : Prop where
  out : match f with
    | .next | .cont => ∃ i' h' tk' m' news', s₃ = { s with heap := h', toks := tk' } ∧ Fr h₀ L h' m' ∧ News h₀ L h' news' ∧ upd m (ps i') = m' ∧ (∀ p ∈ nf i', p ∈ news') ∧ I i' ∧ μ i' < μ i
    | .brk => Q .next s₃
    | .ret v => Q (.ret v) s₃

theorem WPost.next {ι : Type} {h₀ : Heap} {L : Addr} {s : Shared} {m : Str → Option Value} {ps : ι → List (Str × Option Value)} {nf : ι → List (Addr × Obj)} {I : ι → Prop} {μ : ι → Nat} {Q : Flow → Shared → Prop} {i : ι} {h' : Heap} {tk' : Nat} {m' : Str → Option Value} {news' : List (Addr × Obj)}
    (i' : ι) (F : Fr h₀ L h' m') (N : News h₀ L h' news') (hn : ∀ p ∈ nf i', p ∈ news') (h1 : ∀ p ∈ ps i', m' p.1 = p.2) (h2 : ∀ y, (∀ p ∈ ps i', y ≠ p.1) → m' y = m y) (hI : I i') (hμ : μ i' < μ i) : WPost h₀ L s m ps nf I μ Q i .next { s with heap := h', toks := tk' } :=
  ⟨i', h', tk', m', news', rfl, F, N, upd_eq h1 h2, hn, hI, hμ⟩

/-- a while by its state's letters -/
theorem whileR {prog : Program} {w : World} {A : Around} {E : Value → Shared → Prop} {Q : Flow → Shared → Prop} {s : Shared} {env : Env} {h₀ : Heap} {L : Addr} {test : Expr} {body : List Stmt} {pos : Pos} {m : Str → Option Value} {news : List (Addr × Obj)} {ι : Type}
    (ps : ι → List (Str × Option Value)) (nf : ι → List (Addr × Obj)) (I : ι → Prop) (μ : ι → Nat) (i₀ : ι)
    (F : Fr h₀ L s.heap m) (N : News h₀ L s.heap news) (hm : ∀ p ∈ ps i₀, m p.1 = p.2) (hn : ∀ p ∈ nf i₀, p ∈ news) (h0 : I i₀)
    (turn : ∀ i h tk, I i → Fr h₀ L h (upd m (ps i)) → News h₀ L h (nf i) →
      wpAny (model prog w) A (isTrue test env (eval test env)) (fun b s₂ => if b = true then wpAny (model prog w) A (execs body env) (WPost h₀ L s m ps nf I μ Q i) E s₂ else Q .next s₂) E { s with heap := h, toks := tk })
    (hE : PassesOwn (model prog w) A env E) :
    wpAny (model prog w) A (exec (.While test body [] pos) env) Q E s := by
  refine While_inv2 (fun n m' nx => ∃ i, upd m (ps i) = m' ∧ nx = nf i ∧ μ i = n ∧ I i) (n₀ := μ i₀) F (fun p hp => N p (hn p hp) : News h₀ L s.heap (nf i₀)) ⟨i₀, upd_eq hm fun _ _ => rfl, rfl, rfl, h0⟩ ?_ hE
  rintro n m₁ nx h tk F₁ N₁ ⟨i, rfl, rfl, rfl, hI⟩
  refine wpAny_mono (turn i h tk hI F₁ N₁) (fun b s₂ p => ?_) fun _ _ x => x
  cases b with
  | false => exact p
  | true =>
    simp only [if_true] at p ⊢
    refine wpAny_mono p (fun f s₃ q => ?_) fun _ _ x => x
    obtain ⟨q⟩ := q
    cases f with
    | ret v => exact q
    | brk => exact q
    | next =>
      obtain ⟨i', h', tk', m', news', rfl, F', N', hm', hn', hI', hμ⟩ := q
      exact ⟨h', tk', m', nf i', μ i', rfl, F', fun p hp => N' p (hn' p hp), hμ, i', hm', rfl, rfl, hI'⟩
    | cont =>
      obtain ⟨i', h', tk', m', news', rfl, F', N', hm', hn', hI', hμ⟩ := q
      exact ⟨h', tk', m', nf i', μ i', rfl, F', fun p hp => N' p (hn' p hp), hμ, i', hm', rfl, rfl, hI'⟩

/-- a while's end by its test -/
structure WDone {ι : Type} (h₀ : Heap) (L : Addr) (s : Shared) (m : Str → Option Value) (ps : ι → List (Str × Option Value)) (nf : ι → List (Addr × Obj)) (X : ι → Prop) (i : ι) (s₂ : Shared) : Prop where
  out : ∃ h' tk' news', s₂ = { s with heap := h', toks := tk' } ∧ Fr h₀ L h' (upd m (ps i)) ∧ News h₀ L h' news' ∧ (∀ p ∈ nf i, p ∈ news') ∧ X i
theorem WDone.mk' {ι : Type} {h₀ : Heap} {L : Addr} {s : Shared} {m : Str → Option Value} {ps : ι → List (Str × Option Value)} {nf : ι → List (Addr × Obj)} {X : ι → Prop} {i : ι} {h' : Heap} {tk' : Nat} {news' : List (Addr × Obj)}
    (F : Fr h₀ L h' (upd m (ps i))) (N : News h₀ L h' news') (hn : ∀ p ∈ nf i, p ∈ news') (x : X i) : WDone h₀ L s m ps nf X i { s with heap := h', toks := tk' } := ⟨h', tk', news', rfl, F, N, hn, x⟩

/-- a while whose behind is walked once -/
theorem whileX {prog : Program} {w : World} {A : Around} {E : Value → Shared → Prop} {Q : Flow → Shared → Prop} {s : Shared} {env : Env} {h₀ : Heap} {L : Addr} {test : Expr} {body : List Stmt} {pos : Pos} {m : Str → Option Value} {news : List (Addr × Obj)} {ι : Type}
    (ps : ι → List (Str × Option Value)) (nf : ι → List (Addr × Obj)) (I : ι → Prop) (X : ι → Prop) (μ : ι → Nat) (i₀ : ι)
    (F : Fr h₀ L s.heap m) (N : News h₀ L s.heap news) (hm : ∀ p ∈ ps i₀, m p.1 = p.2) (hn : ∀ p ∈ nf i₀, p ∈ news) (h0 : I i₀)
    (turn : ∀ i h tk, I i → Fr h₀ L h (upd m (ps i)) → News h₀ L h (nf i) →
      wpAny (model prog w) A (isTrue test env (eval test env)) (fun b s₂ => if b = true then wpAny (model prog w) A (execs body env) (WPost h₀ L s m ps nf I μ Q i) E s₂ else WDone h₀ L s m ps nf X i s₂) E { s with heap := h, toks := tk })
    (done : ∀ i h tk, I i → X i → Fr h₀ L h (upd m (ps i)) → News h₀ L h (nf i) → Q .next { s with heap := h, toks := tk })
    (hE : PassesOwn (model prog w) A env E) :
    wpAny (model prog w) A (exec (.While test body [] pos) env) Q E s := by
  refine whileR ps nf I μ i₀ F N hm hn h0 (fun i h tk hI F' N' => wpAny_mono (turn i h tk hI F' N') (fun b s₂ p => ?_) fun _ _ x => x) hE
  cases b with
  | true => exact p
  | false =>
    simp only [Bool.false_eq_true, if_false] at p ⊢
    obtain ⟨h', tk', news', rfl, F', N', hn', x⟩ := p
    exact done i h' tk' hI x F' fun p hp => N' p (hn' p hp)

theorem led_head {h₀ h : Heap} {L x : Addr} {o : Obj} {r : List (Addr × Obj)} (_ : News h₀ L h ((x, o) :: r)) : ∃ l, l = x := ⟨_, rfl⟩
theorem val_of {v : Value} : ∃ u, u = v := ⟨_, rfl⟩

section
variable {prog : Program} {w : World} {A : Around} {E : Value → Shared → Prop} {s : Shared} {t u : Tok} {Q : Value → Shared → Prop}
theorem shl_my {n : Int} (h0 : 0 ≤ n) (h1 : n ≤ 1000000) (h : Q (.int (2 ^ n.toNat) s.toks) { s with toks := s.toks + 1 }) : wpAny (model prog w) A (binaryOp .LShift (.int 1 t) (.int n u)) Q E s :=
  lshift_int_small h0 h1 (by decide) (by rw [Int.one_mul]; exact h)
theorem pow_my {n : Int} (h0 : 0 ≤ n) (h1 : n ≤ 1000000) (h : Q (.int (2 ^ n.toNat) s.toks) { s with toks := s.toks + 1 }) : wpAny (model prog w) A (binaryOp .Pow (.int 2 t) (.int n u)) Q E s :=
  pow_int_small h0 h1 (by decide) h
theorem mod_my {a : Int} {k : Nat} (h : Q (.int (a % 2 ^ k) s.toks) { s with toks := s.toks + 1 }) : wpAny (model prog w) A (binaryOp .Mod (.int a t) (.int (2 ^ k) u)) Q E s :=
  mod_int' (Int.ne_of_gt (Int.pow_pos (by decide))) (by rw [Int.fmod_eq_emod_of_nonneg a (Int.le_of_lt (Int.pow_pos (by decide)))]; exact h)
theorem shr_my {a n : Int} (h0 : 0 ≤ n) (h : Q (.int (a / 2 ^ n.toNat) s.toks) { s with toks := s.toks + 1 }) : wpAny (model prog w) A (binaryOp .RShift (.int a t) (.int n u)) Q E s :=
  rshift_int h0 (by rw [Int.fdiv_eq_ediv_of_nonneg a (Int.le_of_lt (Int.pow_pos (by decide)))]; exact h)
end

theorem app_my {prog : Program} {w : World} {A : Around} {E : Value → Shared → Prop} {s : Shared} {h₀ : Heap} {L l D : Addr} {m : Str → Option Value} {od : Obj} {rest : List (Addr × Obj)} {vs : List Value} {n : Nat} {x : Value} {Q : Value → Shared → Prop}
    (F : Fr h₀ L s.heap m) (N : News h₀ L s.heap ((D, od) :: (l, listOf vs.toArray n) :: rest)) (hD : D ≠ l) (hr : ∀ p ∈ rest, p.1 ≠ l) (hz : vs.length ≤ sizeLine)
    (h : ∀ h', Fr h₀ L h' m → News h₀ L h' ((D, od) :: (l, listOf (vs ++ [x]).toArray (n + 1)) :: rest) → Q .none { s with heap := h' }) : wpAny (model prog w) A (call (.builtin "list.append") [.ref l, x]) Q E s :=
  append_K F N (.tail hD (.head hr)) (by simpa using h) (by simpa using hz)

theorem led_tup {h₀ h : Heap} {L D : Addr} {a b : Int} {ta tb : Tok} {n : Nat} {r : List (Addr × Obj)} (N : News h₀ L h ((D, { cls := .type "tuple", data := .seq [Value.int a ta, Value.int b tb].toArray n }) :: r)) :
    ∃ od, News h₀ L h ((D, od) :: r) ∧ ∀ tl, DatIn ((D, od) :: tl) (.ref D) (.tuple [.int a, .int b]) :=
  ⟨_, N, fun _ => .tuple (.head _) (.cons (.int _ _) (.cons (.int _ _) .nil))⟩

/-- the end of a for's turn; I₀: the iterator's address, o what stands there -/
structure TPost {ι : Type} (h₀ : Heap) (L : Addr) (s : Shared) (m : Str → Option Value) (ps : ι → List (Str × Option Value)) (nf : ι → List (Addr × Obj)) (I : ι → Prop) (I₀ : Addr) (o : Obj) (Q : Flow → Shared → Prop) (f : Flow) (s₃ : Shared) : Prop where
  out : match f with
    | .next | .cont => ∃ i' h' tk' m' news', s₃ = { s with heap := h', toks := tk' } ∧ Fr h₀ L h' m' ∧ News h₀ L h' news' ∧ upd m (ps i') = m' ∧ (∀ p ∈ nf i', p ∈ news') ∧ (I₀, o) ∈ news' ∧ (∀ p ∈ nf i', p.1 ≠ I₀) ∧ I i'
    | .brk => Q .next s₃
    | .ret v => Q (.ret v) s₃
theorem TPost.next {ι : Type} {h₀ : Heap} {L : Addr} {s : Shared} {m : Str → Option Value} {ps : ι → List (Str × Option Value)} {nf : ι → List (Addr × Obj)} {I : ι → Prop} {I₀ : Addr} {o : Obj} {Q : Flow → Shared → Prop} {h' : Heap} {tk' : Nat} {m' : Str → Option Value} {news' : List (Addr × Obj)}
    (i' : ι) (F : Fr h₀ L h' m') (N : News h₀ L h' news') (hn : ∀ p ∈ nf i', p ∈ news') (ho : (I₀, o) ∈ news') (ha : ∀ p ∈ nf i', p.1 ≠ I₀) (h1 : ∀ p ∈ ps i', m' p.1 = p.2) (h2 : ∀ y, (∀ p ∈ ps i', y ≠ p.1) → m' y = m y) (hI : I i') :
    TPost h₀ L s m ps nf I I₀ o Q .next { s with heap := h', toks := tk' } := ⟨i', h', tk', m', news', rfl, F, N, upd_eq h1 h2, hn, ho, ha, hI⟩
theorem TPost.ret {ι : Type} {h₀ : Heap} {L : Addr} {s s₃ : Shared} {m : Str → Option Value} {ps : ι → List (Str × Option Value)} {nf : ι → List (Addr × Obj)} {I : ι → Prop} {I₀ : Addr} {o : Obj} {Q : Flow → Shared → Prop} {v : Value} (h : Q (.ret v) s₃) :
    TPost h₀ L s m ps nf I I₀ o Q (.ret v) s₃ := ⟨h⟩

section
variable {prog : Program} {w : World} {A : Around} {E : Value → Shared → Prop} {Q : Flow → Shared → Prop} {s : Shared} {env : Env} {h₀ : Heap} {body : List Stmt} {m : Str → Option Value} {news : List (Addr × Obj)} {ι : Type}
/-- a for over a range by its state's letters -/
theorem forRange {y : Str} {py : Pos} {r : Addr} {a₀ b₀ : Int} {t₀ u₀ v₀ : Tok} {n : Nat} (ps : ι → List (Str × Option Value)) (nf : ι → List (Addr × Obj)) (I : Nat → ι → Prop) (i₀ : ι)
    (hh : A.handled = none) (hr : IsRange s.heap r a₀ b₀ 1 t₀ u₀ v₀) (hsmall : Builtin.Range.small a₀ b₀ 1 = true) (hsz : Builtin.Range.rangeSize a₀ b₀ 1 = (n : Int))
    (F : Fr h₀ env.locals s.heap m) (N : News h₀ env.locals s.heap news) (hm : ∀ p ∈ ps i₀, m p.1 = p.2) (hn : ∀ p ∈ nf i₀, p ∈ news) (h0 : I 0 i₀)
    (turn : ∀ (j : Nat) (k : Int) i t I₀ o h tk, k = a₀ + (j : Int) → j < n → I j i → (∀ p ∈ nf i, p.1 ≠ I₀) → Fr h₀ env.locals h (upd m (ps i)) → News h₀ env.locals h ((I₀, o) :: nf i) →
      wpAny (model prog w) A (assign (.Name y py) env (.int k t)) (fun _ s₃ => wpAny (model prog w) A (execs body env) (TPost h₀ env.locals s m ps nf (I (j + 1)) I₀ o Q) E s₃) E { s with heap := h, toks := tk })
    (done : ∀ i h tk, I n i → Fr h₀ env.locals h (upd m (ps i)) → News h₀ env.locals h (nf i) → Q .next { s with heap := h, toks := tk }) :
    wpAny (model prog w) A (pyIter (.ref r)) (fun it s₂ => TurnsAt prog w A h₀ env (.Name y py) body Q E it s₂) E s := by
  refine wpAny_pyIter_range hr hsmall ?_
  have W : Walks prog w A s.heap.objs.size [s.heap.objs.size] [s.heap.objs.size] n (fun i v => i < n ∧ ∃ t, v = .int (a₀ + i * 1) t)
      (fun i h => IsRangeIter h s.heap.objs.size (a₀ + (i : Nat) * 1) ((n : Int) - (i : Nat)) 1) := (Walks.range hh _ a₀ 1 n).bound
  have hI0 : h₀.get? s.heap.objs.size = none := next_is_new F
  refine ⟨s.heap.objs.size, _, _, n, _, _, _, m, nf i₀, (fun j m' nx => ∃ i, nx = nf i ∧ upd m (ps i) = m' ∧ I j i), rfl, KTurns.ofWalks W (fun i v s Q E st q => wpAny_of_eq rfl q), ?_, ?_, ?_, ?_, F.push _, (fun p hp => ⟨Heap.get?_push_of_some _ (N p (hn p hp)).1, (N p (hn p hp)).2⟩), ⟨i₀, rfl, upd_eq hm fun _ _ => rfl, h0⟩, ?_, ?_⟩
  · intro hm
    exact absurd F.ns.lt ((List.mem_singleton.mp hm) ▸ Nat.lt_irrefl _)
  · intro b hb
    rw [List.mem_singleton.mp hb]
    exact hI0
  · intro p hp hI
    exact absurd (Heap.lt_size (N p (hn p hp)).1) ((List.mem_singleton.mp hI) ▸ Nat.lt_irrefl _)
  · show IsRangeIter _ _ _ _ _
    rw [hsz]; simpa using Heap.get?_push_size _ rfl
  · rintro j v m₁ news₁ h₁ tk₁ own hj ⟨_, t, rfl⟩ ⟨i, rfl, rfl, hI⟩ hoff hown hget hall hst F₁ N₁
    obtain ⟨oI, hoI⟩ : ∃ oI, h₁.get? s.heap.objs.size = some oI := ⟨_, hst⟩
    have mI := hall _ (List.mem_singleton.mpr rfl) hI0 _ hoI
    have e1 : a₀ + (j : Int) * 1 = a₀ + (j : Int) := by omega
    rw [e1]
    refine wpAny_mono (turn j _ i t s.heap.objs.size oI h₁ tk₁ rfl hj hI (fun p hp e => hoff p hp (List.mem_singleton.mpr e)) F₁ fun p hp => ?_) (fun _ s₂ h₂ => wpAny_mono h₂ (fun f s₃ q => ?_) fun _ _ x => x) fun _ _ x => x
    · rcases List.mem_cons.mp hp with rfl | hp
      · exact N₁ _ (List.mem_append.mpr (.inl mI))
      · exact N₁ _ (List.mem_append.mpr (.inr hp))
    · obtain ⟨q⟩ := q
      have fin : (∃ i' h' tk' m' news', s₃ = { s with heap := h', toks := tk' } ∧ Fr h₀ env.locals h' m' ∧ News h₀ env.locals h' news' ∧ upd m (ps i') = m' ∧ (∀ p ∈ nf i', p ∈ news') ∧ (s.heap.objs.size, oI) ∈ news' ∧ (∀ p ∈ nf i', p.1 ≠ s.heap.objs.size) ∧ I (j + 1) i') →
          LoopStepU h₀ env.locals [s.heap.objs.size] own (fun m' nx => ∃ i, nx = nf i ∧ upd m (ps i) = m' ∧ I (j + 1) i) { s with heap := h₁, toks := tk₁ } .next s₃ := by
        rintro ⟨i', h', tk', m', news', rfl, F', N', em, hn', ho, ha, hI'⟩
        refine ⟨rfl, h', tk', m', nf i', rfl, F', fun p hp => ?_, fun p hp e => ha p hp (List.mem_singleton.mp e), i', rfl, em, hI'⟩
        rcases List.mem_append.mp hp with hp | hp
        · have e2 := List.mem_singleton.mp (hown p hp)
          have e3 := hget p hp
          rw [e2, hoI] at e3
          have e4 : p = (s.heap.objs.size, oI) := Prod.ext e2 (Option.some.inj e3).symm
          rw [e4]
          exact N' _ ho
        · exact N' p (hn' p hp)
      cases f with
      | ret v => exact .ret q
      | brk => exact .brk q
      | next => exact .next (fin q)
      | cont => exact .cont (fin q)
  · rintro h' tk m' news' F' N' _ ⟨i, rfl, rfl, hI⟩
    exact done i h' tk hI F' N'

/-- a for over a list of the ledger's by its state's letters -/
theorem forList {target : Expr} {l : Addr} {vs : List Value} {nn : Nat} (ps : ι → List (Str × Option Value)) (nf : ι → List (Addr × Obj)) (I : Nat → ι → Prop) (i₀ : ι)
    (hh : A.handled = none) (hl : ∀ i, (l, listOf vs.toArray nn) ∈ nf i)
    (F : Fr h₀ env.locals s.heap m) (N : News h₀ env.locals s.heap news) (hm : ∀ p ∈ ps i₀, m p.1 = p.2) (hn : ∀ p ∈ nf i₀, p ∈ news) (h0 : I 0 i₀)
    (turn : ∀ (j : Nat) i v I₀ o h tk, vs[j]? = some v → I j i → (∀ p ∈ nf i, p.1 ≠ I₀) → Fr h₀ env.locals h (upd m (ps i)) → News h₀ env.locals h ((I₀, o) :: nf i) →
      wpAny (model prog w) A (assign target env v) (fun _ s₃ => wpAny (model prog w) A (execs body env) (TPost h₀ env.locals s m ps nf (I (j + 1)) I₀ o Q) E s₃) E { s with heap := h, toks := tk })
    (done : ∀ i h tk, I vs.length i → Fr h₀ env.locals h (upd m (ps i)) → News h₀ env.locals h (nf i) → Q .next { s with heap := h, toks := tk }) :
    wpAny (model prog w) A (pyIter (.ref l)) (fun it s₂ => TurnsAt prog w A h₀ env target body Q E it s₂) E s := by
  have nl := N _ (hn _ (hl i₀))
  have hls : s.heap.IsList l vs.toArray := ⟨_, nl.1, rfl, nn, rfl⟩
  have hne : l ≠ s.heap.objs.size := Nat.ne_of_lt (Heap.lt_size nl.1)
  refine wpAny_pyIter_list hls ?_
  have W := Walks.list (prog := prog) (w := w) hh s.heap.objs.size l hne vs.toArray
  have hlen : vs.toArray.size = vs.length := by simp
  rw [hlen] at W
  have hI0 : h₀.get? s.heap.objs.size = none := next_is_new F
  refine ⟨s.heap.objs.size, _, _, vs.length, _, _, _, m, nf i₀, (fun j m' nx => ∃ i, nx = nf i ∧ upd m (ps i) = m' ∧ I j i), rfl, KTurns.ofWalks W (fun i v s Q E st q => letGo_listiter st.1 q), ?_, ?_, ?_, ?_, F.push _, (fun p hp => ⟨Heap.get?_push_of_some _ (N p (hn p hp)).1, (N p (hn p hp)).2⟩), ⟨i₀, rfl, upd_eq hm fun _ _ => rfl, h0⟩, ?_, ?_⟩
  · intro hm
    rcases List.mem_cons.mp hm with e | hm
    · exact absurd F.ns.lt (e ▸ Nat.lt_irrefl _)
    · exact nl.2.1 (List.mem_singleton.mp hm).symm
  · intro b hb
    rw [List.mem_singleton.mp hb]
    exact hI0
  · intro p hp hI
    exact absurd (Heap.lt_size (N p (hn p hp)).1) ((List.mem_singleton.mp hI) ▸ Nat.lt_irrefl _)
  · exact ⟨⟨_, Heap.get?_push_size _ rfl, rfl, rfl⟩, hls.at fun o e => Heap.get?_push_of_some _ e⟩
  · rintro j v m₁ news₁ h₁ tk₁ own hj hP ⟨i, rfl, rfl, hI⟩ hoff hown hget hall hst F₁ N₁
    have hP' : vs[j]? = some v := by simpa using hP
    obtain ⟨⟨oI, hoI, _⟩, _⟩ := id hst
    have mI := hall s.heap.objs.size (List.mem_cons_self ..) hI0 _ hoI
    have hlo : h₁.get? l = some (listOf vs.toArray nn) := (N₁ _ (List.mem_append.mpr (.inr (hl i)))).1
    refine wpAny_mono (turn j i v s.heap.objs.size oI h₁ tk₁ hP' hI (fun p hp e => hoff p hp (List.mem_singleton.mpr e)) F₁ fun p hp => ?_) (fun _ s₂ h₂ => wpAny_mono h₂ (fun f s₃ q => ?_) fun _ _ x => x) fun _ _ x => x
    · rcases List.mem_cons.mp hp with rfl | hp
      · exact N₁ _ (List.mem_append.mpr (.inl mI))
      · exact N₁ _ (List.mem_append.mpr (.inr hp))
    · obtain ⟨q⟩ := q
      have fin : (∃ i' h' tk' m' news', s₃ = { s with heap := h', toks := tk' } ∧ Fr h₀ env.locals h' m' ∧ News h₀ env.locals h' news' ∧ upd m (ps i') = m' ∧ (∀ p ∈ nf i', p ∈ news') ∧ (s.heap.objs.size, oI) ∈ news' ∧ (∀ p ∈ nf i', p.1 ≠ s.heap.objs.size) ∧ I (j + 1) i') →
          LoopStepU h₀ env.locals [s.heap.objs.size] own (fun m' nx => ∃ i, nx = nf i ∧ upd m (ps i) = m' ∧ I (j + 1) i) { s with heap := h₁, toks := tk₁ } .next s₃ := by
        rintro ⟨i', h', tk', m', news', rfl, F', N', em, hn', ho, ha, hI'⟩
        refine ⟨rfl, h', tk', m', nf i', rfl, F', fun p hp => ?_, fun p hp e => ha p hp (List.mem_singleton.mp e), i', rfl, em, hI'⟩
        rcases List.mem_append.mp hp with hp | hp
        · have e3 := hget p hp
          rcases List.mem_cons.mp (hown p hp) with e2 | e2
          · rw [e2, hoI] at e3
            have e4 : p = (s.heap.objs.size, oI) := Prod.ext e2 (Option.some.inj e3).symm
            rw [e4]
            exact N' _ ho
          · have e2 := List.mem_singleton.mp e2
            rw [e2, hlo] at e3
            have e4 : p = (l, listOf vs.toArray nn) := Prod.ext e2 (Option.some.inj e3).symm
            rw [e4]
            exact N' _ (hn' _ (hl i'))
        · exact N' p (hn' p hp)
      cases f with
      | ret v => exact .ret q
      | brk => exact .brk q
      | next => exact .next (fin q)
      | cont => exact .cont (fin q)
  · rintro h' tk m' news' F' N' _ ⟨i, rfl, rfl, hI⟩
    exact done i h' tk hI F' N'
end

theorem led_ints {h₀ h : Heap} {L D l' : Addr} {vs : List Value} {ns : List Int} {c : Nat} {o : Obj} {r : List (Addr × Obj)} (N : News h₀ L h ((D, listOf vs.toArray c) :: (l', o) :: r)) (hi : IntsAre vs ns) :
    ∃ vs' c', News h₀ L h ((D, listOf vs'.toArray c') :: r) ∧ IntsAre vs' ns :=
  ⟨vs, c, fun p hp => by
    rcases List.mem_cons.mp hp with rfl | hp
    · exact N _ (.head _)
    · exact N _ (.tail _ (.tail _ hp)), hi⟩

theorem dat_pair {news : List (Addr × Obj)} {v : Value} {x y : Int} (h : DatIn news v (.tuple [.int x, .int y])) :
    ∃ a n t t', v = .ref a ∧ (a, ({ cls := .type "tuple", data := .seq [Value.int x t, Value.int y t'].toArray n } : Obj)) ∈ news := by
  cases h with
  | tuple hm r =>
    cases r with
    | cons h1 r =>
      cases r with
      | cons h2 r =>
        cases r
        cases h1
        cases h2
        exact ⟨_, _, _, _, rfl, hm⟩
theorem appU {prog : Program} {w : World} {A : Around} {E : Value → Shared → Prop} {s : Shared} {h₀ : Heap} {L l : Addr} {m : Str → Option Value} {news news' : List (Addr × Obj)} {vs : List Value} {n : Nat} {x : Value} {Q : Value → Shared → Prop}
    (F : Fr h₀ L s.heap m) (N : News h₀ L s.heap news) (U : Upd l (listOf vs.toArray n) (listOf (vs ++ [x]).toArray (n + 1)) news news') (hz : vs.length ≤ sizeLine)
    (h : ∀ h', Fr h₀ L h' m → News h₀ L h' news' → Q .none { s with heap := h' }) : wpAny (model prog w) A (call (.builtin "list.append") [.ref l, x]) Q E s :=
  append_K (its := vs.toArray) (n := n) F N (by simpa using U) h (by simpa using hz)
theorem popU {prog : Program} {w : World} {A : Around} {E : Value → Shared → Prop} {s : Shared} {h₀ : Heap} {L l : Addr} {m : Str → Option Value} {news news' : List (Addr × Obj)} {vs : List Value} {n : Nat} {x : Value} {Q : Value → Shared → Prop}
    (F : Fr h₀ L s.heap m) (N : News h₀ L s.heap news) (U : Upd l (listOf (vs ++ [x]).toArray n) (listOf vs.toArray (n + 1)) news news') (hz : vs.length + 1 ≤ sizeLine)
    (h : ∀ h', Fr h₀ L h' m → News h₀ L h' news' → Q x { s with heap := h' }) : wpAny (model prog w) A (call (.builtin "list.pop") [.ref l]) Q E s :=
  kl_pop F N (its := (vs ++ [x]).toArray) (by simpa using kpa_last x vs) U (by simpa using hz) h
theorem unpackU {prog : Program} {w : World} {A : Around} {E : Value → Shared → Prop} {s : Shared} {env : Env} {h₀ : Heap} {L a : Addr} {m : Str → Option Value} {news : List (Addr × Obj)} {elts : List Expr} {k : Nat} {pos : Pos} {n : Nat} {its : List Value} {Q : Unit → Shared → Prop}
    (F : Fr h₀ L s.heap m) (N : News h₀ L s.heap news) (hm : (a, ({ cls := .type "tuple", data := .seq its.toArray n } : Obj)) ∈ news)
    (hh : A.handled = none) (hn : (assignEach elts env).length = its.toArray.size) (hstar : (assignEach elts env).findIdx? (·.1) = none)
    (h : ∀ h', Fr h₀ L h' m → News h₀ L h' news → wpAny (model prog w) A (assignInOrder ((assignEach elts env).map (·.2)) its) Q E { s with heap := h' }) :
    wpAny (model prog w) A (assign (.Tuple elts k pos) env (.ref a)) Q E s :=
  unpackN_ F N ⟨_, (N _ hm).1, rfl, n, rfl⟩ hh hn hstar (by simpa using h)
theorem pd_ok {bits : Int} (ps : List (Int × Nat)) : ∀ d ∈ ps.map (fun p => Dat.tuple [.int p.1, .int (bits - (p.2 : Int))]), kqdOk 8 d = true := by
  intro d hd
  obtain ⟨p, _, rfl⟩ := List.mem_map.mp hd
  rfl

theorem led_start {h₀ h : Heap} {L wl D f : Addr} {o1 o3 : Obj} {a b : Int} {ta tb : Tok} {n : Nat} {r : List (Addr × Obj)} (N : News h₀ L h ((wl, o1) :: (D, { cls := .type "tuple", data := .seq [Value.int a ta, Value.int b tb].toArray n }) :: (f, o3) :: r)) :
    ∃ wl' D' f' od, wl' = wl ∧ D' = D ∧ f' = f ∧ News h₀ L h ((wl', o1) :: (D', od) :: (f', o3) :: r) ∧ ∀ tl, DatIn ((D', od) :: tl) (.ref D') (.tuple [.int a, .int b]) :=
  ⟨wl, D, f, _, rfl, rfl, rfl, N, fun _ => .tuple (.head _) (.cons (.int _ _) (.cons (.int _ _) .nil))⟩
local macro_rules | `(tactic| walk_at "ite") => `(tactic| first
  | with_reducible refine ite_tt ?_ | with_reducible refine ite_ff ?_
  | (with_reducible refine split_ine ?_ ?_ <;> intro _) | (with_reducible refine split_ieq ?_ ?_ <;> intro _) | with_reducible refine split_not ?_
  | (with_reducible refine split_dec ?_ ?_ <;> intro _))
local macro_rules | `(tactic| walk_at "execs cons") => `(tactic| (dsimp only; (try k_gentoks); with_reducible refine wpAny_execs_cons ?_))
local macro_rules | `(tactic| walk_at "execs nil") => `(tactic| (dsimp only; (try k_gentoks); with_reducible refine wpAny_execs_nil ?_))
local macro_rules | `(tactic| walk_at "exec While Compare cons nil") => `(tactic| (refine Halt.out ?_))
local macro_rules | `(tactic| walk_at "exec While BoolOp cons nil") => `(tactic| (refine Halt.out ?_))
-- a frame's names by computation; the rest of the frame
local macro_rules | `(tactic| walk_at "my names") => `(tactic| first | exact List.forall_mem_nil _ | (refine List.forall_mem_cons.mpr ⟨by with_unfolding_all rfl, ?_⟩; walk_at "my names"))
local macro_rules | `(tactic| walk_at "my rest") => `(tactic| (intro z h2; (simp only [List.forall_mem_cons, List.not_mem_nil, false_implies, implies_true, and_true, ne_eq] at h2); (simp [h2, upd]; done)))
-- a contract's entry
local macro_rules | `(tactic| walk_at "my enter") => `(tactic| (w_on; refine wpAny_call ?_; k_dflt cell_enter))
-- the passing of the frame's own
local macro_rules | `(tactic| walk_at "my passes") => `(tactic| first | passes_own | with_unfolding_all passes_own)
local macro_rules | `(tactic| walk_at "binaryOp LShift int int") => `(tactic| (with_reducible refine shl_my (by first | assumption | omega) (by omega) ?_))
local macro_rules | `(tactic| walk_at "binaryOp Pow int int") => `(tactic| (with_reducible refine pow_my (by first | assumption | omega) (by omega) ?_))
local macro_rules | `(tactic| walk_at "binaryOp RShift int int") => `(tactic| (with_reducible refine shr_my (by first | assumption | omega | decide) ?_))
local macro_rules | `(tactic| walk_at "binaryOp Mod int int") => `(tactic| (with_reducible refine mod_my ?_))
local macro_rules | `(tactic| walk_at "pyIter ref") => `(tactic| (refine Halt.out ?_))
section F1
-- D. span_prefix
def SpanIs (low high bits : Int) (r : Value) : Prop :=
  (∃ k : Nat, high - low + 1 = 2 ^ k ∧ low % 2 ^ k = 0 ∧ high < 2 ^ bits.toNat ∧ ∃ t, r = .int (bits - k) t) ∨ ((∀ k : Nat, ¬ (high - low + 1 = 2 ^ k ∧ low % 2 ^ k = 0 ∧ high < 2 ^ bits.toNat)) ∧ r = .none)
theorem fmod_p {a b : Int} (h : 0 < b) : a.fmod b = a % b := Int.fmod_eq_emod_of_nonneg a (Int.le_of_lt h)
theorem fdiv_p {a b : Int} (h : 0 < b) : a.fdiv b = a / b := Int.fdiv_eq_ediv_of_nonneg a (Int.le_of_lt h)
theorem span_some {low high bits : Int} (a1 : ¬ high - low + 1 < 1) (a2 : Builtin.bitAnd (high - low + 1) (high - low + 1 - 1) = 0) (a3 : low.fmod (high - low + 1) = 0) (a4 : high / (2 ^ bits.toNat) = 0) :
    ∃ k : Nat, high - low + 1 = 2 ^ k ∧ low % 2 ^ k = 0 ∧ high < 2 ^ bits.toNat := by
  obtain ⟨k, hk⟩ := and_pow_conv (high - low + 1).toNat (high - low + 1) (by omega) (by omega) a2
  refine ⟨k, hk, ?_, ?_⟩
  · rw [hk, fmod_p (p2 k)] at a3; exact a3
  · have q := Int.emod_add_mul_ediv high (2 ^ bits.toNat)
    rw [a4] at q
    have := Int.emod_lt_of_pos high (p2 bits.toNat)
    omega
theorem span_none {low high bits : Int} (h1 : 0 ≤ low) (a : high - low + 1 < 1 ∨ Builtin.bitAnd (high - low + 1) (high - low + 1 - 1) ≠ 0 ∨ low.fmod (high - low + 1) ≠ 0 ∨ high / 2 ^ bits.toNat ≠ 0) :
    ∀ k : Nat, ¬ (high - low + 1 = 2 ^ k ∧ low % 2 ^ k = 0 ∧ high < 2 ^ bits.toNat) := by
  rintro k ⟨e, m, l⟩
  have p := p2 k
  rcases a with a | a | a | a
  · omega
  · exact a (by rw [e]; exact and_pow k)
  · exact a (by rw [e, fmod_p p]; exact m)
  · refine a ?_
    exact Int.ediv_eq_zero_of_lt (by omega) l
theorem half_p {s : Int} {k : Nat} (h : s = 2 ^ k) (h1 : s > 1) : ∃ j : Nat, k = j + 1 ∧ s / 2 ^ (1 : Int).toNat = 2 ^ j := by
  cases k with
  | zero => simp at h; omega
  | succ j =>
    refine ⟨j, rfl, ?_⟩
    rw [h, p2_succ]
    show 2 * 2 ^ j / (2 : Int) ^ 1 = 2 ^ j
    omega
theorem one_p {s : Int} {k : Nat} (h : s = 2 ^ k) (h1 : ¬ s > 1) : k = 0 := by
  cases k with
  | zero => rfl
  | succ j => have := p2 j; rw [p2_succ] at h; omega
theorem span_ok (w : World) (mean mg mb) (news) (low high bits : Int) (t1 t2 t3 : Tok) (h1 : 0 ≤ low) (h3 : 0 ≤ bits) (h4 : bits ≤ 128) :
   Ctr w mean mg mb 35 [.int low t1, .int high t2, .int bits t3] news 8 (fun tl r => tl = [] ∧ SpanIs low high bits r) := by
  unfold Ctr
  k_fill
  intro dp un gd cn cs a ccd cl outer A₀ base h₀ L m s Q E B F X N T hk hd hu hret
  walk_at "my enter"
  k_steps
  · exact ret0 hret (by k_asm) (by k_asm) ⟨rfl, .inr ⟨span_none h1 (.inl (by assumption)), rfl⟩⟩
  · exact ret0 hret (by k_asm) (by k_asm) ⟨rfl, .inr ⟨span_none h1 (.inr (.inl (by assumption))), rfl⟩⟩
  · exact ret0 hret (by k_asm) (by k_asm) ⟨rfl, .inr ⟨span_none h1 (.inr (.inr (.inl (by assumption)))), rfl⟩⟩
  · exact ret0 hret (by k_asm) (by k_asm) ⟨rfl, .inr ⟨span_none h1 (.inr (.inr (.inr (by assumption)))), rfl⟩⟩
  · refine Halt.mk ?_
    obtain ⟨K, hK, hm, hl⟩ := span_some (by assumption) (by assumption) (by assumption) (by assumption)
    rename Fr _ _ _ _ => F9
    rename News _ _ _ _ => N9
    refine whileR (ι := Int × Tok × Int × Tok) (fun i => [(Str.ofString "length", some (.int i.2.2.1 i.2.2.2)), (Str.ofString "size", some (.int i.1 i.2.1))]) (fun _ => news)
      (fun i => ∃ k : Nat, i.1 = 2 ^ k ∧ i.2.2.1 + (K : Int) = bits + (k : Int)) (fun i => i.1.toNat) ⟨high - low + 1, _, bits, _⟩ F9 N9 (by walk_at "my names") (fun _ h => h) ⟨K, hK, rfl⟩ ?_ (by walk_at "my passes")
    rintro ⟨sz, ts, ln, tn⟩ h tk ⟨k, e1, e2⟩ F8 N8
    clear F9 N9
    dsimp only [upd] at F8 e1 e2
    k_steps
    · obtain ⟨j, rfl, ej⟩ := half_p e1 (by assumption)
      refine WPost.next ⟨sz / 2 ^ (1 : Int).toNat, _, ln - 1, _⟩ (by k_asm) (by k_asm) (fun _ h => h) (by walk_at "my names") (by walk_at "my rest") ⟨j, ej, ?_⟩ ?_
      · dsimp only; omega
      · dsimp only; rw [ej, e1, p2_succ]; have := p2 j; omega
    · refine ret0 hret (by k_asm) (by k_asm) ⟨rfl, .inl ⟨K, hK, hm, hl, tn, ?_⟩⟩
      have := one_p e1 (by assumption)
      have e3 : ln = bits - (K : Int) := by omega
      rw [e3]
end F1
section F2
-- D. prefixes_of
/-- a prefix as a datum -/
def pd (bits : Int) (p : Int × Nat) : Dat := .tuple [.int p.1, .int (bits - (p.2 : Int))]
structure PSt where
  a : Int
  ta : Tok
  ln : Int
  tn : Tok
  vs : List Value
  n : Nat
  tl : List (Addr × Obj)
local macro_rules | `(tactic| walk_at "call builtin:list.append") => `(tactic| (refine Halt.out ?_))
theorem pfx_ok (w : World) (mean mg mb) (news) (low high bits : Int) (t1 t2 t3 : Tok) (h1 : 0 ≤ low) (h2 : low ≤ high) (h3 : 0 ≤ bits) (h4 : bits ≤ 128) (h5 : Flt.Hid (high < 2 ^ bits.toNat)) :
   Ctr w mean mg mb 42 [.int low t1, .int high t2, .int bits t3] news 8 (fun tl r => ∃ l vs n, r = .ref l ∧ (l, listOf vs.toArray n) ∈ tl ∧ DatAll tl vs ((gr bits.toNat (high + 1) low).map (pd bits))) := by
  unfold Ctr
  k_fill
  intro dp un gd cn cs a ccd cl outer A₀ base h₀ L m s Q E B F X N T hk hd hu hret
  walk_at "my enter"
  k_steps
  refine Halt.mk ?_
  rename Fr _ _ _ _ => F9
  rename News _ _ _ _ => N9
  rename ∀ p ∈ news, _ => l9
  obtain ⟨l, hl⟩ := led_head N9
  subst hl
  refine whileX (ι := PSt) (fun i => [(Str.ofString "length", some (.int i.ln i.tn)), (Str.ofString "at", some (.int i.a i.ta))]) (fun i => (l, listOf i.vs.toArray i.n) :: (i.tl ++ news))
    (fun i => low ≤ i.a ∧ i.a ≤ high + 1 ∧ 0 ≤ i.ln ∧ i.ln ≤ bits ∧ i.a % 2 ^ (bits - i.ln).toNat = 0 ∧ (∀ p ∈ i.tl ++ news, p.1 ≠ l) ∧ (∀ q ∈ news, ∀ p ∈ i.tl, q.1 < p.1) ∧
      ∃ ps, DatAll i.tl i.vs (ps.map (pd bits)) ∧ ps ++ gr bits.toNat (high + 1) i.a = gr bits.toNat (high + 1) low)
    (fun i => high < i.a) (fun i => (high + 1 - i.a).toNat) ⟨low, _, bits, _, [], 0, []⟩ F9 N9 (by walk_at "my names") (fun _ h => h) ?_ ?_ ?_ (by walk_at "my passes")
  · refine ⟨Int.le_refl _, by dsimp only; omega, h3, Int.le_refl _, ?_, fun p hp => Nat.ne_of_lt (l9 p hp), (fun _ _ _ h => nomatch h), [], .nil, rfl⟩
    dsimp only
    rw [show (bits - bits).toNat = 0 by omega, Int.pow_zero, Int.emod_one]
  · rintro ⟨at', ta, ln, tn, vs, n, tl⟩ h tk ⟨i1, i2, i3, i4, i5, i6, i7, ps, i8, i9⟩ F8 N8
    clear F9 N9
    dsimp only [upd] at F8 i1 i2 i3 i4 i5 i6 i7 i8 i9 N8
    k_steps
    · refine Halt.mk ?_
      rename Fr _ _ _ _ => F7
      rename News _ _ _ _ => N7
      refine whileX (ι := Int × Tok) (fun i => [(Str.ofString "length", some (.int i.1 i.2))]) (fun i => (l, listOf vs.toArray n) :: (tl ++ news))
        (fun i => 0 ≤ i.1 ∧ i.1 ≤ bits ∧ at' % 2 ^ (bits - i.1).toNat = 0) (fun i => at' + 2 ^ (bits - i.1).toNat ≤ high + 1 → i.1 = 0 ∨ ¬ Ok (high + 1) at' ((bits - i.1).toNat + 1)) (fun i => i.1.toNat) ⟨ln, _⟩ F7 N7 (by walk_at "my names") (fun _ h => h) ⟨i3, i4, i5⟩ ?_ ?_ (by walk_at "my passes")
      · rintro ⟨ln', tn'⟩ h tk ⟨j1, j2, j3⟩ F6 N6
        clear F7 N7
        dsimp only [upd] at F6 j1 j2 j3 N6
        k_steps
        · refine WPost.next ⟨ln' - 1, _⟩ (by k_asm) (by k_asm) (fun _ h => h) (by walk_at "my names") (by walk_at "my rest") ⟨by dsimp only; omega, by dsimp only; omega, ?_⟩ (by dsimp only; omega)
          dsimp only
          rw [show (bits - (ln' - 1)).toNat = (bits - ln' + 1).toNat by omega]
          assumption
        · refine WDone.mk' (by k_asm) (by k_asm) (fun _ h => h) fun _ => .inr fun ok => ?_
          have h9 := ok.2
          rw [show (bits - ln').toNat + 1 = (bits - ln' + 1).toNat by omega] at h9
          exact absurd h9 (by assumption)
        · refine WDone.mk' (by k_asm) (by k_asm) (fun _ h => h) fun _ => .inr fun ok => ?_
          have h9 := ok.1
          rw [show (bits - ln').toNat + 1 = (bits - ln' + 1).toNat by omega] at h9
          exact absurd h9 (by assumption)
        · exact WDone.mk' (by k_asm) (by k_asm) (fun _ h => h) fun _ => .inl (by dsimp only; omega)
      · rintro ⟨ln', tn'⟩ h tk ⟨j1, j2, j3⟩ j4 F6 N6
        clear F7 N7
        dsimp only [upd] at F6 j1 j2 j3 j4 N6
        dsimp only
        k_steps
        refine Halt.mk ?_
        rename Fr _ _ _ _ => F7
        rename News _ _ _ _ => N7
        refine whileX (ι := Int × Tok) (fun i => [(Str.ofString "length", some (.int i.1 i.2))]) (fun i => (l, listOf vs.toArray n) :: (tl ++ news))
          (fun i => 0 ≤ i.1 ∧ i.1 ≤ bits ∧ at' % 2 ^ (bits - i.1).toNat = 0 ∧ (at' + 2 ^ (bits - i.1).toNat ≤ high + 1 → i.1 = 0 ∨ ¬ Ok (high + 1) at' ((bits - i.1).toNat + 1))) (fun i => at' + 2 ^ (bits - i.1).toNat ≤ high + 1) (fun i => (bits - i.1).toNat) ⟨ln', _⟩ F7 N7 (by walk_at "my names") (fun _ h => h) ⟨j1, j2, j3, j4⟩ ?_ ?_ (by walk_at "my passes")
        · clear F7 N7
          clear j1 j2 j3 j4
          rintro ⟨lo, to⟩ h tk ⟨j1, j2, j3, j4⟩ F6 N6
          dsimp only [upd] at F6 j1 j2 j3 j4 N6
          k_steps
          · have q := p2 (bits - (lo + 1)).toNat
            have hlt : lo < bits := by
              by_cases c : lo < bits
              · exact c
              · exfalso
                rw [show (bits - lo).toNat = 0 by omega] at *
                simp only [Int.pow_zero] at *
                omega
            have e : (bits - lo).toNat = (bits - (lo + 1)).toNat + 1 := by omega
            refine WPost.next ⟨lo + 1, _⟩ (by k_asm) (by k_asm) (fun _ h => h) (by walk_at "my names") (by walk_at "my rest") ⟨by dsimp only; omega, by dsimp only; omega, ?_, fun _ => .inr fun ok => ?_⟩ (by dsimp only; omega)
            · dsimp only
              exact Int.emod_eq_zero_of_dvd (Int.dvd_trans (p2_dvd (by omega)) (Int.dvd_of_emod_eq_zero j3))
            · have h9 := ok.2
              dsimp only at h9
              rw [← e] at h9
              omega
          · refine WDone.mk' (by k_asm) (by k_asm) (fun _ h => h) ?_
            dsimp only; omega
        · clear F7 N7
          clear j1 j2 j3 j4
          rintro ⟨lo, to⟩ h tk ⟨j1, j2, j3, j4⟩ j5 F6 N6
          dsimp only [upd] at F6 j1 j2 j3 j4 j5 N6
          dsimp only
          k_steps
          refine Halt.mk ?_
          rename _ ∧ _ => lD
          rename News _ _ _ _ => N7
          obtain ⟨D, hD⟩ := led_head N7
          subst hD
          have gx := gr_next (n := bits.toNat) (H := high + 1) (a := at') (k := (bits - lo).toNat) (by omega) j3 j5 fun h => by
            rcases j4 h with h | h
            · exact .inl (by omega)
            · exact .inr h
          have hz : vs.length ≤ 300 := by
            have q1 := i8.length
            have q2 := congrArg List.length i9
            have q3 := gr_len (N := bits.toNat) h1 h2 h5.out
            simp only [List.length_append, List.length_map] at q1 q2
            omega
          refine app_my (by k_asm) N7 (Nat.ne_of_gt lD.1) i6 (by rw [PySem.sizeLine_eq]; omega) fun h' F' N' => ?_
          clear N7
          obtain ⟨od, N5, dD⟩ := led_tup N'
          clear N'
          k_steps
          have q := p2 (bits - lo).toNat
          have ek : bits - ((bits - lo).toNat : Int) = lo := by omega
          refine WPost.next ⟨at' + 2 ^ (bits - lo).toNat, _, lo, _, vs ++ [.ref D], n + 1, (D, od) :: tl⟩ (by k_asm) (by k_asm) ?_ (by walk_at "my names") (by walk_at "my rest") ⟨?_, j5, j1, j2, ?_, ?_, ?_, ps ++ [(at', (bits - lo).toNat)], ?_, ?_⟩ ?_
          · intro p hp
            rcases List.mem_cons.mp hp with h | hp
            · exact h ▸ .tail _ (.head _)
            · rcases List.mem_cons.mp hp with h | hp
              · exact h ▸ .head _
              · exact .tail _ (.tail _ hp)
          · dsimp only; omega
          · dsimp only
            rw [Int.add_emod_right]; exact j3
          · exact List.forall_mem_cons.mpr ⟨Nat.ne_of_gt lD.1, i6⟩
          · intro q hq
            exact List.forall_mem_cons.mpr ⟨kst_ltOf lD.2 q (List.mem_append.mpr (.inr hq)), i7 q hq⟩
          · dsimp only
            rw [List.map_append]
            refine (i8.mono fun p hp => .tail _ hp).append (.one ?_)
            have dd := dD tl
            unfold pd
            rw [ek]
            exact dd
          · rw [List.append_assoc, ← i9, gx]; rfl
          · dsimp only; omega
    · refine WDone.mk' (by k_asm) (by k_asm) (fun _ h => h) ?_
      dsimp only; omega
  · rintro ⟨at', ta, ln, tn, vs, n, tl⟩ h tk ⟨i1, i2, i3, i4, i5, i6, i7, ps, i8, i9⟩ i0 F8 N8
    clear F9 N9
    dsimp only [upd] at F8 i0 i1 i2 i3 i4 i5 i6 i7 i8 i9 N8
    dsimp only
    k_steps
    refine hret _ ((l, listOf vs.toArray n) :: tl) _ _ (by k_asm) (by k_asm) ?_ ⟨l, vs, n, rfl, .head _, ?_⟩
    · intro q hq
      exact List.forall_mem_cons.mpr ⟨l9 q hq, i7 q hq⟩
    · rw [gr_nil (H := high + 1) (a := at') (by omega), List.append_nil] at i9
      rw [← i9]
      exact i8.mono fun p hp => .tail _ hp
end F2
section F3
-- D. _law_turned
-- a call of a def of the text's, walked in place
local macro_rules | `(tactic| walk_at "call ref") => `(tactic| (k_here; refine wpAny_call ?_; have hk9 : PySem.ScopeKind.function = PySem.ScopeKind.function := rfl; k_dflt cell_enter))
local macro_rules | `(tactic| walk_at "call ref") => `(tactic| (k_here; (with_reducible show wpAny _ _ (call (Value.ref 35) _) _ _ _); k_dflt (refine' Ctr.use (span_ok _ _ _ _ _ _ _ _ _ _ _ ?p1 ?p2 ?p3) ?k1 ?k2 ?k3 ?k4 ?k5 ?kK ?kd ?ku ?_); k_dflt ((case p1 => first | assumption | omega); (case p2 => first | assumption | omega); (case p3 => first | assumption | omega); (case k1 => k_asm); (case k2 => k_asm); (case k3 => k_asm); (case k4 => k_asm); (case k5 => k_asm); (case kK => first | exact rfl | assumption); (case kd => ktr_room); (case ku => ktr_units); refine Halt.out ?_)))
theorem p2_inj {j k : Nat} (h : (2 : Int) ^ j = 2 ^ k) : j = k := by
  rcases Nat.lt_trichotomy j k with c | c | c
  · have q := p2_le (show j + 1 ≤ k by omega); have := p2 j; rw [p2_succ] at q; omega
  · exact c
  · have q := p2_le (show k + 1 ≤ j by omega); have := p2 k; rw [p2_succ] at q; omega
theorem turned_math {base behind : Int} {n k : Nat} (hk : k ≤ n) (h0 : 0 ≤ base) (h1 : base % 2 ^ k = 0) (h2 : base + 2 ^ k ≤ 2 ^ n) : Builtin.bitAnd (base + behind % 2 ^ k) (2 ^ n - 2 ^ k) = base := by
  have p := p2 k
  have r0 := Int.emod_nonneg behind (Int.ne_of_gt p)
  have r1 := Int.emod_lt_of_pos behind p
  rw [and_mask hk (by omega) (by omega)]
  obtain ⟨q, hq⟩ := Int.dvd_of_emod_eq_zero h1
  rw [hq, Int.add_comm, Int.add_mul_ediv_left _ _ (Int.ne_of_gt p), Int.ediv_eq_zero_of_lt r0 r1, Int.zero_add]
theorem turned_ok (w : World) (mean mg mb) (news) (base length bits behind : Int) (t1 t2 t3 t4 : Tok) (h1 : 0 ≤ length) (h2 : length ≤ bits) (h3 : bits ≤ 128) (h4 : 0 ≤ base) (h5 : base % 2 ^ (bits - length).toNat = 0) (h6 : Flt.Hid (base + 2 ^ (bits - length).toNat ≤ 2 ^ bits.toNat)) :
   Ctr w mean mg mb 70 [.int base t1, .int length t2, .int bits t3, .int behind t4] news 16 (fun tl r => tl = [] ∧ r = .bool true) := by
  unfold Ctr
  k_fill
  intro dp un gd cn cs a ccd cl outer A₀ base' h₀ L m s Q E B F X N T hk hd hu hret
  walk_at "my enter"
  k_steps
  all_goals have A := turned_math (behind := behind) (n := bits.toNat) (k := (bits - length).toNat) (by omega) h4 h5 h6.out
  · refine Halt.mk ?_
    intro r tl h' tk' F' N' hlt ⟨e1, hs⟩
    subst e1
    rename _ = true => ha
    clear ha A
    have e2 : ∃ t, r = .int length t := by
      rcases hs with ⟨k, b1, b2, b3, t, rfl⟩ | ⟨hn, rfl⟩
      · have e3 : k = (bits - length).toNat := p2_inj (by rw [← b1]; omega)
        exact ⟨t, by rw [show bits - (k : Int) = length by omega]⟩
      · exact absurd ⟨by omega, h5, by have := h6.out; omega⟩ (hn (bits - length).toNat)
    obtain ⟨t, rfl⟩ := e2
    dsimp only
    k_steps
    rename News _ _ _ _ => N9
    exact ret0 hret (by k_asm) (fun p hp => N9 p (.tail _ (.tail _ hp))) ⟨rfl, by rw [beq_self_eq_true]⟩
  · rename _ = false => ha
    rw [A] at ha
    simp at ha
end F3
section F4
-- D. _law_lengths
local macro_rules | `(tactic| walk_at "call ref") => `(tactic| (k_here; (with_reducible show wpAny _ _ (call (Value.ref 35) _) _ _ _); k_dflt (refine' Ctr.use (span_ok _ _ _ _ _ _ _ _ _ _ _ ?p1 ?p2 ?p3) ?k1 ?k2 ?k3 ?k4 ?k5 ?kK ?kd ?ku ?_); k_dflt ((case p1 => first | assumption | omega); (case p2 => first | assumption | omega); (case p3 => first | assumption | omega); (case k1 => k_asm); (case k2 => k_asm); (case k3 => k_asm); (case k4 => k_asm); (case k5 => k_asm); (case kK => first | exact rfl | assumption); (case kd => ktr_room); (case ku => ktr_units); refine Halt.out ?_)))
local macro_rules | `(tactic| walk_at "exec For Name Call cons nil") => `(tactic| (k_here; (rename Fr _ _ _ _ => lF'); (with_unfolding_all refine' For_turns lF' ?_; k_whole)))
local macro_rules | `(tactic| walk_at "exec For Tuple Name cons nil") => `(tactic| (k_here; (rename Fr _ _ _ _ => lF'); (with_unfolding_all refine' For_turns lF' ?_; k_whole)))
local macro_rules | `(tactic| walk_at "exec For Tuple List cons nil") => `(tactic| (k_here; (rename Fr _ _ _ _ => lF'); (with_unfolding_all refine' For_turns lF' ?_; k_whole)))
abbrev OV := Option Value
def LCond (lo hi bits len : Int) : Prop := lo % 2 ^ (bits - len).toNat = 0 ∧ hi = lo + 2 ^ (bits - len).toNat - 1
def Due (lo hi bits : Int) (n : Nat) (v : Value) : Prop := (∃ len t, 0 ≤ len ∧ len < (n : Int) ∧ LCond lo hi bits len ∧ v = .int len t) ∨ ((∀ len, 0 ≤ len → len < (n : Int) → ¬ LCond lo hi bits len) ∧ v = .none)
theorem due_hit {lo hi bits k : Int} {j : Nat} {t : Tok} (h : LCond lo hi bits k) (e : k = 0 + (j : Int)) : Due lo hi bits (j + 1) (.int k t) := .inl ⟨k, t, by omega, by omega, h, rfl⟩
theorem due_miss {lo hi bits k : Int} {j : Nat} {v : Value} (h : ¬ LCond lo hi bits k) (e : k = 0 + (j : Int)) (d : Due lo hi bits j v) : Due lo hi bits (j + 1) v := by
  rcases d with ⟨len, t, a, b, c, rfl⟩ | ⟨a, rfl⟩
  · exact .inl ⟨len, t, a, by omega, c, rfl⟩
  · refine .inr ⟨fun len h1 h2 => ?_, rfl⟩
    by_cases c : len = k
    · rw [c]; exact h
    · exact a len h1 (by omega)
theorem due_span {lo hi bits : Int} {r v : Value} {n : Nat} (h : SpanIs lo hi bits r) (d : Due lo hi bits n v) (hn : n = (bits + 1 - 0).toNat) (hb : 0 ≤ bits) (h0 : 0 ≤ lo) (h1 : hi < 2 ^ bits.toNat) :
    (∃ k t t', r = .int k t ∧ v = .int k t') ∨ (r = .none ∧ v = .none) := by
  rcases h with ⟨k, e1, e2, e3, t, rfl⟩ | ⟨hno, rfl⟩
  · have hk : k ≤ bits.toNat := by
      by_cases c : k ≤ bits.toNat
      · exact c
      · have q := p2_le (show bits.toNat ≤ k by omega)
        have q2 := p2_le (show bits.toNat + 1 ≤ k by omega)
        have q3 := p2 bits.toNat
        rw [p2_succ] at q2
        omega
    have ek : (bits - (bits - (k : Int))).toNat = k := by omega
    rcases d with ⟨len, t', a, b, c, rfl⟩ | ⟨a, rfl⟩
    · have q : (bits - len).toNat = k := p2_inj (by rw [← e1]; have := c.2; omega)
      refine .inl ⟨bits - (k : Int), t, t', rfl, ?_⟩
      rw [show len = bits - (k : Int) by omega]
    · exact absurd (show LCond lo hi bits (bits - (k : Int)) from ⟨by rw [ek]; exact e2, by rw [ek]; omega⟩) (a _ (by omega) (by omega))
  · rcases d with ⟨len, t', a, b, c, rfl⟩ | ⟨a, rfl⟩
    · exact absurd ⟨by have := c.2; omega, c.1, h1⟩ (hno (bits - len).toNat)
    · exact .inr ⟨rfl, rfl⟩
theorem lengths_ok (w : World) (mean mg mb) (news) (bits : Int) (t1 : Tok) (h1 : 1 ≤ bits) (h2 : bits ≤ 3) :
   Ctr w mean mg mb 91 [.int bits t1] news 16 (fun tl r => tl = [] ∧ r = .bool true) := by
  unfold Ctr
  k_fill
  intro dp un gd cn cs a ccd cl outer A₀ base' h₀ L m s Q E B F X N T hk hd hu hret
  have hb1 : (2 : Int) ^ bits.toNat ≤ 2 ^ 3 := p2_le (by omega)
  have hb2 := p2 bits.toNat
  walk_at "my enter"
  k_steps
  refine Halt.mk ?_
  rename Fr _ _ _ _ => F9
  rename News _ _ _ _ => N9
  rename IsRange _ _ _ _ _ _ _ _ => R9
  refine forRange (ι := OV × OV × OV × OV × OV) (fun i => [(Str.ofString "low", i.1), (Str.ofString "high", i.2.1), (Str.ofString "due", i.2.2.1), (Str.ofString "length", i.2.2.2.1), (Str.ofString "size", i.2.2.2.2)]) (fun _ => news) (fun _ _ => True) ⟨_, _, _, _, _⟩ rfl R9 (small_one (by omega) (by omega) (by omega) (by omega)) (rangeSize_nat _ _)
    F9 N9 (by walk_at "my names") (fun _ h => h) trivial ?_ ?_
  · rintro j lo ⟨u1, u2, u3, u4, u5⟩ t I₀ o h tk ej hj - hI F8 N8
    clear F9 N9 R9
    have hlo : 0 ≤ lo ∧ lo < 2 ^ bits.toNat := by omega
    clear ej hj
    obtain ⟨hlo1, hlo2⟩ := hlo
    dsimp only [upd] at F8
    k_steps
    refine Halt.mk ?_
    rename Fr _ _ _ _ => F9
    rename News _ _ _ _ => N9
    rename IsRange _ _ _ _ _ _ _ _ => R9
    refine forRange (ι := OV × OV × OV × OV) (fun i => [(Str.ofString "high", i.1), (Str.ofString "due", i.2.1), (Str.ofString "length", i.2.2.1), (Str.ofString "size", i.2.2.2)]) (fun _ => (I₀, o) :: news) (fun _ _ => True) ⟨_, _, _, _⟩ rfl R9 (small_one (by omega) (by omega) (by omega) (by omega)) (rangeSize_nat _ _)
      F9 N9 (by walk_at "my names") (fun _ h => h) trivial ?_ ?_
    · clear F9 N9 R9 F8 N8
      rintro j' hi ⟨v2, v3, v4, v5⟩ t I₁ o₁ h tk ej hj - hI₁ F8 N8
      have hhi : -1 ≤ hi ∧ hi < 2 ^ bits.toNat := by omega
      clear ej hj
      obtain ⟨hhi1, hhi2⟩ := hhi
      dsimp only [upd] at F8
      k_steps
      refine Halt.mk ?_
      rename Fr _ _ _ _ => F9
      rename News _ _ _ _ => N9
      rename IsRange _ _ _ _ _ _ _ _ => R9
      refine forRange (ι := Value × OV × OV) (fun i => [(Str.ofString "due", some i.1), (Str.ofString "length", i.2.1), (Str.ofString "size", i.2.2)]) (fun _ => (I₁, o₁) :: (I₀, o) :: news) (fun j i => Due lo hi bits j i.1) ⟨.none, _, _⟩ rfl R9 (small_one (by omega) (by omega) (by omega) (by omega)) (rangeSize_nat _ _)
        F9 N9 (by walk_at "my names") (fun _ h => h) (.inr ⟨fun _ h1 h2 => by omega, rfl⟩) ?_ ?_
      · clear F9 N9 R9 F8 N8
        rintro j'' le ⟨w3, w4, w5⟩ t I₂ o₂ h tk ej hj hD hI₂ F8 N8
        have hle : 0 ≤ le ∧ le ≤ bits := by omega
        clear hj
        obtain ⟨hle1, hle2⟩ := hle
        dsimp only [upd] at F8 hD
        k_steps
        · exact TPost.next ⟨.int le _, _, _⟩ (by k_asm) (by k_asm) (fun _ h => .tail _ h) (.head _) hI₂ (by walk_at "my names") (by walk_at "my rest") (due_hit ⟨by assumption, by assumption⟩ ej)
        · refine TPost.next ⟨w3, _, _⟩ (by k_asm) (by k_asm) (fun _ h => .tail _ h) (.head _) hI₂ (by walk_at "my names") (by walk_at "my rest") (due_miss (fun c => ?_) ej hD)
          exact absurd c.2 (by assumption)
        · refine TPost.next ⟨w3, _, _⟩ (by k_asm) (by k_asm) (fun _ h => .tail _ h) (.head _) hI₂ (by walk_at "my names") (by walk_at "my rest") (due_miss (fun c => ?_) ej hD)
          exact absurd c.1 (by assumption)
      · clear F9 N9 R9 F8 N8
        rintro ⟨w3, w4, w5⟩ h tk hD F8 N8
        dsimp only [upd] at F8 hD
        dsimp only
        k_steps
        refine Halt.mk ?_
        intro r tl h' tk' F' N' hlt ⟨e1, hs⟩
        subst e1
        rcases due_span hs hD rfl (by omega) hlo1 hhi2 with ⟨k, t, t', rfl, rfl⟩ | ⟨rfl, rfl⟩
        · clear hs hD hlt
          dsimp only
          k_steps
          · exact absurd rfl (by assumption)
          · exact TPost.next ⟨_, _, _, _⟩ (by k_asm) (by k_asm) (fun _ h => .tail _ h) (.head _) hI₁ (by walk_at "my names") (by walk_at "my rest") trivial
        · clear hs hD hlt
          dsimp only
          k_steps
          exact TPost.next ⟨_, _, _, _⟩ (by k_asm) (by k_asm) (fun _ h => .tail _ h) (.head _) hI₁ (by walk_at "my names") (by walk_at "my rest") trivial
    · clear F9 N9 R9 F8 N8
      rintro ⟨v2, v3, v4, v5⟩ h tk - F8 N8
      dsimp only [upd] at F8
      dsimp only
      k_steps
      exact TPost.next ⟨_, _, _, _, _⟩ (by k_asm) (by k_asm) (fun _ h => .tail _ h) (.head _) hI (by walk_at "my names") (by walk_at "my rest") trivial
  · clear F9 N9 R9
    rintro ⟨u1, u2, u3, u4, u5⟩ h tk - F8 N8
    dsimp only [upd] at F8
    dsimp only
    k_steps
    refine Halt.mk ?_
    intro r tl h' tk' F' N' hlt ⟨e1, hs⟩
    subst e1
    have e2 : r = .none := by
      rcases hs with ⟨k, _, _, e3, _⟩ | ⟨_, e⟩
      · rw [show (bits + 1).toNat = bits.toNat + 1 by omega, p2_succ] at e3
        omega
      · exact e
    subst e2
    clear hs hlt
    dsimp only
    k_steps
    exact ret0 hret (by k_asm) (by k_asm) ⟨rfl, rfl⟩
end F4
section F5
-- D. _law_fewest
local macro_rules | `(tactic| walk_at "exec For Name Call cons nil") => `(tactic| (k_here; (rename Fr _ _ _ _ => lF'); (with_unfolding_all refine' For_turns lF' ?_; k_whole)))
local macro_rules | `(tactic| walk_at "exec For Tuple Name cons nil") => `(tactic| (k_here; (rename Fr _ _ _ _ => lF'); (with_unfolding_all refine' For_turns lF' ?_; k_whole)))
local macro_rules | `(tactic| walk_at "exec For Tuple List cons nil") => `(tactic| (k_here; (rename Fr _ _ _ _ => lF'); (with_unfolding_all refine' For_turns lF' ?_; k_whole)))
def BestI (n : Nat) (H a top : Int) (j : Nat) (b : Int) : Prop := b ≤ top ∧ (∀ k, k < j → Ok H a k → b ≤ 1 + cnt n H (a + 2 ^ k)) ∧ (b = top ∨ ∃ k, k < j ∧ Ok H a k ∧ b = 1 + cnt n H (a + 2 ^ k))
theorem best_hit {n : Nat} {H a top b v : Int} {j : Nat} (h : BestI n H a top j b) (ok : Ok H a j) (e : v = cnt n H (a + 2 ^ j)) : BestI n H a top (j + 1) (if 1 + v < b then 1 + v else b) := by
  obtain ⟨h1, h2, h3⟩ := h
  by_cases c : 1 + v < b
  · rw [if_pos c]
    refine ⟨by omega, fun k hk o => ?_, .inr ⟨j, by omega, ok, by rw [e]⟩⟩
    by_cases ek : k = j
    · rw [ek, e]; omega
    · have := h2 k (by omega) o; omega
  · rw [if_neg c]
    refine ⟨h1, fun k hk o => ?_, ?_⟩
    · by_cases ek : k = j
      · rw [ek, ← e]; omega
      · exact h2 k (by omega) o
    · rcases h3 with h3 | ⟨k, a1, a2, a3⟩
      · exact .inl h3
      · exact .inr ⟨k, by omega, a2, a3⟩
theorem best_miss {n : Nat} {H a top b : Int} {j : Nat} (h : BestI n H a top j b) (ok : ¬ Ok H a j) : BestI n H a top (j + 1) b := by
  obtain ⟨h1, h2, h3⟩ := h
  refine ⟨h1, fun k hk o => ?_, ?_⟩
  · by_cases ek : k = j
    · exact absurd (ek ▸ o) ok
    · exact h2 k (by omega) o
  · rcases h3 with h3 | ⟨k, a1, a2, a3⟩
    · exact .inl h3
    · exact .inr ⟨k, by omega, a2, a3⟩
theorem best_end {n : Nat} {H a top b : Int} {j : Nat} (h : BestI n H a top j b) (hj : j = n + 1) (lt : a < H) (ht : H - a ≤ top) : b = cnt n H a := by
  obtain ⟨h1, h2, h3⟩ := h
  have g1 := gk_le H a n
  have q := h2 (gk H a n) (by omega) (gk_ok lt n)
  rw [← cnt_step lt] at q
  rcases h3 with h3 | ⟨k, a1, a2, a3⟩
  · have := cnt_bound (n := n) a (Int.le_of_lt lt); omega
  · have := cnt_le (n := n) (show k ≤ n by omega) a2; omega
local macro_rules | `(tactic| walk_at "subscriptTail Name BinOp ref int") => `(tactic| (refine Halt.out ?_))
local macro_rules | `(tactic| walk_at "subscriptTail Name Constant ref int") => `(tactic| (refine Halt.out ?_))
local macro_rules | `(tactic| walk_at "setItem ref int") => `(tactic| (refine Halt.out ?_))
local macro_rules | `(tactic| walk_at "setItem ref int int") => `(tactic| (refine Halt.out ?_))
theorem fewest_ok (w : World) (mean mg mb) (news) (low high bits : Int) (t1 t2 t3 : Tok) (h1 : 0 ≤ low) (h2 : low ≤ high) (h3 : 0 ≤ bits) (h4 : bits ≤ 6) (h5 : Flt.Hid (high < 2 ^ bits.toNat)) :
   Ctr w mean mg mb 56 [.int low t1, .int high t2, .int bits t3] news 16 (fun tl r => tl = [] ∧ ∃ t, r = .int (cnt bits.toNat (high + 1) low) t) := by
  unfold Ctr
  k_fill
  intro dp un gd cn cs a ccd cl outer A₀ base' h₀ L m s Q E B F X N T hk hd hu hret
  have hb1 : (2 : Int) ^ bits.toNat ≤ 2 ^ 6 := p2_le (by omega)
  have hb2 := h5.out
  walk_at "my enter"
  k_steps
  refine Halt.mk ?_
  rename Fr _ _ _ _ => F9
  rename News _ _ _ _ => N9
  rename IsRange _ _ _ _ _ _ _ _ => R9
  rename IntsAre _ _ => hi
  rename _ ∧ AllLt _ _ => lD
  obtain ⟨D, hD⟩ := led_head N9
  subst hD
  obtain ⟨vs₀, c, N8, hi₀⟩ := led_ints N9 hi
  clear N9 hi
  have hnD : ∀ p ∈ news, p.1 ≠ D := fun p hp => Nat.ne_of_lt (kst_ltOf lD.2 p hp)
  rw [show (List.replicate (high - low + 2).toNat [(0 : Int)]).flatten = List.replicate (high - low + 2).toNat 0 by simp] at hi₀
  refine forRange (ι := (List Value × List Int) × OV × OV × OV × OV × OV) (fun i => [(Str.ofString "step", i.2.1), (Str.ofString "at", i.2.2.1), (Str.ofString "best", i.2.2.2.1), (Str.ofString "k", i.2.2.2.2.1), (Str.ofString "behind", i.2.2.2.2.2)]) (fun i => (D, listOf i.1.1.toArray c) :: news)
    (fun j i => IntsAre i.1.1 i.1.2 ∧ i.1.2.length = (high - low + 2).toNat ∧ ∀ x, high + 1 - (j : Int) ≤ x → low ≤ x → x ≤ high + 1 → i.1.2.getD (x - low).toNat 0 = cnt bits.toNat (high + 1) x) ⟨(vs₀, List.replicate (high - low + 2).toNat 0), _, _, _, _, _⟩ rfl R9 (small_one (by omega) (by omega) (by omega) (by omega)) (rangeSize_nat _ _)
    F9 N8 (by walk_at "my names") (fun _ h => h) ⟨hi₀, by simp, fun x a1 a2 a3 => ?_⟩ ?_ ?_
  · rw [show x = high + 1 by omega, cnt_end (Int.le_refl _)]
    simp [List.getD_eq_getElem?_getD, List.getElem?_replicate]
    split <;> rfl
  · clear F9 N8 R9 hi₀ 
    rintro j st ⟨⟨vs, ns⟩, u1, u2, u3, u4, u5⟩ t I₀ o h tk ej hj ⟨j1, j2, j3⟩ hI F8 N8
    dsimp only [upd] at F8 N8 j1 j2 j3 hI
    have hst : 0 ≤ st ∧ st ≤ high - low := by omega
    obtain ⟨hst1, hst2⟩ := hst
    k_steps
    refine Halt.mk ?_
    rename Fr _ _ _ _ => F9
    rename News _ _ _ _ => N9
    rename IsRange _ _ _ _ _ _ _ _ => R9
    refine forRange (ι := (Int × Tok) × OV × OV) (fun i => [(Str.ofString "best", some (.int i.1.1 i.1.2)), (Str.ofString "k", i.2.1), (Str.ofString "behind", i.2.2)]) (fun _ => (I₀, o) :: (D, listOf vs.toArray c) :: news)
      (fun j i => BestI bits.toNat (high + 1) (high - st) (high - low + 2) j i.1.1) ⟨(high - low + 2, _), _, _⟩ rfl R9 (small_one (by omega) (by omega) (by omega) (by omega)) (rangeSize_nat _ _)
      F9 N9 (by walk_at "my names") (fun _ h => h) ⟨Int.le_refl _, (fun _ h => by omega), .inl rfl⟩ ?_ ?_
    · clear F9 N9 R9 F8 N8
      rintro j' k ⟨⟨b, tb⟩, v4, v5⟩ t I₁ o₁ h tk ek hk' hB hI₁ F8 N8
      dsimp only [upd] at F8 N8 hB
      have hk1 : 0 ≤ k ∧ k ≤ bits := by omega
      obtain ⟨hk1, hk2⟩ := hk1
      have kp := p2 k.toNat
      have ek2 : k.toNat = j' := by omega
      k_steps
      · refine Halt.mk ?_
        rename News _ _ _ _ => N7
        refine ksa_sub N7 (.tail _ (.tail _ (.head _))) (by assumption) (by omega) (by omega) (by omega) (fun t => ?_)
        have ev := j3 (high - st + 2 ^ k.toNat) (by omega) (by omega) (by omega)
        k_steps
        rw [ev] at *
        refine TPost.next ⟨(_, _), _, _⟩ (by k_asm) (by k_asm) (fun _ h => .tail _ h) (.head _) hI₁ (by walk_at "my names") (by walk_at "my rest") ?_
        refine best_hit hB (v := cnt bits.toNat (high + 1) (high - st + 2 ^ k.toNat)) ⟨?_, ?_⟩ (by rw [ek2])
        · rw [← ek2]; assumption
        · rw [← ek2]; assumption
      · refine TPost.next ⟨(b, tb), _, _⟩ (by k_asm) (by k_asm) (fun _ h => .tail _ h) (.head _) hI₁ (by walk_at "my names") (by walk_at "my rest") (best_miss hB fun ok => ?_)
        have h9 := ok.2
        rw [← ek2] at h9
        exact absurd h9 (by assumption)
      · refine TPost.next ⟨(b, tb), _, _⟩ (by k_asm) (by k_asm) (fun _ h => .tail _ h) (.head _) hI₁ (by walk_at "my names") (by walk_at "my rest") (best_miss hB fun ok => ?_)
        have h9 := ok.1
        rw [← ek2] at h9
        exact absurd h9 (by assumption)
    · clear F9 N9 R9 F8 N8
      rintro ⟨⟨b, tb⟩, v4, v5⟩ h tk hB F8 N8
      dsimp only [upd] at F8 N8 hB
      dsimp only
      have hDI : D ≠ I₀ := hI (D, listOf vs.toArray c) (.head _)
      have eb := best_end hB (by omega) (by omega) (by omega)
      k_steps
      refine Halt.mk ?_
      rename News _ _ _ _ => N7
      refine ksa_set (by k_asm) N7 (.tail (hI _ (.head _)).symm (.head hnD)) (by assumption) (by omega) (by omega) (by omega) fun h' F' N' g1 g2 _ => ?_
      clear N7
      k_steps
      refine TPost.next ⟨(vs.set (high - st - low).toNat (.int b tb), ns.set (high - st - low).toNat b), _, _, _, _, _⟩ (by k_asm) (by k_asm) (fun _ h => .tail _ h) (.head _) (List.forall_mem_cons.mpr ⟨hDI, fun p hp => hI p (.tail _ hp)⟩) (by walk_at "my names") (by walk_at "my rest") ⟨g1, by rw [g2]; exact j2, fun x a1 a2 a3 => ?_⟩
      dsimp only
      by_cases cx : x = high - st
      · rw [cx, eb, List.getD_eq_getElem?_getD, List.getElem?_set_self (by omega)]
        rfl
      · rw [List.getD_eq_getElem?_getD, List.getElem?_set_ne (by omega), ← List.getD_eq_getElem?_getD]
        exact j3 x (by omega) a2 a3
  · clear F9 N8 R9 hi₀
    rintro ⟨⟨vs, ns⟩, u1, u2, u3, u4, u5⟩ h tk ⟨j1, j2, j3⟩ F8 N8
    dsimp only [upd] at F8 N8 j1 j2 j3
    dsimp only
    k_steps
    refine Halt.mk ?_
    rename News _ _ _ _ => N7
    refine ksa_sub N7 (.head _) (by assumption) (by omega) (by omega) (by omega) (fun t => ?_)
    have ev := j3 low (by omega) (by omega) (by omega)
    rw [Int.sub_self] at ev
    k_steps
    rename News _ _ _ _ => N6
    refine ret0 hret (by k_asm) (fun p hp => N6 p (.tail _ hp)) ⟨rfl, t, ?_⟩
    rw [← ev]
end F5
section F6
-- D. _law_halved
local macro_rules | `(tactic| walk_at "exec For Name Call cons nil") => `(tactic| (k_here; (rename Fr _ _ _ _ => lF'); (with_unfolding_all refine' For_turns lF' ?_; k_whole)))
local macro_rules | `(tactic| walk_at "exec For Tuple Name cons nil") => `(tactic| (k_here; (rename Fr _ _ _ _ => lF'); (with_unfolding_all refine' For_turns lF' ?_; k_whole)))
local macro_rules | `(tactic| walk_at "exec For Tuple List cons nil") => `(tactic| (k_here; (rename Fr _ _ _ _ => lF'); (with_unfolding_all refine' For_turns lF' ?_; k_whole)))
local macro_rules | `(tactic| walk_at "call builtin:list.append") => `(tactic| (refine Halt.out ?_))
local macro_rules | `(tactic| walk_at "call builtin:list.pop") => `(tactic| (refine Halt.out ?_))
local macro_rules | `(tactic| walk_at "assign Tuple") => `(tactic| (refine Halt.out ?_))
local macro_rules | `(tactic| walk_at "assign Tuple ref") => `(tactic| (refine Halt.out ?_))
local macro_rules | `(tactic| walk_at "compareOp NotEq ref ref") => `(tactic| (refine Halt.out ?_))
theorem dec_full {lo hi b : Int} {n : Nat} (h : lo ≤ b) (h' : b + 2 ^ n - 1 ≤ hi) : dec lo hi n b = [(b, n)] := by
  cases n with
  | zero => unfold dec; rw [if_pos ⟨h, h'⟩]
  | succ n => unfold dec; rw [if_pos ⟨h, h'⟩]
theorem dec_none {lo hi b : Int} {n : Nat} (h : ¬ (lo ≤ b ∧ b + 2 ^ n - 1 ≤ hi)) (h' : ¬ (lo ≤ b + 2 ^ n - 1 ∧ b ≤ hi)) : dec lo hi n b = [] := by
  cases n with
  | zero => unfold dec; rw [if_neg h]
  | succ n => unfold dec; rw [if_neg h, if_neg h']
theorem dec_more {lo hi b : Int} {n : Nat} (h : ¬ (lo ≤ b ∧ b + 2 ^ n - 1 ≤ hi)) (h' : lo ≤ b + 2 ^ n - 1 ∧ b ≤ hi) : ∃ j, n = j + 1 ∧ dec lo hi n b = dec lo hi j b ++ dec lo hi j (b + 2 ^ j) := by
  cases n with
  | zero => exfalso; simp only [Int.pow_zero] at *; omega
  | succ n => exact ⟨n, rfl, by conv => lhs; unfold dec; rw [if_neg h, if_pos h']⟩
/-- what is still to be halved -/
def todo (lo hi : Int) (ws : List (Int × Nat)) : List (Int × Nat) := ws.reverse.flatMap fun p => dec lo hi p.2 p.1
theorem todo_snoc {lo hi : Int} {ws : List (Int × Nat)} {p : Int × Nat} : todo lo hi (ws ++ [p]) = dec lo hi p.2 p.1 ++ todo lo hi ws := by
  unfold todo
  rw [List.reverse_append]
  rfl
def wgt (ws : List (Int × Nat)) : Nat := (ws.map fun p => 2 ^ (p.2 + 1) - 1).sum
theorem wgt_snoc {ws : List (Int × Nat)} {p : Int × Nat} : wgt (ws ++ [p]) = wgt ws + (2 ^ (p.2 + 1) - 1) := by
  unfold wgt
  rw [List.map_append, List.sum_append]
  simp
/-- the waiting ones lie the deeper the higher they stand -/
def WOk (N : Nat) (ws : List (Int × Nat)) : Prop := ∀ i p, ws[i]? = some p → p.2 + i ≤ N
theorem WOk.left {N : Nat} {ws : List (Int × Nat)} {p : Int × Nat} (h : WOk N (ws ++ [p])) : WOk N ws ∧ p.2 + ws.length ≤ N := by
  refine ⟨fun i q hq => h i q ?_, h ws.length p (by simp)⟩
  rw [List.getElem?_append_left (List.getElem?_eq_some_iff.mp hq).1]
  exact hq
theorem WOk.snoc {N : Nat} {ws : List (Int × Nat)} {p : Int × Nat} (h : WOk N ws) (h' : p.2 + ws.length ≤ N) : WOk N (ws ++ [p]) := by
  intro i q hq
  by_cases c : i < ws.length
  · rw [List.getElem?_append_left c] at hq
    exact h i q hq
  · rw [List.getElem?_append_right (by omega)] at hq
    by_cases c2 : i - ws.length = 0
    · rw [c2] at hq
      have e : p = q := by simpa using hq
      rw [← e]; omega
    · have : (i - ws.length) = (i - ws.length - 1) + 1 := by omega
      rw [this] at hq
      simp at hq
theorem pdOk {bits : Int} (ps : List (Int × Nat)) : ∀ d ∈ ps.map (pd bits), kqdOk 8 d = true := by
  intro d hd
  obtain ⟨p, _, rfl⟩ := List.mem_map.mp hd
  rfl
theorem datSnoc {bits : Int} {news : List (Addr × Obj)} {p : Int × Nat} : ∀ {ws : List (Int × Nat)} {wv : List Value}, DatAll news wv ((ws ++ [p]).map (pd bits)) → ∃ wv' v, wv = wv' ++ [v] ∧ DatAll news wv' (ws.map (pd bits)) ∧ DatIn news v (pd bits p)
  | [], _, h => by
    cases h with
    | cons h r => cases r; exact ⟨[], _, rfl, .nil, h⟩
  | q :: ws, _, h => by
    cases h with
    | cons h r =>
      obtain ⟨wv', v, rfl, a, b⟩ := datSnoc r
      exact ⟨_ :: wv', v, rfl, .cons h a, b⟩
structure HSt where
  fv : List Value
  fc : Nat
  wv : List Value
  wc : Nat
  tl : List (Addr × Obj)
  fs : List (Int × Nat)
  ws : List (Int × Nat)
  u1 : OV
  u2 : OV
  u3 : OV
theorem halved_ok (w : World) (mean mg mb) (news) (low high bits : Int) (t1 t2 t3 : Tok) (h1 : 0 ≤ low) (h2 : low ≤ high) (h3 : 0 ≤ bits) (h4 : bits ≤ 128) (h5 : Flt.Hid (high < 2 ^ bits.toNat)) :
   Ctr w mean mg mb 63 [.int low t1, .int high t2, .int bits t3] news 16 (fun tl r => ∃ l vs n, r = .ref l ∧ (l, listOf vs.toArray n) ∈ tl ∧ DatAll tl vs ((gr bits.toNat (high + 1) low).map (pd bits))) := by
  unfold Ctr
  k_fill
  intro dp un gd cn cs a ccd cl outer A₀ base' h₀ L m s Q E B F X N T hk hd hu hret
  walk_at "my enter"
  k_steps
  refine Halt.mk ?_
  rename Fr _ _ _ _ => F9
  rename News _ _ _ _ => N9
  rename ∀ p ∈ news, _ => l9
  rename _ ∧ _ ∧ AllLt _ _ => lW
  rename _ ∧ AllLt _ _ => lD
  obtain ⟨wl, D, f, od, e1, e2, e3, N8, dD⟩ := led_start N9
  subst e1 e2 e3
  clear N9
  have hN : (2 : Int) ^ bits.toNat ≤ 2 ^ 128 := p2_le (by omega)
  refine whileX (ι := HSt) (fun i => [(Str.ofString "base", i.u1), (Str.ofString "length", i.u2), (Str.ofString "last", i.u3)]) (fun i => (wl, listOf i.wv.toArray i.wc) :: (f, listOf i.fv.toArray i.fc) :: (i.tl ++ news))
    (fun i => DatAll i.tl i.fv (i.fs.map (pd bits)) ∧ DatAll i.tl i.wv (i.ws.map (pd bits)) ∧ (∀ p ∈ i.tl ++ news, p.1 ≠ wl) ∧ (∀ p ∈ i.tl ++ news, p.1 ≠ f) ∧ (∀ q ∈ news, ∀ p ∈ i.tl, q.1 < p.1) ∧ WOk bits.toNat i.ws ∧ i.fs ++ todo low high i.ws = dec low high bits.toNat 0)
    (fun i => i.ws = []) (fun i => wgt i.ws) ⟨[], 0, [.ref D], 0, [(D, od)], [], [(0, bits.toNat)], _, _, _⟩ F9 N8 (by walk_at "my names") ?_ ?_ ?_ ?_ (by walk_at "my passes")
  · intro p hp
    rcases List.mem_cons.mp hp with rfl | hp
    · exact .head _
    · rcases List.mem_cons.mp hp with rfl | hp
      · exact .tail _ (.tail _ (.head _))
      · rcases List.mem_cons.mp hp with rfl | hp
        · exact .tail _ (.head _)
        · exact .tail _ (.tail _ (.tail _ hp))
  · refine ⟨.nil, .one ?_, ?_, ?_, ?_, ?_, ?_⟩
    · have dd := dD []
      unfold pd
      rw [show bits - ((bits.toNat : Nat) : Int) = 0 by omega]
      exact dd
    · exact List.forall_mem_cons.mpr ⟨Nat.ne_of_lt lW.1, fun p hp => Nat.ne_of_lt (kst_ltOf lW.2.2 p hp)⟩
    · exact List.forall_mem_cons.mpr ⟨Nat.ne_of_gt lD.1, fun p hp => Nat.ne_of_lt (l9 p hp)⟩
    · intro q hq
      exact List.forall_mem_cons.mpr ⟨kst_ltOf lD.2 q hq, fun _ h => nomatch h⟩
    · intro i p hp
      cases i with
      | zero => have e : (0, bits.toNat) = p := by simpa using hp
                rw [← e]; exact Nat.le_refl _
      | succ i => simp at hp
    · show [] ++ todo low high [(0, bits.toNat)] = _
      unfold todo
      simp
  · clear F9 N8
    rintro ⟨fv, fc, wv, wc, tl, fs, ws, u1, u2, u3⟩ h tk ⟨i1, i2, i3, i4, i5, i6, i7⟩ F8 N8
    dsimp only [upd] at F8 N8 i1 i2 i3 i4 i5 i6 i7
    have hfs : fv.length ≤ 300 := by
      have q1 := i1.length
      have q2 := congrArg List.length i7
      have q3 := dec_len (lo := low) (hi := high) bits.toNat 0
      simp only [List.length_append, List.length_map] at q1 q2
      omega
    k_steps
    refine Halt.mk ?_
    rename News _ _ _ _ => N7
    rename _ ∧ _ ∧ AllLt _ _ => lE
    refine kqd_ne (kb := 0) (ys := []) (es := []) N7 (.tail _ (.head _)) rfl rfl i2 (fun p hp => .tail _ (.tail _ (.tail _ (List.mem_append.mpr (.inl hp))))) (.head _) rfl rfl (DatAll.nil (news := [])) (fun _ h => nomatch h) (pdOk ws) (fun _ h => nomatch h) (by ktr_units) ?_
    have N6 : News _ _ _ _ := fun p hp => N7 p (.tail _ hp)
    clear N7 lE
    k_steps
    · refine WDone.mk' (by k_asm) (by k_asm) (fun _ h => h) ?_
      rename _ = true => hw
      exact List.map_eq_nil_iff.mp (of_decide_eq_true hw)
    · rename _ = false => hw
      have hne : ws ≠ [] := fun e => of_decide_eq_false hw (by rw [e]; rfl)
      clear hw
      rcases List.eq_nil_or_concat ws with e | ⟨ws', ⟨b, n⟩, e⟩
      · exact absurd e hne
      rw [List.concat_eq_append] at e
      subst e
      clear hne
      obtain ⟨wv', v, rfl, i2', dv⟩ := datSnoc i2
      obtain ⟨a0, na, tb, tl0, rfl, ma⟩ := dat_pair dv
      obtain ⟨i6', i6n⟩ := i6.left
      have hwv : wv'.length + 2 ≤ 400 := by
        have q1 := i2'.length
        simp only [List.length_map] at q1
        omega
      refine Halt.mk ?_
      dsimp only
      refine popU (by k_asm) N6 (.head (List.forall_mem_cons.mpr ⟨Nat.ne_of_lt lW.2.1, i3⟩)) (by rw [PySem.sizeLine_eq]; omega) fun h' F' N' => ?_
      clear N6
      obtain ⟨l, hl⟩ : ∃ l, l = bits - ((n : Nat) : Int) := ⟨_, rfl⟩
      dsimp only at ma i6n
      have ed : pd bits (b, n) = .tuple [.int b, .int l] := by unfold pd; rw [hl]
      rw [← hl] at ma
      rw [ed] at dv
      have el : (bits - l).toNat = n := by omega
      have hl1 : 0 ≤ bits - l := by omega
      have h01 : 1 ≤ bits - l ∨ (2 : Int) ^ (bits - l).toNat = 1 := by
        by_cases c : n = 0
        · right; rw [el, c, Int.pow_zero]
        · left; omega
      k_steps
      refine Halt.mk ?_
      refine unpackU (by k_asm) N' (.tail _ (.tail _ (List.mem_append.mpr (.inl ma)))) rfl rfl rfl fun h' F' N5 => ?_
      clear N'
      have hp : (2 : Int) ^ (bits - l).toNat = 2 ^ n := by rw [el]
      have hw : 1 ≤ 2 ^ n := Nat.one_le_two_pow
      have hfw : f ≠ wl := Nat.ne_of_lt lW.2.1
      k_steps
      · refine Halt.mk ?_
        rename News _ _ _ _ => N7
        obtain ⟨D2, hD2⟩ := led_head N7
        subst hD2
        rename _ ∧ _ ∧ AllLt _ _ => lE
        obtain ⟨od2, N6, dD2⟩ := led_tup N7
        clear N7
        show wpAny _ _ (call (.builtin "list.append") [.ref f, .ref D2]) _ _ _
        refine appU (by k_asm) N6 (.tail (Nat.ne_of_gt lE.2.1) (.tail hfw.symm (.head i4))) (by rw [PySem.sizeLine_eq]; omega) fun h' F' N' => ?_
        clear N6
        k_steps
        refine WPost.next ⟨fv ++ [.ref D2], fc + 1, wv', wc + 1, (D2, od2) :: tl, fs ++ [(b, n)], ws', _, _, _⟩ (by k_asm) (by k_asm) ?_ (by walk_at "my names") (by walk_at "my rest") ⟨?_, i2'.mono fun p hp => .tail _ hp, ?_, ?_, ?_, i6', ?_⟩ ?_
        · intro p hp
          rcases List.mem_cons.mp hp with h | hp
          · exact h ▸ .tail _ (.head _)
          · rcases List.mem_cons.mp hp with h | hp
            · exact h ▸ .tail _ (.tail _ (.head _))
            · rcases List.mem_cons.mp hp with h | hp
              · exact h ▸ .head _
              · exact .tail _ (.tail _ (.tail _ hp))
        · dsimp only
          rw [List.map_append]
          refine (i1.mono fun p hp => .tail _ hp).append (.one ?_)
          rw [ed]
          exact dD2 tl
        · exact List.forall_mem_cons.mpr ⟨Nat.ne_of_gt lE.1, i3⟩
        · exact List.forall_mem_cons.mpr ⟨Nat.ne_of_gt lE.2.1, i4⟩
        · intro q hq
          exact List.forall_mem_cons.mpr ⟨kst_ltOf lE.2.2 q (List.mem_append.mpr (.inr hq)), i5 q hq⟩
        · dsimp only
          rw [← i7, todo_snoc, dec_full (by assumption) (by dsimp only; omega), List.append_assoc]
        · dsimp only
          rw [wgt_snoc, Nat.pow_succ]
          dsimp only
          omega
      · have hc : ¬ (low ≤ b ∧ b + 2 ^ n - 1 ≤ high) := by omega
        have hc' : low ≤ b + 2 ^ n - 1 ∧ b ≤ high := by omega
        obtain ⟨j, rfl, ej⟩ := dec_more hc hc'
        have ej2 : (bits - l - 1).toNat = j := by omega
        refine Halt.mk ?_
        rename News _ _ _ _ => N7
        obtain ⟨D2, hD2⟩ := led_head N7
        subst hD2
        rename _ ∧ _ ∧ AllLt _ _ => lE
        obtain ⟨od2, N6, dD2⟩ := led_tup N7
        clear N7
        show wpAny _ _ (call (.builtin "list.append") [.ref wl, .ref D2]) _ _ _
        refine appU (by k_asm) N6 (.tail (Nat.ne_of_gt lE.1) (.head (List.forall_mem_cons.mpr ⟨hfw, i3⟩))) (by rw [PySem.sizeLine_eq]; omega) fun h' F' N' => ?_
        clear N6
        k_steps
        refine Halt.mk ?_
        rename News _ _ _ _ => N7
        obtain ⟨D3, hD3⟩ := led_head N7
        subst hD3
        rename _ ∧ _ ∧ _ ∧ AllLt _ _ => lG
        obtain ⟨od3, N6, dD3⟩ := led_tup N7
        clear N7
        show wpAny _ _ (call (.builtin "list.append") [.ref wl, .ref D3]) _ _ _
        refine appU (by k_asm) N6 (.tail (Nat.ne_of_gt lG.2.1) (.tail (Nat.ne_of_gt lE.1) (.head (List.forall_mem_cons.mpr ⟨hfw, i3⟩)))) (by rw [PySem.sizeLine_eq]; simp only [List.length_append, List.length_cons, List.length_nil]; omega) fun h' F' N' => ?_
        clear N6
        k_steps
        refine WPost.next ⟨fv, fc, wv' ++ [.ref D2] ++ [.ref D3], wc + 1 + 1 + 1, (D3, od3) :: (D2, od2) :: tl, fs, ws' ++ [(b + 2 ^ j, j)] ++ [(b, j)], _, _, _⟩ (by k_asm) (by k_asm) ?_ (by walk_at "my names") (by walk_at "my rest") ⟨i1.mono fun p hp => .tail _ (.tail _ hp), ?_, ?_, ?_, ?_, ?_, ?_⟩ ?_
        · intro p hp
          rcases List.mem_cons.mp hp with h | hp
          · exact h ▸ .tail _ (.tail _ (.head _))
          · rcases List.mem_cons.mp hp with h | hp
            · exact h ▸ .tail _ (.tail _ (.tail _ (.head _)))
            · rcases List.mem_cons.mp hp with h | hp
              · exact h ▸ .head _
              · rcases List.mem_cons.mp hp with h | hp
                · exact h ▸ .tail _ (.head _)
                · exact .tail _ (.tail _ (.tail _ (.tail _ hp)))
        · dsimp only
          rw [List.map_append, List.map_append]
          have q1 : pd bits (b + 2 ^ j, j) = .tuple [.int (b + 2 ^ (bits - l - 1).toNat), .int (l + 1)] := by
            unfold pd; rw [ej2, show bits - ((j : Nat) : Int) = l + 1 by omega]
          have q2 : pd bits (b, j) = .tuple [.int b, .int (l + 1)] := by
            unfold pd; rw [show bits - ((j : Nat) : Int) = l + 1 by omega]
          refine ((i2'.mono fun p hp => .tail _ (.tail _ hp)).append (.one ?_)).append (.one ?_)
          · rw [q1]; exact (dD2 tl).mono fun p hp => .tail _ hp
          · rw [q2]; exact dD3 _
        · exact List.forall_mem_cons.mpr ⟨Nat.ne_of_gt lG.2.1, List.forall_mem_cons.mpr ⟨Nat.ne_of_gt lE.1, i3⟩⟩
        · exact List.forall_mem_cons.mpr ⟨Nat.ne_of_gt lG.2.2.1, List.forall_mem_cons.mpr ⟨Nat.ne_of_gt lE.2.1, i4⟩⟩
        · intro q hq
          exact List.forall_mem_cons.mpr ⟨kst_ltOf lG.2.2.2 q (List.mem_append.mpr (.inr hq)), List.forall_mem_cons.mpr ⟨kst_ltOf lE.2.2 q (List.mem_append.mpr (.inr hq)), i5 q hq⟩⟩
        · refine WOk.snoc (WOk.snoc i6' ?_) ?_
          · dsimp only; omega
          · simp only [List.length_append, List.length_cons, List.length_nil]; omega
        · dsimp only
          rw [← i7, todo_snoc, todo_snoc, todo_snoc]
          dsimp only
          rw [ej, List.append_assoc]
        · dsimp only
          rw [wgt_snoc, wgt_snoc, wgt_snoc]
          dsimp only
          have := Nat.one_le_two_pow (n := j)
          simp only [Nat.pow_succ] at *
          omega
      · have hc : ¬ (low ≤ b ∧ b + 2 ^ n - 1 ≤ high) := by omega
        have hc' : ¬ (low ≤ b + 2 ^ n - 1 ∧ b ≤ high) := by omega
        refine WPost.next ⟨fv, fc, wv', wc + 1, tl, fs, ws', _, _, _⟩ (by k_asm) (by k_asm) (fun _ h => h) (by walk_at "my names") (by walk_at "my rest") ⟨i1, i2', i3, i4, i5, i6', ?_⟩ ?_
        · dsimp only
          rw [← i7, todo_snoc]
          dsimp only
          rw [dec_none hc hc', List.nil_append]
        · dsimp only
          rw [wgt_snoc, Nat.pow_succ]
          dsimp only
          omega
      · have hc : ¬ (low ≤ b ∧ b + 2 ^ n - 1 ≤ high) := by omega
        have hc' : ¬ (low ≤ b + 2 ^ n - 1 ∧ b ≤ high) := by omega
        refine WPost.next ⟨fv, fc, wv', wc + 1, tl, fs, ws', _, _, _⟩ (by k_asm) (by k_asm) (fun _ h => h) (by walk_at "my names") (by walk_at "my rest") ⟨i1, i2', i3, i4, i5, i6', ?_⟩ ?_
        · dsimp only
          rw [← i7, todo_snoc]
          dsimp only
          rw [dec_none hc hc', List.nil_append]
        · dsimp only
          rw [wgt_snoc, Nat.pow_succ]
          dsimp only
          omega
      · have hc : ¬ (low ≤ b ∧ b + 2 ^ n - 1 ≤ high) := by omega
        have hc' : low ≤ b + 2 ^ n - 1 ∧ b ≤ high := by omega
        obtain ⟨j, rfl, ej⟩ := dec_more hc hc'
        have ej2 : (bits - l - 1).toNat = j := by omega
        refine Halt.mk ?_
        rename News _ _ _ _ => N7
        obtain ⟨D2, hD2⟩ := led_head N7
        subst hD2
        rename _ ∧ _ ∧ AllLt _ _ => lE
        obtain ⟨od2, N6, dD2⟩ := led_tup N7
        clear N7
        show wpAny _ _ (call (.builtin "list.append") [.ref wl, .ref D2]) _ _ _
        refine appU (by k_asm) N6 (.tail (Nat.ne_of_gt lE.1) (.head (List.forall_mem_cons.mpr ⟨hfw, i3⟩))) (by rw [PySem.sizeLine_eq]; omega) fun h' F' N' => ?_
        clear N6
        k_steps
        refine Halt.mk ?_
        rename News _ _ _ _ => N7
        obtain ⟨D3, hD3⟩ := led_head N7
        subst hD3
        rename _ ∧ _ ∧ _ ∧ AllLt _ _ => lG
        obtain ⟨od3, N6, dD3⟩ := led_tup N7
        clear N7
        show wpAny _ _ (call (.builtin "list.append") [.ref wl, .ref D3]) _ _ _
        refine appU (by k_asm) N6 (.tail (Nat.ne_of_gt lG.2.1) (.tail (Nat.ne_of_gt lE.1) (.head (List.forall_mem_cons.mpr ⟨hfw, i3⟩)))) (by rw [PySem.sizeLine_eq]; simp only [List.length_append, List.length_cons, List.length_nil]; omega) fun h' F' N' => ?_
        clear N6
        k_steps
        refine WPost.next ⟨fv, fc, wv' ++ [.ref D2] ++ [.ref D3], wc + 1 + 1 + 1, (D3, od3) :: (D2, od2) :: tl, fs, ws' ++ [(b + 2 ^ j, j)] ++ [(b, j)], _, _, _⟩ (by k_asm) (by k_asm) ?_ (by walk_at "my names") (by walk_at "my rest") ⟨i1.mono fun p hp => .tail _ (.tail _ hp), ?_, ?_, ?_, ?_, ?_, ?_⟩ ?_
        · intro p hp
          rcases List.mem_cons.mp hp with h | hp
          · exact h ▸ .tail _ (.tail _ (.head _))
          · rcases List.mem_cons.mp hp with h | hp
            · exact h ▸ .tail _ (.tail _ (.tail _ (.head _)))
            · rcases List.mem_cons.mp hp with h | hp
              · exact h ▸ .head _
              · rcases List.mem_cons.mp hp with h | hp
                · exact h ▸ .tail _ (.head _)
                · exact .tail _ (.tail _ (.tail _ (.tail _ hp)))
        · dsimp only
          rw [List.map_append, List.map_append]
          have q1 : pd bits (b + 2 ^ j, j) = .tuple [.int (b + 2 ^ (bits - l - 1).toNat), .int (l + 1)] := by
            unfold pd; rw [ej2, show bits - ((j : Nat) : Int) = l + 1 by omega]
          have q2 : pd bits (b, j) = .tuple [.int b, .int (l + 1)] := by
            unfold pd; rw [show bits - ((j : Nat) : Int) = l + 1 by omega]
          refine ((i2'.mono fun p hp => .tail _ (.tail _ hp)).append (.one ?_)).append (.one ?_)
          · rw [q1]; exact (dD2 tl).mono fun p hp => .tail _ hp
          · rw [q2]; exact dD3 _
        · exact List.forall_mem_cons.mpr ⟨Nat.ne_of_gt lG.2.1, List.forall_mem_cons.mpr ⟨Nat.ne_of_gt lE.1, i3⟩⟩
        · exact List.forall_mem_cons.mpr ⟨Nat.ne_of_gt lG.2.2.1, List.forall_mem_cons.mpr ⟨Nat.ne_of_gt lE.2.1, i4⟩⟩
        · intro q hq
          exact List.forall_mem_cons.mpr ⟨kst_ltOf lG.2.2.2 q (List.mem_append.mpr (.inr hq)), List.forall_mem_cons.mpr ⟨kst_ltOf lE.2.2 q (List.mem_append.mpr (.inr hq)), i5 q hq⟩⟩
        · refine WOk.snoc (WOk.snoc i6' ?_) ?_
          · dsimp only; omega
          · simp only [List.length_append, List.length_cons, List.length_nil]; omega
        · dsimp only
          rw [← i7, todo_snoc, todo_snoc, todo_snoc]
          dsimp only
          rw [ej, List.append_assoc]
        · dsimp only
          rw [wgt_snoc, wgt_snoc, wgt_snoc]
          dsimp only
          have := Nat.one_le_two_pow (n := j)
          simp only [Nat.pow_succ] at *
          omega
      · have hc : ¬ (low ≤ b ∧ b + 2 ^ n - 1 ≤ high) := by omega
        have hc' : ¬ (low ≤ b + 2 ^ n - 1 ∧ b ≤ high) := by omega
        refine WPost.next ⟨fv, fc, wv', wc + 1, tl, fs, ws', _, _, _⟩ (by k_asm) (by k_asm) (fun _ h => h) (by walk_at "my names") (by walk_at "my rest") ⟨i1, i2', i3, i4, i5, i6', ?_⟩ ?_
        · dsimp only
          rw [← i7, todo_snoc]
          dsimp only
          rw [dec_none hc hc', List.nil_append]
        · dsimp only
          rw [wgt_snoc, Nat.pow_succ]
          dsimp only
          omega
      · have hc : ¬ (low ≤ b ∧ b + 2 ^ n - 1 ≤ high) := by omega
        have hc' : ¬ (low ≤ b + 2 ^ n - 1 ∧ b ≤ high) := by omega
        refine WPost.next ⟨fv, fc, wv', wc + 1, tl, fs, ws', _, _, _⟩ (by k_asm) (by k_asm) (fun _ h => h) (by walk_at "my names") (by walk_at "my rest") ⟨i1, i2', i3, i4, i5, i6', ?_⟩ ?_
        · dsimp only
          rw [← i7, todo_snoc]
          dsimp only
          rw [dec_none hc hc', List.nil_append]
        · dsimp only
          rw [wgt_snoc, Nat.pow_succ]
          dsimp only
          omega
  · clear F9 N8
    rintro ⟨fv, fc, wv, wc, tl, fs, ws, u1, u2, u3⟩ h tk ⟨i1, i2, i3, i4, i5, i6, i7⟩ i8 F8 N8
    dsimp only [upd] at F8 N8 i1 i2 i3 i4 i5 i6 i7 i8
    dsimp only
    k_steps
    refine hret _ ((f, listOf fv.toArray fc) :: tl) _ _ (by k_asm) ?_ ?_ ⟨f, fv, fc, rfl, .head _, ?_⟩
    · rename News _ _ _ _ => N7
      exact fun p hp => N7 p (.tail _ hp)
    · intro q hq
      exact List.forall_mem_cons.mpr ⟨l9 q hq, i5 q hq⟩
    · rw [i8] at i7
      rw [dec_all h1 h2 h5.out] at i7
      rw [← i7]
      show DatAll _ _ ((fs ++ []).map _)
      rw [List.append_nil]
      exact i1.mono fun p hp => .tail _ hp
end F6
section F7
-- D. _law_small
local macro_rules | `(tactic| walk_at "exec For Name Call cons nil") => `(tactic| (k_here; (rename Fr _ _ _ _ => lF'); (with_unfolding_all refine' For_turns lF' ?_; k_whole)))
local macro_rules | `(tactic| walk_at "exec For Tuple Name cons nil") => `(tactic| (k_here; (rename Fr _ _ _ _ => lF'); (with_unfolding_all refine' For_turns lF' ?_; k_whole)))
local macro_rules | `(tactic| walk_at "exec For Tuple List cons nil") => `(tactic| (k_here; (rename Fr _ _ _ _ => lF'); (with_unfolding_all refine' For_turns lF' ?_; k_whole)))
local macro_rules | `(tactic| walk_at "call ref") => `(tactic| (k_here; (with_reducible show wpAny _ _ (call (Value.ref 42) _) _ _ _); k_dflt (refine' Ctr.use (pfx_ok _ _ _ _ _ _ _ _ _ _ _ ?p1 ?p2 ?p3 ?p4 ?p5) ?k1 ?k2 ?k3 ?k4 ?k5 ?kK ?kd ?ku ?_); k_dflt ((case p1 => first | assumption | omega); (case p2 => first | assumption | omega); (case p3 => first | assumption | omega); (case p4 => first | assumption | omega); (case p5 => first | assumption | omega); (case k1 => k_asm); (case k2 => k_asm); (case k3 => k_asm); (case k4 => k_asm); (case k5 => k_asm); (case kK => first | exact rfl | assumption); (case kd => ktr_room); (case ku => ktr_units); refine Halt.out ?_)))
local macro_rules | `(tactic| walk_at "call ref") => `(tactic| (k_here; (with_reducible show wpAny _ _ (call (Value.ref 70) _) _ _ _); k_dflt (refine' Ctr.use (turned_ok _ _ _ _ _ _ _ _ _ _ _ _ _ ?p1 ?p2 ?p3 ?p4 ?p5 ?p6) ?k1 ?k2 ?k3 ?k4 ?k5 ?kK ?kd ?ku ?_); k_dflt ((case p1 => first | assumption | omega); (case p2 => first | assumption | omega); (case p3 => first | assumption | omega); (case p4 => first | assumption | omega); (case p5 => first | assumption | omega); (case p6 => first | assumption | omega); (case k1 => k_asm); (case k2 => k_asm); (case k3 => k_asm); (case k4 => k_asm); (case k5 => k_asm); (case kK => first | exact rfl | assumption); (case kd => ktr_room); (case ku => ktr_units); refine Halt.out ?_)))
local macro_rules | `(tactic| walk_at "call ref") => `(tactic| (k_here; (with_reducible show wpAny _ _ (call (Value.ref 56) _) _ _ _); k_dflt (refine' Ctr.use (fewest_ok _ _ _ _ _ _ _ _ _ _ _ ?p1 ?p2 ?p3 ?p4 ?p5) ?k1 ?k2 ?k3 ?k4 ?k5 ?kK ?kd ?ku ?_); k_dflt ((case p1 => first | assumption | omega); (case p2 => first | assumption | omega); (case p3 => first | assumption | omega); (case p4 => first | assumption | omega); (case p5 => first | assumption | omega); (case k1 => k_asm); (case k2 => k_asm); (case k3 => k_asm); (case k4 => k_asm); (case k5 => k_asm); (case kK => first | exact rfl | assumption); (case kd => ktr_room); (case ku => ktr_units); refine Halt.out ?_)))
local macro_rules | `(tactic| walk_at "assign Tuple") => `(tactic| (refine Halt.out ?_))
local macro_rules | `(tactic| walk_at "assign Tuple ref") => `(tactic| (refine Halt.out ?_))
local macro_rules | `(tactic| walk_at "binaryOp Add ref ref") => `(tactic| (refine Halt.out ?_))
theorem rangeKs_cat (a : Int) (n m : Nat) : rangeKs a n ++ rangeKs (a + (n : Int)) m = rangeKs a (n + m) := by
  unfold rangeKs
  rw [List.range_add, List.map_append, List.map_map]
  congr 1
  apply List.map_congr_left
  intro i _
  simp only [Function.comp]
  omega
theorem gr_at {n : Nat} {H a : Int} {pre G : List (Int × Nat)} {j : Nat} {p : Int × Nat} (h : pre ++ gr n H a = G) (hj : pre.length = j) (hp : G[j]? = some p) :
    a < H ∧ p.1 = a ∧ p.2 ≤ n ∧ Ok H a p.2 ∧ (pre ++ [p]) ++ gr n H (a + 2 ^ p.2) = G := by
  rw [← h, List.getElem?_append_right (by omega), show j - pre.length = 0 by omega] at hp
  by_cases c : a < H
  · rw [gr_cons c] at hp
    have e : (a, gk H a n) = p := by simpa using hp
    subst e
    refine ⟨c, rfl, gk_le _ _ _, gk_ok c n, ?_⟩
    rw [← h, gr_cons c, List.append_assoc]
    rfl
  · rw [gr_nil (by omega)] at hp
    simp at hp
theorem dat_at {tl : List (Addr × Obj)} {bits : Int} {vs : List Value} {G : List (Int × Nat)} {j : Nat} {v : Value} (h : DatAll tl vs (G.map (pd bits))) (hv : vs[j]? = some v) : ∃ p, G[j]? = some p ∧ DatIn tl v (pd bits p) := by
  have hl := h.length
  have hj := (List.getElem?_eq_some_iff.mp hv).1
  rw [List.length_map] at hl
  obtain ⟨v', e, d⟩ := h.get (k := j) (by rw [List.length_map]; omega)
  rw [hv] at e
  cases e
  refine ⟨G[j]'(by omega), List.getElem?_eq_getElem (by omega), ?_⟩
  simpa using d
structure SSt where
  ln : Addr
  nv : List Value
  nc : Nat
  ns : List Int
  a : Int
  pre : List (Int × Nat)
  u1 : OV
  u2 : OV
theorem small_ok (w : World) (mean mg mb) (news) (low high bits behind : Int) (t1 t2 t3 t4 : Tok) (h1 : 0 ≤ low) (h2 : low ≤ high) (h3 : 0 ≤ bits) (h4 : bits ≤ 6) (h5 : Flt.Hid (high < 2 ^ bits.toNat)) :
   Ctr w mean mg mb 77 [.int low t1, .int high t2, .int bits t3, .int behind t4] news 32 (fun tl r => tl = [] ∧ r = .bool true) := by
  unfold Ctr
  k_fill
  intro dp un gd cn cs a ccd cl outer A₀ base' h₀ L m s Q E B F X N T hk hd hu hret
  have hb1 : (2 : Int) ^ bits.toNat ≤ 2 ^ 6 := p2_le (by omega)
  have hb2 := h5.out
  walk_at "my enter"
  k_steps
  refine Halt.mk ?_
  rintro r tl h' tk' F' N' hlt ⟨l, vs, n, rfl, ml, da⟩
  dsimp only
  k_steps
  refine Halt.mk ?_
  rename Fr _ _ _ _ => F9
  rename News _ _ _ _ => N9
  obtain ⟨ln₀, hl₀⟩ := led_head N9
  subst hl₀
  refine forList (ι := SSt) (fun i => [(Str.ofString "numbers", some (.ref i.ln)), (Str.ofString "base", i.u1), (Str.ofString "length", i.u2)]) (fun i => (i.ln, listOf i.nv.toArray i.nc) :: (tl ++ news))
    (fun j i => IntsAre i.nv i.ns ∧ i.ns = rangeKs low (i.a - low).toNat ∧ low ≤ i.a ∧ i.a ≤ high + 1 ∧ i.pre.length = j ∧ i.pre ++ gr bits.toNat (high + 1) i.a = gr bits.toNat (high + 1) low) ⟨ln₀, [], 0, [], low, [], _, _⟩ rfl
    (fun i => .tail _ (List.mem_append.mpr (.inl ml))) F9 N9 (by walk_at "my names") (fun _ h => h) ⟨.nil, by rw [Int.sub_self]; rfl, Int.le_refl _, by dsimp only; omega, rfl, rfl⟩ ?_ ?_
  · clear F9 N9
    rintro j ⟨ln, nv, nc, ns, at', pre, u1, u2⟩ v I₀ o h tk hv ⟨j1, j2, j3, j4, j5, j6⟩ hI F8 N8
    dsimp only [upd] at F8 N8 j1 j2 j3 j4 j5 j6 hI
    obtain ⟨⟨b, k⟩, hp, dv⟩ := dat_at da hv
    obtain ⟨lt, e1, hk1, ok, j6'⟩ := gr_at j6 j5 hp
    dsimp only at e1 hk1 ok j6'
    subst e1
    obtain ⟨a0, na, tb, tl0, rfl, ma⟩ := dat_pair dv
    obtain ⟨le, hle⟩ : ∃ le, le = bits - ((k : Nat) : Int) := ⟨_, rfl⟩
    dsimp only at ma
    rw [← hle] at ma
    have el : (bits - le).toNat = k := by omega
    have hle1 : 0 ≤ le := by omega
    have hle2 : le ≤ bits := by omega
    have hb0 : 0 ≤ b := by omega
    have hmod : b % 2 ^ (bits - le).toNat = 0 := by rw [el]; exact ok.1
    have hfit : b + 2 ^ (bits - le).toNat ≤ high + 1 := by rw [el]; exact ok.2
    have hHid : Flt.Hid (b + 2 ^ (bits - le).toNat ≤ 2 ^ bits.toNat) := Flt.Hid.mk (by omega)
    have hpp := p2 (bits - le).toNat
    k_steps
    refine Halt.mk ?_
    refine unpackU (by k_asm) N8 (.tail _ (.tail _ (List.mem_append.mpr (.inl ma)))) rfl rfl rfl fun h' F' N5 => ?_
    clear N8
    k_steps
    all_goals try (exfalso; omega)
    refine Halt.mk ?_
    rintro r tl' h' tk' F' N' - ⟨e2, rfl⟩
    subst e2
    clear N5
    have N5 : News _ _ _ _ := fun p hp => N' p hp
    clear N'
    dsimp only
    k_steps
    refine Halt.mk ?_
    rename News _ _ _ _ => N7
    rename IntsAre _ (rangeKs _ _) => hr
    rename IntsAre nv _ => j1
    refine kmk_add_ints (by k_asm) N7 (News.isList N7 (.tail _ (.tail _ (.head _)))) (News.isList N7 (.head _)) j1 hr (fun D3 us h' F' N' hlt3 hus => ?_) (by rw [j2, rangeKs_length, rangeKs_length, PySem.sizeLine_eq]; omega)
    have hD3 : D3 ≠ I₀ := Nat.ne_of_gt (hlt3 (I₀, o) (.tail _ (.head _)))
    clear N7 hlt3 hr
    k_steps
    refine TPost.next ⟨D3, us, 0, ns ++ rangeKs b (b + 2 ^ (bits - le).toNat - b).toNat, b + 2 ^ (bits - le).toNat, pre ++ [(b, k)], _, _⟩ (by k_asm) (by k_asm) ?_ (.tail _ (.tail _ (.head _))) ?_ (by walk_at "my names") (by walk_at "my rest") ⟨hus, ?_, ?_, hfit, ?_, ?_⟩
    · intro p hp
      rcases List.mem_cons.mp hp with h | hp
      · exact h ▸ .head _
      · exact .tail _ (.tail _ (.tail _ (.tail _ hp)))
    · exact List.forall_mem_cons.mpr ⟨hD3, fun p hp => hI p (.tail _ hp)⟩
    · dsimp only
      have e5 : b = low + ((b - low).toNat : Int) := by omega
      have e6 : (b + 2 ^ (bits - le).toNat - low).toNat = (b - low).toNat + (b + 2 ^ (bits - le).toNat - b).toNat := by omega
      rw [e6, ← rangeKs_cat, ← e5, ← j2]
    · dsimp only; omega
    · dsimp only; rw [List.length_append, j5]; rfl
    · dsimp only; rw [el]; exact j6'
  · clear F9 N9
    rintro ⟨ln, nv, nc, ns, at', pre, u1, u2⟩ h tk ⟨j1, j2, j3, j4, j5, j6⟩ F8 N8
    dsimp only [upd] at F8 N8 j1 j2 j3 j4 j5 j6
    have hG := da.length
    rw [List.length_map] at hG
    have hend : at' = high + 1 := by
      by_cases c : at' < high + 1
      · have q := congrArg List.length j6
        rw [List.length_append, gr_cons c, List.length_cons] at q
        omega
      · omega
    subst hend
    clear j3 j4 j5 j6
    dsimp only
    have hcnt : (((gr bits.toNat (high + 1) low).map (pd bits)).length : Int) = cnt bits.toNat (high + 1) low := by
      rw [List.length_map]; rfl
    have hcb := cnt_bound (n := bits.toNat) (H := high + 1) low (by omega)
    k_steps
    · rename News _ _ _ _ => N7
      refine kd_len N7 (.tail _ (.tail _ (List.mem_append.mpr (.inl ml)))) da (by rw [hcnt]; omega) ?_
      rw [hcnt]
      k_steps
      refine Halt.mk ?_
      rintro r tl' h' tk' F' N' - ⟨e2, t, rfl⟩
      subst e2
      dsimp only
      k_steps
      rename News _ _ _ _ => N6
      refine ret0 hret (by k_asm) (fun p hp => N6 p (.tail _ (.tail _ (List.mem_append.mpr (.inr hp))))) ⟨rfl, ?_⟩
      rw [beq_self_eq_true]
    · exact absurd j2 (by assumption)
end F7
section F8
-- D. _law_wide
local macro_rules | `(tactic| walk_at "exec For Name Call cons nil") => `(tactic| (k_here; (rename Fr _ _ _ _ => lF'); (with_unfolding_all refine' For_turns lF' ?_; k_whole)))
local macro_rules | `(tactic| walk_at "exec For Tuple Name cons nil") => `(tactic| (k_here; (rename Fr _ _ _ _ => lF'); (with_unfolding_all refine' For_turns lF' ?_; k_whole)))
local macro_rules | `(tactic| walk_at "exec For Tuple List cons nil") => `(tactic| (k_here; (rename Fr _ _ _ _ => lF'); (with_unfolding_all refine' For_turns lF' ?_; k_whole)))
local macro_rules | `(tactic| walk_at "call ref") => `(tactic| (k_here; (with_reducible show wpAny _ _ (call (Value.ref 42) _) _ _ _); k_dflt (refine' Ctr.use (pfx_ok _ _ _ _ _ _ _ _ _ _ _ ?p1 ?p2 ?p3 ?p4 ?p5) ?k1 ?k2 ?k3 ?k4 ?k5 ?kK ?kd ?ku ?_); k_dflt ((case p1 => first | assumption | omega); (case p2 => first | assumption | omega); (case p3 => first | assumption | omega); (case p4 => first | assumption | omega); (case p5 => first | assumption | omega); (case k1 => k_asm); (case k2 => k_asm); (case k3 => k_asm); (case k4 => k_asm); (case k5 => k_asm); (case kK => first | exact rfl | assumption); (case kd => ktr_room); (case ku => ktr_units); refine Halt.out ?_)))
local macro_rules | `(tactic| walk_at "call ref") => `(tactic| (k_here; (with_reducible show wpAny _ _ (call (Value.ref 70) _) _ _ _); k_dflt (refine' Ctr.use (turned_ok _ _ _ _ _ _ _ _ _ _ _ _ _ ?p1 ?p2 ?p3 ?p4 ?p5 ?p6) ?k1 ?k2 ?k3 ?k4 ?k5 ?kK ?kd ?ku ?_); k_dflt ((case p1 => first | assumption | omega); (case p2 => first | assumption | omega); (case p3 => first | assumption | omega); (case p4 => first | assumption | omega); (case p5 => first | assumption | omega); (case p6 => first | assumption | omega); (case k1 => k_asm); (case k2 => k_asm); (case k3 => k_asm); (case k4 => k_asm); (case k5 => k_asm); (case kK => first | exact rfl | assumption); (case kd => ktr_room); (case ku => ktr_units); refine Halt.out ?_)))
local macro_rules | `(tactic| walk_at "call ref") => `(tactic| (k_here; (with_reducible show wpAny _ _ (call (Value.ref 63) _) _ _ _); k_dflt (refine' Ctr.use (halved_ok _ _ _ _ _ _ _ _ _ _ _ ?p1 ?p2 ?p3 ?p4 ?p5) ?k1 ?k2 ?k3 ?k4 ?k5 ?kK ?kd ?ku ?_); k_dflt ((case p1 => first | assumption | omega); (case p2 => first | assumption | omega); (case p3 => first | assumption | omega); (case p4 => first | assumption | omega); (case p5 => first | assumption | omega); (case k1 => k_asm); (case k2 => k_asm); (case k3 => k_asm); (case k4 => k_asm); (case k5 => k_asm); (case kK => first | exact rfl | assumption); (case kd => ktr_room); (case ku => ktr_units); refine Halt.out ?_)))
local macro_rules | `(tactic| walk_at "assign Tuple") => `(tactic| (refine Halt.out ?_))
local macro_rules | `(tactic| walk_at "assign Tuple ref") => `(tactic| (refine Halt.out ?_))
local macro_rules | `(tactic| walk_at "compareOp NotEq ref ref") => `(tactic| (refine Halt.out ?_))
local macro_rules | `(tactic| walk_at "subscriptTail Name BinOp ref int") => `(tactic| (refine Halt.out ?_))
local macro_rules | `(tactic| walk_at "subscriptTail Name Constant ref int") => `(tactic| (refine Halt.out ?_))
local macro_rules | `(tactic| walk_at "call builtin:len") => `(tactic| (refine Halt.out ?_))
theorem wide_ok (w : World) (mean mg mb) (news) (low high bits behind : Int) (t1 t2 t3 t4 : Tok) (h1 : 0 ≤ low) (h2 : low ≤ high) (h3 : 0 ≤ bits) (h4 : bits ≤ 128) (h5 : Flt.Hid (high < 2 ^ bits.toNat)) :
   Ctr w mean mg mb 84 [.int low t1, .int high t2, .int bits t3, .int behind t4] news 32 (fun tl r => tl = [] ∧ r = .bool true) := by
  unfold Ctr
  k_fill
  intro dp un gd cn cs a ccd cl outer A₀ base' h₀ L m s Q E B F X N T hk hd hu hret
  walk_at "my enter"
  k_steps
  refine Halt.mk ?_
  rintro r tl h' tk' F' N' hlt ⟨l, vs, n, rfl, ml, da⟩
  dsimp only
  k_steps
  refine Halt.mk ?_
  rintro r tl2 h' tk' F' N' hlt2 ⟨l2, vs2, n2, rfl, ml2, da2⟩
  dsimp only
  k_steps
  refine Halt.mk ?_
  rename News _ _ _ _ => N7
  refine kqd_ne N7 (List.mem_append.mpr (.inr (List.mem_append.mpr (.inl ml)))) rfl rfl da (fun p hp => List.mem_append.mpr (.inr (List.mem_append.mpr (.inl hp)))) (List.mem_append.mpr (.inl ml2)) rfl rfl da2 (fun p hp => List.mem_append.mpr (.inl hp)) (pdOk _) (pdOk _) (by ktr_units) ?_
  simp only [eq_self, decide_true, Bool.not_true]
  have hlen : (((gr bits.toNat (high + 1) low).map (pd bits)).length : Int) = cnt bits.toNat (high + 1) low := by
    rw [List.length_map]; rfl
  have hc1 : 1 ≤ cnt bits.toNat (high + 1) low := by
    rw [cnt_step (show low < high + 1 by omega)]; have := cnt_nonneg (n := bits.toNat) (H := high + 1) (a := low + 2 ^ gk (high + 1) low bits.toNat); omega
  have hc2 : cnt bits.toNat (high + 1) low ≤ 258 := by
    have := gr_len (N := bits.toNat) h1 h2 h5.out
    unfold cnt; omega
  obtain ⟨c, hc⟩ : ∃ c, c = cnt bits.toNat (high + 1) low := ⟨_, rfl⟩
  rw [← hc] at hlen hc1 hc2
  have ml' : (l, listOf vs.toArray n) ∈ tl2 ++ (tl ++ news) := List.mem_append.mpr (.inr (List.mem_append.mpr (.inl ml)))
  k_steps
  refine Halt.mk ?_
  rename News _ _ _ _ => N7
  refine kd_item N7 ml' da (by omega) (by omega) (by omega) (fun v1 d1 _ g1 q1 => ?_)
  k_steps
  refine Halt.mk ?_
  refine kd_len N7 ml' da (by omega) ?_
  rw [hlen]
  k_steps
  refine Halt.mk ?_
  have hfd : c.fdiv 2 = c / 2 := Int.fdiv_eq_ediv_of_nonneg c (by decide)
  refine kd_item N7 ml' da (by omega) (by omega) (by omega) (fun v2 d2 _ g2 q2 => ?_)
  k_steps
  refine Halt.mk ?_
  refine kd_len N7 ml' da (by omega) ?_
  rw [hlen]
  k_steps
  refine Halt.mk ?_
  refine kd_item N7 ml' da (by omega) (by omega) (by omega) (fun v3 d3 _ g3 q3 => ?_)
  k_steps
  refine Halt.mk ?_
  have hall : ∀ v ∈ [v1, v2, v3], ∃ p ∈ gr bits.toNat (high + 1) low, DatIn tl v (pd bits p) := by
    have aux : ∀ v d, d ∈ (gr bits.toNat (high + 1) low).map (pd bits) → DatIn tl v d → ∃ p ∈ gr bits.toNat (high + 1) low, DatIn tl v (pd bits p) := by
      intro v d g q
      obtain ⟨p, hp, rfl⟩ := List.mem_map.mp g
      exact ⟨p, hp, q⟩
    exact List.forall_mem_cons.mpr ⟨aux _ _ g1 q1, List.forall_mem_cons.mpr ⟨aux _ _ g2 q2, List.forall_mem_cons.mpr ⟨aux _ _ g3 q3, fun _ h => nomatch h⟩⟩⟩
  rename Fr _ _ _ _ => F9
  rename News _ _ _ _ => N9
  obtain ⟨l3, hl3⟩ := led_head N9
  subst hl3
  refine forList (ι := OV × OV) (fun i => [(Str.ofString "base", i.1), (Str.ofString "length", i.2)]) (fun _ => (l3, listOf [v1, v2, v3].toArray 0) :: (tl2 ++ (tl ++ news)))
    (fun _ _ => True) ⟨_, _⟩ rfl (fun _ => .head _) F9 N9 (by walk_at "my names") (fun _ h => h) trivial ?_ ?_
  · clear F9 N9
    rintro j ⟨u1, u2⟩ v I₀ o h tk hv - hI F8 N8
    dsimp only [upd] at F8 N8 hI
    obtain ⟨⟨b, k⟩, hp, dv⟩ := hall v (List.mem_of_getElem? hv)
    obtain ⟨hb, hk1, ok⟩ := gr_mem low _ hp
    dsimp only at hb hk1 ok
    obtain ⟨a0, na, tb, tl0, rfl, ma⟩ := dat_pair dv
    obtain ⟨le, hle⟩ : ∃ le, le = bits - ((k : Nat) : Int) := ⟨_, rfl⟩
    dsimp only at ma
    rw [← hle] at ma
    have el : (bits - le).toNat = k := by omega
    have hle1 : 0 ≤ le := by omega
    have hle2 : le ≤ bits := by omega
    have hb0 : 0 ≤ b := by omega
    have hmod : b % 2 ^ (bits - le).toNat = 0 := by rw [el]; exact ok.1
    have hfit : b + 2 ^ (bits - le).toNat ≤ high + 1 := by rw [el]; exact ok.2
    have hHid : Flt.Hid (b + 2 ^ (bits - le).toNat ≤ 2 ^ bits.toNat) := Flt.Hid.mk (by have := h5.out; omega)
    k_steps
    refine Halt.mk ?_
    refine unpackU (by k_asm) N8 (.tail _ (.tail _ (List.mem_append.mpr (.inr (List.mem_append.mpr (.inl ma)))))) rfl rfl rfl fun h' F' N5 => ?_
    clear N8
    k_steps
    refine Halt.mk ?_
    rintro r tl' h' tk' F' N' - ⟨e2, rfl⟩
    subst e2
    clear N5
    dsimp only
    k_steps
    exact TPost.next ⟨_, _⟩ (by k_asm) (by k_asm) (fun _ h => .tail _ h) (.head _) hI (by walk_at "my names") (by walk_at "my rest") trivial
  · clear F9 N9
    rintro ⟨u1, u2⟩ h tk - F8 N8
    dsimp only [upd] at F8 N8
    dsimp only
    k_steps
    rename News _ _ _ _ => N6
    exact ret0 hret (by k_asm) (fun p hp => N6 p (.tail _ (List.mem_append.mpr (.inr (List.mem_append.mpr (.inr hp)))))) ⟨rfl, rfl⟩
end F8
theorem mm_b (x : Int) (n : Nat) : 0 ≤ x % 2 ^ n ∧ x % 2 ^ n < 2 ^ n := ⟨Int.emod_nonneg _ (Int.ne_of_gt (p2 n)), Int.emod_lt_of_pos _ (p2 n)⟩
theorem mm1 {x y : Int} {n : Nat} : 0 ≤ if y % 2 ^ n < x % 2 ^ n then y % 2 ^ n else x % 2 ^ n := by
  have := mm_b x n; have := mm_b y n
  split <;> omega
theorem mm2 {x y : Int} {n : Nat} : (if y % 2 ^ n < x % 2 ^ n then y % 2 ^ n else x % 2 ^ n) ≤ (if y % 2 ^ n > x % 2 ^ n then y % 2 ^ n else x % 2 ^ n) := by
  split <;> split <;> omega
theorem mm3 {x y : Int} {n : Nat} : Flt.Hid ((if y % 2 ^ n > x % 2 ^ n then y % 2 ^ n else x % 2 ^ n) < 2 ^ n) := by
  have := mm_b x n; have := mm_b y n
  refine Flt.Hid.mk ?_
  split <;> omega
theorem mul_ok {ns : List Int} {i : Int} (h : PyData.layable0 (.list (ns.map .int)) = true) : IntMulOk (cellAt ns i 0) 210306068529402873165736369884012333109 :=
  mulOk_of_bits (kbm_cell h (by decide)) (PyProof.Rows.intBits_le (k := 128) (by decide +kernel)) (by decide)
theorem mul_cell {prog : Program} {w : World} {A : Around} {E : Value → Shared → Prop} {s : Shared} {ns : List Int} {i : Int} {t u : Tok} {Q : Value → Shared → Prop} (h : PyData.layable0 (.list (ns.map .int)) = true)
    (q : Q (.int (cellAt ns i 0 * 210306068529402873165736369884012333109) s.toks) { s with toks := s.toks + 1 }) : wpAny (model prog w) A (binaryOp .Mult (.int (cellAt ns i 0) t) (.int 210306068529402873165736369884012333109 u)) Q E s :=
  PyProof.Rows.mul_int q (mul_ok h)
theorem fm1 {x : Int} : 1 ≤ x.fmod 3 + 1 := by
  have := fmod_lo x (show (0 : Int) < 3 by decide); omega
theorem fm2 {x : Int} : x.fmod 3 + 1 ≤ 3 := by
  have := fmod_hi x (show (0 : Int) < 3 by decide); omega
theorem menu_b : ∀ n : Nat, 0 ≤ [(32 : Int), 16, 48, 128].getD n 0 ∧ [(32 : Int), 16, 48, 128].getD n 0 ≤ 128
  | 0 => by decide
  | 1 => by decide
  | 2 => by decide
  | 3 => by decide
  | n + 4 => by simp
theorem menu4 {prog : Program} {w : World} {A : Around} {E : Value → Shared → Prop} {s : Shared} {h₀ : Heap} {L l : Addr} {news : List (Addr × Obj)} {value slice : PySem.Expr} {a1 a2 a3 a4 u : Tok} {c : Nat} {x : Int} {Q : Value → Shared → Prop}
    (N : News h₀ L s.heap news) (hm : (l, listOf [Value.int 32 a1, Value.int 16 a2, Value.int 48 a3, Value.int 128 a4].toArray c) ∈ news) (q : ∀ v t, 0 ≤ v → v ≤ 128 → Q (.int v t) s)
    (hs : subscripted slice false (.ref l) (.int (x.fmod 4) u) = operate [.ref l, .int (x.fmod 4) u] (getItem (.ref l) (.int (x.fmod 4) u))) :
    wpAny (model prog w) A (subscriptTail value slice (.ref l) (.int (x.fmod 4) u)) Q E s := by
  have b1 := fmod_lo x (show (0 : Int) < 4 by decide)
  have b2 := fmod_hi x (show (0 : Int) < 4 by decide)
  exact ksa_sub N hm (.cons 32 a1 (.cons 16 a2 (.cons 48 a3 (.cons 128 a4 .nil)))) b1 b2 (by omega) (fun t => q _ t (menu_b _).1 (menu_b _).2) hs
theorem mul3 {prog : Program} {w : World} {A : Around} {E : Value → Shared → Prop} {s : Shared} {k : Int} {t u : Tok} {Q : Value → Shared → Prop} (q : Q (.int (3 * k) s.toks) { s with toks := s.toks + 1 }) : wpAny (model prog w) A (binaryOp .Mult (.int 3 t) (.int k u)) Q E s :=
  PyProof.Rows.mul_int q (IntMulOk.of_left (by decide +kernel))
end Walks
end Mine
-- E. the law
open PySem PySem.W PyProof.Rows PySem.Spec PySem.Calls
local macro_rules | `(tactic| walk_at "ite") => `(tactic| first
  | with_reducible refine ite_tt ?_ | with_reducible refine ite_ff ?_
  | (with_reducible refine split_ine ?_ ?_ <;> intro _) | (with_reducible refine split_ieq ?_ ?_ <;> intro _) | with_reducible refine split_not ?_)
local macro_rules | `(tactic| walk_at "execs cons") => `(tactic| (dsimp only; (try k_gentoks); with_reducible refine wpAny_execs_cons ?_))
local macro_rules | `(tactic| walk_at "execs nil") => `(tactic| (dsimp only; (try k_gentoks); with_reducible refine wpAny_execs_nil ?_))
local macro_rules | `(tactic| walk_at "binaryOp Pow int int") => `(tactic| (with_reducible refine Mine.pow_my (by first | assumption | omega) (by omega) ?_))
local macro_rules | `(tactic| walk_at "binaryOp Mod int int") => `(tactic| (with_reducible refine Mine.mod_my ?_))
local macro_rules | `(tactic| walk_at "binaryOp Mult int int") => `(tactic| (with_reducible refine Mine.mul_cell (by assumption) ?_))
local macro_rules | `(tactic| walk_at "subscriptTail List cons BinOp ref int") => `(tactic| (k_here; k_dflt (refine' Mine.menu4 ?N ?m ?_ ?hs; (case N => k_asm); (case m => k_mem); (case hs => with_unfolding_all rfl)); intro v9 t9 a9 b9))
local macro_rules | `(tactic| walk_at "binaryOp Mult int int") => `(tactic| (with_reducible refine Mine.mul3 ?_))
local macro_rules | `(tactic| walk_at "call ref") => `(tactic| (k_here; (with_reducible show wpAny _ _ (call (Value.ref 77) _) _ _ _); k_dflt (refine' Mine.Ctr.use (Mine.small_ok _ _ _ _ _ _ _ _ _ _ _ _ _ ?p1 ?p2 ?p3 ?p4 ?p5) ?k1 ?k2 ?k3 ?k4 ?k5 ?kK ?kd ?ku ?_); k_dflt ((case p1 => exact Mine.mm1); (case p2 => exact Mine.mm2); (case p3 => omega); (case p4 => omega); (case p5 => exact Mine.mm3); (case k1 => k_asm); (case k2 => k_asm); (case k3 => k_asm); (case k4 => k_asm); (case k5 => k_asm); (case kK => first | exact rfl | assumption); (case kd => ktr_room); (case ku => ktr_units); rintro r9 tl9 h9 tk9 F9 N9 - ⟨e9, e8⟩; subst e9; subst e8; (try simp only [List.nil_append] at N9); (try dsimp only))))
local macro_rules | `(tactic| walk_at "call ref") => `(tactic| (k_here; (with_reducible show wpAny _ _ (call (Value.ref 84) _) _ _ _); k_dflt (refine' Mine.Ctr.use (Mine.wide_ok _ _ _ _ _ _ _ _ _ _ _ _ _ ?p1 ?p2 ?p3 ?p4 ?p5) ?k1 ?k2 ?k3 ?k4 ?k5 ?kK ?kd ?ku ?_); k_dflt ((case p1 => exact Mine.mm1); (case p2 => exact Mine.mm2); (case p3 => omega); (case p4 => omega); (case p5 => exact Mine.mm3); (case k1 => k_asm); (case k2 => k_asm); (case k3 => k_asm); (case k4 => k_asm); (case k5 => k_asm); (case kK => first | exact rfl | assumption); (case kd => ktr_room); (case ku => ktr_units); rintro r9 tl9 h9 tk9 F9 N9 - ⟨e9, e8⟩; subst e9; subst e8; (try simp only [List.nil_append] at N9); (try dsimp only))))
local macro_rules | `(tactic| walk_at "call ref") => `(tactic| (k_here; (with_reducible show wpAny _ _ (call (Value.ref 91) _) _ _ _); k_dflt (refine' Mine.Ctr.use (Mine.lengths_ok _ _ _ _ _ _ _ ?p1 ?p2) ?k1 ?k2 ?k3 ?k4 ?k5 ?kK ?kd ?ku ?_); k_dflt ((case p1 => first | exact Mine.fm1 | omega); (case p2 => first | exact Mine.fm2 | omega); (case k1 => k_asm); (case k2 => k_asm); (case k3 => k_asm); (case k4 => k_asm); (case k5 => k_asm); (case kK => first | exact rfl | assumption); (case kd => ktr_room); (case ku => ktr_units); rintro r9 tl9 h9 tk9 F9 N9 - ⟨e9, e8⟩; subst e9; subst e8; (try simp only [List.nil_append] at N9); (try dsimp only))))
theorem PySem.Challenge.cw_pf0324_01_holds : PySem.Challenge.rw_pf0324_01.Holds := by
  refine Mine.hd ?_
  w_on
  w_strict (k_go0; (all_goals try k_fold); k_steps)
