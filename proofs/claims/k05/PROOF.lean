import PyProof.Rows.All
import Wide.All
import OpenK.AllK
import Wide.FinOn
import HandS.ForMost
import HandS.EndBits
import HandS.WideBits
import HandS.Style
import HandS.IsInst
import HandS.Codes
import HandS.Evl
import HandS.Walk
import HandS.HotCalls
import HandS.ExcIs
import HandS.Strs
import HandS.SetFor
import PySem.Challenge.RW_choosecarry_k05_refused

set_option Elab.async false
set_option linter.all false
set_option maxRecDepth 100000
set_option maxHeartbeats 4000000

/-! the plain laws: figures by a prime, carries, what factorials leave -/
namespace Cc

/-! ### figures -/
def figsF (p : Nat) : Nat → Nat → List Nat
  | 0, _ => []
  | f + 1, n => if n = 0 then [] else n % p :: figsF p f (n / p)
def figs (p n : Nat) : List Nat := figsF p n n
def eF (p : Nat) : Nat → Nat → Nat
  | 0, _ => 0
  | f + 1, n => if n = 0 then 0 else n / p + eF p f (n / p)
/-- how often p goes into n! -/
def ee (p n : Nat) : Nat := eF p n n
def tab (p : Nat) : Nat → Nat
  | 0 => 1
  | i + 1 => tab p i * (i + 1) % p
def sg (p r : Nat) : Nat := if r % 2 = 0 then 1 else p - 1
def cF (p : Nat) : Nat → Nat → Nat
  | 0, _ => 1
  | f + 1, n => if n = 0 then 1 else cF p f (n / p) * (tab p (n % p) * sg p (n / p)) % p
/-- what the core of n! leaves -/
def cc (p n : Nat) : Nat := cF p n n
def kF (p : Nat) : Nat → Nat → Nat → Nat → Nat
  | 0, _, _, _ => 0
  | f + 1, a, b, m => if a = 0 ∧ b = 0 ∧ m = 0 then 0 else (a % p + b % p + m) / p + kF p f (a / p) (b / p) ((a % p + b % p + m) / p)
/-- carries -/
def kk (p a b m : Nat) : Nat := kF p (a + b + m) a b m

theorem div_lt {p n : Nat} (hp : 2 ≤ p) (h : 0 < n) : n / p < n := Nat.div_lt_self h hp
theorem dig_ind {p : Nat} (hp : 2 ≤ p) {P : Nat → Prop} (h0 : P 0) (hs : ∀ n, 0 < n → P (n / p) → P n) : ∀ n, P n := fun n => by
  induction n using Nat.strongRecOn with
  | ind n ih =>
    by_cases h : n = 0
    · subst h; exact h0
    · exact hs n (by omega) (ih _ (div_lt hp (by omega)))

theorem figsF_any {p : Nat} (hp : 2 ≤ p) : ∀ f g n, n ≤ f → n ≤ g → figsF p f n = figsF p g n
  | 0, 0, _, _, _ => rfl
  | 0, g + 1, n, h, _ => by
    have e : n = 0 := by omega
    subst e; rfl
  | f + 1, 0, n, _, h => by
    have e : n = 0 := by omega
    subst e; rfl
  | f + 1, g + 1, n, h1, h2 => by
    by_cases h : n = 0
    · subst h; rfl
    · have hd := div_lt hp (show 0 < n by omega)
      show (if n = 0 then [] else n % p :: figsF p f (n / p)) = (if n = 0 then [] else n % p :: figsF p g (n / p))
      rw [if_neg h, if_neg h, figsF_any hp f g (n / p) (by omega) (by omega)]
theorem figs_zero (p : Nat) : figs p 0 = [] := rfl
theorem figs_pos {p n : Nat} (hp : 2 ≤ p) (h : 0 < n) : figs p n = n % p :: figs p (n / p) := by
  obtain ⟨m, rfl⟩ : ∃ m, n = m + 1 := ⟨n - 1, by omega⟩
  show (if m + 1 = 0 then [] else (m + 1) % p :: figsF p m ((m + 1) / p)) = _
  rw [if_neg (by omega)]
  have hd := div_lt hp h
  rw [show figs p ((m + 1) / p) = figsF p ((m + 1) / p) ((m + 1) / p) from rfl, figsF_any hp m ((m + 1) / p) _ (by omega) (Nat.le_refl _)]
theorem eF_any {p : Nat} (hp : 2 ≤ p) : ∀ f g n, n ≤ f → n ≤ g → eF p f n = eF p g n
  | 0, 0, _, _, _ => rfl
  | 0, g + 1, n, h, _ => by
    have e : n = 0 := by omega
    subst e; rfl
  | f + 1, 0, n, _, h => by
    have e : n = 0 := by omega
    subst e; rfl
  | f + 1, g + 1, n, h1, h2 => by
    by_cases h : n = 0
    · subst h; rfl
    · have hd := div_lt hp (show 0 < n by omega)
      show (if n = 0 then 0 else n / p + eF p f (n / p)) = (if n = 0 then 0 else n / p + eF p g (n / p))
      rw [if_neg h, if_neg h, eF_any hp f g (n / p) (by omega) (by omega)]
theorem ee_zero (p : Nat) : ee p 0 = 0 := rfl
theorem ee_pos {p n : Nat} (hp : 2 ≤ p) (h : 0 < n) : ee p n = n / p + ee p (n / p) := by
  obtain ⟨m, rfl⟩ : ∃ m, n = m + 1 := ⟨n - 1, by omega⟩
  show (if m + 1 = 0 then 0 else (m + 1) / p + eF p m ((m + 1) / p)) = _
  rw [if_neg (by omega)]
  have hd := div_lt hp h
  rw [show ee p ((m + 1) / p) = eF p ((m + 1) / p) ((m + 1) / p) from rfl, eF_any hp m ((m + 1) / p) _ (by omega) (Nat.le_refl _)]
theorem ee_step {p n : Nat} (hp : 2 ≤ p) : ee p n = n / p + ee p (n / p) := by
  by_cases h : n = 0
  · subst h; rw [Nat.zero_div]; rfl
  · exact ee_pos hp (by omega)
theorem cF_any {p : Nat} (hp : 2 ≤ p) : ∀ f g n, n ≤ f → n ≤ g → cF p f n = cF p g n
  | 0, 0, _, _, _ => rfl
  | 0, g + 1, n, h, _ => by
    have e : n = 0 := by omega
    subst e; rfl
  | f + 1, 0, n, _, h => by
    have e : n = 0 := by omega
    subst e; rfl
  | f + 1, g + 1, n, h1, h2 => by
    by_cases h : n = 0
    · subst h; rfl
    · have hd := div_lt hp (show 0 < n by omega)
      show (if n = 0 then 1 else cF p f (n / p) * (tab p (n % p) * sg p (n / p)) % p) = (if n = 0 then 1 else cF p g (n / p) * (tab p (n % p) * sg p (n / p)) % p)
      rw [if_neg h, if_neg h, cF_any hp f g (n / p) (by omega) (by omega)]
theorem cc_zero (p : Nat) : cc p 0 = 1 := rfl
theorem cc_pos {p n : Nat} (hp : 2 ≤ p) (h : 0 < n) : cc p n = cc p (n / p) * (tab p (n % p) * sg p (n / p)) % p := by
  obtain ⟨m, rfl⟩ : ∃ m, n = m + 1 := ⟨n - 1, by omega⟩
  show (if m + 1 = 0 then 1 else cF p m ((m + 1) / p) * (tab p ((m + 1) % p) * sg p ((m + 1) / p)) % p) = _
  rw [if_neg (by omega)]
  have hd := div_lt hp h
  rw [show cc p ((m + 1) / p) = cF p ((m + 1) / p) ((m + 1) / p) from rfl, cF_any hp m ((m + 1) / p) _ (by omega) (Nat.le_refl _)]
theorem cc_step {p n : Nat} (hp : 2 ≤ p) : cc p n = cc p (n / p) * (tab p (n % p) * sg p (n / p)) % p := by
  by_cases h : n = 0
  · subst h
    rw [Nat.zero_div, Nat.zero_mod]
    show 1 = 1 * (1 * 1) % p
    rw [Nat.mod_eq_of_lt (by omega)]
  · exact cc_pos hp (by omega)
theorem add_carry (p a b m : Nat) (hp : 2 ≤ p) : (a + b + m) / p = a / p + b / p + (a % p + b % p + m) / p := by
  have e1 := Nat.div_add_mod a p
  have e2 := Nat.div_add_mod b p
  have e : a + b + m = (a % p + b % p + m) + p * (a / p + b / p) := by rw [Nat.mul_add]; omega
  rw [e, Nat.add_mul_div_left _ _ (by omega : 0 < p)]
  omega
theorem kF_any {p : Nat} (hp : 2 ≤ p) : ∀ f g a b m, a + b + m ≤ f → a + b + m ≤ g → kF p f a b m = kF p g a b m
  | 0, 0, _, _, _, _, _ => rfl
  | 0, g + 1, a, b, m, h, _ => by
    show 0 = if a = 0 ∧ b = 0 ∧ m = 0 then 0 else _
    rw [if_pos ⟨by omega, by omega, by omega⟩]
  | f + 1, 0, a, b, m, _, h => by
    show (if a = 0 ∧ b = 0 ∧ m = 0 then 0 else _) = 0
    rw [if_pos ⟨by omega, by omega, by omega⟩]
  | f + 1, g + 1, a, b, m, h1, h2 => by
    by_cases h : a = 0 ∧ b = 0 ∧ m = 0
    · show (if a = 0 ∧ b = 0 ∧ m = 0 then 0 else _) = (if a = 0 ∧ b = 0 ∧ m = 0 then 0 else _)
      rw [if_pos h, if_pos h]
    · have hd := div_lt hp (show 0 < a + b + m by omega)
      have hc := add_carry p a b m hp
      show (if a = 0 ∧ b = 0 ∧ m = 0 then 0 else _ + kF p f _ _ _) = (if a = 0 ∧ b = 0 ∧ m = 0 then 0 else _ + kF p g _ _ _)
      rw [if_neg h, if_neg h, kF_any hp f g _ _ _ (by omega) (by omega)]
theorem kk_zero (p : Nat) : kk p 0 0 0 = 0 := rfl
theorem kk_step {p a b m : Nat} (hp : 2 ≤ p) (h : ¬ (a = 0 ∧ b = 0 ∧ m = 0)) : kk p a b m = (a % p + b % p + m) / p + kk p (a / p) (b / p) ((a % p + b % p + m) / p) := by
  obtain ⟨s, hs⟩ : ∃ s, a + b + m = s + 1 := ⟨a + b + m - 1, by omega⟩
  have hd := div_lt hp (show 0 < a + b + m by omega)
  have hc := add_carry p a b m hp
  unfold kk
  rw [hs]
  show (if a = 0 ∧ b = 0 ∧ m = 0 then 0 else _ + kF p s _ _ _) = _
  rw [if_neg h, kF_any hp s (a / p + b / p + (a % p + b % p + m) / p) _ _ _ (by omega) (Nat.le_refl _)]
/-! ### carries tell how often -/
theorem kummer {p : Nat} (hp : 2 ≤ p) : ∀ s a b m, a + b + m ≤ s → ee p (a + b + m) = ee p a + ee p b + kk p a b m := by
  intro s
  induction s with
  | zero =>
    intro a b m h
    obtain rfl : a = 0 := by omega
    obtain rfl : b = 0 := by omega
    obtain rfl : m = 0 := by omega
    rfl
  | succ s ih =>
    intro a b m h
    by_cases hz : a = 0 ∧ b = 0 ∧ m = 0
    · obtain ⟨rfl, rfl, rfl⟩ := hz
      rfl
    · have hd := div_lt hp (show 0 < a + b + m by omega)
      have hc := add_carry p a b m hp
      have h1 := ih (a / p) (b / p) ((a % p + b % p + m) / p) (by omega)
      rw [kk_step hp hz, ee_step hp (n := a + b + m), ee_step hp (n := a), ee_step hp (n := b), hc, h1]
      omega
theorem kummer0 {p n k : Nat} (hp : 2 ≤ p) (h : k ≤ n) : ee p n = ee p k + ee p (n - k) + kk p k (n - k) 0 := by
  have := kummer hp _ k (n - k) 0 (Nat.le_refl _)
  rw [show k + (n - k) + 0 = n by omega] at this
  exact this

/-! ### digits -/
def dg (p n i : Nat) : Nat := (figs p n).getD i 0
theorem dg_zero {p n : Nat} (hp : 2 ≤ p) : dg p n 0 = n % p := by
  unfold dg
  by_cases h : n = 0
  · subst h; rfl
  · rw [figs_pos hp (by omega)]; rfl
theorem dg_succ {p n i : Nat} (hp : 2 ≤ p) : dg p n (i + 1) = dg p (n / p) i := by
  unfold dg
  by_cases h : n = 0
  · subst h; rw [Nat.zero_div]; rfl
  · rw [figs_pos hp (by omega)]; rfl
theorem dg_eq {p : Nat} (hp : 2 ≤ p) : ∀ i n, dg p n i = n / p ^ i % p
  | 0, n => by rw [dg_zero hp, Nat.pow_zero, Nat.div_one]
  | i + 1, n => by rw [dg_succ hp, dg_eq hp i, Nat.div_div_eq_div_mul, Nat.pow_succ, Nat.mul_comm]
theorem figs_len {p : Nat} (hp : 2 ≤ p) : ∀ n, n < p ^ (figs p n).length := by
  refine dig_ind hp (by show 0 < 1; omega) fun n h ih => ?_
  rw [figs_pos hp h, List.length_cons, Nat.pow_succ, Nat.mul_comm]
  have e := Nat.div_add_mod n p
  have hm := Nat.mod_lt n (show 0 < p by omega)
  have h2 : p * (n / p) + p ≤ p * p ^ (figs p (n / p)).length := by
    rw [← Nat.mul_succ]
    exact Nat.mul_le_mul_left p ih
  omega
theorem figs_len2 {p : Nat} (hp : 2 ≤ p) : ∀ n, 0 < n → p ^ ((figs p n).length - 1) ≤ n := by
  refine dig_ind hp (by omega) fun n h ih _ => ?_
  rw [figs_pos hp h, List.length_cons]
  by_cases hz : n / p = 0
  · rw [hz, figs_zero]; show 1 ≤ n; omega
  · have hz' : 0 < n / p := Nat.pos_of_ne_zero hz
    have h1 := ih hz'
    have h2 : 0 < (figs p (n / p)).length := by
      rw [figs_pos hp hz', List.length_cons]; omega
    obtain ⟨l, hl⟩ : ∃ l, (figs p (n / p)).length = l + 1 := ⟨_ - 1, (Nat.sub_add_cancel h2).symm⟩
    rw [hl] at h1 ⊢
    show p ^ (l + 1) ≤ n
    have h1' : p ^ l ≤ n / p := h1
    rw [Nat.pow_succ]
    exact Nat.le_trans (Nat.mul_le_mul_right p h1') (Nat.div_mul_le_self n p)
theorem figs_small {p : Nat} (hp : 2 ≤ p) : ∀ n, ∀ d ∈ figs p n, d < p := by
  refine dig_ind hp (fun d h => by cases h) fun n h ih d hd => ?_
  rw [figs_pos hp h] at hd
  rcases List.mem_cons.mp hd with e | e
  · rw [e]; exact Nat.mod_lt _ (by omega)
  · exact ih d e
theorem figs_len_le {p : Nat} (hp : 2 ≤ p) (n k : Nat) (h : n < 2 ^ k) : (figs p n).length ≤ k := by
  by_cases hz : n = 0
  · subst hz; exact Nat.zero_le _
  · have h1 := figs_len2 hp n (by omega)
    have h2 : 2 ^ ((figs p n).length - 1) ≤ p ^ ((figs p n).length - 1) := Nat.pow_le_pow_left hp _
    have h3 : 2 ^ ((figs p n).length - 1) < 2 ^ k := by omega
    have h4 := (Nat.pow_lt_pow_iff_right (show 1 < 2 by omega)).mp h3
    omega

/-! ### no carries: every figure of some is no greater -/
theorem carry_dig {p : Nat} (hp : 2 ≤ p) : ∀ s k j, k + j ≤ s → (kk p k j 0 = 0 ↔ ∀ i, dg p k i ≤ dg p (k + j) i) := by
  intro s
  induction s with
  | zero =>
    intro k j h
    obtain rfl : k = 0 := by omega
    obtain rfl : j = 0 := by omega
    exact ⟨fun _ i => Nat.le_refl _, fun _ => rfl⟩
  | succ s ih =>
    intro k j h
    by_cases hz : k = 0 ∧ j = 0
    · obtain ⟨rfl, rfl⟩ := hz
      exact ⟨fun _ i => Nat.le_refl _, fun _ => rfl⟩
    · have hd := div_lt hp (show 0 < k + j by omega)
      have hc := add_carry p k j 0 hp
      rw [kk_step hp (by omega)]
      have mk := Nat.mod_lt k (show 0 < p by omega)
      have mj := Nat.mod_lt j (show 0 < p by omega)
      by_cases hlt : k % p + j % p < p
      · have z : (k % p + j % p + 0) / p = 0 := Nat.div_eq_of_lt (by omega)
        rw [z] at hc ⊢
        have hq : (k + j) / p = k / p + j / p := by simpa using hc
        have hm : (k + j) % p = k % p + j % p := by rw [Nat.add_mod, Nat.mod_eq_of_lt hlt]
        have h1 := ih (k / p) (j / p) (by rw [← hq]; omega)
        rw [Nat.zero_add, h1, ← hq]
        constructor
        · intro a i
          cases i with
          | zero => rw [dg_zero hp, dg_zero hp, hm]; omega
          | succ i => rw [dg_succ hp, dg_succ hp]; exact a i
        · intro a i
          have := a (i + 1)
          rw [dg_succ hp, dg_succ hp] at this
          exact this
      · have z : (k % p + j % p + 0) / p = 1 := by
          rw [Nat.div_eq_iff (by omega)]; omega
        constructor
        · intro a; omega
        · intro a
          have h0 := a 0
          rw [dg_zero hp, dg_zero hp] at h0
          have hm : (k + j) % p = k % p + j % p - p := by
            rw [Nat.add_mod, Nat.mod_eq_sub_mod (by omega), Nat.mod_eq_of_lt (by omega)]
          omega
theorem carry_free {p n k : Nat} (hp : 2 ≤ p) (h : k ≤ n) : kk p k (n - k) 0 = 0 ↔ ∀ i, dg p k i ≤ dg p n i := by
  have := carry_dig hp _ k (n - k) (Nat.le_refl _)
  rw [show k + (n - k) = n by omega] at this
  exact this
/-! ### the two reckonings of the product -/
theorem figs_sum {p : Nat} (hp : 2 ≤ p) : ∀ n, n = (figs p n).sum + (p - 1) * ee p n := by
  refine dig_ind hp rfl fun n h ih => ?_
  rw [figs_pos hp h, List.sum_cons, ee_step hp]
  obtain ⟨q, rfl⟩ : ∃ q, p = q + 1 := ⟨p - 1, by omega⟩
  have e := Nat.div_add_mod n (q + 1)
  rw [Nat.add_sub_cancel, Nat.mul_add]
  rw [Nat.add_sub_cancel] at ih
  rw [Nat.add_mul, Nat.one_mul] at e
  omega
theorem sg_mul {p : Nat} (hp : 2 ≤ p) (a b : Nat) : sg p a * sg p b % p = sg p (a + b) % p := by
  unfold sg
  obtain ⟨q, rfl⟩ : ∃ q, p = q + 1 := ⟨p - 1, by omega⟩
  have sq : q * q % (q + 1) = 1 % (q + 1) := by
    obtain ⟨r, rfl⟩ : ∃ r, q = r + 1 := ⟨q - 1, by omega⟩
    have : (r + 1) * (r + 1) = 1 + (r + 1 + 1) * r := by
      simp only [Nat.add_mul, Nat.mul_add, Nat.one_mul, Nat.mul_one]; omega
    rw [this, Nat.add_mul_mod_self_left]
  by_cases ha : a % 2 = 0
  · by_cases hb : b % 2 = 0
    · rw [if_pos ha, if_pos hb, if_pos (by omega), Nat.one_mul]
    · rw [if_pos ha, if_neg hb, if_neg (by omega), Nat.one_mul]
  · by_cases hb : b % 2 = 0
    · rw [if_neg ha, if_pos hb, if_neg (by omega), Nat.mul_one]
    · rw [if_neg ha, if_neg hb, if_pos (by omega), Nat.add_sub_cancel]
      exact sq
def fp (p : Nat) (l : List Nat) : Nat := (l.map (tab p)).foldr (· * ·) 1
theorem cc_lt {p : Nat} (hp : 2 ≤ p) (n : Nat) : cc p n < p := by
  rw [cc_step hp]; exact Nat.mod_lt _ (by omega)
theorem cc_fp {p : Nat} (hp : 2 ≤ p) : ∀ n, cc p n = fp p (figs p n) * sg p (ee p n) % p := by
  refine dig_ind hp (by show 1 = 1 * 1 % p; rw [Nat.mod_eq_of_lt (by omega)]) fun n h ih => ?_
  rw [cc_step hp, ih, figs_pos hp h, ee_step hp (n := n)]
  show _ = tab p (n % p) * fp p (figs p (n / p)) * sg p (n / p + ee p (n / p)) % p
  rw [Nat.mul_mod (tab p (n % p) * fp p (figs p (n / p))), ← sg_mul hp, ← Nat.mul_mod, Nat.mod_mul_mod]
  congr 1
  ac_rfl
/-- the program's own: the foldl and its sign -/
theorem foldl_core {p : Nat} (hp : 2 ≤ p) : ∀ (l : List Nat) (c : Nat), c < p → l.foldl (fun c d => c * tab p d % p) c = c * fp p l % p
  | [], c, h => by
    show c = c * 1 % p
    rw [Nat.mul_one, Nat.mod_eq_of_lt h]
  | d :: l, c, h => by
    rw [List.foldl_cons, foldl_core hp l _ (Nat.mod_lt _ (by omega)), Nat.mod_mul_mod]
    show _ = c * (tab p d * fp p l) % p
    rw [Nat.mul_assoc]
theorem sign_core {p x : Nat} (hp : 2 ≤ p) (e : Nat) : (if e % 2 = 0 then x % p else (p - x % p) % p) = x * sg p e % p := by
  unfold sg
  by_cases h : e % 2 = 0
  · rw [if_pos h, if_pos h, Nat.mul_one]
  · rw [if_neg h, if_neg h]
    have hx := Nat.mod_lt x (show 0 < p by omega)
    rw [← Nat.mod_mul_mod x]
    generalize x % p = y at hx ⊢
    by_cases hy : y = 0
    · subst hy; rw [Nat.zero_mul, Nat.sub_zero, Nat.mod_self, Nat.zero_mod]
    · obtain ⟨q, rfl⟩ : ∃ q, p = q + 1 := ⟨p - 1, by omega⟩
      obtain ⟨z, rfl⟩ : ∃ z, y = z + 1 := ⟨y - 1, by omega⟩
      have : (z + 1) * (q + 1 - 1) = (q + 1 - (z + 1)) + (q + 1) * z := by
        rw [Nat.add_sub_cancel, Nat.add_mul, Nat.add_mul, Nat.one_mul, Nat.one_mul, Nat.mul_comm z q]; omega
      rw [this, Nat.add_mul_mod_self_left]

/-- ways: how often, and what the core leaves -/
def wo (p n k : Nat) : Int := (ee p n : Int) - (ee p k : Int) - (ee p (n - k) : Int)
def inv (p a : Nat) : Nat := a ^ (p - 2) % p
def wc (p n k : Nat) : Nat := cc p n * inv p (cc p k) % p * inv p (cc p (n - k)) % p
theorem wo_kk {p n k : Nat} (hp : 2 ≤ p) (h : k ≤ n) : wo p n k = (kk p k (n - k) 0 : Int) := by
  have := kummer0 hp h
  unfold wo
  omega
theorem wc_lt {p : Nat} (hp : 2 ≤ p) (n k : Nat) : wc p n k < p := Nat.mod_lt _ (by omega)
theorem inv_lt {p : Nat} (hp : 2 ≤ p) (a : Nat) : inv p a < p := Nat.mod_lt _ (by omega)
end Cc
namespace Cc
/-! ### primes -/
def isP (p : Nat) : Bool := (List.range 30).all fun i => !(decide (i + 2 < p) && p % (i + 2) == 0)
structure Pr (p : Nat) : Prop where
  lo : 2 ≤ p
  hi : p ≤ 997
  np : isP p = true
def invOk (p : Nat) : Bool := (List.range (p - 1)).all fun i => (i + 1) ^ (p - 2) % p * (i + 1) % p == 1
theorem all_inv : ((List.range 996).all fun i => !isP (i + 2) || invOk (i + 2)) = true := by decide +kernel
def tabL (p : Nat) : Nat → Nat → Nat → Nat
  | 0, _, t => t
  | f + 1, i, t => tabL p f (i + 1) (t * (i + 1) % p)
theorem tabL_eq (p : Nat) : ∀ f i, tabL p f i (tab p i) = tab p (i + f)
  | 0, _ => rfl
  | f + 1, i => by
    show tabL p f (i + 1) (tab p (i + 1)) = _
    rw [tabL_eq p f (i + 1), show i + 1 + f = i + (f + 1) by omega]
theorem all_wil : ((List.range 996).all fun i => !isP (i + 2) || tabL (i + 2) (i + 1) 0 1 == i + 1) = true := by decide +kernel
end Cc
namespace Cc
theorem Pr.mem {p : Nat} (h : Pr p) : p - 2 ∈ List.range 996 := by
  have := h.lo; have := h.hi
  rw [List.mem_range]; omega
theorem Pr.inv {p : Nat} (h : Pr p) {a : Nat} (ha : a % p ≠ 0) : a * Cc.inv p a % p = 1 := by
  have h2 := h.lo
  have h0 := List.all_eq_true.mp all_inv _ h.mem
  have e : p - 2 + 2 = p := by omega
  rw [e, h.np] at h0
  have h1 : invOk p = true := h0
  have hm := Nat.mod_lt a (show 0 < p by omega)
  have h3 := List.all_eq_true.mp h1 (a % p - 1) (by rw [List.mem_range]; omega)
  rw [show a % p - 1 + 1 = a % p by omega] at h3
  have h4 : (a % p) ^ (p - 2) % p * (a % p) % p = 1 := by simpa using h3
  unfold Cc.inv
  rw [Nat.pow_mod, Nat.mul_comm, Nat.mul_mod]
  rw [Nat.mod_mod]
  rw [Nat.mul_mod, Nat.mod_mod, Nat.mod_mod] at h4
  exact h4
theorem Pr.wil {p : Nat} (h : Pr p) : tab p (p - 1) = p - 1 := by
  have h2 := h.lo
  have h0 := List.all_eq_true.mp all_wil _ h.mem
  have e : p - 2 + 2 = p := by omega
  rw [e, h.np] at h0
  have h1 : tabL p (p - 2 + 1) 0 1 = p - 2 + 1 := by simpa using h0
  have h3 := tabL_eq p (p - 2 + 1) 0
  rw [show (0 : Nat) + (p - 2 + 1) = p - 1 by omega, show tab p 0 = 1 from rfl, h1] at h3
  rw [← h3]; omega
theorem Pr.cancel {p : Nat} (h : Pr p) {a x y : Nat} (ha : a % p ≠ 0) (e : a * x % p = a * y % p) : x % p = y % p := by
  have h1 := h.inv ha
  have g : ∀ z, z % p = (Cc.inv p a) * (a * z % p) % p := fun z => by
    rw [Nat.mul_mod_mod, ← Nat.mul_assoc, Nat.mul_comm (Cc.inv p a) a, Nat.mul_mod, h1, Nat.one_mul, Nat.mod_mod]
  rw [g x, g y, e]
theorem Pr.mul_ne {p : Nat} (h : Pr p) {a b : Nat} (ha : a % p ≠ 0) (hb : b % p ≠ 0) : a * b % p ≠ 0 := fun e => by
  have := h.cancel (x := b) (y := 0) ha (by rw [e, Nat.mul_zero, Nat.zero_mod])
  rw [Nat.zero_mod] at this
  exact hb this
theorem mod_1 {p : Nat} (hp : 2 ≤ p) : 1 % p = 1 := Nat.mod_eq_of_lt (by omega)

/-! ### how often p goes into a number, and what the core leaves -/
structure Core (p N v c : Nat) : Prop where
  ex : ∃ m, N = p ^ v * m ∧ m % p = c
  ne : c ≠ 0
theorem Core.pos {p N v c : Nat} (hp : 2 ≤ p) (h : Core p N v c) : 0 < N := by
  obtain ⟨⟨m, rfl, rfl⟩, h2⟩ := h
  have : m ≠ 0 := fun e => by subst e; exact h2 (Nat.zero_mod p)
  exact Nat.mul_pos (Nat.pow_pos (by omega)) (by omega)
theorem Core.mul {p N v c M u d : Nat} (P : Pr p) (h : Core p N v c) (g : Core p M u d) : Core p (N * M) (v + u) (c * d % p) := by
  obtain ⟨⟨m, rfl, rfl⟩, h2⟩ := h
  obtain ⟨⟨n, rfl, rfl⟩, g2⟩ := g
  refine ⟨⟨m * n, ?_, ?_⟩, ?_⟩
  · rw [Nat.pow_add]; ac_rfl
  · rw [Nat.mul_mod]
  · rw [← Nat.mul_mod]; exact P.mul_ne h2 g2
theorem Core.uniq {p N v c u d : Nat} (hp : 2 ≤ p) (h : Core p N v c) (g : Core p N u d) : v = u ∧ c = d := by
  obtain ⟨⟨m, e1, rfl⟩, h2⟩ := h
  obtain ⟨⟨n, e2, rfl⟩, g2⟩ := g
  rw [e1] at e2
  clear e1
  have key : ∀ (v u m n : Nat), p ^ v * m = p ^ u * n → m % p ≠ 0 → v ≤ u → v = u ∧ m = n := fun v u m n e hm hl => by
    obtain ⟨w, rfl⟩ : ∃ w, u = v + w := ⟨u - v, by omega⟩
    rw [Nat.pow_add, Nat.mul_assoc] at e
    have e' := Nat.eq_of_mul_eq_mul_left (Nat.pow_pos (n := v) (show 0 < p by omega)) e
    cases w with
    | zero => exact ⟨rfl, by rw [e', Nat.pow_zero, Nat.one_mul]⟩
    | succ w =>
      exfalso
      apply hm
      rw [e', Nat.pow_succ, Nat.mul_comm (p ^ w) p, Nat.mul_assoc, Nat.mul_mod_right]
  by_cases hl : v ≤ u
  · obtain ⟨a, b⟩ := key v u m n e2 h2 hl
    exact ⟨a, by rw [b]⟩
  · obtain ⟨a, b⟩ := key u v n m e2.symm g2 (by omega)
    exact ⟨a.symm, by rw [b]⟩
/-- the law's own loop: v p N, u p N -/
def coreF (p : Nat) : Nat → Nat → Nat × Nat
  | 0, n => (0, n % p)
  | f + 1, n => if n % p = 0 then ((coreF p f (n / p)).1 + 1, (coreF p f (n / p)).2) else (0, n % p)
def core (p n : Nat) : Nat × Nat := coreF p n n
theorem coreF_is {p : Nat} (hp : 2 ≤ p) : ∀ f n, 0 < n → n ≤ f → Core p n (coreF p f n).1 (coreF p f n).2
  | 0, n, h, h1 => by omega
  | f + 1, n, h, h1 => by
    by_cases hm : n % p = 0
    · have e : coreF p (f + 1) n = ((coreF p f (n / p)).1 + 1, (coreF p f (n / p)).2) := if_pos hm
      have hd := div_lt hp h
      have e2 : n = p * (n / p) := by
        have := Nat.div_add_mod n p
        omega
      have hq : 0 < n / p := by
        refine Nat.pos_of_ne_zero fun z => ?_
        rw [z] at e2; omega
      obtain ⟨⟨m, e3, e4⟩, h4⟩ := coreF_is hp f (n / p) hq (by omega)
      rw [e]
      refine ⟨⟨m, ?_, e4⟩, h4⟩
      show n = p ^ (_ + 1) * m
      rw [Nat.pow_succ, Nat.mul_comm _ p, Nat.mul_assoc, ← e3]
      exact e2
    · have e : coreF p (f + 1) n = (0, n % p) := if_neg hm
      rw [e]
      exact ⟨⟨n, by rw [Nat.pow_zero, Nat.one_mul], rfl⟩, hm⟩
theorem core_is {p n : Nat} (hp : 2 ≤ p) (h : 0 < n) : Core p n (core p n).1 (core p n).2 := coreF_is hp n n h (Nat.le_refl _)
theorem core_step {p n : Nat} (hp : 2 ≤ p) (h : 0 < n) (hm : n % p = 0) : core p n = ((core p (n / p)).1 + 1, (core p (n / p)).2) := by
  have hd := div_lt hp h
  have e2 : n = p * (n / p) := by
    have := Nat.div_add_mod n p
    omega
  have hq : 0 < n / p := by
    refine Nat.pos_of_ne_zero fun z => ?_
    rw [z] at e2; omega
  have a := core_is hp h
  obtain ⟨⟨m, e3, e4⟩, h4⟩ := core_is hp hq
  have b : Core p n ((core p (n / p)).1 + 1) (core p (n / p)).2 := by
    refine ⟨⟨m, ?_, e4⟩, h4⟩
    rw [Nat.pow_succ, Nat.mul_comm _ p, Nat.mul_assoc, ← e3]
    exact e2
  obtain ⟨x, y⟩ := a.uniq hp b
  exact Prod.ext x y
theorem core_done {p n : Nat} (hp : 2 ≤ p) (h : 0 < n) (hm : n % p ≠ 0) : core p n = (0, n % p) := by
  obtain ⟨m, rfl⟩ : ∃ m, n = m + 1 := ⟨n - 1, by omega⟩
  exact if_neg hm

/-! ### factorials -/
def fac : Nat → Nat
  | 0 => 1
  | n + 1 => fac n * (n + 1)
theorem tab_fac (p : Nat) : ∀ i, tab p i % p = fac i % p
  | 0 => rfl
  | i + 1 => by
    show tab p i * (i + 1) % p % p = fac i * (i + 1) % p
    rw [Nat.mod_mod, Nat.mul_mod, tab_fac p i, ← Nat.mul_mod]
/-- one more: how often and the core of n + 1 come to those of n! -/
theorem prod_step {p : Nat} (P : Pr p) : ∀ n, ee p (n + 1) = ee p n + (core p (n + 1)).1 ∧ cc p (n + 1) = cc p n * (core p (n + 1)).2 % p := by
  have hp := P.lo
  intro n
  induction n using Nat.strongRecOn with
  | ind n ih =>
    by_cases hm : (n + 1) % p = 0
    · -- n + 1 = p * r
      have e := Nat.div_add_mod (n + 1) p
      rw [hm] at e
      obtain ⟨r, hr⟩ : ∃ r, (n + 1) / p = r + 1 := ⟨(n + 1) / p - 1, (Nat.sub_add_cancel (Nat.pos_of_ne_zero fun z => by rw [z] at e; omega)).symm⟩
      have hn : n = p * r + (p - 1) := by
        rw [hr, Nat.mul_add] at e; omega
      have hq : n / p = r := by
        rw [hn, Nat.mul_add_div (by omega), Nat.div_eq_of_lt (by omega)]; omega
      have hr2 : n % p = p - 1 := by
        rw [hn, Nat.mul_add_mod, Nat.mod_eq_of_lt (by omega)]
      have hlt : r < n := by
        rw [hn]
        have := Nat.mul_le_mul_right r hp
        omega
      obtain ⟨i1, i2⟩ := ih r hlt
      rw [core_step hp (by omega) hm, hr]
      constructor
      · rw [ee_step hp (n := n + 1), hr, ee_step hp (n := n), hq, i1]
        show r + 1 + _ = r + ee p r + (_ + 1)
        omega
      · rw [cc_step hp (n := n + 1), hr, cc_step hp (n := n), hq, hm, hr2, i2, P.wil]
        show cc p r * _ % p * (1 * sg p (r + 1)) % p = cc p r * ((p - 1) * sg p r) % p * _ % p
        have s1 : sg p (r + 1) % p = (p - 1) * sg p r % p := by
          rw [← sg_mul hp r 1, Nat.mul_comm]
          rfl
        rw [Nat.mod_mul_mod, Nat.mod_mul_mod, Nat.one_mul]
        rw [Nat.mul_mod, s1, ← Nat.mul_mod]
        congr 1
        ac_rfl
    · have e := Nat.div_add_mod (n + 1) p
      have hl := Nat.mod_lt (n + 1) (show 0 < p by omega)
      have hn : n = p * ((n + 1) / p) + ((n + 1) % p - 1) := by omega
      have hq : n / p = (n + 1) / p := by
        have : n / p = (p * ((n + 1) / p) + ((n + 1) % p - 1)) / p := by rw [← hn]
        rw [this, Nat.mul_add_div (by omega), Nat.div_eq_of_lt (Nat.lt_of_le_of_lt (Nat.sub_le _ _) hl), Nat.add_zero]
      have hr : n % p = (n + 1) % p - 1 := by
        have : n % p = (p * ((n + 1) / p) + ((n + 1) % p - 1)) % p := by rw [← hn]
        rw [this, Nat.mul_add_mod]
        exact Nat.mod_eq_of_lt (Nat.lt_of_le_of_lt (Nat.sub_le _ _) hl)
      rw [core_done hp (by omega) hm]
      constructor
      · rw [ee_step hp (n := n + 1), ee_step hp (n := n), hq]; rfl
      · rw [cc_step hp (n := n + 1), cc_step hp (n := n), hq, hr]
        obtain ⟨d, hd⟩ : ∃ d, (n + 1) % p = d + 1 := ⟨(n + 1) % p - 1, by omega⟩
        rw [hd, Nat.add_sub_cancel]
        show cc p _ * (tab p d * (d + 1) % p * _) % p = _ * (d + 1) % p
        rw [Nat.mod_mul_mod, Nat.mul_left_comm (cc p ((n + 1) / p)), Nat.mod_mul_mod]
        congr 1
        ac_rfl
theorem fac_core {p : Nat} (P : Pr p) : ∀ n, Core p (fac n) (ee p n) (cc p n)
  | 0 => ⟨⟨1, rfl, mod_1 P.lo⟩, by show 1 ≠ 0; omega⟩
  | n + 1 => by
    obtain ⟨h1, h2⟩ := prod_step P n
    rw [h1, h2]
    exact (fac_core P n).mul P (core_is P.lo (by omega))
theorem cc_ne0 {p : Nat} (P : Pr p) (n : Nat) : cc p n ≠ 0 := (fac_core P n).ne
theorem cc_mod {p : Nat} (P : Pr p) (n : Nat) : cc p n % p = cc p n := Nat.mod_eq_of_lt (cc_lt P.lo n)
theorem cc_nem {p : Nat} (P : Pr p) (n : Nat) : cc p n % p ≠ 0 := by rw [cc_mod P]; exact cc_ne0 P n
theorem wc_mul {p : Nat} (P : Pr p) (n k : Nat) : wc p n k * (cc p k * cc p (n - k)) % p = cc p n := by
  unfold wc
  have h1 := P.inv (cc_nem P k)
  have h2 := P.inv (cc_nem P (n - k))
  rw [Nat.mod_mul_mod]
  have e : cc p n * Cc.inv p (cc p k) % p * Cc.inv p (cc p (n - k)) * (cc p k * cc p (n - k)) % p = cc p n * (cc p k * Cc.inv p (cc p k)) * (cc p (n - k) * Cc.inv p (cc p (n - k))) % p := by
    rw [Nat.mul_assoc (cc p n * Cc.inv p (cc p k) % p), Nat.mod_mul_mod]
    congr 1
    ac_rfl
  rw [e, Nat.mul_mod, h2, Nat.mul_mod (cc p n), h1, Nat.mul_one, Nat.mul_one, Nat.mod_mod, Nat.mod_mod, cc_mod P]
theorem wc_ne {p : Nat} (P : Pr p) (n k : Nat) : wc p n k ≠ 0 := fun e => by
  have := wc_mul P n k
  rw [e, Nat.zero_mul, Nat.zero_mod] at this
  exact cc_ne0 P n this.symm
/-! ### the ways themselves -/
def bin : Nat → Nat → Nat
  | _, 0 => 1
  | 0, _ + 1 => 0
  | n + 1, k + 1 => bin n k + bin n (k + 1)
theorem bin_over : ∀ n k, n < k → bin n k = 0
  | _, 0, h => by omega
  | 0, _ + 1, _ => rfl
  | n + 1, k + 1, h => by
    show bin n k + bin n (k + 1) = 0
    rw [bin_over n k (by omega), bin_over n (k + 1) (by omega)]
theorem bin_self : ∀ n, bin n n = 1
  | 0 => rfl
  | n + 1 => by
    show bin n n + bin n (n + 1) = 1
    rw [bin_self n, bin_over n (n + 1) (by omega)]
theorem bin_fac : ∀ n k, k ≤ n → bin n k * (fac k * fac (n - k)) = fac n
  | n, 0, _ => by
    cases n <;> simp [bin, fac]
  | 0, _ + 1, h => by omega
  | n + 1, k + 1, h => by
    show (bin n k + bin n (k + 1)) * (fac (k + 1) * fac (n + 1 - (k + 1))) = fac n * (n + 1)
    rw [show n + 1 - (k + 1) = n - k by omega]
    have h1 := bin_fac n k (by omega)
    rw [Nat.add_mul]
    have a : bin n k * (fac (k + 1) * fac (n - k)) = fac n * (k + 1) := by
      rw [← h1]
      show bin n k * (fac k * (k + 1) * fac (n - k)) = _
      ac_rfl
    rw [a]
    by_cases hk : k = n
    · subst hk
      rw [bin_over k (k + 1) (by omega), Nat.zero_mul, Nat.add_zero]
    · have h2 := bin_fac n (k + 1) (by omega)
      have b : bin n (k + 1) * (fac (k + 1) * fac (n - k)) = fac n * (n - k) := by
        rw [← h2, show n - k = n - (k + 1) + 1 by omega]
        show bin n (k + 1) * (fac (k + 1) * (fac (n - (k + 1)) * (n - (k + 1) + 1))) = _
        ac_rfl
      rw [b, ← Nat.mul_add]
      congr 1
      omega
theorem fac_pos : ∀ n, 0 < fac n
  | 0 => Nat.one_pos
  | n + 1 => Nat.mul_pos (fac_pos n) (by omega)
theorem bin_pos {n k : Nat} (h : k ≤ n) : 0 < bin n k := by
  refine Nat.pos_of_ne_zero fun e => ?_
  have := bin_fac n k h
  rw [e, Nat.zero_mul] at this
  have := fac_pos n
  omega
theorem bin_core {p n k : Nat} (P : Pr p) (h : k ≤ n) : ((core p (bin n k)).1 : Int) = wo p n k ∧ (core p (bin n k)).2 = wc p n k := by
  have c := core_is P.lo (bin_pos h)
  have m := (c.mul P ((fac_core P k).mul P (fac_core P (n - k))))
  rw [bin_fac n k h] at m
  obtain ⟨e1, e2⟩ := m.uniq P.lo (fac_core P n)
  constructor
  · unfold wo; omega
  · have hl : (core p (bin n k)).2 < p := by
      obtain ⟨⟨m, _, e⟩, _⟩ := c
      rw [← e]
      exact Nat.mod_lt _ (by have := P.lo; omega)
    have hw := wc_mul P n k
    rw [Nat.mul_mod_mod] at e2
    have z := P.cancel (a := cc p k * cc p (n - k)) (x := (core p (bin n k)).2) (y := wc p n k) (P.mul_ne (cc_nem P k) (cc_nem P (n - k))) (by rw [Nat.mul_comm, e2, Nat.mul_comm _ (wc p n k), hw])
    rwa [Nat.mod_eq_of_lt hl, Nat.mod_eq_of_lt (wc_lt P.lo n k)] at z
theorem bin_free {p n k : Nat} (P : Pr p) (h : k ≤ n) : (0 < bin n k % p ↔ wo p n k = 0) ∧ (wo p n k = 0 → wc p n k = bin n k % p) := by
  obtain ⟨e1, e2⟩ := bin_core P h
  have hb := bin_pos h
  by_cases hm : bin n k % p = 0
  · rw [core_step P.lo hb hm] at e1
    have e1' : (((core p (bin n k / p)).1 + 1 : Nat) : Int) = wo p n k := e1
    refine ⟨⟨fun z => by omega, fun z => by omega⟩, fun z => by omega⟩
  · rw [core_done P.lo hb hm] at e1 e2
    have e1' : ((0 : Nat) : Int) = wo p n k := e1
    exact ⟨⟨fun _ => e1'.symm, fun _ => by omega⟩, fun _ => e2.symm⟩
end Cc

namespace Cc
/-! ### the table as a list; a power by squares -/
def tabs (p n : Nat) : List Nat := (List.range n).map (tab p)
theorem tabs_succ (p n : Nat) : tabs p (n + 1) = tabs p n ++ [tab p n] := by
  unfold tabs
  rw [List.range_succ, List.map_append]; rfl
theorem tabs_get {p n i : Nat} (h : i < n) : (tabs p n)[i]? = some (tab p i) := by
  unfold tabs
  rw [List.getElem?_map, List.getElem?_range h]; rfl
theorem tabs_len (p n : Nat) : (tabs p n).length = n := by
  unfold tabs
  rw [List.length_map, List.length_range]
theorem tab_lt {p : Nat} (hp : 2 ≤ p) : ∀ i, tab p i < p
  | 0 => by show 1 < p; omega
  | i + 1 => Nat.mod_lt _ (by omega)
theorem pow_step (p f b c : Nat) (h : 0 < c) : (if c % 2 = 1 then f * b % p else f) * (b * b % p) ^ (c / 2) % p = f * b ^ c % p := by
  have e := Nat.div_add_mod c 2
  have e2 : (b * b % p) ^ (c / 2) % p = b ^ (2 * (c / 2)) % p := by
    rw [← Nat.pow_mod, ← Nat.pow_two, ← Nat.pow_mul]
  rw [Nat.mul_mod, e2, ← Nat.mul_mod]
  by_cases ho : c % 2 = 1
  · rw [if_pos ho, Nat.mod_mul_mod, Nat.mul_assoc]
    congr 2
    rw [show c = 2 * (c / 2) + 1 by omega]
    rw [show (2 * (c / 2) + 1) / 2 = c / 2 by omega, Nat.pow_succ, Nat.mul_comm]
  · rw [if_neg ho]
    congr 3
    omega
/-- what the loop of product_of has so far -/
theorem wo_zero (p n k : Nat) : wo p n k = (ee p n : Int) - (ee p k : Int) - (ee p (n - k) : Int) := rfl
theorem often_div {p : Nat} (hp : 2 ≤ p) (n : Nat) : ((n : Int) - ((figs p n).sum : Int)) / ((p : Int) - 1) = (ee p n : Int) := by
  have h := figs_sum hp n
  have e : (n : Int) - ((figs p n).sum : Int) = ((p : Int) - 1) * (ee p n : Int) := by
    have h2 : (n : Int) = (((figs p n).sum + (p - 1) * ee p n : Nat) : Int) := congrArg _ h
    rw [Int.natCast_add, Int.natCast_mul, Int.natCast_sub (by omega)] at h2
    rw [h2]
    show _ + ((p : Int) - 1) * _ - _ = _
    omega
  rw [e, Int.mul_ediv_cancel_left _ (by omega)]
end Cc

namespace Cc
/-! ### parts of a number; the first prime from a number on -/
def anyP (f n : Nat) : Bool := (List.range n).any fun i => decide (i + 2 < f) && f % (i + 2) == 0
theorem anyP_succ (f n : Nat) : anyP f (n + 1) = (anyP f n || (decide (n + 2 < f) && f % (n + 2) == 0)) := by
  unfold anyP
  rw [List.range_succ, List.any_append]
  simp
theorem anyP_isP (f : Nat) : anyP f 30 = !isP f := by
  unfold anyP isP
  generalize List.range 30 = l
  induction l with
  | nil => rfl
  | cons a l ih => rw [List.any_cons, List.all_cons, ih]; simp
theorem p991 : isP 991 = true := by decide +kernel
/-- what figures tell -/
def wv (p : Nat) (l : List Nat) : Nat := l.foldr (fun d a => a * p + d) 0
theorem wv_rev (p : Nat) (l : List Nat) : l.reverse.foldl (fun a d => a * p + d) 0 = wv p l := by
  rw [List.foldl_reverse]; rfl
theorem fold_lt {p : Nat} (hp : 2 ≤ p) : ∀ (l : List Nat) (c m : Nat), (∀ d ∈ l, d < p) → c < p ^ m → l.foldl (fun a d => a * p + d) c < p ^ (m + l.length)
  | [], c, m, _, h => h
  | d :: l, c, m, hd, h => by
    rw [List.foldl_cons, List.length_cons, show m + (l.length + 1) = (m + 1) + l.length by omega]
    refine fold_lt hp l _ (m + 1) (fun x hx => hd x (List.mem_cons_of_mem _ hx)) ?_
    have h1 := hd d List.mem_cons_self
    have h2 : (c + 1) * p ≤ p ^ m * p := Nat.mul_le_mul_right p h
    rw [Nat.pow_succ]
    rw [Nat.add_mul, Nat.one_mul] at h2
    omega
theorem wv_figs {p : Nat} (hp : 2 ≤ p) : ∀ n, wv p (figs p n) = n := by
  refine dig_ind hp rfl fun n h ih => ?_
  rw [figs_pos hp h]
  show wv p (figs p (n / p)) * p + n % p = n
  rw [ih, Nat.mul_comm]
  exact Nat.div_add_mod n p
/-- figure by figure no greater: the number is no greater -/
theorem wv_le (p : Nat) : ∀ (l m : List Nat), l.length = m.length → (∀ i, l.getD i 0 ≤ m.getD i 0) → wv p l ≤ wv p m
  | [], [], _, _ => Nat.le_refl _
  | [], _ :: _, h, _ => by simp at h
  | _ :: _, [], h, _ => by simp at h
  | a :: l, b :: m, h, hi => by
    show wv p l * p + a ≤ wv p m * p + b
    have h0 : a ≤ b := hi 0
    have h1 := wv_le p l m (by simpa using h) fun i => hi (i + 1)
    have h2 := Nat.mul_le_mul_right p h1
    omega
theorem wv_less {p : Nat} (hp : 2 ≤ p) {n : Nat} {l : List Nat} (h : l.length = (figs p n).length) (hi : ∀ i, l.getD i 0 ≤ (figs p n).getD i 0) : wv p l ≤ n := by
  have := wv_le p l (figs p n) h hi
  rwa [wv_figs hp] at this
end Cc

namespace Cc
/-! ### the rows by sums -/
def rowL (n : Nat) : List Nat := (List.range (n + 1)).map (bin n)
def midL (t m : Nat) : List Nat := (List.range m).map fun i => bin (t + 1) (i + 1)
theorem midL_succ (t m : Nat) : midL t (m + 1) = midL t m ++ [bin (t + 1) (m + 1)] := by
  unfold midL
  rw [List.range_succ, List.map_append]; rfl
theorem midL_len (t m : Nat) : (midL t m).length = m := by
  unfold midL
  rw [List.length_map, List.length_range]
theorem rowL_len (n : Nat) : (rowL n).length = n + 1 := by
  unfold rowL
  rw [List.length_map, List.length_range]
theorem rowL_get {n i : Nat} (h : i ≤ n) : (rowL n)[i]? = some (bin n i) := by
  unfold rowL
  rw [List.getElem?_map, List.getElem?_range (by omega)]; rfl
theorem rowL_succ (t : Nat) : [1] ++ midL t t ++ [1] = rowL (t + 1) := by
  unfold rowL midL
  rw [List.range_succ, List.range_succ_eq_map, List.map_append, List.map_cons, List.map_map, List.map_singleton, bin_self]
  rfl
end Cc

namespace Cc
/-! ### the ways of some and of the rest; of one fewer each -/
theorem wo_symm {p n k : Nat} (h : k ≤ n) : wo p n (n - k) = wo p n k := by
  unfold wo
  rw [Nat.sub_sub_self h]
  omega
theorem wc_symm {p n k : Nat} (h : k ≤ n) : wc p n (n - k) = wc p n k := by
  unfold wc
  rw [Nat.sub_sub_self h, Nat.mod_mul_mod, Nat.mod_mul_mod]
  congr 1
  ac_rfl
theorem wo_fewer {p n k : Nat} (P : Pr p) (h0 : 0 < k) (h : k ≤ n) : wo p n k + ((core p k).1 : Int) = wo p (n - 1) (k - 1) + ((core p n).1 : Int) := by
  obtain ⟨a, _⟩ := prod_step P (n - 1)
  obtain ⟨b, _⟩ := prod_step P (k - 1)
  rw [Nat.sub_add_cancel (by omega)] at a b
  unfold wo
  rw [show n - 1 - (k - 1) = n - k by omega]
  omega
theorem wc_fewer {p n k : Nat} (P : Pr p) (h0 : 0 < k) (h : k ≤ n) : wc p n k * (core p k).2 % p = wc p (n - 1) (k - 1) * (core p n).2 % p := by
  obtain ⟨_, a⟩ := prod_step P (n - 1)
  obtain ⟨_, b⟩ := prod_step P (k - 1)
  rw [Nat.sub_add_cancel (by omega)] at a b
  have h1 := wc_mul P n k
  have h2 := wc_mul P (n - 1) (k - 1)
  rw [show n - 1 - (k - 1) = n - k by omega] at h2
  refine P.cancel (a := cc p (k - 1) * cc p (n - k)) (P.mul_ne (cc_nem P _) (cc_nem P _)) ?_
  have e1 : cc p (k - 1) * cc p (n - k) * (wc p n k * (core p k).2) % p = cc p n := by
    rw [← h1, b]
    rw [show wc p n k * (cc p (k - 1) * (core p k).2 % p * cc p (n - k)) = cc p (k - 1) * (core p k).2 % p * (wc p n k * cc p (n - k)) by ac_rfl, Nat.mod_mul_mod]
    congr 1
    ac_rfl
  have e2 : cc p (k - 1) * cc p (n - k) * (wc p (n - 1) (k - 1) * (core p n).2) % p = cc p n := by
    rw [a, ← h2, Nat.mod_mul_mod]
    congr 1
    ac_rfl
  rw [e1, e2]
theorem core_fac {p : Nat} (P : Pr p) (n : Nat) : core p (fac n) = (ee p n, cc p n) := by
  obtain ⟨a, b⟩ := (core_is P.lo (fac_pos n)).uniq P.lo (fac_core P n)
  exact Prod.ext a b
theorem wo_self (p n : Nat) : wo p n n = 0 := by
  unfold wo
  rw [Nat.sub_self, ee_zero]
  omega
theorem wc_self {p : Nat} (P : Pr p) (n : Nat) : wc p n n = 1 := by
  have h1 := P.inv (cc_nem P n)
  have h2 := P.inv (cc_nem P 0)
  rw [cc_zero, Nat.one_mul] at h2
  unfold wc
  rw [Nat.sub_self, cc_zero, h1, Nat.one_mul, h2]
theorem core_lt {p n : Nat} (hp : 2 ≤ p) (h : 0 < n) : (core p n).2 < p := by
  obtain ⟨⟨m, _, e⟩, _⟩ := core_is hp h
  rw [← e]
  exact Nat.mod_lt _ (by omega)
theorem int_mod0 {a b p : Nat} (h : a % p = b % p) : ((a : Int) - (b : Int)) % (p : Int) = 0 := by
  have : (a : Int) % (p : Int) = (b : Int) % (p : Int) := by
    rw [← Int.natCast_emod, ← Int.natCast_emod, h]
  exact (Int.emod_eq_emod_iff_emod_sub_eq_zero).mp this
end Cc

namespace Cc
/-! the free places of a row, in order -/
def fr : List Nat → Nat
  | [] => 1
  | f :: l => (f + 1) * fr l
def pb (p : Nat) : List Nat → Nat → Nat
  | [], _ => 0
  | f :: l, m => m % (f + 1) + p * pb p l (m / (f + 1))
def nb (p : Nat) : List Nat → Nat → Nat
  | [], _ => 0
  | f :: l, s => s % p + (f + 1) * nb p l (s / p)
def okL (p : Nat) : List Nat → Nat → Prop
  | [], s => s = 0
  | f :: l, s => s % p ≤ f ∧ okL p l (s / p)
theorem fr_pos : ∀ l, 0 < fr l
  | [] => by decide
  | f :: l => Nat.mul_pos (Nat.succ_pos f) (fr_pos l)
theorem pb_digit {p f m x : Nat} (hf : f < p) : (m % (f + 1) + p * x) % p = m % (f + 1) ∧ (m % (f + 1) + p * x) / p = x := by
  have h : m % (f + 1) < f + 1 := Nat.mod_lt _ (Nat.succ_pos f)
  have hp : 0 < p := by omega
  constructor
  · rw [Nat.add_mul_mod_self_left]; exact Nat.mod_eq_of_lt (by omega)
  · rw [Nat.add_mul_div_left _ _ hp, Nat.div_eq_of_lt (by omega), Nat.zero_add]
theorem pb_ok {p : Nat} : ∀ (l : List Nat) (m : Nat), (∀ d ∈ l, d < p) → okL p l (pb p l m)
  | [], m, _ => rfl
  | f :: l, m, h => by
    obtain ⟨h1, h2⟩ := pb_digit (m := m) (x := pb p l (m / (f + 1))) (h f List.mem_cons_self)
    show (m % (f + 1) + p * pb p l (m / (f + 1))) % p ≤ f ∧ okL p l ((m % (f + 1) + p * pb p l (m / (f + 1))) / p)
    rw [h1, h2]
    exact ⟨Nat.le_of_lt_succ (Nat.mod_lt _ (Nat.succ_pos f)), pb_ok l _ fun d hd => h d (List.mem_cons_of_mem _ hd)⟩
theorem nb_pb {p : Nat} : ∀ (l : List Nat) (m : Nat), (∀ d ∈ l, d < p) → m < fr l → nb p l (pb p l m) = m
  | [], m, _, h => by
    have : m < 1 := h
    show 0 = m
    omega
  | f :: l, m, hd, h => by
    obtain ⟨h1, h2⟩ := pb_digit (m := m) (x := pb p l (m / (f + 1))) (hd f List.mem_cons_self)
    show (m % (f + 1) + p * pb p l (m / (f + 1))) % p + (f + 1) * nb p l ((m % (f + 1) + p * pb p l (m / (f + 1))) / p) = m
    rw [h1, h2, nb_pb l _ (fun d hx => hd d (List.mem_cons_of_mem _ hx)) (Nat.div_lt_of_lt_mul h)]
    exact Nat.mod_add_div m (f + 1)
theorem nb_lt {p : Nat} : ∀ (l : List Nat) (s : Nat), okL p l s → nb p l s < fr l
  | [], s, _ => Nat.one_pos
  | f :: l, s, h => by
    have ih := nb_lt l _ h.2
    have h1 := h.1
    show s % p + (f + 1) * nb p l (s / p) < (f + 1) * fr l
    have := Nat.mul_le_mul_left (f + 1) (Nat.succ_le_of_lt ih)
    rw [Nat.mul_succ] at this
    omega
theorem pb_nb {p : Nat} : ∀ (l : List Nat) (s : Nat), okL p l s → pb p l (nb p l s) = s
  | [], s, h => Eq.symm h
  | f :: l, s, h => by
    show (s % p + (f + 1) * nb p l (s / p)) % (f + 1) + p * pb p l ((s % p + (f + 1) * nb p l (s / p)) / (f + 1)) = s
    have h1 := h.1
    rw [Nat.add_mul_mod_self_left, Nat.mod_eq_of_lt (show s % p < f + 1 by omega), Nat.add_mul_div_left _ _ (Nat.succ_pos f), Nat.div_eq_of_lt (show s % p < f + 1 by omega), Nat.zero_add, pb_nb l _ h.2]
    exact Nat.mod_add_div s p
theorem pb_mono {p : Nat} : ∀ (l : List Nat) (m m' : Nat), (∀ d ∈ l, d < p) → m < m' → m' < fr l → pb p l m < pb p l m'
  | [], m, m', _, h, h' => by
    have : m' < 1 := h'
    omega
  | f :: l, m, m', hd, h, h' => by
    have hf := hd f List.mem_cons_self
    show m % (f + 1) + p * pb p l (m / (f + 1)) < m' % (f + 1) + p * pb p l (m' / (f + 1))
    have e1 := Nat.mod_add_div m (f + 1)
    have e2 := Nat.mod_add_div m' (f + 1)
    have l1 : m % (f + 1) < f + 1 := Nat.mod_lt m (Nat.succ_pos f)
    have hq : m / (f + 1) ≤ m' / (f + 1) := Nat.div_le_div_right (Nat.le_of_lt h)
    rcases Nat.lt_or_eq_of_le hq with g | g
    · have ih := pb_mono l _ _ (fun d hx => hd d (List.mem_cons_of_mem _ hx)) g (Nat.div_lt_of_lt_mul h')
      have := Nat.mul_le_mul_left p (Nat.succ_le_of_lt ih)
      rw [Nat.mul_succ] at this
      omega
    · rw [g] at e1 ⊢
      omega
theorem dg_all0 {p : Nat} (hp : 2 ≤ p) : ∀ s, (∀ i, dg p s i ≤ 0) → s = 0 := by
  refine dig_ind hp (P := fun s => (∀ i, dg p s i ≤ 0) → s = 0) (fun _ => rfl) fun s hs ih h => ?_
  have h0 := h 0
  rw [dg_zero hp] at h0
  have h1 := ih fun i => by
    have := h (i + 1)
    rwa [dg_succ hp] at this
  have := Nat.div_add_mod s p
  rw [h1] at this
  omega
theorem okL_iff {p : Nat} (hp : 2 ≤ p) : ∀ n s, okL p (figs p n) s ↔ ∀ i, dg p s i ≤ dg p n i := by
  refine dig_ind hp (P := fun n => ∀ s, okL p (figs p n) s ↔ ∀ i, dg p s i ≤ dg p n i) (fun s => ?_) fun n hn ih s => ?_
  · constructor
    · intro h i
      have h : s = 0 := h
      subst h
      exact Nat.le_refl _
    · intro h
      exact dg_all0 hp s fun i => h i
  · rw [figs_pos hp hn]
    constructor
    · rintro ⟨h1, h2⟩ i
      match i with
      | 0 => rw [dg_zero hp, dg_zero hp]; exact h1
      | i + 1 => rw [dg_succ hp, dg_succ hp]; exact (ih _).mp h2 i
    · intro h
      refine ⟨?_, (ih _).mpr fun i => ?_⟩
      · have := h 0
        rwa [dg_zero hp, dg_zero hp] at this
      · have := h (i + 1)
        rwa [dg_succ hp, dg_succ hp] at this
theorem okL_le {p : Nat} (hp : 2 ≤ p) : ∀ n s, okL p (figs p n) s → s ≤ n := by
  refine dig_ind hp (P := fun n => ∀ s, okL p (figs p n) s → s ≤ n) (fun s h => Nat.le_of_eq h) fun n hn ih s h => ?_
  rw [figs_pos hp hn] at h
  have h1 := h.1
  have h2 := Nat.mul_le_mul_left p (ih _ h.2)
  have e1 := Nat.div_add_mod s p
  have e2 := Nat.div_add_mod n p
  omega
theorem fr_le {p : Nat} (hp : 2 ≤ p) : ∀ n, fr (figs p n) ≤ n + 1 := by
  refine dig_ind hp (P := fun n => fr (figs p n) ≤ n + 1) (Nat.le_refl _) fun n hn ih => ?_
  rw [figs_pos hp hn]
  show (n % p + 1) * fr (figs p (n / p)) ≤ n + 1
  have h1 := Nat.mul_le_mul_left (n % p + 1) ih
  have h2 : n % p + 1 ≤ p := Nat.mod_lt n (by omega)
  have h3 := Nat.mul_le_mul_right (n / p) h2
  have e := Nat.div_add_mod n p
  rw [Nat.mul_succ] at h1
  omega
theorem okL_kk {p n k : Nat} (hp : 2 ≤ p) (h : k ≤ n) : okL p (figs p n) k ↔ kk p k (n - k) 0 = 0 := (okL_iff hp n k).trans (carry_free hp h).symm
theorem pb_le {p : Nat} (hp : 2 ≤ p) (n m : Nat) : pb p (figs p n) m ≤ n := okL_le hp n _ (pb_ok _ m (figs_small hp n))
theorem drop_cons {l : List Nat} {i d : Nat} (h : l[i]? = some d) : l.drop i = d :: l.drop (i + 1) := by
  obtain ⟨hi, e⟩ := List.getElem?_eq_some_iff.mp h
  rw [List.drop_eq_getElem_cons hi, e]
theorem pow_bits {p i : Nat} (hp : p ≤ 1000) (hi : i ≤ 1000) : p ^ i < 2 ^ 10001 := by
  have h1 : p ^ i ≤ (2 ^ 10) ^ i := Nat.pow_le_pow_left (Nat.le_trans hp (by decide)) i
  rw [← Nat.pow_mul] at h1
  exact Nat.lt_of_le_of_lt h1 (Nat.pow_lt_pow_right (by decide) (by omega))
/-! the most that a place holds -/
theorem core_pow {p : Nat} (hp : 2 ≤ p) : ∀ i N, 0 < N → (N % p ^ i ≠ 0 ↔ (core p N).1 < i)
  | 0, N, hN => by
    rw [Nat.pow_zero, Nat.mod_one]
    exact ⟨fun h => absurd rfl h, fun h => absurd h (Nat.not_lt_zero _)⟩
  | i + 1, N, hN => by
    have e : N % p ^ (i + 1) = N % p + p * (N / p % p ^ i) := by rw [Nat.pow_succ, Nat.mul_comm, Nat.mod_mul]
    by_cases hm : N % p = 0
    · have hq : 0 < N / p := by
        refine Nat.pos_of_ne_zero fun z => ?_
        have := Nat.div_add_mod N p
        rw [z, hm] at this
        omega
      have ih := core_pow hp i (N / p) hq
      rw [core_step hp hN hm, e, hm, Nat.zero_add]
      constructor
      · intro h
        exact Nat.succ_lt_succ (ih.mp fun z => h (by rw [z, Nat.mul_zero]))
      · intro h z
        have h1 := ih.mpr (Nat.lt_of_succ_lt_succ h)
        rcases Nat.mul_eq_zero.mp z with q | q
        · omega
        · exact h1 q
    · rw [core_done hp hN hm]
      exact ⟨fun _ => Nat.succ_pos i, fun _ z => hm (by rw [e] at z; omega)⟩
theorem pow_len {p : Nat} (hp : 2 ≤ p) : ∀ i N, 0 < N → (p ^ i ≤ N ↔ i < (figs p N).length)
  | 0, N, hN => by
    rw [figs_pos hp hN, Nat.pow_zero]
    exact ⟨fun _ => Nat.succ_pos _, fun _ => hN⟩
  | i + 1, N, hN => by
    rw [figs_pos hp hN, Nat.pow_succ, ← Nat.le_div_iff_mul_le (by omega), List.length_cons]
    by_cases hq : N / p = 0
    · rw [hq, figs_zero]
      have := Nat.pow_pos (n := i) (show 0 < p by omega)
      exact ⟨fun h => by omega, fun h => absurd (Nat.lt_of_succ_lt_succ h) (Nat.not_lt_zero _)⟩
    · have ih := pow_len hp i (N / p) (Nat.pos_of_ne_zero hq)
      exact ⟨fun h => Nat.succ_lt_succ (ih.mp h), fun h => ih.mpr (Nat.lt_of_succ_lt_succ h)⟩
def mst (p n : Nat) : Nat := (figs p (n + 1)).length - 1 - (core p (n + 1)).1
theorem core_len {p N : Nat} (hp : 2 ≤ p) (hN : 0 < N) : (core p N).1 < (figs p N).length := by
  have h : N % p ^ (core p N).1 = 0 := Decidable.byContradiction fun z => Nat.lt_irrefl _ ((core_pow hp _ N hN).mp z)
  exact (pow_len hp _ N hN).mp (Nat.le_of_dvd hN (Nat.dvd_of_mod_eq_zero h))
theorem dg_core {p N b : Nat} (hp : 2 ≤ p) (hN : 0 < N) (hb : b ≤ (core p N).1) : dg p N b = 0 ↔ b < (core p N).1 := by
  have h0 : N % p ^ b = 0 := Decidable.byContradiction fun z => absurd ((core_pow hp _ N hN).mp z) (by omega)
  have h1 := core_pow hp (b + 1) N hN
  have e : N % p ^ (b + 1) = N % p ^ b + p ^ b * (N / p ^ b % p) := by rw [Nat.pow_succ, Nat.mod_mul]
  rw [e, h0, Nat.zero_add] at h1
  have hpb := Nat.pow_pos (n := b) (show 0 < p by omega)
  rw [dg_eq hp]
  constructor
  · intro z
    refine Decidable.byContradiction fun q => ?_
    exact h1.mpr (by omega) (by rw [z, Nat.mul_zero])
  · intro q
    refine Decidable.byContradiction fun z => ?_
    have := h1.mp (fun y => by
      rcases Nat.mul_eq_zero.mp y with g | g
      · omega
      · exact z g)
    omega
/-! the small rows -/
theorem sorted_ext : ∀ (l1 l2 : List Nat), l1.Pairwise (· < ·) → l2.Pairwise (· < ·) → (∀ x, x ∈ l1 ↔ x ∈ l2) → l1 = l2
  | [], [], _, _, _ => rfl
  | [], b :: l2, _, _, h => absurd ((h b).mpr List.mem_cons_self) (by simp)
  | a :: l1, [], _, _, h => absurd ((h a).mp List.mem_cons_self) (by simp)
  | a :: l1, b :: l2, h1, h2, h => by
    have g1 := List.pairwise_cons.mp h1
    have g2 := List.pairwise_cons.mp h2
    have ha : a = b := by
      rcases List.mem_cons.mp ((h a).mp List.mem_cons_self) with e | e
      · exact e
      · have hb := g2.1 a e
        rcases List.mem_cons.mp ((h b).mpr List.mem_cons_self) with e' | e'
        · omega
        · have := g1.1 b e'
          omega
    subst ha
    rw [sorted_ext l1 l2 g1.2 g2.2 fun x => ⟨fun hx => ?_, fun hx => ?_⟩]
    · rcases List.mem_cons.mp ((h x).mp (List.mem_cons_of_mem _ hx)) with e | e
      · have := g1.1 x hx
        omega
      · exact e
    · rcases List.mem_cons.mp ((h x).mpr (List.mem_cons_of_mem _ hx)) with e | e
      · have := g2.1 x hx
        omega
      · exact e
def placesL (p n : Nat) : List Nat := (List.range (n + 1)).filter fun k => decide (0 < bin n k % p)
theorem bin_okL {p n k : Nat} (P : Pr p) (h : k ≤ n) : 0 < bin n k % p ↔ okL p (figs p n) k := by
  rw [(bin_free P h).1, okL_kk P.lo h, wo_kk P.lo h]
  omega
theorem places_mem {p n k : Nat} (P : Pr p) (h : k ≤ n) : k ∈ placesL p n ↔ okL p (figs p n) k := by
  unfold placesL
  rw [List.mem_filter, List.mem_range, decide_eq_true_eq, bin_okL P h]
  exact ⟨fun z => z.2, fun z => ⟨by omega, z⟩⟩
theorem places_eq {p : Nat} (P : Pr p) (n : Nat) : (List.range (fr (figs p n))).map (pb p (figs p n)) = placesL p n := by
  have hs := figs_small P.lo n
  refine sorted_ext _ _ ?_ ?_ fun x => ⟨fun hx => ?_, fun hx => ?_⟩
  · rw [List.pairwise_map]
    exact List.Pairwise.imp_of_mem (fun {a b} _ hb hab => pb_mono _ a b hs hab (List.mem_range.mp hb)) List.pairwise_lt_range
  · exact List.Pairwise.filter _ List.pairwise_lt_range
  · obtain ⟨m, hm, rfl⟩ := List.mem_map.mp hx
    exact (places_mem P (pb_le P.lo n m)).mpr (pb_ok _ m hs)
  · have hle : x ≤ n := by
      have := (List.mem_filter.mp hx).1
      have := List.mem_range.mp this
      omega
    have ok := (places_mem P hle).mp hx
    exact List.mem_map.mpr ⟨nb p (figs p n) x, List.mem_range.mpr (nb_lt _ _ ok), pb_nb _ _ ok⟩
def maxOk (p n : Nat) : Bool := ((List.range (n + 1)).all fun k => decide (kk p k (n - k) 0 ≤ mst p n)) && (List.range (n + 1)).any fun k => kk p k (n - k) 0 == mst p n
theorem maxOk_few : ((List.range 41).all fun p => decide (p < 2) || (List.range 40).all fun n => maxOk p n) = true := by decide +kernel
theorem maxOk_two : ((List.range 50).all fun n => maxOk 2 n) = true := by decide +kernel
theorem maxOk_big {p n : Nat} (hp : 2 ≤ p) (h : n + 1 < p) : maxOk p n = true := by
  have hm : mst p n = 0 := by
    unfold mst
    rw [figs_pos hp (Nat.succ_pos n), Nat.div_eq_of_lt h, figs_zero]
    show 0 + 1 - 1 - _ = 0
    omega
  have hk : ∀ k, k ≤ n → kk p k (n - k) 0 = 0 := fun k hk => by
    by_cases z : k = 0 ∧ n - k = 0 ∧ (0 : Nat) = 0
    · obtain ⟨z1, z2, _⟩ := z
      rw [z2, z1]
      exact kk_zero p
    · rw [kk_step hp z, Nat.mod_eq_of_lt (show k < p by omega), Nat.mod_eq_of_lt (show n - k < p by omega), Nat.div_eq_of_lt (show k + (n - k) + 0 < p by omega), Nat.div_eq_of_lt (show k < p by omega), Nat.div_eq_of_lt (show n - k < p by omega), kk_zero]
  unfold maxOk
  rw [hm, Bool.and_eq_true]
  refine ⟨List.all_eq_true.mpr fun k hk2 => decide_eq_true (Nat.le_of_eq (hk k (by have := List.mem_range.mp hk2; omega))), List.any_eq_true.mpr ⟨0, List.mem_range.mpr (Nat.succ_pos n), beq_iff_eq.mpr (hk 0 (Nat.zero_le _))⟩⟩
theorem maxOk_all {p n : Nat} (hp : 2 ≤ p) (h : n < 40 ∨ (p = 2 ∧ n < 50)) : maxOk p n = true := by
  rcases h with h | ⟨rfl, h⟩
  · by_cases hb : n + 1 < p
    · exact maxOk_big hp hb
    · have h1 := List.all_eq_true.mp maxOk_few p (List.mem_range.mpr (by omega))
      rw [decide_eq_false (by omega : ¬ p < 2), Bool.false_or] at h1
      exact List.all_eq_true.mp h1 n (List.mem_range.mpr h)
  · exact List.all_eq_true.mp maxOk_two n (List.mem_range.mpr h)
theorem mst_max {p n : Nat} (P : Pr p) (h : n < 40 ∨ (p = 2 ∧ n < 50)) : (∀ k, k ≤ n → (core p (bin n k)).1 ≤ mst p n) ∧ ∃ k, k ≤ n ∧ (core p (bin n k)).1 = mst p n := by
  have hp := P.lo
  have e : ∀ k, k ≤ n → (core p (bin n k)).1 = kk p k (n - k) 0 := fun k hk => by
    have h1 := (bin_core P hk).1
    rw [wo_kk hp hk] at h1
    omega
  have m := maxOk_all hp h
  unfold maxOk at m
  rw [Bool.and_eq_true] at m
  refine ⟨fun k hk => ?_, ?_⟩
  · rw [e k hk]
    exact of_decide_eq_true (List.all_eq_true.mp m.1 k (List.mem_range.mpr (by omega)))
  · obtain ⟨k, hk, z⟩ := List.any_eq_true.mp m.2
    have hk : k ≤ n := by
      have := List.mem_range.mp hk
      omega
    exact ⟨k, hk, by rw [e k hk]; exact beq_iff_eq.mp z⟩
theorem fr_two : ∀ l : List Nat, (∀ d ∈ l, d < 2) → fr l = 2 ^ (l.filter fun d => d == 1).length
  | [], _ => rfl
  | d :: l, h => by
    have ih := fr_two l fun x hx => h x (List.mem_cons_of_mem _ hx)
    have hd := h d List.mem_cons_self
    match d, hd with
    | 0, _ =>
      show (0 + 1) * fr l = 2 ^ (l.filter fun d => d == 1).length
      rw [ih, Nat.zero_add, Nat.one_mul]
    | 1, _ =>
      show (1 + 1) * fr l = 2 ^ ((l.filter fun d => d == 1).length + 1)
      rw [ih, Nat.pow_succ, Nat.mul_comm]
end Cc

/-! ### short words over the layer -/
namespace Cc
open PySem PySem.Spec PyProof.Rows L2 Evl
def topS (i : Nat) : Stmt := PySem.Challenge.pw_choosecarry_k05_refused.main.body.getD i (.Pass ⟨0, 0, 0, 0⟩)
/-- a def of the top: where it stands, how it binds -/
def Df (K : PySem.W.Frag) (mg : Str → Option Value) (x : Str) (ps : List Str) (st : Stmt) : Prop :=
  ∃ f fd, Fun K x x st f fd ∧ mg x = some (.ref f) ∧ Binds K fd ps []
/-- a def that keeps its promise -/
def Ok (P : Program) (w : World) (K : PySem.W.Frag) (mg : Str → Option Value) (base : Heap) (CX : CXT) (k : Nat) (x : Str) (ps : List Str) (sp : Sp) : Prop :=
  ∃ f fd, mg x = some (.ref f) ∧ PySem.W.keepIn K (.ref f) = true ∧ Binds K fd ps [] ∧ FnOk P w K mg base CX k f fd ps sp
section
variable {X : Cx} {k n : Nat} {x : Str} {ps : List Str} {sp : Sp} {p pos : Pos} {e : Expr} {es : List Expr} {t : TA} {t1 t2 : TE}
theorem pe_callO (O : Ok X.prog X.w X.K X.mg X.base CX0 k x ps sp) (hr : Room n X.A) (ha : PA X (e :: es) t) (hk : k ≤ n := by decide) (hg : Gl X x := by rfl)
    (hdb : (x == ("__debug__" : Str)) = false := by decide) (he : starEach (e :: es) X.env = (false, eval e X.env) :: starEach es X.env := by rfl) (hpl : (backTo pos (starEach es X.env)).any (·.1) = false := by rfl) :
    PE X (.Call (.Name x p) (e :: es) [] pos) (tCall sp [] E0 t) := by
  obtain ⟨f, fd, hm, kp, b, F⟩ := O
  exact pe_call F (hr.mono hk) hg hm kp b .nil pass0 ha hdb he hpl
theorem pe_either {e : Expr} (h1 : PE X e t1) (h2 : PE X e t2) : PE X e (fun σ H Q => t1 σ H Q ∨ t2 σ H Q) :=
  ⟨fun pins s σ H Q I h => h.elim (h1.run pins s σ H Q I) (h2.run pins s σ H Q I)⟩
end
/-! ### a body's reading, through its def -/
section
variable {P : Program} {w : World} {K : PySem.W.Frag} {mg : Str → Option Value} {base : Heap}
theorem Df.ok {x : Str} {st : Stmt} {N ps : List Str} {k : Nat} {sp : Sp} (D : Df K mg x ps st) (S : FnScope N ps (defScope st)) (len : ∀ vs H Q E, sp vs H Q E → vs.length = ps.length)
    (hbody : ∀ (f : Addr) (cdv : Value) (A : Around) (outer : List Env) (s : Shared) (H : Hp) (vs : List V) (Q : VK) (E : XK), Room k (A.deeper (envOfC x (defScope st) s.heap.objs.size f cdv)) → sp vs H Q E →
      ∃ t, PSs (cxOf CX0 P w K mg base N x (defScope st) f cdv A outer s H E).nox (defBody st) t ∧ t { nx := fun _ H' => Q .non H', rt := Q } (start N vs) H) : Ok P w K mg base CX0 (k + 1) x ps sp := by
  obtain ⟨f, fd, F, g, b⟩ := D
  exact ⟨f, fd, g, F.kp, b, F.ok S len fun cdv A outer s H vs Q E hr h => hbody f cdv A outer s H vs Q E hr h⟩
end
/-! ### numbers -/
theorem emod_nat (a b : Nat) : ((a : Int) % (b : Int)) = ((a % b : Nat) : Int) := rfl
theorem ediv_nat (a b : Nat) : ((a : Int) / (b : Int)) = ((a / b : Nat) : Int) := rfl
theorem nat_pow_lt {n k : Nat} (h : n < 2 ^ k) : ((n : Int)).natAbs < 2 ^ k := by
  rw [Int.natAbs_natCast]; exact h
theorem small_lt {n : Nat} (h : n ≤ 1000) : ((n : Int)).natAbs < 2 ^ 10 := by
  rw [Int.natAbs_natCast]; exact Nat.lt_of_le_of_lt h (by decide)
theorem div_small {i : Int} {p : Nat} (h0 : 0 < p) (h : p ≤ 1000) : CDivW i (p : Int) := wide_div (by omega) (small_lt h) (by decide) (by decide)
theorem mul_small {a b : Nat} (ha : a ≤ 1000) (hb : b ≤ 1000) : CMulX (a : Int) (b : Int) := mulx_ok (small_lt ha) (small_lt hb) (by decide)
theorem size_small {n : Nat} (h : n ≤ 100000) : n ≤ sizeLine := sz_of h
/-- the list of whole numbers at an address -/
abbrev nV (l : List Nat) : List V := l.map fun (d : Nat) => V.int (d : Int)
theorem nV_get {l : List Nat} {i : Nat} {v : V} (h : (nV l)[i]? = some v) : ∃ d, l[i]? = some d ∧ v = .int (d : Int) := by
  unfold nV at h
  rw [List.getElem?_map] at h
  cases e : l[i]? with
  | none => rw [e] at h; cases h
  | some d => rw [e] at h; exact ⟨d, rfl, (Option.some.inj h).symm⟩
theorem nV_at {l : List Nat} {i : Nat} {d : Nat} (h : l[i]? = some d) : (nV l)[i]? = some (V.int (d : Int)) := by
  unfold nV
  rw [List.getElem?_map, h]; rfl
theorem nV_app (l : List Nat) (d : Nat) : nV l ++ [V.int (d : Int)] = nV (l ++ [d]) := by
  unfold nV
  rw [List.map_append]; rfl
theorem if_t {A B : Prop} {c : Bool} (hc : c = true) (h : A) : if c = true then A else B := by rw [if_pos hc]; exact h
theorem if_f {A B : Prop} {c : Bool} (hc : c = false) (h : B) : if c = true then A else B := by rw [hc, if_neg Bool.false_ne_true]; exact h
end Cc

namespace Cc
open PySem PySem.Spec PyProof.Rows L2 HotX
/-! ### any of a list of bools, while an exception is handled -/
section
variable {prog : Program} {w : World} {A : Around} {E : Value → Shared → Prop} {s : Shared}
theorem next_list_end_hot {it l x1 : Addr} {i : Nat} {items : Array Value} {Q : Option Value → Shared → Prop} (hot : HotAt A x1 s.heap) (hne : x1 ≠ it)
    (hit : s.heap.IsListIter it l i) (hl : s.heap.IsList l items) (hx : items[i]? = none)
    (hQ : ∀ h', (∀ b o, b ≠ it → s.heap.get? b = some o → h'.get? b = some o) → Q none { s with heap := h' }) : wpAny (model prog w) A (pyNext (.ref it)) Q E s := by
  obtain ⟨o, ho, hc, hd⟩ := id hit
  obtain ⟨ol, hol, _, nl, hdl⟩ := hl
  obtain ⟨hh, o1, vs1, h1, d1, c1⟩ := hot
  unfold pyNext
  refine wpAny_bind (wpAny_attempt (wpAny_callSpecial?_slot (name := Str.ofString "__next__") hit.typeIs slot_listiter_next
    (wpAny_call_entry slot_listiter_next hit.typeIs entry_listiter_next ?_ (args_listiter_next _))))
  show wpAny _ _ (field (.ref it) 0 >>= _) _ _ s
  refine wpAny_bind (wpAny_field ho hd (x := .ref l) rfl ?_)
  show wpAny _ _ (if (Value.ref l == Value.none) = true then _ else _) _ _ s
  rw [if_neg (show ¬ ((Value.ref l == Value.none) = true) from Bool.false_ne_true)]
  show wpAny _ _ (field (.ref it) 1 >>= _) _ _ s
  refine wpAny_bind (wpAny_field ho hd (x := .int i 0) rfl ?_)
  show wpAny _ _ (seqItems? (.ref l) >>= _) _ _ s
  refine wpAny_bind (wpAny_seqItems hol hdl ?_)
  simp only [Int.toNat_natCast, hx]
  refine wpAny_bind (wpAny_rule (wpAny_bind (wpAny_setField ho hd (by simp) ?_)))
  show wpAny _ _ (newExc (.type "StopIteration") [] >>= _) _ _ _
  refine wpAny_bind ?_
  simp only [newExc, newTuple]
  refine wpAny_bind (wpAny_newObj_type ?_ (by size_fits))
  refine wpAny_bind (m := firstArgMember _ _) (wpAny_of_eq (a := Value.none) (by first | rfl | (simp only [firstArgMember]; rfl)) ?_)
  refine wpAny_newObj_type ?_ (by size_fits)
  have keep : ∀ {f : Obj → Obj} {o2 o3 : Obj} {b : Addr} {ob : Obj}, b ≠ it → s.heap.get? b = some ob → (((s.heap.update it f).push o2).push o3).get? b = some ob := fun {f o2 o3 b ob} hb e =>
    Heap.get?_push_of_some _ (Heap.get?_push_of_some _ (by rw [Heap.get?_update_other _ _ (Ne.symm hb)]; exact e))
  refine raiseNew_hot ⟨hh, o1, vs1, keep hne h1, d1, c1⟩ (Nat.ne_of_lt (Heap.lt_size (Heap.get?_push_of_some _ (by rw [Heap.get?_update_other _ _ (Ne.symm hne)]; exact h1)))) (Heap.get?_push_size _ rfl) rfl (by first | (simp; done) | (simp; omega) | (simp only [Array.size_append]; simp; omega)) ?_
  refine wpAny_bind (wpAny_isInstance (T := "StopIteration") (b := true) ⟨_, Heap.get?_update_self _ (Heap.get?_push_size _ rfl) rfl, rfl⟩ isSubtype_stop ?_)
  refine wpAny_pure (hQ _ fun b ob hb e => ?_)
  rw [Heap.get?_update_other _ _ (Nat.ne_of_gt (Heap.lt_size (Heap.get?_push_of_some _ (by rw [Heap.get?_update_other _ _ (Ne.symm hb)]; exact e))))]
  exact keep hb e
end
theorem walks_list_hot {prog : Program} {w : World} {A : Around} {x1 : Addr} {o1 : Obj} {vs1 : Array Value} (hh : A.handled = some (.ref x1)) (d1 : o1.data = .fields vs1) (c1 : vs1[2]? = some .none) (I ax : Addr) (hne : ax ≠ I) (hx1 : x1 ≠ I) (items : Array Value) :
    Walks prog w A I [I, ax, x1] [I] items.size (fun i v => items[i]? = some v) (fun i h => h.IsListIter I ax i ∧ h.IsList ax items ∧ h.get? x1 = some o1) where
  sub := fun b hb => by simp at hb; simp [hb]
  frame := fun _ _ _ st hk => ⟨st.1.at fun o e => hk I (by simp) o e, st.2.1.at fun o e => hk ax (by simp) o e, hk x1 (by simp) o1 st.2.2⟩
  item := fun i s Q E hi st hQ => by
    refine wpAny_pyNext_list_item st.1 st.2.1 (x := items[i]) (by simp [hi]) fun h' hit' hs' => ?_
    exact hQ _ h' s.toks (by simp [hi]) ⟨hit', st.2.1.extBut hs'.extBut hne, hs'.extBut x1 o1 hx1 st.2.2⟩ fun b o hb e => hs'.extBut b o (fun h => hb (by simp [h])) e
  done := fun s Q E st hQ => next_list_end_hot ⟨hh, o1, vs1, st.2.2, d1, c1⟩ hx1 st.1 st.2.1 (by simp) fun h' he' => hQ h' s.toks fun b o hb e => he' b o (fun h => hb (by simp [h])) e
  self := fun _ _ _ _ st hQ => wpAny_pyIter_listiter st.1 hQ
/-- any(l) in an except suite -/
theorem cr_anyH {X : Cx} (hot : L2H.HotC X) : CallR X (.builtin "any") (rAny X.K) := by
  intro pins s σ H vs us Q I r h
  obtain ⟨a, bs, rfl, hs, q⟩ := h
  obtain ⟨its, rv, hl, _⟩ := I.list hs
  rw [Vals.ref1 r]
  have hb := rv.bls
  obtain ⟨p, ⟨hh, v1, d1, c1⟩, hp⟩ := hot
  have g1 : s.heap.get? p.1 = some p.2 := (I.pin p (List.mem_append_left _ hp)).1
  have hx1 : p.1 ≠ s.heap.objs.size := Nat.ne_of_lt (Heap.lt_size g1)
  refine call_any_walk (iter_any hl.isList fun s₂ e2 st hne => ?_)
  subst e2
  refine ⟨_, _, _, _, _, _, _, rfl, walks_list_hot (A := X.A.in1) (o1 := p.2) (vs1 := v1) hh d1 c1 _ a hne hx1 its.toArray, ⟨st.1, st.2, Heap.get?_push_of_some _ g1⟩, truth_bools hb, fun h' tk hk => ?_⟩
  refine ⟨.bl _, H, I.kept fun b o eo => hk b o (fun hmem => ?_) (Heap.get?_push_of_some _ eo), ?_, q⟩
  · rcases List.mem_cons.mp hmem with e1 | hmem
    · exact absurd (e1 ▸ Heap.lt_size eo) (Nat.lt_irrefl _)
    · cases hmem
  · show Value.bool _ = Value.bool _
    rw [← L2.any_range, hb, List.size_toArray, List.length_map]
end Cc

namespace Cc
open PySem PySem.Spec PyProof.Rows L2 Evl
/-! ### own exceptions: raised, caught, asked -/
abbrev bmV : List Value := [.type "ValueError", .type "Exception", .type "BaseException", .type "object"]
/-- an own class of errors that is raised -/
structure XCls (K : PySem.W.Frag) (mg : Str → Option Value) (C : Addr) (x : Str) : Prop where
  g : mg x = some (.ref C)
  ex : PySem.W.excIn K C bmV "ValueError.__new__" = true
  k : PySem.W.keepIn K (.ref C) = true
  b : PySem.W.subIn K (.ref C) (.type "BaseException") = some true
  t : PySem.W.typeIn K (.ref C) = some (.type "type")
section
variable {P : Program} {w : World} {K : PySem.W.Frag} {mg : Str → Option Value} {base : Heap}
theorem Df.okX {x : Str} {st : Stmt} {N ps : List Str} {k : Nat} {sp : Sp} (D : Df K mg x ps st) (S : FnScope N ps (defScope st)) (len : ∀ vs H Q E, sp vs H Q E → vs.length = ps.length)
    (hbody : ∀ (f : Addr) (cdv : Value) (A : Around) (outer : List Env) (s : Shared) (H : Hp) (vs : List V) (Q : VK) (E : XK), Room k (A.deeper (envOfC x (defScope st) s.heap.objs.size f cdv)) → sp vs H Q E →
      ∃ t, PSs (cxOf (L2N.CX P w) P w K mg base N x (defScope st) f cdv A outer s H E) (defBody st) t ∧ t { nx := fun _ H' => Q .non H', rt := Q } (start N vs) H) : Ok P w K mg base (L2N.CX P w) (k + 1) x ps sp := by
  obtain ⟨f, fd, F, g, b⟩ := D
  refine ⟨f, fd, g, F.kp, b, ?_⟩
  obtain ⟨oc, od, kV, doc, pm, an, cdv, ct, osl, rfl, lk, hcd⟩ := F.ex
  exact fn_of lk hcd S len fun A outer s H vs Q E hr hsp => hbody f _ A outer s H vs Q E hr hsp
end
section
variable {X : Cx} {k n : Nat} {x : Str} {ps : List Str} {sp : Sp} {p pos : Pos} {e : Expr} {es : List Expr} {t : TA} {W : WX}
theorem passLN : Passes (L2N.CX X.prog X.w) X E0 := fun _ _ _ _ _ _ _ h => by
  obtain ⟨_, _, _, _, _, _, _, _, _, _, _, _, z⟩ := h
  exact z.elim
theorem takes0N : L2N.Takes X (fun _ _ _ _ => False) := fun _ _ x => by
  obtain ⟨_, _, _, _, _, _, _, _, _, _, _, _, _, _, _, _, z⟩ := x
  exact z.elim
/-- a call of a def that may raise: within a try -/
theorem pe_callX (O : Ok X.prog X.w X.K X.mg X.base (L2N.CX X.prog X.w) k x ps sp) (hr : Room n X.A) (tk : L2N.Takes X W) (ha : PA X (e :: es) t) (hk : k ≤ n := by decide) (hg : Gl X x := by rfl)
    (hdb : (x == ("__debug__" : Str)) = false := by decide) (he : starEach (e :: es) X.env = (false, eval e X.env) :: starEach es X.env := by rfl) (hpl : (backTo pos (starEach es X.env)).any (·.1) = false := by rfl) :
    PE X (.Call (.Name x p) (e :: es) [] pos) (tCallS sp (WE W) t) := by
  obtain ⟨f, fd, hm, kp, b, F⟩ := O
  exact pe_callS F (hr.mono hk) hg hm kp b (fun σ => L2N.passAt tk σ) ha hdb he hpl
/-- .. where it does not raise -/
theorem pe_callL (O : Ok X.prog X.w X.K X.mg X.base (L2N.CX X.prog X.w) k x ps sp) (hr : Room n X.A) (ha : PA X (e :: es) t) (hk : k ≤ n := by decide) (hg : Gl X x := by rfl)
    (hdb : (x == ("__debug__" : Str)) = false := by decide) (he : starEach (e :: es) X.env = (false, eval e X.env) :: starEach es X.env := by rfl) (hpl : (backTo pos (starEach es X.env)).any (·.1) = false := by rfl) :
    PE X (.Call (.Name x p) (e :: es) [] pos) (tCall sp [] E0 t) := by
  obtain ⟨f, fd, hm, kp, b, F⟩ := O
  exact pe_call F (hr.mono hk) hg hm kp b .nil passLN ha hdb he hpl
/-- isinstance(error, C) in the suite, the error's class not yet known -/
def rIsEc (K : PySem.W.Frag) (cls : Value) (d : Option Addr) (a : Addr) : List V → Hp → VK → Prop := fun xs H Q => ∃ D, cls = .ref D ∧ d = none ∧ ExcC K D ∧ rIsE K D a xs H Q
theorem call_isEc {a : Addr} {oe : Obj} {cls : Value} {d : Option Addr} {pn : List (Addr × Obj)} (hz : Zc cls d oe) (hf : ∃ vs, oe.data = .fields vs) : CallR (X.suite a ((a, oe) :: pn)) (.builtin "isinstance") (rIsEc X.K cls d a) := by
  intro pins s σ H xs us Q I r h
  obtain ⟨D, rfl, rfl, C, h⟩ := h
  exact call_isE C hz hf pins s σ H xs us Q I r h
theorem hotS {a : Addr} {oe : Obj} {cls : Value} {d : Option Addr} {pn : List (Addr × Obj)} (hz : L2N.Zn cls d oe) (hf : ∃ vs, oe.data = .fields vs) : L2H.HotC (X.suite a ((a, oe) :: pn)) := by
  obtain ⟨vs, hv⟩ := hf
  exact ⟨(a, oe), ⟨rfl, vs, hv, hz.2.2 vs hv⟩, List.mem_cons_self⟩
end
theorem kit_cls {K : PySem.W.Frag} {t c : Addr} {b : Bool} (h : PySem.W.subIn K (.ref t) (.ref c) = some b) (hs : PySem.W.subIn K (.ref c) (.ref c) = some true) (i : PySem.W.isClsIn K c = true) (y : PySem.W.typeIn K (.ref c) = some (.type "type")) :
    PySem.W.kitOne K (.ref t) (.ref c) = some b := by
  unfold PySem.W.kitOne
  by_cases e : ((Value.ref t) == (Value.ref c)) = true
  · rw [if_pos e]
    have e2 : t = c := Value.ref.inj (eq_of_beq e)
    rw [e2, hs] at h
    exact h
  · rw [if_neg e]
    have h2 : (PySem.W.clsIn K c).isSome = true := i
    show (if ((PySem.W.clsIn K c).isSome && PySem.W.typeIn K (.ref c) == some (.type "type")) = true then PySem.W.subIn K (.ref t) (.ref c) else none) = some b
    rw [if_pos (by rw [h2, y]; rfl)]
    exact h
end Cc

namespace Cc
open PySem PySem.Spec PyProof.Rows L2 Evl
structure Bi (mg : Str → Option Value) : Prop where
  all : mg "all" = none
  any : mg "any" = none
  enumerate : mg "enumerate" = none
  isinstance : mg "isinstance" = none
  len : mg "len" = none
  range : mg "range" = none
  sum : mg "sum" = none
  ValueError_ : mg "ValueError" = none
  bool_ : mg "bool" = none
  int_ : mg "int" = none
  k_GREATEST : ∃ u, mg "GREATEST" = some u ∧ RelV (.int 997) u
abbrev s_is_whole : Stmt := topS 9
abbrev N_is_whole : List Str := ["thing"]
abbrev ps_is_whole : List Str := ["thing"]
theorem sc_is_whole : FnScope N_is_whole ps_is_whole (defScope s_is_whole) := ⟨rfl, rfl, rfl, by decide +kernel, rfl, by decide +kernel, by decide +kernel⟩
abbrev s_figures_of : Stmt := topS 12
abbrev N_figures_of : List Str := ["prime", "many", "found"]
abbrev ps_figures_of : List Str := ["prime", "many"]
theorem sc_figures_of : FnScope N_figures_of ps_figures_of (defScope s_figures_of) := ⟨rfl, rfl, rfl, by decide +kernel, rfl, by decide +kernel, by decide +kernel⟩

section
variable {P : Program} {w : World} {K : PySem.W.Frag} {mg : Str → Option Value} {base : Heap}
/-- what is_whole says of a value -/
inductive Arg (K : PySem.W.Frag) (H : Hp) : V → Option Int → Prop where
  | int (i : Int) : Arg K H (.int i) (some i)
  | bl (b : Bool) : Arg K H (.bl b) none
  | oth {x : V} {t : String} (h : TyX K H x (.type t)) (k : kitB t "int" = some false) : Arg K H x none
def whole (o : Option Int) : Bool := match o with
  | some i => decide (0 ≤ i)
  | none => false
def sp_is_whole (K : PySem.W.Frag) : Sp := fun vs H Q _ => ∃ x o, vs = [x] ∧ Arg K H x o ∧ Q (.bl (whole o)) H
theorem ok_is_whole (T : Bi mg) (D : Df K mg "is_whole" ps_is_whole s_is_whole) : Ok P w K mg base CX0 1 "is_whole" ps_is_whole (sp_is_whole K) := by
  refine D.ok sc_is_whole (fun vs H Q E h => ?_) (fun f cdv A outer s H vs Q E hr h => ?_)
  · obtain ⟨x, o, rfl, _⟩ := h; rfl
  · obtain ⟨x, o, rfl, a, q⟩ := h
    refine ⟨_, (pss_one (ps_ret (pe_and (pe_callB call_isi (by rfl) T.isinstance (by decide +kernel) (pa_cons (pv 0) (pa_cons (pe_bltn (v := .ty "int") (by rfl) T.int_ (by decide +kernel) rfl) pa_nil))) (pe_and (pe_not (pe_callB call_isi (by rfl) T.isinstance (by decide +kernel) (pa_cons (pv 0) (pa_cons (pe_bltn (v := .ty "bool") (by rfl) T.bool_ (by decide +kernel) rfl) pa_nil)))) (pe_one (pe_cmpR op_ge (pv 0) pe_int (nomark _))))))), ?_⟩
    cases a with
    | int i =>
      refine ⟨_, rfl, _, _, _, _, _, rfl, .ty "int", .base (.int i), kit_ty (by decide +kernel : kitB "int" "int" = some true), _, rfl, if_t rfl ?_⟩
      refine ⟨_, rfl, _, _, _, _, _, rfl, .ty "bool", .base (.int i), kit_ty (by decide +kernel : kitB "int" "bool" = some false), _, rfl, _, rfl, if_t rfl ?_⟩
      exact ⟨_, rfl, _, _, rfl, rfl, q⟩
    | bl b =>
      refine ⟨_, rfl, _, _, _, _, _, rfl, .ty "int", .base (.bl b), kit_ty (by decide +kernel : kitB "bool" "int" = some true), _, rfl, if_t rfl ?_⟩
      exact ⟨_, rfl, _, _, _, _, _, rfl, .ty "bool", .base (.bl b), kit_ty (by decide +kernel : kitB "bool" "bool" = some true), _, rfl, _, rfl, if_f rfl q⟩
    | oth h k =>
      exact ⟨_, rfl, _, _, _, _, _, rfl, .ty "int", h, kit_ty k, _, rfl, if_f rfl q⟩
/-! ### figures_of -/
def sp_figures_of : Sp := fun vs H Q _ => ∃ p n : Nat, vs = [.int p, .int n] ∧ (2 ≤ p ∧ p ≤ 1000 ∧ n < 2 ^ 1000) ∧ RetL (nV (figs p n)) H Q
theorem ok_figures_of (D : Df K mg "figures_of" ps_figures_of s_figures_of) : Ok P w K mg base CX0 1 "figures_of" ps_figures_of sp_figures_of := by
  refine D.ok sc_figures_of (fun vs H Q E h => ?_) (fun f cdv A outer s H vs Q E hr h => ?_)
  · obtain ⟨p, n, rfl, _⟩ := h; rfl
  · obtain ⟨p, n, rfl, ⟨hp, hp2, hn⟩, q⟩ := h
    refine ⟨_, (pss_cons (ps_set (i := 2) sc_figures_of.nd rfl (.inl rfl) (pe_lst pa_nil))
      (pss_cons (ps_while PassesOwn.never (pt_cmpR op_gt (pv 1) pe_int (nomark _))
      (pss_cons (ps_expr (pe_bm PySem.F.plainAttrs_list PySem.F.slot_list_append PySem.F.type_list_append mt_append (pv 2) (pa_cons (pe_op op_mod (pv 1) (pv 0)) pa_nil)))
      (pss_one (ps_set (i := 1) sc_figures_of.nd rfl (.inl rfl) (pe_op op_fdivW (pv 1) (pv 0))))))
      (pss_one (ps_ret (pv 2))))), ?_⟩
    refine ⟨Nat.zero_le _, fun l nl => ?_⟩
    refine ⟨fun m σ H' => ∃ (n' : Nat) (done : List Nat), m = n' ∧ σ = [some (.int p), some (.int n'), some (.ref l)] ∧ figs p n = done ++ figs p n' ∧ Ex H H' ∧ H' l = some (.lst (nV done)), ⟨n, n, [], rfl, rfl, rfl, Ex.new nl, upd_same⟩, fun m σ H' hW => ?_⟩
    obtain ⟨n', done, rfl, rfl, e1, e2, e3⟩ := hW
    refine ⟨_, rfl, _, _, rfl, rfl, _, rfl, ite2 (fun c => ?_) (fun c => ?_)⟩
    · have c : (0 : Int) < (m : Int) := of_decide_eq_true c
      have hm : 0 < m := by omega
      refine ⟨fun σ' H2 => ∃ (n' : Nat) (done : List Nat), n' < m ∧ σ' = [some (.int p), some (.int n'), some (.ref l)] ∧ figs p n = done ++ figs p n' ∧ Ex H H2 ∧ H2 l = some (.lst (nV done)), fun σ' H2 hN => ?_, ?_⟩
      · obtain ⟨n2, d2, h1, h2, h3, h4, h5⟩ := hN
        exact ⟨n2, h1, n2, d2, rfl, h2, h3, h4, h5⟩
      · have hlen : done.length < 100000 := by
          have h1 := figs_len_le hp n 1000 hn
          rw [e1, List.length_append] at h1
          omega
        refine ⟨_, rfl, .inl ⟨rfl, _, SqL.of e3⟩, _, rfl, _, rfl, _, _, rfl, rfl, (by show (0 : Int) < p; omega), l, _, _, rfl, rfl, e3, sz_lt (by rw [List.length_map]; exact hlen), ?_⟩
        refine ⟨_, rfl, _, rfl, _, _, rfl, rfl, div_small (by omega) hp2, m / p, done ++ [m % p], div_lt hp hm, rfl, ?_, Ex.mut e2 nl, ?_⟩
        · rw [e1, figs_pos hp hm, List.append_assoc]; rfl
        · rw [upd_same, ← nV_app]; rfl
    · have c : ¬ (0 : Int) < (m : Int) := fun z => c (decide_eq_true z)
      have hm : m = 0 := by omega
      subst hm
      rw [figs_zero, List.append_nil] at e1
      rw [← e1] at e3
      exact ⟨_, rfl, q l H' nl e2 e3⟩
end
end Cc

namespace Cc
open PySem PySem.Spec PyProof.Rows L2 Evl
theorem nV_ints (l : List Nat) : nV l = (l.map fun (d : Nat) => (d : Int)).map V.int := by
  rw [List.map_map]; rfl
theorem sum_cast : ∀ l : List Nat, (l.map fun (d : Nat) => (d : Int)).sum = ((l.sum : Nat) : Int)
  | [] => rfl
  | d :: l => by
    rw [List.map_cons, List.sum_cons, List.sum_cons, sum_cast l, Int.natCast_add]
/-- a new tuple -/
def RetU (xs : List V) (H : Hp) (Q : VK) : Prop := ∀ p H2, H p = none → Ex H H2 → H2 p = some (.tup xs) → Q (.ref p) H2
theorem take_more {α : Type} {l : List α} {i : Nat} {x : α} (h : l[i]? = some x) : l.take (i + 1) = l.take i ++ [x] := by
  rw [List.take_add_one, h]; rfl
end Cc

namespace Cc
open PySem PySem.Spec PyProof.Rows L2 Evl
abbrev s_table_of : Stmt := topS 14
abbrev N_table_of : List Str := ["prime", "found", "figure"]
abbrev ps_table_of : List Str := ["prime"]
theorem sc_table_of : FnScope N_table_of ps_table_of (defScope s_table_of) := ⟨rfl, rfl, rfl, by decide +kernel, rfl, by decide +kernel, by decide +kernel⟩
abbrev s_turned : Stmt := topS 15
abbrev N_turned : List Str := ["prime", "number", "found", "count"]
abbrev ps_turned : List Str := ["prime", "number"]
theorem sc_turned : FnScope N_turned ps_turned (defScope s_turned) := ⟨rfl, rfl, rfl, by decide +kernel, rfl, by decide +kernel, by decide +kernel⟩
abbrev s_product_of : Stmt := topS 16
abbrev N_product_of : List Str := ["prime", "table", "many", "some", "often", "core", "figure"]
abbrev ps_product_of : List Str := ["prime", "table", "many"]
theorem sc_product_of : FnScope N_product_of ps_product_of (defScope s_product_of) := ⟨rfl, rfl, rfl, by decide +kernel, rfl, by decide +kernel, by decide +kernel⟩

section
variable {P : Program} {w : World} {K : PySem.W.Frag} {mg : Str → Option Value} {base : Heap}
/-! ### table_of -/
def sp_table_of : Sp := fun vs H Q _ => ∃ p : Nat, vs = [.int p] ∧ (2 ≤ p ∧ p ≤ 1000) ∧ RetL (nV (tabs p p)) H Q
theorem ok_table_of (T : Bi mg) (D : Df K mg "table_of" ps_table_of s_table_of) : Ok P w K mg base CX0 1 "table_of" ps_table_of sp_table_of := by
  refine D.ok sc_table_of (fun vs H Q E h => ?_) (fun f cdv A outer s H vs Q E hr h => ?_)
  · obtain ⟨p, rfl, _⟩ := h; rfl
  · obtain ⟨p, rfl, ⟨hp, hp2⟩, q⟩ := h
    refine ⟨_, (pss_cons (ps_set (i := 1) sc_table_of.nd rfl (.inl rfl) (pe_lst (pa_cons pe_int pa_nil)))
      (pss_cons (ps_for PassesOwn.never rfl (pi_range2 (by rfl) T.range (pa_cons pe_int (pa_cons (pv 0) pa_nil))) (pg_name (i := 2) sc_table_of.nd rfl (.inl rfl))
      (pss_one (ps_expr (pe_bm PySem.F.plainAttrs_list PySem.F.slot_list_append PySem.F.type_list_append mt_append (pv 1) (pa_cons (pe_op op_mod (pe_op op_mulX (pe_ix (r := rIxL K) ix_list (pv 1) (pe_un un_neg pe_int) (fun _ _ => rfl)) (pv 2)) (pv 0)) pa_nil)))))
      (pss_one (ps_ret (pv 1))))), ?_⟩
    refine ⟨by show 1 ≤ sizeLine; decide, fun l nl => ?_⟩
    refine ⟨_, rfl, 1, _, rfl, ⟨by decide, by decide, by omega, by omega⟩, for_range (lo := 1) (n := ((p : Int) - 1).toNat) (fun i σ H' => ∃ y, σ = [some (.int p), some (.ref l), y] ∧ Ex H H' ∧ H' l = some (.lst (nV (tabs p (i + 1))))) ⟨_, rfl, Ex.new nl, upd_same⟩ ?_ ?_⟩
    · rintro i σ H' hi ⟨y, rfl, e2, e3⟩
      have hz : (nV (tabs p (i + 1))).length < sizeLine := sz_lt (by rw [List.length_map, tabs_len]; omega)
      have ht := tab_lt hp i
      refine ⟨_, rfl, .inl ⟨rfl, _, SqL.of e3⟩, _, rfl, 1, rfl, l, _, _, .int (tab p i), rfl, rfl, SqL.of e3, ?_, _, rfl, _, _, rfl, rfl, ?_, _, rfl, _, _, rfl, rfl, (by show (0 : Int) < p; omega), l, _, _, rfl, rfl, e3, hz, _, rfl, Ex.mut e2 nl, ?_⟩
      · rw [tabs_succ, ← nV_app]
        exact atI_last _ _
      · rw [show (1 : Int) + (i : Int) = ((i + 1 : Nat) : Int) by omega]
        exact mul_small (by omega) (by omega)
      · rw [upd_same, tabs_succ p (i + 1), ← nV_app, show (1 : Int) + (i : Int) = ((i + 1 : Nat) : Int) by omega]
        rfl
    · rintro σ H' ⟨y, rfl, e2, e3⟩
      rw [show ((p : Int) - 1).toNat + 1 = p by omega] at e3
      exact ⟨_, rfl, q l H' nl e2 e3⟩
/-! ### turned -/
def sp_turned : Sp := fun vs H Q _ => ∃ p a : Nat, vs = [.int p, .int a] ∧ (2 ≤ p ∧ p ≤ 1000 ∧ a < p) ∧ Q (.int (inv p a)) H
theorem ok_turned (D : Df K mg "turned" ps_turned s_turned) : Ok P w K mg base CX0 1 "turned" ps_turned sp_turned := by
  refine D.ok sc_turned (fun vs H Q E h => ?_) (fun f cdv A outer s H vs Q E hr h => ?_)
  · obtain ⟨p, a, rfl, _⟩ := h; rfl
  · obtain ⟨p, a, rfl, ⟨hp, hp2, ha⟩, q⟩ := h
    refine ⟨_, (pss_cons (ps_set (i := 2) sc_turned.nd rfl (.inl rfl) (pe_op op_mod pe_int (pv 0)))
      (pss_cons (ps_set (i := 3) sc_turned.nd rfl (.inl rfl) (pe_op op_sub (pv 0) pe_int))
      (pss_cons (ps_while PassesOwn.never (pt_cmpR op_gt (pv 3) pe_int (nomark _))
      (pss_cons (ps_if (pt_cmpR op_eq (pe_op op_mod (pv 3) pe_int) pe_int (nomark _))
      (pss_one (ps_set (i := 2) sc_turned.nd rfl (.inl rfl) (pe_op op_mod (pe_op op_mulX (pv 2) (pv 1)) (pv 0))))
      pss_nil)
      (pss_cons (ps_set (i := 1) sc_turned.nd rfl (.inl rfl) (pe_op op_mod (pe_op op_mulX (pv 1) (pv 1)) (pv 0)))
      (pss_one (ps_set (i := 3) sc_turned.nd rfl (.inl rfl) (pe_op op_fdivW (pv 3) pe_int))))))
      (pss_one (ps_ret (pv 2)))))), ?_⟩
    refine ⟨_, rfl, _, _, rfl, rfl, (by show (0 : Int) < p; omega), _, rfl, _, _, rfl, rfl, ?_⟩
    have e1 : (1 : Int) % (p : Int) = ((1 : Nat) : Int) := Int.emod_eq_of_lt (by decide) (by omega)
    have e2 : (p : Int) - 2 = ((p - 2 : Nat) : Int) := by omega
    dsimp only
    rw [e1, e2]
    refine ⟨fun m σ H' => ∃ (f b : Nat), f < p ∧ b < p ∧ f * b ^ m % p = a ^ (p - 2) % p ∧ σ = [some (.int p), some (.int b), some (.int f), some (.int m)] ∧ H' = H, ⟨p - 2, 1, a, by omega, ha, by rw [Nat.one_mul], rfl, rfl⟩, fun m σ H' hW => ?_⟩
    obtain ⟨f, b, hf, hb, he, rfl, rfl⟩ := hW
    refine ⟨_, rfl, _, _, rfl, rfl, _, rfl, ite2 (fun c => ?_) (fun c => ?_)⟩
    · have c : (0 : Int) < (m : Int) := of_decide_eq_true c
      have hm : 0 < m := by omega
      have hps := pow_step p f b m hm
      rw [he] at hps
      refine ⟨fun σ' H2 => ∃ (f b c : Nat), c < m ∧ f < p ∧ b < p ∧ f * b ^ c % p = a ^ (p - 2) % p ∧ σ' = [some (.int p), some (.int b), some (.int f), some (.int c)] ∧ H2 = H', fun σ' H2 hN => ?_, ?_⟩
      · obtain ⟨f2, b2, c2, h1, h2, h3, h4, h5, h6⟩ := hN
        exact ⟨c2, h1, f2, b2, h2, h3, h4, h5, h6⟩
      · refine ⟨_, rfl, _, _, rfl, rfl, (by show (0 : Int) < 2; decide), rfl, _, rfl, ite2 (fun o => ?_) (fun o => ?_)⟩
        · have o : V.int ((m : Int) % 2) = V.int 1 := of_decide_eq_true o
          have o2 : (m : Int) % 2 = 1 := V.int.inj o
          refine ⟨_, rfl, _, rfl, _, _, rfl, rfl, mul_small (by omega) (by omega), _, rfl, _, _, rfl, rfl, (by show (0 : Int) < p; omega), ?_⟩
          refine ⟨_, rfl, _, rfl, _, _, rfl, rfl, mul_small (by omega) (by omega), _, rfl, _, _, rfl, rfl, (by show (0 : Int) < p; omega), ?_⟩
          refine ⟨_, rfl, _, _, rfl, rfl, div_small (p := 2) (by decide) (by decide), f * b % p, b * b % p, m / 2, by omega, Nat.mod_lt _ (by omega), Nat.mod_lt _ (by omega), ?_, rfl, rfl⟩
          rw [if_pos (by omega)] at hps
          exact hps
        · have o2 : ¬ (m : Int) % 2 = 1 := fun z => o (decide_eq_true (congrArg V.int z))
          refine ⟨_, rfl, _, rfl, _, _, rfl, rfl, mul_small (by omega) (by omega), _, rfl, _, _, rfl, rfl, (by show (0 : Int) < p; omega), ?_⟩
          refine ⟨_, rfl, _, _, rfl, rfl, div_small (p := 2) (by decide) (by decide), f, b * b % p, m / 2, by omega, hf, Nat.mod_lt _ (by omega), ?_, rfl, rfl⟩
          rw [if_neg (by omega)] at hps
          exact hps
    · have c : ¬ (0 : Int) < (m : Int) := fun z => c (decide_eq_true z)
      have hm : m = 0 := by omega
      subst hm
      rw [Nat.pow_zero, Nat.mul_one, Nat.mod_eq_of_lt hf] at he
      refine ⟨_, rfl, ?_⟩
      rw [he]
      exact q
/-! ### product_of -/
def sp_product_of (K : PySem.W.Frag) : Sp := fun vs H Q _ => ∃ (p n : Nat) (t : Addr), vs = [.int p, .ref t, .int n] ∧ (2 ≤ p ∧ p ≤ 1000 ∧ n < 2 ^ 1000) ∧ SqL K H t (nV (tabs p p)) ∧ RetU [.int (ee p n), .int (cc p n)] H Q
theorem ok_product_of (T : Bi mg) (D : Df K mg "product_of" ps_product_of s_product_of) (O_figures_of : Ok P w K mg base CX0 1 "figures_of" ps_figures_of sp_figures_of) : Ok P w K mg base CX0 2 "product_of" ps_product_of (sp_product_of K) := by
  refine D.ok sc_product_of (fun vs H Q E h => ?_) (fun f cdv A outer s H vs Q E hr h => ?_)
  · obtain ⟨p, n, t, rfl, _⟩ := h; rfl
  · obtain ⟨p, n, t, rfl, ⟨hp, hp2, hn⟩, hT, q⟩ := h
    refine ⟨_, (pss_cons (ps_set (i := 3) sc_product_of.nd rfl (.inl rfl) (pe_callO O_figures_of hr (pa_cons (pv 0) (pa_cons (pv 2) pa_nil))))
      (pss_cons (ps_set (i := 4) sc_product_of.nd rfl (.inl rfl) (pe_op op_fdivW (pe_op op_sub (pv 2) (pe_callB (cr_sum rfl) (by rfl) T.sum (by decide +kernel) (pa_cons (pv 3) pa_nil))) (pe_op op_sub (pv 0) pe_int)))
      (pss_cons (ps_set (i := 5) sc_product_of.nd rfl (.inl rfl) (pe_op op_mod pe_int (pv 0)))
      (pss_cons (ps_for PassesOwn.never rfl (pi_list (pv 3)) (pg_name (i := 6) sc_product_of.nd rfl (.inl rfl))
      (pss_one (ps_set (i := 5) sc_product_of.nd rfl (.inl rfl) (pe_op op_mod (pe_op op_mulX (pv 5) (pe_ix (r := rIxL K) ix_list (pv 1) (pv 6) (fun _ _ => rfl))) (pv 0)))))
      (pss_one (ps_ret (pe_tup (pa_cons (pv 4) (pa_cons (pe_ifExp (pt_cmpR op_eq (pe_op op_mod (pv 4) pe_int) pe_int (nomark _)) (pv 5) (pe_op op_mod (pe_op op_sub (pv 0) (pv 5)) (pv 0))) pa_nil))))))))), ?_⟩
    refine ⟨_, rfl, _, rfl, p, n, rfl, ⟨hp, hp2, hn⟩, fun l H1 nl e1 hl => ?_⟩
    refine ⟨_, rfl, _, rfl, l, _, rfl, SqL.of (by rw [← nV_ints]; exact hl), _, _, rfl, rfl, _, rfl, _, _, rfl, rfl, _, _, rfl, rfl, ?_, ?_⟩
    · rw [show (p : Int) - 1 = ((p - 1 : Nat) : Int) by omega]
      exact div_small (by omega) (by omega)
    dsimp only
    rw [sum_cast, often_div hp]
    refine ⟨_, rfl, _, _, rfl, rfl, (by show (0 : Int) < p; omega), ?_⟩
    have e0 : (1 : Int) % (p : Int) = ((1 : Nat) : Int) := Int.emod_eq_of_lt (by decide) (by omega)
    dsimp only
    rw [e0]
    have hT1 : SqL K H1 t (nV (tabs p p)) := ex_l e1 hT
    refine ⟨_, rfl, l, rfl, ⟨_, SqL.of hl⟩, for_list (K := K) (a := l) (xs := nV (figs p n)) (fun i σ H' => ∃ y, σ = [some (.int p), some (.ref t), some (.int n), some (.ref l), some (.int (ee p n)), some (.int ((((figs p n).take i).foldl (fun c d => c * tab p d % p) 1 : Nat) : Int)), y] ∧ H' = H1)
      ⟨_, rfl, rfl⟩ (fun i σ H' _ ⟨_, _, e⟩ => by rw [e]; exact SqL.of hl) ?_ ?_⟩
    · rintro i x σ H' hi ⟨y, rfl, rfl⟩
      obtain ⟨d, hd, rfl⟩ := nV_get hi
      have hd2 : d < p := figs_small hp n d (List.mem_of_getElem? hd)
      have hf : ((figs p n).take i).foldl (fun c d => c * tab p d % p) 1 < p := by
        rw [foldl_core hp _ _ (by omega)]
        exact Nat.mod_lt _ (by omega)
      have ht := tab_lt hp d
      refine ⟨_, rfl, _, rfl, _, rfl, t, _, _, .int (tab p d), rfl, rfl, hT1, atI_nat (nV_at (tabs_get hd2)), _, _, rfl, rfl, mul_small (by omega) (by omega), _, rfl, _, _, rfl, rfl, (by show (0 : Int) < p; omega), some (.int d), ?_, rfl⟩
      rw [take_more hd, List.foldl_append]
      rfl
    · rintro σ H' ⟨y, rfl, rfl⟩
      have hlen : (nV (figs p n)).length = (figs p n).length := List.length_map _
      rw [hlen, List.take_length, foldl_core hp _ _ (by omega), Nat.one_mul]
      have hsg := sign_core (x := fp p (figs p n)) hp (ee p n)
      rw [← cc_fp hp] at hsg
      refine ⟨_, rfl, _, rfl, _, _, rfl, rfl, (by show (0 : Int) < 2; decide), rfl, _, rfl, ite2 (fun o => ?_) (fun o => ?_)⟩
      · have o : V.int ((ee p n : Int) % 2) = V.int 0 := of_decide_eq_true o
        have o2 : (ee p n : Int) % 2 = 0 := V.int.inj o
        rw [if_pos (by omega)] at hsg
        refine ⟨_, rfl, (by show 2 ≤ sizeLine; decide), fun u nu => ?_⟩
        rw [hsg]
        exact q u _ (fresh_back e1 nu) (e1.trans (Ex.new nu)) upd_same
      · have o2 : ¬ (ee p n : Int) % 2 = 0 := fun z => o (decide_eq_true (congrArg V.int z))
        rw [if_neg (by omega)] at hsg
        refine ⟨_, rfl, _, rfl, _, _, rfl, rfl, _, rfl, _, _, rfl, rfl, (by show (0 : Int) < p; omega), (by show 2 ≤ sizeLine; decide), fun u nu => ?_⟩
        refine q u _ (fresh_back e1 nu) (e1.trans (Ex.new nu)) ?_
        rw [upd_same, ← hsg]
        have hl2 := Nat.mod_lt (fp p (figs p n)) (show 0 < p by omega)
        rw [show (p : Int) - ((fp p (figs p n) % p : Nat) : Int) = ((p - fp p (figs p n) % p : Nat) : Int) by omega]
        rfl
end
end Cc

namespace Cc
open PySem PySem.Spec PyProof.Rows L2 Evl
/-! ### data: pairs and lists of whole numbers -/
theorem shaped2 (a b : Int) : SeqAt.shaped (.tuple [.int a, .int b]) = true := by simp [SeqAt.shaped, PyData.canLay0, PyData.canLayAll0, PyData.depth, PyData.depthAll]
theorem eqv2 (a b c d : Int) : PyData.eqv (.tuple [.int a, .int b]) (.tuple [.int c, .int d]) = (a == c && b == d) := by simp [PyData.eqv, PyData.eqvAll]
theorem eqv2_refl (a b : Int) : PyData.eqv (.tuple [.int a, .int b]) (.tuple [.int a, .int b]) = true := by simp [PyData.eqv, PyData.eqvAll]
theorem dp2 {K : PySem.W.Frag} {H : Hp} {u : Addr} {a b : Int} (h : H u = some (.tup [.int a, .int b])) : Dp K H (.ref u) (.tuple [.int a, .int b]) := .tup (SqT.of h) (.cons (.int _) (.cons (.int _) .nil))
def dI (l : List Nat) : List PyData := l.map fun (d : Nat) => .int (d : Int)
theorem dpAll {K : PySem.W.Frag} {H : Hp} : ∀ l : List Nat, DpAll K H (nV l) (dI l)
  | [] => .nil
  | d :: l => .cons (.int _) (dpAll l)
theorem dpL {K : PySem.W.Frag} {H : Hp} {a : Addr} {l : List Nat} (h : SqL K H a (nV l)) : Dp K H (.ref a) (.list (dI l)) := .lst h (dpAll l)
theorem lay_dI : ∀ l : List Nat, PyData.canLayAll0 (dI l) = true
  | [] => rfl
  | d :: l => by
    show PyData.canLayAll0 (.int d :: dI l) = true
    rw [PyData.canLayAll0, lay_dI l]; rfl
theorem depth_dI : ∀ l : List Nat, PyData.depthAll (dI l) = 0
  | [] => rfl
  | d :: l => by
    show PyData.depthAll (.int d :: dI l) = 0
    rw [PyData.depthAll, depth_dI l]; rfl
theorem shapedI (l : List Nat) : SeqAt.shaped (.list (dI l)) = true := by
  unfold SeqAt.shaped
  rw [PyData.canLay0, PyData.depth, lay_dI, depth_dI]
  rfl
theorem eqvI (l : List Nat) : PyData.eqv (.list (dI l)) (.list (dI l)) = true := SeqAt.eqv_refl _ (by rw [PyData.canLay0]; exact lay_dI l)
end Cc

namespace Cc
open PySem PySem.Spec PyProof.Rows L2 Evl
abbrev s_ways_of : Stmt := topS 20
abbrev N_ways_of : List Str := ["prime", "many", "some", "table", "often", "core", "part", "less", "other"]
abbrev ps_ways_of : List Str := ["prime", "many", "some"]
theorem sc_ways_of : FnScope N_ways_of ps_ways_of (defScope s_ways_of) := ⟨rfl, rfl, rfl, by decide +kernel, rfl, by decide +kernel, by decide +kernel⟩

section
variable {P : Program} {w : World} {K : PySem.W.Frag} {mg : Str → Option Value} {base : Heap}
/-! ### ways_of -/
def sp_ways_of : Sp := fun vs H Q _ => ∃ p n k : Nat, vs = [.int p, .int n, .int k] ∧ (2 ≤ p ∧ p ≤ 1000 ∧ n < 2 ^ 1000 ∧ k ≤ n) ∧ RetU [.int (wo p n k), .int (wc p n k)] H Q
/-- behind the first i parts -/
def wo_at (p n k : Nat) : Nat → Int
  | 0 => (ee p n : Int)
  | 1 => (ee p n : Int) - (ee p k : Int)
  | _ => wo p n k
def wc_at (p n k : Nat) : Nat → Nat
  | 0 => cc p n
  | 1 => cc p n * inv p (cc p k) % p
  | _ => wc p n k
def wp_at (n k : Nat) : Nat → Nat
  | 0 => k
  | _ => n - k
theorem wo_more (p n k i : Nat) (h : i < 2) : wo_at p n k i - (ee p (wp_at n k i) : Int) = wo_at p n k (i + 1) := by
  match i, h with
  | 0, _ => rfl
  | 1, _ => rfl
theorem wc_more (p n k i : Nat) (h : i < 2) : wc_at p n k i * inv p (cc p (wp_at n k i)) % p = wc_at p n k (i + 1) := by
  match i, h with
  | 0, _ => rfl
  | 1, _ => rfl
theorem wc_at_lt {p : Nat} (hp : 2 ≤ p) (n k : Nat) : ∀ i, wc_at p n k i < p
  | 0 => cc_lt hp n
  | 1 => Nat.mod_lt _ (by omega)
  | _ + 2 => wc_lt hp n k
theorem parts_get {n k : Nat} (hk : k ≤ n) {i : Nat} {x : V} (h : ([V.int (k : Int), V.int ((n : Int) - (k : Int))] : List V)[i]? = some x) : i < 2 ∧ x = .int (wp_at n k i : Nat) ∧ wp_at n k i ≤ n := by
  match i, h with
  | 0, h =>
    cases h
    exact ⟨by omega, rfl, hk⟩
  | 1, h =>
    cases h
    refine ⟨by omega, ?_, Nat.sub_le n k⟩
    show V.int ((n : Int) - (k : Int)) = V.int ((n - k : Nat) : Int)
    rw [show (n : Int) - (k : Int) = ((n - k : Nat) : Int) by omega]
  | i + 2, h => cases h
theorem ok_ways_of (D : Df K mg "ways_of" ps_ways_of s_ways_of) (O_table_of : Ok P w K mg base CX0 1 "table_of" ps_table_of sp_table_of) (O_product_of : Ok P w K mg base CX0 2 "product_of" ps_product_of (sp_product_of K)) (O_turned : Ok P w K mg base CX0 1 "turned" ps_turned sp_turned) : Ok P w K mg base CX0 3 "ways_of" ps_ways_of sp_ways_of := by
  refine D.ok sc_ways_of (fun vs H Q E h => ?_) (fun f cdv A outer s H vs Q E hr h => ?_)
  · obtain ⟨p, n, k, rfl, _⟩ := h; rfl
  · obtain ⟨p, n, k, rfl, ⟨hp, hp2, hn, hk⟩, q⟩ := h
    refine ⟨_, (pss_cons (ps_set (i := 3) sc_ways_of.nd rfl (.inl rfl) (pe_callO O_table_of hr (pa_cons (pv 0) pa_nil)))
      (pss_cons (ps_asg (pe_callO O_product_of hr (pa_cons (pv 0) (pa_cons (pv 3) (pa_cons (pv 1) pa_nil)))) (pg_tup rfl (pgs_cons (pg_name (i := 4) sc_ways_of.nd rfl (.inl rfl)) (pgs_cons (pg_name (i := 5) sc_ways_of.nd rfl (.inl rfl)) pgs_nil))))
      (pss_cons (ps_for PassesOwn.never rfl (pi_tup (pe_tup (pa_cons (pv 2) (pa_cons (pe_op op_sub (pv 1) (pv 2)) pa_nil)))) (pg_name (i := 6) sc_ways_of.nd rfl (.inl rfl))
      (pss_cons (ps_asg (pe_callO O_product_of hr (pa_cons (pv 0) (pa_cons (pv 3) (pa_cons (pv 6) pa_nil)))) (pg_tup rfl (pgs_cons (pg_name (i := 7) sc_ways_of.nd rfl (.inl rfl)) (pgs_cons (pg_name (i := 8) sc_ways_of.nd rfl (.inl rfl)) pgs_nil))))
      (pss_cons (ps_aug (i := 4) sc_ways_of.nd rfl (.inl rfl) (pv 7) ip_sub)
      (pss_one (ps_set (i := 5) sc_ways_of.nd rfl (.inl rfl) (pe_op op_mod (pe_op op_mulX (pv 5) (pe_callO O_turned hr (pa_cons (pv 0) (pa_cons (pv 8) pa_nil)))) (pv 0)))))))
      (pss_one (ps_ret (pe_tup (pa_cons (pv 4) (pa_cons (pv 5) pa_nil)))))))), ?_⟩
    refine ⟨_, rfl, p, rfl, ⟨hp, hp2⟩, fun t H1 nt e1 ht => ?_⟩
    refine ⟨_, rfl, _, rfl, _, rfl, p, n, t, rfl, ⟨hp, hp2, hn⟩, SqL.of ht, fun u H2 nu e2 hu => ?_⟩
    refine ⟨u, _, rfl, SqT.of hu, rfl, _, _, rfl, _, _, rfl, rfl, ?_⟩
    refine ⟨_, rfl, _, rfl, _, rfl, _, _, rfl, rfl, (by show 2 ≤ sizeLine; decide), fun v nv => ?_⟩
    refine ⟨v, rfl, ⟨_, SqT.of upd_same⟩, for_tup (K := K) (a := v) (xs := [V.int (k : Int), V.int ((n : Int) - (k : Int))]) (fun i σ H' => ∃ y6 y7 y8, σ = [some (.int p), some (.int n), some (.int k), some (.ref t), some (.int (wo_at p n k i)), some (.int (wc_at p n k i : Nat)), y6, y7, y8] ∧ Ex (upd H2 v (.tup [V.int (k : Int), V.int ((n : Int) - (k : Int))])) H')
      ⟨_, _, _, rfl, Ex.refl _⟩ (fun i σ H' _ ⟨_, _, _, _, e⟩ => SqT.of (e v _ upd_same)) ?_ ?_⟩
    · rintro i x σ H' hi ⟨y6, y7, y8, rfl, e3⟩
      obtain ⟨i2, rfl, hle⟩ := parts_get hk hi
      have e12 : Ex H1 H' := (e2.trans (Ex.new nv)).trans e3
      refine ⟨_, rfl, _, rfl, _, rfl, p, wp_at n k i, t, rfl, ⟨hp, hp2, by omega⟩, SqL.of (e12 t _ ht), fun u2 H4 nu4 e4 hu4 => ?_⟩
      refine ⟨u2, _, rfl, SqT.of hu4, rfl, _, _, rfl, _, _, rfl, rfl, ?_⟩
      refine ⟨_, rfl, _, rfl, _, _, rfl, rfl, ?_⟩
      have hc := wc_at_lt hp n k i
      have hv := inv_lt hp (cc p (wp_at n k i))
      refine ⟨_, rfl, _, rfl, _, rfl, p, cc p (wp_at n k i), rfl, ⟨hp, hp2, cc_lt hp _⟩, _, _, rfl, rfl, mul_small (by omega) (by omega), _, rfl, _, _, rfl, rfl, (by show (0 : Int) < p; omega), some (.int (wp_at n k i : Nat)), some (.int (ee p (wp_at n k i))), some (.int (cc p (wp_at n k i))), ?_, e3.trans e4⟩
      rw [← wo_more p n k i i2, ← wc_more p n k i i2]
      rfl
    · rintro σ H' ⟨y6, y7, y8, rfl, e3⟩
      refine ⟨_, rfl, _, rfl, (by show 2 ≤ sizeLine; decide), fun z nz => ?_⟩
      have e := ((e1.trans e2).trans (Ex.new nv)).trans e3
      exact q z _ (fresh_back e nz) (e.trans (Ex.new nz)) upd_same
end
end Cc

namespace Cc
open PySem PySem.Spec PyProof.Rows L2 Evl
open Builtin.Int (intBits)
abbrev s_figure_at : Stmt := topS 21
abbrev N_figure_at : List Str := ["some", "place"]
abbrev ps_figure_at : List Str := ["some", "place"]
theorem sc_figure_at : FnScope N_figure_at ps_figure_at (defScope s_figure_at) := ⟨rfl, rfl, rfl, by decide +kernel, rfl, by decide +kernel, by decide +kernel⟩

section
variable {P : Program} {w : World} {K : PySem.W.Frag} {mg : Str → Option Value} {base : Heap}
/-! ### figure_at -/
def sp_figure_at (K : PySem.W.Frag) : Sp := fun vs H Q _ => ∃ (a : Addr) (l : List Nat) (i : Nat), vs = [.ref a, .int i] ∧ SqL K H a (nV l) ∧ Q (.int (l.getD i 0 : Nat)) H
theorem ok_figure_at (T : Bi mg) (D : Df K mg "figure_at" ps_figure_at s_figure_at) : Ok P w K mg base CX0 1 "figure_at" ps_figure_at (sp_figure_at K) := by
  refine D.ok sc_figure_at (fun vs H Q E h => ?_) (fun f cdv A outer s H vs Q E hr h => ?_)
  · obtain ⟨a, l, i, rfl, _⟩ := h; rfl
  · obtain ⟨a, l, i, rfl, hS, q⟩ := h
    refine ⟨_, (pss_one (ps_ret (pe_ifExp (pt_cmpR op_lt (pv 1) (pe_callB call_len_seq (by rfl) T.len (by decide +kernel) (pa_cons (pv 0) pa_nil)) (nomark _)) (pe_ix (r := rIxL K) ix_list (pv 0) (pv 1) (fun _ _ => rfl)) pe_int))), ?_⟩
    have hlen : (nV l).length = l.length := List.length_map _
    refine ⟨_, rfl, _, rfl, a, _, rfl, .inl hS, _, _, rfl, rfl, _, rfl, ite2 (fun c => ?_) (fun c => ?_)⟩
    · have c : (i : Int) < ((nV l).length : Int) := of_decide_eq_true c
      have hi : i < l.length := by omega
      have e : l[i]? = some (l.getD i 0) := by rw [List.getD_eq_getElem?_getD, List.getElem?_eq_getElem hi]; rfl
      exact ⟨_, rfl, _, rfl, a, _, _, _, rfl, rfl, hS, atI_nat (nV_at e), q⟩
    · have c : ¬ (i : Int) < ((nV l).length : Int) := fun z => c (decide_eq_true z)
      have hi : l.length ≤ i := by omega
      have e : l.getD i 0 = 0 := by rw [List.getD_eq_getElem?_getD, List.getElem?_eq_none hi]; rfl
      rw [e] at q
      exact q
end
end Cc

namespace Cc
open PySem PySem.Spec PyProof.Rows L2 Evl
open Builtin.Int (intBits)
abbrev s_bound_at : Stmt := topS 27
abbrev N_bound_at : List Str := ["prime", "many", "some", "mine", "place", "figure"]
abbrev ps_bound_at : List Str := ["prime", "many", "some"]
theorem sc_bound_at : FnScope N_bound_at ps_bound_at (defScope s_bound_at) := ⟨rfl, rfl, rfl, by decide +kernel, rfl, by decide +kernel, by decide +kernel⟩

section
variable {P : Program} {w : World} {K : PySem.W.Frag} {mg : Str → Option Value} {base : Heap} {C_Free C_Bound : Addr}
/-! ### bound_at -/
def sp_bound_at : Sp := fun vs H Q _ => ∃ p n k : Nat, vs = [.int p, .int n, .int k] ∧ (2 ≤ p ∧ p ≤ 1000 ∧ n < 2 ^ 1000 ∧ k < 2 ^ 1000) ∧ ∀ H', Ex H H' → ((∀ i, dg p k i ≤ dg p n i) → Q (.int (-1)) H') ∧ ∀ i : Nat, dg p n i < dg p k i → Q (.int i) H'
theorem ok_bound_at (T : Bi mg) (D : Df K mg "bound_at" ps_bound_at s_bound_at) (O_figures_of : Ok P w K mg base CX0 1 "figures_of" ps_figures_of sp_figures_of) (O_figure_at : Ok P w K mg base CX0 1 "figure_at" ps_figure_at (sp_figure_at K)) : Ok P w K mg base CX0 2 "bound_at" ps_bound_at sp_bound_at := by
  refine D.ok sc_bound_at (fun vs H Q E h => ?_) (fun f cdv A outer s H vs Q E hr h => ?_)
  · obtain ⟨p, n, k, rfl, _⟩ := h; rfl
  · obtain ⟨p, n, k, rfl, ⟨hp, hp2, hn, hk⟩, q⟩ := h
    refine ⟨_, (pss_cons (ps_set (i := 3) sc_bound_at.nd rfl (.inl rfl) (pe_callO O_figures_of hr (pa_cons (pv 0) (pa_cons (pv 1) pa_nil))))
      (pss_cons (ps_for PassesOwn.never rfl (pi_enum (by rfl) T.enumerate (pa_cons (pe_callO O_figures_of hr (pa_cons (pv 0) (pa_cons (pv 2) pa_nil))) pa_nil)) (pg_tup rfl (pgs_cons (pg_name (i := 4) sc_bound_at.nd rfl (.inl rfl)) (pgs_cons (pg_name (i := 5) sc_bound_at.nd rfl (.inl rfl)) pgs_nil)))
      (pss_one (ps_if (pt_cmpR op_gt (pv 5) (pe_callO O_figure_at hr (pa_cons (pv 3) (pa_cons (pv 4) pa_nil))) (nomark _))
      (pss_one (ps_ret (pv 4)))
      pss_nil)))
      (pss_one (ps_ret (pe_un un_neg pe_int))))), ?_⟩
    refine ⟨_, rfl, _, rfl, p, n, rfl, ⟨hp, hp2, hn⟩, fun a H1 na e1 ha => ?_⟩
    refine ⟨_, rfl, _, rfl, p, k, rfl, ⟨hp, hp2, hk⟩, fun b H2 nb e2 hb => ?_⟩
    have ha2 := e2 a _ ha
    have hlen : (nV (figs p k)).length = (figs p k).length := List.length_map _
    refine ⟨b, _, rfl, SqL.of hb, for_it (walk_enum (K := K) (a := b) (xs := nV (figs p k))) (fun i σ' H' => (∃ y4 y5, σ' = [some (.int p), some (.int n), some (.int k), some (.ref a), y4, y5]) ∧ Ex H2 H' ∧ ∀ j, j < i → dg p k j ≤ dg p n j) ⟨⟨_, _, rfl⟩, Ex.refl _, fun j hj => by omega⟩ (fun i σ' H' _ ⟨_, e, _⟩ => SqL.of (e b _ hb)) ?_ ?_⟩
    · rintro i x σ' H' H'' hi ⟨⟨y4, y5, rfl⟩, e3, hle⟩ ⟨T1, x1, x2, rfl, nT, rfl, g1, g2⟩
      cases g1
      obtain ⟨d, hd, rfl⟩ := nV_get g2
      have hdg : dg p k i = d := by unfold dg; rw [List.getD_eq_getElem?_getD, hd]; rfl
      have e4 := e3.trans (Ex.new (o := .tup [.int (i : Nat), .int (d : Int)]) nT)
      refine ⟨T1, _, rfl, SqT.of upd_same, rfl, _, _, rfl, _, _, rfl, rfl, ?_⟩
      refine ⟨_, rfl, _, rfl, _, rfl, a, _, i, rfl, SqL.of (e4 a _ ha2), _, _, rfl, rfl, _, rfl, ite2 (fun c => ?_) (fun c => ?_)⟩
      · have c : (((figs p n).getD i 0 : Nat) : Int) < (d : Int) := of_decide_eq_true c
        refine ⟨_, rfl, (q _ ((e1.trans e2).trans e4)).2 i ?_⟩
        rw [hdg]
        unfold dg
        omega
      · have c : ¬ (((figs p n).getD i 0 : Nat) : Int) < (d : Int) := fun z => c (decide_eq_true z)
        refine ⟨⟨_, _, rfl⟩, e4, fun j hj => ?_⟩
        by_cases hji : j = i
        · subst hji
          rw [hdg]
          unfold dg
          omega
        · exact hle j (by omega)
    · rintro σ' H' ⟨⟨y4, y5, rfl⟩, e3, hle⟩
      refine ⟨1, rfl, (q H' ((e1.trans e2).trans e3)).1 fun i => ?_⟩
      by_cases hi : i < (nV (figs p k)).length
      · exact hle i hi
      · rw [hlen] at hi
        have : dg p k i = 0 := by unfold dg; rw [List.getD_eq_getElem?_getD, List.getElem?_eq_none (by omega)]; rfl
        rw [this]
        exact Nat.zero_le _
end
end Cc

namespace Cc
open PySem PySem.Spec PyProof.Rows L2 Evl
open Builtin.Int (intBits)
abbrev s__law_cell_at : Stmt := topS 36
abbrev N__law_cell_at : List Str := ["_law_script", "_law_k"]
abbrev ps__law_cell_at : List Str := ["_law_script", "_law_k"]
theorem sc__law_cell_at : FnScope N__law_cell_at ps__law_cell_at (defScope s__law_cell_at) := ⟨rfl, rfl, rfl, by decide +kernel, rfl, by decide +kernel, by decide +kernel⟩
abbrev s__law_draw : Stmt := topS 37
abbrev N__law_draw : List Str := ["_law_cell", "_law_k", "_law_many", "_law_primes"]
abbrev ps__law_draw : List Str := ["_law_cell", "_law_k", "_law_many"]
theorem sc__law_draw : FnScope N__law_draw ps__law_draw (defScope s__law_draw) := ⟨rfl, rfl, rfl, by decide +kernel, rfl, by decide +kernel, by decide +kernel⟩
abbrev s__law_value : Stmt := topS 38
abbrev N__law_value : List Str := ["_law_cell", "_law_k", "_law_limit"]
abbrev ps__law_value : List Str := ["_law_cell", "_law_k", "_law_limit"]
theorem sc__law_value : FnScope N__law_value ps__law_value (defScope s__law_value) := ⟨rfl, rfl, rfl, by decide +kernel, rfl, by decide +kernel, by decide +kernel⟩

theorem mul_bits {i j : Int} {a b : Nat} (ha : intBits i ≤ a) (hb : intBits j ≤ b) (h : a + b ≤ 134217728) : CMulX i j := by
  unfold CMulX
  omega
theorem bits_lt {i : Int} {a : Nat} (h : i.natAbs < 2 ^ a) : intBits i ≤ a := PyProof.Rows.intBits_le h
theorem bits_nat {n a : Nat} (h : n < 2 ^ a) : intBits (n : Int) ≤ a := bits_lt (by rw [Int.natAbs_natCast]; exact h)
theorem bits_small {n : Nat} (h : n ≤ 1000000) : intBits (n : Int) ≤ 20 := bits_nat (Nat.lt_of_le_of_lt h (by decide))
section
variable {P : Program} {w : World} {K : PySem.W.Frag} {mg : Str → Option Value} {base : Heap}
/-! ### the law's readers -/
def sp_cell_at (K : PySem.W.Frag) : Sp := fun vs H Q _ => ∃ (a : Addr) (ns : List Int) (k : Nat), vs = [.ref a, .int k] ∧ SqL K H a (ns.map V.int) ∧ Q (.int (ns.getD k 0)) H
theorem ok__law_cell_at (T : Bi mg) (D : Df K mg "_law_cell_at" ps__law_cell_at s__law_cell_at) : Ok P w K mg base CX0 1 "_law_cell_at" ps__law_cell_at (sp_cell_at K) := by
  refine D.ok sc__law_cell_at (fun vs H Q E h => ?_) (fun f cdv A outer s H vs Q E hr h => ?_)
  · obtain ⟨a, ns, k, rfl, _⟩ := h; rfl
  · obtain ⟨a, ns, k, rfl, hS, q⟩ := h
    refine ⟨_, (pss_cons (ps_if (pt_cmpR op_lt (pv 1) (pe_callB call_len_seq (by rfl) T.len (by decide +kernel) (pa_cons (pv 0) pa_nil)) (nomark _))
      (pss_one (ps_ret (pe_ix (r := rIxL K) ix_list (pv 0) (pv 1) (fun _ _ => rfl))))
      pss_nil)
      (pss_one (ps_ret pe_int))), ?_⟩
    have hlen : (ns.map V.int).length = ns.length := List.length_map _
    refine ⟨_, rfl, _, rfl, a, _, rfl, .inl hS, _, _, rfl, rfl, _, rfl, ite2 (fun c => ?_) (fun c => ?_)⟩
    · have c : (k : Int) < ((ns.map V.int).length : Int) := of_decide_eq_true c
      have hi : k < ns.length := by omega
      have e : ns[k]? = some (ns.getD k 0) := by rw [List.getD_eq_getElem?_getD, List.getElem?_eq_getElem hi]; rfl
      exact ⟨_, rfl, _, rfl, a, _, _, _, rfl, rfl, hS, atI_nat (by rw [List.getElem?_map, e]; rfl), q⟩
    · have c : ¬ (k : Int) < ((ns.map V.int).length : Int) := fun z => c (decide_eq_true z)
      have e : ns.getD k 0 = 0 := by rw [List.getD_eq_getElem?_getD, List.getElem?_eq_none (by omega)]; rfl
      rw [e] at q
      exact q
def drP : List Int := [1000003, 1000033, 1000037, 1000039, 1000081, 1000099, 1000117, 1000121, 1000133, 1000151, 1000159, 1000171, 1000183, 1000187, 1000193, 1000199]
theorem drP_at {j : Nat} (h : j < 16) : ∃ z : Int, (drP.map V.int)[j]? = some (.int z) ∧ 0 < z := by
  have h1 : ∀ j, j < 16 → 0 < drP.getD j 0 := by decide
  have hl : j < drP.length := h
  refine ⟨drP.getD j 0, ?_, h1 j h⟩
  rw [List.getElem?_map, List.getD_eq_getElem?_getD, List.getElem?_eq_getElem hl]; rfl
def sp_draw : Sp := fun vs H Q _ => ∃ (c : Int) (k m : Nat), vs = [.int c, .int k, .int m] ∧ (intBits c ≤ 4000000 ∧ k ≤ 1000 ∧ 0 < m) ∧ ∀ r : Nat, r < m → RetV (.int r) H Q
theorem ok__law_draw (D : Df K mg "_law_draw" ps__law_draw s__law_draw) : Ok P w K mg base CX0 1 "_law_draw" ps__law_draw sp_draw := by
  refine D.ok sc__law_draw (fun vs H Q E h => ?_) (fun f cdv A outer s H vs Q E hr h => ?_)
  · obtain ⟨c, k, m, rfl, _⟩ := h; rfl
  · obtain ⟨c, k, m, rfl, ⟨hc, hk, hm⟩, q⟩ := h
    refine ⟨_, (pss_cons (ps_set (i := 3) sc__law_draw.nd rfl (.inl rfl) (pe_tup (pa_cons pe_int (pa_cons pe_int (pa_cons pe_int (pa_cons pe_int (pa_cons pe_int (pa_cons pe_int (pa_cons pe_int (pa_cons pe_int (pa_cons pe_int (pa_cons pe_int (pa_cons pe_int (pa_cons pe_int (pa_cons pe_int (pa_cons pe_int (pa_cons pe_int (pa_cons pe_int pa_nil))))))))))))))))))
      (pss_one (ps_ret (pe_op op_mod (pe_op op_mod (pe_op op_add (pe_op op_mulX (pv 0) pe_int) (pe_op op_mulX (pv 1) pe_int)) (pe_ix (r := rIxT K) ix_tup (pv 3) (pe_op op_mod (pv 1) pe_int) (fun _ _ => rfl))) (pv 2))))), ?_⟩
    refine ⟨by show 16 ≤ sizeLine; decide, fun t nt => ?_⟩
    obtain ⟨z, hz, hz0⟩ := drP_at (show k % 16 < 16 by omega)
    refine ⟨_, rfl, _, _, rfl, rfl, mul_bits hc (bits_small (n := 48271) (by decide)) (by decide), _, rfl, _, _, rfl, rfl, mul_bits (bits_small (n := k) (by omega)) (bits_small (n := 69621) (by decide)) (by decide), _, _, rfl, rfl, ?_⟩
    refine ⟨_, rfl, _, rfl, _, _, rfl, rfl, (by show (0 : Int) < 16; decide), t, drP.map V.int, _, .int z, rfl, rfl, SqT.of upd_same, atI_nat (j := k % 16) hz, _, _, rfl, rfl, hz0, _, rfl, _, _, rfl, rfl, (by show (0 : Int) < m; omega), ?_⟩
    obtain ⟨r, hr⟩ := Int.eq_ofNat_of_zero_le (Int.emod_nonneg ((c * 48271 + k * 69621) % z) (show (m : Int) ≠ 0 by omega))
    have hlt := Int.emod_lt_of_pos ((c * 48271 + k * 69621) % z) (show (0 : Int) < m by omega)
    have hr2 : ((c * 48271 + (k : Int) * 69621) % z) % (m : Int) = (r : Int) := hr
    rw [hr2] at hlt
    show Q (.int (((c * 48271 + (k : Int) * 69621) % z) % (m : Int))) _
    rw [hr2]
    exact q r (by omega) _ (Ex.new nt)
def sp_value : Sp := fun vs H Q _ => ∃ (c : Int) (k m : Nat), vs = [.int c, .int k, .int m] ∧ (intBits c ≤ 1048576 ∧ k ≤ 1000 ∧ 0 < m ∧ m ≤ 900000) ∧ ∀ r : Nat, r < 2 ^ 140 → RetV (.int r) H Q
theorem ok__law_value (D : Df K mg "_law_value" ps__law_value s__law_value) (O__law_draw : Ok P w K mg base CX0 1 "_law_draw" ps__law_draw sp_draw) : Ok P w K mg base CX0 2 "_law_value" ps__law_value sp_value := by
  refine D.ok sc__law_value (fun vs H Q E h => ?_) (fun f cdv A outer s H vs Q E hr h => ?_)
  · obtain ⟨c, k, m, rfl, _⟩ := h; rfl
  · obtain ⟨c, k, m, rfl, ⟨hc, hk, hm, hm2⟩, q⟩ := h
    refine ⟨_, (pss_cons (ps_if (pt_cmpR op_ge (pv 0) (pe_op op_pow pe_int pe_int) (nomark _))
      (pss_one (ps_ret (pe_op op_mod (pe_op op_sub (pv 0) (pe_op op_pow pe_int pe_int)) (pe_op op_pow pe_int pe_int))))
      pss_nil)
      (pss_one (ps_ret (pe_callO O__law_draw hr (pa_cons (pe_op op_mulX (pe_op op_add (pv 0) (pe_op op_mulX pe_int (pv 1))) (pe_op op_add (pe_op op_add (pv 0) (pe_op op_mulX pe_int (pv 1))) pe_int)) (pa_cons (pe_op op_add (pe_op op_mod (pv 1) pe_int) pe_int) (pa_cons (pv 2) pa_nil))))))), ?_⟩
    refine ⟨_, rfl, _, _, rfl, rfl, ⟨by decide, by decide, by decide⟩, _, _, rfl, rfl, _, rfl, ite2 (fun _ => ?_) (fun _ => ?_)⟩
    · refine ⟨_, rfl, _, _, rfl, rfl, ⟨by decide, by decide, by decide⟩, _, _, rfl, rfl, _, _, rfl, rfl, ⟨by decide, by decide, by decide⟩, _, _, rfl, rfl, (by show (0 : Int) < 10 ^ 40; decide), ?_⟩
      obtain ⟨r, hr⟩ := Int.eq_ofNat_of_zero_le (Int.emod_nonneg (c - 10 ^ (18 : Nat)) (show (10 : Int) ^ (40 : Nat) ≠ 0 by decide))
      have hlt := Int.emod_lt_of_pos (c - 10 ^ (18 : Nat)) (show (0 : Int) < 10 ^ (40 : Nat) by decide)
      rw [hr] at hlt
      show Q (.int ((c - 10 ^ (18 : Nat)) % 10 ^ (40 : Nat))) _
      rw [hr]
      refine q r ?_ _ (Ex.refl H)
      have : ((10 : Int) ^ (40 : Nat)) = ((10 ^ 40 : Nat) : Int) := by decide
      rw [this] at hlt
      exact Nat.lt_trans (Int.ofNat_lt.mp hlt) (by decide)
    · have bk : intBits ((977 : Int) * (k : Int)) ≤ 30 := intBits_mul_le (m := 10) (n := 20) (bits_nat (n := 977) (by decide)) (bits_small (by omega))
      have bk2 : intBits ((31 : Int) * (k : Int)) ≤ 30 := intBits_mul_le (m := 10) (n := 20) (bits_nat (n := 31) (by decide)) (bits_small (by omega))
      have b1 : intBits (c + 977 * (k : Int)) ≤ 1048577 := Nat.le_trans (intBits_add_le hc bk) (by decide)
      have b2 : intBits (c + 31 * (k : Int)) ≤ 1048577 := Nat.le_trans (intBits_add_le hc bk2) (by decide)
      have b3 : intBits (c + 31 * (k : Int) + 5) ≤ 1048578 := Nat.le_trans (intBits_add_le b2 (bits_nat (n := 5) (a := 10) (by decide))) (by decide)
      have b4 : intBits ((c + 977 * (k : Int)) * (c + 31 * (k : Int) + 5)) ≤ 4000000 := Nat.le_trans (intBits_mul_le b1 b3) (by decide)
      refine ⟨_, rfl, _, rfl, _, _, rfl, rfl, mul_bits (a := 10) (b := 20) (bits_nat (n := 977) (by decide)) (bits_small (by omega)) (by decide), _, _, rfl, rfl, _, rfl, _, rfl, _, _, rfl, rfl, mul_bits (a := 10) (b := 20) (bits_nat (n := 31) (by decide)) (bits_small (by omega)) (by decide), _, _, rfl, rfl, _, _, rfl, rfl, _, _, rfl, rfl, mul_bits b1 b3 (by decide), ?_⟩
      refine ⟨_, rfl, _, _, rfl, rfl, (by show (0 : Int) < 9; decide), _, _, rfl, rfl, _, rfl, _, k % 9 + 1, m, rfl, ⟨b4, by omega, hm⟩, fun r hr => ?_⟩
      exact q r (Nat.lt_trans hr (Nat.lt_of_le_of_lt hm2 (by decide)))
end
end Cc

namespace Cc
open PySem PySem.Spec PyProof.Rows L2 Evl
open Builtin.Int (intBits)
abbrev s__law_figures : Stmt := topS 39
abbrev N__law_figures : List Str := ["_law_prime", "_law_many", "_law_found"]
abbrev ps__law_figures : List Str := ["_law_prime", "_law_many"]
theorem sc__law_figures : FnScope N__law_figures ps__law_figures (defScope s__law_figures) := ⟨rfl, rfl, rfl, by decide +kernel, rfl, by decide +kernel, by decide +kernel⟩
abbrev s__law_worth : Stmt := topS 40
abbrev N__law_worth : List Str := ["_law_prime", "_law_told_by", "_law_found", "_law_figure"]
abbrev ps__law_worth : List Str := ["_law_prime", "_law_told_by"]
theorem sc__law_worth : FnScope N__law_worth ps__law_worth (defScope s__law_worth) := ⟨rfl, rfl, rfl, by decide +kernel, rfl, by decide +kernel, by decide +kernel⟩
abbrev s__law_pair : Stmt := topS 41
abbrev N__law_pair : List Str := ["_law_script", "_law_k", "_law_prime", "_law_kind", "_law_limit", "_law_many", "_law_drawn", "_law_some", "_law_less", "_law_at", "_law_figure", "_law_power"]
abbrev ps__law_pair : List Str := ["_law_script", "_law_k", "_law_prime"]
theorem sc__law_pair : FnScope N__law_pair ps__law_pair (defScope s__law_pair) := ⟨rfl, rfl, rfl, by decide +kernel, rfl, by decide +kernel, by decide +kernel⟩

section
variable {P : Program} {w : World} {K : PySem.W.Frag} {mg : Str → Option Value} {base : Heap}
/-- any([f % part == 0 for part in range(2, 32) if part < f]) -/
theorem any_parts {σ : L2.St} {H : Hp} {Q : VK} {f i j : Nat} (hi : σ[i]? = some (some (.int f))) (hij : j ≠ i) (hj : j < σ.length) (q : ∀ H', Ex H H' → Q (.bl (!isP f)) H') :
    tCB (rAny K) (tCons (tLc (iRng2 (tCons (tC (.int 2)) (tCons (tC (.int 32)) tNil))) (gName j) (tTest (tOp (rI0 fun i j => .bl (decide (i < j))) (tVar j) (tVar i))) (tOp rEq (tOp (rI (fun _ j => 0 < j) fun i j => .int (i % j)) (tVar i) (tVar j)) (tC (.int 0))) [j]) tNil) σ H Q := by
  refine ⟨2, 32, rfl, ⟨by decide, by decide, by decide, by decide⟩, fun D nD => lc_range (lo := 2) (n := 30) (fun n H' => ∃ bs : List Bool, H' D = some (.lst (bs.map V.bl)) ∧ bs.any id = anyP f n ∧ bs.length ≤ n ∧ Ex H H') ⟨[], upd_same, rfl, Nat.le_refl _, Ex.new nD⟩ ?_ ?_⟩
  · rintro n H' hn ⟨bs, h1, h2, h3, h4⟩
    have hw : wipe σ [j] = σ.set j none := rfl
    have hl : (σ.set j none).length = σ.length := List.length_set
    show wipe ((wipe σ [j]).set j (some (.int (2 + (n : Int))))) [j] = wipe σ [j] ∧ _
    have e1 : ((wipe σ [j]).set j (some (.int (2 + (n : Int)))))[j]? = some (some (.int (2 + (n : Int)))) := by
      rw [hw, List.getElem?_set_self (by omega)]
    have e2 : ((wipe σ [j]).set j (some (.int (2 + (n : Int)))))[i]? = some (some (.int f)) := by
      rw [hw, List.getElem?_set_ne hij, List.getElem?_set_ne hij, hi]
    refine ⟨?_, _, e1, _, e2, _, _, rfl, rfl, _, rfl, ite2 (fun c => ?_) (fun c => ?_)⟩
    · rw [hw]
      show ((σ.set j none).set j _).set j none = σ.set j none
      rw [List.set_set, List.set_set]
    · have c : (2 : Int) + (n : Int) < (f : Int) := of_decide_eq_true c
      refine ⟨_, e2, _, e1, _, _, rfl, rfl, (by show (0 : Int) < 2 + (n : Int); omega), rfl, bs.map V.bl, h1, sz_lt (by rw [List.length_map]; omega), bs ++ [decide (f % (n + 2) = 0)], ?_, ?_, by rw [List.length_append]; exact Nat.succ_le_succ h3, Ex.mut h4 nD⟩
      · rw [upd_same, List.map_append]
        refine congrArg (fun z => some (HO.lst (bs.map V.bl ++ [V.bl z]))) (decide_eq_decide.mpr ?_)
        rw [show (2 : Int) + (n : Int) = ((n + 2 : Nat) : Int) by omega]
        constructor
        · intro z
          have z2 : ((f % (n + 2) : Nat) : Int) = 0 := V.int.inj z
          omega
        · intro z
          show V.int ((f % (n + 2) : Nat) : Int) = V.int 0
          rw [z]; rfl
      · rw [anyP_succ, List.any_append, h2, decide_eq_true (show n + 2 < f by omega)]
        simp
        rfl
    · have c : ¬ (2 : Int) + (n : Int) < (f : Int) := fun z => c (decide_eq_true z)
      refine ⟨bs, h1, ?_, by omega, h4⟩
      rw [anyP_succ, h2, decide_eq_false (show ¬ n + 2 < f by omega), Bool.false_and, Bool.or_false]
  · rintro H' ⟨bs, h1, h2, h3, h4⟩
    refine ⟨D, bs, rfl, SqL.of h1, ?_⟩
    rw [h2, anyP_isP]
    exact q H' h4
/-! ### _law_figures -/
theorem ok__law_figures (D : Df K mg "_law_figures" ps__law_figures s__law_figures) : Ok P w K mg base CX0 1 "_law_figures" ps__law_figures sp_figures_of := by
  refine D.ok sc__law_figures (fun vs H Q E h => ?_) (fun f cdv A outer s H vs Q E hr h => ?_)
  · obtain ⟨p, n, rfl, _⟩ := h; rfl
  · obtain ⟨p, n, rfl, ⟨hp, hp2, hn⟩, q⟩ := h
    refine ⟨_, (pss_cons (ps_set (i := 2) sc__law_figures.nd rfl (.inl rfl) (pe_lst pa_nil))
      (pss_cons (ps_while PassesOwn.never (pt_cmpR op_gt (pv 1) pe_int (nomark _))
      (pss_cons (ps_expr (pe_bm PySem.F.plainAttrs_list PySem.F.slot_list_append PySem.F.type_list_append mt_append (pv 2) (pa_cons (pe_op op_mod (pv 1) (pv 0)) pa_nil)))
      (pss_one (ps_set (i := 1) sc__law_figures.nd rfl (.inl rfl) (pe_op op_fdivW (pv 1) (pv 0))))))
      (pss_one (ps_ret (pv 2))))), ?_⟩
    refine ⟨Nat.zero_le _, fun l nl => ?_⟩
    refine ⟨fun m σ H' => ∃ (n' : Nat) (done : List Nat), m = n' ∧ σ = [some (.int p), some (.int n'), some (.ref l)] ∧ figs p n = done ++ figs p n' ∧ Ex H H' ∧ H' l = some (.lst (nV done)), ⟨n, n, [], rfl, rfl, rfl, Ex.new nl, upd_same⟩, fun m σ H' hW => ?_⟩
    obtain ⟨n', done, rfl, rfl, e1, e2, e3⟩ := hW
    refine ⟨_, rfl, _, _, rfl, rfl, _, rfl, ite2 (fun c => ?_) (fun c => ?_)⟩
    · have c : (0 : Int) < (m : Int) := of_decide_eq_true c
      have hm : 0 < m := by omega
      refine ⟨fun σ' H2 => ∃ (n' : Nat) (done : List Nat), n' < m ∧ σ' = [some (.int p), some (.int n'), some (.ref l)] ∧ figs p n = done ++ figs p n' ∧ Ex H H2 ∧ H2 l = some (.lst (nV done)), fun σ' H2 hN => ?_, ?_⟩
      · obtain ⟨n2, d2, h1, h2, h3, h4, h5⟩ := hN
        exact ⟨n2, h1, n2, d2, rfl, h2, h3, h4, h5⟩
      · have hlen : done.length < 100000 := by
          have h1 := figs_len_le hp n 1000 hn
          rw [e1, List.length_append] at h1
          omega
        refine ⟨_, rfl, .inl ⟨rfl, _, SqL.of e3⟩, _, rfl, _, rfl, _, _, rfl, rfl, (by show (0 : Int) < p; omega), l, _, _, rfl, rfl, e3, sz_lt (by rw [List.length_map]; exact hlen), ?_⟩
        refine ⟨_, rfl, _, rfl, _, _, rfl, rfl, div_small (by omega) hp2, m / p, done ++ [m % p], div_lt hp hm, rfl, ?_, Ex.mut e2 nl, ?_⟩
        · rw [e1, figs_pos hp hm, List.append_assoc]; rfl
        · rw [upd_same, ← nV_app]; rfl
    · have c : ¬ (0 : Int) < (m : Int) := fun z => c (decide_eq_true z)
      have hm : m = 0 := by omega
      subst hm
      rw [figs_zero, List.append_nil] at e1
      rw [← e1] at e3
      exact ⟨_, rfl, q l H' nl e2 e3⟩
/-! ### _law_worth -/
def sp_worth (K : PySem.W.Frag) : Sp := fun vs H Q _ => ∃ (p : Nat) (a : Addr) (l : List Nat), vs = [.int p, .ref a] ∧ (2 ≤ p ∧ p ≤ 1000 ∧ l.length ≤ 1000 ∧ ∀ d ∈ l, d < p) ∧ SqL K H a (nV l) ∧ RetV (.int (wv p l : Nat)) H Q
theorem ok__law_worth (D : Df K mg "_law_worth" ps__law_worth s__law_worth) : Ok P w K mg base CX0 1 "_law_worth" ps__law_worth (sp_worth K) := by
  refine D.ok sc__law_worth (fun vs H Q E h => ?_) (fun f cdv A outer s H vs Q E hr h => ?_)
  · obtain ⟨p, a, l, rfl, _⟩ := h; rfl
  · obtain ⟨p, a, l, rfl, ⟨hp, hp2, hl, hd⟩, hS, q⟩ := h
    refine ⟨_, (pss_cons (ps_set (i := 2) sc__law_worth.nd rfl (.inl rfl) pe_int)
      (pss_cons (ps_for PassesOwn.never rfl (pi_list (pe_revL (pv 1))) (pg_name (i := 3) sc__law_worth.nd rfl (.inl rfl))
      (pss_one (ps_set (i := 2) sc__law_worth.nd rfl (.inl rfl) (pe_op op_add (pe_op op_mulX (pv 2) (pv 0)) (pv 3)))))
      (pss_one (ps_ret (pv 2))))), ?_⟩
    have er : (nV l).reverse = nV l.reverse := by unfold nV; rw [List.map_reverse]
    refine ⟨_, rfl, a, _, rfl, hS, fun b nb => ?_⟩
    refine ⟨b, rfl, ⟨_, SqL.of upd_same⟩, for_list (K := K) (a := b) (xs := nV l.reverse) (fun i σ H' => ∃ y, σ = [some (.int p), some (.ref a), some (.int ((l.reverse.take i).foldl (fun a d => a * p + d) 0 : Nat)), y] ∧ H' = upd H b (.lst (nV l.reverse)))
      ⟨_, rfl, by rw [er]⟩ (fun i σ H' _ ⟨_, _, e⟩ => by rw [e]; exact SqL.of upd_same) ?_ ?_⟩
    · rintro i x σ H' hi ⟨y, rfl, rfl⟩
      obtain ⟨d, hd1, rfl⟩ := nV_get hi
      have hil : i < l.reverse.length := (List.getElem?_eq_some_iff.mp hd1).1
      have hb : (l.reverse.take i).foldl (fun a d => a * p + d) 0 < 2 ^ 10000 := by
        have h1 := fold_lt hp (l.reverse.take i) 0 0 (fun d h => hd d (List.mem_reverse.mp (List.mem_of_mem_take h))) (by rw [Nat.pow_zero]; omega)
        rw [Nat.zero_add, List.length_take] at h1
        have h2 : min i l.reverse.length ≤ 1000 := by rw [List.length_reverse]; omega
        generalize (l.reverse.take i).foldl (fun a d => a * p + d) 0 = z at h1 ⊢
        have h3 : p ^ min i l.reverse.length ≤ 1024 ^ min i l.reverse.length := Nat.pow_le_pow_left (by omega) _
        have h4 : 1024 ^ min i l.reverse.length ≤ 1024 ^ 1000 := Nat.pow_le_pow_right (by decide) h2
        have h5 : (1024 : Nat) ^ 1000 = 2 ^ 10000 := by rw [show (1024 : Nat) = 2 ^ 10 by decide, ← Nat.pow_mul]
        rw [← h5]
        exact Nat.lt_of_lt_of_le h1 (Nat.le_trans h3 h4)
      refine ⟨_, rfl, _, rfl, _, _, rfl, rfl, mul_bits (bits_nat hb) (bits_small (n := p) (by omega)) (by decide), _, rfl, _, _, rfl, rfl, some (.int d), ?_, rfl⟩
      rw [take_more hd1, List.foldl_append]
      rfl
    · rintro σ H' ⟨y, rfl, rfl⟩
      have hlen : (nV l.reverse).length = l.reverse.length := List.length_map _
      rw [hlen, List.take_length, wv_rev]
      exact ⟨_, rfl, q _ (Ex.new nb)⟩
end
end Cc

namespace Cc
open PySem PySem.Spec PyProof.Rows L2 Evl
open Builtin.Int (intBits)
theorem mod18_bits (x : Int) : intBits (x % (10 : Int) ^ (Int.toNat 18)) ≤ 60 := by
  obtain ⟨c, hc⟩ := Int.eq_ofNat_of_zero_le (Int.emod_nonneg x (show (10 : Int) ^ (18 : Nat) ≠ 0 by decide))
  have hlt := Int.emod_lt_of_pos x (show (0 : Int) < 10 ^ (18 : Nat) by decide)
  show intBits (x % (10 : Int) ^ (18 : Nat)) ≤ 60
  rw [hc] at hlt ⊢
  refine bits_nat ?_
  have : ((10 : Int) ^ (18 : Nat)) = ((10 ^ 18 : Nat) : Int) := by decide
  rw [this] at hlt
  exact Nat.lt_trans (Int.ofNat_lt.mp hlt) (by decide)
theorem getD_bits {ns : List Int} (hb : ∀ z ∈ ns, intBits z ≤ 1048576) (i : Nat) : intBits (ns.getD i 0) ≤ 1048576 := by
  rw [List.getD_eq_getElem?_getD]
  cases e : ns[i]? with
  | none => exact Nat.le_trans (bits_small (n := 0) (by decide)) (by decide)
  | some z => exact hb z (List.mem_of_getElem? e)
theorem getD_app (l : List Nat) (z j : Nat) : (l ++ [z]).getD j 0 = if j = l.length then z else l.getD j 0 := by
  rw [List.getD_eq_getElem?_getD, List.getD_eq_getElem?_getD]
  by_cases h : j = l.length
  · rw [if_pos h, h, List.getElem?_append_right (Nat.le_refl _), Nat.sub_self]; rfl
  · rw [if_neg h]
    by_cases h2 : j < l.length
    · rw [List.getElem?_append_left h2]
    · rw [List.getElem?_append_right (by omega), List.getElem?_eq_none (by rw [List.length_singleton]; omega), List.getElem?_eq_none (by omega)]
section
variable {P : Program} {w : World} {K : PySem.W.Frag} {mg : Str → Option Value} {base : Heap}
def sp_pair (K : PySem.W.Frag) : Sp := fun vs H Q _ => ∃ (a : Addr) (ns : List Int) (k p : Nat), vs = [.ref a, .int k, .int p] ∧ (SqL K H a (ns.map V.int) ∧ (∀ z ∈ ns, intBits z ≤ 1048576) ∧ k ≤ 100 ∧ 2 ≤ p ∧ p ≤ 1000) ∧ ∀ n s : Nat, s ≤ n → n < 2 ^ 150 → RetU [.int n, .int s] H Q
theorem ok__law_pair (T : Bi mg) (D : Df K mg "_law_pair" ps__law_pair s__law_pair) (O__law_cell_at : Ok P w K mg base CX0 1 "_law_cell_at" ps__law_cell_at (sp_cell_at K)) (O__law_draw : Ok P w K mg base CX0 1 "_law_draw" ps__law_draw sp_draw) (O__law_value : Ok P w K mg base CX0 2 "_law_value" ps__law_value sp_value) (O__law_figures : Ok P w K mg base CX0 1 "_law_figures" ps__law_figures sp_figures_of) (O__law_worth : Ok P w K mg base CX0 1 "_law_worth" ps__law_worth (sp_worth K)) : Ok P w K mg base CX0 3 "_law_pair" ps__law_pair (sp_pair K) := by
  refine D.ok sc__law_pair (fun vs H Q E h => ?_) (fun f cdv A outer s H vs Q E hr h => ?_)
  · obtain ⟨a, ns, k, p, rfl, _⟩ := h; rfl
  · obtain ⟨a, ns, k, p, rfl, ⟨hS, hb, hk, hp, hp2⟩, q⟩ := h
    refine ⟨_, (pss_cons (ps_set (i := 3) sc__law_pair.nd rfl (.inl rfl) (pe_callO O__law_draw hr (pa_cons (pe_op op_add (pe_op op_mod (pe_callO O__law_cell_at hr (pa_cons (pv 0) (pa_cons (pe_op op_add (pv 1) pe_int) pa_nil))) (pe_op op_pow pe_int pe_int)) (pv 1)) (pa_cons pe_int (pa_cons pe_int pa_nil)))))
      (pss_cons (ps_set (i := 4) sc__law_pair.nd rfl (.inl rfl) (pe_ix (r := rIxT K) ix_tup (pe_tup (pa_cons pe_int (pa_cons pe_int (pa_cons pe_int pa_nil)))) (pe_callO O__law_draw hr (pa_cons (pe_op op_mod (pe_callO O__law_cell_at hr (pa_cons (pv 0) (pa_cons (pe_op op_add (pv 1) pe_int) pa_nil))) (pe_op op_pow pe_int pe_int)) (pa_cons pe_int (pa_cons pe_int pa_nil)))) (fun _ _ => rfl)))
      (pss_cons (ps_set (i := 5) sc__law_pair.nd rfl (.inl rfl) (pe_callO O__law_value hr (pa_cons (pe_callO O__law_cell_at hr (pa_cons (pv 0) (pa_cons (pe_op op_add (pv 1) pe_int) pa_nil))) (pa_cons (pe_op op_add (pv 1) pe_int) (pa_cons (pv 4) pa_nil)))))
      (pss_cons (ps_set (i := 6) sc__law_pair.nd rfl (.inl rfl) (pe_callO O__law_value hr (pa_cons (pe_callO O__law_cell_at hr (pa_cons (pv 0) (pa_cons (pe_op op_add (pv 1) pe_int) pa_nil))) (pa_cons (pe_op op_add (pv 1) pe_int) (pa_cons pe_int pa_nil)))))
      (pss_cons (ps_set (i := 7) sc__law_pair.nd rfl (.inl rfl) (pe_op op_mod (pv 6) (pe_op op_add (pv 5) pe_int)))
      (pss_cut (ps_if (pt_cmpR op_lt (pv 3) pe_int (nomark _))
      (pss_cons (ps_set (i := 8) sc__law_pair.nd rfl (.inl rfl) (pe_lst pa_nil))
      (pss_cons (ps_for PassesOwn.never rfl (pi_enum (by rfl) T.enumerate (pa_cons (pe_callO O__law_figures hr (pa_cons (pv 2) (pa_cons (pv 5) pa_nil))) pa_nil)) (pg_tup rfl (pgs_cons (pg_name (i := 9) sc__law_pair.nd rfl (.inl rfl)) (pgs_cons (pg_name (i := 10) sc__law_pair.nd rfl (.inl rfl)) pgs_nil)))
      (pss_one (ps_expr (pe_bm PySem.F.plainAttrs_list PySem.F.slot_list_append PySem.F.type_list_append mt_append (pv 8) (pa_cons (pe_op op_mod (pe_op op_add (pe_op op_add (pv 6) (pe_op op_mulX (pe_op op_mulX pe_int (pv 9)) (pv 9))) (pe_op op_fdivW (pv 6) (pe_op op_add (pv 9) pe_int))) (pe_op op_add (pv 10) pe_int)) pa_nil)))))
      (pss_one (ps_set (i := 7) sc__law_pair.nd rfl (.inl rfl) (pe_callO O__law_worth hr (pa_cons (pv 2) (pa_cons (pv 8) pa_nil)))))))
      pss_nil)
      (pss_cut (ps_if (pt_cmpR op_eq (pv 3) pe_int (nomark _))
      (pss_cons (ps_set (i := 11) sc__law_pair.nd rfl (.inl rfl) (pv 2))
      (pss_cons (ps_while PassesOwn.never (pt_cmpR op_le (pe_op op_mulX (pv 11) (pv 2)) (pv 5) (nomark _))
      (pss_one (ps_set (i := 11) sc__law_pair.nd rfl (.inl rfl) (pe_op op_mulX (pv 11) (pv 2)))))
      (pss_one (ps_par (i := 5) (j := 7) (by rfl) sc__law_pair.nd rfl rfl (by decide) rfl rfl (pa_cons (pe_op op_sub (pv 11) (pe_op op_mod (pv 6) pe_int)) (pa_cons (pe_op op_mod (pe_op op_fdivW (pv 6) pe_int) (pe_op op_sub (pv 11) pe_int)) pa_nil)) (by rfl)))))
      pss_nil)
      (pss_one (ps_ret (pe_tup (pa_cons (pv 5) (pa_cons (pe_ifExp (PW.pt (pw_and (pt_cmpR op_eq (pv 3) pe_int (nomark _)) (pw_and1 (pt_cmpR op_eq (pe_op op_mod (pv 6) pe_int) pe_int (nomark _))))) pe_int (pv 7)) pa_nil)))))))))))), ?_⟩
    -- kind
    have b1 : intBits (ns.getD (k + 1) 0 % (10 : Int) ^ (Int.toNat 18) + (k : Int)) ≤ 4000000 := Nat.le_trans (intBits_add_le (mod18_bits _) (bits_small (n := k) (by omega))) (by decide)
    refine ⟨_, rfl, _, rfl, _, _, rfl, rfl, a, ns, k + 1, rfl, hS, _, _, rfl, rfl, ⟨by decide, by decide, by decide⟩, _, _, rfl, rfl, (by show (0 : Int) < 10 ^ 18; decide), _, rfl, _, _, rfl, rfl, _, 8, 6, rfl, ⟨b1, by decide, by decide⟩, fun kind hkind H1 e1 => ?_⟩
    -- limit
    have b2 : intBits (ns.getD (k + 1) 0 % (10 : Int) ^ (Int.toNat 18)) ≤ 4000000 := Nat.le_trans (mod18_bits _) (by decide)
    refine ⟨by show 3 ≤ sizeLine; decide, fun t nt => ?_⟩
    refine ⟨_, rfl, _, rfl, _, _, rfl, rfl, a, ns, k + 1, rfl, ex_l (e1.trans (Ex.new nt)) hS, _, _, rfl, rfl, ⟨by decide, by decide, by decide⟩, _, _, rfl, rfl, (by show (0 : Int) < 10 ^ 18; decide), _, 7, 3, rfl, ⟨b2, by decide, by decide⟩, fun j hj H2 e2 => ?_⟩
    have hv : ∃ lim : Nat, ([V.int 20, V.int 300, V.int 900000] : List V)[j]? = some (.int lim) ∧ 0 < lim ∧ lim ≤ 900000 := by
      match j, hj with
      | 0, _ => exact ⟨20, rfl, by decide, by decide⟩
      | 1, _ => exact ⟨300, rfl, by decide, by decide⟩
      | 2, _ => exact ⟨900000, rfl, by decide, by decide⟩
    obtain ⟨lim, hlim, hl0, hl1⟩ := hv
    refine ⟨t, _, _, _, rfl, rfl, SqT.of (e2 t _ upd_same), atI_nat hlim, ?_⟩
    have eH2 : Ex H H2 := e1.trans ((Ex.new nt).trans e2)
    -- many, drawn, some
    refine ⟨_, rfl, _, rfl, _, _, rfl, rfl, a, ns, k + 1, rfl, ex_l eH2 hS, _, rfl, _, _, rfl, rfl, _, rfl, _, k + 2, lim, rfl, ⟨getD_bits hb _, by omega, hl0, hl1⟩, fun many hmany H3 e3 => ?_⟩
    refine ⟨_, rfl, _, rfl, _, _, rfl, rfl, a, ns, k + 2, rfl, ex_l (eH2.trans e3) hS, _, rfl, _, _, rfl, rfl, _, k + 4, 900000, rfl, ⟨getD_bits hb _, by omega, by decide, by decide⟩, fun drawn hdrawn H4 e4 => ?_⟩
    refine ⟨_, rfl, _, rfl, _, _, rfl, rfl, _, _, rfl, rfl, (by show (0 : Int) < (many : Int) + 1; omega), ?_⟩
    have eH4 : Ex H H4 := (eH2.trans e3).trans e4
    refine ⟨fun σ' H' => ∃ (sm : Nat) (y8 y9 y10 : Option V), sm ≤ many ∧ σ' = [some (.ref a), some (.int k), some (.int p), some (.int kind), some (.int lim), some (.int many), some (.int drawn), some (.int sm), y8, y9, y10, none] ∧ Ex H H', ?_, ?_⟩
    · -- if kind < 2
      refine ⟨_, rfl, _, _, rfl, rfl, _, rfl, ite2 (fun _ => ?_) (fun _ => ?_)⟩
      · refine ⟨Nat.zero_le _, fun l nl => ?_⟩
        refine ⟨_, rfl, _, rfl, p, many, rfl, ⟨hp, hp2, Nat.lt_trans hmany (Nat.pow_lt_pow_right (by decide) (by decide))⟩, fun fl H5 nfl e5 hfl => ?_⟩
        have eH5 : Ex H H5 := (eH4.trans (Ex.new nl)).trans e5
        refine ⟨fl, _, rfl, SqL.of hfl, for_it (walk_enum (K := K) (a := fl) (xs := nV (figs p many))) (fun i σ' H' => ∃ (less : List Nat) (y9 y10 : Option V), less.length = i ∧ (∀ j, less.getD j 0 ≤ (figs p many).getD j 0) ∧ σ' = [some (.ref a), some (.int k), some (.int p), some (.int kind), some (.int lim), some (.int many), some (.int drawn), some (.int ((drawn % (many + 1) : Nat) : Int)), some (.ref l), y9, y10, none] ∧ Ex H H' ∧ H' fl = some (.lst (nV (figs p many))) ∧ H' l = some (.lst (nV less)))
          ⟨[], none, none, rfl, fun j => by show 0 ≤ _; omega, rfl, eH5, hfl, e5 l _ upd_same⟩ (fun i σ' H' _ ⟨_, _, _, _, _, _, _, h, _⟩ => SqL.of h) ?_ ?_⟩
        · rintro i x σ' H' H'' hi ⟨less, y9, y10, hll, hle, rfl, e6, h6, h7⟩ ⟨T1, x1, x2, rfl, nT, rfl, g1, g2⟩
          cases g1
          obtain ⟨d, hd, rfl⟩ := nV_get g2
          have nfl' : fl ≠ T1 := ne_of_none h6 nT
          have nl' : l ≠ T1 := ne_of_none h7 nT
          have hlen : i < 1000 := by
            have h1 := (List.getElem?_eq_some_iff.mp hd).1
            have h2 := figs_len_le hp many 140 hmany
            omega
          have h7T : (upd H' T1 (.tup [.int (i : Nat), .int (d : Int)])) l = some (.lst (nV less)) := by rw [upd_ne nl']; exact h7
          refine ⟨T1, _, rfl, SqT.of upd_same, rfl, _, _, rfl, _, _, rfl, rfl, ?_⟩
          refine ⟨_, rfl, .inl ⟨rfl, _, SqL.of h7T⟩, _, rfl, _, rfl, _, _, rfl, rfl, mul_bits (a := 10) (b := 20) (bits_nat (n := 7) (by decide)) (bits_small (n := i) (by omega)) (by decide), _, rfl, _, _, rfl, rfl, ?_, _, _, rfl, rfl, _, rfl, _, rfl, _, _, rfl, rfl, _, _, rfl, rfl, ?_, _, _, rfl, rfl, _, rfl, _, _, rfl, rfl, _, _, rfl, rfl, (by show (0 : Int) < (d : Int) + 1; omega), l, _, _, rfl, rfl, h7T, sz_lt (by rw [List.length_map]; omega), ?_⟩
          · exact mul_bits (a := 30) (b := 20) (intBits_mul_le (m := 10) (n := 20) (bits_nat (n := 7) (by decide)) (bits_small (n := i) (by omega))) (bits_small (n := i) (by omega)) (by decide)
          · exact wide_div (by omega) (nat_pow_lt (n := i + 3) (k := 12) (by omega)) (by decide) (by decide)
          · have hz : (drawn + 7 * i * i + drawn / (i + 3)) % (d + 1) ≤ d := by
              have := Nat.mod_lt (drawn + 7 * i * i + drawn / (i + 3)) (show 0 < d + 1 by omega)
              omega
            refine ⟨less ++ [(drawn + 7 * i * i + drawn / (i + 3)) % (d + 1)], some (.int i), some (.int d), by rw [List.length_append, hll]; rfl, fun j => ?_, rfl, ?_, ?_, ?_⟩
            · rw [getD_app]
              split
              · next h =>
                rw [h, hll, List.getD_eq_getElem?_getD, hd]
                exact hz
              · exact hle j
            · exact Ex.mut (e6.trans (Ex.new nT)) (fresh_back eH4 nl)
            · have nfll : fl ≠ l := fun e => by
                rw [e, upd_same] at nfl
                cases nfl
              rw [upd_ne nfll, upd_ne nfl']
              exact h6
            · rw [upd_same, ← nV_app]; rfl
        · rintro σ' H' ⟨less, y9, y10, hll, hle, rfl, e6, h6, h7⟩
          have hlen : (nV (figs p many)).length = (figs p many).length := List.length_map _
          rw [hlen] at hll
          have h2 := figs_len_le hp many 140 hmany
          refine ⟨_, rfl, _, rfl, p, l, less, rfl, ⟨hp, hp2, by omega, fun d hd => ?_⟩, SqL.of h7, fun H7 e7 => ?_⟩
          · obtain ⟨j, hj⟩ := List.getElem?_of_mem hd
            have h3 := hle j
            rw [List.getD_eq_getElem?_getD, hj] at h3
            have h3 : d ≤ (figs p many).getD j 0 := h3
            have h4 := dg_eq hp j many
            unfold dg at h4
            rw [h4] at h3
            exact Nat.lt_of_le_of_lt h3 (Nat.mod_lt _ (by omega))
          · exact ⟨wv p less, _, _, _, wv_less hp hll hle, rfl, e6.trans e7⟩
      · exact ⟨drawn % (many + 1), _, _, _, Nat.le_of_lt_succ (Nat.mod_lt _ (by omega)), rfl, eH4⟩
    · rintro σ' H' ⟨sm, y8, y9, y10, hsm, rfl, e8⟩
      refine ⟨fun σ' H' => ∃ (n sm : Nat) (y8 y9 y10 y11 : Option V), sm ≤ n ∧ n < 2 ^ 150 ∧ σ' = [some (.ref a), some (.int k), some (.int p), some (.int kind), some (.int lim), some (.int n), some (.int drawn), some (.int sm), y8, y9, y10, y11] ∧ Ex H H', ?_, ?_⟩
      · refine ⟨_, rfl, rfl, _, rfl, ite2 (fun _ => ?_) (fun _ => ?_)⟩
        · refine ⟨_, rfl, ?_⟩
          refine ⟨fun m σ' H2 => ∃ P : Nat, m = many + 1000 - P ∧ 2 ≤ P ∧ (P ≤ 1000 ∨ P ≤ many) ∧ σ' = [some (.ref a), some (.int k), some (.int p), some (.int kind), some (.int lim), some (.int many), some (.int drawn), some (.int sm), y8, y9, y10, some (.int P)] ∧ Ex H H2, ⟨_, p, rfl, hp, .inl hp2, rfl, e8⟩, fun m σ' H2 hW => ?_⟩
          obtain ⟨P, rfl, hP, hP2, rfl, e9⟩ := hW
          have hPb : P < 2 ^ 145 := by
            have : (2 : Nat) ^ 140 < 2 ^ 145 := by decide
            omega
          have hmulb := mul_bits (bits_nat hPb) (bits_small (n := p) (by omega)) (by decide)
          refine ⟨_, rfl, _, rfl, _, _, rfl, rfl, hmulb, _, rfl, _, _, rfl, rfl, _, rfl, ite2 (fun c => ?_) (fun c => ?_)⟩
          · have c : (P : Int) * (p : Int) ≤ (many : Int) := of_decide_eq_true c
            have c2 : P * p ≤ many := by
              rw [← Int.natCast_mul] at c
              exact Int.ofNat_le.mp c
            have c3 : P * 2 ≤ P * p := Nat.mul_le_mul_left P hp
            refine ⟨fun σ' H3 => ∃ P2 : Nat, many + 1000 - P2 < many + 1000 - P ∧ 2 ≤ P2 ∧ (P2 ≤ 1000 ∨ P2 ≤ many) ∧ σ' = [some (.ref a), some (.int k), some (.int p), some (.int kind), some (.int lim), some (.int many), some (.int drawn), some (.int sm), y8, y9, y10, some (.int P2)] ∧ Ex H H3, fun σ' H3 hN => ?_, ?_⟩
            · obtain ⟨P2, n1, n2, n3, n4, n5⟩ := hN
              exact ⟨_, n1, P2, rfl, n2, n3, n4, n5⟩
            · exact ⟨_, rfl, _, rfl, _, _, rfl, rfl, hmulb, P * p, by omega, by omega, .inr c2, rfl, e9⟩
          · refine ⟨_, rfl, _, rfl, _, _, rfl, rfl, (by show (0 : Int) < 2; decide), _, _, rfl, rfl, _, rfl, _, _, rfl, rfl, div_small (p := 2) (by decide) (by decide), _, rfl, _, _, rfl, rfl, _, _, rfl, rfl, (by show (0 : Int) < (P : Int) - 1; omega), _, _, rfl, P - drawn % 2, (drawn / 2) % (P - 1), y8, y9, y10, some (.int P), ?_, ?_, ?_, e9⟩
            · have := Nat.mod_lt (drawn / 2) (show 0 < P - 1 by omega)
              omega
            · have : (2 : Nat) ^ 145 < 2 ^ 150 := by decide
              omega
            · have g1 : (P : Int) - (drawn : Int) % 2 = ((P - drawn % 2 : Nat) : Int) := by omega
              have g2 : (P : Int) - 1 = ((P - 1 : Nat) : Int) := by omega
              have g3 : (drawn : Int) / 2 % ((P : Int) - 1) = (((drawn / 2) % (P - 1) : Nat) : Int) := by rw [g2]; rfl
              show [some (V.ref a), _, _, _, _, some (V.int ((P : Int) - (drawn : Int) % 2)), _, some (V.int ((drawn : Int) / 2 % ((P : Int) - 1))), _, _, _, _] = _
              rw [g1, g3]
        · refine ⟨many, sm, y8, y9, y10, none, hsm, Nat.lt_trans hmany (by decide), rfl, e8⟩
      · rintro σ' H2 ⟨n, sm, y8, y9, y10, y11, h1, h2, rfl, e9⟩
        refine ⟨_, rfl, _, rfl, rfl, _, rfl, ite2 (fun _ => ?_) (fun _ => ?_)⟩
        · refine ⟨_, rfl, _, _, rfl, rfl, (by show (0 : Int) < 3; decide), rfl, _, rfl, ite2 (fun _ => ?_) (fun _ => ?_)⟩
          · exact ⟨by show 2 ≤ sizeLine; decide, fun u nu => q n 0 (Nat.zero_le n) h2 u _ (fresh_back e9 nu) (e9.trans (Ex.new nu)) upd_same⟩
          · exact ⟨_, rfl, (by show 2 ≤ sizeLine; decide), fun u nu => q n sm h1 h2 u _ (fresh_back e9 nu) (e9.trans (Ex.new nu)) upd_same⟩
        · exact if_f rfl ⟨_, rfl, (by show 2 ≤ sizeLine; decide), fun u nu => q n sm h1 h2 u _ (fresh_back e9 nu) (e9.trans (Ex.new nu)) upd_same⟩
end
end Cc

namespace Cc
open PySem PySem.Spec PyProof.Rows L2 Evl
abbrev s_free_of : Stmt := topS 30
abbrev N_free_of : List Str := ["prime", "many", "found", "figure"]
abbrev ps_free_of : List Str := ["prime", "many"]
theorem sc_free_of : FnScope N_free_of ps_free_of (defScope s_free_of) := ⟨rfl, rfl, rfl, by decide +kernel, rfl, by decide +kernel, by decide +kernel⟩

section
variable {P : Program} {w : World} {K : PySem.W.Frag} {mg : Str → Option Value} {base : Heap}
theorem lt1000 {n : Nat} (h : n < 2 ^ 200) : n < 2 ^ 1000 := Nat.lt_trans h (Nat.pow_lt_pow_right (by decide) (by decide))
theorem mul_nat {a b x y : Nat} (ha : a < 2 ^ x) (hb : b < 2 ^ y) (h : x + y ≤ 134217728) : CMulX (a : Int) (b : Int) := mulx_ok (nat_pow_lt ha) (nat_pow_lt hb) h
theorem fr_part {p n c : Nat} {l : List Nat} (hp : 2 ≤ p) (hn : n < 2 ^ 200) (h : c * fr l = fr (figs p n)) : c < 2 ^ 201 := by
  have h1 := Nat.le_mul_of_pos_right c (fr_pos l)
  have h2 := fr_le hp n
  have h3 : (2 : Nat) ^ 201 = 2 ^ 200 + 2 ^ 200 := by decide
  rw [h3]
  rw [h] at h1
  omega
theorem d11 {d p : Nat} (h : d < p) (hp : p ≤ 1000) : d + 1 < 2 ^ 11 := Nat.lt_of_le_of_lt (show d + 1 ≤ 1000 by omega) (by decide)
/-! ### free_of, free -/
def sp_free_of : Sp := fun vs H Q _ => ∃ p n : Nat, vs = [.int p, .int n] ∧ (2 ≤ p ∧ p ≤ 1000 ∧ n < 2 ^ 200) ∧ RetV (.int (fr (figs p n) : Nat)) H Q
theorem ok_free_of (D : Df K mg "free_of" ps_free_of s_free_of) (O_figures_of : Ok P w K mg base CX0 1 "figures_of" ps_figures_of sp_figures_of) : Ok P w K mg base CX0 2 "free_of" ps_free_of sp_free_of := by
  refine D.ok sc_free_of (fun vs H Q E h => ?_) (fun f cdv A outer s H vs Q E hr h => ?_)
  · obtain ⟨p, n, rfl, _⟩ := h; rfl
  · obtain ⟨p, n, rfl, ⟨hp, hp2, hn⟩, q⟩ := h
    refine ⟨_, (pss_cons (ps_set (i := 2) sc_free_of.nd rfl (.inl rfl) pe_int)
      (pss_cons (ps_for PassesOwn.never rfl (pi_list (pe_callO O_figures_of hr (pa_cons (pv 0) (pa_cons (pv 1) pa_nil)))) (pg_name (i := 3) sc_free_of.nd rfl (.inl rfl))
      (pss_one (ps_set (i := 2) sc_free_of.nd rfl (.inl rfl) (pe_op op_mulX (pv 2) (pe_op op_add (pv 3) pe_int)))))
      (pss_one (ps_ret (pv 2))))), ?_⟩
    refine ⟨_, rfl, _, rfl, p, n, rfl, ⟨hp, hp2, lt1000 hn⟩, fun l H1 nl e1 hl => ?_⟩
    have hlen : (nV (figs p n)).length = (figs p n).length := List.length_map _
    refine ⟨l, rfl, ⟨_, SqL.of hl⟩, for_list (K := K) (a := l) (xs := nV (figs p n)) (fun i σ' H' => ∃ (c : Nat) (y : Option V), c * fr ((figs p n).drop i) = fr (figs p n) ∧ σ' = [some (.int p), some (.int n), some (.int c), y] ∧ Ex H1 H')
      ⟨1, _, Nat.one_mul _, rfl, Ex.refl _⟩ (fun i σ' H' _ ⟨_, _, _, _, e⟩ => SqL.of (e l _ hl)) ?_ ?_⟩
    · rintro i x σ' H' hi ⟨c, y, h1, rfl, e2⟩
      obtain ⟨d, hd, rfl⟩ := nV_get hi
      have hc := fr_part hp hn h1
      rw [drop_cons hd] at h1
      have hd2 := figs_small hp n d (List.mem_of_getElem? hd)
      refine ⟨_, rfl, _, rfl, _, _, rfl, rfl, _, _, rfl, rfl, (show CMulX (c : Int) ((d + 1 : Nat) : Int) from mul_nat hc (d11 hd2 hp2) (by decide)), c * (d + 1), some (.int d), ?_, rfl, e2⟩
      rw [← h1, Nat.mul_assoc]
      rfl
    · rintro σ' H' ⟨c, y, h1, rfl, e2⟩
      rw [hlen, List.drop_length] at h1
      have h2 : c = fr (figs p n) := (Nat.mul_one c).symm.trans h1
      refine ⟨_, rfl, ?_⟩
      rw [h2]
      exact q H' (e1.trans e2)
end
end Cc

namespace Cc
open PySem PySem.Spec PyProof.Rows L2 Evl
abbrev s_check_prime : Stmt := topS 10
abbrev N_check_prime : List Str := ["prime", "part"]
abbrev ps_check_prime : List Str := ["prime"]
theorem sc_check_prime : FnScope N_check_prime ps_check_prime (defScope s_check_prime) := ⟨rfl, rfl, rfl, by decide +kernel, rfl, by decide +kernel, by decide +kernel⟩
abbrev s_check_many : Stmt := topS 11
abbrev N_check_many : List Str := ["many"]
abbrev ps_check_many : List Str := ["many"]
theorem sc_check_many : FnScope N_check_many ps_check_many (defScope s_check_many) := ⟨rfl, rfl, rfl, by decide +kernel, rfl, by decide +kernel, by decide +kernel⟩
abbrev s_figures : Stmt := topS 13
abbrev N_figures : List Str := ["prime", "many"]
abbrev ps_figures : List Str := ["prime", "many"]
theorem sc_figures : FnScope N_figures ps_figures (defScope s_figures) := ⟨rfl, rfl, rfl, by decide +kernel, rfl, by decide +kernel, by decide +kernel⟩
abbrev s_product : Stmt := topS 17
abbrev N_product : List Str := ["prime", "many"]
abbrev ps_product : List Str := ["prime", "many"]
theorem sc_product : FnScope N_product ps_product (defScope s_product) := ⟨rfl, rfl, rfl, by decide +kernel, rfl, by decide +kernel, by decide +kernel⟩
abbrev s_check_all : Stmt := topS 25
abbrev N_check_all : List Str := ["prime", "many", "some"]
abbrev ps_check_all : List Str := ["prime", "many", "some"]
theorem sc_check_all : FnScope N_check_all ps_check_all (defScope s_check_all) := ⟨rfl, rfl, rfl, by decide +kernel, rfl, by decide +kernel, by decide +kernel⟩
abbrev s_free : Stmt := topS 31
abbrev N_free : List Str := ["prime", "many"]
abbrev ps_free : List Str := ["prime", "many"]
theorem sc_free : FnScope N_free ps_free (defScope s_free) := ⟨rfl, rfl, rfl, by decide +kernel, rfl, by decide +kernel, by decide +kernel⟩
abbrev s_most : Stmt := topS 32
abbrev N_most : List Str := ["prime", "many", "found", "power"]
abbrev ps_most : List Str := ["prime", "many"]
theorem sc_most : FnScope N_most ps_most (defScope s_most) := ⟨rfl, rfl, rfl, by decide +kernel, rfl, by decide +kernel, by decide +kernel⟩

/-- what an argument is: a whole number, or none; that stays -/
inductive Pa (H : Hp) : V → Option Int → Prop where
  | int (i : Int) : Pa H (.int i) (some i)
  | bl (b : Bool) : Pa H (.bl b) none
  | non : Pa H .non none
  | str (z : Str) : Pa H (.str z) none
  | lst {a : Addr} {xs : List V} (h : H a = some (.lst xs)) : Pa H (.ref a) none
  | tup {a : Addr} {xs : List V} (h : H a = some (.tup xs)) : Pa H (.ref a) none
  | dct {a : Addr} {kvs : List (Key × V)} (h : H a = some (.dK kvs)) : Pa H (.ref a) none
theorem Pa.ex {H H' : Hp} {x : V} {o : Option Int} (h : Pa H x o) (e : Ex H H') : Pa H' x o := by
  cases h with
  | int i => exact .int i
  | bl b => exact .bl b
  | non => exact .non
  | str z => exact .str z
  | lst h => exact .lst (e _ _ h)
  | tup h => exact .tup (e _ _ h)
  | dct h => exact .dct (e _ _ h)
theorem Pa.arg {K : PySem.W.Frag} {H : Hp} {x : V} {o : Option Int} (h : Pa H x o) : Arg K H x o := by
  cases h with
  | int i => exact .int i
  | bl b => exact .bl b
  | non => exact .oth (.base .non) (by decide +kernel : kitB "NoneType" "int" = some false)
  | str z => exact .oth (.base (.str z)) (by decide +kernel : kitB "str" "int" = some false)
  | lst h => exact .oth (.base (.lst h)) (by decide +kernel : kitB "list" "int" = some false)
  | tup h => exact .oth (.base (.tup h)) (by decide +kernel : kitB "tuple" "int" = some false)
  | dct h => exact .oth (.base (.dK h)) (by decide +kernel : kitB "dict" "int" = some false)
theorem Pa.whole {H : Hp} {x : V} {o : Option Int} (h : Pa H x o) (w : Cc.whole o = true) : ∃ n : Nat, x = .int (n : Int) ∧ o = some (n : Int) := by
  cases h with
  | int i =>
    have hi : 0 ≤ i := of_decide_eq_true w
    obtain ⟨n, rfl⟩ := Int.eq_ofNat_of_zero_le hi
    exact ⟨n, rfl, rfl⟩
  | _ => cases w
theorem whole_nat (n : Nat) : whole (some (n : Int)) = true := decide_eq_true (Int.natCast_nonneg n)
def goodp : Option Int → Bool
  | some i => decide (2 ≤ i) && (decide (i ≤ 997) && isP i.toNat)
  | none => false
theorem goodp_nat (p : Nat) : goodp (some (p : Int)) = (decide ((2 : Int) ≤ (p : Int)) && (decide ((p : Int) ≤ 997) && isP p)) := rfl
theorem goodp_pr {p : Nat} (h : goodp (some (p : Int)) = true) : Pr p := by
  unfold goodp at h
  simp only [Bool.and_eq_true, decide_eq_true_eq] at h
  exact ⟨by omega, by omega, h.2.2⟩
theorem goodp_whole {o : Option Int} (h : goodp o = true) : whole o = true := by
  cases o with
  | none => cases h
  | some i =>
    unfold goodp at h
    simp only [Bool.and_eq_true, decide_eq_true_eq] at h
    exact decide_eq_true (by omega)
theorem pr_goodp {p : Nat} (h : Pr p) : goodp (some (p : Int)) = true := by
  have h1 := h.lo
  have h2 := h.hi
  rw [goodp_nat]
  rw [decide_eq_true (show (2 : Int) ≤ (p : Int) by omega), decide_eq_true (show (p : Int) ≤ 997 by omega)]
  exact h.np
/-- the refusal -/
def RetE (C : Addr) (H : Hp) (E : XK) : Prop := ∀ H', Ex H H' → E (.ref C) none H'
def okS : Option Int → Option Int → Bool
  | some k, some n => decide (0 ≤ k) && decide (k ≤ n)
  | _, _ => false
def rpm (CP CM : Addr) (ox oy : Option Int) : Option Addr := if goodp ox = true then (if whole oy = true then none else some CM) else some CP
theorem rpm_cases {CP CM C : Addr} {ox oy : Option Int} (h : rpm CP CM ox oy = some C) : (goodp ox = false ∧ C = CP) ∨ (goodp ox = true ∧ whole oy = false ∧ C = CM) := by
  unfold rpm at h
  split at h
  · rename_i g
    split at h
    · cases h
    · rename_i w
      exact .inr ⟨g, Bool.eq_false_iff.mpr w, (Option.some.inj h).symm⟩
  · rename_i g
    exact .inl ⟨Bool.eq_false_iff.mpr g, (Option.some.inj h).symm⟩
theorem rpm_p {CP CM : Addr} {ox oy : Option Int} (h : goodp ox = false) : rpm CP CM ox oy = some CP := by
  unfold rpm
  rw [if_neg (Bool.eq_false_iff.mp h)]
theorem rpm_m {CP CM : Addr} {ox oy : Option Int} (h : goodp ox = true) (w : whole oy = false) : rpm CP CM ox oy = some CM := by
  unfold rpm
  rw [if_pos h, if_neg (Bool.eq_false_iff.mp w)]
section
variable {P : Program} {w : World} {K : PySem.W.Frag} {mg : Str → Option Value} {base : Heap} {C_ChooseError C_BadPrime C_BadMany C_BadSome C_BadNumber C_NotFree : Addr}
def sp_xp (CP : Addr) : Sp := fun vs H Q E => ∃ x o, vs = [x] ∧ Pa H x o ∧ ((goodp o = true ∧ RetV .non H Q) ∨ (goodp o = false ∧ RetE CP H E))
theorem ok_xp (T : Bi mg) (X_BadPrime : XCls K mg C_BadPrime "BadPrime") (D : Df K mg "check_prime" ps_check_prime s_check_prime) (O_is_whole : Ok P w K mg base CX0 1 "is_whole" ps_is_whole (sp_is_whole K)) : Ok P w K mg base (L2N.CX P w) 2 "check_prime" ps_check_prime (sp_xp C_BadPrime) := by
  refine D.okX sc_check_prime (fun vs H Q E h => ?_) (fun f cdv A outer s H vs Q E hr h => ?_)
  · obtain ⟨x, o, rfl, _⟩ := h; rfl
  · obtain ⟨x, o, rfl, hx, q⟩ := h
    refine ⟨_, (pss_cons (ps_if (PW.pt (pw_or (pt_not (pt_val (pe_callO O_is_whole hr (pa_cons (pv 0) pa_nil)))) (pw_or1 (pt_not (pt_chain op_le op_le pe_int (pv 0) (C8.pe_gc (v := .int 997) (by rfl) T.k_GREATEST))))))
      (pss_one (L2N.ps_raise rfl (L2N.takes_of rfl rfl rfl rfl) (L2N.pmk_own PySem.F.excBase_ValueError X_BadPrime.ex X_BadPrime.g X_BadPrime.k (raises_own X_BadPrime.b X_BadPrime.t) rfl)))
      pss_nil)
      (pss_one (ps_if (pt_val (pe_callB (cr_any rfl) (by rfl) T.any (by decide +kernel) (pa_cons (pe_lc (own := [("part", 1)]) (g := gName 1) (by rfl) sc_check_prime.nd (pi_range2 (by rfl) T.range (pa_cons pe_int (pa_cons pe_int pa_nil))) (blkOk_by (own := [("part", 1)]) (N := N_check_prime) (sc := defScope s_check_prime) (by decide +kernel)) (fun _ _ _ _ _ => (pg_name (i := 1) sc_check_prime.nd rfl (.inl rfl))) (fun _ _ _ _ _ => (pts_one (pt_cmpR op_lt (pv 1) (pv 0) (nomark _)))) (fun _ _ _ _ _ => (pe_cmpR op_eq (pe_op op_mod (pv 0) (pv 1)) pe_int (nomark _)))) pa_nil)))
      (pss_one (L2N.ps_raise rfl (L2N.takes_of rfl rfl rfl rfl) (L2N.pmk_own PySem.F.excBase_ValueError X_BadPrime.ex X_BadPrime.g X_BadPrime.k (raises_own X_BadPrime.b X_BadPrime.t) rfl)))
      pss_nil))), ?_⟩
    have good : ∀ H', goodp o = true → Ex H H' → Q .non H' := fun H' g e => q.elim (fun z => z.2 H' e) (fun z => by rw [g] at z; cases z.1)
    have bad : ∀ H', goodp o = false → Ex H H' → E (.ref C_BadPrime) none H' := fun H' g e => q.elim (fun z => by rw [g] at z; cases z.1) (fun z => z.2 H' e)
    refine ⟨_, rfl, x, o, rfl, hx.arg, _, rfl, ?_⟩
    by_cases wh : whole o = true
    · refine if_f (by rw [wh]; rfl) ?_
      obtain ⟨p, rfl, rfl⟩ := hx.whole wh
      by_cases h2 : (2 : Int) ≤ (p : Int)
      · refine ⟨_, rfl, _, _, rfl, rfl, _, rfl, if_t (decide_eq_true h2) ?_⟩
        by_cases h9 : (p : Int) ≤ 997
        · have c2 : (!decide ((p : Int) ≤ 997)) = false := by rw [decide_eq_true h9]; rfl
          refine ⟨_, _, rfl, rfl, _, rfl, if_f c2 ?_⟩
          refine any_parts (K := K) (f := p) (i := 0) (j := 1) rfl (by decide) (by show 1 < 2; decide) fun H1 e1 => ⟨_, rfl, ite2 (fun c => ?_) (fun c => ?_)⟩
          · refine bad H1 ?_ e1
            rw [goodp_nat]
            rw [decide_eq_true h2, decide_eq_true h9]
            show isP p = false
            cases z : isP p with
            | false => rfl
            | true => rw [z] at c; cases c
          · refine good H1 ?_ e1
            rw [goodp_nat]
            rw [decide_eq_true h2, decide_eq_true h9]
            show isP p = true
            cases z : isP p with
            | true => rfl
            | false => rw [z] at c; exact absurd rfl c
        · have c2 : (!decide ((p : Int) ≤ 997)) = true := by rw [decide_eq_false h9]; rfl
          refine ⟨_, _, rfl, rfl, _, rfl, if_t c2 (bad H ?_ (Ex.refl H))⟩
          rw [goodp_nat]
          rw [decide_eq_true h2, decide_eq_false h9]; rfl
      · have c1 : decide ((2 : Int) ≤ (p : Int)) = false := decide_eq_false h2
        refine ⟨_, rfl, _, _, rfl, rfl, _, rfl, if_f c1 ⟨_, rfl, if_t rfl (bad H ?_ (Ex.refl H))⟩⟩
        rw [goodp_nat]
        rw [decide_eq_false h2]; rfl
    · have wh := Bool.eq_false_iff.mpr wh
      refine if_t (by rw [wh]; rfl) (bad H ?_ (Ex.refl H))
      cases z : goodp o with
      | false => rfl
      | true => rw [goodp_whole z] at wh; cases wh
def sp_xm (CM : Addr) : Sp := fun vs H Q E => ∃ x o, vs = [x] ∧ Pa H x o ∧ ((whole o = true ∧ Q .non H) ∨ (whole o = false ∧ E (.ref CM) none H))
theorem ok_xm (X_BadMany : XCls K mg C_BadMany "BadMany") (D : Df K mg "check_many" ps_check_many s_check_many) (O_is_whole : Ok P w K mg base CX0 1 "is_whole" ps_is_whole (sp_is_whole K)) : Ok P w K mg base (L2N.CX P w) 2 "check_many" ps_check_many (sp_xm C_BadMany) := by
  refine D.okX sc_check_many (fun vs H Q E h => ?_) (fun f cdv A outer s H vs Q E hr h => ?_)
  · obtain ⟨x, o, rfl, _⟩ := h; rfl
  · obtain ⟨x, o, rfl, hx, q⟩ := h
    refine ⟨_, (pss_one (ps_if (pt_not (pt_val (pe_callO O_is_whole hr (pa_cons (pv 0) pa_nil))))
      (pss_one (L2N.ps_raise rfl (L2N.takes_of rfl rfl rfl rfl) (L2N.pmk_own PySem.F.excBase_ValueError X_BadMany.ex X_BadMany.g X_BadMany.k (raises_own X_BadMany.b X_BadMany.t) rfl)))
      pss_nil)), ?_⟩
    refine ⟨_, rfl, x, o, rfl, hx.arg, _, rfl, ?_⟩
    rcases q with ⟨wh, q⟩ | ⟨wh, q⟩
    · exact if_f (by rw [wh]; rfl) q
    · exact if_t (by rw [wh]; rfl) q
def rall (CP CM CS : Addr) (ox oy oz : Option Int) : Option Addr := if goodp ox = true then (if whole oy = true then (if okS oz oy = true then none else some CS) else some CM) else some CP
def sp_xa (CP CM CS : Addr) : Sp := fun vs H Q E => ∃ x y z ox oy oz, vs = [x, y, z] ∧ Pa H x ox ∧ Pa H y oy ∧ Pa H z oz ∧ ((rall CP CM CS ox oy oz = none ∧ RetV .non H Q) ∨ ∃ C, rall CP CM CS ox oy oz = some C ∧ RetE C H E)
theorem ok_xa (X_BadSome : XCls K mg C_BadSome "BadSome") (D : Df K mg "check_all" ps_check_all s_check_all) (O_is_whole : Ok P w K mg base CX0 1 "is_whole" ps_is_whole (sp_is_whole K)) (O_check_prime : Ok P w K mg base (L2N.CX P w) 2 "check_prime" ps_check_prime (sp_xp C_BadPrime)) (O_check_many : Ok P w K mg base (L2N.CX P w) 2 "check_many" ps_check_many (sp_xm C_BadMany)) : Ok P w K mg base (L2N.CX P w) 3 "check_all" ps_check_all (sp_xa C_BadPrime C_BadMany C_BadSome) := by
  refine D.okX sc_check_all (fun vs H Q E h => ?_) (fun f cdv A outer s H vs Q E hr h => ?_)
  · obtain ⟨x, y, z, ox, oy, oz, rfl, _⟩ := h; rfl
  · obtain ⟨x, y, z, ox, oy, oz, rfl, hx, hy, hz, q⟩ := h
    refine ⟨_, (pss_cons (ps_expr (pe_callX O_check_prime hr (L2N.takes_of rfl rfl rfl rfl) (pa_cons (pv 0) pa_nil)))
      (pss_cons (ps_expr (pe_callX O_check_many hr (L2N.takes_of rfl rfl rfl rfl) (pa_cons (pv 1) pa_nil)))
      (pss_one (ps_if (PW.pt (pw_or (pt_not (pt_val (pe_callO O_is_whole hr (pa_cons (pv 2) pa_nil)))) (pw_or1 (pt_cmpR op_gt (pv 2) (pv 1) (nomark _)))))
      (pss_one (L2N.ps_raise rfl (L2N.takes_of rfl rfl rfl rfl) (L2N.pmk_own PySem.F.excBase_ValueError X_BadSome.ex X_BadSome.g X_BadSome.k (raises_own X_BadSome.b X_BadSome.t) rfl)))
      pss_nil)))), ?_⟩
    have bad : ∀ C H', rall C_BadPrime C_BadMany C_BadSome ox oy oz = some C → Ex H H' → E (.ref C) none H' := fun C H' g e => q.elim (fun z => by rw [g] at z; cases z.1) (fun ⟨C2, g2, z⟩ => by rw [g] at g2; cases g2; exact z H' e)
    have good : ∀ H', rall C_BadPrime C_BadMany C_BadSome ox oy oz = none → Ex H H' → Q .non H' := fun H' g e => q.elim (fun z => z.2 H' e) (fun ⟨C2, g2, z⟩ => by rw [g] at g2; cases g2)
    by_cases g : goodp ox = true
    · refine ⟨_, rfl, x, ox, rfl, hx, .inl ⟨g, fun H1 e1 => ?_⟩⟩
      by_cases wy : whole oy = true
      · refine ⟨_, rfl, y, oy, rfl, hy.ex e1, .inl ⟨wy, ?_⟩⟩
        refine ⟨_, rfl, z, oz, rfl, (hz.ex e1).arg, _, rfl, ?_⟩
        obtain ⟨n, rfl, rfl⟩ := hy.whole wy
        by_cases wz : whole oz = true
        · obtain ⟨k, rfl, rfl⟩ := hz.whole wz
          refine if_f (by rw [wz]; rfl) ?_
          by_cases hk : (k : Int) ≤ (n : Int)
          · refine ⟨_, rfl, _, rfl, _, _, rfl, rfl, _, rfl, if_f (decide_eq_false (by omega)) (good H1 ?_ e1)⟩
            unfold rall
            rw [if_pos g, if_pos wy]
            show (if (decide (0 ≤ (k : Int)) && decide ((k : Int) ≤ (n : Int))) = true then none else _) = none
            rw [decide_eq_true hk, decide_eq_true (show 0 ≤ (k : Int) by omega)]
            rfl
          · refine ⟨_, rfl, _, rfl, _, _, rfl, rfl, _, rfl, if_t (decide_eq_true (by omega)) (bad C_BadSome H1 ?_ e1)⟩
            unfold rall
            rw [if_pos g, if_pos wy]
            show (if (decide (0 ≤ (k : Int)) && decide ((k : Int) ≤ (n : Int))) = true then none else _) = _
            rw [decide_eq_false hk, Bool.and_false]
            rfl
        · have wz := Bool.eq_false_iff.mpr wz
          refine if_t (by rw [wz]; rfl) (bad C_BadSome H1 ?_ e1)
          unfold rall
          rw [if_pos g, if_pos wy]
          have : okS oz (some (n : Int)) = false := by
            cases oz with
            | none => rfl
            | some k =>
              have wz : decide (0 ≤ k) = false := wz
              show (decide (0 ≤ k) && decide (k ≤ (n : Int))) = false
              rw [wz]; rfl
          rw [if_neg (Bool.eq_false_iff.mp this)]
      · refine ⟨_, rfl, y, oy, rfl, hy.ex e1, .inr ⟨Bool.eq_false_iff.mpr wy, bad C_BadMany H1 ?_ e1⟩⟩
        unfold rall
        rw [if_pos g, if_neg wy]
    · refine ⟨_, rfl, x, ox, rfl, hx, .inr ⟨Bool.eq_false_iff.mpr g, fun H1 e1 => bad C_BadPrime H1 ?_ e1⟩⟩
      unfold rall
      rw [if_neg g]
/-! ### the doors of two arguments -/
def Ref2 (CP CM : Addr) (H : Hp) (E : XK) (vs : List V) : Prop := ∃ x y ox oy C, vs = [x, y] ∧ Pa H x ox ∧ Pa H y oy ∧ rpm CP CM ox oy = some C ∧ RetE C H E
def sp_x2 (CP CM : Addr) : Sp := fun vs H _ E => Ref2 CP CM H E vs
def sp_xfigures (CP CM : Addr) : Sp := fun vs H Q E => Ref2 CP CM H E vs ∨ ∃ p n : Nat, vs = [.int p, .int n] ∧ (Pr p ∧ n < 2 ^ 1000) ∧ RetL (nV (figs p n)) H Q
def sp_xfree (CP CM : Addr) : Sp := fun vs H Q E => Ref2 CP CM H E vs ∨ ∃ p n : Nat, vs = [.int p, .int n] ∧ (Pr p ∧ n < 2 ^ 200) ∧ RetV (.int (fr (figs p n) : Nat)) H Q
theorem ok_xproduct (D : Df K mg "product" ps_product s_product) (O_check_prime : Ok P w K mg base (L2N.CX P w) 2 "check_prime" ps_check_prime (sp_xp C_BadPrime)) (O_check_many : Ok P w K mg base (L2N.CX P w) 2 "check_many" ps_check_many (sp_xm C_BadMany)) : Ok P w K mg base (L2N.CX P w) 3 "product" ps_product (sp_x2 C_BadPrime C_BadMany) := by
  refine D.okX sc_product (fun vs H Q E h => ?_) (fun f cdv A outer s H vs Q E hr h => ?_)
  · obtain ⟨x, y, ox, oy, C, rfl, _⟩ := h; rfl
  · obtain ⟨x, y, ox, oy, C, rfl, hx, hy, hC, q⟩ := h
    refine ⟨_, (pss_cons (ps_expr (pe_callX O_check_prime hr (L2N.takes_of rfl rfl rfl rfl) (pa_cons (pv 0) pa_nil)))
      (pss_cons (ps_expr (pe_callX O_check_many hr (L2N.takes_of rfl rfl rfl rfl) (pa_cons (pv 1) pa_nil)))
      (pss_one ps_never))), ?_⟩
    rcases rpm_cases hC with ⟨g, rfl⟩ | ⟨g, wy, rfl⟩
    · exact ⟨_, rfl, x, ox, rfl, hx, .inr ⟨g, q⟩⟩
    · exact ⟨_, rfl, x, ox, rfl, hx, .inl ⟨g, fun H1 e1 => ⟨_, rfl, y, oy, rfl, hy.ex e1, .inr ⟨wy, q H1 e1⟩⟩⟩⟩
theorem ok_xmost (D : Df K mg "most" ps_most s_most) (O_check_prime : Ok P w K mg base (L2N.CX P w) 2 "check_prime" ps_check_prime (sp_xp C_BadPrime)) (O_check_many : Ok P w K mg base (L2N.CX P w) 2 "check_many" ps_check_many (sp_xm C_BadMany)) : Ok P w K mg base (L2N.CX P w) 3 "most" ps_most (sp_x2 C_BadPrime C_BadMany) := by
  refine D.okX sc_most (fun vs H Q E h => ?_) (fun f cdv A outer s H vs Q E hr h => ?_)
  · obtain ⟨x, y, ox, oy, C, rfl, _⟩ := h; rfl
  · obtain ⟨x, y, ox, oy, C, rfl, hx, hy, hC, q⟩ := h
    refine ⟨_, (pss_cons (ps_expr (pe_callX O_check_prime hr (L2N.takes_of rfl rfl rfl rfl) (pa_cons (pv 0) pa_nil)))
      (pss_cons (ps_expr (pe_callX O_check_many hr (L2N.takes_of rfl rfl rfl rfl) (pa_cons (pv 1) pa_nil)))
      (pss_cons ps_never
      (pss_cons ps_never
      (pss_cons ps_never
      (pss_one ps_never)))))), ?_⟩
    rcases rpm_cases hC with ⟨g, rfl⟩ | ⟨g, wy, rfl⟩
    · exact ⟨_, rfl, x, ox, rfl, hx, .inr ⟨g, q⟩⟩
    · exact ⟨_, rfl, x, ox, rfl, hx, .inl ⟨g, fun H1 e1 => ⟨_, rfl, y, oy, rfl, hy.ex e1, .inr ⟨wy, q H1 e1⟩⟩⟩⟩
theorem ok_xfigures (D : Df K mg "figures" ps_figures s_figures) (O_check_prime : Ok P w K mg base (L2N.CX P w) 2 "check_prime" ps_check_prime (sp_xp C_BadPrime)) (O_check_many : Ok P w K mg base (L2N.CX P w) 2 "check_many" ps_check_many (sp_xm C_BadMany)) (O_figures_of : Ok P w K mg base CX0 1 "figures_of" ps_figures_of sp_figures_of) : Ok P w K mg base (L2N.CX P w) 3 "figures" ps_figures (sp_xfigures C_BadPrime C_BadMany) := by
  refine D.okX sc_figures (fun vs H Q E h => ?_) (fun f cdv A outer s H vs Q E hr h => ?_)
  · rcases h with ⟨x, y, ox, oy, C, rfl, _⟩ | ⟨p, n, rfl, _⟩ <;> rfl
  · rcases h with ⟨x, y, ox, oy, C, rfl, hx, hy, hC, q⟩ | ⟨p, n, rfl, ⟨hP, hn⟩, q⟩
    · refine ⟨_, (pss_cons (ps_expr (pe_callX O_check_prime hr (L2N.takes_of rfl rfl rfl rfl) (pa_cons (pv 0) pa_nil)))
      (pss_cons (ps_expr (pe_callX O_check_many hr (L2N.takes_of rfl rfl rfl rfl) (pa_cons (pv 1) pa_nil)))
      (pss_one (ps_ret (pe_callO O_figures_of hr (pa_cons (pv 0) (pa_cons (pv 1) pa_nil))))))), ?_⟩
      rcases rpm_cases hC with ⟨g, rfl⟩ | ⟨g, wy, rfl⟩
      · exact ⟨_, rfl, x, ox, rfl, hx, .inr ⟨g, q⟩⟩
      · exact ⟨_, rfl, x, ox, rfl, hx, .inl ⟨g, fun H1 e1 => ⟨_, rfl, y, oy, rfl, hy.ex e1, .inr ⟨wy, q H1 e1⟩⟩⟩⟩
    · refine ⟨_, (pss_cons (ps_expr (pe_callX O_check_prime hr (L2N.takes_of rfl rfl rfl rfl) (pa_cons (pv 0) pa_nil)))
      (pss_cons (ps_expr (pe_callX O_check_many hr (L2N.takes_of rfl rfl rfl rfl) (pa_cons (pv 1) pa_nil)))
      (pss_one (ps_ret (pe_callO O_figures_of hr (pa_cons (pv 0) (pa_cons (pv 1) pa_nil))))))), ?_⟩
      have hp2 : p ≤ 1000 := Nat.le_trans hP.hi (by decide)
      exact ⟨_, rfl, _, _, rfl, .int _, .inl ⟨pr_goodp hP, fun H1 e1 => ⟨_, rfl, _, _, rfl, .int _, .inl ⟨whole_nat n, _, rfl, _, rfl, p, n, rfl, ⟨hP.lo, hp2, hn⟩, fun l H2 nl e2 hl => q l H2 (fresh_back e1 nl) (e1.trans e2) hl⟩⟩⟩⟩
theorem ok_xfree (D : Df K mg "free" ps_free s_free) (O_check_prime : Ok P w K mg base (L2N.CX P w) 2 "check_prime" ps_check_prime (sp_xp C_BadPrime)) (O_check_many : Ok P w K mg base (L2N.CX P w) 2 "check_many" ps_check_many (sp_xm C_BadMany)) (O_free_of : Ok P w K mg base CX0 2 "free_of" ps_free_of sp_free_of) : Ok P w K mg base (L2N.CX P w) 3 "free" ps_free (sp_xfree C_BadPrime C_BadMany) := by
  refine D.okX sc_free (fun vs H Q E h => ?_) (fun f cdv A outer s H vs Q E hr h => ?_)
  · rcases h with ⟨x, y, ox, oy, C, rfl, _⟩ | ⟨p, n, rfl, _⟩ <;> rfl
  · rcases h with ⟨x, y, ox, oy, C, rfl, hx, hy, hC, q⟩ | ⟨p, n, rfl, ⟨hP, hn⟩, q⟩
    · refine ⟨_, (pss_cons (ps_expr (pe_callX O_check_prime hr (L2N.takes_of rfl rfl rfl rfl) (pa_cons (pv 0) pa_nil)))
      (pss_cons (ps_expr (pe_callX O_check_many hr (L2N.takes_of rfl rfl rfl rfl) (pa_cons (pv 1) pa_nil)))
      (pss_one (ps_ret (pe_callO O_free_of hr (pa_cons (pv 0) (pa_cons (pv 1) pa_nil))))))), ?_⟩
      rcases rpm_cases hC with ⟨g, rfl⟩ | ⟨g, wy, rfl⟩
      · exact ⟨_, rfl, x, ox, rfl, hx, .inr ⟨g, q⟩⟩
      · exact ⟨_, rfl, x, ox, rfl, hx, .inl ⟨g, fun H1 e1 => ⟨_, rfl, y, oy, rfl, hy.ex e1, .inr ⟨wy, q H1 e1⟩⟩⟩⟩
    · refine ⟨_, (pss_cons (ps_expr (pe_callX O_check_prime hr (L2N.takes_of rfl rfl rfl rfl) (pa_cons (pv 0) pa_nil)))
      (pss_cons (ps_expr (pe_callX O_check_many hr (L2N.takes_of rfl rfl rfl rfl) (pa_cons (pv 1) pa_nil)))
      (pss_one (ps_ret (pe_callO O_free_of hr (pa_cons (pv 0) (pa_cons (pv 1) pa_nil))))))), ?_⟩
      have hp2 : p ≤ 1000 := Nat.le_trans hP.hi (by decide)
      exact ⟨_, rfl, _, _, rfl, .int _, .inl ⟨pr_goodp hP, fun H1 e1 => ⟨_, rfl, _, _, rfl, .int _, .inl ⟨whole_nat n, _, rfl, _, rfl, p, n, rfl, ⟨hP.lo, hp2, hn⟩, fun H2 e2 => q H2 (e1.trans e2)⟩⟩⟩⟩
end
end Cc

namespace Cc
open PySem PySem.Spec PyProof.Rows L2
/-- x *= e -/
theorem ip_mulX {X : Cx} : PIp X .Mult (rI CMulX fun i j => .int (i * j)) := by
  intro pins s σ H x y v u Q I r1 r2 h
  obtain ⟨i, j, rfl, rfl, c, q⟩ := h
  obtain ⟨t, rfl⟩ := r1
  obtain ⟨t', rfl⟩ := r2
  exact imul_int ⟨.int _, H, I.tok _, ⟨_, rfl⟩, q⟩ c.ok
end Cc

namespace Cc
open PySem PySem.Spec PyProof.Rows L2 Evl
abbrev s_ways : Stmt := topS 26
abbrev N_ways : List Str := ["prime", "many", "some"]
abbrev ps_ways : List Str := ["prime", "many", "some"]
theorem sc_ways : FnScope N_ways ps_ways (defScope s_ways) := ⟨rfl, rfl, rfl, by decide +kernel, rfl, by decide +kernel, by decide +kernel⟩
abbrev s_told : Stmt := topS 28
abbrev N_told : List Str := ["prime", "many", "some", "place"]
abbrev ps_told : List Str := ["prime", "many", "some"]
theorem sc_told : FnScope N_told ps_told (defScope s_told) := ⟨rfl, rfl, rfl, by decide +kernel, rfl, by decide +kernel, by decide +kernel⟩
abbrev s_place_by : Stmt := topS 33
abbrev N_place_by : List Str := ["prime", "many", "number", "found", "power", "figure"]
abbrev ps_place_by : List Str := ["prime", "many", "number"]
theorem sc_place_by : FnScope N_place_by ps_place_by (defScope s_place_by) := ⟨rfl, rfl, rfl, by decide +kernel, rfl, by decide +kernel, by decide +kernel⟩
abbrev s_number_of : Stmt := topS 34
abbrev N_number_of : List Str := ["prime", "many", "some", "found", "weight", "mine", "place", "figure"]
abbrev ps_number_of : List Str := ["prime", "many", "some"]
theorem sc_number_of : FnScope N_number_of ps_number_of (defScope s_number_of) := ⟨rfl, rfl, rfl, by decide +kernel, rfl, by decide +kernel, by decide +kernel⟩
abbrev s__law_with_prime : Stmt := topS 43
abbrev N__law_with_prime : List Str := ["_law_door", "_law_prime"]
abbrev ps__law_with_prime : List Str := ["_law_door", "_law_prime"]
theorem sc__law_with_prime : FnScope N__law_with_prime ps__law_with_prime (defScope s__law_with_prime) := ⟨rfl, rfl, rfl, by decide +kernel, rfl, by decide +kernel, by decide +kernel⟩
abbrev s__law_with_many : Stmt := topS 44
abbrev N__law_with_many : List Str := ["_law_door", "_law_many"]
abbrev ps__law_with_many : List Str := ["_law_door", "_law_many"]
theorem sc__law_with_many : FnScope N__law_with_many ps__law_with_many (defScope s__law_with_many) := ⟨rfl, rfl, rfl, by decide +kernel, rfl, by decide +kernel, by decide +kernel⟩
abbrev s__law_with_some : Stmt := topS 45
abbrev N__law_with_some : List Str := ["_law_where", "_law_some", "_law_door", "_law_many"]
abbrev ps__law_with_some : List Str := ["_law_where", "_law_some"]
theorem sc__law_with_some : FnScope N__law_with_some ps__law_with_some (defScope s__law_with_some) := ⟨rfl, rfl, rfl, by decide +kernel, rfl, by decide +kernel, by decide +kernel⟩
abbrev s__law_with_number : Stmt := topS 46
abbrev N__law_with_number : List Str := ["_law_where", "_law_number", "_law_prime", "_law_many"]
abbrev ps__law_with_number : List Str := ["_law_where", "_law_number"]
theorem sc__law_with_number : FnScope N__law_with_number ps__law_with_number (defScope s__law_with_number) := ⟨rfl, rfl, rfl, by decide +kernel, rfl, by decide +kernel, by decide +kernel⟩

section
variable {P : Program} {w : World} {K : PySem.W.Frag} {mg : Str → Option Value} {base : Heap} {C_ChooseError C_BadPrime C_BadMany C_BadSome C_BadNumber C_NotFree : Addr}
/-! ### the doors of three arguments -/
def Ref3 (CP CM CS : Addr) (H : Hp) (E : XK) (vs : List V) : Prop := ∃ x y z ox oy oz C, vs = [x, y, z] ∧ Pa H x ox ∧ Pa H y oy ∧ Pa H z oz ∧ rall CP CM CS ox oy oz = some C ∧ RetE C H E
theorem rall_p {CP CM CS : Addr} {ox oy oz : Option Int} (h : goodp ox = false) : rall CP CM CS ox oy oz = some CP := by
  unfold rall
  rw [if_neg (Bool.eq_false_iff.mp h)]
theorem rall_m {CP CM CS : Addr} {ox oy oz : Option Int} (h : goodp ox = true) (w : whole oy = false) : rall CP CM CS ox oy oz = some CM := by
  unfold rall
  rw [if_pos h, if_neg (Bool.eq_false_iff.mp w)]
theorem rall_s {CP CM CS : Addr} {ox oy oz : Option Int} (h : goodp ox = true) (w : whole oy = true) (s : okS oz oy = false) : rall CP CM CS ox oy oz = some CS := by
  unfold rall
  rw [if_pos h, if_pos w, if_neg (Bool.eq_false_iff.mp s)]
theorem rall_ok {CP CM CS : Addr} {p n k : Nat} (h : Pr p) (hk : k ≤ n) : rall CP CM CS (some (p : Int)) (some (n : Int)) (some (k : Int)) = none := by
  unfold rall
  rw [if_pos (pr_goodp h), if_pos (whole_nat n)]
  have : okS (some (k : Int)) (some (n : Int)) = true := by
    show (decide (0 ≤ (k : Int)) && decide ((k : Int) ≤ (n : Int))) = true
    rw [decide_eq_true (show 0 ≤ (k : Int) by omega), decide_eq_true (show (k : Int) ≤ (n : Int) by omega)]; rfl
  rw [if_pos this]
def sp_x3 (CP CM CS : Addr) : Sp := fun vs H _ E => Ref3 CP CM CS H E vs
def sp_xways (CP CM CS : Addr) : Sp := fun vs H Q E => Ref3 CP CM CS H E vs ∨ ∃ p n k : Nat, vs = [.int p, .int n, .int k] ∧ (Pr p ∧ n < 2 ^ 1000 ∧ k ≤ n) ∧ RetU [.int (wo p n k), .int (wc p n k)] H Q
theorem ok_xways (D : Df K mg "ways" ps_ways s_ways) (O_check_all : Ok P w K mg base (L2N.CX P w) 3 "check_all" ps_check_all (sp_xa C_BadPrime C_BadMany C_BadSome)) (O_ways_of : Ok P w K mg base CX0 3 "ways_of" ps_ways_of sp_ways_of) : Ok P w K mg base (L2N.CX P w) 4 "ways" ps_ways (sp_xways C_BadPrime C_BadMany C_BadSome) := by
  refine D.okX sc_ways (fun vs H Q E h => ?_) (fun f cdv A outer s H vs Q E hr h => ?_)
  · rcases h with ⟨x, y, z, ox, oy, oz, C, rfl, _⟩ | ⟨p, n, k, rfl, _⟩ <;> rfl
  · rcases h with ⟨x, y, z, ox, oy, oz, C, rfl, hx, hy, hz, hC, q⟩ | ⟨p, n, k, rfl, ⟨hP, hn, hk⟩, q⟩
    · refine ⟨_, (pss_cons (ps_expr (pe_callX O_check_all hr (L2N.takes_of rfl rfl rfl rfl) (pa_cons (pv 0) (pa_cons (pv 1) (pa_cons (pv 2) pa_nil)))))
      (pss_one (ps_ret (pe_callO O_ways_of hr (pa_cons (pv 0) (pa_cons (pv 1) (pa_cons (pv 2) pa_nil))))))), ?_⟩
      exact ⟨_, rfl, _, rfl, _, rfl, x, y, z, ox, oy, oz, rfl, hx, hy, hz, .inr ⟨C, hC, q⟩⟩
    · refine ⟨_, (pss_cons (ps_expr (pe_callX O_check_all hr (L2N.takes_of rfl rfl rfl rfl) (pa_cons (pv 0) (pa_cons (pv 1) (pa_cons (pv 2) pa_nil)))))
      (pss_one (ps_ret (pe_callO O_ways_of hr (pa_cons (pv 0) (pa_cons (pv 1) (pa_cons (pv 2) pa_nil))))))), ?_⟩
      have hp2 : p ≤ 1000 := Nat.le_trans hP.hi (by decide)
      exact ⟨_, rfl, _, rfl, _, rfl, _, _, _, _, _, _, rfl, .int _, .int _, .int _, .inl ⟨rall_ok hP hk, fun H1 e1 => ⟨_, rfl, _, rfl, _, rfl, p, n, k, rfl, ⟨hP.lo, hp2, hn, hk⟩, fun u H3 nu e3 hu => q u H3 (fresh_back e1 nu) (e1.trans e3) hu⟩⟩⟩
theorem ok_xtold (D : Df K mg "told" ps_told s_told) (O_check_all : Ok P w K mg base (L2N.CX P w) 3 "check_all" ps_check_all (sp_xa C_BadPrime C_BadMany C_BadSome)) : Ok P w K mg base (L2N.CX P w) 4 "told" ps_told (sp_x3 C_BadPrime C_BadMany C_BadSome) := by
  refine D.okX sc_told (fun vs H Q E h => ?_) (fun f cdv A outer s H vs Q E hr h => ?_)
  · obtain ⟨x, y, z, ox, oy, oz, C, rfl, _⟩ := h; rfl
  · obtain ⟨x, y, z, ox, oy, oz, C, rfl, hx, hy, hz, hC, q⟩ := h
    refine ⟨_, (pss_cons (ps_expr (pe_callX O_check_all hr (L2N.takes_of rfl rfl rfl rfl) (pa_cons (pv 0) (pa_cons (pv 1) (pa_cons (pv 2) pa_nil)))))
      (pss_cons ps_never
      (pss_cons ps_never
      (pss_one ps_never)))), ?_⟩
    exact ⟨_, rfl, _, rfl, _, rfl, x, y, z, ox, oy, oz, rfl, hx, hy, hz, .inr ⟨C, hC, q⟩⟩
def sp_xnumber (CP CM CS CF : Addr) : Sp := fun vs H Q E => Ref3 CP CM CS H E vs ∨ ∃ p n k : Nat, vs = [.int p, .int n, .int k] ∧ (Pr p ∧ n < 2 ^ 200 ∧ k ≤ n ∧ ¬ okL p (figs p n) k) ∧ RetE CF H E
theorem ok_xnumber (T : Bi mg) (X_NotFree : XCls K mg C_NotFree "NotFree") (D : Df K mg "number_of" ps_number_of s_number_of) (O_check_all : Ok P w K mg base (L2N.CX P w) 3 "check_all" ps_check_all (sp_xa C_BadPrime C_BadMany C_BadSome)) (O_bound_at : Ok P w K mg base CX0 2 "bound_at" ps_bound_at sp_bound_at) : Ok P w K mg base (L2N.CX P w) 4 "number_of" ps_number_of (sp_xnumber C_BadPrime C_BadMany C_BadSome C_NotFree) := by
  refine D.okX sc_number_of (fun vs H Q E h => ?_) (fun f cdv A outer s H vs Q E hr h => ?_)
  · rcases h with ⟨x, y, z, ox, oy, oz, C, rfl, _⟩ | ⟨p, n, k, rfl, _⟩ <;> rfl
  · rcases h with ⟨x, y, z, ox, oy, oz, C, rfl, hx, hy, hz, hC, q⟩ | ⟨p, n, k, rfl, ⟨hP, hn, hk, nok⟩, q⟩
    · refine ⟨_, (pss_cons (ps_expr (pe_callX O_check_all hr (L2N.takes_of rfl rfl rfl rfl) (pa_cons (pv 0) (pa_cons (pv 1) (pa_cons (pv 2) pa_nil)))))
      (pss_cons (ps_if (pt_cmpR op_ge (pe_callO O_bound_at hr (pa_cons (pv 0) (pa_cons (pv 1) (pa_cons (pv 2) pa_nil)))) pe_int (nomark _))
      (pss_one (L2N.ps_raise rfl (L2N.takes_of rfl rfl rfl rfl) (L2N.pmk_own PySem.F.excBase_ValueError X_NotFree.ex X_NotFree.g X_NotFree.k (raises_own X_NotFree.b X_NotFree.t) rfl)))
      pss_nil)
      (pss_cons ps_never
      (pss_cons ps_never
      (pss_cons ps_never
      (pss_cons ps_never
      (pss_one ps_never))))))), ?_⟩
      exact ⟨_, rfl, _, rfl, _, rfl, x, y, z, ox, oy, oz, rfl, hx, hy, hz, .inr ⟨C, hC, q⟩⟩
    · refine ⟨_, (pss_cons (ps_expr (pe_callX O_check_all hr (L2N.takes_of rfl rfl rfl rfl) (pa_cons (pv 0) (pa_cons (pv 1) (pa_cons (pv 2) pa_nil)))))
      (pss_cons (ps_if (pt_cmpR op_ge (pe_callO O_bound_at hr (pa_cons (pv 0) (pa_cons (pv 1) (pa_cons (pv 2) pa_nil)))) pe_int (nomark _))
      (pss_one (L2N.ps_raise rfl (L2N.takes_of rfl rfl rfl rfl) (L2N.pmk_own PySem.F.excBase_ValueError X_NotFree.ex X_NotFree.g X_NotFree.k (raises_own X_NotFree.b X_NotFree.t) rfl)))
      pss_nil)
      (pss_cons ps_never
      (pss_cons ps_never
      (pss_cons ps_never
      (pss_cons ps_never
      (pss_one ps_never))))))), ?_⟩
      have hp2 : p ≤ 1000 := Nat.le_trans hP.hi (by decide)
      have hn3 := lt1000 hn
      refine ⟨_, rfl, _, rfl, _, rfl, _, _, _, _, _, _, rfl, .int _, .int _, .int _, .inl ⟨rall_ok hP hk, fun H1 e1 => ?_⟩⟩
      refine ⟨_, rfl, _, rfl, _, rfl, p, n, k, rfl, ⟨hP.lo, hp2, hn3, Nat.lt_of_le_of_lt hk hn3⟩, fun H2 e2 => ⟨fun hf => absurd ((okL_iff hP.lo n k).mpr hf) nok, fun i hi => ?_⟩⟩
      have c : decide ((0 : Int) ≤ (i : Int)) = true := decide_eq_true (by omega)
      exact ⟨_, _, rfl, rfl, _, rfl, if_t c (q H2 (e1.trans e2))⟩
/-- no number of a free place -/
def okN : Option Int → Nat → Bool
  | some m, F => decide (0 ≤ m) && decide (m < (F : Int))
  | none, _ => false
def sp_xplace (CP CM CN : Addr) : Sp := fun vs H Q E => (∃ x y z ox oy C, vs = [x, y, z] ∧ Pa H x ox ∧ Pa H y oy ∧ rpm CP CM ox oy = some C ∧ RetE C H E) ∨
  (∃ (p n : Nat) (z : V) (oz : Option Int), vs = [.int p, .int n, z] ∧ (Pr p ∧ n < 2 ^ 200) ∧ Pa H z oz ∧ okN oz (fr (figs p n)) = false ∧ RetE CN H E) ∨
  (∃ p n m : Nat, vs = [.int p, .int n, .int m] ∧ (Pr p ∧ n < 2 ^ 200 ∧ m < fr (figs p n)) ∧ RetV (.int (pb p (figs p n) m : Nat)) H Q)
theorem step_pb (f w a p X : Nat) : f + a * w + w * p * X = f + w * (a + p * X) := by
  rw [Nat.mul_add, Nat.mul_assoc, Nat.mul_comm a w, Nat.add_assoc]
theorem ok_xplace (X_BadNumber : XCls K mg C_BadNumber "BadNumber") (D : Df K mg "place_by" ps_place_by s_place_by) (O_is_whole : Ok P w K mg base CX0 1 "is_whole" ps_is_whole (sp_is_whole K)) (O_check_prime : Ok P w K mg base (L2N.CX P w) 2 "check_prime" ps_check_prime (sp_xp C_BadPrime)) (O_check_many : Ok P w K mg base (L2N.CX P w) 2 "check_many" ps_check_many (sp_xm C_BadMany)) (O_free_of : Ok P w K mg base CX0 2 "free_of" ps_free_of sp_free_of) (O_figures_of : Ok P w K mg base CX0 1 "figures_of" ps_figures_of sp_figures_of) : Ok P w K mg base (L2N.CX P w) 3 "place_by" ps_place_by (sp_xplace C_BadPrime C_BadMany C_BadNumber) := by
  refine D.okX sc_place_by (fun vs H Q E h => ?_) (fun f cdv A outer s H vs Q E hr h => ?_)
  · rcases h with ⟨x, y, z, ox, oy, C, rfl, _⟩ | ⟨p, n, z, oz, rfl, _⟩ | ⟨p, n, m, rfl, _⟩ <;> rfl
  · rcases h with ⟨x, y, z, ox, oy, C, rfl, hx, hy, hC, q⟩ | ⟨p, n, z, oz, rfl, ⟨hP, hn⟩, hz, hN, q⟩ | ⟨p, n, m0, rfl, ⟨hP, hn, hm⟩, q⟩
    · refine ⟨_, (pss_cons (ps_expr (pe_callX O_check_prime hr (L2N.takes_of rfl rfl rfl rfl) (pa_cons (pv 0) pa_nil)))
      (pss_cons (ps_expr (pe_callX O_check_many hr (L2N.takes_of rfl rfl rfl rfl) (pa_cons (pv 1) pa_nil)))
      (pss_cons (ps_if (PW.pt (pw_or (pt_not (pt_val (pe_callO O_is_whole hr (pa_cons (pv 2) pa_nil)))) (pw_or1 (pt_cmpR op_ge (pv 2) (pe_callO O_free_of hr (pa_cons (pv 0) (pa_cons (pv 1) pa_nil))) (nomark _)))))
      (pss_one (L2N.ps_raise rfl (L2N.takes_of rfl rfl rfl rfl) (L2N.pmk_own PySem.F.excBase_ValueError X_BadNumber.ex X_BadNumber.g X_BadNumber.k (raises_own X_BadNumber.b X_BadNumber.t) rfl)))
      pss_nil)
      (pss_cons (ps_set (i := 3) sc_place_by.nd rfl (.inl rfl) pe_int)
      (pss_cons (ps_set (i := 4) sc_place_by.nd rfl (.inl rfl) pe_int)
      (pss_cons (ps_for PassesOwn.leaving rfl (pi_list (pe_callO O_figures_of hr (pa_cons (pv 0) (pa_cons (pv 1) pa_nil)))) (pg_name (i := 5) sc_place_by.nd rfl (.inl rfl))
      (pss_cons (ps_aug (i := 3) sc_place_by.nd rfl (.inl rfl) (pe_op op_mulX (pe_op op_mod (pv 2) (pe_op op_add (pv 5) pe_int)) (pv 4)) ip_add)
      (pss_cons (ps_set (i := 2) sc_place_by.nd rfl (.inl rfl) (pe_op op_fdivW (pv 2) (pe_op op_add (pv 5) pe_int)))
      (pss_one (ps_aug (i := 4) sc_place_by.nd rfl (.inl rfl) (pv 0) ip_mulX)))))
      (pss_one (ps_ret (pv 3))))))))), ?_⟩
      rcases rpm_cases hC with ⟨g, rfl⟩ | ⟨g, wy, rfl⟩
      · exact ⟨_, rfl, x, ox, rfl, hx, .inr ⟨g, q⟩⟩
      · exact ⟨_, rfl, x, ox, rfl, hx, .inl ⟨g, fun H1 e1 => ⟨_, rfl, y, oy, rfl, hy.ex e1, .inr ⟨wy, q H1 e1⟩⟩⟩⟩
    · refine ⟨_, (pss_cons (ps_expr (pe_callX O_check_prime hr (L2N.takes_of rfl rfl rfl rfl) (pa_cons (pv 0) pa_nil)))
      (pss_cons (ps_expr (pe_callX O_check_many hr (L2N.takes_of rfl rfl rfl rfl) (pa_cons (pv 1) pa_nil)))
      (pss_cons (ps_if (PW.pt (pw_or (pt_not (pt_val (pe_callO O_is_whole hr (pa_cons (pv 2) pa_nil)))) (pw_or1 (pt_cmpR op_ge (pv 2) (pe_callO O_free_of hr (pa_cons (pv 0) (pa_cons (pv 1) pa_nil))) (nomark _)))))
      (pss_one (L2N.ps_raise rfl (L2N.takes_of rfl rfl rfl rfl) (L2N.pmk_own PySem.F.excBase_ValueError X_BadNumber.ex X_BadNumber.g X_BadNumber.k (raises_own X_BadNumber.b X_BadNumber.t) rfl)))
      pss_nil)
      (pss_cons (ps_set (i := 3) sc_place_by.nd rfl (.inl rfl) pe_int)
      (pss_cons (ps_set (i := 4) sc_place_by.nd rfl (.inl rfl) pe_int)
      (pss_cons (ps_for PassesOwn.leaving rfl (pi_list (pe_callO O_figures_of hr (pa_cons (pv 0) (pa_cons (pv 1) pa_nil)))) (pg_name (i := 5) sc_place_by.nd rfl (.inl rfl))
      (pss_cons (ps_aug (i := 3) sc_place_by.nd rfl (.inl rfl) (pe_op op_mulX (pe_op op_mod (pv 2) (pe_op op_add (pv 5) pe_int)) (pv 4)) ip_add)
      (pss_cons (ps_set (i := 2) sc_place_by.nd rfl (.inl rfl) (pe_op op_fdivW (pv 2) (pe_op op_add (pv 5) pe_int)))
      (pss_one (ps_aug (i := 4) sc_place_by.nd rfl (.inl rfl) (pv 0) ip_mulX)))))
      (pss_one (ps_ret (pv 3))))))))), ?_⟩
      have hp2 : p ≤ 1000 := Nat.le_trans hP.hi (by decide)
      refine ⟨_, rfl, _, _, rfl, .int _, .inl ⟨pr_goodp hP, fun H1 e1 => ⟨_, rfl, _, _, rfl, .int _, .inl ⟨whole_nat n, ?_⟩⟩⟩⟩
      refine ⟨_, rfl, z, oz, rfl, (hz.ex e1).arg, _, rfl, ?_⟩
      by_cases wz : whole oz = true
      · obtain ⟨k, rfl, rfl⟩ := hz.whole wz
        have hN : (decide (0 ≤ (k : Int)) && decide ((k : Int) < (fr (figs p n) : Nat))) = false := hN
        rw [decide_eq_true (show 0 ≤ (k : Int) by omega), Bool.true_and] at hN
        have hk := of_decide_eq_false hN
        refine if_f (by rw [wz]; rfl) ⟨_, rfl, _, rfl, _, rfl, p, n, rfl, ⟨hP.lo, hp2, hn⟩, fun H2 e2 => ⟨_, _, rfl, rfl, _, rfl, if_t (decide_eq_true (by omega)) (q H2 (e1.trans e2))⟩⟩
      · exact if_t (by rw [Bool.eq_false_iff.mpr wz]; rfl) (q H1 e1)
    · have hp := hP.lo
      have hp2 : p ≤ 1000 := Nat.le_trans hP.hi (by decide)
      have hle := fr_le hp n
      refine ⟨_, (pss_cons (ps_expr (pe_callX O_check_prime hr (L2N.takes_of rfl rfl rfl rfl) (pa_cons (pv 0) pa_nil)))
      (pss_cons (ps_expr (pe_callX O_check_many hr (L2N.takes_of rfl rfl rfl rfl) (pa_cons (pv 1) pa_nil)))
      (pss_cons (ps_if (PW.pt (pw_or (pt_not (pt_val (pe_callO O_is_whole hr (pa_cons (pv 2) pa_nil)))) (pw_or1 (pt_cmpR op_ge (pv 2) (pe_callO O_free_of hr (pa_cons (pv 0) (pa_cons (pv 1) pa_nil))) (nomark _)))))
      (pss_one (L2N.ps_raise rfl (L2N.takes_of rfl rfl rfl rfl) (L2N.pmk_own PySem.F.excBase_ValueError X_BadNumber.ex X_BadNumber.g X_BadNumber.k (raises_own X_BadNumber.b X_BadNumber.t) rfl)))
      pss_nil)
      (pss_cons (ps_set (i := 3) sc_place_by.nd rfl (.inl rfl) pe_int)
      (pss_cons (ps_set (i := 4) sc_place_by.nd rfl (.inl rfl) pe_int)
      (pss_cons (ps_for PassesOwn.leaving rfl (pi_list (pe_callO O_figures_of hr (pa_cons (pv 0) (pa_cons (pv 1) pa_nil)))) (pg_name (i := 5) sc_place_by.nd rfl (.inl rfl))
      (pss_cons (ps_aug (i := 3) sc_place_by.nd rfl (.inl rfl) (pe_op op_mulX (pe_op op_mod (pv 2) (pe_op op_add (pv 5) pe_int)) (pv 4)) ip_add)
      (pss_cons (ps_set (i := 2) sc_place_by.nd rfl (.inl rfl) (pe_op op_fdivW (pv 2) (pe_op op_add (pv 5) pe_int)))
      (pss_one (ps_aug (i := 4) sc_place_by.nd rfl (.inl rfl) (pv 0) ip_mulX)))))
      (pss_one (ps_ret (pv 3))))))))), ?_⟩
      have hw : (!whole (some (m0 : Int))) = false := by rw [whole_nat]; rfl
      have c1 : decide (((fr (figs p n) : Nat) : Int) ≤ (m0 : Int)) = false := decide_eq_false (by omega)
      refine ⟨_, rfl, _, _, rfl, .int _, .inl ⟨pr_goodp hP, fun H1 e1 => ⟨_, rfl, _, _, rfl, .int _, .inl ⟨whole_nat n, ?_⟩⟩⟩⟩
      refine ⟨_, rfl, _, _, rfl, .int (m0 : Int), _, rfl, if_f hw ⟨_, rfl, _, rfl, _, rfl, p, n, rfl, ⟨hp, hp2, hn⟩, fun H2 e2 => ⟨_, _, rfl, rfl, _, rfl, if_f c1 ?_⟩⟩⟩
      refine ⟨_, rfl, _, rfl, p, n, rfl, ⟨hp, hp2, lt1000 hn⟩, fun l H3 nl e3 hl => ?_⟩
      have hlen : (nV (figs p n)).length = (figs p n).length := List.length_map _
      have hll := figs_len_le hp n 200 hn
      refine ⟨l, rfl, ⟨_, SqL.of hl⟩, for_list (K := K) (a := l) (xs := nV (figs p n)) (fun i σ' H' => ∃ (f m : Nat) (y : Option V), m ≤ m0 ∧ f + p ^ i * pb p ((figs p n).drop i) m = pb p (figs p n) m0 ∧ σ' = [some (.int p), some (.int n), some (.int m), some (.int f), some (.int (p ^ i : Nat)), y] ∧ Ex H3 H')
        ⟨0, m0, _, Nat.le_refl _, by rw [Nat.pow_zero, Nat.one_mul, Nat.zero_add]; rfl, rfl, Ex.refl _⟩ (fun i σ' H' _ ⟨_, _, _, _, _, _, e⟩ => SqL.of (e l _ hl)) ?_ ?_⟩
      · rintro i x σ' H' hi ⟨f, m, y, hmm, h1, rfl, e4⟩
        obtain ⟨d, hd, rfl⟩ := nV_get hi
        have hil : i < (figs p n).length := (List.getElem?_eq_some_iff.mp hd).1
        rw [drop_cons hd] at h1
        have hd2 := figs_small hp n d (List.mem_of_getElem? hd)
        have hpw := pow_bits (i := i) hp2 (by omega)
        have hmod : m % (d + 1) < 2 ^ 11 := Nat.lt_trans (Nat.mod_lt _ (Nat.succ_pos d)) (d11 hd2 hp2)
        refine ⟨_, rfl, _, rfl, _, rfl, _, _, rfl, rfl, _, _, rfl, rfl, (by show (0 : Int) < (d : Int) + 1; omega), _, rfl, _, _, rfl, rfl, (show CMulX ((m % (d + 1) : Nat) : Int) ((p ^ i : Nat) : Int) from mul_nat hmod hpw (by decide)), _, _, rfl, rfl, ?_⟩
        refine ⟨_, rfl, _, rfl, _, _, rfl, rfl, _, _, rfl, rfl, (div_small (p := d + 1) (Nat.succ_pos d) (by omega)), ?_⟩
        refine ⟨_, rfl, _, rfl, _, _, rfl, rfl, mul_nat hpw (Nat.lt_of_le_of_lt hp2 (show 1000 < 2 ^ 10 by decide)) (by decide), f + m % (d + 1) * p ^ i, m / (d + 1), some (.int d), Nat.le_trans (Nat.div_le_self _ _) hmm, ?_, rfl, e4⟩
        rw [Nat.pow_succ, step_pb]
        exact h1
      · rintro σ' H' ⟨f, m, y, hmm, h1, rfl, e4⟩
        rw [hlen, List.drop_length] at h1
        have h2 : f = pb p (figs p n) m0 := by
          rw [← h1]
          show f = f + p ^ _ * 0
          rw [Nat.mul_zero, Nat.add_zero]
        refine ⟨_, rfl, ?_⟩
        rw [h2]
        exact q H' (((e1.trans e2).trans e3).trans e4)
/-! ### what the law asks at the doors -/
def sp_wp (CP : Addr) : Sp := fun vs H _ E => ∃ (j : Nat) (x : V) (ox : Option Int), vs = [.int j, x] ∧ j < 8 ∧ Pa H x ox ∧ goodp ox = false ∧ RetE CP H E
theorem ok_wp (D : Df K mg "_law_with_prime" ps__law_with_prime s__law_with_prime) (O_figures : Ok P w K mg base (L2N.CX P w) 3 "figures" ps_figures (sp_xfigures C_BadPrime C_BadMany)) (O_product : Ok P w K mg base (L2N.CX P w) 3 "product" ps_product (sp_x2 C_BadPrime C_BadMany)) (O_ways : Ok P w K mg base (L2N.CX P w) 4 "ways" ps_ways (sp_xways C_BadPrime C_BadMany C_BadSome)) (O_told : Ok P w K mg base (L2N.CX P w) 4 "told" ps_told (sp_x3 C_BadPrime C_BadMany C_BadSome)) (O_free : Ok P w K mg base (L2N.CX P w) 3 "free" ps_free (sp_xfree C_BadPrime C_BadMany)) (O_most : Ok P w K mg base (L2N.CX P w) 3 "most" ps_most (sp_x2 C_BadPrime C_BadMany)) (O_place_by : Ok P w K mg base (L2N.CX P w) 3 "place_by" ps_place_by (sp_xplace C_BadPrime C_BadMany C_BadNumber)) (O_number_of : Ok P w K mg base (L2N.CX P w) 4 "number_of" ps_number_of (sp_xnumber C_BadPrime C_BadMany C_BadSome C_NotFree)) : Ok P w K mg base (L2N.CX P w) 5 "_law_with_prime" ps__law_with_prime (sp_wp C_BadPrime) := by
  refine D.okX sc__law_with_prime (fun vs H Q E h => ?_) (fun f cdv A outer s H vs Q E hr h => ?_)
  · obtain ⟨j, x, ox, rfl, _⟩ := h; rfl
  · obtain ⟨j, x, ox, rfl, hj, hx, g, q⟩ := h
    refine ⟨_, (pss_cons (ps_if (pt_cmpR op_lt (pv 0) pe_int (nomark _))
      (pss_cons (ps_if (pt_cmpR op_lt (pv 0) pe_int (nomark _))
      (pss_one (ps_ret (pe_ifExp (pt_cmpR op_eq (pv 0) pe_int (nomark _)) (pe_callX O_figures hr (L2N.takes_of rfl rfl rfl rfl) (pa_cons (pv 1) (pa_cons pe_non pa_nil))) (pe_callX O_product hr (L2N.takes_of rfl rfl rfl rfl) (pa_cons (pv 1) (pa_cons (pe_un un_neg pe_int) pa_nil))))))
      pss_nil)
      (pss_one (ps_ret (pe_ifExp (pt_cmpR op_eq (pv 0) pe_int (nomark _)) (pe_callX O_ways hr (L2N.takes_of rfl rfl rfl rfl) (pa_cons (pv 1) (pa_cons pe_non (pa_cons (pe_un un_neg pe_int) pa_nil)))) (pe_callX O_told hr (L2N.takes_of rfl rfl rfl rfl) (pa_cons (pv 1) (pa_cons (pe_un un_neg pe_int) (pa_cons pe_non pa_nil))))))))
      pss_nil)
      (pss_cons (ps_if (pt_cmpR op_lt (pv 0) pe_int (nomark _))
      (pss_one (ps_ret (pe_ifExp (pt_cmpR op_eq (pv 0) pe_int (nomark _)) (pe_callX O_free hr (L2N.takes_of rfl rfl rfl rfl) (pa_cons (pv 1) (pa_cons (pe_un un_neg pe_int) pa_nil))) (pe_callX O_most hr (L2N.takes_of rfl rfl rfl rfl) (pa_cons (pv 1) (pa_cons pe_non pa_nil))))))
      pss_nil)
      (pss_one (ps_ret (pe_ifExp (pt_cmpR op_eq (pv 0) pe_int (nomark _)) (pe_callX O_place_by hr (L2N.takes_of rfl rfl rfl rfl) (pa_cons (pv 1) (pa_cons (pe_un un_neg pe_int) (pa_cons (pe_un un_neg pe_int) pa_nil)))) (pe_callX O_number_of hr (L2N.takes_of rfl rfl rfl rfl) (pa_cons (pv 1) (pa_cons pe_non (pa_cons pe_non pa_nil))))))))), ?_⟩
    match j, hj with
    | 0, _ => exact ⟨_, rfl, _, _, rfl, rfl, _, rfl, if_t rfl ⟨_, rfl, _, _, rfl, rfl, _, rfl, if_t rfl ⟨_, rfl, rfl, _, rfl, if_t (by decide) ⟨_, rfl, .inl ⟨x, _, ox, _, C_BadPrime, rfl, hx, .non, rpm_p g, q⟩⟩⟩⟩⟩
    | 1, _ => exact ⟨_, rfl, _, _, rfl, rfl, _, rfl, if_t rfl ⟨_, rfl, _, _, rfl, rfl, _, rfl, if_t rfl ⟨_, rfl, rfl, _, rfl, if_f (by decide) ⟨_, rfl, 1, rfl, x, _, ox, _, C_BadPrime, rfl, hx, .int _, rpm_p g, q⟩⟩⟩⟩
    | 2, _ => exact ⟨_, rfl, _, _, rfl, rfl, _, rfl, if_t rfl ⟨_, rfl, _, _, rfl, rfl, _, rfl, if_f rfl ⟨_, rfl, rfl, _, rfl, if_t (by decide) ⟨_, rfl, 1, rfl, .inl ⟨x, _, _, ox, _, _, C_BadPrime, rfl, hx, .non, .int _, rall_p g, q⟩⟩⟩⟩⟩
    | 3, _ => exact ⟨_, rfl, _, _, rfl, rfl, _, rfl, if_t rfl ⟨_, rfl, _, _, rfl, rfl, _, rfl, if_f rfl ⟨_, rfl, rfl, _, rfl, if_f (by decide) ⟨_, rfl, 1, rfl, x, _, _, ox, _, _, C_BadPrime, rfl, hx, .int _, .non, rall_p g, q⟩⟩⟩⟩
    | 4, _ => exact ⟨_, rfl, _, _, rfl, rfl, _, rfl, if_f rfl ⟨_, rfl, _, _, rfl, rfl, _, rfl, if_t rfl ⟨_, rfl, rfl, _, rfl, if_t (by decide) ⟨_, rfl, 1, rfl, .inl ⟨x, _, ox, _, C_BadPrime, rfl, hx, .int _, rpm_p g, q⟩⟩⟩⟩⟩
    | 5, _ => exact ⟨_, rfl, _, _, rfl, rfl, _, rfl, if_f rfl ⟨_, rfl, _, _, rfl, rfl, _, rfl, if_t rfl ⟨_, rfl, rfl, _, rfl, if_f (by decide) ⟨_, rfl, x, _, ox, _, C_BadPrime, rfl, hx, .non, rpm_p g, q⟩⟩⟩⟩
    | 6, _ => exact ⟨_, rfl, _, _, rfl, rfl, _, rfl, if_f rfl ⟨_, rfl, _, _, rfl, rfl, _, rfl, if_f rfl ⟨_, rfl, rfl, _, rfl, if_t (by decide) ⟨_, rfl, 1, rfl, 1, rfl, .inl ⟨x, _, _, ox, _, C_BadPrime, rfl, hx, .int _, rpm_p g, q⟩⟩⟩⟩⟩
    | 7, _ => exact ⟨_, rfl, _, _, rfl, rfl, _, rfl, if_f rfl ⟨_, rfl, _, _, rfl, rfl, _, rfl, if_f rfl ⟨_, rfl, rfl, _, rfl, if_f (by decide) ⟨_, rfl, .inl ⟨x, _, _, ox, _, _, C_BadPrime, rfl, hx, .non, .non, rall_p g, q⟩⟩⟩⟩⟩
def sp_wm (CM : Addr) : Sp := fun vs H _ E => ∃ (j : Nat) (x : V) (ox : Option Int), vs = [.int j, x] ∧ j < 8 ∧ Pa H x ox ∧ whole ox = false ∧ RetE CM H E
theorem gp {p : Nat} (h : goodp (some (p : Int)) = true) : goodp (some (p : Int)) = true := h
theorem ok_wm (D : Df K mg "_law_with_many" ps__law_with_many s__law_with_many) (O_figures : Ok P w K mg base (L2N.CX P w) 3 "figures" ps_figures (sp_xfigures C_BadPrime C_BadMany)) (O_product : Ok P w K mg base (L2N.CX P w) 3 "product" ps_product (sp_x2 C_BadPrime C_BadMany)) (O_ways : Ok P w K mg base (L2N.CX P w) 4 "ways" ps_ways (sp_xways C_BadPrime C_BadMany C_BadSome)) (O_told : Ok P w K mg base (L2N.CX P w) 4 "told" ps_told (sp_x3 C_BadPrime C_BadMany C_BadSome)) (O_free : Ok P w K mg base (L2N.CX P w) 3 "free" ps_free (sp_xfree C_BadPrime C_BadMany)) (O_most : Ok P w K mg base (L2N.CX P w) 3 "most" ps_most (sp_x2 C_BadPrime C_BadMany)) (O_place_by : Ok P w K mg base (L2N.CX P w) 3 "place_by" ps_place_by (sp_xplace C_BadPrime C_BadMany C_BadNumber)) (O_number_of : Ok P w K mg base (L2N.CX P w) 4 "number_of" ps_number_of (sp_xnumber C_BadPrime C_BadMany C_BadSome C_NotFree)) : Ok P w K mg base (L2N.CX P w) 5 "_law_with_many" ps__law_with_many (sp_wm C_BadMany) := by
  refine D.okX sc__law_with_many (fun vs H Q E h => ?_) (fun f cdv A outer s H vs Q E hr h => ?_)
  · obtain ⟨j, x, ox, rfl, _⟩ := h; rfl
  · obtain ⟨j, x, ox, rfl, hj, hx, g, q⟩ := h
    refine ⟨_, (pss_cons (ps_if (pt_cmpR op_lt (pv 0) pe_int (nomark _))
      (pss_cons (ps_if (pt_cmpR op_lt (pv 0) pe_int (nomark _))
      (pss_one (ps_ret (pe_ifExp (pt_cmpR op_eq (pv 0) pe_int (nomark _)) (pe_callX O_figures hr (L2N.takes_of rfl rfl rfl rfl) (pa_cons pe_int (pa_cons (pv 1) pa_nil))) (pe_callX O_product hr (L2N.takes_of rfl rfl rfl rfl) (pa_cons pe_int (pa_cons (pv 1) pa_nil))))))
      pss_nil)
      (pss_one (ps_ret (pe_ifExp (pt_cmpR op_eq (pv 0) pe_int (nomark _)) (pe_callX O_ways hr (L2N.takes_of rfl rfl rfl rfl) (pa_cons pe_int (pa_cons (pv 1) (pa_cons (pe_un un_neg pe_int) pa_nil)))) (pe_callX O_told hr (L2N.takes_of rfl rfl rfl rfl) (pa_cons pe_int (pa_cons (pv 1) (pa_cons pe_non pa_nil))))))))
      pss_nil)
      (pss_cons (ps_if (pt_cmpR op_lt (pv 0) pe_int (nomark _))
      (pss_one (ps_ret (pe_ifExp (pt_cmpR op_eq (pv 0) pe_int (nomark _)) (pe_callX O_free hr (L2N.takes_of rfl rfl rfl rfl) (pa_cons pe_int (pa_cons (pv 1) pa_nil))) (pe_callX O_most hr (L2N.takes_of rfl rfl rfl rfl) (pa_cons pe_int (pa_cons (pv 1) pa_nil))))))
      pss_nil)
      (pss_one (ps_ret (pe_ifExp (pt_cmpR op_eq (pv 0) pe_int (nomark _)) (pe_callX O_place_by hr (L2N.takes_of rfl rfl rfl rfl) (pa_cons pe_int (pa_cons (pv 1) (pa_cons (pe_un un_neg pe_int) pa_nil)))) (pe_callX O_number_of hr (L2N.takes_of rfl rfl rfl rfl) (pa_cons pe_int (pa_cons (pv 1) (pa_cons (pe_un un_neg pe_int) pa_nil))))))))), ?_⟩
    match j, hj with
    | 0, _ => exact ⟨_, rfl, _, _, rfl, rfl, _, rfl, if_t rfl ⟨_, rfl, _, _, rfl, rfl, _, rfl, if_t rfl ⟨_, rfl, rfl, _, rfl, if_t (by decide) ⟨_, rfl, .inl ⟨_, x, some 7, ox, C_BadMany, rfl, .int 7, hx, rpm_m (by decide +kernel) g, q⟩⟩⟩⟩⟩
    | 1, _ => exact ⟨_, rfl, _, _, rfl, rfl, _, rfl, if_t rfl ⟨_, rfl, _, _, rfl, rfl, _, rfl, if_t rfl ⟨_, rfl, rfl, _, rfl, if_f (by decide) ⟨_, rfl, _, x, some 2, ox, C_BadMany, rfl, .int 2, hx, rpm_m (by decide +kernel) g, q⟩⟩⟩⟩
    | 2, _ => exact ⟨_, rfl, _, _, rfl, rfl, _, rfl, if_t rfl ⟨_, rfl, _, _, rfl, rfl, _, rfl, if_f rfl ⟨_, rfl, rfl, _, rfl, if_t (by decide) ⟨_, rfl, 1, rfl, .inl ⟨_, x, _, some 3, ox, _, C_BadMany, rfl, .int 3, hx, .int _, rall_m (by decide +kernel) g, q⟩⟩⟩⟩⟩
    | 3, _ => exact ⟨_, rfl, _, _, rfl, rfl, _, rfl, if_t rfl ⟨_, rfl, _, _, rfl, rfl, _, rfl, if_f rfl ⟨_, rfl, rfl, _, rfl, if_f (by decide) ⟨_, rfl, _, x, _, some 997, ox, _, C_BadMany, rfl, .int 997, hx, .non, rall_m (by decide +kernel) g, q⟩⟩⟩⟩
    | 4, _ => exact ⟨_, rfl, _, _, rfl, rfl, _, rfl, if_f rfl ⟨_, rfl, _, _, rfl, rfl, _, rfl, if_t rfl ⟨_, rfl, rfl, _, rfl, if_t (by decide) ⟨_, rfl, .inl ⟨_, x, some 2, ox, C_BadMany, rfl, .int 2, hx, rpm_m (by decide +kernel) g, q⟩⟩⟩⟩⟩
    | 5, _ => exact ⟨_, rfl, _, _, rfl, rfl, _, rfl, if_f rfl ⟨_, rfl, _, _, rfl, rfl, _, rfl, if_t rfl ⟨_, rfl, rfl, _, rfl, if_f (by decide) ⟨_, rfl, _, x, some 5, ox, C_BadMany, rfl, .int 5, hx, rpm_m (by decide +kernel) g, q⟩⟩⟩⟩
    | 6, _ => exact ⟨_, rfl, _, _, rfl, rfl, _, rfl, if_f rfl ⟨_, rfl, _, _, rfl, rfl, _, rfl, if_f rfl ⟨_, rfl, rfl, _, rfl, if_t (by decide) ⟨_, rfl, 1, rfl, .inl ⟨_, x, _, some 11, ox, C_BadMany, rfl, .int 11, hx, rpm_m (by decide +kernel) g, q⟩⟩⟩⟩⟩
    | 7, _ => exact ⟨_, rfl, _, _, rfl, rfl, _, rfl, if_f rfl ⟨_, rfl, _, _, rfl, rfl, _, rfl, if_f rfl ⟨_, rfl, rfl, _, rfl, if_f (by decide) ⟨_, rfl, 1, rfl, .inl ⟨_, x, _, some 2, ox, _, C_BadMany, rfl, .int 2, hx, .int _, rall_m (by decide +kernel) g, q⟩⟩⟩⟩⟩
/-- a bad number of some, at the doors; or a place that is not free -/
def sp_ws (CS CF : Addr) : Sp := fun vs H _ E => ∃ (u : Addr) (j n : Nat) (z : V) (oz : Option Int), vs = [.ref u, z] ∧ H u = some (.tup [.int j, .int n]) ∧ n < 2 ^ 200 ∧ j < 3 ∧ Pa H z oz ∧
  ((okS oz (some (n : Int)) = false ∧ RetE CS H E) ∨ (j = 2 ∧ n = 4 ∧ z = .int 2 ∧ RetE CF H E))
theorem ok_ws (D : Df K mg "_law_with_some" ps__law_with_some s__law_with_some) (O_ways : Ok P w K mg base (L2N.CX P w) 4 "ways" ps_ways (sp_xways C_BadPrime C_BadMany C_BadSome)) (O_told : Ok P w K mg base (L2N.CX P w) 4 "told" ps_told (sp_x3 C_BadPrime C_BadMany C_BadSome)) (O_number_of : Ok P w K mg base (L2N.CX P w) 4 "number_of" ps_number_of (sp_xnumber C_BadPrime C_BadMany C_BadSome C_NotFree)) : Ok P w K mg base (L2N.CX P w) 5 "_law_with_some" ps__law_with_some (sp_ws C_BadSome C_NotFree) := by
  refine D.okX sc__law_with_some (fun vs H Q E h => ?_) (fun f cdv A outer s H vs Q E hr h => ?_)
  · obtain ⟨u, j, n, z, oz, rfl, _⟩ := h; rfl
  · obtain ⟨u, j, n, z, oz, rfl, hu, hn, hj, hz, q⟩ := h
    refine ⟨_, (pss_cons (ps_asg (pv 0) (pg_tup rfl (pgs_cons (pg_name (i := 2) sc__law_with_some.nd rfl (.inl rfl)) (pgs_cons (pg_name (i := 3) sc__law_with_some.nd rfl (.inl rfl)) pgs_nil))))
      (pss_one (ps_ret (pe_ifExp (pt_cmpR op_eq (pv 2) pe_int (nomark _)) (pe_callX O_ways hr (L2N.takes_of rfl rfl rfl rfl) (pa_cons pe_int (pa_cons (pv 3) (pa_cons (pv 1) pa_nil)))) (pe_ifExp (pt_cmpR op_eq (pv 2) pe_int (nomark _)) (pe_callX O_told hr (L2N.takes_of rfl rfl rfl rfl) (pa_cons pe_int (pa_cons (pv 3) (pa_cons (pv 1) pa_nil)))) (pe_callX O_number_of hr (L2N.takes_of rfl rfl rfl rfl) (pa_cons pe_int (pa_cons (pv 3) (pa_cons (pv 1) pa_nil))))))))), ?_⟩
    refine ⟨_, rfl, u, _, rfl, SqT.of hu, rfl, _, _, rfl, _, _, rfl, rfl, ?_⟩
    rcases q with ⟨g, q⟩ | ⟨rfl, rfl, rfl, q⟩
    · match j, hj with
      | 0, _ => exact ⟨_, rfl, rfl, _, rfl, if_t (by decide) ⟨_, rfl, _, rfl, .inl ⟨_, _, z, some 3, _, oz, C_BadSome, rfl, .int 3, .int _, hz, rall_s (by decide +kernel) (whole_nat n) g, q⟩⟩⟩
      | 1, _ => exact ⟨_, rfl, rfl, _, rfl, if_f (by decide) ⟨_, rfl, rfl, _, rfl, if_t (by decide) ⟨_, rfl, _, rfl, _, _, z, some 5, _, oz, C_BadSome, rfl, .int 5, .int _, hz, rall_s (by decide +kernel) (whole_nat n) g, q⟩⟩⟩
      | 2, _ => exact ⟨_, rfl, rfl, _, rfl, if_f (by decide) ⟨_, rfl, rfl, _, rfl, if_f (by decide) ⟨_, rfl, _, rfl, .inl ⟨_, _, z, some 2, _, oz, C_BadSome, rfl, .int 2, .int _, hz, rall_s (by decide +kernel) (whole_nat n) g, q⟩⟩⟩⟩
    · have nok : ¬ okL 2 (figs 2 4) 2 := fun z => by
        have := (okL_kk (p := 2) (n := 4) (k := 2) (by decide) (by decide)).mp z
        exact absurd this (by decide +kernel)
      exact ⟨_, rfl, rfl, _, rfl, if_f (by decide) ⟨_, rfl, rfl, _, rfl, if_f (by decide) ⟨_, rfl, _, rfl, .inr ⟨2, 4, 2, rfl, ⟨⟨by decide, by decide, by decide +kernel⟩, hn, by decide, nok⟩, q⟩⟩⟩⟩
def sp_wn (CN : Addr) : Sp := fun vs H _ E => ∃ (u : Addr) (p n : Nat) (z : V) (oz : Option Int), vs = [.ref u, z] ∧ H u = some (.tup [.int p, .int n]) ∧ (Pr p ∧ n < 2 ^ 200) ∧ Pa H z oz ∧ okN oz (fr (figs p n)) = false ∧ RetE CN H E
theorem ok_wn (D : Df K mg "_law_with_number" ps__law_with_number s__law_with_number) (O_place_by : Ok P w K mg base (L2N.CX P w) 3 "place_by" ps_place_by (sp_xplace C_BadPrime C_BadMany C_BadNumber)) : Ok P w K mg base (L2N.CX P w) 5 "_law_with_number" ps__law_with_number (sp_wn C_BadNumber) := by
  refine D.okX sc__law_with_number (fun vs H Q E h => ?_) (fun f cdv A outer s H vs Q E hr h => ?_)
  · obtain ⟨u, p, n, z, oz, rfl, _⟩ := h; rfl
  · obtain ⟨u, p, n, z, oz, rfl, hu, hP, hz, g, q⟩ := h
    refine ⟨_, (pss_cons (ps_asg (pv 0) (pg_tup rfl (pgs_cons (pg_name (i := 2) sc__law_with_number.nd rfl (.inl rfl)) (pgs_cons (pg_name (i := 3) sc__law_with_number.nd rfl (.inl rfl)) pgs_nil))))
      (pss_one (ps_ret (pe_callX O_place_by hr (L2N.takes_of rfl rfl rfl rfl) (pa_cons (pv 2) (pa_cons (pv 3) (pa_cons (pv 1) pa_nil))))))), ?_⟩
    refine ⟨_, rfl, u, _, rfl, SqT.of hu, rfl, _, _, rfl, _, _, rfl, rfl, ?_⟩
    exact ⟨_, rfl, _, rfl, _, rfl, .inr (.inl ⟨p, n, z, oz, rfl, hP, hz, g, q⟩)⟩
end
end Cc

namespace Cc
open PySem PySem.Spec PyProof.Rows L2 Evl
abbrev s__law_kinds : Stmt := topS 42
abbrev N__law_kinds : List Str := ["_law_error", "_law_found"]
abbrev ps__law_kinds : List Str := ["_law_error"]
theorem sc__law_kinds : FnScope N__law_kinds ps__law_kinds (defScope s__law_kinds) := ⟨rfl, rfl, rfl, by decide +kernel, rfl, by decide +kernel, by decide +kernel⟩
abbrev s__law_told : Stmt := topS 47
abbrev N__law_told : List Str := ["_law_ask", "_law_one", "_law_other", "_law_error"]
abbrev ps__law_told : List Str := ["_law_ask", "_law_one", "_law_other"]
theorem sc__law_told : FnScope N__law_told ps__law_told (defScope s__law_told) := ⟨rfl, rfl, rfl, by decide +kernel, rfl, by decide +kernel, by decide +kernel⟩

/-! ### a def called in an except suite with the error -/
structure FnP (P : Program) (w : World) (K : PySem.W.Frag) (mg : Str → Option Value) (base : Heap) (CX : CXT) (k : Nat) (f : Addr) (fd : FuncData) (ps : List Str) (sp : Addr → Value → Option Addr → Sp) : Prop where
  len : ∀ a c d vs H Q E, sp a c d vs H Q E → vs.length = ps.length
  run : ∀ (A : Around) (outer : List Env) (s : Shared) (H : Hp) (args : Args) (us : List Value) (vs : List V) (Q : VK) (E : XK) (p : Addr × Obj) (cls : Value) (d : Option Addr), L2H.RoomH k A → L2H.Hot1 A p → Zc cls d p.2 → L2H.PinOk outer H s p → Env0 P w K mg base A outer s H → BindsTo s fd args (ps.zip us) → Vals vs us → sp p.1 cls d vs H Q E →
    codeAny (model P w) A (.call (.ref f) args) (CR CX outer P w H s Q E) s
theorem fn_ofP {CX : CXT} {P : Program} {w : World} {K : PySem.W.Frag} {mg : Str → Option Value} {base : Heap} {k : Nat} {f : Addr} {name qual : Str} {params : Arguments} {body : List Stmt} {scope : Scope} {dV kV doc pm cdv ct oc : Value} {an od : Option Addr}
    {osl : Array (Option Value)} {N ps : List Str} {sp : Addr → Value → Option Addr → Sp} (lk : K.lookup f = some ⟨oc, od, .func (PySem.W.fnOf name qual params body scope dV kV doc pm an cdv ct), osl⟩) (hcd : PySem.W.codeIn K cdv qual = true) (S : FnScope N ps scope)
    (len : ∀ a c d vs H Q E, sp a c d vs H Q E → vs.length = ps.length)
    (hbody : ∀ (A : Around) (outer : List Env) (s : Shared) (H : Hp) (vs : List V) (Q : VK) (E : XK) (p : Addr × Obj) (cls : Value) (d : Option Addr), L2H.Hot1 A p → Zc cls d p.2 → sp p.1 cls d vs H Q E →
      ∃ t, PSs (L2H.cxH CX P w K mg base N qual scope f cdv A outer s H E p) body t ∧ t { nx := fun _ H' => Q .non H', rt := Q } (L2.start N vs) H) :
    FnP P w K mg base CX (k + 1) f (PySem.W.fnOf name qual params body scope dV kV doc pm an cdv ct) ps sp := by
  refine ⟨len, fun A outer s H args us vs Q E p cls d hr hot hz hpin e0 hb r hsp => ?_⟩
  have hl := len _ _ _ _ _ _ _ hsp
  have KX : K.In s.heap := e0.mod.kin.keeps fun b o e => (e0.bs b o e).1
  have lim : s.heap.NoLimit := e0.mod.nolimit.keeps fun b o e => (e0.bs b o e).1
  have hkind : ∀ y ∈ ps.zip us, scope.names.lookup y.1 = some .local ∨ (scope.names.lookup y.1 = some .cell ∧ ((cellsFrom (s.heap.objs.size + 1) scope.names []).lookup y.1).isSome = true) := fun ⟨n, v⟩ hy => by
    rcases S.par n (List.of_mem_zip hy).1 with q | q
    · exact .inl q
    · exact .inr ⟨q, PySem.W.cellsFrom_some _ _ _ (.inl q)⟩
  refine codeAny_call_function hr.depth (KX _ _ lk) rfl S.co S.gen rfl (PySem.W.codeRec_of KX hcd) (hb _ _ _ _ ?_)
  refine wpAny_newFunctionEnv_cells S.kind hkind fun env he s1 x => ?_
  subst he
  refine ⟨lim.keeps x.toInCall.keep, codeAny_func ?_⟩
  obtain ⟨t, ht, hq⟩ := hbody A outer s H vs Q E p cls d hot hz hsp
  have I : Inv (L2H.cxH CX P w K mg base N qual scope f cdv A outer s H E p) [] (L2.start N vs) H s1 := L2H.inv_startH S hpin e0 hl r x
  refine wpAny_mono (ht.run [] s1 (L2.start N vs) H _ I hq) (fun fl s' hs => ?_) fun e s' hs => hs
  have fin : ∀ {σ' : L2.St} {H' : Hp} {v : V} {u : Value}, Inv (L2H.cxH CX P w K mg base N qual scope f cdv A outer s H E p) [] σ' H' s' → RelV v u → Q v H' → CE outer P w H s Q u s' :=
    fun {σ' H' v u} J rv q => ⟨v, H', J.os, J.bare, J.base, J.hok, rv, q⟩
  cases fl with
  | ret u =>
    obtain ⟨v, σ', H', J, rv, q⟩ := hs
    exact fin J rv q
  | next =>
    obtain ⟨σ', H', J, q⟩ := hs
    exact fin (v := V.non) (u := Value.none) J rfl q
  | brk =>
    obtain ⟨_, _, _, q⟩ := hs
    exact False.elim q
  | cont =>
    obtain ⟨_, _, _, q⟩ := hs
    exact False.elim q
def OkP (P : Program) (w : World) (K : PySem.W.Frag) (mg : Str → Option Value) (base : Heap) (k : Nat) (x : Str) (ps : List Str) (sp : Addr → Value → Option Addr → Sp) : Prop :=
  ∃ f fd, mg x = some (.ref f) ∧ PySem.W.keepIn K (.ref f) = true ∧ Binds K fd ps [] ∧ FnP P w K mg base CX0 k f fd ps sp
section
variable {X : Cx} {k n : Nat} {x : Str} {ps : List Str} {q pos : Pos} {e : Expr} {es : List Expr} {t : TA}
theorem pe_callP {sp : Addr → Value → Option Addr → Sp} {a : Addr} {oe : Obj} {cls : Value} {d : Option Addr} {pn : List (Addr × Obj)} (O : OkP X.prog X.w X.K X.mg X.base k x ps sp) (hr : Room n X.A) (hz : L2N.Zn cls d oe) (hf : ∃ vs, oe.data = .fields vs) (ha : PA (X.suite a ((a, oe) :: pn)) (e :: es) t) (hk : k ≤ n := by decide) (hg : Gl (X.suite a ((a, oe) :: pn)) x := by rfl)
    (hdb : (x == ("__debug__" : Str)) = false := by decide) (he : starEach (e :: es) X.env = (false, eval e X.env) :: starEach es X.env := by rfl) (hpl : (backTo pos (starEach es X.env)).any (·.1) = false := by rfl) :
    PE (X.suite a ((a, oe) :: pn)) (.Call (.Name x q) (e :: es) [] pos) (tCallS (sp a cls d) (fun _ => E0) t) := by
  obtain ⟨f, fd, hm, kp, b, F⟩ := O
  refine ⟨fun pins s σ H Q I h => ?_⟩
  refine wpAny_Call_Name_kw (ld_glob I hg hm ?_ hdb)
  refine PySem.W.callWith_K (h₀ := X.base) I.ok.mod.kin kp (thn (ha.run pos pins s σ H _ I h) fun us s1 ⟨vs, H1, I1, r, q⟩ => ⟨I1.kIn, ?_⟩) he hpl
  have hl : us.length = ps.length := by rw [← r.length]; exact F.len _ _ _ _ _ _ _ q
  have bb := b s1 us I1.kIn (by rw [List.append_nil]; exact hl)
  rw [List.append_nil] at bb
  obtain ⟨vs', hv⟩ := hf
  have P1 := I1.pin (a, oe) (List.mem_append_left _ List.mem_cons_self)
  have hpin : L2H.PinOk (X.suite a ((a, oe) :: pn)).stack H1 s1 (a, oe) := ⟨P1.1, P1.2.1, fun hm => (List.mem_cons.mp (I1.stkSub a hm)).elim P1.2.2.1 P1.2.2.2.1, P1.2.2.2.2⟩
  have hr2 := L2H.roomH_of (hr.mono hk)
  refine wpAny_call (codeAny_mono (F.run (X.suite a ((a, oe) :: pn)).A (X.suite a ((a, oe) :: pn)).stack s1 H1 ⟨us, []⟩ us vs Q E0 (a, oe) cls d ⟨hr2.dp, hr2.un⟩ ⟨rfl, vs', hv, hz.2.2 vs' hv⟩ hz.zc hpin I1.env0 bb r q) fun r s' hq => ?_)
  cases r with
  | error e => exact (pass0 (X := X.suite a ((a, oe) :: pn))) pins σ H1 s1 e s' I1 hq
  | ok fl =>
    cases fl with
    | ret u => exact I1.after hq
    | next => exact False.elim hq
    | brk => exact False.elim hq
    | cont => exact False.elim hq
theorem call_isP {X : Cx} {p : Addr × Obj} {cls : Value} {d : Option Addr} (hp : p ∈ X.pn) (hz : Zc cls d p.2) (hf : ∃ vs, p.2.data = .fields vs) : CallR X (.builtin "isinstance") (rIsEc X.K cls d p.1) := by
  intro pins s σ H xs us Q I r h
  obtain ⟨D, rfl, rfl, C, c, cv, b, rfl, hcv, e, q⟩ := h
  cases r with
  | cons rx rr =>
    cases rr with
    | cons rt rr =>
      cases rr
      cases rx
      have ec := hcv _ rt
      subst ec
      obtain ⟨hget, _⟩ := I.pin p (List.mem_append.mpr (.inl hp))
      obtain ⟨vs, hv⟩ := hf
      have J : PySem.W.InstAt s.heap p.1 p.2 D none := by
        obtain ⟨a, ⟨oc, od, oda, osl⟩⟩ := p
        obtain ⟨h1, h2⟩ := hz
        dsimp only at h1 h2 hv
        subst h1 h2 hv
        exact ⟨hget, rfl, rfl, trivial⟩
      exact PySem.W.kia_one (PySem.W.handS_kitx_exc C.hg C.hk C.hs C.hd C.ha C.hn C.ht C.hm) I.kIn J e (fun z => nomatch z) fun tk => ⟨.bl b, H, I.kept (t' := tk) fun _ _ z => z, rfl, q⟩
/-- a call of the def that a local name holds, within a try -/
def tCallW (i : Nat) (f : Addr) (sp : Sp) (E : L2.St → XK) (t : TA) : TE := fun σ H Q => σ[i]? = some (some (.ref f)) ∧ t σ H fun vs H1 => sp vs H1 Q (E σ)
theorem pe_callW {CX : CXT} {i : Nat} {f : Addr} {fd : FuncData} {sp : Sp} {E : L2.St → XK} (F : FnOk X.prog X.w X.K X.mg X.base CX k f fd ps sp) (hr : Room k X.A) (hN : X.N[i]? = some x) (hv : Vis X.env.scope x) (hk : PySem.W.keepIn X.K (.ref f) = true) (hb : Binds X.K fd ps []) (hx : ∀ σ, PassesAt CX X σ (E σ)) (ha : PA X (e :: es) t)
    (hdb : (x == ("__debug__" : Str)) = false := by decide) (hcd : (x == ("__classdict__" : Str)) = false := by decide)
    (he : starEach (e :: es) X.env = (false, eval e X.env) :: starEach es X.env := by rfl) (hpl : (backTo pos (starEach es X.env)).any (·.1) = false := by rfl) : PE X (.Call (.Name x q) (e :: es) [] pos) (tCallW i f sp E t) := by
  refine ⟨fun pins s σ H Q I h => ?_⟩
  obtain ⟨hs, ht⟩ := h
  refine wpAny_Call_Name_kw (thn ((pe_var (pos := q) hN hv hdb hcd).run pins s σ H (fun v H1 => v = .ref f ∧ H1 = H) I ⟨.ref f, hs, rfl, rfl⟩) fun u s1 ⟨v, H1, I1, r1, q1⟩ => ?_)
  obtain ⟨rfl, rfl⟩ := q1
  cases r1
  refine PySem.W.callWith_K (h₀ := X.base) I.ok.mod.kin hk (thn (ha.run pos pins s1 σ _ _ I1 ht) fun us s2 ⟨vs, H2, I2, r, q⟩ => ⟨I2.kIn, ?_⟩) he hpl
  exact run_fnS F hr hb (hx σ) I2 r q
end
/-! ### the kinds of an error -/
structure Kd (K : PySem.W.Frag) (C0 C1 C2 C3 C4 C5 D : Addr) (b1 b2 b3 b4 b5 : Bool) : Prop where
  xc : ExcC K D
  m0 : PySem.W.exmOne K (.ref D) (.ref C0) = some true
  k1 : PySem.W.kitOne K (.ref D) (.ref C1) = some b1
  k2 : PySem.W.kitOne K (.ref D) (.ref C2) = some b2
  k3 : PySem.W.kitOne K (.ref D) (.ref C3) = some b3
  k4 : PySem.W.kitOne K (.ref D) (.ref C4) = some b4
  k5 : PySem.W.kitOne K (.ref D) (.ref C5) = some b5
structure Gx (mg : Str → Option Value) (C0 C1 C2 C3 C4 C5 : Addr) : Prop where
  g0 : mg "ChooseError" = some (.ref C0)
  g1 : mg "BadPrime" = some (.ref C1)
  g2 : mg "BadMany" = some (.ref C2)
  g3 : mg "BadSome" = some (.ref C3)
  g4 : mg "BadNumber" = some (.ref C4)
  g5 : mg "NotFree" = some (.ref C5)
theorem kit_val {K : PySem.W.Frag} {D : Addr} (h : PySem.W.subIn K (.ref D) (.type "ValueError") = some true) : PySem.W.kitOne K (.ref D) (.type "ValueError") = some true := by
  have hm : PySem.W.kitMeta "ValueError" = true := by decide +kernel
  unfold PySem.W.kitOne
  rw [if_neg (by simp)]
  show (if PySem.W.kitMeta "ValueError" = true then PySem.W.subIn K (.ref D) (.type "ValueError") else none) = some true
  rw [if_pos hm]
  exact h
section
variable {P : Program} {w : World} {K : PySem.W.Frag} {mg : Str → Option Value} {base : Heap} {C_ChooseError C_BadPrime C_BadMany C_BadSome C_BadNumber C_NotFree : Addr}
theorem Df.okP {x : Str} {st : Stmt} {N ps : List Str} {k : Nat} {sp : Addr → Value → Option Addr → Sp} (D : Df K mg x ps st) (S : FnScope N ps (defScope st)) (len : ∀ a c d vs H Q E, sp a c d vs H Q E → vs.length = ps.length)
    (hbody : ∀ (f : Addr) (cdv : Value) (A : Around) (outer : List Env) (s : Shared) (H : Hp) (vs : List V) (Q : VK) (E : XK) (p : Addr × Obj) (cls : Value) (d : Option Addr), L2H.Hot1 A p → Zc cls d p.2 → sp p.1 cls d vs H Q E →
      ∃ t, PSs (L2H.cxH CX0 P w K mg base N x (defScope st) f cdv A outer s H E p) (defBody st) t ∧ t { nx := fun _ H' => Q .non H', rt := Q } (L2.start N vs) H) : OkP P w K mg base (k + 1) x ps sp := by
  obtain ⟨f, fd, F, g, b⟩ := D
  refine ⟨f, fd, g, F.kp, b, ?_⟩
  obtain ⟨oc, od, kV, doc, pm, an, cdv, ct, osl, rfl, lk, hcd⟩ := F.ex
  exact fn_ofP lk hcd S len fun A outer s H vs Q E p cls d hot hz hsp => hbody f _ A outer s H vs Q E p cls d hot hz hsp
structure KdV (K : PySem.W.Frag) (C0 C1 C2 C3 C4 C5 D : Addr) (b1 b2 b3 b4 b5 : Bool) : Prop where
  kd : Kd K C0 C1 C2 C3 C4 C5 D b1 b2 b3 b4 b5
  kv : PySem.W.kitOne K (.ref D) (.type "ValueError") = some true
def kindL (b1 b2 b3 b4 b5 : Bool) : List V := [.bl b1, .bl b2, .bl b3, .bl b4, .bl b5, .bl true]
def sp_kinds (K : PySem.W.Frag) (C0 C1 C2 C3 C4 C5 : Addr) : Addr → Value → Option Addr → Sp := fun a cls d vs H Q _ => ∃ D b1 b2 b3 b4 b5, vs = [.ref a] ∧ cls = .ref D ∧ d = none ∧ KdV K C0 C1 C2 C3 C4 C5 D b1 b2 b3 b4 b5 ∧ RetL (kindL b1 b2 b3 b4 b5) H Q
theorem ok__law_kinds (T : Bi mg) (G : Gx mg C_ChooseError C_BadPrime C_BadMany C_BadSome C_BadNumber C_NotFree) (D : Df K mg "_law_kinds" ps__law_kinds s__law_kinds) : OkP P w K mg base 1 "_law_kinds" ps__law_kinds (sp_kinds K C_ChooseError C_BadPrime C_BadMany C_BadSome C_BadNumber C_NotFree) := by
  refine D.okP sc__law_kinds (fun a c d vs H Q E h => ?_) (fun f cdv A outer s H vs Q E p cls d hot hz h => ?_)
  · obtain ⟨D, b1, b2, b3, b4, b5, rfl, _⟩ := h; rfl
  · obtain ⟨D, b1, b2, b3, b4, b5, rfl, rfl, rfl, ⟨KD, kv⟩, q⟩ := h
    obtain ⟨g_ChooseError, g_BadPrime, g_BadMany, g_BadSome, g_BadNumber, g_NotFree⟩ := G
    obtain ⟨_, vs', hv, _⟩ := hot
    have hf : ∃ vs, p.2.data = .fields vs := ⟨vs', hv⟩
    generalize hcls : (Value.ref D) = cls at hz
    generalize hd : (none : Option Addr) = d at hz
    refine ⟨_, (pss_cons (ps_set (i := 1) sc__law_kinds.nd rfl (.inl rfl) (pe_lst (pa_cons (pe_callB (id := "isinstance") (r := rIsEc K cls d p.1) (call_isP List.mem_cons_self hz hf) (by rfl) T.isinstance (by decide +kernel) (pa_cons (pv 0) (pa_cons (C8.pe_gc (v := .ref C_BadPrime) (by rfl) ⟨_, g_BadPrime, rfl⟩) pa_nil))) (pa_cons (pe_callB (id := "isinstance") (r := rIsEc K cls d p.1) (call_isP List.mem_cons_self hz hf) (by rfl) T.isinstance (by decide +kernel) (pa_cons (pv 0) (pa_cons (C8.pe_gc (v := .ref C_BadMany) (by rfl) ⟨_, g_BadMany, rfl⟩) pa_nil))) (pa_cons (pe_callB (id := "isinstance") (r := rIsEc K cls d p.1) (call_isP List.mem_cons_self hz hf) (by rfl) T.isinstance (by decide +kernel) (pa_cons (pv 0) (pa_cons (C8.pe_gc (v := .ref C_BadSome) (by rfl) ⟨_, g_BadSome, rfl⟩) pa_nil))) pa_nil)))))
      (pss_one (ps_ret (pe_op op_cat (pv 1) (pe_lst (pa_cons (pe_callB (id := "isinstance") (r := rIsEc K cls d p.1) (call_isP List.mem_cons_self hz hf) (by rfl) T.isinstance (by decide +kernel) (pa_cons (pv 0) (pa_cons (C8.pe_gc (v := .ref C_BadNumber) (by rfl) ⟨_, g_BadNumber, rfl⟩) pa_nil))) (pa_cons (pe_callB (id := "isinstance") (r := rIsEc K cls d p.1) (call_isP List.mem_cons_self hz hf) (by rfl) T.isinstance (by decide +kernel) (pa_cons (pv 0) (pa_cons (C8.pe_gc (v := .ref C_NotFree) (by rfl) ⟨_, g_NotFree, rfl⟩) pa_nil))) (pa_cons (pe_callB (id := "isinstance") (r := rIsEc K cls d p.1) (call_isP List.mem_cons_self hz hf) (by rfl) T.isinstance (by decide +kernel) (pa_cons (pv 0) (pa_cons (pe_bltn (v := .ty "ValueError") (by rfl) T.ValueError_ (by decide +kernel) rfl) pa_nil))) pa_nil)))))))), ?_⟩
    subst hcls
    subst hd
    have iE : ∀ {C : Addr} {b : Bool} {H' : Hp} {Q' : VK}, PySem.W.kitOne K (.ref D) (.ref C) = some b → Q' (.bl b) H' → rIsEc K (.ref D) none p.1 [.ref p.1, .ref C] H' Q' := fun {C b H' Q'} h q' => ⟨_, rfl, rfl, KD.xc, _, _, _, rfl, fun u hu => hu, h, q'⟩
    refine ⟨_, rfl, iE KD.k1 ⟨_, rfl, iE KD.k2 ⟨_, rfl, iE KD.k3 ⟨by show 3 ≤ sizeLine; decide, fun l1 n1 => ?_⟩⟩⟩⟩
    refine ⟨_, rfl, _, rfl, iE KD.k4 ⟨_, rfl, iE KD.k5 ⟨_, rfl, _, rfl, rfl, KD.xc, _, _, _, rfl, fun u hu => hu, kv, by show 3 ≤ sizeLine; decide, fun l2 n2 => ?_⟩⟩⟩
    refine ⟨l1, l2, _, _, rfl, rfl, Ex.new n2 l1 _ upd_same, upd_same, by show 6 ≤ sizeLine; decide, fun l3 n3 => ?_⟩
    have e := (Ex.new (o := .lst [.bl b1, .bl b2, .bl b3]) n1).trans (Ex.new (o := .lst [.bl b4, .bl b5, .bl true]) n2)
    exact q l3 _ (fresh_back e n3) (e.trans (Ex.new n3)) upd_same
def sp_ltold (P : Program) (w : World) (K : PySem.W.Frag) (mg : Str → Option Value) (base : Heap) (C0 C1 C2 C3 C4 C5 : Addr) : Sp := fun vs H Q _ => ∃ (fa : Addr) (fd : FuncData) (ps : List Str) (sp : Sp) (one other : V) (D : Addr) (b1 b2 b3 b4 b5 : Bool), vs = [.ref fa, one, other] ∧
  FnOk P w K mg base (L2N.CX P w) 5 fa fd ps sp ∧ PySem.W.keepIn K (.ref fa) = true ∧ Binds K fd ps [] ∧ KdV K C0 C1 C2 C3 C4 C5 D b1 b2 b3 b4 b5 ∧ (∀ Q' E', RetE D H E' → sp [one, other] H Q' E') ∧ RetL (kindL b1 b2 b3 b4 b5) H Q
theorem ok__law_told (G : Gx mg C_ChooseError C_BadPrime C_BadMany C_BadSome C_BadNumber C_NotFree) (D : Df K mg "_law_told" ps__law_told s__law_told) (O__law_kinds : OkP P w K mg base 1 "_law_kinds" ps__law_kinds (sp_kinds K C_ChooseError C_BadPrime C_BadMany C_BadSome C_BadNumber C_NotFree)) : Ok P w K mg base CX0 6 "_law_told" ps__law_told (sp_ltold P w K mg base C_ChooseError C_BadPrime C_BadMany C_BadSome C_BadNumber C_NotFree) := by
  refine D.ok sc__law_told (fun vs H Q E h => ?_) (fun f cdv A outer s H vs Q E hr h => ?_)
  · obtain ⟨fa, fd, ps, sp, one, other, D, b1, b2, b3, b4, b5, rfl, _⟩ := h; rfl
  · obtain ⟨fa, fd, ps, sp, one, other, D, b1, b2, b3, b4, b5, rfl, F_ask, k_ask, b_ask, KD, hsp, q⟩ := h
    have g_ChooseError := G.g0
    refine ⟨_, (pss_cons (L2N.ps_try_as (i := 3) rfl rfl sc__law_told.nd rfl rfl ⟨rfl, by decide, .inl g_ChooseError⟩ takes0N
      (fun W pn xe tk _ => (pss_one (ps_expr (pe_callW (i := 0) F_ask (hr.mono (by decide)) rfl (.inl rfl) k_ask b_ask (fun σ => L2N.passAt tk σ) (pa_cons (pv 1) (pa_cons (pv 2) pa_nil))))))
      (fun a oe cls d pn hz hf => (pss_one (ps_ret (pe_callP O__law_kinds hr hz hf (pa_cons (pv 3) pa_nil))))))
      (pss_one (ps_ret (pe_lst pa_nil)))), ?_⟩
    refine ⟨rfl, _, rfl, _, rfl, hsp _ _ fun H1 e1 => ⟨true, KD.kd.m0, fun _ a0 na0 => ?_, fun z => Bool.noConfusion z⟩⟩
    exact ⟨_, rfl, D, b1, b2, b3, b4, b5, rfl, rfl, rfl, KD, fun p H2 np e2 hp => q p H2 (fresh_back e1 np) (e1.trans e2) hp⟩
end
end Cc

namespace Cc
open PySem PySem.Spec PyProof.Rows L2 Evl
open Builtin.Int (intBits)
/-! ### the law's own walk of the script -/
def rStep (d L : Nat) : Int := 1 + (L : Int) / (d : Int)
def rNum (d L : Nat) : Nat := (Builtin.Range.rangeSize 0 (L : Int) (rStep d L)).toNat
def rngOk (d L : Nat) : Bool := Builtin.Range.small 0 (L : Int) (rStep d L) && (decide (Builtin.Range.rangeSize 0 (L : Int) (rStep d L) = (rNum d L : Int)) && (decide (rStep d L ≠ 0) && (decide ((rStep d L).natAbs < 1073741824) && ((List.range (rNum d L)).all fun i => decide (0 ≤ (i : Int) * rStep d L ∧ (i : Int) * rStep d L < 64)))))
theorem rng_all : ([3, 4, 6].all fun d => (List.range 64).all fun L => rngOk d L) = true := by decide +kernel
theorem rng_ok {d L : Nat} (hd : d ∈ [3, 4, 6]) (hL : L < 64) : RgC 0 (L : Int) (1 + (L : Int) / (d : Int)) (rNum d L) ∧ ∀ i, i < rNum d L → ∃ k : Nat, k < 64 ∧ (0 : Int) + (i : Int) * (1 + (L : Int) / (d : Int)) = (k : Int) := by
  have h := List.all_eq_true.mp (List.all_eq_true.mp rng_all d hd) L (List.mem_range.mpr hL)
  unfold rngOk at h
  simp only [Bool.and_eq_true, decide_eq_true_eq] at h
  obtain ⟨h1, h2, h3, h4, h5⟩ := h
  refine ⟨⟨h3, h4, h1, h2⟩, fun i hi => ?_⟩
  have h6 := of_decide_eq_true (List.all_eq_true.mp h5 i (List.mem_range.mpr hi))
  obtain ⟨k, hk⟩ := Int.eq_ofNat_of_zero_le h6.1
  unfold rStep at h6 hk
  exact ⟨k, by omega, by omega⟩
theorem cut63 (ns : List Int) (h : ns.length ≤ 63) : cutV (ns.map V.int) none (some 63) = ns.map V.int := by
  unfold cutV
  rw [HT.sIx_none, show HT.sIx (ns.map V.int).length (ns.map V.int).length (some 63) = min 63 (ns.map V.int).length from HT.sIx_nat _ _ 63]
  rw [List.drop_zero, Nat.sub_zero]
  exact List.take_of_length_le (by rw [List.length_map]; omega)
theorem yes_if {σ : L2.St} {H : Hp} {A B : Hp → Prop} (h : A H) : tYes σ H (fun b H3 => if b = true then A H3 else B H3) := by
  show if true = true then A H else B H
  rw [if_pos rfl]
  exact h
theorem made_ex {H : Hp} {x dx C : Addr} {fs gs : List (Str × V)} (nx : H x = none) (nd : H dx = none) : Ex H (upd (upd (upd H dx (.own x)) x (.ins C dx fs)) x (.ins C dx gs)) :=
  Ex.mut (Ex.mut (Ex.mut (Ex.refl H) nd) nx) nx
end Cc

namespace Cc
open PySem PySem.Spec PyProof.Rows L2 Evl
open Builtin.Int (intBits)
abbrev s_law : Stmt := topS 48
abbrev N_law : List Str := ["_law_script", "_law_far", "_law_due", "_law_k", "_law_strange", "_law_door", "_law_primes", "_law_thing", "_law_number", "_law_parted", "_law_many", "_law_prime", "_law_count", "_law_part"]
abbrev ps_law : List Str := ["_law_script"]
theorem sc_law : FnScope N_law ps_law (defScope s_law) := ⟨rfl, rfl, rfl, by decide +kernel, rfl, by decide +kernel, by decide +kernel⟩

theorem pr2 : Pr 2 := ⟨by decide, by decide, by decide +kernel⟩
theorem pr3 : Pr 3 := ⟨by decide, by decide, by decide +kernel⟩
theorem pr5 : Pr 5 := ⟨by decide, by decide, by decide +kernel⟩
theorem pr997 : Pr 997 := ⟨by decide, by decide, by decide +kernel⟩
/-! ### data: lists of truths -/
def dB (l : List Bool) : List PyData := l.map PyData.bool
theorem dpAllB {K : PySem.W.Frag} {H : Hp} : ∀ l : List Bool, DpAll K H (l.map V.bl) (dB l)
  | [] => .nil
  | d :: l => .cons (.bl _) (dpAllB l)
theorem lay_dB : ∀ l : List Bool, PyData.canLayAll0 (dB l) = true
  | [] => rfl
  | d :: l => by
    show PyData.canLayAll0 (.bool d :: dB l) = true
    rw [PyData.canLayAll0, lay_dB l]; rfl
theorem depth_dB : ∀ l : List Bool, PyData.depthAll (dB l) = 0
  | [] => rfl
  | d :: l => by
    show PyData.depthAll (.bool d :: dB l) = 0
    rw [PyData.depthAll, depth_dB l]; rfl
theorem shapedB (l : List Bool) : SeqAt.shaped (.list (dB l)) = true := by
  unfold SeqAt.shaped
  rw [PyData.canLay0, PyData.depth, lay_dB, depth_dB]
  rfl
theorem eqvB (l : List Bool) : PyData.eqv (.list (dB l)) (.list (dB l)) = true := SeqAt.eqv_refl _ (by rw [PyData.canLay0]; exact lay_dB l)
theorem dpB {K : PySem.W.Frag} {H : Hp} {a : Addr} {b1 b2 b3 b4 b5 : Bool} (h : H a = some (.lst (kindL b1 b2 b3 b4 b5))) : Dp K H (.ref a) (.list (dB [b1, b2, b3, b4, b5, true])) := .lst (SqL.of h) (dpAllB [b1, b2, b3, b4, b5, true])
/-- what is due of each kind -/
def kindJ (j : Nat) : List V := kindL (decide (j = 0)) (decide (j = 1)) (decide (j = 2)) (decide (j = 3)) (decide (j = 4))
def DueN (H : Hp) (du : Addr) (n : Nat) : Prop := ∃ ds : List Addr, H du = some (.lst (ds.map V.ref)) ∧ ds.length = n ∧ ∀ (j : Nat) (d : Addr), ds[j]? = some d → H d = some (.lst (kindJ j))
theorem DueN.ex {H H' : Hp} {du : Addr} {n : Nat} (h : DueN H du n) (e : Ex H H') : DueN H' du n := by
  obtain ⟨ds, h1, h2, h3⟩ := h
  exact ⟨ds, e _ _ h1, h2, fun j d hd => e _ _ (h3 j d hd)⟩
theorem DueN.at {H : Hp} {du : Addr} {n j : Nat} (h : DueN H du n) (hj : j < n) : ∃ (ds : List Addr) (d : Addr), H du = some (.lst (ds.map V.ref)) ∧ (ds.map V.ref)[j]? = some (V.ref d) ∧ H d = some (.lst (kindJ j)) := by
  obtain ⟨ds, h1, h2, h3⟩ := h
  have hj : j < ds.length := by omega
  exact ⟨ds, ds[j], h1, by rw [List.getElem?_map, List.getElem?_eq_getElem hj]; rfl, h3 j _ (List.getElem?_eq_getElem hj)⟩
theorem DueN.more {H : Hp} {du q : Addr} {n : Nat} {ds : List Addr} (h1 : H du = some (.lst (ds.map V.ref))) (h2 : ds.length = n) (h3 : ∀ (j : Nat) (d : Addr), ds[j]? = some d → H d = some (.lst (kindJ j))) (nq : H q = none) :
    DueN (upd (upd H q (.lst (kindJ n))) du (.lst (ds.map V.ref ++ [.ref q]))) du (n + 1) := by
  have hqd : q ≠ du := fun e => by rw [e, h1] at nq; cases nq
  refine ⟨ds ++ [q], by rw [upd_same, List.map_append]; rfl, by rw [List.length_append, h2]; rfl, fun j d hd => ?_⟩
  by_cases hj : j < ds.length
  · rw [List.getElem?_append_left hj] at hd
    have hdd := h3 j d hd
    have n1 : d ≠ du := fun e => by
      rw [e, h1] at hdd
      have z : ds.map V.ref = kindJ j := HO.lst.inj (Option.some.inj hdd)
      cases ds with
      | nil => cases hj
      | cons a r => exact V.noConfusion (List.cons.inj z).1
    have n2 : d ≠ q := fun e => by rw [e, nq] at hdd; cases hdd
    rw [upd_ne n1, upd_ne n2]
    exact hdd
  · rw [List.getElem?_append_right (by omega)] at hd
    have hjn : j - ds.length = 0 := by
      have := (List.getElem?_eq_some_iff.mp hd).1
      simp at this
      omega
    rw [hjn] at hd
    have e : q = d := Option.some.inj hd
    subst e
    rw [upd_ne hqd, upd_same, show j = n by omega]
/-- strange things: no whole number from 0 on -/
def Odd (H : Hp) (xs : List V) : Prop := ∀ x ∈ xs, ∃ o, Pa H x o ∧ whole o = false
theorem Odd.ex {H H' : Hp} {xs : List V} (h : Odd H xs) (e : Ex H H') : Odd H' xs := fun x hx => let ⟨o, a, b⟩ := h x hx; ⟨o, a.ex e, b⟩
theorem not_goodp {o : Option Int} (w : whole o = false) : goodp o = false := by
  cases z : goodp o with
  | false => rfl
  | true => rw [goodp_whole z] at w; cases w
theorem not_okS {o : Option Int} {n : Option Int} (w : whole o = false) : okS o n = false := by
  cases o with
  | none => rfl
  | some k =>
    cases n with
    | none => rfl
    | some n =>
      have w : decide (0 ≤ k) = false := w
      show (decide (0 ≤ k) && decide (k ≤ n)) = false
      rw [w]; rfl
theorem not_okN {o : Option Int} {F : Nat} (w : whole o = false) : okN o F = false := by
  cases o with
  | none => rfl
  | some k =>
    have w : decide (0 ≤ k) = false := w
    show (decide (0 ≤ k) && decide (k < (F : Int))) = false
    rw [w]; rfl
theorem okS_big {k n : Int} (h : ¬ k ≤ n) : okS (some k) (some n) = false := by
  show (decide (0 ≤ k) && decide (k ≤ n)) = false
  rw [decide_eq_false h, Bool.and_false]
theorem okN_big {m : Int} {F : Nat} (h : ¬ m < (F : Int)) : okN (some m) F = false := by
  show (decide (0 ≤ m) && decide (m < (F : Int))) = false
  rw [decide_eq_false h, Bool.and_false]
theorem big_goodp {i : Int} (h : 997 < i) : goodp (some i) = false := by
  show (decide (2 ≤ i) && (decide (i ≤ 997) && isP i.toNat)) = false
  rw [decide_eq_false (show ¬ i ≤ 997 by omega), Bool.false_and, Bool.and_false]
theorem figs_self {p : Nat} (hp : 2 ≤ p) : figs p p = [0, 1] := by
  rw [figs_pos hp (by omega), Nat.mod_self, Nat.div_self (by omega), figs_pos hp (by decide), Nat.mod_eq_of_lt (by omega), Nat.div_eq_of_lt (by omega), figs_zero]
theorem nb_last {p : Nat} (hp : 2 ≤ p) : ∀ n, nb p (figs p n) n + 1 = fr (figs p n) := by
  refine dig_ind hp (P := fun n => nb p (figs p n) n + 1 = fr (figs p n)) rfl fun n hn ih => ?_
  rw [figs_pos hp hn]
  show n % p + (n % p + 1) * nb p (figs p (n / p)) (n / p) + 1 = (n % p + 1) * fr (figs p (n / p))
  rw [← ih, Nat.mul_succ]
  omega
theorem okL_self {p : Nat} (hp : 2 ≤ p) (n : Nat) : okL p (figs p n) n := (okL_iff hp n n).mpr fun _ => Nat.le_refl _
theorem pb_last {p : Nat} (hp : 2 ≤ p) (n : Nat) : pb p (figs p n) (fr (figs p n) - 1) = n := by
  rw [← nb_last hp n, Nat.add_sub_cancel]
  exact pb_nb _ _ (okL_self hp n)
section
variable {P : Program} {w : World} {K : PySem.W.Frag} {mg : Str → Option Value} {base : Heap} {C_ChooseError C_BadPrime C_BadMany C_BadSome C_BadNumber C_NotFree : Addr}
def sp_law (K : PySem.W.Frag) : Sp := fun vs H Q _ => ∃ (a : Addr) (ns : List Int), vs = [.ref a] ∧ (SqL K H a (ns.map V.int) ∧ ns.length ≤ 63 ∧ ∀ z ∈ ns, intBits z ≤ 1048576) ∧ ∀ H', Q (.bl true) H'
theorem ok_law (T : Bi mg) {f0 : Addr} {fd0 : FuncData} (D : Fun K "law" "law" s_law f0 fd0)
    (KD1 : KdV K C_ChooseError C_BadPrime C_BadMany C_BadSome C_BadNumber C_NotFree C_BadPrime true false false false false) (KD2 : KdV K C_ChooseError C_BadPrime C_BadMany C_BadSome C_BadNumber C_NotFree C_BadMany false true false false false) (KD3 : KdV K C_ChooseError C_BadPrime C_BadMany C_BadSome C_BadNumber C_NotFree C_BadSome false false true false false)
    (KD4 : KdV K C_ChooseError C_BadPrime C_BadMany C_BadSome C_BadNumber C_NotFree C_BadNumber false false false true false) (KD5 : KdV K C_ChooseError C_BadPrime C_BadMany C_BadSome C_BadNumber C_NotFree C_NotFree false false false false true)
    (O__law_cell_at : Ok P w K mg base CX0 1 "_law_cell_at" ps__law_cell_at (sp_cell_at K)) (O__law_value : Ok P w K mg base CX0 2 "_law_value" ps__law_value sp_value) (O__law_pair : Ok P w K mg base CX0 3 "_law_pair" ps__law_pair (sp_pair K))
    (O__law_told : Ok P w K mg base CX0 6 "_law_told" ps__law_told (sp_ltold P w K mg base C_ChooseError C_BadPrime C_BadMany C_BadSome C_BadNumber C_NotFree))
    (O_wp : Ok P w K mg base (L2N.CX P w) 5 "_law_with_prime" ps__law_with_prime (sp_wp C_BadPrime)) (O_wm : Ok P w K mg base (L2N.CX P w) 5 "_law_with_many" ps__law_with_many (sp_wm C_BadMany)) (O_ws : Ok P w K mg base (L2N.CX P w) 5 "_law_with_some" ps__law_with_some (sp_ws C_BadSome C_NotFree)) (O_wn : Ok P w K mg base (L2N.CX P w) 5 "_law_with_number" ps__law_with_number (sp_wn C_BadNumber))
    (O_figures : Ok P w K mg base (L2N.CX P w) 3 "figures" ps_figures (sp_xfigures C_BadPrime C_BadMany)) (O_free : Ok P w K mg base (L2N.CX P w) 3 "free" ps_free (sp_xfree C_BadPrime C_BadMany)) (O_ways : Ok P w K mg base (L2N.CX P w) 4 "ways" ps_ways (sp_xways C_BadPrime C_BadMany C_BadSome)) (O_place_by : Ok P w K mg base (L2N.CX P w) 3 "place_by" ps_place_by (sp_xplace C_BadPrime C_BadMany C_BadNumber)) : FnOk P w K mg base CX0 7 f0 fd0 ps_law (sp_law K) := by
  obtain ⟨f__law_with_prime, d_wp, m__law_with_prime, k_wp, b_wp, F_wp⟩ := O_wp
  obtain ⟨f__law_with_many, d_wm, m__law_with_many, k_wm, b_wm, F_wm⟩ := O_wm
  obtain ⟨f__law_with_some, d_ws, m__law_with_some, k_ws, b_ws, F_ws⟩ := O_ws
  obtain ⟨f__law_with_number, d_wn, m__law_with_number, k_wn, b_wn, F_wn⟩ := O_wn
  refine D.ok sc_law (fun vs H Q E h => ?_) (fun cdv A outer s H vs Q E hr h => ?_)
  · obtain ⟨a, ns, rfl, _⟩ := h; rfl
  · obtain ⟨a, ns, rfl, ⟨hS, hlen, hb⟩, q⟩ := h
    -- what told answers, at each kind of error
    have tp : ∀ {H : Hp} {Q : VK} {j : Nat} {x : V} {o : Option Int}, j < 8 → Pa H x o → goodp o = false → RetL (kindJ 0) H Q → sp_ltold P w K mg base C_ChooseError C_BadPrime C_BadMany C_BadSome C_BadNumber C_NotFree [.ref f__law_with_prime, .int j, x] H Q E0 := fun hj hx g q => ⟨_, _, _, _, _, _, C_BadPrime, true, false, false, false, false, rfl, F_wp, k_wp, b_wp, KD1, fun Q' E' hE => ⟨_, _, _, rfl, hj, hx, g, hE⟩, q⟩
    have tm : ∀ {H : Hp} {Q : VK} {j : Nat} {x : V} {o : Option Int}, j < 8 → Pa H x o → whole o = false → RetL (kindJ 1) H Q → sp_ltold P w K mg base C_ChooseError C_BadPrime C_BadMany C_BadSome C_BadNumber C_NotFree [.ref f__law_with_many, .int j, x] H Q E0 := fun hj hx g q => ⟨_, _, _, _, _, _, C_BadMany, false, true, false, false, false, rfl, F_wm, k_wm, b_wm, KD2, fun Q' E' hE => ⟨_, _, _, rfl, hj, hx, g, hE⟩, q⟩
    have ts : ∀ {H : Hp} {Q : VK} {u : Addr} {j n : Nat} {x : V} {o : Option Int}, H u = some (.tup [.int j, .int n]) → n < 2 ^ 200 → j < 3 → Pa H x o → okS o (some (n : Int)) = false → RetL (kindJ 2) H Q → sp_ltold P w K mg base C_ChooseError C_BadPrime C_BadMany C_BadSome C_BadNumber C_NotFree [.ref f__law_with_some, .ref u, x] H Q E0 := fun hu hn hj hx g q => ⟨_, _, _, _, _, _, C_BadSome, false, false, true, false, false, rfl, F_ws, k_ws, b_ws, KD3, fun Q' E' hE => ⟨_, _, _, _, _, rfl, hu, hn, hj, hx, .inl ⟨g, hE⟩⟩, q⟩
    have tn : ∀ {H : Hp} {Q : VK} {u : Addr} {p n : Nat} {x : V} {o : Option Int}, H u = some (.tup [.int p, .int n]) → Pr p → n < 2 ^ 200 → Pa H x o → okN o (fr (figs p n)) = false → RetL (kindJ 3) H Q → sp_ltold P w K mg base C_ChooseError C_BadPrime C_BadMany C_BadSome C_BadNumber C_NotFree [.ref f__law_with_number, .ref u, x] H Q E0 := fun hu hP hn hx g q => ⟨_, _, _, _, _, _, C_BadNumber, false, false, false, true, false, rfl, F_wn, k_wn, b_wn, KD4, fun Q' E' hE => ⟨_, _, _, _, _, rfl, hu, ⟨hP, hn⟩, hx, g, hE⟩, q⟩
    have tf : ∀ {H : Hp} {Q : VK} {u : Addr}, H u = some (.tup [.int (2 : Nat), .int (4 : Nat)]) → RetL (kindJ 4) H Q → sp_ltold P w K mg base C_ChooseError C_BadPrime C_BadMany C_BadSome C_BadNumber C_NotFree [.ref f__law_with_some, .ref u, .int 2] H Q E0 := fun hu q => ⟨_, _, _, _, _, _, C_NotFree, false, false, false, false, true, rfl, F_ws, k_ws, b_ws, KD5, fun Q' E' hE => ⟨_, _, _, _, _, rfl, hu, by decide, by decide, .int 2, .inr ⟨rfl, rfl, rfl, hE⟩⟩, q⟩
    refine ⟨_, (pss_cons (ps_set (i := 1) sc_law.nd rfl (.inl rfl) (pe_callO O__law_value hr (pa_cons (pe_callO O__law_cell_at hr (pa_cons (pv 0) (pa_cons pe_int pa_nil))) (pa_cons pe_int (pa_cons pe_int pa_nil)))))
      (pss_cons (ps_set (i := 2) sc_law.nd rfl (.inr rfl) (pe_lst pa_nil))
      (pss_cut (ps_for PassesOwn.never rfl (pi_range1 (by rfl) T.range (pa_cons pe_int pa_nil)) (pg_name (i := 3) sc_law.nd rfl (.inl rfl))
      (pss_one (ps_expr (pe_bm PySem.F.plainAttrs_list PySem.F.slot_list_append PySem.F.type_list_append mt_append (pv 2) (pa_cons (pe_lst (pa_cons (pe_cmpR op_eq (pv 3) pe_int (nomark _)) (pa_cons (pe_cmpR op_eq (pv 3) pe_int (nomark _)) (pa_cons (pe_cmpR op_eq (pv 3) pe_int (nomark _)) (pa_cons (pe_cmpR op_eq (pv 3) pe_int (nomark _)) (pa_cons (pe_cmpR op_eq (pv 3) pe_int (nomark _)) (pa_cons pe_bl pa_nil))))))) pa_nil)))))
      (pss_cons (ps_set (i := 4) sc_law.nd rfl (.inl rfl) (pe_lst (pa_cons pe_non (pa_cons pe_str (pa_cons pe_bl (pa_cons pe_bl (pa_cons (pe_lst (pa_cons pe_int pa_nil)) (pa_cons (pe_tup (pa_cons pe_int pa_nil)) (pa_cons pe_dnewK (pa_cons (pe_un un_neg pe_int) (pa_cons (pe_op op_sub (pe_un un_neg pe_int) (pv 1)) pa_nil)))))))))))
      (pss_cut (ps_for PassesOwn.never rfl (pi_range1 (by rfl) T.range (pa_cons pe_int pa_nil)) (pg_name (i := 5) sc_law.nd rfl (.inr rfl))
      (pss_cons (ps_set (i := 6) sc_law.nd rfl (.inl rfl) (pe_op op_cat (pv 4) (pe_lst (pa_cons pe_int (pa_cons pe_int (pa_cons pe_int (pa_cons pe_int (pa_cons pe_int (pa_cons pe_int (pa_cons pe_int (pa_cons pe_int (pa_cons pe_int (pa_cons (pe_op op_add pe_int (pv 1)) pa_nil)))))))))))))
      (pss_cons (ps_if (pt_not (pt_val (pe_callB (cr_all rfl) (by rfl) T.all (by decide +kernel) (pa_cons (pe_lc (own := [("_law_thing", 7)]) (g := gName 7) (by rfl) sc_law.nd (pi_list (pv 6)) (blkOk_by (own := [("_law_thing", 7)]) (N := N_law) (sc := defScope s_law) (by decide +kernel)) (fun _ _ _ _ _ => (pg_name (i := 7) sc_law.nd rfl (.inl rfl))) (fun _ _ _ _ _ => pts_nil) (fun _ _ _ _ _ => (pe_cmpR (r := rEqD K) (op_eqD hr.units) (pe_callO O__law_told hr (pa_cons (C8.pe_gc (v := .ref f__law_with_prime) (by rfl) ⟨_, m__law_with_prime, rfl⟩) (pa_cons (pv 5) (pa_cons (pv 7) pa_nil)))) (pe_ix (r := rIxL K) ix_list (pv 2) pe_int (fun _ _ => rfl)) (nomark _)))) pa_nil))))
      (pss_one (ps_ret pe_bl))
      pss_nil)
      (pss_one (ps_if (pt_not (pt_val (pe_callB (cr_all rfl) (by rfl) T.all (by decide +kernel) (pa_cons (pe_lc (own := [("_law_thing", 7)]) (g := gName 7) (by rfl) sc_law.nd (pi_list (pv 4)) (blkOk_by (own := [("_law_thing", 7)]) (N := N_law) (sc := defScope s_law) (by decide +kernel)) (fun _ _ _ _ _ => (pg_name (i := 7) sc_law.nd rfl (.inl rfl))) (fun _ _ _ _ _ => pts_nil) (fun _ _ _ _ _ => (pe_cmpR (r := rEqD K) (op_eqD hr.units) (pe_callO O__law_told hr (pa_cons (C8.pe_gc (v := .ref f__law_with_many) (by rfl) ⟨_, m__law_with_many, rfl⟩) (pa_cons (pv 5) (pa_cons (pv 7) pa_nil)))) (pe_ix (r := rIxL K) ix_list (pv 2) pe_int (fun _ _ => rfl)) (nomark _)))) pa_nil))))
      (pss_one (ps_ret pe_bl))
      pss_nil)))))
      (pss_cut (ps_for PassesOwn.never rfl (pi_range2 (by rfl) T.range (pa_cons pe_int (pa_cons pe_int pa_nil))) (pg_name (i := 8) sc_law.nd rfl (.inr rfl))
      (pss_cons (ps_set (i := 9) sc_law.nd rfl (.inl rfl) (pe_callB (cr_any rfl) (by rfl) T.any (by decide +kernel) (pa_cons (pe_lc (own := [("_law_part", 13)]) (g := gName 13) (by rfl) sc_law.nd (pi_range2 (by rfl) T.range (pa_cons pe_int (pa_cons pe_int pa_nil))) (blkOk_by (own := [("_law_part", 13)]) (N := N_law) (sc := defScope s_law) (by decide +kernel)) (fun _ _ _ _ _ => (pg_name (i := 13) sc_law.nd rfl (.inl rfl))) (fun _ _ _ _ _ => (pts_one (pt_cmpR op_lt (pv 13) (pv 8) (nomark _)))) (fun _ _ _ _ _ => (pe_cmpR op_eq (pe_op op_mod (pv 8) (pv 13)) pe_int (nomark _)))) pa_nil)))
      (pss_cons (ps_if (PW.pt (pw_and (pt_val (pv 9)) (pw_and1 (pt_cmpR (r := rNeD K) (op_neD hr.units) (pe_callO O__law_told hr (pa_cons (C8.pe_gc (v := .ref f__law_with_prime) (by rfl) ⟨_, m__law_with_prime, rfl⟩) (pa_cons (pe_op op_mod (pe_op op_fdivW (pv 8) pe_int) pe_int) (pa_cons (pv 8) pa_nil)))) (pe_ix (r := rIxL K) ix_list (pv 2) pe_int (fun _ _ => rfl)) (nomark _)))))
      (pss_one (ps_ret pe_bl))
      pss_nil)
      (pss_one (ps_if (PW.pt (pw_and (pt_not (pt_val (pv 9))) (pw_and1 (pt_cmpR (r := rNeD K) (op_neD hr.units) (pe_callL O_figures hr (pa_cons (pv 8) (pa_cons (pv 8) pa_nil))) (pe_lst (pa_cons pe_int (pa_cons pe_int pa_nil))) (nomark _)))))
      (pss_one (ps_ret pe_bl))
      pss_nil)))))
      (pss_cons (ps_set (i := 10) sc_law.nd rfl (.inl rfl) (pe_ix (r := rIxT K) ix_tup (pe_callO O__law_pair hr (pa_cons (pv 0) (pa_cons pe_int (pa_cons pe_int pa_nil)))) pe_int (fun _ _ => rfl)))
      (pss_cut (ps_for PassesOwn.never rfl (pi_range1 (by rfl) T.range (pa_cons pe_int pa_nil)) (pg_name (i := 5) sc_law.nd rfl (.inr rfl))
      (pss_one (ps_for PassesOwn.never rfl (pi_list (pe_op op_cat (pv 4) (pe_lst (pa_cons (pe_op op_add (pv 10) pe_int) (pa_cons (pe_op op_add (pe_op op_add (pv 10) pe_int) (pv 1)) pa_nil))))) (pg_name (i := 7) sc_law.nd rfl (.inl rfl))
      (pss_one (ps_if (pt_cmpR (r := rNeD K) (op_neD hr.units) (pe_callO O__law_told hr (pa_cons (C8.pe_gc (v := .ref f__law_with_some) (by rfl) ⟨_, m__law_with_some, rfl⟩) (pa_cons (pe_tup (pa_cons (pv 5) (pa_cons (pv 10) pa_nil))) (pa_cons (pv 7) pa_nil)))) (pe_ix (r := rIxL K) ix_list (pv 2) pe_int (fun _ _ => rfl)) (nomark _))
      (pss_one (ps_ret pe_bl))
      pss_nil)))))
      (pss_cut (ps_for PassesOwn.never rfl (pi_tup (pe_tup (pa_cons pe_int (pa_cons pe_int (pa_cons pe_int pa_nil))))) (pg_name (i := 11) sc_law.nd rfl (.inl rfl))
      (pss_cons (ps_set (i := 12) sc_law.nd rfl (.inl rfl) (pe_callL O_free hr (pa_cons (pv 11) (pa_cons (pv 10) pa_nil))))
      (pss_one (ps_for PassesOwn.never rfl (pi_list (pe_op op_cat (pv 4) (pe_lst (pa_cons (pv 12) (pa_cons (pe_op op_add (pv 12) (pv 1)) pa_nil))))) (pg_name (i := 7) sc_law.nd rfl (.inl rfl))
      (pss_one (ps_if (pt_cmpR (r := rNeD K) (op_neD hr.units) (pe_callO O__law_told hr (pa_cons (C8.pe_gc (v := .ref f__law_with_number) (by rfl) ⟨_, m__law_with_number, rfl⟩) (pa_cons (pe_tup (pa_cons (pv 11) (pa_cons (pv 10) pa_nil))) (pa_cons (pv 7) pa_nil)))) (pe_ix (r := rIxL K) ix_list (pv 2) pe_int (fun _ _ => rfl)) (nomark _))
      (pss_one (ps_ret pe_bl))
      pss_nil))))))
      (pss_cons (ps_if (pt_cmpR (r := rNeD K) (op_neD hr.units) (pe_callO O__law_told hr (pa_cons (C8.pe_gc (v := .ref f__law_with_some) (by rfl) ⟨_, m__law_with_some, rfl⟩) (pa_cons (pe_tup (pa_cons pe_int (pa_cons pe_int pa_nil))) (pa_cons pe_int pa_nil)))) (pe_ix (r := rIxL K) ix_list (pv 2) pe_int (fun _ _ => rfl)) (nomark _))
      (pss_one (ps_ret pe_bl))
      pss_nil)
      (pss_one (ps_ret (pe_and (pe_cmpR (r := rEqD K) (op_eqD hr.units) (pe_callL O_ways hr (pa_cons pe_int (pa_cons (pv 10) (pa_cons (pv 10) pa_nil)))) (pe_tup (pa_cons pe_int (pa_cons pe_int pa_nil))) (nomark _)) (pe_one (pe_cmpR op_eq (pe_callL O_place_by hr (pa_cons pe_int (pa_cons (pv 10) (pa_cons (pe_op op_sub (pe_callL O_free hr (pa_cons pe_int (pa_cons (pv 10) pa_nil))) pe_int) pa_nil)))) (pv 10) (nomark _)))))))))))))))), ?_⟩
    refine ⟨_, rfl, a, ns, 0, rfl, hS, _, 3, 900000, rfl, ⟨getD_bits hb 0, by decide, by decide, by decide⟩, fun fv hfv H1 e1 => ?_⟩
    have hS1 : SqL K H1 a (ns.map V.int) := ex_l e1 hS
    refine ⟨Nat.zero_le _, fun du nd => ?_⟩
    refine ⟨fun σ' H' => (∃ y3, σ' = [some (.ref a), some (.int fv), some (.ref du), y3, none, none, none, none, none, none, none, none, none, none]) ∧ Ex H1 H' ∧ DueN H' du 5, ?_, ?_⟩
    · refine ⟨5, rfl, by decide, by decide, for_range (lo := 0) (n := 5) (fun i σ' H' => (∃ y3, σ' = [some (.ref a), some (.int fv), some (.ref du), y3, none, none, none, none, none, none, none, none, none, none]) ∧ Ex H1 H' ∧ DueN H' du i) ⟨⟨_, rfl⟩, Ex.new nd, [], upd_same, rfl, fun j d h => by cases h⟩ ?_ ?_⟩
      · rintro i σ' H' hi ⟨⟨y3, rfl⟩, e2, ds, h1, h2, h3⟩
        refine ⟨_, rfl, .inl ⟨rfl, _, SqL.of h1⟩, _, rfl, rfl, _, rfl, rfl, _, rfl, rfl, _, rfl, rfl, _, rfl, rfl, (by show 6 ≤ sizeLine; decide), fun q0 nq => ?_⟩
        have hqd : du ≠ q0 := fun e => by rw [← e, h1] at nq; cases nq
        refine ⟨du, _, _, rfl, rfl, (upd_ne hqd).trans h1, sz_lt (by rw [List.length_map]; omega), ⟨_, rfl⟩, ?_, ?_⟩
        · exact Ex.mut (e2.trans (Ex.new nq)) nd
        · have := DueN.more h1 h2 h3 nq
          have ek : ∀ c : Nat, (decide (V.int (0 + (i : Int)) = V.int (c : Int))) = decide (i = c) := fun c => decide_eq_decide.mpr ⟨fun z => by have := V.int.inj z; omega, fun z => by rw [z, Int.zero_add]⟩
          have el : ([V.bl (decide (V.int (0 + (i : Int)) = V.int 0)), V.bl (decide (V.int (0 + (i : Int)) = V.int 1)), V.bl (decide (V.int (0 + (i : Int)) = V.int 2)), V.bl (decide (V.int (0 + (i : Int)) = V.int 3)), V.bl (decide (V.int (0 + (i : Int)) = V.int 4)), V.bl true] : List V) = kindJ i := by
            rw [show (V.int 0) = V.int ((0 : Nat) : Int) from rfl, show (V.int 1) = V.int ((1 : Nat) : Int) from rfl, show (V.int 2) = V.int ((2 : Nat) : Int) from rfl, show (V.int 3) = V.int ((3 : Nat) : Int) from rfl, show (V.int 4) = V.int ((4 : Nat) : Int) from rfl, ek 0, ek 1, ek 2, ek 3, ek 4]
            rfl
          rw [← el] at this
          exact this
      · rintro σ' H' h
        exact h
    rintro σ' H2 ⟨⟨y3, rfl⟩, e2, due2⟩
    have hS2 := ex_l e2 hS1
    -- the strange things
    refine ⟨by show 1 ≤ sizeLine; decide, fun l1 n1 => ⟨by show 1 ≤ sizeLine; decide, fun t1 n2 => fun d1 n3 => ?_⟩⟩
    refine ⟨1, rfl, 1, rfl, _, rfl, _, _, rfl, rfl, (by show 9 ≤ sizeLine; decide), fun st nst => ?_⟩
    have e3 := ((Ex.new (o := .lst [.int 2]) n1).trans (Ex.new (o := .tup [.int 2]) n2)).trans (Ex.new (o := .dK []) n3)
    have e4 := e3.trans (Ex.new (o := .lst [.non, .str "2", .bl true, .bl false, .ref l1, .ref t1, .ref d1, .int (-1), .int (-1 - (fv : Int))]) nst)
    have odd : Odd (upd (upd (upd (upd H2 l1 (.lst [.int 2])) t1 (.tup [.int 2])) d1 (.dK [])) st (.lst [.non, .str "2", .bl true, .bl false, .ref l1, .ref t1, .ref d1, .int (-1), .int (-1 - (fv : Int))])) [.non, .str "2", .bl true, .bl false, .ref l1, .ref t1, .ref d1, .int (-1), .int (-1 - (fv : Int))] := by
      intro x hx
      have h1 : upd (upd (upd (upd H2 l1 (.lst [.int 2])) t1 (.tup [.int 2])) d1 (.dK [])) st (.lst [.non, .str "2", .bl true, .bl false, .ref l1, .ref t1, .ref d1, .int (-1), .int (-1 - (fv : Int))]) l1 = some (.lst [.int 2]) := Ex.new nst _ _ (Ex.new n3 _ _ (Ex.new n2 _ _ upd_same))
      have h2 : upd (upd (upd (upd H2 l1 (.lst [.int 2])) t1 (.tup [.int 2])) d1 (.dK [])) st (.lst [.non, .str "2", .bl true, .bl false, .ref l1, .ref t1, .ref d1, .int (-1), .int (-1 - (fv : Int))]) t1 = some (.tup [.int 2]) := Ex.new nst _ _ (Ex.new n3 _ _ upd_same)
      have h3 : upd (upd (upd (upd H2 l1 (.lst [.int 2])) t1 (.tup [.int 2])) d1 (.dK [])) st (.lst [.non, .str "2", .bl true, .bl false, .ref l1, .ref t1, .ref d1, .int (-1), .int (-1 - (fv : Int))]) d1 = some (.dK []) := Ex.new nst _ _ upd_same
      simp only [List.mem_cons, List.not_mem_nil, or_false] at hx
      rcases hx with rfl | rfl | rfl | rfl | rfl | rfl | rfl | rfl | rfl
      · exact ⟨_, .non, rfl⟩
      · exact ⟨_, .str _, rfl⟩
      · exact ⟨_, .bl _, rfl⟩
      · exact ⟨_, .bl _, rfl⟩
      · exact ⟨_, .lst h1, rfl⟩
      · exact ⟨_, .tup h2, rfl⟩
      · exact ⟨_, .dct h3, rfl⟩
      · exact ⟨_, .int _, rfl⟩
      · exact ⟨_, .int _, decide_eq_false (by omega)⟩
    have due4 := due2.ex e4
    have hS4 := ex_l e4 hS2
    have hst : upd (upd (upd (upd H2 l1 (.lst [.int 2])) t1 (.tup [.int 2])) d1 (.dK [])) st (.lst [.non, .str "2", .bl true, .bl false, .ref l1, .ref t1, .ref d1, .int (-1), .int (-1 - (fv : Int))]) st = some (.lst [.non, .str "2", .bl true, .bl false, .ref l1, .ref t1, .ref d1, .int (-1), .int (-1 - (fv : Int))]) := upd_same
    have hxl : ([.non, .str "2", .bl true, .bl false, .ref l1, .ref t1, .ref d1, .int (-1), .int (-1 - (fv : Int))] : List V).length = 9 := rfl
    generalize ([.non, .str "2", .bl true, .bl false, .ref l1, .ref t1, .ref d1, .int (-1), .int (-1 - (fv : Int))] : List V) = xs at *
    generalize upd (upd (upd (upd H2 l1 (.lst [.int 2])) t1 (.tup [.int 2])) d1 (.dK [])) st (.lst xs) = H4 at *
    -- at the doors
    refine ⟨fun σ' H' => (∃ y5 y6, σ' = [some (.ref a), some (.int fv), some (.ref du), y3, some (.ref st), y5, y6, none, none, none, none, none, none, none]) ∧ Ex H4 H', ?_, ?_⟩
    · refine ⟨8, rfl, by decide, by decide, for_range (lo := 0) (n := 8) (fun i σ' H' => (∃ y5 y6, σ' = [some (.ref a), some (.int fv), some (.ref du), y3, some (.ref st), y5, y6, none, none, none, none, none, none, none]) ∧ Ex H4 H') ⟨⟨_, _, rfl⟩, Ex.refl _⟩ ?_ ?_⟩
      · rintro j σ' H5 hj ⟨⟨y5, y6, rfl⟩, e5⟩
        rw [Int.zero_add]
        have hst5 := e5 st _ hst
        refine ⟨_, rfl, _, rfl, _, _, rfl, rfl, (by show 10 ≤ sizeLine; decide), fun l2 n2 => ?_⟩
        refine ⟨st, l2, _, _, rfl, rfl, Ex.new n2 st _ hst5, upd_same, sz_of (by rw [hxl]; show 9 + 10 ≤ 100000; decide), fun pr npr => ?_⟩
        have e6 := (e5.trans (Ex.new (o := .lst [.int 0, .int 1, .int 4, .int 341, .int 561, .int 645, .int 961, .int 998, .int 1009, .int (1009 + (fv : Int))]) n2)).trans (Ex.new (o := .lst (xs ++ [.int 0, .int 1, .int 4, .int 341, .int 561, .int 645, .int 961, .int 998, .int 1009, .int (1009 + (fv : Int))])) npr)
        have hpr : upd (upd H5 l2 (.lst [.int 0, .int 1, .int 4, .int 341, .int 561, .int 645, .int 961, .int 998, .int 1009, .int (1009 + (fv : Int))])) pr (.lst (xs ++ [.int 0, .int 1, .int 4, .int 341, .int 561, .int 645, .int 961, .int 998, .int 1009, .int (1009 + (fv : Int))])) pr = some (.lst (xs ++ [.int 0, .int 1, .int 4, .int 341, .int 561, .int 645, .int 961, .int 998, .int 1009, .int (1009 + (fv : Int))])) := upd_same
        have bad : ∀ x ∈ xs ++ [.int 0, .int 1, .int 4, .int 341, .int 561, .int 645, .int 961, .int 998, .int 1009, .int (1009 + (fv : Int))], ∃ o, Pa H4 x o ∧ goodp o = false := by
          intro x hx
          rcases List.mem_append.mp hx with h | h
          · obtain ⟨o, h1, h2⟩ := odd x h
            exact ⟨o, h1, not_goodp h2⟩
          · simp only [List.mem_cons, List.not_mem_nil, or_false] at h
            rcases h with rfl | rfl | rfl | rfl | rfl | rfl | rfl | rfl | rfl | rfl
            · exact ⟨_, .int _, by decide +kernel⟩
            · exact ⟨_, .int _, by decide +kernel⟩
            · exact ⟨_, .int _, by decide +kernel⟩
            · exact ⟨_, .int _, by decide +kernel⟩
            · exact ⟨_, .int _, by decide +kernel⟩
            · exact ⟨_, .int _, by decide +kernel⟩
            · exact ⟨_, .int _, by decide +kernel⟩
            · exact ⟨_, .int _, by decide +kernel⟩
            · exact ⟨_, .int _, by decide +kernel⟩
            · exact ⟨_, .int _, big_goodp (by omega)⟩
        have hyl : (xs ++ [V.int 0, V.int 1, V.int 4, V.int 341, V.int 561, V.int 645, V.int 961, V.int 998, V.int 1009, V.int (1009 + (fv : Int))]).length = 19 := by rw [List.length_append, hxl]; rfl
        generalize xs ++ [V.int 0, V.int 1, V.int 4, V.int 341, V.int 561, V.int 645, V.int 961, V.int 998, V.int 1009, V.int (1009 + (fv : Int))] = ys at *
        generalize upd (upd H5 l2 (HO.lst [V.int 0, V.int 1, V.int 4, V.int 341, V.int 561, V.int 645, V.int 961, V.int 998, V.int 1009, V.int (1009 + (fv : Int))])) pr (HO.lst ys) = H6 at *
        refine ⟨_, rfl, pr, rfl, ⟨_, SqL.of hpr⟩, fun Dd nD => ?_⟩
        refine lc_list (K := K) (a := pr) (xs := ys) (fun i H' => ∃ bs : List Bool, H' Dd = some (.lst (bs.map V.bl)) ∧ bs.length ≤ i ∧ (∀ b ∈ bs, b = true) ∧ Ex H6 H') ⟨[], upd_same, Nat.le_refl _, (fun b h => by cases h), Ex.new nD⟩ (fun i H' _ ⟨_, _, _, _, e⟩ => SqL.of (e pr _ hpr)) ?_ ?_
        · rintro i x H' hx ⟨bs, h1, h2, h3, h4⟩
          have hi : i < 19 := by rw [← hyl]; exact (List.getElem?_eq_some_iff.mp hx).1
          obtain ⟨o, ho, hg⟩ := bad x (List.mem_of_getElem? hx)
          refine ⟨rfl, yes_if ⟨_, rfl, _, rfl, tp hj (ho.ex (e6.trans h4)) hg fun p8 H8 np8 e8 hp8 => ?_⟩⟩
          obtain ⟨ds, d, hd1, hd2, hd3⟩ := (due4.ex ((e6.trans h4).trans e8)).at (j := 0) (by decide)
          refine ⟨_, rfl, du, _, _, _, rfl, rfl, SqL.of hd1, atI_nat (j := 0) hd2, _, _, dpB hp8, dpB hd3, shapedB _, shapedB _, bs.map V.bl, e8 Dd _ h1, sz_lt (by rw [List.length_map]; omega), bs ++ [true], ?_, by rw [List.length_append]; exact Nat.succ_le_succ h2, fun b hb => ?_, Ex.mut (h4.trans e8) nD⟩
          · rw [upd_same, eqvB, List.map_append]; rfl
          · rcases List.mem_append.mp hb with g | g
            · exact h3 b g
            · exact List.mem_singleton.mp g
        rintro H7 ⟨bs, h1, h2, h3, h4⟩
        have eall : bs.all id = true := List.all_eq_true.mpr fun b hb => h3 b hb
        refine ⟨Dd, bs, rfl, SqL.of h1, _, rfl, if_f (by rw [eall]; rfl) ?_⟩
        have e7 := e6.trans h4
        have hst7 := e7 st _ hst
        refine ⟨_, rfl, st, rfl, ⟨_, SqL.of hst7⟩, fun D2 nD2 => ?_⟩
        refine lc_list (K := K) (a := st) (xs := xs) (fun i H' => ∃ bs : List Bool, H' D2 = some (.lst (bs.map V.bl)) ∧ bs.length ≤ i ∧ (∀ b ∈ bs, b = true) ∧ Ex H7 H') ⟨[], upd_same, Nat.le_refl _, (fun b h => by cases h), Ex.new nD2⟩ (fun i H' _ ⟨_, _, _, _, e⟩ => SqL.of (e st _ hst7)) ?_ ?_
        · rintro i x H' hx ⟨bs, h1, h2, h3, h4⟩
          have hi : i < 9 := by rw [← hxl]; exact (List.getElem?_eq_some_iff.mp hx).1
          obtain ⟨o, ho, hg⟩ := odd x (List.mem_of_getElem? hx)
          refine ⟨rfl, yes_if ⟨_, rfl, _, rfl, tm hj (ho.ex (e7.trans h4)) hg fun p8 H8 np8 e8 hp8 => ?_⟩⟩
          obtain ⟨ds, d, hd1, hd2, hd3⟩ := (due4.ex ((e7.trans h4).trans e8)).at (j := 1) (by decide)
          refine ⟨_, rfl, du, _, _, _, rfl, rfl, SqL.of hd1, atI_nat (j := 1) hd2, _, _, dpB hp8, dpB hd3, shapedB _, shapedB _, bs.map V.bl, e8 D2 _ h1, sz_lt (by rw [List.length_map]; omega), bs ++ [true], ?_, by rw [List.length_append]; exact Nat.succ_le_succ h2, fun b hb => ?_, Ex.mut (h4.trans e8) nD2⟩
          · rw [upd_same, eqvB, List.map_append]; rfl
          · rcases List.mem_append.mp hb with g | g
            · exact h3 b g
            · exact List.mem_singleton.mp g
        rintro H9 ⟨bs2, g1, g2, g3, g4⟩
        have eall2 : bs2.all id = true := List.all_eq_true.mpr fun b hb => g3 b hb
        exact ⟨D2, bs2, rfl, SqL.of g1, _, rfl, if_f (by rw [eall2]; rfl) ⟨⟨_, _, rfl⟩, e7.trans g4⟩⟩
      · rintro σ' H5 h
        exact h
    rintro σ' H5 ⟨⟨y5, y6, rfl⟩, e5⟩
    -- every number up to 997
    refine ⟨fun σ' H' => (∃ y8 y9, σ' = [some (.ref a), some (.int fv), some (.ref du), y3, some (.ref st), y5, y6, none, y8, y9, none, none, none, none]) ∧ Ex H4 H', ?_, ?_⟩
    · refine ⟨2, 998, rfl, ⟨by decide, by decide, by decide, by decide⟩, for_range (lo := 2) (n := ((998 : Int) - 2).toNat) (fun i σ' H' => (∃ y8 y9, σ' = [some (.ref a), some (.int fv), some (.ref du), y3, some (.ref st), y5, y6, none, y8, y9, none, none, none, none]) ∧ Ex H4 H') ⟨⟨_, _, rfl⟩, e5⟩ ?_ ?_⟩
      · rintro i σ' H6 hi ⟨⟨y8, y9, rfl⟩, e6⟩
        have hi : i < 996 := hi
        rw [show (2 : Int) + (i : Int) = ((i + 2 : Nat) : Int) by omega]
        refine any_parts (K := K) (f := i + 2) (i := 8) (j := 13) rfl (by decide) (by show 13 < 14; decide) fun H7 e7 => ?_
        have e47 := e6.trans e7
        cases z : isP (i + 2) with
        | true =>
          refine ⟨_, rfl, _, rfl, if_f rfl ?_⟩
          refine ⟨_, rfl, _, rfl, if_t rfl ?_⟩
          refine ⟨_, rfl, _, rfl, .inr ⟨i + 2, i + 2, rfl, ⟨⟨by omega, by omega, z⟩, Nat.lt_of_lt_of_le (show i + 2 < 2 ^ 10 by omega) (Nat.pow_le_pow_right (by decide) (by decide))⟩, fun l H8 nl e8 hl => ?_⟩⟩
          rw [figs_self (show 2 ≤ i + 2 by omega)] at hl
          refine ⟨by show 2 ≤ sizeLine; decide, fun l2 n2 => ?_⟩
          exact ⟨_, _, dpL (SqL.of (Ex.new n2 l _ hl)), dpL (l := [0, 1]) (SqL.of upd_same), shapedI _, shapedI _, _, rfl, if_f (by rw [eqvI]; rfl) ⟨⟨_, _, rfl⟩, (e47.trans e8).trans (Ex.new n2)⟩⟩
        | false =>
          have hg : goodp (some ((i + 2 : Nat) : Int)) = false := by rw [goodp_nat, z, Bool.and_false, Bool.and_false]
          refine ⟨_, rfl, _, rfl, if_t rfl ?_⟩
          refine ⟨_, rfl, _, _, rfl, rfl, div_small (p := 2) (by decide) (by decide), _, _, rfl, rfl, (by show (0 : Int) < 8; decide), _, rfl, tp (j := (i + 2) / 2 % 8) (Nat.mod_lt _ (by decide)) (.int _) hg fun p8 H8 np8 e8 hp8 => ?_⟩
          obtain ⟨ds, d, hd1, hd2, hd3⟩ := (due4.ex (e47.trans e8)).at (j := 0) (by decide)
          refine ⟨_, rfl, du, _, _, _, rfl, rfl, SqL.of hd1, atI_nat (j := 0) hd2, _, _, dpB hp8, dpB hd3, shapedB _, shapedB _, _, rfl, if_f (by rw [eqvB]; rfl) ?_⟩
          exact ⟨_, rfl, _, rfl, if_f rfl ⟨⟨_, _, rfl⟩, e47.trans e8⟩⟩
      · rintro σ' H6 h
        exact h
    rintro σ' H6 ⟨⟨y8, y9, rfl⟩, e6⟩
    -- a number of some
    refine ⟨_, rfl, a, ns, 0, 5, rfl, ⟨ex_l e6 hS4, hb, by decide, by decide, by decide⟩, fun n s hs hn u0 H7 nu0 e7 hu0 => ⟨u0, _, _, _, rfl, rfl, SqT.of hu0, atI_nat (j := 0) rfl, ?_⟩⟩
    have hn2 : n < 2 ^ 200 := Nat.lt_trans hn (Nat.pow_lt_pow_right (by decide) (by decide))
    have e47 := e6.trans e7
    refine ⟨fun σ' H' => (∃ y5 y7, σ' = [some (.ref a), some (.int fv), some (.ref du), y3, some (.ref st), y5, y6, y7, y8, y9, some (.int n), none, none, none]) ∧ Ex H4 H', ?_, ?_⟩
    · refine ⟨3, rfl, by decide, by decide, for_range (lo := 0) (n := 3) (fun i σ' H' => (∃ y5 y7, σ' = [some (.ref a), some (.int fv), some (.ref du), y3, some (.ref st), y5, y6, y7, y8, y9, some (.int n), none, none, none]) ∧ Ex H4 H') ⟨⟨_, _, rfl⟩, e47⟩ ?_ ?_⟩
      · rintro j σ' H8 hj ⟨⟨y5, y7, rfl⟩, e8⟩
        rw [Int.zero_add]
        have hst8 := e8 st _ hst
        refine ⟨_, rfl, _, rfl, _, _, rfl, rfl, _, rfl, _, _, rfl, rfl, _, rfl, _, _, rfl, rfl, (by show 2 ≤ sizeLine; decide), fun l2 n2 => ?_⟩
        refine ⟨st, l2, _, _, rfl, rfl, Ex.new n2 st _ hst8, upd_same, sz_of (by rw [hxl]; show 9 + 2 ≤ 100000; decide), fun pr npr => ?_⟩
        have e9 := (e8.trans (Ex.new (o := .lst [.int ((n : Int) + 1), .int ((n : Int) + 1 + (fv : Int))]) n2)).trans (Ex.new (o := .lst (xs ++ [.int ((n : Int) + 1), .int ((n : Int) + 1 + (fv : Int))])) npr)
        have bad : ∀ x ∈ xs ++ [.int ((n : Int) + 1), .int ((n : Int) + 1 + (fv : Int))], ∃ o, Pa H4 x o ∧ okS o (some (n : Int)) = false := by
          intro x hx
          rcases List.mem_append.mp hx with h | h
          · obtain ⟨o, h1, h2⟩ := odd x h
            exact ⟨o, h1, not_okS h2⟩
          · simp only [List.mem_cons, List.not_mem_nil, or_false] at h
            rcases h with rfl | rfl
            · exact ⟨_, .int _, okS_big (by omega)⟩
            · exact ⟨_, .int _, okS_big (by omega)⟩
        refine ⟨pr, rfl, ⟨_, SqL.of upd_same⟩, for_list (K := K) (a := pr) (xs := xs ++ [.int ((n : Int) + 1), .int ((n : Int) + 1 + (fv : Int))]) (fun i σ' H' => (∃ y7, σ' = [some (.ref a), some (.int fv), some (.ref du), y3, some (.ref st), some (.int j), y6, y7, y8, y9, some (.int n), none, none, none]) ∧ Ex (upd (upd H8 l2 (.lst [.int ((n : Int) + 1), .int ((n : Int) + 1 + (fv : Int))])) pr (.lst (xs ++ [.int ((n : Int) + 1), .int ((n : Int) + 1 + (fv : Int))]))) H') ⟨⟨_, rfl⟩, Ex.refl _⟩ (fun i σ' H' _ ⟨_, e⟩ => SqL.of (e pr _ upd_same)) ?_ ?_⟩
        · rintro i x σ' H10 hx ⟨⟨y7, rfl⟩, e10⟩
          obtain ⟨o, ho, hg⟩ := bad x (List.mem_of_getElem? hx)
          refine ⟨_, rfl, _, rfl, (by show 2 ≤ sizeLine; decide), fun u nu => ⟨_, rfl, ts (j := j) (n := n) upd_same hn2 hj (ho.ex ((e9.trans e10).trans (Ex.new nu))) hg fun p8 H11 np8 e11 hp8 => ?_⟩⟩
          obtain ⟨ds, d, hd1, hd2, hd3⟩ := (due4.ex (((e9.trans e10).trans (Ex.new nu)).trans e11)).at (j := 2) (by decide)
          exact ⟨_, rfl, du, _, _, _, rfl, rfl, SqL.of hd1, atI_nat (j := 2) hd2, _, _, dpB hp8, dpB hd3, shapedB _, shapedB _, _, rfl, if_f (by rw [eqvB]; rfl) ⟨⟨_, rfl⟩, (e10.trans (Ex.new nu)).trans e11⟩⟩
        · rintro σ' H10 ⟨⟨y7, rfl⟩, e10⟩
          exact ⟨⟨_, _, rfl⟩, e9.trans e10⟩
      · rintro σ' H8 h
        exact h
    rintro σ' H8 ⟨⟨y5', y7, rfl⟩, e8⟩
    -- a number of a free place
    refine ⟨fun σ' H' => (∃ y7 y11 y12, σ' = [some (.ref a), some (.int fv), some (.ref du), y3, some (.ref st), y5', y6, y7, y8, y9, some (.int n), y11, y12, none]) ∧ Ex H4 H', ?_, ?_⟩
    · refine ⟨by show 3 ≤ sizeLine; decide, fun v nv => ?_⟩
      refine ⟨v, rfl, ⟨_, SqT.of upd_same⟩, for_tup (K := K) (a := v) (xs := [.int 2, .int 5, .int 997]) (fun i σ' H' => (∃ y7 y11 y12, σ' = [some (.ref a), some (.int fv), some (.ref du), y3, some (.ref st), y5', y6, y7, y8, y9, some (.int n), y11, y12, none]) ∧ Ex (upd H8 v (.tup [.int 2, .int 5, .int 997])) H') ⟨⟨_, _, _, rfl⟩, Ex.refl _⟩ (fun i σ' H' _ ⟨_, e⟩ => SqT.of (e v _ upd_same)) ?_ ?_⟩
      · rintro i0 x0 σ' H9 hx0 ⟨⟨y7, y11, y12, rfl⟩, e9⟩
        have hp : ∃ p : Nat, x0 = .int (p : Int) ∧ Pr p := by
          have := List.mem_of_getElem? hx0
          simp only [List.mem_cons, List.not_mem_nil, or_false] at this
          rcases this with rfl | rfl | rfl
          · exact ⟨2, rfl, pr2⟩
          · exact ⟨5, rfl, pr5⟩
          · exact ⟨997, rfl, pr997⟩
        obtain ⟨p, rfl, hP⟩ := hp
        refine ⟨_, rfl, _, rfl, .inr ⟨p, n, rfl, ⟨hP, hn2⟩, fun H10 e10 => ?_⟩⟩
        have e410 := ((e8.trans (Ex.new nv)).trans e9).trans e10
        have hst10 := e410 st _ hst
        refine ⟨_, rfl, _, rfl, _, rfl, _, rfl, _, _, rfl, rfl, (by show 2 ≤ sizeLine; decide), fun l2 n2 => ?_⟩
        refine ⟨st, l2, _, _, rfl, rfl, Ex.new n2 st _ hst10, upd_same, sz_of (by rw [hxl]; show 9 + 2 ≤ 100000; decide), fun pr npr => ?_⟩
        have e11 := (e410.trans (Ex.new (o := .lst [.int (fr (figs p n) : Nat), .int ((fr (figs p n) : Nat) + (fv : Int))]) n2)).trans (Ex.new (o := .lst (xs ++ [.int (fr (figs p n) : Nat), .int ((fr (figs p n) : Nat) + (fv : Int))])) npr)
        have bad : ∀ x ∈ xs ++ [.int (fr (figs p n) : Nat), .int ((fr (figs p n) : Nat) + (fv : Int))], ∃ o, Pa H4 x o ∧ okN o (fr (figs p n)) = false := by
          intro x hx
          rcases List.mem_append.mp hx with h | h
          · obtain ⟨o, h1, h2⟩ := odd x h
            exact ⟨o, h1, not_okN h2⟩
          · simp only [List.mem_cons, List.not_mem_nil, or_false] at h
            rcases h with rfl | rfl
            · exact ⟨_, .int _, okN_big (Int.lt_irrefl _)⟩
            · exact ⟨_, .int _, okN_big (by omega)⟩
        refine ⟨pr, rfl, ⟨_, SqL.of upd_same⟩, for_list (K := K) (a := pr) (xs := xs ++ [.int (fr (figs p n) : Nat), .int ((fr (figs p n) : Nat) + (fv : Int))]) (fun i σ' H' => (∃ y7, σ' = [some (.ref a), some (.int fv), some (.ref du), y3, some (.ref st), y5', y6, y7, y8, y9, some (.int n), some (.int p), some (.int (fr (figs p n) : Nat)), none]) ∧ Ex (upd (upd H10 l2 (.lst [.int (fr (figs p n) : Nat), .int ((fr (figs p n) : Nat) + (fv : Int))])) pr (.lst (xs ++ [.int (fr (figs p n) : Nat), .int ((fr (figs p n) : Nat) + (fv : Int))]))) H') ⟨⟨_, rfl⟩, Ex.refl _⟩ (fun i σ' H' _ ⟨_, e⟩ => SqL.of (e pr _ upd_same)) ?_ ?_⟩
        · rintro i x σ' H12 hx ⟨⟨y7, rfl⟩, e12⟩
          obtain ⟨o, ho, hg⟩ := bad x (List.mem_of_getElem? hx)
          refine ⟨_, rfl, _, rfl, (by show 2 ≤ sizeLine; decide), fun u nu => ⟨_, rfl, tn (p := p) (n := n) upd_same hP hn2 (ho.ex ((e11.trans e12).trans (Ex.new nu))) hg fun p8 H13 np8 e13 hp8 => ?_⟩⟩
          obtain ⟨ds, d, hd1, hd2, hd3⟩ := (due4.ex (((e11.trans e12).trans (Ex.new nu)).trans e13)).at (j := 3) (by decide)
          exact ⟨_, rfl, du, _, _, _, rfl, rfl, SqL.of hd1, atI_nat (j := 3) hd2, _, _, dpB hp8, dpB hd3, shapedB _, shapedB _, _, rfl, if_f (by rw [eqvB]; rfl) ⟨⟨_, rfl⟩, (e12.trans (Ex.new nu)).trans e13⟩⟩
        · rintro σ' H12 ⟨⟨y7, rfl⟩, e12⟩
          exact ⟨⟨_, _, _, rfl⟩, ((e9.trans e10).trans ((Ex.new n2).trans (Ex.new npr))).trans e12⟩
      · rintro σ' H9 ⟨⟨y7, y11, y12, rfl⟩, e9⟩
        exact ⟨⟨_, _, _, rfl⟩, (e8.trans (Ex.new nv)).trans e9⟩
    rintro σ' H9 ⟨⟨y7', y11, y12, rfl⟩, e9⟩
    -- a place that is not free
    refine ⟨by show 2 ≤ sizeLine; decide, fun u nu => tf upd_same fun p8 H10 np8 e10 hp8 => ?_⟩
    obtain ⟨ds, d, hd1, hd2, hd3⟩ := (due4.ex ((e9.trans (Ex.new nu)).trans e10)).at (j := 4) (by decide)
    refine ⟨_, rfl, du, _, _, _, rfl, rfl, SqL.of hd1, atI_nat (j := 4) hd2, _, _, dpB hp8, dpB hd3, shapedB _, shapedB _, _, rfl, if_f (by rw [eqvB]; rfl) ?_⟩
    -- what is not refused
    refine ⟨_, rfl, _, rfl, .inr ⟨3, n, n, rfl, ⟨pr3, Nat.lt_trans hn (Nat.pow_lt_pow_right (by decide) (by decide)), Nat.le_refl n⟩, fun u2 H11 nu2 e11 hu2 => ?_⟩⟩
    rw [wo_self, wc_self pr3] at hu2
    refine ⟨by show 2 ≤ sizeLine; decide, fun u3 nu3 => ⟨_, _, dp2 (Ex.new nu3 u2 _ hu2), dp2 upd_same, shaped2 _ _, shaped2 _ _, _, rfl, if_t (by rw [show ((1 : Nat) : Int) = 1 from rfl, eqv2_refl]) ?_⟩⟩
    have hF := fr_pos (figs 2 n)
    refine ⟨_, rfl, _, rfl, .inr ⟨2, n, rfl, ⟨pr2, hn2⟩, fun H12 e12 => ⟨_, _, rfl, rfl, ?_⟩⟩⟩
    refine .inr (.inr ⟨2, n, fr (figs 2 n) - 1, ?_, ⟨pr2, hn2, by omega⟩, fun H13 e13 => ?_⟩)
    · show [V.int 2, V.int (n : Int), V.int (((fr (figs 2 n) : Nat) : Int) - 1)] = _
      rw [show ((fr (figs 2 n) : Nat) : Int) - 1 = ((fr (figs 2 n) - 1 : Nat) : Int) by omega]
      rfl
    rw [pb_last (by decide) n]
    refine ⟨_, rfl, rfl, ?_⟩
    show Q (.bl (decide (V.int (n : Nat) = V.int (n : Nat)))) H13
    rw [decide_eq_true rfl]
    exact q H13
end
end Cc

namespace Cc
open PySem PySem.Spec PyProof.Rows L2 Evl
theorem all_mk {l : PySem.W.OpenLaw} {w : World} {K : PySem.W.Frag} {h : Heap} {mg : Str → Option Value} {fa : Addr} (X : K.In h) (G : h.Ns mainGlobals mg) (hfa : mg "law" = some (.ref fa))
    {f1 : Addr} {od1 an1 : Option Addr} {sl1 : Array (Option Value)} {oc1 kV1 dc1 pm1 cd1 ct1 : Value}
    {f2 : Addr} {od2 an2 : Option Addr} {sl2 : Array (Option Value)} {oc2 kV2 dc2 pm2 cd2 ct2 : Value}
    {f3 : Addr} {od3 an3 : Option Addr} {sl3 : Array (Option Value)} {oc3 kV3 dc3 pm3 cd3 ct3 : Value}
    {f4 : Addr} {od4 an4 : Option Addr} {sl4 : Array (Option Value)} {oc4 kV4 dc4 pm4 cd4 ct4 : Value}
    {f5 : Addr} {od5 an5 : Option Addr} {sl5 : Array (Option Value)} {oc5 kV5 dc5 pm5 cd5 ct5 : Value}
    {f6 : Addr} {od6 an6 : Option Addr} {sl6 : Array (Option Value)} {oc6 kV6 dc6 pm6 cd6 ct6 : Value}
    {f7 : Addr} {od7 an7 : Option Addr} {sl7 : Array (Option Value)} {oc7 kV7 dc7 pm7 cd7 ct7 : Value}
    {f8 : Addr} {od8 an8 : Option Addr} {sl8 : Array (Option Value)} {oc8 kV8 dc8 pm8 cd8 ct8 : Value}
    {f9 : Addr} {od9 an9 : Option Addr} {sl9 : Array (Option Value)} {oc9 kV9 dc9 pm9 cd9 ct9 : Value}
    {f10 : Addr} {od10 an10 : Option Addr} {sl10 : Array (Option Value)} {oc10 kV10 dc10 pm10 cd10 ct10 : Value}
    {f11 : Addr} {od11 an11 : Option Addr} {sl11 : Array (Option Value)} {oc11 kV11 dc11 pm11 cd11 ct11 : Value}
    {f12 : Addr} {od12 an12 : Option Addr} {sl12 : Array (Option Value)} {oc12 kV12 dc12 pm12 cd12 ct12 : Value}
    {f13 : Addr} {od13 an13 : Option Addr} {sl13 : Array (Option Value)} {oc13 kV13 dc13 pm13 cd13 ct13 : Value}
    {f14 : Addr} {od14 an14 : Option Addr} {sl14 : Array (Option Value)} {oc14 kV14 dc14 pm14 cd14 ct14 : Value}
    {f15 : Addr} {od15 an15 : Option Addr} {sl15 : Array (Option Value)} {oc15 kV15 dc15 pm15 cd15 ct15 : Value}
    {f16 : Addr} {od16 an16 : Option Addr} {sl16 : Array (Option Value)} {oc16 kV16 dc16 pm16 cd16 ct16 : Value}
    {f17 : Addr} {od17 an17 : Option Addr} {sl17 : Array (Option Value)} {oc17 kV17 dc17 pm17 cd17 ct17 : Value}
    {f18 : Addr} {od18 an18 : Option Addr} {sl18 : Array (Option Value)} {oc18 kV18 dc18 pm18 cd18 ct18 : Value}
    {f19 : Addr} {od19 an19 : Option Addr} {sl19 : Array (Option Value)} {oc19 kV19 dc19 pm19 cd19 ct19 : Value}
    {f20 : Addr} {od20 an20 : Option Addr} {sl20 : Array (Option Value)} {oc20 kV20 dc20 pm20 cd20 ct20 : Value}
    {f21 : Addr} {od21 an21 : Option Addr} {sl21 : Array (Option Value)} {oc21 kV21 dc21 pm21 cd21 ct21 : Value}
    {f22 : Addr} {od22 an22 : Option Addr} {sl22 : Array (Option Value)} {oc22 kV22 dc22 pm22 cd22 ct22 : Value}
    {f23 : Addr} {od23 an23 : Option Addr} {sl23 : Array (Option Value)} {oc23 kV23 dc23 pm23 cd23 ct23 : Value}
    {f24 : Addr} {od24 an24 : Option Addr} {sl24 : Array (Option Value)} {oc24 kV24 dc24 pm24 cd24 ct24 : Value}
    {f25 : Addr} {od25 an25 : Option Addr} {sl25 : Array (Option Value)} {oc25 kV25 dc25 pm25 cd25 ct25 : Value}
    {f26 : Addr} {od26 an26 : Option Addr} {sl26 : Array (Option Value)} {oc26 kV26 dc26 pm26 cd26 ct26 : Value}
    {f27 : Addr} {od27 an27 : Option Addr} {sl27 : Array (Option Value)} {oc27 kV27 dc27 pm27 cd27 ct27 : Value}
    {f28 : Addr} {od28 an28 : Option Addr} {sl28 : Array (Option Value)} {oc28 kV28 dc28 pm28 cd28 ct28 : Value}
    {f29 : Addr} {od29 an29 : Option Addr} {sl29 : Array (Option Value)} {oc29 kV29 dc29 pm29 cd29 ct29 : Value}
    {f30 : Addr} {od30 an30 : Option Addr} {sl30 : Array (Option Value)} {oc30 kV30 dc30 pm30 cd30 ct30 : Value}
    {f31 : Addr} {od31 an31 : Option Addr} {sl31 : Array (Option Value)} {oc31 kV31 dc31 pm31 cd31 ct31 : Value}
    {f32 : Addr} {od32 an32 : Option Addr} {sl32 : Array (Option Value)} {oc32 kV32 dc32 pm32 cd32 ct32 : Value}
    {f33 : Addr} {od33 an33 : Option Addr} {sl33 : Array (Option Value)} {oc33 kV33 dc33 pm33 cd33 ct33 : Value}
    {CChooseError : Addr}
    
    
    
    {CBadPrime : Addr}
    
    
    
    {CBadMany : Addr}
    
    
    
    {CBadSome : Addr}
    
    
    
    {CBadNumber : Addr}
    
    
    
    {CNotFree : Addr}
    
    
    
    
    
    
    
    
    
    
    
    
    
    
    
    
    
    
    
    
    
    
    
    
    
    
    
    
    
    
    
    
    
    
    
    
    
    
    
    
    
    
    
    
    
    
    
    
    
    
    
    
    
    
    
    
    
    
    
    
    
    
    
    
    
    
    
    
    
    
    
    
    
    
    
    
    
    
    
    
    
    
    {tGREATEST : Tok}
    (a1 : PySem.W.nsIn K mainGlobals "is_whole" = some (some (.ref f1)))
    (l1 : K.lookup f1 = some ⟨oc1, od1, .func (PySem.W.fnOf "is_whole" "is_whole" (defArgs s_is_whole) (defBody s_is_whole) (defScope s_is_whole) .none kV1 dc1 pm1 an1 cd1 ct1), sl1⟩)
    (c1 : PySem.W.codeIn K cd1 "is_whole" = true)
    (k1 : PySem.W.keepIn K (.ref f1) = true)
    (a2 : PySem.W.nsIn K mainGlobals "check_prime" = some (some (.ref f2)))
    (l2 : K.lookup f2 = some ⟨oc2, od2, .func (PySem.W.fnOf "check_prime" "check_prime" (defArgs s_check_prime) (defBody s_check_prime) (defScope s_check_prime) .none kV2 dc2 pm2 an2 cd2 ct2), sl2⟩)
    (c2 : PySem.W.codeIn K cd2 "check_prime" = true)
    (k2 : PySem.W.keepIn K (.ref f2) = true)
    (a3 : PySem.W.nsIn K mainGlobals "check_many" = some (some (.ref f3)))
    (l3 : K.lookup f3 = some ⟨oc3, od3, .func (PySem.W.fnOf "check_many" "check_many" (defArgs s_check_many) (defBody s_check_many) (defScope s_check_many) .none kV3 dc3 pm3 an3 cd3 ct3), sl3⟩)
    (c3 : PySem.W.codeIn K cd3 "check_many" = true)
    (k3 : PySem.W.keepIn K (.ref f3) = true)
    (a4 : PySem.W.nsIn K mainGlobals "figures_of" = some (some (.ref f4)))
    (l4 : K.lookup f4 = some ⟨oc4, od4, .func (PySem.W.fnOf "figures_of" "figures_of" (defArgs s_figures_of) (defBody s_figures_of) (defScope s_figures_of) .none kV4 dc4 pm4 an4 cd4 ct4), sl4⟩)
    (c4 : PySem.W.codeIn K cd4 "figures_of" = true)
    (k4 : PySem.W.keepIn K (.ref f4) = true)
    (a5 : PySem.W.nsIn K mainGlobals "figures" = some (some (.ref f5)))
    (l5 : K.lookup f5 = some ⟨oc5, od5, .func (PySem.W.fnOf "figures" "figures" (defArgs s_figures) (defBody s_figures) (defScope s_figures) .none kV5 dc5 pm5 an5 cd5 ct5), sl5⟩)
    (c5 : PySem.W.codeIn K cd5 "figures" = true)
    (k5 : PySem.W.keepIn K (.ref f5) = true)
    (a6 : PySem.W.nsIn K mainGlobals "table_of" = some (some (.ref f6)))
    (l6 : K.lookup f6 = some ⟨oc6, od6, .func (PySem.W.fnOf "table_of" "table_of" (defArgs s_table_of) (defBody s_table_of) (defScope s_table_of) .none kV6 dc6 pm6 an6 cd6 ct6), sl6⟩)
    (c6 : PySem.W.codeIn K cd6 "table_of" = true)
    (k6 : PySem.W.keepIn K (.ref f6) = true)
    (a7 : PySem.W.nsIn K mainGlobals "turned" = some (some (.ref f7)))
    (l7 : K.lookup f7 = some ⟨oc7, od7, .func (PySem.W.fnOf "turned" "turned" (defArgs s_turned) (defBody s_turned) (defScope s_turned) .none kV7 dc7 pm7 an7 cd7 ct7), sl7⟩)
    (c7 : PySem.W.codeIn K cd7 "turned" = true)
    (k7 : PySem.W.keepIn K (.ref f7) = true)
    (a8 : PySem.W.nsIn K mainGlobals "product_of" = some (some (.ref f8)))
    (l8 : K.lookup f8 = some ⟨oc8, od8, .func (PySem.W.fnOf "product_of" "product_of" (defArgs s_product_of) (defBody s_product_of) (defScope s_product_of) .none kV8 dc8 pm8 an8 cd8 ct8), sl8⟩)
    (c8 : PySem.W.codeIn K cd8 "product_of" = true)
    (k8 : PySem.W.keepIn K (.ref f8) = true)
    (a9 : PySem.W.nsIn K mainGlobals "product" = some (some (.ref f9)))
    (l9 : K.lookup f9 = some ⟨oc9, od9, .func (PySem.W.fnOf "product" "product" (defArgs s_product) (defBody s_product) (defScope s_product) .none kV9 dc9 pm9 an9 cd9 ct9), sl9⟩)
    (c9 : PySem.W.codeIn K cd9 "product" = true)
    (k9 : PySem.W.keepIn K (.ref f9) = true)
    (a10 : PySem.W.nsIn K mainGlobals "ways_of" = some (some (.ref f10)))
    (l10 : K.lookup f10 = some ⟨oc10, od10, .func (PySem.W.fnOf "ways_of" "ways_of" (defArgs s_ways_of) (defBody s_ways_of) (defScope s_ways_of) .none kV10 dc10 pm10 an10 cd10 ct10), sl10⟩)
    (c10 : PySem.W.codeIn K cd10 "ways_of" = true)
    (k10 : PySem.W.keepIn K (.ref f10) = true)
    (a11 : PySem.W.nsIn K mainGlobals "figure_at" = some (some (.ref f11)))
    (l11 : K.lookup f11 = some ⟨oc11, od11, .func (PySem.W.fnOf "figure_at" "figure_at" (defArgs s_figure_at) (defBody s_figure_at) (defScope s_figure_at) .none kV11 dc11 pm11 an11 cd11 ct11), sl11⟩)
    (c11 : PySem.W.codeIn K cd11 "figure_at" = true)
    (k11 : PySem.W.keepIn K (.ref f11) = true)
    (a12 : PySem.W.nsIn K mainGlobals "check_all" = some (some (.ref f12)))
    (l12 : K.lookup f12 = some ⟨oc12, od12, .func (PySem.W.fnOf "check_all" "check_all" (defArgs s_check_all) (defBody s_check_all) (defScope s_check_all) .none kV12 dc12 pm12 an12 cd12 ct12), sl12⟩)
    (c12 : PySem.W.codeIn K cd12 "check_all" = true)
    (k12 : PySem.W.keepIn K (.ref f12) = true)
    (a13 : PySem.W.nsIn K mainGlobals "ways" = some (some (.ref f13)))
    (l13 : K.lookup f13 = some ⟨oc13, od13, .func (PySem.W.fnOf "ways" "ways" (defArgs s_ways) (defBody s_ways) (defScope s_ways) .none kV13 dc13 pm13 an13 cd13 ct13), sl13⟩)
    (c13 : PySem.W.codeIn K cd13 "ways" = true)
    (k13 : PySem.W.keepIn K (.ref f13) = true)
    (a14 : PySem.W.nsIn K mainGlobals "bound_at" = some (some (.ref f14)))
    (l14 : K.lookup f14 = some ⟨oc14, od14, .func (PySem.W.fnOf "bound_at" "bound_at" (defArgs s_bound_at) (defBody s_bound_at) (defScope s_bound_at) .none kV14 dc14 pm14 an14 cd14 ct14), sl14⟩)
    (c14 : PySem.W.codeIn K cd14 "bound_at" = true)
    (k14 : PySem.W.keepIn K (.ref f14) = true)
    (a15 : PySem.W.nsIn K mainGlobals "told" = some (some (.ref f15)))
    (l15 : K.lookup f15 = some ⟨oc15, od15, .func (PySem.W.fnOf "told" "told" (defArgs s_told) (defBody s_told) (defScope s_told) .none kV15 dc15 pm15 an15 cd15 ct15), sl15⟩)
    (c15 : PySem.W.codeIn K cd15 "told" = true)
    (k15 : PySem.W.keepIn K (.ref f15) = true)
    (a16 : PySem.W.nsIn K mainGlobals "free_of" = some (some (.ref f16)))
    (l16 : K.lookup f16 = some ⟨oc16, od16, .func (PySem.W.fnOf "free_of" "free_of" (defArgs s_free_of) (defBody s_free_of) (defScope s_free_of) .none kV16 dc16 pm16 an16 cd16 ct16), sl16⟩)
    (c16 : PySem.W.codeIn K cd16 "free_of" = true)
    (k16 : PySem.W.keepIn K (.ref f16) = true)
    (a17 : PySem.W.nsIn K mainGlobals "free" = some (some (.ref f17)))
    (l17 : K.lookup f17 = some ⟨oc17, od17, .func (PySem.W.fnOf "free" "free" (defArgs s_free) (defBody s_free) (defScope s_free) .none kV17 dc17 pm17 an17 cd17 ct17), sl17⟩)
    (c17 : PySem.W.codeIn K cd17 "free" = true)
    (k17 : PySem.W.keepIn K (.ref f17) = true)
    (a18 : PySem.W.nsIn K mainGlobals "most" = some (some (.ref f18)))
    (l18 : K.lookup f18 = some ⟨oc18, od18, .func (PySem.W.fnOf "most" "most" (defArgs s_most) (defBody s_most) (defScope s_most) .none kV18 dc18 pm18 an18 cd18 ct18), sl18⟩)
    (c18 : PySem.W.codeIn K cd18 "most" = true)
    (k18 : PySem.W.keepIn K (.ref f18) = true)
    (a19 : PySem.W.nsIn K mainGlobals "place_by" = some (some (.ref f19)))
    (l19 : K.lookup f19 = some ⟨oc19, od19, .func (PySem.W.fnOf "place_by" "place_by" (defArgs s_place_by) (defBody s_place_by) (defScope s_place_by) .none kV19 dc19 pm19 an19 cd19 ct19), sl19⟩)
    (c19 : PySem.W.codeIn K cd19 "place_by" = true)
    (k19 : PySem.W.keepIn K (.ref f19) = true)
    (a20 : PySem.W.nsIn K mainGlobals "number_of" = some (some (.ref f20)))
    (l20 : K.lookup f20 = some ⟨oc20, od20, .func (PySem.W.fnOf "number_of" "number_of" (defArgs s_number_of) (defBody s_number_of) (defScope s_number_of) .none kV20 dc20 pm20 an20 cd20 ct20), sl20⟩)
    (c20 : PySem.W.codeIn K cd20 "number_of" = true)
    (k20 : PySem.W.keepIn K (.ref f20) = true)
    (a21 : PySem.W.nsIn K mainGlobals "_law_cell_at" = some (some (.ref f21)))
    (l21 : K.lookup f21 = some ⟨oc21, od21, .func (PySem.W.fnOf "_law_cell_at" "_law_cell_at" (defArgs s__law_cell_at) (defBody s__law_cell_at) (defScope s__law_cell_at) .none kV21 dc21 pm21 an21 cd21 ct21), sl21⟩)
    (c21 : PySem.W.codeIn K cd21 "_law_cell_at" = true)
    (k21 : PySem.W.keepIn K (.ref f21) = true)
    (a22 : PySem.W.nsIn K mainGlobals "_law_draw" = some (some (.ref f22)))
    (l22 : K.lookup f22 = some ⟨oc22, od22, .func (PySem.W.fnOf "_law_draw" "_law_draw" (defArgs s__law_draw) (defBody s__law_draw) (defScope s__law_draw) .none kV22 dc22 pm22 an22 cd22 ct22), sl22⟩)
    (c22 : PySem.W.codeIn K cd22 "_law_draw" = true)
    (k22 : PySem.W.keepIn K (.ref f22) = true)
    (a23 : PySem.W.nsIn K mainGlobals "_law_value" = some (some (.ref f23)))
    (l23 : K.lookup f23 = some ⟨oc23, od23, .func (PySem.W.fnOf "_law_value" "_law_value" (defArgs s__law_value) (defBody s__law_value) (defScope s__law_value) .none kV23 dc23 pm23 an23 cd23 ct23), sl23⟩)
    (c23 : PySem.W.codeIn K cd23 "_law_value" = true)
    (k23 : PySem.W.keepIn K (.ref f23) = true)
    (a24 : PySem.W.nsIn K mainGlobals "_law_figures" = some (some (.ref f24)))
    (l24 : K.lookup f24 = some ⟨oc24, od24, .func (PySem.W.fnOf "_law_figures" "_law_figures" (defArgs s__law_figures) (defBody s__law_figures) (defScope s__law_figures) .none kV24 dc24 pm24 an24 cd24 ct24), sl24⟩)
    (c24 : PySem.W.codeIn K cd24 "_law_figures" = true)
    (k24 : PySem.W.keepIn K (.ref f24) = true)
    (a25 : PySem.W.nsIn K mainGlobals "_law_worth" = some (some (.ref f25)))
    (l25 : K.lookup f25 = some ⟨oc25, od25, .func (PySem.W.fnOf "_law_worth" "_law_worth" (defArgs s__law_worth) (defBody s__law_worth) (defScope s__law_worth) .none kV25 dc25 pm25 an25 cd25 ct25), sl25⟩)
    (c25 : PySem.W.codeIn K cd25 "_law_worth" = true)
    (k25 : PySem.W.keepIn K (.ref f25) = true)
    (a26 : PySem.W.nsIn K mainGlobals "_law_pair" = some (some (.ref f26)))
    (l26 : K.lookup f26 = some ⟨oc26, od26, .func (PySem.W.fnOf "_law_pair" "_law_pair" (defArgs s__law_pair) (defBody s__law_pair) (defScope s__law_pair) .none kV26 dc26 pm26 an26 cd26 ct26), sl26⟩)
    (c26 : PySem.W.codeIn K cd26 "_law_pair" = true)
    (k26 : PySem.W.keepIn K (.ref f26) = true)
    (a27 : PySem.W.nsIn K mainGlobals "_law_kinds" = some (some (.ref f27)))
    (l27 : K.lookup f27 = some ⟨oc27, od27, .func (PySem.W.fnOf "_law_kinds" "_law_kinds" (defArgs s__law_kinds) (defBody s__law_kinds) (defScope s__law_kinds) .none kV27 dc27 pm27 an27 cd27 ct27), sl27⟩)
    (c27 : PySem.W.codeIn K cd27 "_law_kinds" = true)
    (k27 : PySem.W.keepIn K (.ref f27) = true)
    (a28 : PySem.W.nsIn K mainGlobals "_law_with_prime" = some (some (.ref f28)))
    (l28 : K.lookup f28 = some ⟨oc28, od28, .func (PySem.W.fnOf "_law_with_prime" "_law_with_prime" (defArgs s__law_with_prime) (defBody s__law_with_prime) (defScope s__law_with_prime) .none kV28 dc28 pm28 an28 cd28 ct28), sl28⟩)
    (c28 : PySem.W.codeIn K cd28 "_law_with_prime" = true)
    (k28 : PySem.W.keepIn K (.ref f28) = true)
    (a29 : PySem.W.nsIn K mainGlobals "_law_with_many" = some (some (.ref f29)))
    (l29 : K.lookup f29 = some ⟨oc29, od29, .func (PySem.W.fnOf "_law_with_many" "_law_with_many" (defArgs s__law_with_many) (defBody s__law_with_many) (defScope s__law_with_many) .none kV29 dc29 pm29 an29 cd29 ct29), sl29⟩)
    (c29 : PySem.W.codeIn K cd29 "_law_with_many" = true)
    (k29 : PySem.W.keepIn K (.ref f29) = true)
    (a30 : PySem.W.nsIn K mainGlobals "_law_with_some" = some (some (.ref f30)))
    (l30 : K.lookup f30 = some ⟨oc30, od30, .func (PySem.W.fnOf "_law_with_some" "_law_with_some" (defArgs s__law_with_some) (defBody s__law_with_some) (defScope s__law_with_some) .none kV30 dc30 pm30 an30 cd30 ct30), sl30⟩)
    (c30 : PySem.W.codeIn K cd30 "_law_with_some" = true)
    (k30 : PySem.W.keepIn K (.ref f30) = true)
    (a31 : PySem.W.nsIn K mainGlobals "_law_with_number" = some (some (.ref f31)))
    (l31 : K.lookup f31 = some ⟨oc31, od31, .func (PySem.W.fnOf "_law_with_number" "_law_with_number" (defArgs s__law_with_number) (defBody s__law_with_number) (defScope s__law_with_number) .none kV31 dc31 pm31 an31 cd31 ct31), sl31⟩)
    (c31 : PySem.W.codeIn K cd31 "_law_with_number" = true)
    (k31 : PySem.W.keepIn K (.ref f31) = true)
    (a32 : PySem.W.nsIn K mainGlobals "_law_told" = some (some (.ref f32)))
    (l32 : K.lookup f32 = some ⟨oc32, od32, .func (PySem.W.fnOf "_law_told" "_law_told" (defArgs s__law_told) (defBody s__law_told) (defScope s__law_told) .none kV32 dc32 pm32 an32 cd32 ct32), sl32⟩)
    (c32 : PySem.W.codeIn K cd32 "_law_told" = true)
    (k32 : PySem.W.keepIn K (.ref f32) = true)
    (a33 : PySem.W.nsIn K mainGlobals "law" = some (some (.ref f33)))
    (l33 : K.lookup f33 = some ⟨oc33, od33, .func (PySem.W.fnOf "law" "law" (defArgs s_law) (defBody s_law) (defScope s_law) .none kV33 dc33 pm33 an33 cd33 ct33), sl33⟩)
    (c33 : PySem.W.codeIn K cd33 "law" = true)
    (k33 : PySem.W.keepIn K (.ref f33) = true)
    (gChooseError : PySem.W.nsIn K mainGlobals "ChooseError" = some (some (.ref CChooseError)))
    (iChooseError : PySem.W.isClsIn K CChooseError = true)
    (yChooseError : PySem.W.typeIn K (.ref CChooseError) = some (.type "type"))
    (sChooseError : PySem.W.subIn K (.ref CChooseError) (.ref CChooseError) = some true)
    (gBadPrime : PySem.W.nsIn K mainGlobals "BadPrime" = some (some (.ref CBadPrime)))
    (iBadPrime : PySem.W.isClsIn K CBadPrime = true)
    (yBadPrime : PySem.W.typeIn K (.ref CBadPrime) = some (.type "type"))
    (sBadPrime : PySem.W.subIn K (.ref CBadPrime) (.ref CBadPrime) = some true)
    (gBadMany : PySem.W.nsIn K mainGlobals "BadMany" = some (some (.ref CBadMany)))
    (iBadMany : PySem.W.isClsIn K CBadMany = true)
    (yBadMany : PySem.W.typeIn K (.ref CBadMany) = some (.type "type"))
    (sBadMany : PySem.W.subIn K (.ref CBadMany) (.ref CBadMany) = some true)
    (gBadSome : PySem.W.nsIn K mainGlobals "BadSome" = some (some (.ref CBadSome)))
    (iBadSome : PySem.W.isClsIn K CBadSome = true)
    (yBadSome : PySem.W.typeIn K (.ref CBadSome) = some (.type "type"))
    (sBadSome : PySem.W.subIn K (.ref CBadSome) (.ref CBadSome) = some true)
    (gBadNumber : PySem.W.nsIn K mainGlobals "BadNumber" = some (some (.ref CBadNumber)))
    (iBadNumber : PySem.W.isClsIn K CBadNumber = true)
    (yBadNumber : PySem.W.typeIn K (.ref CBadNumber) = some (.type "type"))
    (sBadNumber : PySem.W.subIn K (.ref CBadNumber) (.ref CBadNumber) = some true)
    (gNotFree : PySem.W.nsIn K mainGlobals "NotFree" = some (some (.ref CNotFree)))
    (iNotFree : PySem.W.isClsIn K CNotFree = true)
    (yNotFree : PySem.W.typeIn K (.ref CNotFree) = some (.type "type"))
    (sNotFree : PySem.W.subIn K (.ref CNotFree) (.ref CNotFree) = some true)
    (bChooseError : PySem.W.subIn K (.ref CChooseError) (.type "BaseException") = some true)
    (hChooseError : PySem.W.hasDictIn K CChooseError = true)
    (hn0 : PySem.W.specialIn K (.builtin "object.__class__") "__get__" = some (some (.builtin "getset_descriptor.__get__")))
    (htk0 : PySem.W.takesIn K (.builtin "object.__class__") = some true)
    (ex_BadPrime : PySem.W.excIn K CBadPrime bmV "ValueError.__new__" = true)
    (keBadPrime : PySem.W.keepIn K (.ref CBadPrime) = true)
    (beBadPrime : PySem.W.subIn K (.ref CBadPrime) (.type "BaseException") = some true)
    (gaBadPrime : PySem.W.findIn K (.ref CBadPrime) "__getattribute__" = some (some (.builtin "BaseException.__getattribute__")))
    (gtBadPrime : PySem.W.findIn K (.ref CBadPrime) "__getattr__" = some none)
    (hdBadPrime : PySem.W.hasDictIn K CBadPrime = true)
    (hcBadPrime : PySem.W.findIn K (.ref CBadPrime) "__class__" = some (some (.builtin "object.__class__")))
    (hmBadPrime : PySem.W.mroIn K CBadPrime (.type "object") = some true)
    (m0BadPrime : PySem.W.subIn K (.ref CBadPrime) (.ref CChooseError) = some true)
    (qBadPrimeBadPrime : PySem.W.subIn K (.ref CBadPrime) (.ref CBadPrime) = some true)
    (qBadPrimeBadMany : PySem.W.subIn K (.ref CBadPrime) (.ref CBadMany) = some false)
    (qBadPrimeBadSome : PySem.W.subIn K (.ref CBadPrime) (.ref CBadSome) = some false)
    (qBadPrimeBadNumber : PySem.W.subIn K (.ref CBadPrime) (.ref CBadNumber) = some false)
    (qBadPrimeNotFree : PySem.W.subIn K (.ref CBadPrime) (.ref CNotFree) = some false)
    (uBadPrime : PySem.W.subIn K (.ref CBadPrime) (.type "ValueError") = some true)
    (ex_BadMany : PySem.W.excIn K CBadMany bmV "ValueError.__new__" = true)
    (keBadMany : PySem.W.keepIn K (.ref CBadMany) = true)
    (beBadMany : PySem.W.subIn K (.ref CBadMany) (.type "BaseException") = some true)
    (gaBadMany : PySem.W.findIn K (.ref CBadMany) "__getattribute__" = some (some (.builtin "BaseException.__getattribute__")))
    (gtBadMany : PySem.W.findIn K (.ref CBadMany) "__getattr__" = some none)
    (hdBadMany : PySem.W.hasDictIn K CBadMany = true)
    (hcBadMany : PySem.W.findIn K (.ref CBadMany) "__class__" = some (some (.builtin "object.__class__")))
    (hmBadMany : PySem.W.mroIn K CBadMany (.type "object") = some true)
    (m0BadMany : PySem.W.subIn K (.ref CBadMany) (.ref CChooseError) = some true)
    (qBadManyBadPrime : PySem.W.subIn K (.ref CBadMany) (.ref CBadPrime) = some false)
    (qBadManyBadMany : PySem.W.subIn K (.ref CBadMany) (.ref CBadMany) = some true)
    (qBadManyBadSome : PySem.W.subIn K (.ref CBadMany) (.ref CBadSome) = some false)
    (qBadManyBadNumber : PySem.W.subIn K (.ref CBadMany) (.ref CBadNumber) = some false)
    (qBadManyNotFree : PySem.W.subIn K (.ref CBadMany) (.ref CNotFree) = some false)
    (uBadMany : PySem.W.subIn K (.ref CBadMany) (.type "ValueError") = some true)
    (ex_BadSome : PySem.W.excIn K CBadSome bmV "ValueError.__new__" = true)
    (keBadSome : PySem.W.keepIn K (.ref CBadSome) = true)
    (beBadSome : PySem.W.subIn K (.ref CBadSome) (.type "BaseException") = some true)
    (gaBadSome : PySem.W.findIn K (.ref CBadSome) "__getattribute__" = some (some (.builtin "BaseException.__getattribute__")))
    (gtBadSome : PySem.W.findIn K (.ref CBadSome) "__getattr__" = some none)
    (hdBadSome : PySem.W.hasDictIn K CBadSome = true)
    (hcBadSome : PySem.W.findIn K (.ref CBadSome) "__class__" = some (some (.builtin "object.__class__")))
    (hmBadSome : PySem.W.mroIn K CBadSome (.type "object") = some true)
    (m0BadSome : PySem.W.subIn K (.ref CBadSome) (.ref CChooseError) = some true)
    (qBadSomeBadPrime : PySem.W.subIn K (.ref CBadSome) (.ref CBadPrime) = some false)
    (qBadSomeBadMany : PySem.W.subIn K (.ref CBadSome) (.ref CBadMany) = some false)
    (qBadSomeBadSome : PySem.W.subIn K (.ref CBadSome) (.ref CBadSome) = some true)
    (qBadSomeBadNumber : PySem.W.subIn K (.ref CBadSome) (.ref CBadNumber) = some false)
    (qBadSomeNotFree : PySem.W.subIn K (.ref CBadSome) (.ref CNotFree) = some false)
    (uBadSome : PySem.W.subIn K (.ref CBadSome) (.type "ValueError") = some true)
    (ex_BadNumber : PySem.W.excIn K CBadNumber bmV "ValueError.__new__" = true)
    (keBadNumber : PySem.W.keepIn K (.ref CBadNumber) = true)
    (beBadNumber : PySem.W.subIn K (.ref CBadNumber) (.type "BaseException") = some true)
    (gaBadNumber : PySem.W.findIn K (.ref CBadNumber) "__getattribute__" = some (some (.builtin "BaseException.__getattribute__")))
    (gtBadNumber : PySem.W.findIn K (.ref CBadNumber) "__getattr__" = some none)
    (hdBadNumber : PySem.W.hasDictIn K CBadNumber = true)
    (hcBadNumber : PySem.W.findIn K (.ref CBadNumber) "__class__" = some (some (.builtin "object.__class__")))
    (hmBadNumber : PySem.W.mroIn K CBadNumber (.type "object") = some true)
    (m0BadNumber : PySem.W.subIn K (.ref CBadNumber) (.ref CChooseError) = some true)
    (qBadNumberBadPrime : PySem.W.subIn K (.ref CBadNumber) (.ref CBadPrime) = some false)
    (qBadNumberBadMany : PySem.W.subIn K (.ref CBadNumber) (.ref CBadMany) = some false)
    (qBadNumberBadSome : PySem.W.subIn K (.ref CBadNumber) (.ref CBadSome) = some false)
    (qBadNumberBadNumber : PySem.W.subIn K (.ref CBadNumber) (.ref CBadNumber) = some true)
    (qBadNumberNotFree : PySem.W.subIn K (.ref CBadNumber) (.ref CNotFree) = some false)
    (uBadNumber : PySem.W.subIn K (.ref CBadNumber) (.type "ValueError") = some true)
    (ex_NotFree : PySem.W.excIn K CNotFree bmV "ValueError.__new__" = true)
    (keNotFree : PySem.W.keepIn K (.ref CNotFree) = true)
    (beNotFree : PySem.W.subIn K (.ref CNotFree) (.type "BaseException") = some true)
    (gaNotFree : PySem.W.findIn K (.ref CNotFree) "__getattribute__" = some (some (.builtin "BaseException.__getattribute__")))
    (gtNotFree : PySem.W.findIn K (.ref CNotFree) "__getattr__" = some none)
    (hdNotFree : PySem.W.hasDictIn K CNotFree = true)
    (hcNotFree : PySem.W.findIn K (.ref CNotFree) "__class__" = some (some (.builtin "object.__class__")))
    (hmNotFree : PySem.W.mroIn K CNotFree (.type "object") = some true)
    (m0NotFree : PySem.W.subIn K (.ref CNotFree) (.ref CChooseError) = some true)
    (qNotFreeBadPrime : PySem.W.subIn K (.ref CNotFree) (.ref CBadPrime) = some false)
    (qNotFreeBadMany : PySem.W.subIn K (.ref CNotFree) (.ref CBadMany) = some false)
    (qNotFreeBadSome : PySem.W.subIn K (.ref CNotFree) (.ref CBadSome) = some false)
    (qNotFreeBadNumber : PySem.W.subIn K (.ref CNotFree) (.ref CBadNumber) = some false)
    (qNotFreeNotFree : PySem.W.subIn K (.ref CNotFree) (.ref CNotFree) = some true)
    (uNotFree : PySem.W.subIn K (.ref CNotFree) (.type "ValueError") = some true)
    (zall : PySem.W.nsIn K mainGlobals "all" = some none)
    (zany : PySem.W.nsIn K mainGlobals "any" = some none)
    (zenumerate : PySem.W.nsIn K mainGlobals "enumerate" = some none)
    (zisinstance : PySem.W.nsIn K mainGlobals "isinstance" = some none)
    (zlen : PySem.W.nsIn K mainGlobals "len" = some none)
    (zrange : PySem.W.nsIn K mainGlobals "range" = some none)
    (zsum : PySem.W.nsIn K mainGlobals "sum" = some none)
    (zValueError : PySem.W.nsIn K mainGlobals "ValueError" = some none)
    (zbool : PySem.W.nsIn K mainGlobals "bool" = some none)
    (zint : PySem.W.nsIn K mainGlobals "int" = some none)
    (zGREATEST : PySem.W.nsIn K mainGlobals "GREATEST" = some (some (.int 997 tGREATEST)))
    : ∃ fd : FuncData, (∀ (s : Shared) (v : Value), BindsTo s fd ⟨[v], []⟩ [("_law_script", v)]) ∧ ∀ base : Heap, K.In base → base.Ns mainGlobals mg → FnOk l.prog w K mg base CX0 7 fa fd ["_law_script"] (Cc.sp_law K) := by
  have e := hfa.symm.trans (PySem.W.mg_of X G a33)
  cases e
  have D_is_whole : Df K mg "is_whole" ps_is_whole s_is_whole := ⟨f1, _, fun_mk (st := s_is_whole) l1 c1 k1, PySem.W.mg_of X G a1, (fun_mk (st := s_is_whole) l1 c1 k1).binds (ps := ps_is_whole) fun _ _ _ _ _ _ us hl => match us, hl with | [_], _ => rfl⟩
  have D_check_prime : Df K mg "check_prime" ps_check_prime s_check_prime := ⟨f2, _, fun_mk (st := s_check_prime) l2 c2 k2, PySem.W.mg_of X G a2, (fun_mk (st := s_check_prime) l2 c2 k2).binds (ps := ps_check_prime) fun _ _ _ _ _ _ us hl => match us, hl with | [_], _ => rfl⟩
  have D_check_many : Df K mg "check_many" ps_check_many s_check_many := ⟨f3, _, fun_mk (st := s_check_many) l3 c3 k3, PySem.W.mg_of X G a3, (fun_mk (st := s_check_many) l3 c3 k3).binds (ps := ps_check_many) fun _ _ _ _ _ _ us hl => match us, hl with | [_], _ => rfl⟩
  have D_figures_of : Df K mg "figures_of" ps_figures_of s_figures_of := ⟨f4, _, fun_mk (st := s_figures_of) l4 c4 k4, PySem.W.mg_of X G a4, (fun_mk (st := s_figures_of) l4 c4 k4).binds (ps := ps_figures_of) fun _ _ _ _ _ _ us hl => match us, hl with | [_, _], _ => rfl⟩
  have D_figures : Df K mg "figures" ps_figures s_figures := ⟨f5, _, fun_mk (st := s_figures) l5 c5 k5, PySem.W.mg_of X G a5, (fun_mk (st := s_figures) l5 c5 k5).binds (ps := ps_figures) fun _ _ _ _ _ _ us hl => match us, hl with | [_, _], _ => rfl⟩
  have D_table_of : Df K mg "table_of" ps_table_of s_table_of := ⟨f6, _, fun_mk (st := s_table_of) l6 c6 k6, PySem.W.mg_of X G a6, (fun_mk (st := s_table_of) l6 c6 k6).binds (ps := ps_table_of) fun _ _ _ _ _ _ us hl => match us, hl with | [_], _ => rfl⟩
  have D_turned : Df K mg "turned" ps_turned s_turned := ⟨f7, _, fun_mk (st := s_turned) l7 c7 k7, PySem.W.mg_of X G a7, (fun_mk (st := s_turned) l7 c7 k7).binds (ps := ps_turned) fun _ _ _ _ _ _ us hl => match us, hl with | [_, _], _ => rfl⟩
  have D_product_of : Df K mg "product_of" ps_product_of s_product_of := ⟨f8, _, fun_mk (st := s_product_of) l8 c8 k8, PySem.W.mg_of X G a8, (fun_mk (st := s_product_of) l8 c8 k8).binds (ps := ps_product_of) fun _ _ _ _ _ _ us hl => match us, hl with | [_, _, _], _ => rfl⟩
  have D_product : Df K mg "product" ps_product s_product := ⟨f9, _, fun_mk (st := s_product) l9 c9 k9, PySem.W.mg_of X G a9, (fun_mk (st := s_product) l9 c9 k9).binds (ps := ps_product) fun _ _ _ _ _ _ us hl => match us, hl with | [_, _], _ => rfl⟩
  have D_ways_of : Df K mg "ways_of" ps_ways_of s_ways_of := ⟨f10, _, fun_mk (st := s_ways_of) l10 c10 k10, PySem.W.mg_of X G a10, (fun_mk (st := s_ways_of) l10 c10 k10).binds (ps := ps_ways_of) fun _ _ _ _ _ _ us hl => match us, hl with | [_, _, _], _ => rfl⟩
  have D_figure_at : Df K mg "figure_at" ps_figure_at s_figure_at := ⟨f11, _, fun_mk (st := s_figure_at) l11 c11 k11, PySem.W.mg_of X G a11, (fun_mk (st := s_figure_at) l11 c11 k11).binds (ps := ps_figure_at) fun _ _ _ _ _ _ us hl => match us, hl with | [_, _], _ => rfl⟩
  have D_check_all : Df K mg "check_all" ps_check_all s_check_all := ⟨f12, _, fun_mk (st := s_check_all) l12 c12 k12, PySem.W.mg_of X G a12, (fun_mk (st := s_check_all) l12 c12 k12).binds (ps := ps_check_all) fun _ _ _ _ _ _ us hl => match us, hl with | [_, _, _], _ => rfl⟩
  have D_ways : Df K mg "ways" ps_ways s_ways := ⟨f13, _, fun_mk (st := s_ways) l13 c13 k13, PySem.W.mg_of X G a13, (fun_mk (st := s_ways) l13 c13 k13).binds (ps := ps_ways) fun _ _ _ _ _ _ us hl => match us, hl with | [_, _, _], _ => rfl⟩
  have D_bound_at : Df K mg "bound_at" ps_bound_at s_bound_at := ⟨f14, _, fun_mk (st := s_bound_at) l14 c14 k14, PySem.W.mg_of X G a14, (fun_mk (st := s_bound_at) l14 c14 k14).binds (ps := ps_bound_at) fun _ _ _ _ _ _ us hl => match us, hl with | [_, _, _], _ => rfl⟩
  have D_told : Df K mg "told" ps_told s_told := ⟨f15, _, fun_mk (st := s_told) l15 c15 k15, PySem.W.mg_of X G a15, (fun_mk (st := s_told) l15 c15 k15).binds (ps := ps_told) fun _ _ _ _ _ _ us hl => match us, hl with | [_, _, _], _ => rfl⟩
  have D_free_of : Df K mg "free_of" ps_free_of s_free_of := ⟨f16, _, fun_mk (st := s_free_of) l16 c16 k16, PySem.W.mg_of X G a16, (fun_mk (st := s_free_of) l16 c16 k16).binds (ps := ps_free_of) fun _ _ _ _ _ _ us hl => match us, hl with | [_, _], _ => rfl⟩
  have D_free : Df K mg "free" ps_free s_free := ⟨f17, _, fun_mk (st := s_free) l17 c17 k17, PySem.W.mg_of X G a17, (fun_mk (st := s_free) l17 c17 k17).binds (ps := ps_free) fun _ _ _ _ _ _ us hl => match us, hl with | [_, _], _ => rfl⟩
  have D_most : Df K mg "most" ps_most s_most := ⟨f18, _, fun_mk (st := s_most) l18 c18 k18, PySem.W.mg_of X G a18, (fun_mk (st := s_most) l18 c18 k18).binds (ps := ps_most) fun _ _ _ _ _ _ us hl => match us, hl with | [_, _], _ => rfl⟩
  have D_place_by : Df K mg "place_by" ps_place_by s_place_by := ⟨f19, _, fun_mk (st := s_place_by) l19 c19 k19, PySem.W.mg_of X G a19, (fun_mk (st := s_place_by) l19 c19 k19).binds (ps := ps_place_by) fun _ _ _ _ _ _ us hl => match us, hl with | [_, _, _], _ => rfl⟩
  have D_number_of : Df K mg "number_of" ps_number_of s_number_of := ⟨f20, _, fun_mk (st := s_number_of) l20 c20 k20, PySem.W.mg_of X G a20, (fun_mk (st := s_number_of) l20 c20 k20).binds (ps := ps_number_of) fun _ _ _ _ _ _ us hl => match us, hl with | [_, _, _], _ => rfl⟩
  have D__law_cell_at : Df K mg "_law_cell_at" ps__law_cell_at s__law_cell_at := ⟨f21, _, fun_mk (st := s__law_cell_at) l21 c21 k21, PySem.W.mg_of X G a21, (fun_mk (st := s__law_cell_at) l21 c21 k21).binds (ps := ps__law_cell_at) fun _ _ _ _ _ _ us hl => match us, hl with | [_, _], _ => rfl⟩
  have D__law_draw : Df K mg "_law_draw" ps__law_draw s__law_draw := ⟨f22, _, fun_mk (st := s__law_draw) l22 c22 k22, PySem.W.mg_of X G a22, (fun_mk (st := s__law_draw) l22 c22 k22).binds (ps := ps__law_draw) fun _ _ _ _ _ _ us hl => match us, hl with | [_, _, _], _ => rfl⟩
  have D__law_value : Df K mg "_law_value" ps__law_value s__law_value := ⟨f23, _, fun_mk (st := s__law_value) l23 c23 k23, PySem.W.mg_of X G a23, (fun_mk (st := s__law_value) l23 c23 k23).binds (ps := ps__law_value) fun _ _ _ _ _ _ us hl => match us, hl with | [_, _, _], _ => rfl⟩
  have D__law_figures : Df K mg "_law_figures" ps__law_figures s__law_figures := ⟨f24, _, fun_mk (st := s__law_figures) l24 c24 k24, PySem.W.mg_of X G a24, (fun_mk (st := s__law_figures) l24 c24 k24).binds (ps := ps__law_figures) fun _ _ _ _ _ _ us hl => match us, hl with | [_, _], _ => rfl⟩
  have D__law_worth : Df K mg "_law_worth" ps__law_worth s__law_worth := ⟨f25, _, fun_mk (st := s__law_worth) l25 c25 k25, PySem.W.mg_of X G a25, (fun_mk (st := s__law_worth) l25 c25 k25).binds (ps := ps__law_worth) fun _ _ _ _ _ _ us hl => match us, hl with | [_, _], _ => rfl⟩
  have D__law_pair : Df K mg "_law_pair" ps__law_pair s__law_pair := ⟨f26, _, fun_mk (st := s__law_pair) l26 c26 k26, PySem.W.mg_of X G a26, (fun_mk (st := s__law_pair) l26 c26 k26).binds (ps := ps__law_pair) fun _ _ _ _ _ _ us hl => match us, hl with | [_, _, _], _ => rfl⟩
  have D__law_kinds : Df K mg "_law_kinds" ps__law_kinds s__law_kinds := ⟨f27, _, fun_mk (st := s__law_kinds) l27 c27 k27, PySem.W.mg_of X G a27, (fun_mk (st := s__law_kinds) l27 c27 k27).binds (ps := ps__law_kinds) fun _ _ _ _ _ _ us hl => match us, hl with | [_], _ => rfl⟩
  have D__law_with_prime : Df K mg "_law_with_prime" ps__law_with_prime s__law_with_prime := ⟨f28, _, fun_mk (st := s__law_with_prime) l28 c28 k28, PySem.W.mg_of X G a28, (fun_mk (st := s__law_with_prime) l28 c28 k28).binds (ps := ps__law_with_prime) fun _ _ _ _ _ _ us hl => match us, hl with | [_, _], _ => rfl⟩
  have D__law_with_many : Df K mg "_law_with_many" ps__law_with_many s__law_with_many := ⟨f29, _, fun_mk (st := s__law_with_many) l29 c29 k29, PySem.W.mg_of X G a29, (fun_mk (st := s__law_with_many) l29 c29 k29).binds (ps := ps__law_with_many) fun _ _ _ _ _ _ us hl => match us, hl with | [_, _], _ => rfl⟩
  have D__law_with_some : Df K mg "_law_with_some" ps__law_with_some s__law_with_some := ⟨f30, _, fun_mk (st := s__law_with_some) l30 c30 k30, PySem.W.mg_of X G a30, (fun_mk (st := s__law_with_some) l30 c30 k30).binds (ps := ps__law_with_some) fun _ _ _ _ _ _ us hl => match us, hl with | [_, _], _ => rfl⟩
  have D__law_with_number : Df K mg "_law_with_number" ps__law_with_number s__law_with_number := ⟨f31, _, fun_mk (st := s__law_with_number) l31 c31 k31, PySem.W.mg_of X G a31, (fun_mk (st := s__law_with_number) l31 c31 k31).binds (ps := ps__law_with_number) fun _ _ _ _ _ _ us hl => match us, hl with | [_, _], _ => rfl⟩
  have D__law_told : Df K mg "_law_told" ps__law_told s__law_told := ⟨f32, _, fun_mk (st := s__law_told) l32 c32 k32, PySem.W.mg_of X G a32, (fun_mk (st := s__law_told) l32 c32 k32).binds (ps := ps__law_told) fun _ _ _ _ _ _ us hl => match us, hl with | [_, _, _], _ => rfl⟩
  have G_x : Gx mg CChooseError CBadPrime CBadMany CBadSome CBadNumber CNotFree := ⟨PySem.W.mg_of X G gChooseError, PySem.W.mg_of X G gBadPrime, PySem.W.mg_of X G gBadMany, PySem.W.mg_of X G gBadSome, PySem.W.mg_of X G gBadNumber, PySem.W.mg_of X G gNotFree⟩
  have X_BadPrime : XCls K mg CBadPrime "BadPrime" := ⟨PySem.W.mg_of X G gBadPrime, ex_BadPrime, keBadPrime, beBadPrime, yBadPrime⟩
  have KD_BadPrime : Kd K CChooseError CBadPrime CBadMany CBadSome CBadNumber CNotFree CBadPrime true false false false false := ⟨⟨gaBadPrime, gtBadPrime, beBadPrime, hdBadPrime, hcBadPrime, hn0, htk0, hmBadPrime⟩, PySem.W.exm_ref bChooseError hChooseError yChooseError m0BadPrime, kit_cls qBadPrimeBadPrime sBadPrime iBadPrime yBadPrime, kit_cls qBadPrimeBadMany sBadMany iBadMany yBadMany, kit_cls qBadPrimeBadSome sBadSome iBadSome yBadSome, kit_cls qBadPrimeBadNumber sBadNumber iBadNumber yBadNumber, kit_cls qBadPrimeNotFree sNotFree iNotFree yNotFree⟩
  have KV_BadPrime := KdV.mk KD_BadPrime (kit_val uBadPrime)
  have X_BadMany : XCls K mg CBadMany "BadMany" := ⟨PySem.W.mg_of X G gBadMany, ex_BadMany, keBadMany, beBadMany, yBadMany⟩
  have KD_BadMany : Kd K CChooseError CBadPrime CBadMany CBadSome CBadNumber CNotFree CBadMany false true false false false := ⟨⟨gaBadMany, gtBadMany, beBadMany, hdBadMany, hcBadMany, hn0, htk0, hmBadMany⟩, PySem.W.exm_ref bChooseError hChooseError yChooseError m0BadMany, kit_cls qBadManyBadPrime sBadPrime iBadPrime yBadPrime, kit_cls qBadManyBadMany sBadMany iBadMany yBadMany, kit_cls qBadManyBadSome sBadSome iBadSome yBadSome, kit_cls qBadManyBadNumber sBadNumber iBadNumber yBadNumber, kit_cls qBadManyNotFree sNotFree iNotFree yNotFree⟩
  have KV_BadMany := KdV.mk KD_BadMany (kit_val uBadMany)
  have X_BadSome : XCls K mg CBadSome "BadSome" := ⟨PySem.W.mg_of X G gBadSome, ex_BadSome, keBadSome, beBadSome, yBadSome⟩
  have KD_BadSome : Kd K CChooseError CBadPrime CBadMany CBadSome CBadNumber CNotFree CBadSome false false true false false := ⟨⟨gaBadSome, gtBadSome, beBadSome, hdBadSome, hcBadSome, hn0, htk0, hmBadSome⟩, PySem.W.exm_ref bChooseError hChooseError yChooseError m0BadSome, kit_cls qBadSomeBadPrime sBadPrime iBadPrime yBadPrime, kit_cls qBadSomeBadMany sBadMany iBadMany yBadMany, kit_cls qBadSomeBadSome sBadSome iBadSome yBadSome, kit_cls qBadSomeBadNumber sBadNumber iBadNumber yBadNumber, kit_cls qBadSomeNotFree sNotFree iNotFree yNotFree⟩
  have KV_BadSome := KdV.mk KD_BadSome (kit_val uBadSome)
  have X_BadNumber : XCls K mg CBadNumber "BadNumber" := ⟨PySem.W.mg_of X G gBadNumber, ex_BadNumber, keBadNumber, beBadNumber, yBadNumber⟩
  have KD_BadNumber : Kd K CChooseError CBadPrime CBadMany CBadSome CBadNumber CNotFree CBadNumber false false false true false := ⟨⟨gaBadNumber, gtBadNumber, beBadNumber, hdBadNumber, hcBadNumber, hn0, htk0, hmBadNumber⟩, PySem.W.exm_ref bChooseError hChooseError yChooseError m0BadNumber, kit_cls qBadNumberBadPrime sBadPrime iBadPrime yBadPrime, kit_cls qBadNumberBadMany sBadMany iBadMany yBadMany, kit_cls qBadNumberBadSome sBadSome iBadSome yBadSome, kit_cls qBadNumberBadNumber sBadNumber iBadNumber yBadNumber, kit_cls qBadNumberNotFree sNotFree iNotFree yNotFree⟩
  have KV_BadNumber := KdV.mk KD_BadNumber (kit_val uBadNumber)
  have X_NotFree : XCls K mg CNotFree "NotFree" := ⟨PySem.W.mg_of X G gNotFree, ex_NotFree, keNotFree, beNotFree, yNotFree⟩
  have KD_NotFree : Kd K CChooseError CBadPrime CBadMany CBadSome CBadNumber CNotFree CNotFree false false false false true := ⟨⟨gaNotFree, gtNotFree, beNotFree, hdNotFree, hcNotFree, hn0, htk0, hmNotFree⟩, PySem.W.exm_ref bChooseError hChooseError yChooseError m0NotFree, kit_cls qNotFreeBadPrime sBadPrime iBadPrime yBadPrime, kit_cls qNotFreeBadMany sBadMany iBadMany yBadMany, kit_cls qNotFreeBadSome sBadSome iBadSome yBadSome, kit_cls qNotFreeBadNumber sBadNumber iBadNumber yBadNumber, kit_cls qNotFreeNotFree sNotFree iNotFree yNotFree⟩
  have KV_NotFree := KdV.mk KD_NotFree (kit_val uNotFree)
  have T : Bi mg := ⟨PySem.W.mg_none_of X G zall, PySem.W.mg_none_of X G zany, PySem.W.mg_none_of X G zenumerate, PySem.W.mg_none_of X G zisinstance, PySem.W.mg_none_of X G zlen, PySem.W.mg_none_of X G zrange, PySem.W.mg_none_of X G zsum, PySem.W.mg_none_of X G zValueError, PySem.W.mg_none_of X G zbool, PySem.W.mg_none_of X G zint, ⟨_, PySem.W.mg_of X G zGREATEST, ⟨_, rfl⟩⟩⟩
  refine ⟨PySem.W.fnOf "law" "law" (defArgs s_law) (defBody s_law) (defScope s_law) .none kV33 dc33 pm33 an33 cd33 ct33, fun s v => .of_eq rfl, fun base _ _ => ?_⟩
  have FL := fun_mk (st := s_law) l33 c33 k33
  have O_is_whole := ok_is_whole (P := l.prog) (w := w) (base := base) T D_is_whole
  have O_figures_of := ok_figures_of (P := l.prog) (w := w) (base := base) D_figures_of
  have O_table_of := ok_table_of (P := l.prog) (w := w) (base := base) T D_table_of
  have O_turned := ok_turned (P := l.prog) (w := w) (base := base) D_turned
  have O_product_of := ok_product_of T D_product_of O_figures_of
  have O_ways_of := ok_ways_of D_ways_of O_table_of O_product_of O_turned
  have O_figure_at := ok_figure_at (P := l.prog) (w := w) (base := base) T D_figure_at
  have O_bound_at := ok_bound_at T D_bound_at O_figures_of O_figure_at
  have O_check_prime := ok_xp T X_BadPrime D_check_prime O_is_whole
  have O_check_many := ok_xm X_BadMany D_check_many O_is_whole
  have O_check_all := ok_xa X_BadSome D_check_all O_is_whole O_check_prime O_check_many
  have O_free_of := ok_free_of D_free_of O_figures_of
  have O_product := ok_xproduct D_product O_check_prime O_check_many
  have O_most := ok_xmost D_most O_check_prime O_check_many
  have O_figures := ok_xfigures D_figures O_check_prime O_check_many O_figures_of
  have O_free := ok_xfree D_free O_check_prime O_check_many O_free_of
  have O_ways := ok_xways D_ways O_check_all O_ways_of
  have O_told := ok_xtold D_told O_check_all
  have O_number_of := ok_xnumber T X_NotFree D_number_of O_check_all O_bound_at
  have O_place_by := ok_xplace X_BadNumber D_place_by O_is_whole O_check_prime O_check_many O_free_of O_figures_of
  have O_wp := ok_wp D__law_with_prime O_figures O_product O_ways O_told O_free O_most O_place_by O_number_of
  have O_wm := ok_wm D__law_with_many O_figures O_product O_ways O_told O_free O_most O_place_by O_number_of
  have O_ws := ok_ws D__law_with_some O_ways O_told O_number_of
  have O_wn := ok_wn D__law_with_number O_place_by
  have O__law_cell_at := ok__law_cell_at (P := l.prog) (w := w) (base := base) T D__law_cell_at
  have O__law_draw := ok__law_draw (P := l.prog) (w := w) (base := base) D__law_draw
  have O__law_value := ok__law_value D__law_value O__law_draw
  have O__law_figures := ok__law_figures (P := l.prog) (w := w) (base := base) D__law_figures
  have O__law_worth := ok__law_worth (P := l.prog) (w := w) (base := base) D__law_worth
  have O__law_pair := ok__law_pair T D__law_pair O__law_cell_at O__law_draw O__law_value O__law_figures O__law_worth
  have O__law_kinds := ok__law_kinds (P := l.prog) (w := w) (base := base) T G_x D__law_kinds
  have O__law_told := ok__law_told G_x D__law_told O__law_kinds
  exact ok_law T FL KV_BadPrime KV_BadMany KV_BadSome KV_BadNumber KV_NotFree O__law_cell_at O__law_value O__law_pair O__law_told O_wp O_wm O_ws O_wn O_figures O_free O_ways O_place_by
end Cc
open PySem PySem.W PyProof.Rows
set_option maxHeartbeats 0 in
theorem PySem.Challenge.cw_choosecarry_k05_refused_holds : PySem.Challenge.rw_choosecarry_k05_refused.Holds := by
  w_on; o_law; k_head; (case hw => w_witness2)
  k_fill
  refine L2.walk_ofB (l := PySem.Challenge.rw_choosecarry_k05_refused) (n := 63) (k := 7) (x := "_law_script") (CX := fun _ => L2.CX0) (sp := fun w => Cc.sp_law _) rfl (by decide) rfl ⟨rfl, by decide, by decide⟩ (fun w h Y => PySem.W.kIn_of Y) ?F (fun _ _ a ns hl hb _ hS => ⟨a, ns, rfl, ⟨hS, hl, hb⟩, fun _ => rfl⟩) (fun _ _ _ _ _ h => h)
  case F =>
    intro w mg fa h KX G hmg
    refine' Cc.all_mk KX G hmg ?a1 ?l1 ?c1 ?k1 ?a2 ?l2 ?c2 ?k2 ?a3 ?l3 ?c3 ?k3 ?a4 ?l4 ?c4 ?k4 ?a5 ?l5 ?c5 ?k5 ?a6 ?l6 ?c6 ?k6 ?a7 ?l7 ?c7 ?k7 ?a8 ?l8 ?c8 ?k8 ?a9 ?l9 ?c9 ?k9 ?a10 ?l10 ?c10 ?k10 ?a11 ?l11 ?c11 ?k11 ?a12 ?l12 ?c12 ?k12 ?a13 ?l13 ?c13 ?k13 ?a14 ?l14 ?c14 ?k14 ?a15 ?l15 ?c15 ?k15 ?a16 ?l16 ?c16 ?k16 ?a17 ?l17 ?c17 ?k17 ?a18 ?l18 ?c18 ?k18 ?a19 ?l19 ?c19 ?k19 ?a20 ?l20 ?c20 ?k20 ?a21 ?l21 ?c21 ?k21 ?a22 ?l22 ?c22 ?k22 ?a23 ?l23 ?c23 ?k23 ?a24 ?l24 ?c24 ?k24 ?a25 ?l25 ?c25 ?k25 ?a26 ?l26 ?c26 ?k26 ?a27 ?l27 ?c27 ?k27 ?a28 ?l28 ?c28 ?k28 ?a29 ?l29 ?c29 ?k29 ?a30 ?l30 ?c30 ?k30 ?a31 ?l31 ?c31 ?k31 ?a32 ?l32 ?c32 ?k32 ?a33 ?l33 ?c33 ?k33 ?gChooseError ?iChooseError ?yChooseError ?sChooseError ?gBadPrime ?iBadPrime ?yBadPrime ?sBadPrime ?gBadMany ?iBadMany ?yBadMany ?sBadMany ?gBadSome ?iBadSome ?yBadSome ?sBadSome ?gBadNumber ?iBadNumber ?yBadNumber ?sBadNumber ?gNotFree ?iNotFree ?yNotFree ?sNotFree ?bChooseError ?hChooseError ?hn0 ?htk0 ?ex_BadPrime ?keBadPrime ?beBadPrime ?gaBadPrime ?gtBadPrime ?hdBadPrime ?hcBadPrime ?hmBadPrime ?m0BadPrime ?qBadPrimeBadPrime ?qBadPrimeBadMany ?qBadPrimeBadSome ?qBadPrimeBadNumber ?qBadPrimeNotFree ?uBadPrime ?ex_BadMany ?keBadMany ?beBadMany ?gaBadMany ?gtBadMany ?hdBadMany ?hcBadMany ?hmBadMany ?m0BadMany ?qBadManyBadPrime ?qBadManyBadMany ?qBadManyBadSome ?qBadManyBadNumber ?qBadManyNotFree ?uBadMany ?ex_BadSome ?keBadSome ?beBadSome ?gaBadSome ?gtBadSome ?hdBadSome ?hcBadSome ?hmBadSome ?m0BadSome ?qBadSomeBadPrime ?qBadSomeBadMany ?qBadSomeBadSome ?qBadSomeBadNumber ?qBadSomeNotFree ?uBadSome ?ex_BadNumber ?keBadNumber ?beBadNumber ?gaBadNumber ?gtBadNumber ?hdBadNumber ?hcBadNumber ?hmBadNumber ?m0BadNumber ?qBadNumberBadPrime ?qBadNumberBadMany ?qBadNumberBadSome ?qBadNumberBadNumber ?qBadNumberNotFree ?uBadNumber ?ex_NotFree ?keNotFree ?beNotFree ?gaNotFree ?gtNotFree ?hdNotFree ?hcNotFree ?hmNotFree ?m0NotFree ?qNotFreeBadPrime ?qNotFreeBadMany ?qNotFreeBadSome ?qNotFreeBadNumber ?qNotFreeNotFree ?uNotFree ?zall ?zany ?zenumerate ?zisinstance ?zlen ?zrange ?zsum ?zValueError ?zbool ?zint ?zGREATEST
    (case a1 => k_is); (case l1 => k_is); (case c1 => k_is); (case k1 => k_is); (case a2 => k_is); (case l2 => k_is)
    (case c2 => k_is); (case k2 => k_is); (case a3 => k_is); (case l3 => k_is); (case c3 => k_is); (case k3 => k_is)
    (case a4 => k_is); (case l4 => k_is); (case c4 => k_is); (case k4 => k_is); (case a5 => k_is); (case l5 => k_is)
    (case c5 => k_is); (case k5 => k_is); (case a6 => k_is); (case l6 => k_is); (case c6 => k_is); (case k6 => k_is)
    (case a7 => k_is); (case l7 => k_is); (case c7 => k_is); (case k7 => k_is); (case a8 => k_is); (case l8 => k_is)
    (case c8 => k_is); (case k8 => k_is); (case a9 => k_is); (case l9 => k_is); (case c9 => k_is); (case k9 => k_is)
    (case a10 => k_is); (case l10 => k_is); (case c10 => k_is); (case k10 => k_is); (case a11 => k_is); (case l11 => k_is)
    (case c11 => k_is); (case k11 => k_is); (case a12 => k_is); (case l12 => k_is); (case c12 => k_is); (case k12 => k_is)
    (case a13 => k_is); (case l13 => k_is); (case c13 => k_is); (case k13 => k_is); (case a14 => k_is); (case l14 => k_is)
    (case c14 => k_is); (case k14 => k_is); (case a15 => k_is); (case l15 => k_is); (case c15 => k_is); (case k15 => k_is)
    (case a16 => k_is); (case l16 => k_is); (case c16 => k_is); (case k16 => k_is); (case a17 => k_is); (case l17 => k_is)
    (case c17 => k_is); (case k17 => k_is); (case a18 => k_is); (case l18 => k_is); (case c18 => k_is); (case k18 => k_is)
    (case a19 => k_is); (case l19 => k_is); (case c19 => k_is); (case k19 => k_is); (case a20 => k_is); (case l20 => k_is)
    (case c20 => k_is); (case k20 => k_is); (case a21 => k_is); (case l21 => k_is); (case c21 => k_is); (case k21 => k_is)
    (case a22 => k_is); (case l22 => k_is); (case c22 => k_is); (case k22 => k_is); (case a23 => k_is); (case l23 => k_is)
    (case c23 => k_is); (case k23 => k_is); (case a24 => k_is); (case l24 => k_is); (case c24 => k_is); (case k24 => k_is)
    (case a25 => k_is); (case l25 => k_is); (case c25 => k_is); (case k25 => k_is); (case a26 => k_is); (case l26 => k_is)
    (case c26 => k_is); (case k26 => k_is); (case a27 => k_is); (case l27 => k_is); (case c27 => k_is); (case k27 => k_is)
    (case a28 => k_is); (case l28 => k_is); (case c28 => k_is); (case k28 => k_is); (case a29 => k_is); (case l29 => k_is)
    (case c29 => k_is); (case k29 => k_is); (case a30 => k_is); (case l30 => k_is); (case c30 => k_is); (case k30 => k_is)
    (case a31 => k_is); (case l31 => k_is); (case c31 => k_is); (case k31 => k_is); (case a32 => k_is); (case l32 => k_is)
    (case c32 => k_is); (case k32 => k_is); (case a33 => k_is); (case l33 => k_is); (case c33 => k_is); (case k33 => k_is)
    (case gChooseError => k_is); (case iChooseError => k_is); (case yChooseError => k_is); (case sChooseError => k_is); (case gBadPrime => k_is); (case iBadPrime => k_is)
    (case yBadPrime => k_is); (case sBadPrime => k_is); (case gBadMany => k_is); (case iBadMany => k_is); (case yBadMany => k_is); (case sBadMany => k_is)
    (case gBadSome => k_is); (case iBadSome => k_is); (case yBadSome => k_is); (case sBadSome => k_is); (case gBadNumber => k_is); (case iBadNumber => k_is)
    (case yBadNumber => k_is); (case sBadNumber => k_is); (case gNotFree => k_is); (case iNotFree => k_is); (case yNotFree => k_is); (case sNotFree => k_is)
    (case bChooseError => k_is); (case hChooseError => k_is); (case hn0 => k_is); (case htk0 => k_is); (case ex_BadPrime => k_exc); (case keBadPrime => k_is)
    (case beBadPrime => k_is); (case gaBadPrime => k_is); (case gtBadPrime => k_is); (case hdBadPrime => k_is); (case hcBadPrime => k_is); (case hmBadPrime => k_is)
    (case m0BadPrime => k_is); (case qBadPrimeBadPrime => k_is); (case qBadPrimeBadMany => k_is); (case qBadPrimeBadSome => k_is); (case qBadPrimeBadNumber => k_is); (case qBadPrimeNotFree => k_is)
    (case uBadPrime => k_is); (case ex_BadMany => k_exc); (case keBadMany => k_is); (case beBadMany => k_is); (case gaBadMany => k_is); (case gtBadMany => k_is)
    (case hdBadMany => k_is); (case hcBadMany => k_is); (case hmBadMany => k_is); (case m0BadMany => k_is); (case qBadManyBadPrime => k_is); (case qBadManyBadMany => k_is)
    (case qBadManyBadSome => k_is); (case qBadManyBadNumber => k_is); (case qBadManyNotFree => k_is); (case uBadMany => k_is); (case ex_BadSome => k_exc); (case keBadSome => k_is)
    (case beBadSome => k_is); (case gaBadSome => k_is); (case gtBadSome => k_is); (case hdBadSome => k_is); (case hcBadSome => k_is); (case hmBadSome => k_is)
    (case m0BadSome => k_is); (case qBadSomeBadPrime => k_is); (case qBadSomeBadMany => k_is); (case qBadSomeBadSome => k_is); (case qBadSomeBadNumber => k_is); (case qBadSomeNotFree => k_is)
    (case uBadSome => k_is); (case ex_BadNumber => k_exc); (case keBadNumber => k_is); (case beBadNumber => k_is); (case gaBadNumber => k_is); (case gtBadNumber => k_is)
    (case hdBadNumber => k_is); (case hcBadNumber => k_is); (case hmBadNumber => k_is); (case m0BadNumber => k_is); (case qBadNumberBadPrime => k_is); (case qBadNumberBadMany => k_is)
    (case qBadNumberBadSome => k_is); (case qBadNumberBadNumber => k_is); (case qBadNumberNotFree => k_is); (case uBadNumber => k_is); (case ex_NotFree => k_exc); (case keNotFree => k_is)
    (case beNotFree => k_is); (case gaNotFree => k_is); (case gtNotFree => k_is); (case hdNotFree => k_is); (case hcNotFree => k_is); (case hmNotFree => k_is)
    (case m0NotFree => k_is); (case qNotFreeBadPrime => k_is); (case qNotFreeBadMany => k_is); (case qNotFreeBadSome => k_is); (case qNotFreeBadNumber => k_is); (case qNotFreeNotFree => k_is)
    (case uNotFree => k_is); (case zall => k_is); (case zany => k_is); (case zenumerate => k_is); (case zisinstance => k_is); (case zlen => k_is)
    (case zrange => k_is); (case zsum => k_is); (case zValueError => k_is); (case zbool => k_is); (case zint => k_is); (case zGREATEST => k_is)

