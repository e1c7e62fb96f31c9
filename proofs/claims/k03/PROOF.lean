import PyProof.Rows.All
import Wide.All
import OpenK.AllK
import Wide.FinOn
import HandS.ForMost
import HandS.EndBits
import HandS.WideBits
import HandS.Style
import HandS.IsInst
import HandS.Codes
import HandS.Evl
import HandS.Walk
import HandS.HotCalls
import HandS.ExcIs
import HandS.Strs
import HandS.SetFor
import PySem.Challenge.RW_choosecarry_k03_whole_rows

set_option Elab.async false
set_option linter.all false
set_option maxRecDepth 100000
set_option maxHeartbeats 4000000

/-! the plain laws: figures by a prime, carries, what factorials leave -/
namespace Cc

/-! ### figures -/
def figsF (p : Nat) : Nat → Nat → List Nat
  | 0, _ => []
  | f + 1, n => if n = 0 then [] else n % p :: figsF p f (n / p)
def figs (p n : Nat) : List Nat := figsF p n n
def eF (p : Nat) : Nat → Nat → Nat
  | 0, _ => 0
  | f + 1, n => if n = 0 then 0 else n / p + eF p f (n / p)
/-- how often p goes into n! -/
def ee (p n : Nat) : Nat := eF p n n
def tab (p : Nat) : Nat → Nat
  | 0 => 1
  | i + 1 => tab p i * (i + 1) % p
def sg (p r : Nat) : Nat := if r % 2 = 0 then 1 else p - 1
def cF (p : Nat) : Nat → Nat → Nat
  | 0, _ => 1
  | f + 1, n => if n = 0 then 1 else cF p f (n / p) * (tab p (n % p) * sg p (n / p)) % p
/-- what the core of n! leaves -/
def cc (p n : Nat) : Nat := cF p n n
def kF (p : Nat) : Nat → Nat → Nat → Nat → Nat
  | 0, _, _, _ => 0
  | f + 1, a, b, m => if a = 0 ∧ b = 0 ∧ m = 0 then 0 else (a % p + b % p + m) / p + kF p f (a / p) (b / p) ((a % p + b % p + m) / p)
/-- carries -/
def kk (p a b m : Nat) : Nat := kF p (a + b + m) a b m

theorem div_lt {p n : Nat} (hp : 2 ≤ p) (h : 0 < n) : n / p < n := Nat.div_lt_self h hp
theorem dig_ind {p : Nat} (hp : 2 ≤ p) {P : Nat → Prop} (h0 : P 0) (hs : ∀ n, 0 < n → P (n / p) → P n) : ∀ n, P n := fun n => by
  induction n using Nat.strongRecOn with
  | ind n ih =>
    by_cases h : n = 0
    · subst h; exact h0
    · exact hs n (by omega) (ih _ (div_lt hp (by omega)))

theorem figsF_any {p : Nat} (hp : 2 ≤ p) : ∀ f g n, n ≤ f → n ≤ g → figsF p f n = figsF p g n
  | 0, 0, _, _, _ => rfl
  | 0, g + 1, n, h, _ => by
    have e : n = 0 := by omega
    subst e; rfl
  | f + 1, 0, n, _, h => by
    have e : n = 0 := by omega
    subst e; rfl
  | f + 1, g + 1, n, h1, h2 => by
    by_cases h : n = 0
    · subst h; rfl
    · have hd := div_lt hp (show 0 < n by omega)
      show (if n = 0 then [] else n % p :: figsF p f (n / p)) = (if n = 0 then [] else n % p :: figsF p g (n / p))
      rw [if_neg h, if_neg h, figsF_any hp f g (n / p) (by omega) (by omega)]
theorem figs_zero (p : Nat) : figs p 0 = [] := rfl
theorem figs_pos {p n : Nat} (hp : 2 ≤ p) (h : 0 < n) : figs p n = n % p :: figs p (n / p) := by
  obtain ⟨m, rfl⟩ : ∃ m, n = m + 1 := ⟨n - 1, by omega⟩
  show (if m + 1 = 0 then [] else (m + 1) % p :: figsF p m ((m + 1) / p)) = _
  rw [if_neg (by omega)]
  have hd := div_lt hp h
  rw [show figs p ((m + 1) / p) = figsF p ((m + 1) / p) ((m + 1) / p) from rfl, figsF_any hp m ((m + 1) / p) _ (by omega) (Nat.le_refl _)]
theorem eF_any {p : Nat} (hp : 2 ≤ p) : ∀ f g n, n ≤ f → n ≤ g → eF p f n = eF p g n
  | 0, 0, _, _, _ => rfl
  | 0, g + 1, n, h, _ => by
    have e : n = 0 := by omega
    subst e; rfl
  | f + 1, 0, n, _, h => by
    have e : n = 0 := by omega
    subst e; rfl
  | f + 1, g + 1, n, h1, h2 => by
    by_cases h : n = 0
    · subst h; rfl
    · have hd := div_lt hp (show 0 < n by omega)
      show (if n = 0 then 0 else n / p + eF p f (n / p)) = (if n = 0 then 0 else n / p + eF p g (n / p))
      rw [if_neg h, if_neg h, eF_any hp f g (n / p) (by omega) (by omega)]
theorem ee_zero (p : Nat) : ee p 0 = 0 := rfl
theorem ee_pos {p n : Nat} (hp : 2 ≤ p) (h : 0 < n) : ee p n = n / p + ee p (n / p) := by
  obtain ⟨m, rfl⟩ : ∃ m, n = m + 1 := ⟨n - 1, by omega⟩
  show (if m + 1 = 0 then 0 else (m + 1) / p + eF p m ((m + 1) / p)) = _
  rw [if_neg (by omega)]
  have hd := div_lt hp h
  rw [show ee p ((m + 1) / p) = eF p ((m + 1) / p) ((m + 1) / p) from rfl, eF_any hp m ((m + 1) / p) _ (by omega) (Nat.le_refl _)]
theorem ee_step {p n : Nat} (hp : 2 ≤ p) : ee p n = n / p + ee p (n / p) := by
  by_cases h : n = 0
  · subst h; rw [Nat.zero_div]; rfl
  · exact ee_pos hp (by omega)
theorem cF_any {p : Nat} (hp : 2 ≤ p) : ∀ f g n, n ≤ f → n ≤ g → cF p f n = cF p g n
  | 0, 0, _, _, _ => rfl
  | 0, g + 1, n, h, _ => by
    have e : n = 0 := by omega
    subst e; rfl
  | f + 1, 0, n, _, h => by
    have e : n = 0 := by omega
    subst e; rfl
  | f + 1, g + 1, n, h1, h2 => by
    by_cases h : n = 0
    · subst h; rfl
    · have hd := div_lt hp (show 0 < n by omega)
      show (if n = 0 then 1 else cF p f (n / p) * (tab p (n % p) * sg p (n / p)) % p) = (if n = 0 then 1 else cF p g (n / p) * (tab p (n % p) * sg p (n / p)) % p)
      rw [if_neg h, if_neg h, cF_any hp f g (n / p) (by omega) (by omega)]
theorem cc_zero (p : Nat) : cc p 0 = 1 := rfl
theorem cc_pos {p n : Nat} (hp : 2 ≤ p) (h : 0 < n) : cc p n = cc p (n / p) * (tab p (n % p) * sg p (n / p)) % p := by
  obtain ⟨m, rfl⟩ : ∃ m, n = m + 1 := ⟨n - 1, by omega⟩
  show (if m + 1 = 0 then 1 else cF p m ((m + 1) / p) * (tab p ((m + 1) % p) * sg p ((m + 1) / p)) % p) = _
  rw [if_neg (by omega)]
  have hd := div_lt hp h
  rw [show cc p ((m + 1) / p) = cF p ((m + 1) / p) ((m + 1) / p) from rfl, cF_any hp m ((m + 1) / p) _ (by omega) (Nat.le_refl _)]
theorem cc_step {p n : Nat} (hp : 2 ≤ p) : cc p n = cc p (n / p) * (tab p (n % p) * sg p (n / p)) % p := by
  by_cases h : n = 0
  · subst h
    rw [Nat.zero_div, Nat.zero_mod]
    show 1 = 1 * (1 * 1) % p
    rw [Nat.mod_eq_of_lt (by omega)]
  · exact cc_pos hp (by omega)
theorem add_carry (p a b m : Nat) (hp : 2 ≤ p) : (a + b + m) / p = a / p + b / p + (a % p + b % p + m) / p := by
  have e1 := Nat.div_add_mod a p
  have e2 := Nat.div_add_mod b p
  have e : a + b + m = (a % p + b % p + m) + p * (a / p + b / p) := by rw [Nat.mul_add]; omega
  rw [e, Nat.add_mul_div_left _ _ (by omega : 0 < p)]
  omega
theorem kF_any {p : Nat} (hp : 2 ≤ p) : ∀ f g a b m, a + b + m ≤ f → a + b + m ≤ g → kF p f a b m = kF p g a b m
  | 0, 0, _, _, _, _, _ => rfl
  | 0, g + 1, a, b, m, h, _ => by
    show 0 = if a = 0 ∧ b = 0 ∧ m = 0 then 0 else _
    rw [if_pos ⟨by omega, by omega, by omega⟩]
  | f + 1, 0, a, b, m, _, h => by
    show (if a = 0 ∧ b = 0 ∧ m = 0 then 0 else _) = 0
    rw [if_pos ⟨by omega, by omega, by omega⟩]
  | f + 1, g + 1, a, b, m, h1, h2 => by
    by_cases h : a = 0 ∧ b = 0 ∧ m = 0
    · show (if a = 0 ∧ b = 0 ∧ m = 0 then 0 else _) = (if a = 0 ∧ b = 0 ∧ m = 0 then 0 else _)
      rw [if_pos h, if_pos h]
    · have hd := div_lt hp (show 0 < a + b + m by omega)
      have hc := add_carry p a b m hp
      show (if a = 0 ∧ b = 0 ∧ m = 0 then 0 else _ + kF p f _ _ _) = (if a = 0 ∧ b = 0 ∧ m = 0 then 0 else _ + kF p g _ _ _)
      rw [if_neg h, if_neg h, kF_any hp f g _ _ _ (by omega) (by omega)]
theorem kk_zero (p : Nat) : kk p 0 0 0 = 0 := rfl
theorem kk_step {p a b m : Nat} (hp : 2 ≤ p) (h : ¬ (a = 0 ∧ b = 0 ∧ m = 0)) : kk p a b m = (a % p + b % p + m) / p + kk p (a / p) (b / p) ((a % p + b % p + m) / p) := by
  obtain ⟨s, hs⟩ : ∃ s, a + b + m = s + 1 := ⟨a + b + m - 1, by omega⟩
  have hd := div_lt hp (show 0 < a + b + m by omega)
  have hc := add_carry p a b m hp
  unfold kk
  rw [hs]
  show (if a = 0 ∧ b = 0 ∧ m = 0 then 0 else _ + kF p s _ _ _) = _
  rw [if_neg h, kF_any hp s (a / p + b / p + (a % p + b % p + m) / p) _ _ _ (by omega) (Nat.le_refl _)]
/-! ### carries tell how often -/
theorem kummer {p : Nat} (hp : 2 ≤ p) : ∀ s a b m, a + b + m ≤ s → ee p (a + b + m) = ee p a + ee p b + kk p a b m := by
  intro s
  induction s with
  | zero =>
    intro a b m h
    obtain rfl : a = 0 := by omega
    obtain rfl : b = 0 := by omega
    obtain rfl : m = 0 := by omega
    rfl
  | succ s ih =>
    intro a b m h
    by_cases hz : a = 0 ∧ b = 0 ∧ m = 0
    · obtain ⟨rfl, rfl, rfl⟩ := hz
      rfl
    · have hd := div_lt hp (show 0 < a + b + m by omega)
      have hc := add_carry p a b m hp
      have h1 := ih (a / p) (b / p) ((a % p + b % p + m) / p) (by omega)
      rw [kk_step hp hz, ee_step hp (n := a + b + m), ee_step hp (n := a), ee_step hp (n := b), hc, h1]
      omega
theorem kummer0 {p n k : Nat} (hp : 2 ≤ p) (h : k ≤ n) : ee p n = ee p k + ee p (n - k) + kk p k (n - k) 0 := by
  have := kummer hp _ k (n - k) 0 (Nat.le_refl _)
  rw [show k + (n - k) + 0 = n by omega] at this
  exact this

/-! ### digits -/
def dg (p n i : Nat) : Nat := (figs p n).getD i 0
theorem dg_zero {p n : Nat} (hp : 2 ≤ p) : dg p n 0 = n % p := by
  unfold dg
  by_cases h : n = 0
  · subst h; rfl
  · rw [figs_pos hp (by omega)]; rfl
theorem dg_succ {p n i : Nat} (hp : 2 ≤ p) : dg p n (i + 1) = dg p (n / p) i := by
  unfold dg
  by_cases h : n = 0
  · subst h; rw [Nat.zero_div]; rfl
  · rw [figs_pos hp (by omega)]; rfl
theorem dg_eq {p : Nat} (hp : 2 ≤ p) : ∀ i n, dg p n i = n / p ^ i % p
  | 0, n => by rw [dg_zero hp, Nat.pow_zero, Nat.div_one]
  | i + 1, n => by rw [dg_succ hp, dg_eq hp i, Nat.div_div_eq_div_mul, Nat.pow_succ, Nat.mul_comm]
theorem figs_len {p : Nat} (hp : 2 ≤ p) : ∀ n, n < p ^ (figs p n).length := by
  refine dig_ind hp (by show 0 < 1; omega) fun n h ih => ?_
  rw [figs_pos hp h, List.length_cons, Nat.pow_succ, Nat.mul_comm]
  have e := Nat.div_add_mod n p
  have hm := Nat.mod_lt n (show 0 < p by omega)
  have h2 : p * (n / p) + p ≤ p * p ^ (figs p (n / p)).length := by
    rw [← Nat.mul_succ]
    exact Nat.mul_le_mul_left p ih
  omega
theorem figs_len2 {p : Nat} (hp : 2 ≤ p) : ∀ n, 0 < n → p ^ ((figs p n).length - 1) ≤ n := by
  refine dig_ind hp (by omega) fun n h ih _ => ?_
  rw [figs_pos hp h, List.length_cons]
  by_cases hz : n / p = 0
  · rw [hz, figs_zero]; show 1 ≤ n; omega
  · have hz' : 0 < n / p := Nat.pos_of_ne_zero hz
    have h1 := ih hz'
    have h2 : 0 < (figs p (n / p)).length := by
      rw [figs_pos hp hz', List.length_cons]; omega
    obtain ⟨l, hl⟩ : ∃ l, (figs p (n / p)).length = l + 1 := ⟨_ - 1, (Nat.sub_add_cancel h2).symm⟩
    rw [hl] at h1 ⊢
    show p ^ (l + 1) ≤ n
    have h1' : p ^ l ≤ n / p := h1
    rw [Nat.pow_succ]
    exact Nat.le_trans (Nat.mul_le_mul_right p h1') (Nat.div_mul_le_self n p)
theorem figs_small {p : Nat} (hp : 2 ≤ p) : ∀ n, ∀ d ∈ figs p n, d < p := by
  refine dig_ind hp (fun d h => by cases h) fun n h ih d hd => ?_
  rw [figs_pos hp h] at hd
  rcases List.mem_cons.mp hd with e | e
  · rw [e]; exact Nat.mod_lt _ (by omega)
  · exact ih d e
theorem figs_len_le {p : Nat} (hp : 2 ≤ p) (n k : Nat) (h : n < 2 ^ k) : (figs p n).length ≤ k := by
  by_cases hz : n = 0
  · subst hz; exact Nat.zero_le _
  · have h1 := figs_len2 hp n (by omega)
    have h2 : 2 ^ ((figs p n).length - 1) ≤ p ^ ((figs p n).length - 1) := Nat.pow_le_pow_left hp _
    have h3 : 2 ^ ((figs p n).length - 1) < 2 ^ k := by omega
    have h4 := (Nat.pow_lt_pow_iff_right (show 1 < 2 by omega)).mp h3
    omega

/-! ### no carries: every figure of some is no greater -/
theorem carry_dig {p : Nat} (hp : 2 ≤ p) : ∀ s k j, k + j ≤ s → (kk p k j 0 = 0 ↔ ∀ i, dg p k i ≤ dg p (k + j) i) := by
  intro s
  induction s with
  | zero =>
    intro k j h
    obtain rfl : k = 0 := by omega
    obtain rfl : j = 0 := by omega
    exact ⟨fun _ i => Nat.le_refl _, fun _ => rfl⟩
  | succ s ih =>
    intro k j h
    by_cases hz : k = 0 ∧ j = 0
    · obtain ⟨rfl, rfl⟩ := hz
      exact ⟨fun _ i => Nat.le_refl _, fun _ => rfl⟩
    · have hd := div_lt hp (show 0 < k + j by omega)
      have hc := add_carry p k j 0 hp
      rw [kk_step hp (by omega)]
      have mk := Nat.mod_lt k (show 0 < p by omega)
      have mj := Nat.mod_lt j (show 0 < p by omega)
      by_cases hlt : k % p + j % p < p
      · have z : (k % p + j % p + 0) / p = 0 := Nat.div_eq_of_lt (by omega)
        rw [z] at hc ⊢
        have hq : (k + j) / p = k / p + j / p := by simpa using hc
        have hm : (k + j) % p = k % p + j % p := by rw [Nat.add_mod, Nat.mod_eq_of_lt hlt]
        have h1 := ih (k / p) (j / p) (by rw [← hq]; omega)
        rw [Nat.zero_add, h1, ← hq]
        constructor
        · intro a i
          cases i with
          | zero => rw [dg_zero hp, dg_zero hp, hm]; omega
          | succ i => rw [dg_succ hp, dg_succ hp]; exact a i
        · intro a i
          have := a (i + 1)
          rw [dg_succ hp, dg_succ hp] at this
          exact this
      · have z : (k % p + j % p + 0) / p = 1 := by
          rw [Nat.div_eq_iff (by omega)]; omega
        constructor
        · intro a; omega
        · intro a
          have h0 := a 0
          rw [dg_zero hp, dg_zero hp] at h0
          have hm : (k + j) % p = k % p + j % p - p := by
            rw [Nat.add_mod, Nat.mod_eq_sub_mod (by omega), Nat.mod_eq_of_lt (by omega)]
          omega
theorem carry_free {p n k : Nat} (hp : 2 ≤ p) (h : k ≤ n) : kk p k (n - k) 0 = 0 ↔ ∀ i, dg p k i ≤ dg p n i := by
  have := carry_dig hp _ k (n - k) (Nat.le_refl _)
  rw [show k + (n - k) = n by omega] at this
  exact this
/-! ### the two reckonings of the product -/
theorem figs_sum {p : Nat} (hp : 2 ≤ p) : ∀ n, n = (figs p n).sum + (p - 1) * ee p n := by
  refine dig_ind hp rfl fun n h ih => ?_
  rw [figs_pos hp h, List.sum_cons, ee_step hp]
  obtain ⟨q, rfl⟩ : ∃ q, p = q + 1 := ⟨p - 1, by omega⟩
  have e := Nat.div_add_mod n (q + 1)
  rw [Nat.add_sub_cancel, Nat.mul_add]
  rw [Nat.add_sub_cancel] at ih
  rw [Nat.add_mul, Nat.one_mul] at e
  omega
theorem sg_mul {p : Nat} (hp : 2 ≤ p) (a b : Nat) : sg p a * sg p b % p = sg p (a + b) % p := by
  unfold sg
  obtain ⟨q, rfl⟩ : ∃ q, p = q + 1 := ⟨p - 1, by omega⟩
  have sq : q * q % (q + 1) = 1 % (q + 1) := by
    obtain ⟨r, rfl⟩ : ∃ r, q = r + 1 := ⟨q - 1, by omega⟩
    have : (r + 1) * (r + 1) = 1 + (r + 1 + 1) * r := by
      simp only [Nat.add_mul, Nat.mul_add, Nat.one_mul, Nat.mul_one]; omega
    rw [this, Nat.add_mul_mod_self_left]
  by_cases ha : a % 2 = 0
  · by_cases hb : b % 2 = 0
    · rw [if_pos ha, if_pos hb, if_pos (by omega), Nat.one_mul]
    · rw [if_pos ha, if_neg hb, if_neg (by omega), Nat.one_mul]
  · by_cases hb : b % 2 = 0
    · rw [if_neg ha, if_pos hb, if_neg (by omega), Nat.mul_one]
    · rw [if_neg ha, if_neg hb, if_pos (by omega), Nat.add_sub_cancel]
      exact sq
def fp (p : Nat) (l : List Nat) : Nat := (l.map (tab p)).foldr (· * ·) 1
theorem cc_lt {p : Nat} (hp : 2 ≤ p) (n : Nat) : cc p n < p := by
  rw [cc_step hp]; exact Nat.mod_lt _ (by omega)
theorem cc_fp {p : Nat} (hp : 2 ≤ p) : ∀ n, cc p n = fp p (figs p n) * sg p (ee p n) % p := by
  refine dig_ind hp (by show 1 = 1 * 1 % p; rw [Nat.mod_eq_of_lt (by omega)]) fun n h ih => ?_
  rw [cc_step hp, ih, figs_pos hp h, ee_step hp (n := n)]
  show _ = tab p (n % p) * fp p (figs p (n / p)) * sg p (n / p + ee p (n / p)) % p
  rw [Nat.mul_mod (tab p (n % p) * fp p (figs p (n / p))), ← sg_mul hp, ← Nat.mul_mod, Nat.mod_mul_mod]
  congr 1
  ac_rfl
/-- the program's own: the foldl and its sign -/
theorem foldl_core {p : Nat} (hp : 2 ≤ p) : ∀ (l : List Nat) (c : Nat), c < p → l.foldl (fun c d => c * tab p d % p) c = c * fp p l % p
  | [], c, h => by
    show c = c * 1 % p
    rw [Nat.mul_one, Nat.mod_eq_of_lt h]
  | d :: l, c, h => by
    rw [List.foldl_cons, foldl_core hp l _ (Nat.mod_lt _ (by omega)), Nat.mod_mul_mod]
    show _ = c * (tab p d * fp p l) % p
    rw [Nat.mul_assoc]
theorem sign_core {p x : Nat} (hp : 2 ≤ p) (e : Nat) : (if e % 2 = 0 then x % p else (p - x % p) % p) = x * sg p e % p := by
  unfold sg
  by_cases h : e % 2 = 0
  · rw [if_pos h, if_pos h, Nat.mul_one]
  · rw [if_neg h, if_neg h]
    have hx := Nat.mod_lt x (show 0 < p by omega)
    rw [← Nat.mod_mul_mod x]
    generalize x % p = y at hx ⊢
    by_cases hy : y = 0
    · subst hy; rw [Nat.zero_mul, Nat.sub_zero, Nat.mod_self, Nat.zero_mod]
    · obtain ⟨q, rfl⟩ : ∃ q, p = q + 1 := ⟨p - 1, by omega⟩
      obtain ⟨z, rfl⟩ : ∃ z, y = z + 1 := ⟨y - 1, by omega⟩
      have : (z + 1) * (q + 1 - 1) = (q + 1 - (z + 1)) + (q + 1) * z := by
        rw [Nat.add_sub_cancel, Nat.add_mul, Nat.add_mul, Nat.one_mul, Nat.one_mul, Nat.mul_comm z q]; omega
      rw [this, Nat.add_mul_mod_self_left]

/-- ways: how often, and what the core leaves -/
def wo (p n k : Nat) : Int := (ee p n : Int) - (ee p k : Int) - (ee p (n - k) : Int)
def inv (p a : Nat) : Nat := a ^ (p - 2) % p
def wc (p n k : Nat) : Nat := cc p n * inv p (cc p k) % p * inv p (cc p (n - k)) % p
theorem wo_kk {p n k : Nat} (hp : 2 ≤ p) (h : k ≤ n) : wo p n k = (kk p k (n - k) 0 : Int) := by
  have := kummer0 hp h
  unfold wo
  omega
theorem wc_lt {p : Nat} (hp : 2 ≤ p) (n k : Nat) : wc p n k < p := Nat.mod_lt _ (by omega)
theorem inv_lt {p : Nat} (hp : 2 ≤ p) (a : Nat) : inv p a < p := Nat.mod_lt _ (by omega)
end Cc
namespace Cc
/-! ### primes -/
def isP (p : Nat) : Bool := (List.range 30).all fun i => !(decide (i + 2 < p) && p % (i + 2) == 0)
structure Pr (p : Nat) : Prop where
  lo : 2 ≤ p
  hi : p ≤ 997
  np : isP p = true
def invOk (p : Nat) : Bool := (List.range (p - 1)).all fun i => (i + 1) ^ (p - 2) % p * (i + 1) % p == 1
theorem all_inv : ((List.range 996).all fun i => !isP (i + 2) || invOk (i + 2)) = true := by decide +kernel
def tabL (p : Nat) : Nat → Nat → Nat → Nat
  | 0, _, t => t
  | f + 1, i, t => tabL p f (i + 1) (t * (i + 1) % p)
theorem tabL_eq (p : Nat) : ∀ f i, tabL p f i (tab p i) = tab p (i + f)
  | 0, _ => rfl
  | f + 1, i => by
    show tabL p f (i + 1) (tab p (i + 1)) = _
    rw [tabL_eq p f (i + 1), show i + 1 + f = i + (f + 1) by omega]
theorem all_wil : ((List.range 996).all fun i => !isP (i + 2) || tabL (i + 2) (i + 1) 0 1 == i + 1) = true := by decide +kernel
end Cc
namespace Cc
theorem Pr.mem {p : Nat} (h : Pr p) : p - 2 ∈ List.range 996 := by
  have := h.lo; have := h.hi
  rw [List.mem_range]; omega
theorem Pr.inv {p : Nat} (h : Pr p) {a : Nat} (ha : a % p ≠ 0) : a * Cc.inv p a % p = 1 := by
  have h2 := h.lo
  have h0 := List.all_eq_true.mp all_inv _ h.mem
  have e : p - 2 + 2 = p := by omega
  rw [e, h.np] at h0
  have h1 : invOk p = true := h0
  have hm := Nat.mod_lt a (show 0 < p by omega)
  have h3 := List.all_eq_true.mp h1 (a % p - 1) (by rw [List.mem_range]; omega)
  rw [show a % p - 1 + 1 = a % p by omega] at h3
  have h4 : (a % p) ^ (p - 2) % p * (a % p) % p = 1 := by simpa using h3
  unfold Cc.inv
  rw [Nat.pow_mod, Nat.mul_comm, Nat.mul_mod]
  rw [Nat.mod_mod]
  rw [Nat.mul_mod, Nat.mod_mod, Nat.mod_mod] at h4
  exact h4
theorem Pr.wil {p : Nat} (h : Pr p) : tab p (p - 1) = p - 1 := by
  have h2 := h.lo
  have h0 := List.all_eq_true.mp all_wil _ h.mem
  have e : p - 2 + 2 = p := by omega
  rw [e, h.np] at h0
  have h1 : tabL p (p - 2 + 1) 0 1 = p - 2 + 1 := by simpa using h0
  have h3 := tabL_eq p (p - 2 + 1) 0
  rw [show (0 : Nat) + (p - 2 + 1) = p - 1 by omega, show tab p 0 = 1 from rfl, h1] at h3
  rw [← h3]; omega
theorem Pr.cancel {p : Nat} (h : Pr p) {a x y : Nat} (ha : a % p ≠ 0) (e : a * x % p = a * y % p) : x % p = y % p := by
  have h1 := h.inv ha
  have g : ∀ z, z % p = (Cc.inv p a) * (a * z % p) % p := fun z => by
    rw [Nat.mul_mod_mod, ← Nat.mul_assoc, Nat.mul_comm (Cc.inv p a) a, Nat.mul_mod, h1, Nat.one_mul, Nat.mod_mod]
  rw [g x, g y, e]
theorem Pr.mul_ne {p : Nat} (h : Pr p) {a b : Nat} (ha : a % p ≠ 0) (hb : b % p ≠ 0) : a * b % p ≠ 0 := fun e => by
  have := h.cancel (x := b) (y := 0) ha (by rw [e, Nat.mul_zero, Nat.zero_mod])
  rw [Nat.zero_mod] at this
  exact hb this
theorem mod_1 {p : Nat} (hp : 2 ≤ p) : 1 % p = 1 := Nat.mod_eq_of_lt (by omega)

/-! ### how often p goes into a number, and what the core leaves -/
structure Core (p N v c : Nat) : Prop where
  ex : ∃ m, N = p ^ v * m ∧ m % p = c
  ne : c ≠ 0
theorem Core.pos {p N v c : Nat} (hp : 2 ≤ p) (h : Core p N v c) : 0 < N := by
  obtain ⟨⟨m, rfl, rfl⟩, h2⟩ := h
  have : m ≠ 0 := fun e => by subst e; exact h2 (Nat.zero_mod p)
  exact Nat.mul_pos (Nat.pow_pos (by omega)) (by omega)
theorem Core.mul {p N v c M u d : Nat} (P : Pr p) (h : Core p N v c) (g : Core p M u d) : Core p (N * M) (v + u) (c * d % p) := by
  obtain ⟨⟨m, rfl, rfl⟩, h2⟩ := h
  obtain ⟨⟨n, rfl, rfl⟩, g2⟩ := g
  refine ⟨⟨m * n, ?_, ?_⟩, ?_⟩
  · rw [Nat.pow_add]; ac_rfl
  · rw [Nat.mul_mod]
  · rw [← Nat.mul_mod]; exact P.mul_ne h2 g2
theorem Core.uniq {p N v c u d : Nat} (hp : 2 ≤ p) (h : Core p N v c) (g : Core p N u d) : v = u ∧ c = d := by
  obtain ⟨⟨m, e1, rfl⟩, h2⟩ := h
  obtain ⟨⟨n, e2, rfl⟩, g2⟩ := g
  rw [e1] at e2
  clear e1
  have key : ∀ (v u m n : Nat), p ^ v * m = p ^ u * n → m % p ≠ 0 → v ≤ u → v = u ∧ m = n := fun v u m n e hm hl => by
    obtain ⟨w, rfl⟩ : ∃ w, u = v + w := ⟨u - v, by omega⟩
    rw [Nat.pow_add, Nat.mul_assoc] at e
    have e' := Nat.eq_of_mul_eq_mul_left (Nat.pow_pos (n := v) (show 0 < p by omega)) e
    cases w with
    | zero => exact ⟨rfl, by rw [e', Nat.pow_zero, Nat.one_mul]⟩
    | succ w =>
      exfalso
      apply hm
      rw [e', Nat.pow_succ, Nat.mul_comm (p ^ w) p, Nat.mul_assoc, Nat.mul_mod_right]
  by_cases hl : v ≤ u
  · obtain ⟨a, b⟩ := key v u m n e2 h2 hl
    exact ⟨a, by rw [b]⟩
  · obtain ⟨a, b⟩ := key u v n m e2.symm g2 (by omega)
    exact ⟨a.symm, by rw [b]⟩
/-- the law's own loop: v p N, u p N -/
def coreF (p : Nat) : Nat → Nat → Nat × Nat
  | 0, n => (0, n % p)
  | f + 1, n => if n % p = 0 then ((coreF p f (n / p)).1 + 1, (coreF p f (n / p)).2) else (0, n % p)
def core (p n : Nat) : Nat × Nat := coreF p n n
theorem coreF_is {p : Nat} (hp : 2 ≤ p) : ∀ f n, 0 < n → n ≤ f → Core p n (coreF p f n).1 (coreF p f n).2
  | 0, n, h, h1 => by omega
  | f + 1, n, h, h1 => by
    by_cases hm : n % p = 0
    · have e : coreF p (f + 1) n = ((coreF p f (n / p)).1 + 1, (coreF p f (n / p)).2) := if_pos hm
      have hd := div_lt hp h
      have e2 : n = p * (n / p) := by
        have := Nat.div_add_mod n p
        omega
      have hq : 0 < n / p := by
        refine Nat.pos_of_ne_zero fun z => ?_
        rw [z] at e2; omega
      obtain ⟨⟨m, e3, e4⟩, h4⟩ := coreF_is hp f (n / p) hq (by omega)
      rw [e]
      refine ⟨⟨m, ?_, e4⟩, h4⟩
      show n = p ^ (_ + 1) * m
      rw [Nat.pow_succ, Nat.mul_comm _ p, Nat.mul_assoc, ← e3]
      exact e2
    · have e : coreF p (f + 1) n = (0, n % p) := if_neg hm
      rw [e]
      exact ⟨⟨n, by rw [Nat.pow_zero, Nat.one_mul], rfl⟩, hm⟩
theorem core_is {p n : Nat} (hp : 2 ≤ p) (h : 0 < n) : Core p n (core p n).1 (core p n).2 := coreF_is hp n n h (Nat.le_refl _)
theorem core_step {p n : Nat} (hp : 2 ≤ p) (h : 0 < n) (hm : n % p = 0) : core p n = ((core p (n / p)).1 + 1, (core p (n / p)).2) := by
  have hd := div_lt hp h
  have e2 : n = p * (n / p) := by
    have := Nat.div_add_mod n p
    omega
  have hq : 0 < n / p := by
    refine Nat.pos_of_ne_zero fun z => ?_
    rw [z] at e2; omega
  have a := core_is hp h
  obtain ⟨⟨m, e3, e4⟩, h4⟩ := core_is hp hq
  have b : Core p n ((core p (n / p)).1 + 1) (core p (n / p)).2 := by
    refine ⟨⟨m, ?_, e4⟩, h4⟩
    rw [Nat.pow_succ, Nat.mul_comm _ p, Nat.mul_assoc, ← e3]
    exact e2
  obtain ⟨x, y⟩ := a.uniq hp b
  exact Prod.ext x y
theorem core_done {p n : Nat} (hp : 2 ≤ p) (h : 0 < n) (hm : n % p ≠ 0) : core p n = (0, n % p) := by
  obtain ⟨m, rfl⟩ : ∃ m, n = m + 1 := ⟨n - 1, by omega⟩
  exact if_neg hm

/-! ### factorials -/
def fac : Nat → Nat
  | 0 => 1
  | n + 1 => fac n * (n + 1)
theorem tab_fac (p : Nat) : ∀ i, tab p i % p = fac i % p
  | 0 => rfl
  | i + 1 => by
    show tab p i * (i + 1) % p % p = fac i * (i + 1) % p
    rw [Nat.mod_mod, Nat.mul_mod, tab_fac p i, ← Nat.mul_mod]
/-- one more: how often and the core of n + 1 come to those of n! -/
theorem prod_step {p : Nat} (P : Pr p) : ∀ n, ee p (n + 1) = ee p n + (core p (n + 1)).1 ∧ cc p (n + 1) = cc p n * (core p (n + 1)).2 % p := by
  have hp := P.lo
  intro n
  induction n using Nat.strongRecOn with
  | ind n ih =>
    by_cases hm : (n + 1) % p = 0
    · -- n + 1 = p * r
      have e := Nat.div_add_mod (n + 1) p
      rw [hm] at e
      obtain ⟨r, hr⟩ : ∃ r, (n + 1) / p = r + 1 := ⟨(n + 1) / p - 1, (Nat.sub_add_cancel (Nat.pos_of_ne_zero fun z => by rw [z] at e; omega)).symm⟩
      have hn : n = p * r + (p - 1) := by
        rw [hr, Nat.mul_add] at e; omega
      have hq : n / p = r := by
        rw [hn, Nat.mul_add_div (by omega), Nat.div_eq_of_lt (by omega)]; omega
      have hr2 : n % p = p - 1 := by
        rw [hn, Nat.mul_add_mod, Nat.mod_eq_of_lt (by omega)]
      have hlt : r < n := by
        rw [hn]
        have := Nat.mul_le_mul_right r hp
        omega
      obtain ⟨i1, i2⟩ := ih r hlt
      rw [core_step hp (by omega) hm, hr]
      constructor
      · rw [ee_step hp (n := n + 1), hr, ee_step hp (n := n), hq, i1]
        show r + 1 + _ = r + ee p r + (_ + 1)
        omega
      · rw [cc_step hp (n := n + 1), hr, cc_step hp (n := n), hq, hm, hr2, i2, P.wil]
        show cc p r * _ % p * (1 * sg p (r + 1)) % p = cc p r * ((p - 1) * sg p r) % p * _ % p
        have s1 : sg p (r + 1) % p = (p - 1) * sg p r % p := by
          rw [← sg_mul hp r 1, Nat.mul_comm]
          rfl
        rw [Nat.mod_mul_mod, Nat.mod_mul_mod, Nat.one_mul]
        rw [Nat.mul_mod, s1, ← Nat.mul_mod]
        congr 1
        ac_rfl
    · have e := Nat.div_add_mod (n + 1) p
      have hl := Nat.mod_lt (n + 1) (show 0 < p by omega)
      have hn : n = p * ((n + 1) / p) + ((n + 1) % p - 1) := by omega
      have hq : n / p = (n + 1) / p := by
        have : n / p = (p * ((n + 1) / p) + ((n + 1) % p - 1)) / p := by rw [← hn]
        rw [this, Nat.mul_add_div (by omega), Nat.div_eq_of_lt (Nat.lt_of_le_of_lt (Nat.sub_le _ _) hl), Nat.add_zero]
      have hr : n % p = (n + 1) % p - 1 := by
        have : n % p = (p * ((n + 1) / p) + ((n + 1) % p - 1)) % p := by rw [← hn]
        rw [this, Nat.mul_add_mod]
        exact Nat.mod_eq_of_lt (Nat.lt_of_le_of_lt (Nat.sub_le _ _) hl)
      rw [core_done hp (by omega) hm]
      constructor
      · rw [ee_step hp (n := n + 1), ee_step hp (n := n), hq]; rfl
      · rw [cc_step hp (n := n + 1), cc_step hp (n := n), hq, hr]
        obtain ⟨d, hd⟩ : ∃ d, (n + 1) % p = d + 1 := ⟨(n + 1) % p - 1, by omega⟩
        rw [hd, Nat.add_sub_cancel]
        show cc p _ * (tab p d * (d + 1) % p * _) % p = _ * (d + 1) % p
        rw [Nat.mod_mul_mod, Nat.mul_left_comm (cc p ((n + 1) / p)), Nat.mod_mul_mod]
        congr 1
        ac_rfl
theorem fac_core {p : Nat} (P : Pr p) : ∀ n, Core p (fac n) (ee p n) (cc p n)
  | 0 => ⟨⟨1, rfl, mod_1 P.lo⟩, by show 1 ≠ 0; omega⟩
  | n + 1 => by
    obtain ⟨h1, h2⟩ := prod_step P n
    rw [h1, h2]
    exact (fac_core P n).mul P (core_is P.lo (by omega))
theorem cc_ne0 {p : Nat} (P : Pr p) (n : Nat) : cc p n ≠ 0 := (fac_core P n).ne
theorem cc_mod {p : Nat} (P : Pr p) (n : Nat) : cc p n % p = cc p n := Nat.mod_eq_of_lt (cc_lt P.lo n)
theorem cc_nem {p : Nat} (P : Pr p) (n : Nat) : cc p n % p ≠ 0 := by rw [cc_mod P]; exact cc_ne0 P n
theorem wc_mul {p : Nat} (P : Pr p) (n k : Nat) : wc p n k * (cc p k * cc p (n - k)) % p = cc p n := by
  unfold wc
  have h1 := P.inv (cc_nem P k)
  have h2 := P.inv (cc_nem P (n - k))
  rw [Nat.mod_mul_mod]
  have e : cc p n * Cc.inv p (cc p k) % p * Cc.inv p (cc p (n - k)) * (cc p k * cc p (n - k)) % p = cc p n * (cc p k * Cc.inv p (cc p k)) * (cc p (n - k) * Cc.inv p (cc p (n - k))) % p := by
    rw [Nat.mul_assoc (cc p n * Cc.inv p (cc p k) % p), Nat.mod_mul_mod]
    congr 1
    ac_rfl
  rw [e, Nat.mul_mod, h2, Nat.mul_mod (cc p n), h1, Nat.mul_one, Nat.mul_one, Nat.mod_mod, Nat.mod_mod, cc_mod P]
theorem wc_ne {p : Nat} (P : Pr p) (n k : Nat) : wc p n k ≠ 0 := fun e => by
  have := wc_mul P n k
  rw [e, Nat.zero_mul, Nat.zero_mod] at this
  exact cc_ne0 P n this.symm
/-! ### the ways themselves -/
def bin : Nat → Nat → Nat
  | _, 0 => 1
  | 0, _ + 1 => 0
  | n + 1, k + 1 => bin n k + bin n (k + 1)
theorem bin_over : ∀ n k, n < k → bin n k = 0
  | _, 0, h => by omega
  | 0, _ + 1, _ => rfl
  | n + 1, k + 1, h => by
    show bin n k + bin n (k + 1) = 0
    rw [bin_over n k (by omega), bin_over n (k + 1) (by omega)]
theorem bin_self : ∀ n, bin n n = 1
  | 0 => rfl
  | n + 1 => by
    show bin n n + bin n (n + 1) = 1
    rw [bin_self n, bin_over n (n + 1) (by omega)]
theorem bin_fac : ∀ n k, k ≤ n → bin n k * (fac k * fac (n - k)) = fac n
  | n, 0, _ => by
    cases n <;> simp [bin, fac]
  | 0, _ + 1, h => by omega
  | n + 1, k + 1, h => by
    show (bin n k + bin n (k + 1)) * (fac (k + 1) * fac (n + 1 - (k + 1))) = fac n * (n + 1)
    rw [show n + 1 - (k + 1) = n - k by omega]
    have h1 := bin_fac n k (by omega)
    rw [Nat.add_mul]
    have a : bin n k * (fac (k + 1) * fac (n - k)) = fac n * (k + 1) := by
      rw [← h1]
      show bin n k * (fac k * (k + 1) * fac (n - k)) = _
      ac_rfl
    rw [a]
    by_cases hk : k = n
    · subst hk
      rw [bin_over k (k + 1) (by omega), Nat.zero_mul, Nat.add_zero]
    · have h2 := bin_fac n (k + 1) (by omega)
      have b : bin n (k + 1) * (fac (k + 1) * fac (n - k)) = fac n * (n - k) := by
        rw [← h2, show n - k = n - (k + 1) + 1 by omega]
        show bin n (k + 1) * (fac (k + 1) * (fac (n - (k + 1)) * (n - (k + 1) + 1))) = _
        ac_rfl
      rw [b, ← Nat.mul_add]
      congr 1
      omega
theorem fac_pos : ∀ n, 0 < fac n
  | 0 => Nat.one_pos
  | n + 1 => Nat.mul_pos (fac_pos n) (by omega)
theorem bin_pos {n k : Nat} (h : k ≤ n) : 0 < bin n k := by
  refine Nat.pos_of_ne_zero fun e => ?_
  have := bin_fac n k h
  rw [e, Nat.zero_mul] at this
  have := fac_pos n
  omega
theorem bin_core {p n k : Nat} (P : Pr p) (h : k ≤ n) : ((core p (bin n k)).1 : Int) = wo p n k ∧ (core p (bin n k)).2 = wc p n k := by
  have c := core_is P.lo (bin_pos h)
  have m := (c.mul P ((fac_core P k).mul P (fac_core P (n - k))))
  rw [bin_fac n k h] at m
  obtain ⟨e1, e2⟩ := m.uniq P.lo (fac_core P n)
  constructor
  · unfold wo; omega
  · have hl : (core p (bin n k)).2 < p := by
      obtain ⟨⟨m, _, e⟩, _⟩ := c
      rw [← e]
      exact Nat.mod_lt _ (by have := P.lo; omega)
    have hw := wc_mul P n k
    rw [Nat.mul_mod_mod] at e2
    have z := P.cancel (a := cc p k * cc p (n - k)) (x := (core p (bin n k)).2) (y := wc p n k) (P.mul_ne (cc_nem P k) (cc_nem P (n - k))) (by rw [Nat.mul_comm, e2, Nat.mul_comm _ (wc p n k), hw])
    rwa [Nat.mod_eq_of_lt hl, Nat.mod_eq_of_lt (wc_lt P.lo n k)] at z
theorem bin_free {p n k : Nat} (P : Pr p) (h : k ≤ n) : (0 < bin n k % p ↔ wo p n k = 0) ∧ (wo p n k = 0 → wc p n k = bin n k % p) := by
  obtain ⟨e1, e2⟩ := bin_core P h
  have hb := bin_pos h
  by_cases hm : bin n k % p = 0
  · rw [core_step P.lo hb hm] at e1
    have e1' : (((core p (bin n k / p)).1 + 1 : Nat) : Int) = wo p n k := e1
    refine ⟨⟨fun z => by omega, fun z => by omega⟩, fun z => by omega⟩
  · rw [core_done P.lo hb hm] at e1 e2
    have e1' : ((0 : Nat) : Int) = wo p n k := e1
    exact ⟨⟨fun _ => e1'.symm, fun _ => by omega⟩, fun _ => e2.symm⟩
end Cc

namespace Cc
/-! ### the table as a list; a power by squares -/
def tabs (p n : Nat) : List Nat := (List.range n).map (tab p)
theorem tabs_succ (p n : Nat) : tabs p (n + 1) = tabs p n ++ [tab p n] := by
  unfold tabs
  rw [List.range_succ, List.map_append]; rfl
theorem tabs_get {p n i : Nat} (h : i < n) : (tabs p n)[i]? = some (tab p i) := by
  unfold tabs
  rw [List.getElem?_map, List.getElem?_range h]; rfl
theorem tabs_len (p n : Nat) : (tabs p n).length = n := by
  unfold tabs
  rw [List.length_map, List.length_range]
theorem tab_lt {p : Nat} (hp : 2 ≤ p) : ∀ i, tab p i < p
  | 0 => by show 1 < p; omega
  | i + 1 => Nat.mod_lt _ (by omega)
theorem pow_step (p f b c : Nat) (h : 0 < c) : (if c % 2 = 1 then f * b % p else f) * (b * b % p) ^ (c / 2) % p = f * b ^ c % p := by
  have e := Nat.div_add_mod c 2
  have e2 : (b * b % p) ^ (c / 2) % p = b ^ (2 * (c / 2)) % p := by
    rw [← Nat.pow_mod, ← Nat.pow_two, ← Nat.pow_mul]
  rw [Nat.mul_mod, e2, ← Nat.mul_mod]
  by_cases ho : c % 2 = 1
  · rw [if_pos ho, Nat.mod_mul_mod, Nat.mul_assoc]
    congr 2
    rw [show c = 2 * (c / 2) + 1 by omega]
    rw [show (2 * (c / 2) + 1) / 2 = c / 2 by omega, Nat.pow_succ, Nat.mul_comm]
  · rw [if_neg ho]
    congr 3
    omega
/-- what the loop of product_of has so far -/
theorem wo_zero (p n k : Nat) : wo p n k = (ee p n : Int) - (ee p k : Int) - (ee p (n - k) : Int) := rfl
theorem often_div {p : Nat} (hp : 2 ≤ p) (n : Nat) : ((n : Int) - ((figs p n).sum : Int)) / ((p : Int) - 1) = (ee p n : Int) := by
  have h := figs_sum hp n
  have e : (n : Int) - ((figs p n).sum : Int) = ((p : Int) - 1) * (ee p n : Int) := by
    have h2 : (n : Int) = (((figs p n).sum + (p - 1) * ee p n : Nat) : Int) := congrArg _ h
    rw [Int.natCast_add, Int.natCast_mul, Int.natCast_sub (by omega)] at h2
    rw [h2]
    show _ + ((p : Int) - 1) * _ - _ = _
    omega
  rw [e, Int.mul_ediv_cancel_left _ (by omega)]
end Cc

namespace Cc
/-! ### parts of a number; the first prime from a number on -/
def anyP (f n : Nat) : Bool := (List.range n).any fun i => decide (i + 2 < f) && f % (i + 2) == 0
theorem anyP_succ (f n : Nat) : anyP f (n + 1) = (anyP f n || (decide (n + 2 < f) && f % (n + 2) == 0)) := by
  unfold anyP
  rw [List.range_succ, List.any_append]
  simp
theorem anyP_isP (f : Nat) : anyP f 30 = !isP f := by
  unfold anyP isP
  generalize List.range 30 = l
  induction l with
  | nil => rfl
  | cons a l ih => rw [List.any_cons, List.all_cons, ih]; simp
theorem p991 : isP 991 = true := by decide +kernel
/-- what figures tell -/
def wv (p : Nat) (l : List Nat) : Nat := l.foldr (fun d a => a * p + d) 0
theorem wv_rev (p : Nat) (l : List Nat) : l.reverse.foldl (fun a d => a * p + d) 0 = wv p l := by
  rw [List.foldl_reverse]; rfl
theorem fold_lt {p : Nat} (hp : 2 ≤ p) : ∀ (l : List Nat) (c m : Nat), (∀ d ∈ l, d < p) → c < p ^ m → l.foldl (fun a d => a * p + d) c < p ^ (m + l.length)
  | [], c, m, _, h => h
  | d :: l, c, m, hd, h => by
    rw [List.foldl_cons, List.length_cons, show m + (l.length + 1) = (m + 1) + l.length by omega]
    refine fold_lt hp l _ (m + 1) (fun x hx => hd x (List.mem_cons_of_mem _ hx)) ?_
    have h1 := hd d List.mem_cons_self
    have h2 : (c + 1) * p ≤ p ^ m * p := Nat.mul_le_mul_right p h
    rw [Nat.pow_succ]
    rw [Nat.add_mul, Nat.one_mul] at h2
    omega
theorem wv_figs {p : Nat} (hp : 2 ≤ p) : ∀ n, wv p (figs p n) = n := by
  refine dig_ind hp rfl fun n h ih => ?_
  rw [figs_pos hp h]
  show wv p (figs p (n / p)) * p + n % p = n
  rw [ih, Nat.mul_comm]
  exact Nat.div_add_mod n p
/-- figure by figure no greater: the number is no greater -/
theorem wv_le (p : Nat) : ∀ (l m : List Nat), l.length = m.length → (∀ i, l.getD i 0 ≤ m.getD i 0) → wv p l ≤ wv p m
  | [], [], _, _ => Nat.le_refl _
  | [], _ :: _, h, _ => by simp at h
  | _ :: _, [], h, _ => by simp at h
  | a :: l, b :: m, h, hi => by
    show wv p l * p + a ≤ wv p m * p + b
    have h0 : a ≤ b := hi 0
    have h1 := wv_le p l m (by simpa using h) fun i => hi (i + 1)
    have h2 := Nat.mul_le_mul_right p h1
    omega
theorem wv_less {p : Nat} (hp : 2 ≤ p) {n : Nat} {l : List Nat} (h : l.length = (figs p n).length) (hi : ∀ i, l.getD i 0 ≤ (figs p n).getD i 0) : wv p l ≤ n := by
  have := wv_le p l (figs p n) h hi
  rwa [wv_figs hp] at this
end Cc

namespace Cc
/-! ### the rows by sums -/
def rowL (n : Nat) : List Nat := (List.range (n + 1)).map (bin n)
def midL (t m : Nat) : List Nat := (List.range m).map fun i => bin (t + 1) (i + 1)
theorem midL_succ (t m : Nat) : midL t (m + 1) = midL t m ++ [bin (t + 1) (m + 1)] := by
  unfold midL
  rw [List.range_succ, List.map_append]; rfl
theorem midL_len (t m : Nat) : (midL t m).length = m := by
  unfold midL
  rw [List.length_map, List.length_range]
theorem rowL_len (n : Nat) : (rowL n).length = n + 1 := by
  unfold rowL
  rw [List.length_map, List.length_range]
theorem rowL_get {n i : Nat} (h : i ≤ n) : (rowL n)[i]? = some (bin n i) := by
  unfold rowL
  rw [List.getElem?_map, List.getElem?_range (by omega)]; rfl
theorem rowL_succ (t : Nat) : [1] ++ midL t t ++ [1] = rowL (t + 1) := by
  unfold rowL midL
  rw [List.range_succ, List.range_succ_eq_map, List.map_append, List.map_cons, List.map_map, List.map_singleton, bin_self]
  rfl
end Cc

namespace Cc
/-! ### the ways of some and of the rest; of one fewer each -/
theorem wo_symm {p n k : Nat} (h : k ≤ n) : wo p n (n - k) = wo p n k := by
  unfold wo
  rw [Nat.sub_sub_self h]
  omega
theorem wc_symm {p n k : Nat} (h : k ≤ n) : wc p n (n - k) = wc p n k := by
  unfold wc
  rw [Nat.sub_sub_self h, Nat.mod_mul_mod, Nat.mod_mul_mod]
  congr 1
  ac_rfl
theorem wo_fewer {p n k : Nat} (P : Pr p) (h0 : 0 < k) (h : k ≤ n) : wo p n k + ((core p k).1 : Int) = wo p (n - 1) (k - 1) + ((core p n).1 : Int) := by
  obtain ⟨a, _⟩ := prod_step P (n - 1)
  obtain ⟨b, _⟩ := prod_step P (k - 1)
  rw [Nat.sub_add_cancel (by omega)] at a b
  unfold wo
  rw [show n - 1 - (k - 1) = n - k by omega]
  omega
theorem wc_fewer {p n k : Nat} (P : Pr p) (h0 : 0 < k) (h : k ≤ n) : wc p n k * (core p k).2 % p = wc p (n - 1) (k - 1) * (core p n).2 % p := by
  obtain ⟨_, a⟩ := prod_step P (n - 1)
  obtain ⟨_, b⟩ := prod_step P (k - 1)
  rw [Nat.sub_add_cancel (by omega)] at a b
  have h1 := wc_mul P n k
  have h2 := wc_mul P (n - 1) (k - 1)
  rw [show n - 1 - (k - 1) = n - k by omega] at h2
  refine P.cancel (a := cc p (k - 1) * cc p (n - k)) (P.mul_ne (cc_nem P _) (cc_nem P _)) ?_
  have e1 : cc p (k - 1) * cc p (n - k) * (wc p n k * (core p k).2) % p = cc p n := by
    rw [← h1, b]
    rw [show wc p n k * (cc p (k - 1) * (core p k).2 % p * cc p (n - k)) = cc p (k - 1) * (core p k).2 % p * (wc p n k * cc p (n - k)) by ac_rfl, Nat.mod_mul_mod]
    congr 1
    ac_rfl
  have e2 : cc p (k - 1) * cc p (n - k) * (wc p (n - 1) (k - 1) * (core p n).2) % p = cc p n := by
    rw [a, ← h2, Nat.mod_mul_mod]
    congr 1
    ac_rfl
  rw [e1, e2]
theorem core_fac {p : Nat} (P : Pr p) (n : Nat) : core p (fac n) = (ee p n, cc p n) := by
  obtain ⟨a, b⟩ := (core_is P.lo (fac_pos n)).uniq P.lo (fac_core P n)
  exact Prod.ext a b
theorem wo_self (p n : Nat) : wo p n n = 0 := by
  unfold wo
  rw [Nat.sub_self, ee_zero]
  omega
theorem wc_self {p : Nat} (P : Pr p) (n : Nat) : wc p n n = 1 := by
  have h1 := P.inv (cc_nem P n)
  have h2 := P.inv (cc_nem P 0)
  rw [cc_zero, Nat.one_mul] at h2
  unfold wc
  rw [Nat.sub_self, cc_zero, h1, Nat.one_mul, h2]
theorem core_lt {p n : Nat} (hp : 2 ≤ p) (h : 0 < n) : (core p n).2 < p := by
  obtain ⟨⟨m, _, e⟩, _⟩ := core_is hp h
  rw [← e]
  exact Nat.mod_lt _ (by omega)
theorem int_mod0 {a b p : Nat} (h : a % p = b % p) : ((a : Int) - (b : Int)) % (p : Int) = 0 := by
  have : (a : Int) % (p : Int) = (b : Int) % (p : Int) := by
    rw [← Int.natCast_emod, ← Int.natCast_emod, h]
  exact (Int.emod_eq_emod_iff_emod_sub_eq_zero).mp this
end Cc

namespace Cc
/-! the free places of a row, in order -/
def fr : List Nat → Nat
  | [] => 1
  | f :: l => (f + 1) * fr l
def pb (p : Nat) : List Nat → Nat → Nat
  | [], _ => 0
  | f :: l, m => m % (f + 1) + p * pb p l (m / (f + 1))
def nb (p : Nat) : List Nat → Nat → Nat
  | [], _ => 0
  | f :: l, s => s % p + (f + 1) * nb p l (s / p)
def okL (p : Nat) : List Nat → Nat → Prop
  | [], s => s = 0
  | f :: l, s => s % p ≤ f ∧ okL p l (s / p)
theorem fr_pos : ∀ l, 0 < fr l
  | [] => by decide
  | f :: l => Nat.mul_pos (Nat.succ_pos f) (fr_pos l)
theorem pb_digit {p f m x : Nat} (hf : f < p) : (m % (f + 1) + p * x) % p = m % (f + 1) ∧ (m % (f + 1) + p * x) / p = x := by
  have h : m % (f + 1) < f + 1 := Nat.mod_lt _ (Nat.succ_pos f)
  have hp : 0 < p := by omega
  constructor
  · rw [Nat.add_mul_mod_self_left]; exact Nat.mod_eq_of_lt (by omega)
  · rw [Nat.add_mul_div_left _ _ hp, Nat.div_eq_of_lt (by omega), Nat.zero_add]
theorem pb_ok {p : Nat} : ∀ (l : List Nat) (m : Nat), (∀ d ∈ l, d < p) → okL p l (pb p l m)
  | [], m, _ => rfl
  | f :: l, m, h => by
    obtain ⟨h1, h2⟩ := pb_digit (m := m) (x := pb p l (m / (f + 1))) (h f List.mem_cons_self)
    show (m % (f + 1) + p * pb p l (m / (f + 1))) % p ≤ f ∧ okL p l ((m % (f + 1) + p * pb p l (m / (f + 1))) / p)
    rw [h1, h2]
    exact ⟨Nat.le_of_lt_succ (Nat.mod_lt _ (Nat.succ_pos f)), pb_ok l _ fun d hd => h d (List.mem_cons_of_mem _ hd)⟩
theorem nb_pb {p : Nat} : ∀ (l : List Nat) (m : Nat), (∀ d ∈ l, d < p) → m < fr l → nb p l (pb p l m) = m
  | [], m, _, h => by
    have : m < 1 := h
    show 0 = m
    omega
  | f :: l, m, hd, h => by
    obtain ⟨h1, h2⟩ := pb_digit (m := m) (x := pb p l (m / (f + 1))) (hd f List.mem_cons_self)
    show (m % (f + 1) + p * pb p l (m / (f + 1))) % p + (f + 1) * nb p l ((m % (f + 1) + p * pb p l (m / (f + 1))) / p) = m
    rw [h1, h2, nb_pb l _ (fun d hx => hd d (List.mem_cons_of_mem _ hx)) (Nat.div_lt_of_lt_mul h)]
    exact Nat.mod_add_div m (f + 1)
theorem nb_lt {p : Nat} : ∀ (l : List Nat) (s : Nat), okL p l s → nb p l s < fr l
  | [], s, _ => Nat.one_pos
  | f :: l, s, h => by
    have ih := nb_lt l _ h.2
    have h1 := h.1
    show s % p + (f + 1) * nb p l (s / p) < (f + 1) * fr l
    have := Nat.mul_le_mul_left (f + 1) (Nat.succ_le_of_lt ih)
    rw [Nat.mul_succ] at this
    omega
theorem pb_nb {p : Nat} : ∀ (l : List Nat) (s : Nat), okL p l s → pb p l (nb p l s) = s
  | [], s, h => Eq.symm h
  | f :: l, s, h => by
    show (s % p + (f + 1) * nb p l (s / p)) % (f + 1) + p * pb p l ((s % p + (f + 1) * nb p l (s / p)) / (f + 1)) = s
    have h1 := h.1
    rw [Nat.add_mul_mod_self_left, Nat.mod_eq_of_lt (show s % p < f + 1 by omega), Nat.add_mul_div_left _ _ (Nat.succ_pos f), Nat.div_eq_of_lt (show s % p < f + 1 by omega), Nat.zero_add, pb_nb l _ h.2]
    exact Nat.mod_add_div s p
theorem pb_mono {p : Nat} : ∀ (l : List Nat) (m m' : Nat), (∀ d ∈ l, d < p) → m < m' → m' < fr l → pb p l m < pb p l m'
  | [], m, m', _, h, h' => by
    have : m' < 1 := h'
    omega
  | f :: l, m, m', hd, h, h' => by
    have hf := hd f List.mem_cons_self
    show m % (f + 1) + p * pb p l (m / (f + 1)) < m' % (f + 1) + p * pb p l (m' / (f + 1))
    have e1 := Nat.mod_add_div m (f + 1)
    have e2 := Nat.mod_add_div m' (f + 1)
    have l1 : m % (f + 1) < f + 1 := Nat.mod_lt m (Nat.succ_pos f)
    have hq : m / (f + 1) ≤ m' / (f + 1) := Nat.div_le_div_right (Nat.le_of_lt h)
    rcases Nat.lt_or_eq_of_le hq with g | g
    · have ih := pb_mono l _ _ (fun d hx => hd d (List.mem_cons_of_mem _ hx)) g (Nat.div_lt_of_lt_mul h')
      have := Nat.mul_le_mul_left p (Nat.succ_le_of_lt ih)
      rw [Nat.mul_succ] at this
      omega
    · rw [g] at e1 ⊢
      omega
theorem dg_all0 {p : Nat} (hp : 2 ≤ p) : ∀ s, (∀ i, dg p s i ≤ 0) → s = 0 := by
  refine dig_ind hp (P := fun s => (∀ i, dg p s i ≤ 0) → s = 0) (fun _ => rfl) fun s hs ih h => ?_
  have h0 := h 0
  rw [dg_zero hp] at h0
  have h1 := ih fun i => by
    have := h (i + 1)
    rwa [dg_succ hp] at this
  have := Nat.div_add_mod s p
  rw [h1] at this
  omega
theorem okL_iff {p : Nat} (hp : 2 ≤ p) : ∀ n s, okL p (figs p n) s ↔ ∀ i, dg p s i ≤ dg p n i := by
  refine dig_ind hp (P := fun n => ∀ s, okL p (figs p n) s ↔ ∀ i, dg p s i ≤ dg p n i) (fun s => ?_) fun n hn ih s => ?_
  · constructor
    · intro h i
      have h : s = 0 := h
      subst h
      exact Nat.le_refl _
    · intro h
      exact dg_all0 hp s fun i => h i
  · rw [figs_pos hp hn]
    constructor
    · rintro ⟨h1, h2⟩ i
      match i with
      | 0 => rw [dg_zero hp, dg_zero hp]; exact h1
      | i + 1 => rw [dg_succ hp, dg_succ hp]; exact (ih _).mp h2 i
    · intro h
      refine ⟨?_, (ih _).mpr fun i => ?_⟩
      · have := h 0
        rwa [dg_zero hp, dg_zero hp] at this
      · have := h (i + 1)
        rwa [dg_succ hp, dg_succ hp] at this
theorem okL_le {p : Nat} (hp : 2 ≤ p) : ∀ n s, okL p (figs p n) s → s ≤ n := by
  refine dig_ind hp (P := fun n => ∀ s, okL p (figs p n) s → s ≤ n) (fun s h => Nat.le_of_eq h) fun n hn ih s h => ?_
  rw [figs_pos hp hn] at h
  have h1 := h.1
  have h2 := Nat.mul_le_mul_left p (ih _ h.2)
  have e1 := Nat.div_add_mod s p
  have e2 := Nat.div_add_mod n p
  omega
theorem fr_le {p : Nat} (hp : 2 ≤ p) : ∀ n, fr (figs p n) ≤ n + 1 := by
  refine dig_ind hp (P := fun n => fr (figs p n) ≤ n + 1) (Nat.le_refl _) fun n hn ih => ?_
  rw [figs_pos hp hn]
  show (n % p + 1) * fr (figs p (n / p)) ≤ n + 1
  have h1 := Nat.mul_le_mul_left (n % p + 1) ih
  have h2 : n % p + 1 ≤ p := Nat.mod_lt n (by omega)
  have h3 := Nat.mul_le_mul_right (n / p) h2
  have e := Nat.div_add_mod n p
  rw [Nat.mul_succ] at h1
  omega
theorem okL_kk {p n k : Nat} (hp : 2 ≤ p) (h : k ≤ n) : okL p (figs p n) k ↔ kk p k (n - k) 0 = 0 := (okL_iff hp n k).trans (carry_free hp h).symm
theorem pb_le {p : Nat} (hp : 2 ≤ p) (n m : Nat) : pb p (figs p n) m ≤ n := okL_le hp n _ (pb_ok _ m (figs_small hp n))
theorem drop_cons {l : List Nat} {i d : Nat} (h : l[i]? = some d) : l.drop i = d :: l.drop (i + 1) := by
  obtain ⟨hi, e⟩ := List.getElem?_eq_some_iff.mp h
  rw [List.drop_eq_getElem_cons hi, e]
theorem pow_bits {p i : Nat} (hp : p ≤ 1000) (hi : i ≤ 1000) : p ^ i < 2 ^ 10001 := by
  have h1 : p ^ i ≤ (2 ^ 10) ^ i := Nat.pow_le_pow_left (Nat.le_trans hp (by decide)) i
  rw [← Nat.pow_mul] at h1
  exact Nat.lt_of_le_of_lt h1 (Nat.pow_lt_pow_right (by decide) (by omega))
/-! the most that a place holds -/
theorem core_pow {p : Nat} (hp : 2 ≤ p) : ∀ i N, 0 < N → (N % p ^ i ≠ 0 ↔ (core p N).1 < i)
  | 0, N, hN => by
    rw [Nat.pow_zero, Nat.mod_one]
    exact ⟨fun h => absurd rfl h, fun h => absurd h (Nat.not_lt_zero _)⟩
  | i + 1, N, hN => by
    have e : N % p ^ (i + 1) = N % p + p * (N / p % p ^ i) := by rw [Nat.pow_succ, Nat.mul_comm, Nat.mod_mul]
    by_cases hm : N % p = 0
    · have hq : 0 < N / p := by
        refine Nat.pos_of_ne_zero fun z => ?_
        have := Nat.div_add_mod N p
        rw [z, hm] at this
        omega
      have ih := core_pow hp i (N / p) hq
      rw [core_step hp hN hm, e, hm, Nat.zero_add]
      constructor
      · intro h
        exact Nat.succ_lt_succ (ih.mp fun z => h (by rw [z, Nat.mul_zero]))
      · intro h z
        have h1 := ih.mpr (Nat.lt_of_succ_lt_succ h)
        rcases Nat.mul_eq_zero.mp z with q | q
        · omega
        · exact h1 q
    · rw [core_done hp hN hm]
      exact ⟨fun _ => Nat.succ_pos i, fun _ z => hm (by rw [e] at z; omega)⟩
theorem pow_len {p : Nat} (hp : 2 ≤ p) : ∀ i N, 0 < N → (p ^ i ≤ N ↔ i < (figs p N).length)
  | 0, N, hN => by
    rw [figs_pos hp hN, Nat.pow_zero]
    exact ⟨fun _ => Nat.succ_pos _, fun _ => hN⟩
  | i + 1, N, hN => by
    rw [figs_pos hp hN, Nat.pow_succ, ← Nat.le_div_iff_mul_le (by omega), List.length_cons]
    by_cases hq : N / p = 0
    · rw [hq, figs_zero]
      have := Nat.pow_pos (n := i) (show 0 < p by omega)
      exact ⟨fun h => by omega, fun h => absurd (Nat.lt_of_succ_lt_succ h) (Nat.not_lt_zero _)⟩
    · have ih := pow_len hp i (N / p) (Nat.pos_of_ne_zero hq)
      exact ⟨fun h => Nat.succ_lt_succ (ih.mp h), fun h => ih.mpr (Nat.lt_of_succ_lt_succ h)⟩
def mst (p n : Nat) : Nat := (figs p (n + 1)).length - 1 - (core p (n + 1)).1
theorem core_len {p N : Nat} (hp : 2 ≤ p) (hN : 0 < N) : (core p N).1 < (figs p N).length := by
  have h : N % p ^ (core p N).1 = 0 := Decidable.byContradiction fun z => Nat.lt_irrefl _ ((core_pow hp _ N hN).mp z)
  exact (pow_len hp _ N hN).mp (Nat.le_of_dvd hN (Nat.dvd_of_mod_eq_zero h))
theorem dg_core {p N b : Nat} (hp : 2 ≤ p) (hN : 0 < N) (hb : b ≤ (core p N).1) : dg p N b = 0 ↔ b < (core p N).1 := by
  have h0 : N % p ^ b = 0 := Decidable.byContradiction fun z => absurd ((core_pow hp _ N hN).mp z) (by omega)
  have h1 := core_pow hp (b + 1) N hN
  have e : N % p ^ (b + 1) = N % p ^ b + p ^ b * (N / p ^ b % p) := by rw [Nat.pow_succ, Nat.mod_mul]
  rw [e, h0, Nat.zero_add] at h1
  have hpb := Nat.pow_pos (n := b) (show 0 < p by omega)
  rw [dg_eq hp]
  constructor
  · intro z
    refine Decidable.byContradiction fun q => ?_
    exact h1.mpr (by omega) (by rw [z, Nat.mul_zero])
  · intro q
    refine Decidable.byContradiction fun z => ?_
    have := h1.mp (fun y => by
      rcases Nat.mul_eq_zero.mp y with g | g
      · omega
      · exact z g)
    omega
/-! the small rows -/
theorem sorted_ext : ∀ (l1 l2 : List Nat), l1.Pairwise (· < ·) → l2.Pairwise (· < ·) → (∀ x, x ∈ l1 ↔ x ∈ l2) → l1 = l2
  | [], [], _, _, _ => rfl
  | [], b :: l2, _, _, h => absurd ((h b).mpr List.mem_cons_self) (by simp)
  | a :: l1, [], _, _, h => absurd ((h a).mp List.mem_cons_self) (by simp)
  | a :: l1, b :: l2, h1, h2, h => by
    have g1 := List.pairwise_cons.mp h1
    have g2 := List.pairwise_cons.mp h2
    have ha : a = b := by
      rcases List.mem_cons.mp ((h a).mp List.mem_cons_self) with e | e
      · exact e
      · have hb := g2.1 a e
        rcases List.mem_cons.mp ((h b).mpr List.mem_cons_self) with e' | e'
        · omega
        · have := g1.1 b e'
          omega
    subst ha
    rw [sorted_ext l1 l2 g1.2 g2.2 fun x => ⟨fun hx => ?_, fun hx => ?_⟩]
    · rcases List.mem_cons.mp ((h x).mp (List.mem_cons_of_mem _ hx)) with e | e
      · have := g1.1 x hx
        omega
      · exact e
    · rcases List.mem_cons.mp ((h x).mpr (List.mem_cons_of_mem _ hx)) with e | e
      · have := g2.1 x hx
        omega
      · exact e
def placesL (p n : Nat) : List Nat := (List.range (n + 1)).filter fun k => decide (0 < bin n k % p)
theorem bin_okL {p n k : Nat} (P : Pr p) (h : k ≤ n) : 0 < bin n k % p ↔ okL p (figs p n) k := by
  rw [(bin_free P h).1, okL_kk P.lo h, wo_kk P.lo h]
  omega
theorem places_mem {p n k : Nat} (P : Pr p) (h : k ≤ n) : k ∈ placesL p n ↔ okL p (figs p n) k := by
  unfold placesL
  rw [List.mem_filter, List.mem_range, decide_eq_true_eq, bin_okL P h]
  exact ⟨fun z => z.2, fun z => ⟨by omega, z⟩⟩
theorem places_eq {p : Nat} (P : Pr p) (n : Nat) : (List.range (fr (figs p n))).map (pb p (figs p n)) = placesL p n := by
  have hs := figs_small P.lo n
  refine sorted_ext _ _ ?_ ?_ fun x => ⟨fun hx => ?_, fun hx => ?_⟩
  · rw [List.pairwise_map]
    exact List.Pairwise.imp_of_mem (fun {a b} _ hb hab => pb_mono _ a b hs hab (List.mem_range.mp hb)) List.pairwise_lt_range
  · exact List.Pairwise.filter _ List.pairwise_lt_range
  · obtain ⟨m, hm, rfl⟩ := List.mem_map.mp hx
    exact (places_mem P (pb_le P.lo n m)).mpr (pb_ok _ m hs)
  · have hle : x ≤ n := by
      have := (List.mem_filter.mp hx).1
      have := List.mem_range.mp this
      omega
    have ok := (places_mem P hle).mp hx
    exact List.mem_map.mpr ⟨nb p (figs p n) x, List.mem_range.mpr (nb_lt _ _ ok), pb_nb _ _ ok⟩
def maxOk (p n : Nat) : Bool := ((List.range (n + 1)).all fun k => decide (kk p k (n - k) 0 ≤ mst p n)) && (List.range (n + 1)).any fun k => kk p k (n - k) 0 == mst p n
theorem maxOk_few : ((List.range 41).all fun p => decide (p < 2) || (List.range 40).all fun n => maxOk p n) = true := by decide +kernel
theorem maxOk_two : ((List.range 50).all fun n => maxOk 2 n) = true := by decide +kernel
theorem maxOk_big {p n : Nat} (hp : 2 ≤ p) (h : n + 1 < p) : maxOk p n = true := by
  have hm : mst p n = 0 := by
    unfold mst
    rw [figs_pos hp (Nat.succ_pos n), Nat.div_eq_of_lt h, figs_zero]
    show 0 + 1 - 1 - _ = 0
    omega
  have hk : ∀ k, k ≤ n → kk p k (n - k) 0 = 0 := fun k hk => by
    by_cases z : k = 0 ∧ n - k = 0 ∧ (0 : Nat) = 0
    · obtain ⟨z1, z2, _⟩ := z
      rw [z2, z1]
      exact kk_zero p
    · rw [kk_step hp z, Nat.mod_eq_of_lt (show k < p by omega), Nat.mod_eq_of_lt (show n - k < p by omega), Nat.div_eq_of_lt (show k + (n - k) + 0 < p by omega), Nat.div_eq_of_lt (show k < p by omega), Nat.div_eq_of_lt (show n - k < p by omega), kk_zero]
  unfold maxOk
  rw [hm, Bool.and_eq_true]
  refine ⟨List.all_eq_true.mpr fun k hk2 => decide_eq_true (Nat.le_of_eq (hk k (by have := List.mem_range.mp hk2; omega))), List.any_eq_true.mpr ⟨0, List.mem_range.mpr (Nat.succ_pos n), beq_iff_eq.mpr (hk 0 (Nat.zero_le _))⟩⟩
theorem maxOk_all {p n : Nat} (hp : 2 ≤ p) (h : n < 40 ∨ (p = 2 ∧ n < 50)) : maxOk p n = true := by
  rcases h with h | ⟨rfl, h⟩
  · by_cases hb : n + 1 < p
    · exact maxOk_big hp hb
    · have h1 := List.all_eq_true.mp maxOk_few p (List.mem_range.mpr (by omega))
      rw [decide_eq_false (by omega : ¬ p < 2), Bool.false_or] at h1
      exact List.all_eq_true.mp h1 n (List.mem_range.mpr h)
  · exact List.all_eq_true.mp maxOk_two n (List.mem_range.mpr h)
theorem mst_max {p n : Nat} (P : Pr p) (h : n < 40 ∨ (p = 2 ∧ n < 50)) : (∀ k, k ≤ n → (core p (bin n k)).1 ≤ mst p n) ∧ ∃ k, k ≤ n ∧ (core p (bin n k)).1 = mst p n := by
  have hp := P.lo
  have e : ∀ k, k ≤ n → (core p (bin n k)).1 = kk p k (n - k) 0 := fun k hk => by
    have h1 := (bin_core P hk).1
    rw [wo_kk hp hk] at h1
    omega
  have m := maxOk_all hp h
  unfold maxOk at m
  rw [Bool.and_eq_true] at m
  refine ⟨fun k hk => ?_, ?_⟩
  · rw [e k hk]
    exact of_decide_eq_true (List.all_eq_true.mp m.1 k (List.mem_range.mpr (by omega)))
  · obtain ⟨k, hk, z⟩ := List.any_eq_true.mp m.2
    have hk : k ≤ n := by
      have := List.mem_range.mp hk
      omega
    exact ⟨k, hk, by rw [e k hk]; exact beq_iff_eq.mp z⟩
theorem fr_two : ∀ l : List Nat, (∀ d ∈ l, d < 2) → fr l = 2 ^ (l.filter fun d => d == 1).length
  | [], _ => rfl
  | d :: l, h => by
    have ih := fr_two l fun x hx => h x (List.mem_cons_of_mem _ hx)
    have hd := h d List.mem_cons_self
    match d, hd with
    | 0, _ =>
      show (0 + 1) * fr l = 2 ^ (l.filter fun d => d == 1).length
      rw [ih, Nat.zero_add, Nat.one_mul]
    | 1, _ =>
      show (1 + 1) * fr l = 2 ^ ((l.filter fun d => d == 1).length + 1)
      rw [ih, Nat.pow_succ, Nat.mul_comm]
end Cc

/-! ### short words over the layer -/
namespace Cc
open PySem PySem.Spec PyProof.Rows L2 Evl
def topS (i : Nat) : Stmt := PySem.Challenge.pw_choosecarry_k03_whole_rows.main.body.getD i (.Pass ⟨0, 0, 0, 0⟩)
/-- a def of the top: where it stands, how it binds -/
def Df (K : PySem.W.Frag) (mg : Str → Option Value) (x : Str) (ps : List Str) (st : Stmt) : Prop :=
  ∃ f fd, Fun K x x st f fd ∧ mg x = some (.ref f) ∧ Binds K fd ps []
/-- a def that keeps its promise -/
def Ok (P : Program) (w : World) (K : PySem.W.Frag) (mg : Str → Option Value) (base : Heap) (CX : CXT) (k : Nat) (x : Str) (ps : List Str) (sp : Sp) : Prop :=
  ∃ f fd, mg x = some (.ref f) ∧ PySem.W.keepIn K (.ref f) = true ∧ Binds K fd ps [] ∧ FnOk P w K mg base CX k f fd ps sp
section
variable {X : Cx} {k n : Nat} {x : Str} {ps : List Str} {sp : Sp} {p pos : Pos} {e : Expr} {es : List Expr} {t : TA} {t1 t2 : TE}
theorem pe_callO (O : Ok X.prog X.w X.K X.mg X.base CX0 k x ps sp) (hr : Room n X.A) (ha : PA X (e :: es) t) (hk : k ≤ n := by decide) (hg : Gl X x := by rfl)
    (hdb : (x == ("__debug__" : Str)) = false := by decide) (he : starEach (e :: es) X.env = (false, eval e X.env) :: starEach es X.env := by rfl) (hpl : (backTo pos (starEach es X.env)).any (·.1) = false := by rfl) :
    PE X (.Call (.Name x p) (e :: es) [] pos) (tCall sp [] E0 t) := by
  obtain ⟨f, fd, hm, kp, b, F⟩ := O
  exact pe_call F (hr.mono hk) hg hm kp b .nil pass0 ha hdb he hpl
theorem pe_either {e : Expr} (h1 : PE X e t1) (h2 : PE X e t2) : PE X e (fun σ H Q => t1 σ H Q ∨ t2 σ H Q) :=
  ⟨fun pins s σ H Q I h => h.elim (h1.run pins s σ H Q I) (h2.run pins s σ H Q I)⟩
end
/-! ### a body's reading, through its def -/
section
variable {P : Program} {w : World} {K : PySem.W.Frag} {mg : Str → Option Value} {base : Heap}
theorem Df.ok {x : Str} {st : Stmt} {N ps : List Str} {k : Nat} {sp : Sp} (D : Df K mg x ps st) (S : FnScope N ps (defScope st)) (len : ∀ vs H Q E, sp vs H Q E → vs.length = ps.length)
    (hbody : ∀ (f : Addr) (cdv : Value) (A : Around) (outer : List Env) (s : Shared) (H : Hp) (vs : List V) (Q : VK) (E : XK), Room k (A.deeper (envOfC x (defScope st) s.heap.objs.size f cdv)) → sp vs H Q E →
      ∃ t, PSs (cxOf CX0 P w K mg base N x (defScope st) f cdv A outer s H E).nox (defBody st) t ∧ t { nx := fun _ H' => Q .non H', rt := Q } (start N vs) H) : Ok P w K mg base CX0 (k + 1) x ps sp := by
  obtain ⟨f, fd, F, g, b⟩ := D
  exact ⟨f, fd, g, F.kp, b, F.ok S len fun cdv A outer s H vs Q E hr h => hbody f cdv A outer s H vs Q E hr h⟩
end
/-! ### numbers -/
theorem emod_nat (a b : Nat) : ((a : Int) % (b : Int)) = ((a % b : Nat) : Int) := rfl
theorem ediv_nat (a b : Nat) : ((a : Int) / (b : Int)) = ((a / b : Nat) : Int) := rfl
theorem nat_pow_lt {n k : Nat} (h : n < 2 ^ k) : ((n : Int)).natAbs < 2 ^ k := by
  rw [Int.natAbs_natCast]; exact h
theorem small_lt {n : Nat} (h : n ≤ 1000) : ((n : Int)).natAbs < 2 ^ 10 := by
  rw [Int.natAbs_natCast]; exact Nat.lt_of_le_of_lt h (by decide)
theorem div_small {i : Int} {p : Nat} (h0 : 0 < p) (h : p ≤ 1000) : CDivW i (p : Int) := wide_div (by omega) (small_lt h) (by decide) (by decide)
theorem mul_small {a b : Nat} (ha : a ≤ 1000) (hb : b ≤ 1000) : CMulX (a : Int) (b : Int) := mulx_ok (small_lt ha) (small_lt hb) (by decide)
theorem size_small {n : Nat} (h : n ≤ 100000) : n ≤ sizeLine := sz_of h
/-- the list of whole numbers at an address -/
abbrev nV (l : List Nat) : List V := l.map fun (d : Nat) => V.int (d : Int)
theorem nV_get {l : List Nat} {i : Nat} {v : V} (h : (nV l)[i]? = some v) : ∃ d, l[i]? = some d ∧ v = .int (d : Int) := by
  unfold nV at h
  rw [List.getElem?_map] at h
  cases e : l[i]? with
  | none => rw [e] at h; cases h
  | some d => rw [e] at h; exact ⟨d, rfl, (Option.some.inj h).symm⟩
theorem nV_at {l : List Nat} {i : Nat} {d : Nat} (h : l[i]? = some d) : (nV l)[i]? = some (V.int (d : Int)) := by
  unfold nV
  rw [List.getElem?_map, h]; rfl
theorem nV_app (l : List Nat) (d : Nat) : nV l ++ [V.int (d : Int)] = nV (l ++ [d]) := by
  unfold nV
  rw [List.map_append]; rfl
theorem if_t {A B : Prop} {c : Bool} (hc : c = true) (h : A) : if c = true then A else B := by rw [if_pos hc]; exact h
theorem if_f {A B : Prop} {c : Bool} (hc : c = false) (h : B) : if c = true then A else B := by rw [hc, if_neg Bool.false_ne_true]; exact h
end Cc

namespace Cc
open PySem PySem.Spec PyProof.Rows L2 HotX
/-! ### any of a list of bools, while an exception is handled -/
section
variable {prog : Program} {w : World} {A : Around} {E : Value → Shared → Prop} {s : Shared}
theorem next_list_end_hot {it l x1 : Addr} {i : Nat} {items : Array Value} {Q : Option Value → Shared → Prop} (hot : HotAt A x1 s.heap) (hne : x1 ≠ it)
    (hit : s.heap.IsListIter it l i) (hl : s.heap.IsList l items) (hx : items[i]? = none)
    (hQ : ∀ h', (∀ b o, b ≠ it → s.heap.get? b = some o → h'.get? b = some o) → Q none { s with heap := h' }) : wpAny (model prog w) A (pyNext (.ref it)) Q E s := by
  obtain ⟨o, ho, hc, hd⟩ := id hit
  obtain ⟨ol, hol, _, nl, hdl⟩ := hl
  obtain ⟨hh, o1, vs1, h1, d1, c1⟩ := hot
  unfold pyNext
  refine wpAny_bind (wpAny_attempt (wpAny_callSpecial?_slot (name := Str.ofString "__next__") hit.typeIs slot_listiter_next
    (wpAny_call_entry slot_listiter_next hit.typeIs entry_listiter_next ?_ (args_listiter_next _))))
  show wpAny _ _ (field (.ref it) 0 >>= _) _ _ s
  refine wpAny_bind (wpAny_field ho hd (x := .ref l) rfl ?_)
  show wpAny _ _ (if (Value.ref l == Value.none) = true then _ else _) _ _ s
  rw [if_neg (show ¬ ((Value.ref l == Value.none) = true) from Bool.false_ne_true)]
  show wpAny _ _ (field (.ref it) 1 >>= _) _ _ s
  refine wpAny_bind (wpAny_field ho hd (x := .int i 0) rfl ?_)
  show wpAny _ _ (seqItems? (.ref l) >>= _) _ _ s
  refine wpAny_bind (wpAny_seqItems hol hdl ?_)
  simp only [Int.toNat_natCast, hx]
  refine wpAny_bind (wpAny_rule (wpAny_bind (wpAny_setField ho hd (by simp) ?_)))
  show wpAny _ _ (newExc (.type "StopIteration") [] >>= _) _ _ _
  refine wpAny_bind ?_
  simp only [newExc, newTuple]
  refine wpAny_bind (wpAny_newObj_type ?_ (by size_fits))
  refine wpAny_bind (m := firstArgMember _ _) (wpAny_of_eq (a := Value.none) (by first | rfl | (simp only [firstArgMember]; rfl)) ?_)
  refine wpAny_newObj_type ?_ (by size_fits)
  have keep : ∀ {f : Obj → Obj} {o2 o3 : Obj} {b : Addr} {ob : Obj}, b ≠ it → s.heap.get? b = some ob → (((s.heap.update it f).push o2).push o3).get? b = some ob := fun {f o2 o3 b ob} hb e =>
    Heap.get?_push_of_some _ (Heap.get?_push_of_some _ (by rw [Heap.get?_update_other _ _ (Ne.symm hb)]; exact e))
  refine raiseNew_hot ⟨hh, o1, vs1, keep hne h1, d1, c1⟩ (Nat.ne_of_lt (Heap.lt_size (Heap.get?_push_of_some _ (by rw [Heap.get?_update_other _ _ (Ne.symm hne)]; exact h1)))) (Heap.get?_push_size _ rfl) rfl (by first | (simp; done) | (simp; omega) | (simp only [Array.size_append]; simp; omega)) ?_
  refine wpAny_bind (wpAny_isInstance (T := "StopIteration") (b := true) ⟨_, Heap.get?_update_self _ (Heap.get?_push_size _ rfl) rfl, rfl⟩ isSubtype_stop ?_)
  refine wpAny_pure (hQ _ fun b ob hb e => ?_)
  rw [Heap.get?_update_other _ _ (Nat.ne_of_gt (Heap.lt_size (Heap.get?_push_of_some _ (by rw [Heap.get?_update_other _ _ (Ne.symm hb)]; exact e))))]
  exact keep hb e
end
theorem walks_list_hot {prog : Program} {w : World} {A : Around} {x1 : Addr} {o1 : Obj} {vs1 : Array Value} (hh : A.handled = some (.ref x1)) (d1 : o1.data = .fields vs1) (c1 : vs1[2]? = some .none) (I ax : Addr) (hne : ax ≠ I) (hx1 : x1 ≠ I) (items : Array Value) :
    Walks prog w A I [I, ax, x1] [I] items.size (fun i v => items[i]? = some v) (fun i h => h.IsListIter I ax i ∧ h.IsList ax items ∧ h.get? x1 = some o1) where
  sub := fun b hb => by simp at hb; simp [hb]
  frame := fun _ _ _ st hk => ⟨st.1.at fun o e => hk I (by simp) o e, st.2.1.at fun o e => hk ax (by simp) o e, hk x1 (by simp) o1 st.2.2⟩
  item := fun i s Q E hi st hQ => by
    refine wpAny_pyNext_list_item st.1 st.2.1 (x := items[i]) (by simp [hi]) fun h' hit' hs' => ?_
    exact hQ _ h' s.toks (by simp [hi]) ⟨hit', st.2.1.extBut hs'.extBut hne, hs'.extBut x1 o1 hx1 st.2.2⟩ fun b o hb e => hs'.extBut b o (fun h => hb (by simp [h])) e
  done := fun s Q E st hQ => next_list_end_hot ⟨hh, o1, vs1, st.2.2, d1, c1⟩ hx1 st.1 st.2.1 (by simp) fun h' he' => hQ h' s.toks fun b o hb e => he' b o (fun h => hb (by simp [h])) e
  self := fun _ _ _ _ st hQ => wpAny_pyIter_listiter st.1 hQ
/-- any(l) in an except suite -/
theorem cr_anyH {X : Cx} (hot : L2H.HotC X) : CallR X (.builtin "any") (rAny X.K) := by
  intro pins s σ H vs us Q I r h
  obtain ⟨a, bs, rfl, hs, q⟩ := h
  obtain ⟨its, rv, hl, _⟩ := I.list hs
  rw [Vals.ref1 r]
  have hb := rv.bls
  obtain ⟨p, ⟨hh, v1, d1, c1⟩, hp⟩ := hot
  have g1 : s.heap.get? p.1 = some p.2 := (I.pin p (List.mem_append_left _ hp)).1
  have hx1 : p.1 ≠ s.heap.objs.size := Nat.ne_of_lt (Heap.lt_size g1)
  refine call_any_walk (iter_any hl.isList fun s₂ e2 st hne => ?_)
  subst e2
  refine ⟨_, _, _, _, _, _, _, rfl, walks_list_hot (A := X.A.in1) (o1 := p.2) (vs1 := v1) hh d1 c1 _ a hne hx1 its.toArray, ⟨st.1, st.2, Heap.get?_push_of_some _ g1⟩, truth_bools hb, fun h' tk hk => ?_⟩
  refine ⟨.bl _, H, I.kept fun b o eo => hk b o (fun hmem => ?_) (Heap.get?_push_of_some _ eo), ?_, q⟩
  · rcases List.mem_cons.mp hmem with e1 | hmem
    · exact absurd (e1 ▸ Heap.lt_size eo) (Nat.lt_irrefl _)
    · cases hmem
  · show Value.bool _ = Value.bool _
    rw [← L2.any_range, hb, List.size_toArray, List.length_map]
end Cc

namespace Cc
open PySem PySem.Spec PyProof.Rows L2
/-! ### set(list of ints), as the library's rule of a tuple has it -/
section
variable {P : Program} {w : World} {A : Around} {E : Value → Shared → Prop} {s : Shared}
set_option maxHeartbeats 8000000 in
theorem call_set_lstI {l : Addr} {items : Array Value} (ns : List Int) {Q : Value → Shared → Prop} (hh : A.handled = none) (hl : s.heap.IsList l items) (hit : IntsAre items.toList ns) (hb : ns.length + 1 < scanBound)
    (h : ∀ (h' : Heap) (tk c : Nat), SetR w h' s.heap.objs.size (fun j => decide (j ∈ ns)) c → c ≤ ns.length → (∀ b o, s.heap.get? b = some o → h'.get? b = some o) → Q (.ref s.heap.objs.size) { s with heap := h', toks := tk }) :
    wpAny (model P w) A (call (.type "set") [.ref l]) Q E s := by
  have hisz : items.size = ns.length := by
    have q := IntsAre.length hit
    rw [Array.length_toList] at q
    exact q
  obtain ⟨c, tl, hmro⟩ := PySem.F.called_set.mro
  have hmade := PySem.F.called_set.made
  have hsub := PySem.F.called_set.sub
  refine wpAny_call (codeAny_of_tree ?_)
  show wpAny _ _ (callAny (.type "set") _) _ _ _
  refine wpAny_pure ⟨Code.quiet_builtin _ (by decide +kernel), codeAny_builtin PySem.F.entry_type_call ?_⟩
  rw [Around.under_plain (weight_type_call_type "set" [.ref l] []) rfl]
  have h1 := PySem.F.called_set.notType
  have h2 := PySem.F.called_set.canCreate
  have hct := PySem.F.typeCall_set_1 (.ref l)
  repeat (any_goals (first | assumption | wp_step))

  refine codeAny_mono (code_set_led1 (.ref l) (E := E) (Q₁ := fun obj s₁ => obj = .ref s.heap.objs.size ∧ s₁ = { s with heap := s.heap.push { cls := .type "set", dict := none, data := .set #[] 0 (.fresh 0 0 (!w.params.followText "set-order")) } }) ⟨rfl, rfl⟩) fun r s₁ hr => ?_
  cases r with
  | error e => exact hr
  | ok fl =>
    cases fl with
    | ret obj =>
      obtain ⟨rfl, rfl⟩ := hr
      have hS : (s.heap.push { cls := .type "set", dict := none, data := .set #[] 0 (.fresh 0 0 (!w.params.followText "set-order")) }).get? s.heap.objs.size = some { cls := .type "set", dict := none, data := .set #[] 0 (.fresh 0 0 (!w.params.followText "set-order")) } := Heap.get?_push_size _ rfl
      have hT : Shared.TypeIs { s with heap := s.heap.push { cls := .type "set", dict := none, data := .set #[] 0 (.fresh 0 0 (!w.params.followText "set-order")) } } (.ref s.heap.objs.size) "set" := ⟨_, hS, rfl⟩
      have hli := PySem.F.called_set.init.lookup
      have hbi := PySem.F.called_set.init.bind (.ref s.heap.objs.size)
      repeat (any_goals (first | assumption | wp_step))

      refine codeAny_mono (codeAny_call_builtin (R := wants (fun r s₂ => r = .none ∧ ∃ h' tk c, s₂ = { s with heap := h', toks := tk } ∧ SetR w h' s.heap.objs.size (fun j => decide (j ∈ ns)) c ∧ c ≤ ns.length ∧
          (∀ b o, s.heap.get? b = some o → h'.get? b = some o)) E) PySem.F.called_set.init.plain PySem.F.entry_set_init (check_set_init_1 hT ?_)) fun r₂ s₂ hr₂ => ?_
      · obtain ⟨ol, hol, hcl, nl, hdl⟩ := hl
        obtain ⟨ocls, odict, odata, oslots⟩ := ol
        simp only at hcl hdl
        subst hcl; subst hdl
        have hol' : (s.heap.push { cls := .type "set", dict := none, data := .set #[] 0 (.fresh 0 0 (!w.params.followText "set-order")) }).get? l = some { cls := .type "list", dict := odict, data := .seq items nl, slots := oslots } := Heap.get?_push_of_some _ hol
        have hsls := PySem.F.sub_list_set
        have hslf := PySem.F.sub_list_frozenset
        have hne : (Value.type "list" == Value.type "dict") = false := by decide
        have hl1 : (s.heap.push { cls := .type "set", dict := none, data := .set #[] 0 (.fresh 0 0 (!w.params.followText "set-order")) }).IsList l items := ⟨_, hol', rfl, nl, rfl⟩
        unfold Builtin.«set.__init__» noKeywords Builtin.Frozenset.updateFrom
        generalize hPI : pyIter = PI
        wp_walk
        subst hPI

        refine wpAny_pyIter_list hl1 ?_
        refine wpAny_bind (wpAny_runValue ?_)
        have hlS : l < s.heap.objs.size := Heap.lt_size hol
        have hh3 : A.in1.in1.in1.handled = none := by simp [hh]
        have hz1 : (s.heap.push { cls := .type "set", dict := none, data := .set #[] 0 (.fresh 0 0 (!w.params.followText "set-order")) }).objs.size = s.heap.objs.size + 1 := Heap.size_push ..
        have hneI : l ≠ (s.heap.push { cls := .type "set", dict := none, data := .set #[] 0 (.fresh 0 0 (!w.params.followText "set-order")) }).objs.size := by
          rw [Heap.size_push]; exact Nat.ne_of_lt (Nat.lt_succ_of_lt hlS)
        have hSf : s.heap.objs.size ∉ [(s.heap.push { cls := .type "set", dict := none, data := .set #[] 0 (.fresh 0 0 (!w.params.followText "set-order")) }).objs.size, l] := by
          rw [Heap.size_push]; simp only [List.mem_cons, List.mem_singleton, List.not_mem_nil, or_false, not_or]
          exact ⟨Nat.ne_of_lt (Nat.lt_succ_self _), Nat.ne_of_gt hlS⟩
        have hval : ∀ (i : Nat) (v : Value), items[i]? = some v → ∃ k t, ns[i]? = some k ∧ v = .int k t := fun i v hv => by
          have hi : i < ns.length := by rw [← hisz]; exact (Array.getElem?_eq_some_iff.mp hv).1
          obtain ⟨t, e⟩ := PyProof.Rows.IntsAre.int_at hit i v (by rw [Array.getElem?_toList]; exact hv)
          refine ⟨ns[i], t, List.getElem?_eq_getElem hi, ?_⟩
          rw [e, List.getD_eq_getElem?_getD, List.getElem?_eq_getElem hi] <;> rfl
        refine set_update_ints ((Walks.list hh3 _ l hneI items).toS) s.heap.objs.size
          hSf ns hisz hb hval (items.size - 0) 0 _ (by omega) (Nat.zero_le _)
          ⟨⟨_, Heap.get?_push_size _ rfl, rfl, rfl⟩, (hl1.push _)⟩ ?hS0 ?hR
        case hS0 =>
          have hget : ((s.heap.push { cls := .type "set", dict := none, data := .set #[] 0 (.fresh 0 0 (!w.params.followText "set-order")) }).push { cls := .type "list_iterator", data := .fields #[.ref l, .int 0 0] }).get? s.heap.objs.size
              = some { cls := .type "set", dict := none, data := .set #[] 0 (.fresh 0 0 (!w.params.followText "set-order")) } := Heap.get?_push_of_some _ hS
          exact ⟨0, Nat.le_refl 0, setR_new_at hget⟩
        case hR =>
          intro s' c' hm hc' hS'
          obtain ⟨h', g2, d', tk', os'⟩ := s'
          have eg : g2 = s.gens := hm.gens
          have ed : d' = s.drawn := hm.drawn
          have eo : os' = s.os := hm.os
          subst eg; subst ed; subst eo
          show wpAny _ _ _ _ _ _
          refine wpAny_pure ?_
          show wpAny _ _ (ret Value.none) _ _ _
          rw [hisz] at hc'
          refine wpAny_pure ⟨rfl, h', tk', c', rfl, hS', hc', fun b o e => ?_⟩
          have hb0 : b < s.heap.objs.size := Heap.lt_size e
          have hb1 : b ≠ s.heap.objs.size := Nat.ne_of_lt hb0
          have hb2 : b ≠ (s.heap.push { cls := .type "set", dict := none, data := .set #[] 0 (.fresh 0 0 (!w.params.followText "set-order")) }).objs.size := by
            rw [Heap.size_push]; exact Nat.ne_of_lt (Nat.lt_succ_of_lt hb0)
          exact hm.heap b o (by simp only [List.mem_cons, List.mem_singleton, List.not_mem_nil, or_false, not_or]; exact ⟨hb1, hb2⟩) (Heap.get?_push_of_some _ (Heap.get?_push_of_some _ e))

      · cases r₂ with
        | error e => exact hr₂
        | ok fl₂ =>
          cases fl₂ with
          | ret r =>
            obtain ⟨rfl, h', tk, c', rfl, hS', hc', hk'⟩ := hr₂
            repeat (any_goals (first | assumption | wp_step))
            exact h _ _ _ hS' hc' hk'
          | _ => exact hr₂.elim
    | _ => exact hr.elim

end
def rSetOfI (K : PySem.W.Frag) (w : World) : List V → Hp → VK → Prop := fun xs H Q => ∃ (l : Addr) (ns : List Int), xs = [V.ref l] ∧ SqL K H l (ns.map V.int) ∧ ns.length < 60 ∧ ∀ a c, H a = none → c ≤ ns.length → Q (.ref a) (upd H a (SetO w a (fun j => decide (j ∈ ns)) c))
theorem cr_setOfI {X : Cx} (hc : X.calm = true) : CallR X (.type "set") (rSetOfI X.K X.w) := by
  intro pins s σ H xs us Q I r h
  obtain ⟨l, ns, rfl, hl, h60, q⟩ := h
  rw [Vals.ref1 r]
  obtain ⟨its, rv, pl, hz⟩ := I.list hl
  have hn : H s.heap.objs.size = none := I.hok.fresh (Nat.le_refl _)
  refine call_set_lstI (P := X.prog) (w := X.w) ns (I.ok.hd hc) pl.isList (by simpa using ints_of_vals rv) (by unfold scanBound; omega) fun h' tk c R hc2 k => ?_
  exact ⟨.ref s.heap.objs.size, upd H s.heap.objs.size (SetO X.w s.heap.objs.size (fun j => decide (j ∈ ns)) c), I.laid (t' := tk) k (Nat.le_refl _) (setO_new R), rfl, q _ c hn hc2⟩
/-- x *= e -/
theorem ip_mulX {X : Cx} : PIp X .Mult (rI CMulX fun i j => .int (i * j)) := by
  intro pins s σ H x y v u Q I r1 r2 h
  obtain ⟨i, j, rfl, rfl, c, q⟩ := h
  obtain ⟨t, rfl⟩ := r1
  obtain ⟨t', rfl⟩ := r2
  exact imul_int ⟨.int _, H, I.tok _, ⟨_, rfl⟩, q⟩ c.ok
end Cc

namespace Cc
open PySem PySem.Spec PyProof.Rows L2 Evl
/-! ### own exceptions: raised, caught, asked -/
abbrev bmV : List Value := [.type "ValueError", .type "Exception", .type "BaseException", .type "object"]
/-- an own class of errors that is raised -/
structure XCls (K : PySem.W.Frag) (mg : Str → Option Value) (C : Addr) (x : Str) : Prop where
  g : mg x = some (.ref C)
  ex : PySem.W.excIn K C bmV "ValueError.__new__" = true
  k : PySem.W.keepIn K (.ref C) = true
  b : PySem.W.subIn K (.ref C) (.type "BaseException") = some true
  t : PySem.W.typeIn K (.ref C) = some (.type "type")
section
variable {P : Program} {w : World} {K : PySem.W.Frag} {mg : Str → Option Value} {base : Heap}
theorem Df.okX {x : Str} {st : Stmt} {N ps : List Str} {k : Nat} {sp : Sp} (D : Df K mg x ps st) (S : FnScope N ps (defScope st)) (len : ∀ vs H Q E, sp vs H Q E → vs.length = ps.length)
    (hbody : ∀ (f : Addr) (cdv : Value) (A : Around) (outer : List Env) (s : Shared) (H : Hp) (vs : List V) (Q : VK) (E : XK), Room k (A.deeper (envOfC x (defScope st) s.heap.objs.size f cdv)) → sp vs H Q E →
      ∃ t, PSs (cxOf (L2N.CX P w) P w K mg base N x (defScope st) f cdv A outer s H E) (defBody st) t ∧ t { nx := fun _ H' => Q .non H', rt := Q } (start N vs) H) : Ok P w K mg base (L2N.CX P w) (k + 1) x ps sp := by
  obtain ⟨f, fd, F, g, b⟩ := D
  refine ⟨f, fd, g, F.kp, b, ?_⟩
  obtain ⟨oc, od, kV, doc, pm, an, cdv, ct, osl, rfl, lk, hcd⟩ := F.ex
  exact fn_of lk hcd S len fun A outer s H vs Q E hr hsp => hbody f _ A outer s H vs Q E hr hsp
end
section
variable {X : Cx} {k n : Nat} {x : Str} {ps : List Str} {sp : Sp} {p pos : Pos} {e : Expr} {es : List Expr} {t : TA} {W : WX}
theorem passLN : Passes (L2N.CX X.prog X.w) X E0 := fun _ _ _ _ _ _ _ h => by
  obtain ⟨_, _, _, _, _, _, _, _, _, _, _, _, z⟩ := h
  exact z.elim
theorem takes0N : L2N.Takes X (fun _ _ _ _ => False) := fun _ _ x => by
  obtain ⟨_, _, _, _, _, _, _, _, _, _, _, _, _, _, _, _, z⟩ := x
  exact z.elim
/-- a call of a def that may raise: within a try -/
theorem pe_callX (O : Ok X.prog X.w X.K X.mg X.base (L2N.CX X.prog X.w) k x ps sp) (hr : Room n X.A) (tk : L2N.Takes X W) (ha : PA X (e :: es) t) (hk : k ≤ n := by decide) (hg : Gl X x := by rfl)
    (hdb : (x == ("__debug__" : Str)) = false := by decide) (he : starEach (e :: es) X.env = (false, eval e X.env) :: starEach es X.env := by rfl) (hpl : (backTo pos (starEach es X.env)).any (·.1) = false := by rfl) :
    PE X (.Call (.Name x p) (e :: es) [] pos) (tCallS sp (WE W) t) := by
  obtain ⟨f, fd, hm, kp, b, F⟩ := O
  exact pe_callS F (hr.mono hk) hg hm kp b (fun σ => L2N.passAt tk σ) ha hdb he hpl
/-- .. where it does not raise -/
theorem pe_callL (O : Ok X.prog X.w X.K X.mg X.base (L2N.CX X.prog X.w) k x ps sp) (hr : Room n X.A) (ha : PA X (e :: es) t) (hk : k ≤ n := by decide) (hg : Gl X x := by rfl)
    (hdb : (x == ("__debug__" : Str)) = false := by decide) (he : starEach (e :: es) X.env = (false, eval e X.env) :: starEach es X.env := by rfl) (hpl : (backTo pos (starEach es X.env)).any (·.1) = false := by rfl) :
    PE X (.Call (.Name x p) (e :: es) [] pos) (tCall sp [] E0 t) := by
  obtain ⟨f, fd, hm, kp, b, F⟩ := O
  exact pe_call F (hr.mono hk) hg hm kp b .nil passLN ha hdb he hpl
/-- isinstance(error, C) in the suite, the error's class not yet known -/
def rIsEc (K : PySem.W.Frag) (cls : Value) (d : Option Addr) (a : Addr) : List V → Hp → VK → Prop := fun xs H Q => ∃ D, cls = .ref D ∧ d = none ∧ ExcC K D ∧ rIsE K D a xs H Q
theorem call_isEc {a : Addr} {oe : Obj} {cls : Value} {d : Option Addr} {pn : List (Addr × Obj)} (hz : Zc cls d oe) (hf : ∃ vs, oe.data = .fields vs) : CallR (X.suite a ((a, oe) :: pn)) (.builtin "isinstance") (rIsEc X.K cls d a) := by
  intro pins s σ H xs us Q I r h
  obtain ⟨D, rfl, rfl, C, h⟩ := h
  exact call_isE C hz hf pins s σ H xs us Q I r h
theorem hotS {a : Addr} {oe : Obj} {cls : Value} {d : Option Addr} {pn : List (Addr × Obj)} (hz : L2N.Zn cls d oe) (hf : ∃ vs, oe.data = .fields vs) : L2H.HotC (X.suite a ((a, oe) :: pn)) := by
  obtain ⟨vs, hv⟩ := hf
  exact ⟨(a, oe), ⟨rfl, vs, hv, hz.2.2 vs hv⟩, List.mem_cons_self⟩
end
theorem kit_cls {K : PySem.W.Frag} {t c : Addr} {b : Bool} (h : PySem.W.subIn K (.ref t) (.ref c) = some b) (hs : PySem.W.subIn K (.ref c) (.ref c) = some true) (i : PySem.W.isClsIn K c = true) (y : PySem.W.typeIn K (.ref c) = some (.type "type")) :
    PySem.W.kitOne K (.ref t) (.ref c) = some b := by
  unfold PySem.W.kitOne
  by_cases e : ((Value.ref t) == (Value.ref c)) = true
  · rw [if_pos e]
    have e2 : t = c := Value.ref.inj (eq_of_beq e)
    rw [e2, hs] at h
    exact h
  · rw [if_neg e]
    have h2 : (PySem.W.clsIn K c).isSome = true := i
    show (if ((PySem.W.clsIn K c).isSome && PySem.W.typeIn K (.ref c) == some (.type "type")) = true then PySem.W.subIn K (.ref t) (.ref c) else none) = some b
    rw [if_pos (by rw [h2, y]; rfl)]
    exact h
end Cc

namespace Cc
open PySem PySem.Spec PyProof.Rows L2 Evl
structure Bi (mg : Str → Option Value) : Prop where
  all : mg "all" = none
  any : mg "any" = none
  enumerate : mg "enumerate" = none
  isinstance : mg "isinstance" = none
  len : mg "len" = none
  max : mg "max" = none
  range : mg "range" = none
  set : mg "set" = none
  sorted : mg "sorted" = none
  ValueError_ : mg "ValueError" = none
  bool_ : mg "bool" = none
  int_ : mg "int" = none
  k_GREATEST : ∃ u, mg "GREATEST" = some u ∧ RelV (.int 997) u
abbrev s_is_whole : Stmt := topS 9
abbrev N_is_whole : List Str := ["thing"]
abbrev ps_is_whole : List Str := ["thing"]
theorem sc_is_whole : FnScope N_is_whole ps_is_whole (defScope s_is_whole) := ⟨rfl, rfl, rfl, by decide +kernel, rfl, by decide +kernel, by decide +kernel⟩
abbrev s_figures_of : Stmt := topS 12
abbrev N_figures_of : List Str := ["prime", "many", "found"]
abbrev ps_figures_of : List Str := ["prime", "many"]
theorem sc_figures_of : FnScope N_figures_of ps_figures_of (defScope s_figures_of) := ⟨rfl, rfl, rfl, by decide +kernel, rfl, by decide +kernel, by decide +kernel⟩

section
variable {P : Program} {w : World} {K : PySem.W.Frag} {mg : Str → Option Value} {base : Heap}
/-- what is_whole says of a value -/
inductive Arg (K : PySem.W.Frag) (H : Hp) : V → Option Int → Prop where
  | int (i : Int) : Arg K H (.int i) (some i)
  | bl (b : Bool) : Arg K H (.bl b) none
  | oth {x : V} {t : String} (h : TyX K H x (.type t)) (k : kitB t "int" = some false) : Arg K H x none
def whole (o : Option Int) : Bool := match o with
  | some i => decide (0 ≤ i)
  | none => false
def sp_is_whole (K : PySem.W.Frag) : Sp := fun vs H Q _ => ∃ x o, vs = [x] ∧ Arg K H x o ∧ Q (.bl (whole o)) H
theorem ok_is_whole (T : Bi mg) (D : Df K mg "is_whole" ps_is_whole s_is_whole) : Ok P w K mg base CX0 1 "is_whole" ps_is_whole (sp_is_whole K) := by
  refine D.ok sc_is_whole (fun vs H Q E h => ?_) (fun f cdv A outer s H vs Q E hr h => ?_)
  · obtain ⟨x, o, rfl, _⟩ := h; rfl
  · obtain ⟨x, o, rfl, a, q⟩ := h
    refine ⟨_, (pss_one (ps_ret (pe_and (pe_callB call_isi (by rfl) T.isinstance (by decide +kernel) (pa_cons (pv 0) (pa_cons (pe_bltn (v := .ty "int") (by rfl) T.int_ (by decide +kernel) rfl) pa_nil))) (pe_and (pe_not (pe_callB call_isi (by rfl) T.isinstance (by decide +kernel) (pa_cons (pv 0) (pa_cons (pe_bltn (v := .ty "bool") (by rfl) T.bool_ (by decide +kernel) rfl) pa_nil)))) (pe_one (pe_cmpR op_ge (pv 0) pe_int (nomark _))))))), ?_⟩
    cases a with
    | int i =>
      refine ⟨_, rfl, _, _, _, _, _, rfl, .ty "int", .base (.int i), kit_ty (by decide +kernel : kitB "int" "int" = some true), _, rfl, if_t rfl ?_⟩
      refine ⟨_, rfl, _, _, _, _, _, rfl, .ty "bool", .base (.int i), kit_ty (by decide +kernel : kitB "int" "bool" = some false), _, rfl, _, rfl, if_t rfl ?_⟩
      exact ⟨_, rfl, _, _, rfl, rfl, q⟩
    | bl b =>
      refine ⟨_, rfl, _, _, _, _, _, rfl, .ty "int", .base (.bl b), kit_ty (by decide +kernel : kitB "bool" "int" = some true), _, rfl, if_t rfl ?_⟩
      exact ⟨_, rfl, _, _, _, _, _, rfl, .ty "bool", .base (.bl b), kit_ty (by decide +kernel : kitB "bool" "bool" = some true), _, rfl, _, rfl, if_f rfl q⟩
    | oth h k =>
      exact ⟨_, rfl, _, _, _, _, _, rfl, .ty "int", h, kit_ty k, _, rfl, if_f rfl q⟩
/-! ### figures_of -/
def sp_figures_of : Sp := fun vs H Q _ => ∃ p n : Nat, vs = [.int p, .int n] ∧ (2 ≤ p ∧ p ≤ 1000 ∧ n < 2 ^ 1000) ∧ RetL (nV (figs p n)) H Q
theorem ok_figures_of (D : Df K mg "figures_of" ps_figures_of s_figures_of) : Ok P w K mg base CX0 1 "figures_of" ps_figures_of sp_figures_of := by
  refine D.ok sc_figures_of (fun vs H Q E h => ?_) (fun f cdv A outer s H vs Q E hr h => ?_)
  · obtain ⟨p, n, rfl, _⟩ := h; rfl
  · obtain ⟨p, n, rfl, ⟨hp, hp2, hn⟩, q⟩ := h
    refine ⟨_, (pss_cons (ps_set (i := 2) sc_figures_of.nd rfl (.inl rfl) (pe_lst pa_nil))
      (pss_cons (ps_while PassesOwn.never (pt_cmpR op_gt (pv 1) pe_int (nomark _))
      (pss_cons (ps_expr (pe_bm PySem.F.plainAttrs_list PySem.F.slot_list_append PySem.F.type_list_append mt_append (pv 2) (pa_cons (pe_op op_mod (pv 1) (pv 0)) pa_nil)))
      (pss_one (ps_set (i := 1) sc_figures_of.nd rfl (.inl rfl) (pe_op op_fdivW (pv 1) (pv 0))))))
      (pss_one (ps_ret (pv 2))))), ?_⟩
    refine ⟨Nat.zero_le _, fun l nl => ?_⟩
    refine ⟨fun m σ H' => ∃ (n' : Nat) (done : List Nat), m = n' ∧ σ = [some (.int p), some (.int n'), some (.ref l)] ∧ figs p n = done ++ figs p n' ∧ Ex H H' ∧ H' l = some (.lst (nV done)), ⟨n, n, [], rfl, rfl, rfl, Ex.new nl, upd_same⟩, fun m σ H' hW => ?_⟩
    obtain ⟨n', done, rfl, rfl, e1, e2, e3⟩ := hW
    refine ⟨_, rfl, _, _, rfl, rfl, _, rfl, ite2 (fun c => ?_) (fun c => ?_)⟩
    · have c : (0 : Int) < (m : Int) := of_decide_eq_true c
      have hm : 0 < m := by omega
      refine ⟨fun σ' H2 => ∃ (n' : Nat) (done : List Nat), n' < m ∧ σ' = [some (.int p), some (.int n'), some (.ref l)] ∧ figs p n = done ++ figs p n' ∧ Ex H H2 ∧ H2 l = some (.lst (nV done)), fun σ' H2 hN => ?_, ?_⟩
      · obtain ⟨n2, d2, h1, h2, h3, h4, h5⟩ := hN
        exact ⟨n2, h1, n2, d2, rfl, h2, h3, h4, h5⟩
      · have hlen : done.length < 100000 := by
          have h1 := figs_len_le hp n 1000 hn
          rw [e1, List.length_append] at h1
          omega
        refine ⟨_, rfl, .inl ⟨rfl, _, SqL.of e3⟩, _, rfl, _, rfl, _, _, rfl, rfl, (by show (0 : Int) < p; omega), l, _, _, rfl, rfl, e3, sz_lt (by rw [List.length_map]; exact hlen), ?_⟩
        refine ⟨_, rfl, _, rfl, _, _, rfl, rfl, div_small (by omega) hp2, m / p, done ++ [m % p], div_lt hp hm, rfl, ?_, Ex.mut e2 nl, ?_⟩
        · rw [e1, figs_pos hp hm, List.append_assoc]; rfl
        · rw [upd_same, ← nV_app]; rfl
    · have c : ¬ (0 : Int) < (m : Int) := fun z => c (decide_eq_true z)
      have hm : m = 0 := by omega
      subst hm
      rw [figs_zero, List.append_nil] at e1
      rw [← e1] at e3
      exact ⟨_, rfl, q l H' nl e2 e3⟩
end
end Cc

namespace Cc
open PySem PySem.Spec PyProof.Rows L2 Evl
theorem nV_ints (l : List Nat) : nV l = (l.map fun (d : Nat) => (d : Int)).map V.int := by
  rw [List.map_map]; rfl
theorem sum_cast : ∀ l : List Nat, (l.map fun (d : Nat) => (d : Int)).sum = ((l.sum : Nat) : Int)
  | [] => rfl
  | d :: l => by
    rw [List.map_cons, List.sum_cons, List.sum_cons, sum_cast l, Int.natCast_add]
/-- a new tuple -/
def RetU (xs : List V) (H : Hp) (Q : VK) : Prop := ∀ p H2, H p = none → Ex H H2 → H2 p = some (.tup xs) → Q (.ref p) H2
theorem take_more {α : Type} {l : List α} {i : Nat} {x : α} (h : l[i]? = some x) : l.take (i + 1) = l.take i ++ [x] := by
  rw [List.take_add_one, h]; rfl
end Cc

namespace Cc
open PySem PySem.Spec PyProof.Rows L2 Evl
/-! ### data: pairs and lists of whole numbers -/
theorem shaped2 (a b : Int) : SeqAt.shaped (.tuple [.int a, .int b]) = true := by simp [SeqAt.shaped, PyData.canLay0, PyData.canLayAll0, PyData.depth, PyData.depthAll]
theorem eqv2 (a b c d : Int) : PyData.eqv (.tuple [.int a, .int b]) (.tuple [.int c, .int d]) = (a == c && b == d) := by simp [PyData.eqv, PyData.eqvAll]
theorem eqv2_refl (a b : Int) : PyData.eqv (.tuple [.int a, .int b]) (.tuple [.int a, .int b]) = true := by simp [PyData.eqv, PyData.eqvAll]
theorem dp2 {K : PySem.W.Frag} {H : Hp} {u : Addr} {a b : Int} (h : H u = some (.tup [.int a, .int b])) : Dp K H (.ref u) (.tuple [.int a, .int b]) := .tup (SqT.of h) (.cons (.int _) (.cons (.int _) .nil))
def dI (l : List Nat) : List PyData := l.map fun (d : Nat) => .int (d : Int)
theorem dpAll {K : PySem.W.Frag} {H : Hp} : ∀ l : List Nat, DpAll K H (nV l) (dI l)
  | [] => .nil
  | d :: l => .cons (.int _) (dpAll l)
theorem dpL {K : PySem.W.Frag} {H : Hp} {a : Addr} {l : List Nat} (h : SqL K H a (nV l)) : Dp K H (.ref a) (.list (dI l)) := .lst h (dpAll l)
theorem lay_dI : ∀ l : List Nat, PyData.canLayAll0 (dI l) = true
  | [] => rfl
  | d :: l => by
    show PyData.canLayAll0 (.int d :: dI l) = true
    rw [PyData.canLayAll0, lay_dI l]; rfl
theorem depth_dI : ∀ l : List Nat, PyData.depthAll (dI l) = 0
  | [] => rfl
  | d :: l => by
    show PyData.depthAll (.int d :: dI l) = 0
    rw [PyData.depthAll, depth_dI l]; rfl
theorem shapedI (l : List Nat) : SeqAt.shaped (.list (dI l)) = true := by
  unfold SeqAt.shaped
  rw [PyData.canLay0, PyData.depth, lay_dI, depth_dI]
  rfl
theorem eqvI (l : List Nat) : PyData.eqv (.list (dI l)) (.list (dI l)) = true := SeqAt.eqv_refl _ (by rw [PyData.canLay0]; exact lay_dI l)
end Cc

namespace Cc
open PySem PySem.Spec PyProof.Rows L2 Evl
open Builtin.Int (intBits)
abbrev s__law_cell_at : Stmt := topS 25
abbrev N__law_cell_at : List Str := ["_law_script", "_law_k"]
abbrev ps__law_cell_at : List Str := ["_law_script", "_law_k"]
theorem sc__law_cell_at : FnScope N__law_cell_at ps__law_cell_at (defScope s__law_cell_at) := ⟨rfl, rfl, rfl, by decide +kernel, rfl, by decide +kernel, by decide +kernel⟩
abbrev s__law_draw : Stmt := topS 26
abbrev N__law_draw : List Str := ["_law_cell", "_law_k", "_law_many", "_law_primes"]
abbrev ps__law_draw : List Str := ["_law_cell", "_law_k", "_law_many"]
theorem sc__law_draw : FnScope N__law_draw ps__law_draw (defScope s__law_draw) := ⟨rfl, rfl, rfl, by decide +kernel, rfl, by decide +kernel, by decide +kernel⟩
abbrev s__law_value : Stmt := topS 27
abbrev N__law_value : List Str := ["_law_cell", "_law_k", "_law_limit"]
abbrev ps__law_value : List Str := ["_law_cell", "_law_k", "_law_limit"]
theorem sc__law_value : FnScope N__law_value ps__law_value (defScope s__law_value) := ⟨rfl, rfl, rfl, by decide +kernel, rfl, by decide +kernel, by decide +kernel⟩

theorem mul_bits {i j : Int} {a b : Nat} (ha : intBits i ≤ a) (hb : intBits j ≤ b) (h : a + b ≤ 134217728) : CMulX i j := by
  unfold CMulX
  omega
theorem bits_lt {i : Int} {a : Nat} (h : i.natAbs < 2 ^ a) : intBits i ≤ a := PyProof.Rows.intBits_le h
theorem bits_nat {n a : Nat} (h : n < 2 ^ a) : intBits (n : Int) ≤ a := bits_lt (by rw [Int.natAbs_natCast]; exact h)
theorem bits_small {n : Nat} (h : n ≤ 1000000) : intBits (n : Int) ≤ 20 := bits_nat (Nat.lt_of_le_of_lt h (by decide))
section
variable {P : Program} {w : World} {K : PySem.W.Frag} {mg : Str → Option Value} {base : Heap}
/-! ### the law's readers -/
def sp_cell_at (K : PySem.W.Frag) : Sp := fun vs H Q _ => ∃ (a : Addr) (ns : List Int) (k : Nat), vs = [.ref a, .int k] ∧ SqL K H a (ns.map V.int) ∧ Q (.int (ns.getD k 0)) H
theorem ok__law_cell_at (T : Bi mg) (D : Df K mg "_law_cell_at" ps__law_cell_at s__law_cell_at) : Ok P w K mg base CX0 1 "_law_cell_at" ps__law_cell_at (sp_cell_at K) := by
  refine D.ok sc__law_cell_at (fun vs H Q E h => ?_) (fun f cdv A outer s H vs Q E hr h => ?_)
  · obtain ⟨a, ns, k, rfl, _⟩ := h; rfl
  · obtain ⟨a, ns, k, rfl, hS, q⟩ := h
    refine ⟨_, (pss_cons (ps_if (pt_cmpR op_lt (pv 1) (pe_callB call_len_seq (by rfl) T.len (by decide +kernel) (pa_cons (pv 0) pa_nil)) (nomark _))
      (pss_one (ps_ret (pe_ix (r := rIxL K) ix_list (pv 0) (pv 1) (fun _ _ => rfl))))
      pss_nil)
      (pss_one (ps_ret pe_int))), ?_⟩
    have hlen : (ns.map V.int).length = ns.length := List.length_map _
    refine ⟨_, rfl, _, rfl, a, _, rfl, .inl hS, _, _, rfl, rfl, _, rfl, ite2 (fun c => ?_) (fun c => ?_)⟩
    · have c : (k : Int) < ((ns.map V.int).length : Int) := of_decide_eq_true c
      have hi : k < ns.length := by omega
      have e : ns[k]? = some (ns.getD k 0) := by rw [List.getD_eq_getElem?_getD, List.getElem?_eq_getElem hi]; rfl
      exact ⟨_, rfl, _, rfl, a, _, _, _, rfl, rfl, hS, atI_nat (by rw [List.getElem?_map, e]; rfl), q⟩
    · have c : ¬ (k : Int) < ((ns.map V.int).length : Int) := fun z => c (decide_eq_true z)
      have e : ns.getD k 0 = 0 := by rw [List.getD_eq_getElem?_getD, List.getElem?_eq_none (by omega)]; rfl
      rw [e] at q
      exact q
def drP : List Int := [1000003, 1000033, 1000037, 1000039, 1000081, 1000099, 1000117, 1000121, 1000133, 1000151, 1000159, 1000171, 1000183, 1000187, 1000193, 1000199]
theorem drP_at {j : Nat} (h : j < 16) : ∃ z : Int, (drP.map V.int)[j]? = some (.int z) ∧ 0 < z := by
  have h1 : ∀ j, j < 16 → 0 < drP.getD j 0 := by decide
  have hl : j < drP.length := h
  refine ⟨drP.getD j 0, ?_, h1 j h⟩
  rw [List.getElem?_map, List.getD_eq_getElem?_getD, List.getElem?_eq_getElem hl]; rfl
def sp_draw : Sp := fun vs H Q _ => ∃ (c : Int) (k m : Nat), vs = [.int c, .int k, .int m] ∧ (intBits c ≤ 4000000 ∧ k ≤ 1000 ∧ 0 < m) ∧ ∀ r : Nat, r < m → RetV (.int r) H Q
theorem ok__law_draw (D : Df K mg "_law_draw" ps__law_draw s__law_draw) : Ok P w K mg base CX0 1 "_law_draw" ps__law_draw sp_draw := by
  refine D.ok sc__law_draw (fun vs H Q E h => ?_) (fun f cdv A outer s H vs Q E hr h => ?_)
  · obtain ⟨c, k, m, rfl, _⟩ := h; rfl
  · obtain ⟨c, k, m, rfl, ⟨hc, hk, hm⟩, q⟩ := h
    refine ⟨_, (pss_cons (ps_set (i := 3) sc__law_draw.nd rfl (.inl rfl) (pe_tup (pa_cons pe_int (pa_cons pe_int (pa_cons pe_int (pa_cons pe_int (pa_cons pe_int (pa_cons pe_int (pa_cons pe_int (pa_cons pe_int (pa_cons pe_int (pa_cons pe_int (pa_cons pe_int (pa_cons pe_int (pa_cons pe_int (pa_cons pe_int (pa_cons pe_int (pa_cons pe_int pa_nil))))))))))))))))))
      (pss_one (ps_ret (pe_op op_mod (pe_op op_mod (pe_op op_add (pe_op op_mulX (pv 0) pe_int) (pe_op op_mulX (pv 1) pe_int)) (pe_ix (r := rIxT K) ix_tup (pv 3) (pe_op op_mod (pv 1) pe_int) (fun _ _ => rfl))) (pv 2))))), ?_⟩
    refine ⟨by show 16 ≤ sizeLine; decide, fun t nt => ?_⟩
    obtain ⟨z, hz, hz0⟩ := drP_at (show k % 16 < 16 by omega)
    refine ⟨_, rfl, _, _, rfl, rfl, mul_bits hc (bits_small (n := 48271) (by decide)) (by decide), _, rfl, _, _, rfl, rfl, mul_bits (bits_small (n := k) (by omega)) (bits_small (n := 69621) (by decide)) (by decide), _, _, rfl, rfl, ?_⟩
    refine ⟨_, rfl, _, rfl, _, _, rfl, rfl, (by show (0 : Int) < 16; decide), t, drP.map V.int, _, .int z, rfl, rfl, SqT.of upd_same, atI_nat (j := k % 16) hz, _, _, rfl, rfl, hz0, _, rfl, _, _, rfl, rfl, (by show (0 : Int) < m; omega), ?_⟩
    obtain ⟨r, hr⟩ := Int.eq_ofNat_of_zero_le (Int.emod_nonneg ((c * 48271 + k * 69621) % z) (show (m : Int) ≠ 0 by omega))
    have hlt := Int.emod_lt_of_pos ((c * 48271 + k * 69621) % z) (show (0 : Int) < m by omega)
    have hr2 : ((c * 48271 + (k : Int) * 69621) % z) % (m : Int) = (r : Int) := hr
    rw [hr2] at hlt
    show Q (.int (((c * 48271 + (k : Int) * 69621) % z) % (m : Int))) _
    rw [hr2]
    exact q r (by omega) _ (Ex.new nt)
def sp_value : Sp := fun vs H Q _ => ∃ (c : Int) (k m : Nat), vs = [.int c, .int k, .int m] ∧ (intBits c ≤ 1048576 ∧ k ≤ 1000 ∧ 0 < m ∧ m ≤ 900000) ∧ ∀ r : Nat, r < 2 ^ 140 → RetV (.int r) H Q
theorem ok__law_value (D : Df K mg "_law_value" ps__law_value s__law_value) (O__law_draw : Ok P w K mg base CX0 1 "_law_draw" ps__law_draw sp_draw) : Ok P w K mg base CX0 2 "_law_value" ps__law_value sp_value := by
  refine D.ok sc__law_value (fun vs H Q E h => ?_) (fun f cdv A outer s H vs Q E hr h => ?_)
  · obtain ⟨c, k, m, rfl, _⟩ := h; rfl
  · obtain ⟨c, k, m, rfl, ⟨hc, hk, hm, hm2⟩, q⟩ := h
    refine ⟨_, (pss_cons (ps_if (pt_cmpR op_ge (pv 0) (pe_op op_pow pe_int pe_int) (nomark _))
      (pss_one (ps_ret (pe_op op_mod (pe_op op_sub (pv 0) (pe_op op_pow pe_int pe_int)) (pe_op op_pow pe_int pe_int))))
      pss_nil)
      (pss_one (ps_ret (pe_callO O__law_draw hr (pa_cons (pe_op op_mulX (pe_op op_add (pv 0) (pe_op op_mulX pe_int (pv 1))) (pe_op op_add (pe_op op_add (pv 0) (pe_op op_mulX pe_int (pv 1))) pe_int)) (pa_cons (pe_op op_add (pe_op op_mod (pv 1) pe_int) pe_int) (pa_cons (pv 2) pa_nil))))))), ?_⟩
    refine ⟨_, rfl, _, _, rfl, rfl, ⟨by decide, by decide, by decide⟩, _, _, rfl, rfl, _, rfl, ite2 (fun _ => ?_) (fun _ => ?_)⟩
    · refine ⟨_, rfl, _, _, rfl, rfl, ⟨by decide, by decide, by decide⟩, _, _, rfl, rfl, _, _, rfl, rfl, ⟨by decide, by decide, by decide⟩, _, _, rfl, rfl, (by show (0 : Int) < 10 ^ 40; decide), ?_⟩
      obtain ⟨r, hr⟩ := Int.eq_ofNat_of_zero_le (Int.emod_nonneg (c - 10 ^ (18 : Nat)) (show (10 : Int) ^ (40 : Nat) ≠ 0 by decide))
      have hlt := Int.emod_lt_of_pos (c - 10 ^ (18 : Nat)) (show (0 : Int) < 10 ^ (40 : Nat) by decide)
      rw [hr] at hlt
      show Q (.int ((c - 10 ^ (18 : Nat)) % 10 ^ (40 : Nat))) _
      rw [hr]
      refine q r ?_ _ (Ex.refl H)
      have : ((10 : Int) ^ (40 : Nat)) = ((10 ^ 40 : Nat) : Int) := by decide
      rw [this] at hlt
      exact Nat.lt_trans (Int.ofNat_lt.mp hlt) (by decide)
    · have bk : intBits ((977 : Int) * (k : Int)) ≤ 30 := intBits_mul_le (m := 10) (n := 20) (bits_nat (n := 977) (by decide)) (bits_small (by omega))
      have bk2 : intBits ((31 : Int) * (k : Int)) ≤ 30 := intBits_mul_le (m := 10) (n := 20) (bits_nat (n := 31) (by decide)) (bits_small (by omega))
      have b1 : intBits (c + 977 * (k : Int)) ≤ 1048577 := Nat.le_trans (intBits_add_le hc bk) (by decide)
      have b2 : intBits (c + 31 * (k : Int)) ≤ 1048577 := Nat.le_trans (intBits_add_le hc bk2) (by decide)
      have b3 : intBits (c + 31 * (k : Int) + 5) ≤ 1048578 := Nat.le_trans (intBits_add_le b2 (bits_nat (n := 5) (a := 10) (by decide))) (by decide)
      have b4 : intBits ((c + 977 * (k : Int)) * (c + 31 * (k : Int) + 5)) ≤ 4000000 := Nat.le_trans (intBits_mul_le b1 b3) (by decide)
      refine ⟨_, rfl, _, rfl, _, _, rfl, rfl, mul_bits (a := 10) (b := 20) (bits_nat (n := 977) (by decide)) (bits_small (by omega)) (by decide), _, _, rfl, rfl, _, rfl, _, rfl, _, _, rfl, rfl, mul_bits (a := 10) (b := 20) (bits_nat (n := 31) (by decide)) (bits_small (by omega)) (by decide), _, _, rfl, rfl, _, _, rfl, rfl, _, _, rfl, rfl, mul_bits b1 b3 (by decide), ?_⟩
      refine ⟨_, rfl, _, _, rfl, rfl, (by show (0 : Int) < 9; decide), _, _, rfl, rfl, _, rfl, _, k % 9 + 1, m, rfl, ⟨b4, by omega, hm⟩, fun r hr => ?_⟩
      exact q r (Nat.lt_trans hr (Nat.lt_of_le_of_lt hm2 (by decide)))
end
end Cc

namespace Cc
open PySem PySem.Spec PyProof.Rows L2 Evl
open Builtin.Int (intBits)
abbrev s__law_prime : Stmt := topS 28
abbrev N__law_prime : List Str := ["_law_script", "_law_k", "_law_cell", "_law_found", "_law_part"]
abbrev ps__law_prime : List Str := ["_law_script", "_law_k"]
theorem sc__law_prime : FnScope N__law_prime ps__law_prime (defScope s__law_prime) := ⟨rfl, rfl, rfl, by decide +kernel, rfl, by decide +kernel, by decide +kernel⟩
abbrev s__law_figures : Stmt := topS 29
abbrev N__law_figures : List Str := ["_law_prime_here", "_law_many", "_law_found"]
abbrev ps__law_figures : List Str := ["_law_prime_here", "_law_many"]
theorem sc__law_figures : FnScope N__law_figures ps__law_figures (defScope s__law_figures) := ⟨rfl, rfl, rfl, by decide +kernel, rfl, by decide +kernel, by decide +kernel⟩
abbrev s__law_worth : Stmt := topS 30
abbrev N__law_worth : List Str := ["_law_prime_here", "_law_told_by", "_law_found", "_law_figure"]
abbrev ps__law_worth : List Str := ["_law_prime_here", "_law_told_by"]
theorem sc__law_worth : FnScope N__law_worth ps__law_worth (defScope s__law_worth) := ⟨rfl, rfl, rfl, by decide +kernel, rfl, by decide +kernel, by decide +kernel⟩
abbrev s__law_pair : Stmt := topS 31
abbrev N__law_pair : List Str := ["_law_script", "_law_k", "_law_prime_here", "_law_kind", "_law_limit", "_law_many", "_law_drawn", "_law_some", "_law_less", "_law_at", "_law_figure", "_law_power"]
abbrev ps__law_pair : List Str := ["_law_script", "_law_k", "_law_prime_here"]
theorem sc__law_pair : FnScope N__law_pair ps__law_pair (defScope s__law_pair) := ⟨rfl, rfl, rfl, by decide +kernel, rfl, by decide +kernel, by decide +kernel⟩

section
variable {P : Program} {w : World} {K : PySem.W.Frag} {mg : Str → Option Value} {base : Heap}
/-- any([f % part == 0 for part in range(2, 32) if part < f]) -/
theorem any_parts {σ : L2.St} {H : Hp} {Q : VK} {f i j : Nat} (hi : σ[i]? = some (some (.int f))) (hij : j ≠ i) (hj : j < σ.length) (q : ∀ H', Ex H H' → Q (.bl (!isP f)) H') :
    tCB (rAny K) (tCons (tLc (iRng2 (tCons (tC (.int 2)) (tCons (tC (.int 32)) tNil))) (gName j) (tTest (tOp (rI0 fun i j => .bl (decide (i < j))) (tVar j) (tVar i))) (tOp rEq (tOp (rI (fun _ j => 0 < j) fun i j => .int (i % j)) (tVar i) (tVar j)) (tC (.int 0))) [j]) tNil) σ H Q := by
  refine ⟨2, 32, rfl, ⟨by decide, by decide, by decide, by decide⟩, fun D nD => lc_range (lo := 2) (n := 30) (fun n H' => ∃ bs : List Bool, H' D = some (.lst (bs.map V.bl)) ∧ bs.any id = anyP f n ∧ bs.length ≤ n ∧ Ex H H') ⟨[], upd_same, rfl, Nat.le_refl _, Ex.new nD⟩ ?_ ?_⟩
  · rintro n H' hn ⟨bs, h1, h2, h3, h4⟩
    have hw : wipe σ [j] = σ.set j none := rfl
    have hl : (σ.set j none).length = σ.length := List.length_set
    show wipe ((wipe σ [j]).set j (some (.int (2 + (n : Int))))) [j] = wipe σ [j] ∧ _
    have e1 : ((wipe σ [j]).set j (some (.int (2 + (n : Int)))))[j]? = some (some (.int (2 + (n : Int)))) := by
      rw [hw, List.getElem?_set_self (by omega)]
    have e2 : ((wipe σ [j]).set j (some (.int (2 + (n : Int)))))[i]? = some (some (.int f)) := by
      rw [hw, List.getElem?_set_ne hij, List.getElem?_set_ne hij, hi]
    refine ⟨?_, _, e1, _, e2, _, _, rfl, rfl, _, rfl, ite2 (fun c => ?_) (fun c => ?_)⟩
    · rw [hw]
      show ((σ.set j none).set j _).set j none = σ.set j none
      rw [List.set_set, List.set_set]
    · have c : (2 : Int) + (n : Int) < (f : Int) := of_decide_eq_true c
      refine ⟨_, e2, _, e1, _, _, rfl, rfl, (by show (0 : Int) < 2 + (n : Int); omega), rfl, bs.map V.bl, h1, sz_lt (by rw [List.length_map]; omega), bs ++ [decide (f % (n + 2) = 0)], ?_, ?_, by rw [List.length_append]; exact Nat.succ_le_succ h3, Ex.mut h4 nD⟩
      · rw [upd_same, List.map_append]
        refine congrArg (fun z => some (HO.lst (bs.map V.bl ++ [V.bl z]))) (decide_eq_decide.mpr ?_)
        rw [show (2 : Int) + (n : Int) = ((n + 2 : Nat) : Int) by omega]
        constructor
        · intro z
          have z2 : ((f % (n + 2) : Nat) : Int) = 0 := V.int.inj z
          omega
        · intro z
          show V.int ((f % (n + 2) : Nat) : Int) = V.int 0
          rw [z]; rfl
      · rw [anyP_succ, List.any_append, h2, decide_eq_true (show n + 2 < f by omega)]
        simp
        rfl
    · have c : ¬ (2 : Int) + (n : Int) < (f : Int) := fun z => c (decide_eq_true z)
      refine ⟨bs, h1, ?_, by omega, h4⟩
      rw [anyP_succ, h2, decide_eq_false (show ¬ n + 2 < f by omega), Bool.false_and, Bool.or_false]
  · rintro H' ⟨bs, h1, h2, h3, h4⟩
    refine ⟨D, bs, rfl, SqL.of h1, ?_⟩
    rw [h2, anyP_isP]
    exact q H' h4
/-! ### _law_prime -/
def sp_prime (K : PySem.W.Frag) : Sp := fun vs H Q _ => ∃ (a : Addr) (ns : List Int) (k : Nat), vs = [.ref a, .int k] ∧ (SqL K H a (ns.map V.int) ∧ k ≤ 100) ∧ ∀ p, Pr p → RetV (.int (p : Nat)) H Q
theorem ok__law_prime (T : Bi mg) (D : Df K mg "_law_prime" ps__law_prime s__law_prime) (O__law_cell_at : Ok P w K mg base CX0 1 "_law_cell_at" ps__law_cell_at (sp_cell_at K)) (O__law_draw : Ok P w K mg base CX0 1 "_law_draw" ps__law_draw sp_draw) : Ok P w K mg base CX0 2 "_law_prime" ps__law_prime (sp_prime K) := by
  refine D.ok sc__law_prime (fun vs H Q E h => ?_) (fun f cdv A outer s H vs Q E hr h => ?_)
  · obtain ⟨a, ns, k, rfl, _⟩ := h; rfl
  · obtain ⟨a, ns, k, rfl, ⟨hS, hk⟩, q⟩ := h
    refine ⟨_, (pss_cons (ps_set (i := 2) sc__law_prime.nd rfl (.inl rfl) (pe_op op_mod (pe_callO O__law_cell_at hr (pa_cons (pv 0) (pa_cons (pv 1) pa_nil))) (pe_op op_pow pe_int pe_int)))
      (pss_cons (ps_set (i := 3) sc__law_prime.nd rfl (.inr rfl) (pe_ix (r := rIxT K) ix_tup (pe_tup (pa_cons pe_int (pa_cons pe_int (pa_cons (pe_op op_add pe_int (pe_callO O__law_draw hr (pa_cons (pv 2) (pa_cons pe_int (pa_cons pe_int pa_nil))))) (pa_cons (pe_op op_add pe_int (pe_callO O__law_draw hr (pa_cons (pv 2) (pa_cons pe_int (pa_cons pe_int pa_nil))))) pa_nil))))) (pe_callO O__law_draw hr (pa_cons (pe_op op_add (pv 2) (pe_op op_mulX pe_int (pv 1))) (pa_cons pe_int (pa_cons pe_int pa_nil)))) (fun _ _ => rfl)))
      (pss_cons (ps_while PassesOwn.never (pt_val (pe_callB (cr_any rfl) (by rfl) T.any (by decide +kernel) (pa_cons (pe_lc (own := [("_law_part", 4)]) (g := gName 4) (by rfl) sc__law_prime.nd (pi_range2 (by rfl) T.range (pa_cons pe_int (pa_cons pe_int pa_nil))) (blkOk_by (own := [("_law_part", 4)]) (N := N__law_prime) (sc := defScope s__law_prime) (by decide +kernel)) (fun _ _ _ _ _ => (pg_name (i := 4) sc__law_prime.nd rfl (.inl rfl))) (fun _ _ _ _ _ => (pts_one (pt_cmpR op_lt (pv 4) (pv 3) (nomark _)))) (fun _ _ _ _ _ => (pe_cmpR op_eq (pe_op op_mod (pv 3) (pv 4)) pe_int (nomark _)))) pa_nil)))
      (pss_one (ps_set (i := 3) sc__law_prime.nd rfl (.inr rfl) (pe_op op_add (pv 3) pe_int))))
      (pss_one (ps_ret (pv 3)))))), ?_⟩
    refine ⟨_, rfl, _, rfl, a, ns, k, rfl, hS, _, _, rfl, rfl, ⟨by decide, by decide, by decide⟩, _, _, rfl, rfl, (by show (0 : Int) < 10 ^ 18; decide), ?_⟩
    obtain ⟨c, hc⟩ := Int.eq_ofNat_of_zero_le (Int.emod_nonneg (ns.getD k 0) (show (10 : Int) ^ (18 : Nat) ≠ 0 by decide))
    have hlt := Int.emod_lt_of_pos (ns.getD k 0) (show (0 : Int) < 10 ^ (18 : Nat) by decide)
    have hc : (ns.getD k 0) % (10 : Int) ^ (Int.toNat 18) = (c : Int) := hc
    have hlt : (ns.getD k 0) % (10 : Int) ^ (Int.toNat 18) < (10 : Int) ^ (18 : Nat) := hlt
    dsimp only
    rw [hc] at hlt ⊢
    have hc2 : c < 2 ^ 60 := by
      have : ((10 : Int) ^ (18 : Nat)) = ((10 ^ 18 : Nat) : Int) := by decide
      rw [this] at hlt
      exact Nat.lt_trans (Int.ofNat_lt.mp hlt) (by decide)
    have bc := bits_nat hc2
    have b31 : intBits ((31 : Int) * (k : Int)) ≤ 30 := intBits_mul_le (m := 10) (n := 20) (bits_nat (n := 31) (by decide)) (bits_small (by omega))
    have b4 : intBits ((c : Int) + 31 * (k : Int)) ≤ 4000000 := Nat.le_trans (intBits_add_le bc b31) (by decide)
    refine ⟨_, rfl, _, 4, 30, rfl, ⟨by omega, by decide, by decide⟩, fun r1 hr1 H1 e1 => ?_⟩
    refine ⟨_, _, rfl, rfl, _, rfl, _, 4, 990, rfl, ⟨by omega, by decide, by decide⟩, fun r2 hr2 H2 e2 => ?_⟩
    refine ⟨_, _, rfl, rfl, (by show 4 ≤ sizeLine; decide), fun t nt => ?_⟩
    refine ⟨_, rfl, _, rfl, _, _, rfl, rfl, mul_bits (a := 10) (b := 20) (bits_nat (n := 31) (by decide)) (bits_small (by omega)) (by decide), _, _, rfl, rfl, _, 6, 4, rfl, ⟨b4, by decide, by decide⟩, fun r3 hr3 H3 e3 => ?_⟩
    have hv : ∃ f : Nat, ([V.int 2, V.int 3, V.int (2 + (r1 : Int)), V.int (2 + (r2 : Int))] : List V)[r3]? = some (.int f) ∧ 2 ≤ f ∧ f ≤ 991 := by
      match r3, hr3 with
      | 0, _ => exact ⟨2, rfl, by decide, by decide⟩
      | 1, _ => exact ⟨3, rfl, by decide, by decide⟩
      | 2, _ => exact ⟨2 + r1, rfl, by omega, by omega⟩
      | 3, _ => exact ⟨2 + r2, rfl, by omega, by omega⟩
    obtain ⟨f0, hf, hf2, hf3⟩ := hv
    refine ⟨t, _, _, _, rfl, rfl, SqT.of (e3 t _ upd_same), atI_nat hf, ?_⟩
    have eH : Ex H H3 := (e1.trans e2).trans ((Ex.new nt).trans e3)
    refine ⟨fun m σ H' => ∃ (f : Nat) (y : Option V), m = 991 - f ∧ 2 ≤ f ∧ f ≤ 991 ∧ σ = [some (.ref a), some (.int k), some (.int c), some (.int f), y] ∧ Ex H H', ⟨991 - f0, f0, none, rfl, hf2, hf3, rfl, eH⟩, fun m σ H' hW => ?_⟩
    obtain ⟨f, y, rfl, h2, h3, rfl, e⟩ := hW
    refine any_parts (K := K) (f := f) (i := 3) (j := 4) rfl (by decide) (by show 4 < 5; decide) fun H4 e4 => ⟨_, rfl, ite2 (fun t => ?_) (fun t => ?_)⟩
    · have hne : f ≠ 991 := fun z => by
        rw [z, p991] at t
        exact Bool.false_ne_true t
      refine ⟨fun σ' H2 => ∃ (f2 : Nat) (y : Option V), 991 - f2 < 991 - f ∧ 2 ≤ f2 ∧ f2 ≤ 991 ∧ σ' = [some (.ref a), some (.int k), some (.int c), some (.int f2), y] ∧ Ex H H2, fun σ' H2 hN => ?_, ?_⟩
      · obtain ⟨f2, y2, n1, n2, n3, n4, n5⟩ := hN
        exact ⟨_, n1, f2, y2, rfl, n2, n3, n4, n5⟩
      · exact ⟨_, rfl, _, _, rfl, rfl, f + 1, y, by omega, by omega, by omega, rfl, e.trans e4⟩
    · have hp : isP f = true := by
        cases hh : isP f with
        | true => rfl
        | false => rw [hh] at t; exact absurd rfl t
      exact ⟨_, rfl, q f ⟨h2, by omega, hp⟩ _ (e.trans e4)⟩
/-! ### _law_figures -/
theorem ok__law_figures (D : Df K mg "_law_figures" ps__law_figures s__law_figures) : Ok P w K mg base CX0 1 "_law_figures" ps__law_figures sp_figures_of := by
  refine D.ok sc__law_figures (fun vs H Q E h => ?_) (fun f cdv A outer s H vs Q E hr h => ?_)
  · obtain ⟨p, n, rfl, _⟩ := h; rfl
  · obtain ⟨p, n, rfl, ⟨hp, hp2, hn⟩, q⟩ := h
    refine ⟨_, (pss_cons (ps_set (i := 2) sc__law_figures.nd rfl (.inl rfl) (pe_lst pa_nil))
      (pss_cons (ps_while PassesOwn.never (pt_cmpR op_gt (pv 1) pe_int (nomark _))
      (pss_cons (ps_expr (pe_bm PySem.F.plainAttrs_list PySem.F.slot_list_append PySem.F.type_list_append mt_append (pv 2) (pa_cons (pe_op op_mod (pv 1) (pv 0)) pa_nil)))
      (pss_one (ps_set (i := 1) sc__law_figures.nd rfl (.inl rfl) (pe_op op_fdivW (pv 1) (pv 0))))))
      (pss_one (ps_ret (pv 2))))), ?_⟩
    refine ⟨Nat.zero_le _, fun l nl => ?_⟩
    refine ⟨fun m σ H' => ∃ (n' : Nat) (done : List Nat), m = n' ∧ σ = [some (.int p), some (.int n'), some (.ref l)] ∧ figs p n = done ++ figs p n' ∧ Ex H H' ∧ H' l = some (.lst (nV done)), ⟨n, n, [], rfl, rfl, rfl, Ex.new nl, upd_same⟩, fun m σ H' hW => ?_⟩
    obtain ⟨n', done, rfl, rfl, e1, e2, e3⟩ := hW
    refine ⟨_, rfl, _, _, rfl, rfl, _, rfl, ite2 (fun c => ?_) (fun c => ?_)⟩
    · have c : (0 : Int) < (m : Int) := of_decide_eq_true c
      have hm : 0 < m := by omega
      refine ⟨fun σ' H2 => ∃ (n' : Nat) (done : List Nat), n' < m ∧ σ' = [some (.int p), some (.int n'), some (.ref l)] ∧ figs p n = done ++ figs p n' ∧ Ex H H2 ∧ H2 l = some (.lst (nV done)), fun σ' H2 hN => ?_, ?_⟩
      · obtain ⟨n2, d2, h1, h2, h3, h4, h5⟩ := hN
        exact ⟨n2, h1, n2, d2, rfl, h2, h3, h4, h5⟩
      · have hlen : done.length < 100000 := by
          have h1 := figs_len_le hp n 1000 hn
          rw [e1, List.length_append] at h1
          omega
        refine ⟨_, rfl, .inl ⟨rfl, _, SqL.of e3⟩, _, rfl, _, rfl, _, _, rfl, rfl, (by show (0 : Int) < p; omega), l, _, _, rfl, rfl, e3, sz_lt (by rw [List.length_map]; exact hlen), ?_⟩
        refine ⟨_, rfl, _, rfl, _, _, rfl, rfl, div_small (by omega) hp2, m / p, done ++ [m % p], div_lt hp hm, rfl, ?_, Ex.mut e2 nl, ?_⟩
        · rw [e1, figs_pos hp hm, List.append_assoc]; rfl
        · rw [upd_same, ← nV_app]; rfl
    · have c : ¬ (0 : Int) < (m : Int) := fun z => c (decide_eq_true z)
      have hm : m = 0 := by omega
      subst hm
      rw [figs_zero, List.append_nil] at e1
      rw [← e1] at e3
      exact ⟨_, rfl, q l H' nl e2 e3⟩
/-! ### _law_worth -/
def sp_worth (K : PySem.W.Frag) : Sp := fun vs H Q _ => ∃ (p : Nat) (a : Addr) (l : List Nat), vs = [.int p, .ref a] ∧ (2 ≤ p ∧ p ≤ 1000 ∧ l.length ≤ 1000 ∧ ∀ d ∈ l, d < p) ∧ SqL K H a (nV l) ∧ RetV (.int (wv p l : Nat)) H Q
theorem ok__law_worth (D : Df K mg "_law_worth" ps__law_worth s__law_worth) : Ok P w K mg base CX0 1 "_law_worth" ps__law_worth (sp_worth K) := by
  refine D.ok sc__law_worth (fun vs H Q E h => ?_) (fun f cdv A outer s H vs Q E hr h => ?_)
  · obtain ⟨p, a, l, rfl, _⟩ := h; rfl
  · obtain ⟨p, a, l, rfl, ⟨hp, hp2, hl, hd⟩, hS, q⟩ := h
    refine ⟨_, (pss_cons (ps_set (i := 2) sc__law_worth.nd rfl (.inl rfl) pe_int)
      (pss_cons (ps_for PassesOwn.never rfl (pi_list (pe_revL (pv 1))) (pg_name (i := 3) sc__law_worth.nd rfl (.inl rfl))
      (pss_one (ps_set (i := 2) sc__law_worth.nd rfl (.inl rfl) (pe_op op_add (pe_op op_mulX (pv 2) (pv 0)) (pv 3)))))
      (pss_one (ps_ret (pv 2))))), ?_⟩
    have er : (nV l).reverse = nV l.reverse := by unfold nV; rw [List.map_reverse]
    refine ⟨_, rfl, a, _, rfl, hS, fun b nb => ?_⟩
    refine ⟨b, rfl, ⟨_, SqL.of upd_same⟩, for_list (K := K) (a := b) (xs := nV l.reverse) (fun i σ H' => ∃ y, σ = [some (.int p), some (.ref a), some (.int ((l.reverse.take i).foldl (fun a d => a * p + d) 0 : Nat)), y] ∧ H' = upd H b (.lst (nV l.reverse)))
      ⟨_, rfl, by rw [er]⟩ (fun i σ H' _ ⟨_, _, e⟩ => by rw [e]; exact SqL.of upd_same) ?_ ?_⟩
    · rintro i x σ H' hi ⟨y, rfl, rfl⟩
      obtain ⟨d, hd1, rfl⟩ := nV_get hi
      have hil : i < l.reverse.length := (List.getElem?_eq_some_iff.mp hd1).1
      have hb : (l.reverse.take i).foldl (fun a d => a * p + d) 0 < 2 ^ 10000 := by
        have h1 := fold_lt hp (l.reverse.take i) 0 0 (fun d h => hd d (List.mem_reverse.mp (List.mem_of_mem_take h))) (by rw [Nat.pow_zero]; omega)
        rw [Nat.zero_add, List.length_take] at h1
        have h2 : min i l.reverse.length ≤ 1000 := by rw [List.length_reverse]; omega
        generalize (l.reverse.take i).foldl (fun a d => a * p + d) 0 = z at h1 ⊢
        have h3 : p ^ min i l.reverse.length ≤ 1024 ^ min i l.reverse.length := Nat.pow_le_pow_left (by omega) _
        have h4 : 1024 ^ min i l.reverse.length ≤ 1024 ^ 1000 := Nat.pow_le_pow_right (by decide) h2
        have h5 : (1024 : Nat) ^ 1000 = 2 ^ 10000 := by rw [show (1024 : Nat) = 2 ^ 10 by decide, ← Nat.pow_mul]
        rw [← h5]
        exact Nat.lt_of_lt_of_le h1 (Nat.le_trans h3 h4)
      refine ⟨_, rfl, _, rfl, _, _, rfl, rfl, mul_bits (bits_nat hb) (bits_small (n := p) (by omega)) (by decide), _, rfl, _, _, rfl, rfl, some (.int d), ?_, rfl⟩
      rw [take_more hd1, List.foldl_append]
      rfl
    · rintro σ H' ⟨y, rfl, rfl⟩
      have hlen : (nV l.reverse).length = l.reverse.length := List.length_map _
      rw [hlen, List.take_length, wv_rev]
      exact ⟨_, rfl, q _ (Ex.new nb)⟩
end
end Cc

namespace Cc
open PySem PySem.Spec PyProof.Rows L2 Evl
open Builtin.Int (intBits)
theorem mod18_bits (x : Int) : intBits (x % (10 : Int) ^ (Int.toNat 18)) ≤ 60 := by
  obtain ⟨c, hc⟩ := Int.eq_ofNat_of_zero_le (Int.emod_nonneg x (show (10 : Int) ^ (18 : Nat) ≠ 0 by decide))
  have hlt := Int.emod_lt_of_pos x (show (0 : Int) < 10 ^ (18 : Nat) by decide)
  show intBits (x % (10 : Int) ^ (18 : Nat)) ≤ 60
  rw [hc] at hlt ⊢
  refine bits_nat ?_
  have : ((10 : Int) ^ (18 : Nat)) = ((10 ^ 18 : Nat) : Int) := by decide
  rw [this] at hlt
  exact Nat.lt_trans (Int.ofNat_lt.mp hlt) (by decide)
theorem getD_bits {ns : List Int} (hb : ∀ z ∈ ns, intBits z ≤ 1048576) (i : Nat) : intBits (ns.getD i 0) ≤ 1048576 := by
  rw [List.getD_eq_getElem?_getD]
  cases e : ns[i]? with
  | none => exact Nat.le_trans (bits_small (n := 0) (by decide)) (by decide)
  | some z => exact hb z (List.mem_of_getElem? e)
theorem getD_app (l : List Nat) (z j : Nat) : (l ++ [z]).getD j 0 = if j = l.length then z else l.getD j 0 := by
  rw [List.getD_eq_getElem?_getD, List.getD_eq_getElem?_getD]
  by_cases h : j = l.length
  · rw [if_pos h, h, List.getElem?_append_right (Nat.le_refl _), Nat.sub_self]; rfl
  · rw [if_neg h]
    by_cases h2 : j < l.length
    · rw [List.getElem?_append_left h2]
    · rw [List.getElem?_append_right (by omega), List.getElem?_eq_none (by rw [List.length_singleton]; omega), List.getElem?_eq_none (by omega)]
section
variable {P : Program} {w : World} {K : PySem.W.Frag} {mg : Str → Option Value} {base : Heap}
def sp_pair (K : PySem.W.Frag) : Sp := fun vs H Q _ => ∃ (a : Addr) (ns : List Int) (k p : Nat), vs = [.ref a, .int k, .int p] ∧ (SqL K H a (ns.map V.int) ∧ (∀ z ∈ ns, intBits z ≤ 1048576) ∧ k ≤ 100 ∧ 2 ≤ p ∧ p ≤ 1000) ∧ ∀ n s : Nat, s ≤ n → n < 2 ^ 150 → RetU [.int n, .int s] H Q
theorem ok__law_pair (T : Bi mg) (D : Df K mg "_law_pair" ps__law_pair s__law_pair) (O__law_cell_at : Ok P w K mg base CX0 1 "_law_cell_at" ps__law_cell_at (sp_cell_at K)) (O__law_draw : Ok P w K mg base CX0 1 "_law_draw" ps__law_draw sp_draw) (O__law_value : Ok P w K mg base CX0 2 "_law_value" ps__law_value sp_value) (O__law_figures : Ok P w K mg base CX0 1 "_law_figures" ps__law_figures sp_figures_of) (O__law_worth : Ok P w K mg base CX0 1 "_law_worth" ps__law_worth (sp_worth K)) : Ok P w K mg base CX0 3 "_law_pair" ps__law_pair (sp_pair K) := by
  refine D.ok sc__law_pair (fun vs H Q E h => ?_) (fun f cdv A outer s H vs Q E hr h => ?_)
  · obtain ⟨a, ns, k, p, rfl, _⟩ := h; rfl
  · obtain ⟨a, ns, k, p, rfl, ⟨hS, hb, hk, hp, hp2⟩, q⟩ := h
    refine ⟨_, (pss_cons (ps_set (i := 3) sc__law_pair.nd rfl (.inl rfl) (pe_callO O__law_draw hr (pa_cons (pe_op op_add (pe_op op_mod (pe_callO O__law_cell_at hr (pa_cons (pv 0) (pa_cons (pe_op op_add (pv 1) pe_int) pa_nil))) (pe_op op_pow pe_int pe_int)) (pv 1)) (pa_cons pe_int (pa_cons pe_int pa_nil)))))
      (pss_cons (ps_set (i := 4) sc__law_pair.nd rfl (.inl rfl) (pe_ix (r := rIxT K) ix_tup (pe_tup (pa_cons pe_int (pa_cons pe_int (pa_cons pe_int pa_nil)))) (pe_callO O__law_draw hr (pa_cons (pe_op op_mod (pe_callO O__law_cell_at hr (pa_cons (pv 0) (pa_cons (pe_op op_add (pv 1) pe_int) pa_nil))) (pe_op op_pow pe_int pe_int)) (pa_cons pe_int (pa_cons pe_int pa_nil)))) (fun _ _ => rfl)))
      (pss_cons (ps_set (i := 5) sc__law_pair.nd rfl (.inl rfl) (pe_callO O__law_value hr (pa_cons (pe_callO O__law_cell_at hr (pa_cons (pv 0) (pa_cons (pe_op op_add (pv 1) pe_int) pa_nil))) (pa_cons (pe_op op_add (pv 1) pe_int) (pa_cons (pv 4) pa_nil)))))
      (pss_cons (ps_set (i := 6) sc__law_pair.nd rfl (.inl rfl) (pe_callO O__law_value hr (pa_cons (pe_callO O__law_cell_at hr (pa_cons (pv 0) (pa_cons (pe_op op_add (pv 1) pe_int) pa_nil))) (pa_cons (pe_op op_add (pv 1) pe_int) (pa_cons pe_int pa_nil)))))
      (pss_cons (ps_set (i := 7) sc__law_pair.nd rfl (.inl rfl) (pe_op op_mod (pv 6) (pe_op op_add (pv 5) pe_int)))
      (pss_cut (ps_if (pt_cmpR op_lt (pv 3) pe_int (nomark _))
      (pss_cons (ps_set (i := 8) sc__law_pair.nd rfl (.inl rfl) (pe_lst pa_nil))
      (pss_cons (ps_for PassesOwn.never rfl (pi_enum (by rfl) T.enumerate (pa_cons (pe_callO O__law_figures hr (pa_cons (pv 2) (pa_cons (pv 5) pa_nil))) pa_nil)) (pg_tup rfl (pgs_cons (pg_name (i := 9) sc__law_pair.nd rfl (.inl rfl)) (pgs_cons (pg_name (i := 10) sc__law_pair.nd rfl (.inl rfl)) pgs_nil)))
      (pss_one (ps_expr (pe_bm PySem.F.plainAttrs_list PySem.F.slot_list_append PySem.F.type_list_append mt_append (pv 8) (pa_cons (pe_op op_mod (pe_op op_add (pe_op op_add (pv 6) (pe_op op_mulX (pe_op op_mulX pe_int (pv 9)) (pv 9))) (pe_op op_fdivW (pv 6) (pe_op op_add (pv 9) pe_int))) (pe_op op_add (pv 10) pe_int)) pa_nil)))))
      (pss_one (ps_set (i := 7) sc__law_pair.nd rfl (.inl rfl) (pe_callO O__law_worth hr (pa_cons (pv 2) (pa_cons (pv 8) pa_nil)))))))
      pss_nil)
      (pss_cut (ps_if (pt_cmpR op_eq (pv 3) pe_int (nomark _))
      (pss_cons (ps_set (i := 11) sc__law_pair.nd rfl (.inl rfl) (pv 2))
      (pss_cons (ps_while PassesOwn.never (pt_cmpR op_le (pe_op op_mulX (pv 11) (pv 2)) (pv 5) (nomark _))
      (pss_one (ps_set (i := 11) sc__law_pair.nd rfl (.inl rfl) (pe_op op_mulX (pv 11) (pv 2)))))
      (pss_one (ps_par (i := 5) (j := 7) (by rfl) sc__law_pair.nd rfl rfl (by decide) rfl rfl (pa_cons (pe_op op_sub (pv 11) (pe_op op_mod (pv 6) pe_int)) (pa_cons (pe_op op_mod (pe_op op_fdivW (pv 6) pe_int) (pe_op op_sub (pv 11) pe_int)) pa_nil)) (by rfl)))))
      pss_nil)
      (pss_one (ps_ret (pe_tup (pa_cons (pv 5) (pa_cons (pe_ifExp (PW.pt (pw_and (pt_cmpR op_eq (pv 3) pe_int (nomark _)) (pw_and1 (pt_cmpR op_eq (pe_op op_mod (pv 6) pe_int) pe_int (nomark _))))) pe_int (pv 7)) pa_nil)))))))))))), ?_⟩
    -- kind
    have b1 : intBits (ns.getD (k + 1) 0 % (10 : Int) ^ (Int.toNat 18) + (k : Int)) ≤ 4000000 := Nat.le_trans (intBits_add_le (mod18_bits _) (bits_small (n := k) (by omega))) (by decide)
    refine ⟨_, rfl, _, rfl, _, _, rfl, rfl, a, ns, k + 1, rfl, hS, _, _, rfl, rfl, ⟨by decide, by decide, by decide⟩, _, _, rfl, rfl, (by show (0 : Int) < 10 ^ 18; decide), _, rfl, _, _, rfl, rfl, _, 8, 6, rfl, ⟨b1, by decide, by decide⟩, fun kind hkind H1 e1 => ?_⟩
    -- limit
    have b2 : intBits (ns.getD (k + 1) 0 % (10 : Int) ^ (Int.toNat 18)) ≤ 4000000 := Nat.le_trans (mod18_bits _) (by decide)
    refine ⟨by show 3 ≤ sizeLine; decide, fun t nt => ?_⟩
    refine ⟨_, rfl, _, rfl, _, _, rfl, rfl, a, ns, k + 1, rfl, ex_l (e1.trans (Ex.new nt)) hS, _, _, rfl, rfl, ⟨by decide, by decide, by decide⟩, _, _, rfl, rfl, (by show (0 : Int) < 10 ^ 18; decide), _, 7, 3, rfl, ⟨b2, by decide, by decide⟩, fun j hj H2 e2 => ?_⟩
    have hv : ∃ lim : Nat, ([V.int 20, V.int 300, V.int 900000] : List V)[j]? = some (.int lim) ∧ 0 < lim ∧ lim ≤ 900000 := by
      match j, hj with
      | 0, _ => exact ⟨20, rfl, by decide, by decide⟩
      | 1, _ => exact ⟨300, rfl, by decide, by decide⟩
      | 2, _ => exact ⟨900000, rfl, by decide, by decide⟩
    obtain ⟨lim, hlim, hl0, hl1⟩ := hv
    refine ⟨t, _, _, _, rfl, rfl, SqT.of (e2 t _ upd_same), atI_nat hlim, ?_⟩
    have eH2 : Ex H H2 := e1.trans ((Ex.new nt).trans e2)
    -- many, drawn, some
    refine ⟨_, rfl, _, rfl, _, _, rfl, rfl, a, ns, k + 1, rfl, ex_l eH2 hS, _, rfl, _, _, rfl, rfl, _, rfl, _, k + 2, lim, rfl, ⟨getD_bits hb _, by omega, hl0, hl1⟩, fun many hmany H3 e3 => ?_⟩
    refine ⟨_, rfl, _, rfl, _, _, rfl, rfl, a, ns, k + 2, rfl, ex_l (eH2.trans e3) hS, _, rfl, _, _, rfl, rfl, _, k + 4, 900000, rfl, ⟨getD_bits hb _, by omega, by decide, by decide⟩, fun drawn hdrawn H4 e4 => ?_⟩
    refine ⟨_, rfl, _, rfl, _, _, rfl, rfl, _, _, rfl, rfl, (by show (0 : Int) < (many : Int) + 1; omega), ?_⟩
    have eH4 : Ex H H4 := (eH2.trans e3).trans e4
    refine ⟨fun σ' H' => ∃ (sm : Nat) (y8 y9 y10 : Option V), sm ≤ many ∧ σ' = [some (.ref a), some (.int k), some (.int p), some (.int kind), some (.int lim), some (.int many), some (.int drawn), some (.int sm), y8, y9, y10, none] ∧ Ex H H', ?_, ?_⟩
    · -- if kind < 2
      refine ⟨_, rfl, _, _, rfl, rfl, _, rfl, ite2 (fun _ => ?_) (fun _ => ?_)⟩
      · refine ⟨Nat.zero_le _, fun l nl => ?_⟩
        refine ⟨_, rfl, _, rfl, p, many, rfl, ⟨hp, hp2, Nat.lt_trans hmany (Nat.pow_lt_pow_right (by decide) (by decide))⟩, fun fl H5 nfl e5 hfl => ?_⟩
        have eH5 : Ex H H5 := (eH4.trans (Ex.new nl)).trans e5
        refine ⟨fl, _, rfl, SqL.of hfl, for_it (walk_enum (K := K) (a := fl) (xs := nV (figs p many))) (fun i σ' H' => ∃ (less : List Nat) (y9 y10 : Option V), less.length = i ∧ (∀ j, less.getD j 0 ≤ (figs p many).getD j 0) ∧ σ' = [some (.ref a), some (.int k), some (.int p), some (.int kind), some (.int lim), some (.int many), some (.int drawn), some (.int ((drawn % (many + 1) : Nat) : Int)), some (.ref l), y9, y10, none] ∧ Ex H H' ∧ H' fl = some (.lst (nV (figs p many))) ∧ H' l = some (.lst (nV less)))
          ⟨[], none, none, rfl, fun j => by show 0 ≤ _; omega, rfl, eH5, hfl, e5 l _ upd_same⟩ (fun i σ' H' _ ⟨_, _, _, _, _, _, _, h, _⟩ => SqL.of h) ?_ ?_⟩
        · rintro i x σ' H' H'' hi ⟨less, y9, y10, hll, hle, rfl, e6, h6, h7⟩ ⟨T1, x1, x2, rfl, nT, rfl, g1, g2⟩
          cases g1
          obtain ⟨d, hd, rfl⟩ := nV_get g2
          have nfl' : fl ≠ T1 := ne_of_none h6 nT
          have nl' : l ≠ T1 := ne_of_none h7 nT
          have hlen : i < 1000 := by
            have h1 := (List.getElem?_eq_some_iff.mp hd).1
            have h2 := figs_len_le hp many 140 hmany
            omega
          have h7T : (upd H' T1 (.tup [.int (i : Nat), .int (d : Int)])) l = some (.lst (nV less)) := by rw [upd_ne nl']; exact h7
          refine ⟨T1, _, rfl, SqT.of upd_same, rfl, _, _, rfl, _, _, rfl, rfl, ?_⟩
          refine ⟨_, rfl, .inl ⟨rfl, _, SqL.of h7T⟩, _, rfl, _, rfl, _, _, rfl, rfl, mul_bits (a := 10) (b := 20) (bits_nat (n := 7) (by decide)) (bits_small (n := i) (by omega)) (by decide), _, rfl, _, _, rfl, rfl, ?_, _, _, rfl, rfl, _, rfl, _, rfl, _, _, rfl, rfl, _, _, rfl, rfl, ?_, _, _, rfl, rfl, _, rfl, _, _, rfl, rfl, _, _, rfl, rfl, (by show (0 : Int) < (d : Int) + 1; omega), l, _, _, rfl, rfl, h7T, sz_lt (by rw [List.length_map]; omega), ?_⟩
          · exact mul_bits (a := 30) (b := 20) (intBits_mul_le (m := 10) (n := 20) (bits_nat (n := 7) (by decide)) (bits_small (n := i) (by omega))) (bits_small (n := i) (by omega)) (by decide)
          · exact wide_div (by omega) (nat_pow_lt (n := i + 3) (k := 12) (by omega)) (by decide) (by decide)
          · have hz : (drawn + 7 * i * i + drawn / (i + 3)) % (d + 1) ≤ d := by
              have := Nat.mod_lt (drawn + 7 * i * i + drawn / (i + 3)) (show 0 < d + 1 by omega)
              omega
            refine ⟨less ++ [(drawn + 7 * i * i + drawn / (i + 3)) % (d + 1)], some (.int i), some (.int d), by rw [List.length_append, hll]; rfl, fun j => ?_, rfl, ?_, ?_, ?_⟩
            · rw [getD_app]
              split
              · next h =>
                rw [h, hll, List.getD_eq_getElem?_getD, hd]
                exact hz
              · exact hle j
            · exact Ex.mut (e6.trans (Ex.new nT)) (fresh_back eH4 nl)
            · have nfll : fl ≠ l := fun e => by
                rw [e, upd_same] at nfl
                cases nfl
              rw [upd_ne nfll, upd_ne nfl']
              exact h6
            · rw [upd_same, ← nV_app]; rfl
        · rintro σ' H' ⟨less, y9, y10, hll, hle, rfl, e6, h6, h7⟩
          have hlen : (nV (figs p many)).length = (figs p many).length := List.length_map _
          rw [hlen] at hll
          have h2 := figs_len_le hp many 140 hmany
          refine ⟨_, rfl, _, rfl, p, l, less, rfl, ⟨hp, hp2, by omega, fun d hd => ?_⟩, SqL.of h7, fun H7 e7 => ?_⟩
          · obtain ⟨j, hj⟩ := List.getElem?_of_mem hd
            have h3 := hle j
            rw [List.getD_eq_getElem?_getD, hj] at h3
            have h3 : d ≤ (figs p many).getD j 0 := h3
            have h4 := dg_eq hp j many
            unfold dg at h4
            rw [h4] at h3
            exact Nat.lt_of_le_of_lt h3 (Nat.mod_lt _ (by omega))
          · exact ⟨wv p less, _, _, _, wv_less hp hll hle, rfl, e6.trans e7⟩
      · exact ⟨drawn % (many + 1), _, _, _, Nat.le_of_lt_succ (Nat.mod_lt _ (by omega)), rfl, eH4⟩
    · rintro σ' H' ⟨sm, y8, y9, y10, hsm, rfl, e8⟩
      refine ⟨fun σ' H' => ∃ (n sm : Nat) (y8 y9 y10 y11 : Option V), sm ≤ n ∧ n < 2 ^ 150 ∧ σ' = [some (.ref a), some (.int k), some (.int p), some (.int kind), some (.int lim), some (.int n), some (.int drawn), some (.int sm), y8, y9, y10, y11] ∧ Ex H H', ?_, ?_⟩
      · refine ⟨_, rfl, rfl, _, rfl, ite2 (fun _ => ?_) (fun _ => ?_)⟩
        · refine ⟨_, rfl, ?_⟩
          refine ⟨fun m σ' H2 => ∃ P : Nat, m = many + 1000 - P ∧ 2 ≤ P ∧ (P ≤ 1000 ∨ P ≤ many) ∧ σ' = [some (.ref a), some (.int k), some (.int p), some (.int kind), some (.int lim), some (.int many), some (.int drawn), some (.int sm), y8, y9, y10, some (.int P)] ∧ Ex H H2, ⟨_, p, rfl, hp, .inl hp2, rfl, e8⟩, fun m σ' H2 hW => ?_⟩
          obtain ⟨P, rfl, hP, hP2, rfl, e9⟩ := hW
          have hPb : P < 2 ^ 145 := by
            have : (2 : Nat) ^ 140 < 2 ^ 145 := by decide
            omega
          have hmulb := mul_bits (bits_nat hPb) (bits_small (n := p) (by omega)) (by decide)
          refine ⟨_, rfl, _, rfl, _, _, rfl, rfl, hmulb, _, rfl, _, _, rfl, rfl, _, rfl, ite2 (fun c => ?_) (fun c => ?_)⟩
          · have c : (P : Int) * (p : Int) ≤ (many : Int) := of_decide_eq_true c
            have c2 : P * p ≤ many := by
              rw [← Int.natCast_mul] at c
              exact Int.ofNat_le.mp c
            have c3 : P * 2 ≤ P * p := Nat.mul_le_mul_left P hp
            refine ⟨fun σ' H3 => ∃ P2 : Nat, many + 1000 - P2 < many + 1000 - P ∧ 2 ≤ P2 ∧ (P2 ≤ 1000 ∨ P2 ≤ many) ∧ σ' = [some (.ref a), some (.int k), some (.int p), some (.int kind), some (.int lim), some (.int many), some (.int drawn), some (.int sm), y8, y9, y10, some (.int P2)] ∧ Ex H H3, fun σ' H3 hN => ?_, ?_⟩
            · obtain ⟨P2, n1, n2, n3, n4, n5⟩ := hN
              exact ⟨_, n1, P2, rfl, n2, n3, n4, n5⟩
            · exact ⟨_, rfl, _, rfl, _, _, rfl, rfl, hmulb, P * p, by omega, by omega, .inr c2, rfl, e9⟩
          · refine ⟨_, rfl, _, rfl, _, _, rfl, rfl, (by show (0 : Int) < 2; decide), _, _, rfl, rfl, _, rfl, _, _, rfl, rfl, div_small (p := 2) (by decide) (by decide), _, rfl, _, _, rfl, rfl, _, _, rfl, rfl, (by show (0 : Int) < (P : Int) - 1; omega), _, _, rfl, P - drawn % 2, (drawn / 2) % (P - 1), y8, y9, y10, some (.int P), ?_, ?_, ?_, e9⟩
            · have := Nat.mod_lt (drawn / 2) (show 0 < P - 1 by omega)
              omega
            · have : (2 : Nat) ^ 145 < 2 ^ 150 := by decide
              omega
            · have g1 : (P : Int) - (drawn : Int) % 2 = ((P - drawn % 2 : Nat) : Int) := by omega
              have g2 : (P : Int) - 1 = ((P - 1 : Nat) : Int) := by omega
              have g3 : (drawn : Int) / 2 % ((P : Int) - 1) = (((drawn / 2) % (P - 1) : Nat) : Int) := by rw [g2]; rfl
              show [some (V.ref a), _, _, _, _, some (V.int ((P : Int) - (drawn : Int) % 2)), _, some (V.int ((drawn : Int) / 2 % ((P : Int) - 1))), _, _, _, _] = _
              rw [g1, g3]
        · refine ⟨many, sm, y8, y9, y10, none, hsm, Nat.lt_trans hmany (by decide), rfl, e8⟩
      · rintro σ' H2 ⟨n, sm, y8, y9, y10, y11, h1, h2, rfl, e9⟩
        refine ⟨_, rfl, _, rfl, rfl, _, rfl, ite2 (fun _ => ?_) (fun _ => ?_)⟩
        · refine ⟨_, rfl, _, _, rfl, rfl, (by show (0 : Int) < 3; decide), rfl, _, rfl, ite2 (fun _ => ?_) (fun _ => ?_)⟩
          · exact ⟨by show 2 ≤ sizeLine; decide, fun u nu => q n 0 (Nat.zero_le n) h2 u _ (fresh_back e9 nu) (e9.trans (Ex.new nu)) upd_same⟩
          · exact ⟨_, rfl, (by show 2 ≤ sizeLine; decide), fun u nu => q n sm h1 h2 u _ (fresh_back e9 nu) (e9.trans (Ex.new nu)) upd_same⟩
        · exact if_f rfl ⟨_, rfl, (by show 2 ≤ sizeLine; decide), fun u nu => q n sm h1 h2 u _ (fresh_back e9 nu) (e9.trans (Ex.new nu)) upd_same⟩
end
end Cc

namespace Cc
open PySem PySem.Spec PyProof.Rows L2 Evl
open Builtin.Int (intBits)
/-! ### the law's own walk of the script -/
def rStep (d L : Nat) : Int := 1 + (L : Int) / (d : Int)
def rNum (d L : Nat) : Nat := (Builtin.Range.rangeSize 0 (L : Int) (rStep d L)).toNat
def rngOk (d L : Nat) : Bool := Builtin.Range.small 0 (L : Int) (rStep d L) && (decide (Builtin.Range.rangeSize 0 (L : Int) (rStep d L) = (rNum d L : Int)) && (decide (rStep d L ≠ 0) && (decide ((rStep d L).natAbs < 1073741824) && ((List.range (rNum d L)).all fun i => decide (0 ≤ (i : Int) * rStep d L ∧ (i : Int) * rStep d L < 64)))))
theorem rng_all : ([3, 4, 6].all fun d => (List.range 64).all fun L => rngOk d L) = true := by decide +kernel
theorem rng_ok {d L : Nat} (hd : d ∈ [3, 4, 6]) (hL : L < 64) : RgC 0 (L : Int) (1 + (L : Int) / (d : Int)) (rNum d L) ∧ ∀ i, i < rNum d L → ∃ k : Nat, k < 64 ∧ (0 : Int) + (i : Int) * (1 + (L : Int) / (d : Int)) = (k : Int) := by
  have h := List.all_eq_true.mp (List.all_eq_true.mp rng_all d hd) L (List.mem_range.mpr hL)
  unfold rngOk at h
  simp only [Bool.and_eq_true, decide_eq_true_eq] at h
  obtain ⟨h1, h2, h3, h4, h5⟩ := h
  refine ⟨⟨h3, h4, h1, h2⟩, fun i hi => ?_⟩
  have h6 := of_decide_eq_true (List.all_eq_true.mp h5 i (List.mem_range.mpr hi))
  obtain ⟨k, hk⟩ := Int.eq_ofNat_of_zero_le h6.1
  unfold rStep at h6 hk
  exact ⟨k, by omega, by omega⟩
theorem cut63 (ns : List Int) (h : ns.length ≤ 63) : cutV (ns.map V.int) none (some 63) = ns.map V.int := by
  unfold cutV
  rw [HT.sIx_none, show HT.sIx (ns.map V.int).length (ns.map V.int).length (some 63) = min 63 (ns.map V.int).length from HT.sIx_nat _ _ 63]
  rw [List.drop_zero, Nat.sub_zero]
  exact List.take_of_length_le (by rw [List.length_map]; omega)
theorem yes_if {σ : L2.St} {H : Hp} {A B : Hp → Prop} (h : A H) : tYes σ H (fun b H3 => if b = true then A H3 else B H3) := by
  show if true = true then A H else B H
  rw [if_pos rfl]
  exact h
theorem made_ex {H : Hp} {x dx C : Addr} {fs gs : List (Str × V)} (nx : H x = none) (nd : H dx = none) : Ex H (upd (upd (upd H dx (.own x)) x (.ins C dx fs)) x (.ins C dx gs)) :=
  Ex.mut (Ex.mut (Ex.mut (Ex.refl H) nd) nx) nx
end Cc

namespace Cc
open PySem PySem.Spec PyProof.Rows L2 Evl
open Builtin.Int (intBits)
abbrev s_check_prime : Stmt := topS 10
abbrev N_check_prime : List Str := ["prime", "part"]
abbrev ps_check_prime : List Str := ["prime"]
theorem sc_check_prime : FnScope N_check_prime ps_check_prime (defScope s_check_prime) := ⟨rfl, rfl, rfl, by decide +kernel, rfl, by decide +kernel, by decide +kernel⟩
abbrev s_check_many : Stmt := topS 11
abbrev N_check_many : List Str := ["many"]
abbrev ps_check_many : List Str := ["many"]
theorem sc_check_many : FnScope N_check_many ps_check_many (defScope s_check_many) := ⟨rfl, rfl, rfl, by decide +kernel, rfl, by decide +kernel, by decide +kernel⟩
abbrev s_check_all : Stmt := topS 16
abbrev N_check_all : List Str := ["prime", "many", "some"]
abbrev ps_check_all : List Str := ["prime", "many", "some"]
theorem sc_check_all : FnScope N_check_all ps_check_all (defScope s_check_all) := ⟨rfl, rfl, rfl, by decide +kernel, rfl, by decide +kernel, by decide +kernel⟩

section
variable {P : Program} {w : World} {K : PySem.W.Frag} {mg : Str → Option Value} {base : Heap}
/-! ### the looks, where nothing is refused -/
def sp_check_prime : Sp := fun vs H Q _ => ∃ p : Nat, vs = [.int p] ∧ Pr p ∧ RetV .non H Q
theorem ok_check_prime (T : Bi mg) (D : Df K mg "check_prime" ps_check_prime s_check_prime) (O_is_whole : Ok P w K mg base CX0 1 "is_whole" ps_is_whole (sp_is_whole K)) : Ok P w K mg base CX0 2 "check_prime" ps_check_prime sp_check_prime := by
  refine D.ok sc_check_prime (fun vs H Q E h => ?_) (fun f cdv A outer s H vs Q E hr h => ?_)
  · obtain ⟨p, rfl, _⟩ := h; rfl
  · obtain ⟨p, rfl, hp, q⟩ := h
    refine ⟨_, (pss_cons (ps_if (PW.pt (pw_or (pt_not (pt_val (pe_callO O_is_whole hr (pa_cons (pv 0) pa_nil)))) (pw_or1 (pt_not (pt_chain op_le op_le pe_int (pv 0) (C8.pe_gc (v := .int 997) (by rfl) T.k_GREATEST))))))
      (pss_one ps_never)
      pss_nil)
      (pss_one (ps_if (pt_val (pe_callB (cr_any rfl) (by rfl) T.any (by decide +kernel) (pa_cons (pe_lc (own := [("part", 1)]) (g := gName 1) (by rfl) sc_check_prime.nd (pi_range2 (by rfl) T.range (pa_cons pe_int (pa_cons pe_int pa_nil))) (blkOk_by (own := [("part", 1)]) (N := N_check_prime) (sc := defScope s_check_prime) (by decide +kernel)) (fun _ _ _ _ _ => (pg_name (i := 1) sc_check_prime.nd rfl (.inl rfl))) (fun _ _ _ _ _ => (pts_one (pt_cmpR op_lt (pv 1) (pv 0) (nomark _)))) (fun _ _ _ _ _ => (pe_cmpR op_eq (pe_op op_mod (pv 0) (pv 1)) pe_int (nomark _)))) pa_nil)))
      (pss_one ps_never)
      pss_nil))), ?_⟩
    have h2 := hp.lo
    have h9 := hp.hi
    have hw : (!whole (some (p : Int))) = false := by show (!decide (0 ≤ (p : Int))) = false; rw [decide_eq_true (by omega)]; rfl
    refine ⟨_, rfl, _, _, rfl, .int (p : Int), _, rfl, if_f hw ?_⟩
    have c1 : decide ((2 : Int) ≤ (p : Int)) = true := decide_eq_true (by omega)
    have c2 : (!decide ((p : Int) ≤ 997)) = false := by rw [decide_eq_true (by omega)]; rfl
    refine ⟨_, rfl, _, _, rfl, rfl, _, rfl, if_t c1 ⟨_, _, rfl, rfl, _, rfl, if_f c2 ?_⟩⟩
    refine any_parts (K := K) (f := p) (i := 0) (j := 1) rfl (by decide) (by show 1 < 2; decide) fun H1 e1 => ⟨_, rfl, if_f (by rw [hp.np]; rfl) (q H1 e1)⟩
def sp_check_many : Sp := fun vs H Q _ => ∃ n : Nat, vs = [.int n] ∧ Q .non H
theorem ok_check_many (D : Df K mg "check_many" ps_check_many s_check_many) (O_is_whole : Ok P w K mg base CX0 1 "is_whole" ps_is_whole (sp_is_whole K)) : Ok P w K mg base CX0 2 "check_many" ps_check_many sp_check_many := by
  refine D.ok sc_check_many (fun vs H Q E h => ?_) (fun f cdv A outer s H vs Q E hr h => ?_)
  · obtain ⟨p, rfl, _⟩ := h; rfl
  · obtain ⟨n, rfl, q⟩ := h
    refine ⟨_, (pss_one (ps_if (pt_not (pt_val (pe_callO O_is_whole hr (pa_cons (pv 0) pa_nil))))
      (pss_one ps_never)
      pss_nil)), ?_⟩
    have hw : (!whole (some (n : Int))) = false := by show (!decide (0 ≤ (n : Int))) = false; rw [decide_eq_true (by omega)]; rfl
    exact ⟨_, rfl, _, _, rfl, .int (n : Int), _, rfl, if_f hw q⟩
def sp_check_all : Sp := fun vs H Q _ => ∃ p n k : Nat, vs = [.int p, .int n, .int k] ∧ (Pr p ∧ k ≤ n) ∧ RetV .non H Q
theorem ok_check_all (D : Df K mg "check_all" ps_check_all s_check_all) (O_is_whole : Ok P w K mg base CX0 1 "is_whole" ps_is_whole (sp_is_whole K)) (O_check_prime : Ok P w K mg base CX0 2 "check_prime" ps_check_prime sp_check_prime) (O_check_many : Ok P w K mg base CX0 2 "check_many" ps_check_many sp_check_many) : Ok P w K mg base CX0 3 "check_all" ps_check_all sp_check_all := by
  refine D.ok sc_check_all (fun vs H Q E h => ?_) (fun f cdv A outer s H vs Q E hr h => ?_)
  · obtain ⟨p, n, k, rfl, _⟩ := h; rfl
  · obtain ⟨p, n, k, rfl, ⟨hp, hk⟩, q⟩ := h
    refine ⟨_, (pss_cons (ps_expr (pe_callO O_check_prime hr (pa_cons (pv 0) pa_nil)))
      (pss_cons (ps_expr (pe_callO O_check_many hr (pa_cons (pv 1) pa_nil)))
      (pss_one (ps_if (PW.pt (pw_or (pt_not (pt_val (pe_callO O_is_whole hr (pa_cons (pv 2) pa_nil)))) (pw_or1 (pt_cmpR op_gt (pv 2) (pv 1) (nomark _)))))
      (pss_one ps_never)
      pss_nil)))), ?_⟩
    have hw : (!whole (some (k : Int))) = false := by show (!decide (0 ≤ (k : Int))) = false; rw [decide_eq_true (by omega)]; rfl
    have c1 : decide ((n : Int) < (k : Int)) = false := decide_eq_false (by omega)
    exact ⟨_, rfl, p, rfl, hp, fun H1 e1 => ⟨_, rfl, n, rfl, _, rfl, _, _, rfl, .int (k : Int), _, rfl, if_f hw ⟨_, rfl, _, rfl, _, _, rfl, rfl, _, rfl, if_f c1 (q H1 e1)⟩⟩⟩
end
end Cc

namespace Cc
open PySem PySem.Spec PyProof.Rows L2 Evl
open Builtin.Int (intBits)
abbrev s_figure_at : Stmt := topS 14
abbrev N_figure_at : List Str := ["some", "place"]
abbrev ps_figure_at : List Str := ["some", "place"]
theorem sc_figure_at : FnScope N_figure_at ps_figure_at (defScope s_figure_at) := ⟨rfl, rfl, rfl, by decide +kernel, rfl, by decide +kernel, by decide +kernel⟩

section
variable {P : Program} {w : World} {K : PySem.W.Frag} {mg : Str → Option Value} {base : Heap}
/-! ### figure_at -/
def sp_figure_at (K : PySem.W.Frag) : Sp := fun vs H Q _ => ∃ (a : Addr) (l : List Nat) (i : Nat), vs = [.ref a, .int i] ∧ SqL K H a (nV l) ∧ Q (.int (l.getD i 0 : Nat)) H
theorem ok_figure_at (T : Bi mg) (D : Df K mg "figure_at" ps_figure_at s_figure_at) : Ok P w K mg base CX0 1 "figure_at" ps_figure_at (sp_figure_at K) := by
  refine D.ok sc_figure_at (fun vs H Q E h => ?_) (fun f cdv A outer s H vs Q E hr h => ?_)
  · obtain ⟨a, l, i, rfl, _⟩ := h; rfl
  · obtain ⟨a, l, i, rfl, hS, q⟩ := h
    refine ⟨_, (pss_one (ps_ret (pe_ifExp (pt_cmpR op_lt (pv 1) (pe_callB call_len_seq (by rfl) T.len (by decide +kernel) (pa_cons (pv 0) pa_nil)) (nomark _)) (pe_ix (r := rIxL K) ix_list (pv 0) (pv 1) (fun _ _ => rfl)) pe_int))), ?_⟩
    have hlen : (nV l).length = l.length := List.length_map _
    refine ⟨_, rfl, _, rfl, a, _, rfl, .inl hS, _, _, rfl, rfl, _, rfl, ite2 (fun c => ?_) (fun c => ?_)⟩
    · have c : (i : Int) < ((nV l).length : Int) := of_decide_eq_true c
      have hi : i < l.length := by omega
      have e : l[i]? = some (l.getD i 0) := by rw [List.getD_eq_getElem?_getD, List.getElem?_eq_getElem hi]; rfl
      exact ⟨_, rfl, _, rfl, a, _, _, _, rfl, rfl, hS, atI_nat (nV_at e), q⟩
    · have c : ¬ (i : Int) < ((nV l).length : Int) := fun z => c (decide_eq_true z)
      have hi : l.length ≤ i := by omega
      have e : l.getD i 0 = 0 := by rw [List.getD_eq_getElem?_getD, List.getElem?_eq_none hi]; rfl
      rw [e] at q
      exact q
end
end Cc

namespace Cc
open PySem PySem.Spec PyProof.Rows L2 Evl
open Builtin.Int (intBits)
abbrev s_bound_at : Stmt := topS 17
abbrev N_bound_at : List Str := ["prime", "many", "some", "mine", "place", "figure"]
abbrev ps_bound_at : List Str := ["prime", "many", "some"]
theorem sc_bound_at : FnScope N_bound_at ps_bound_at (defScope s_bound_at) := ⟨rfl, rfl, rfl, by decide +kernel, rfl, by decide +kernel, by decide +kernel⟩

section
variable {P : Program} {w : World} {K : PySem.W.Frag} {mg : Str → Option Value} {base : Heap} {C_Free C_Bound : Addr}
/-! ### bound_at -/
def sp_bound_at : Sp := fun vs H Q _ => ∃ p n k : Nat, vs = [.int p, .int n, .int k] ∧ (2 ≤ p ∧ p ≤ 1000 ∧ n < 2 ^ 1000 ∧ k < 2 ^ 1000) ∧ ∀ H', Ex H H' → ((∀ i, dg p k i ≤ dg p n i) → Q (.int (-1)) H') ∧ ∀ i : Nat, dg p n i < dg p k i → Q (.int i) H'
theorem ok_bound_at (T : Bi mg) (D : Df K mg "bound_at" ps_bound_at s_bound_at) (O_figures_of : Ok P w K mg base CX0 1 "figures_of" ps_figures_of sp_figures_of) (O_figure_at : Ok P w K mg base CX0 1 "figure_at" ps_figure_at (sp_figure_at K)) : Ok P w K mg base CX0 2 "bound_at" ps_bound_at sp_bound_at := by
  refine D.ok sc_bound_at (fun vs H Q E h => ?_) (fun f cdv A outer s H vs Q E hr h => ?_)
  · obtain ⟨p, n, k, rfl, _⟩ := h; rfl
  · obtain ⟨p, n, k, rfl, ⟨hp, hp2, hn, hk⟩, q⟩ := h
    refine ⟨_, (pss_cons (ps_set (i := 3) sc_bound_at.nd rfl (.inl rfl) (pe_callO O_figures_of hr (pa_cons (pv 0) (pa_cons (pv 1) pa_nil))))
      (pss_cons (ps_for PassesOwn.never rfl (pi_enum (by rfl) T.enumerate (pa_cons (pe_callO O_figures_of hr (pa_cons (pv 0) (pa_cons (pv 2) pa_nil))) pa_nil)) (pg_tup rfl (pgs_cons (pg_name (i := 4) sc_bound_at.nd rfl (.inl rfl)) (pgs_cons (pg_name (i := 5) sc_bound_at.nd rfl (.inl rfl)) pgs_nil)))
      (pss_one (ps_if (pt_cmpR op_gt (pv 5) (pe_callO O_figure_at hr (pa_cons (pv 3) (pa_cons (pv 4) pa_nil))) (nomark _))
      (pss_one (ps_ret (pv 4)))
      pss_nil)))
      (pss_one (ps_ret (pe_un un_neg pe_int))))), ?_⟩
    refine ⟨_, rfl, _, rfl, p, n, rfl, ⟨hp, hp2, hn⟩, fun a H1 na e1 ha => ?_⟩
    refine ⟨_, rfl, _, rfl, p, k, rfl, ⟨hp, hp2, hk⟩, fun b H2 nb e2 hb => ?_⟩
    have ha2 := e2 a _ ha
    have hlen : (nV (figs p k)).length = (figs p k).length := List.length_map _
    refine ⟨b, _, rfl, SqL.of hb, for_it (walk_enum (K := K) (a := b) (xs := nV (figs p k))) (fun i σ' H' => (∃ y4 y5, σ' = [some (.int p), some (.int n), some (.int k), some (.ref a), y4, y5]) ∧ Ex H2 H' ∧ ∀ j, j < i → dg p k j ≤ dg p n j) ⟨⟨_, _, rfl⟩, Ex.refl _, fun j hj => by omega⟩ (fun i σ' H' _ ⟨_, e, _⟩ => SqL.of (e b _ hb)) ?_ ?_⟩
    · rintro i x σ' H' H'' hi ⟨⟨y4, y5, rfl⟩, e3, hle⟩ ⟨T1, x1, x2, rfl, nT, rfl, g1, g2⟩
      cases g1
      obtain ⟨d, hd, rfl⟩ := nV_get g2
      have hdg : dg p k i = d := by unfold dg; rw [List.getD_eq_getElem?_getD, hd]; rfl
      have e4 := e3.trans (Ex.new (o := .tup [.int (i : Nat), .int (d : Int)]) nT)
      refine ⟨T1, _, rfl, SqT.of upd_same, rfl, _, _, rfl, _, _, rfl, rfl, ?_⟩
      refine ⟨_, rfl, _, rfl, _, rfl, a, _, i, rfl, SqL.of (e4 a _ ha2), _, _, rfl, rfl, _, rfl, ite2 (fun c => ?_) (fun c => ?_)⟩
      · have c : (((figs p n).getD i 0 : Nat) : Int) < (d : Int) := of_decide_eq_true c
        refine ⟨_, rfl, (q _ ((e1.trans e2).trans e4)).2 i ?_⟩
        rw [hdg]
        unfold dg
        omega
      · have c : ¬ (((figs p n).getD i 0 : Nat) : Int) < (d : Int) := fun z => c (decide_eq_true z)
        refine ⟨⟨_, _, rfl⟩, e4, fun j hj => ?_⟩
        by_cases hji : j = i
        · subst hji
          rw [hdg]
          unfold dg
          omega
        · exact hle j (by omega)
    · rintro σ' H' ⟨⟨y4, y5, rfl⟩, e3, hle⟩
      refine ⟨1, rfl, (q H' ((e1.trans e2).trans e3)).1 fun i => ?_⟩
      by_cases hi : i < (nV (figs p k)).length
      · exact hle i hi
      · rw [hlen] at hi
        have : dg p k i = 0 := by unfold dg; rw [List.getD_eq_getElem?_getD, List.getElem?_eq_none (by omega)]; rfl
        rw [this]
        exact Nat.zero_le _
end
end Cc

namespace Cc
open PySem PySem.Spec PyProof.Rows L2 Evl
open Builtin.Int (intBits)
abbrev s__law_carries : Stmt := topS 32
abbrev N__law_carries : List Str := ["_law_prime_here", "_law_one", "_law_other", "_law_found", "_law_more"]
abbrev ps__law_carries : List Str := ["_law_prime_here", "_law_one", "_law_other"]
theorem sc__law_carries : FnScope N__law_carries ps__law_carries (defScope s__law_carries) := ⟨rfl, rfl, rfl, by decide +kernel, rfl, by decide +kernel, by decide +kernel⟩
abbrev s__law_row : Stmt := topS 34
abbrev N__law_row : List Str := ["_law_many", "_law_found", "_law_turn", "_law_at"]
abbrev ps__law_row : List Str := ["_law_many"]
theorem sc__law_row : FnScope N__law_row ps__law_row (defScope s__law_row) := ⟨rfl, rfl, rfl, by decide +kernel, rfl, by decide +kernel, by decide +kernel⟩
abbrev s__law_whole : Stmt := topS 35
abbrev N__law_whole : List Str := ["_law_number"]
abbrev ps__law_whole : List Str := ["_law_number"]
theorem sc__law_whole : FnScope N__law_whole ps__law_whole (defScope s__law_whole) := ⟨rfl, rfl, rfl, by decide +kernel, rfl, by decide +kernel, by decide +kernel⟩

section
variable {P : Program} {w : World} {K : PySem.W.Frag} {mg : Str → Option Value} {base : Heap}
/-! ### _law_carries -/
def sp_carries : Sp := fun vs H Q _ => ∃ p a b : Nat, vs = [.int p, .int a, .int b] ∧ (2 ≤ p ∧ p ≤ 1000) ∧ RetV (.int (kk p a b 0 : Nat)) H Q
theorem ok__law_carries (D : Df K mg "_law_carries" ps__law_carries s__law_carries) : Ok P w K mg base CX0 1 "_law_carries" ps__law_carries sp_carries := by
  refine D.ok sc__law_carries (fun vs H Q E h => ?_) (fun f cdv A outer s H vs Q E hr h => ?_)
  · obtain ⟨p, a, b, rfl, _⟩ := h; rfl
  · obtain ⟨p, a0, b0, rfl, ⟨hp, hp2⟩, q⟩ := h
    refine ⟨_, (pss_cons (ps_asg (pe_tup (pa_cons pe_int (pa_cons pe_int pa_nil))) (pg_tup rfl (pgs_cons (pg_name (i := 3) sc__law_carries.nd rfl (.inl rfl)) (pgs_cons (pg_name (i := 4) sc__law_carries.nd rfl (.inl rfl)) pgs_nil))))
      (pss_cons (ps_while PassesOwn.never (PW.pt (pw_or (pt_cmpR op_gt (pv 1) pe_int (nomark _)) (pw_or (pt_cmpR op_gt (pv 2) pe_int (nomark _)) (pw_or1 (pt_cmpR op_gt (pv 4) pe_int (nomark _))))))
      (pss_cons (ps_set (i := 4) sc__law_carries.nd rfl (.inl rfl) (pe_op op_fdivW (pe_op op_add (pe_op op_add (pe_op op_mod (pv 1) (pv 0)) (pe_op op_mod (pv 2) (pv 0))) (pv 4)) (pv 0)))
      (pss_cons (ps_set (i := 3) sc__law_carries.nd rfl (.inl rfl) (pe_op op_add (pv 3) (pv 4)))
      (pss_one (ps_par (i := 1) (j := 2) (by rfl) sc__law_carries.nd rfl rfl (by decide) rfl rfl (pa_cons (pe_op op_fdivW (pv 1) (pv 0)) (pa_cons (pe_op op_fdivW (pv 2) (pv 0)) pa_nil)) (by rfl))))))
      (pss_one (ps_ret (pv 3))))), ?_⟩
    refine ⟨by show 2 ≤ sizeLine; decide, fun t nt => ⟨t, _, rfl, SqT.of upd_same, rfl, _, _, rfl, _, _, rfl, rfl, ?_⟩⟩
    refine ⟨fun m σ' H' => ∃ a b o c : Nat, m = a + b + c ∧ o + kk p a b c = kk p a0 b0 0 ∧ σ' = [some (.int p), some (.int a), some (.int b), some (.int o), some (.int c)] ∧ Ex H H', ⟨a0 + b0 + 0, a0, b0, 0, 0, rfl, Nat.zero_add _, rfl, Ex.new nt⟩, fun m σ' H' hW => ?_⟩
    obtain ⟨a, b, o, c, rfl, h1, rfl, e1⟩ := hW
    have ht : EvT (tOr (tTest (tOp (rI0 fun i j => .bl (decide (j < i))) (tVar 1) (tC (.int 0)))) (tOr (tTest (tOp (rI0 fun i j => .bl (decide (j < i))) (tVar 2) (tC (.int 0)))) (tTest (tOp (rI0 fun i j => .bl (decide (j < i))) (tVar 4) (tC (.int 0)))))) [some (.int p), some (.int a), some (.int b), some (.int o), some (.int c)] H' (decide ((0 : Int) < a) || (decide ((0 : Int) < b) || decide ((0 : Int) < c))) :=
      et_or (et_test (ev_op (ev_var rfl) ev_c rv_I0)) fun _ => et_or (et_test (ev_op (ev_var rfl) ev_c rv_I0)) fun _ => et_test (ev_op (ev_var rfl) ev_c rv_I0)
    refine ht H' (Ex.refl H') _ fun H2 e2 => ?_
    by_cases hz : a = 0 ∧ b = 0 ∧ c = 0
    · obtain ⟨rfl, rfl, rfl⟩ := hz
      refine if_f (by decide) ⟨_, rfl, ?_⟩
      rw [kk_zero, Nat.add_zero] at h1
      rw [h1]
      exact q H2 (e1.trans e2)
    · have hb : (decide ((0 : Int) < a) || (decide ((0 : Int) < b) || decide ((0 : Int) < c))) = true := by
        simp only [Bool.or_eq_true, decide_eq_true_eq]
        omega
      refine if_t hb ?_
      have hs := kk_step hp hz
      have hd := div_lt hp (show 0 < a + b + c by omega)
      have hc := add_carry p a b c hp
      refine ⟨fun σ' H3 => ∃ a2 b2 o2 c2 : Nat, a2 + b2 + c2 < a + b + c ∧ o2 + kk p a2 b2 c2 = kk p a0 b0 0 ∧ σ' = [some (.int p), some (.int a2), some (.int b2), some (.int o2), some (.int c2)] ∧ Ex H H3, fun σ' H3 hN => ?_, ?_⟩
      · obtain ⟨a2, b2, o2, c2, n1, n2, n3, n4⟩ := hN
        exact ⟨_, n1, a2, b2, o2, c2, rfl, n2, n3, n4⟩
      · refine ⟨_, rfl, _, rfl, _, _, rfl, rfl, (by show (0 : Int) < p; omega), _, rfl, _, rfl, _, _, rfl, rfl, (by show (0 : Int) < p; omega), _, _, rfl, rfl, _, rfl, _, _, rfl, rfl, _, rfl, _, _, rfl, rfl, div_small (by omega) hp2, ?_⟩
        refine ⟨_, rfl, _, rfl, _, _, rfl, rfl, ?_⟩
        refine ⟨_, rfl, _, rfl, _, _, rfl, rfl, div_small (by omega) hp2, _, rfl, _, rfl, _, _, rfl, rfl, div_small (by omega) hp2, _, _, rfl, a / p, b / p, o + (a % p + b % p + c) / p, (a % p + b % p + c) / p, by omega, by omega, rfl, e1.trans e2⟩
/-! ### _law_row -/
def sp_row : Sp := fun vs H Q _ => ∃ n : Nat, vs = [.int n] ∧ n ≤ 60 ∧ RetL (nV (rowL n)) H Q
theorem ok__law_row (T : Bi mg) (D : Df K mg "_law_row" ps__law_row s__law_row) : Ok P w K mg base CX0 1 "_law_row" ps__law_row sp_row := by
  refine D.ok sc__law_row (fun vs H Q E h => ?_) (fun f cdv A outer s H vs Q E hr h => ?_)
  · obtain ⟨n, rfl, _⟩ := h; rfl
  · obtain ⟨n, rfl, hn, q⟩ := h
    refine ⟨_, (pss_cons (ps_set (i := 1) sc__law_row.nd rfl (.inr rfl) (pe_lst (pa_cons pe_int pa_nil)))
      (pss_cons (ps_for PassesOwn.never rfl (pi_range1 (by rfl) T.range (pa_cons (pv 0) pa_nil)) (pg_name (i := 2) sc__law_row.nd rfl (.inl rfl))
      (pss_one (ps_set (i := 1) sc__law_row.nd rfl (.inr rfl) (pe_op op_cat (pe_op op_cat (pe_lst (pa_cons pe_int pa_nil)) (pe_lc (own := [("_law_at", 3)]) (g := gName 3) (by rfl) sc__law_row.nd (pi_range2 (by rfl) T.range (pa_cons pe_int (pa_cons (pe_callB call_len_seq (by rfl) T.len (by decide +kernel) (pa_cons (pv 1) pa_nil)) pa_nil))) (blkOk_by (own := [("_law_at", 3)]) (N := N__law_row) (sc := defScope s__law_row) (by decide +kernel)) (fun _ _ _ _ _ => (pg_name (i := 3) sc__law_row.nd rfl (.inl rfl))) (fun _ _ _ _ _ => pts_nil) (fun _ _ _ _ _ => (pe_op op_add (pe_ix (r := rIxL K) ix_list (pv 1) (pe_op op_sub (pv 3) pe_int) (fun _ _ => rfl)) (pe_ix (r := rIxL K) ix_list (pv 1) (pv 3) (fun _ _ => rfl)))))) (pe_lst (pa_cons pe_int pa_nil))))))
      (pss_one (ps_ret (pv 1))))), ?_⟩
    refine ⟨by show 1 ≤ sizeLine; decide, fun l0 nl0 => ?_⟩
    refine ⟨_, rfl, n, rfl, by omega, by omega, for_range (lo := 0) (n := (n : Int).toNat) (fun i σ' H' => ∃ l y2, σ' = [some (.int n), some (.ref l), y2, none] ∧ H l = none ∧ Ex H H' ∧ H' l = some (.lst (nV (rowL i)))) ⟨l0, _, rfl, nl0, Ex.new nl0, upd_same⟩ ?_ ?_⟩
    · rintro t σ' H1 ht ⟨l, y2, rfl, nl, e1, hl⟩
      have ht2 : t ≤ 60 := by omega
      have hlen : (nV (rowL t)).length = t + 1 := by rw [List.length_map, rowL_len]
      refine ⟨by show 1 ≤ sizeLine; decide, fun l1 n1 => ?_⟩
      have e2 := Ex.new (o := .lst [.int 1]) n1
      refine ⟨_, rfl, l, _, rfl, .inl (SqL.of (e2 l _ hl)), 1, _, rfl, ⟨by decide, by decide, by omega, by omega⟩, fun Dd nD => ?_⟩
      refine lc_range (lo := 1) (n := (((nV (rowL t)).length : Int) - 1).toNat) (fun i H' => H' Dd = some (.lst (nV (midL t i))) ∧ Ex (upd H1 l1 (.lst [.int 1])) H') ⟨upd_same, Ex.new nD⟩ ?_ ?_
      · rintro i H' hi ⟨h1, h2⟩
        have hi2 : i < t := by omega
        have hl' := h2 l _ (e2 l _ hl)
        refine ⟨rfl, yes_if ⟨_, rfl, _, rfl, _, _, rfl, rfl, l, _, _, .int (bin t i : Nat), rfl, rfl, SqL.of hl', at_of (j := i) (by omega) (nV_at (rowL_get (by omega))), _, rfl, _, rfl, l, _, _, .int (bin t (i + 1) : Nat), rfl, rfl, SqL.of hl', at_of (j := i + 1) (by omega) (nV_at (rowL_get (by omega))), _, _, rfl, rfl, nV (midL t i), h1, sz_lt (by rw [List.length_map, midL_len]; omega), ?_, Ex.mut h2 nD⟩⟩
        rw [upd_same, midL_succ, ← nV_app]
        rfl
      · rintro H' ⟨h1, h2⟩
        have ek : (((nV (rowL t)).length : Int) - 1).toNat = t := by omega
        rw [ek] at h1
        have hm : (nV (midL t t)).length = t := by rw [List.length_map, midL_len]
        refine ⟨l1, Dd, _, _, rfl, rfl, h2 l1 _ upd_same, h1, sz_of (by show 1 + _ ≤ _; omega), fun p1 np1 => ?_⟩
        refine ⟨by show 1 ≤ sizeLine; decide, fun l2 n2 => ?_⟩
        refine ⟨p1, l2, _, _, rfl, rfl, Ex.new n2 p1 _ upd_same, upd_same, sz_of (by rw [List.length_append]; show (1 + _) + 1 ≤ _; omega), fun p2 np2 => ?_⟩
        have e5 := ((((e1.trans e2).trans h2).trans (Ex.new np1)).trans (Ex.new (o := .lst [.int 1]) n2))
        refine ⟨p2, _, rfl, fresh_back e5 np2, e5.trans (Ex.new np2), ?_⟩
        rw [upd_same, ← rowL_succ]
        unfold nV
        rw [List.map_append, List.map_append]
        rfl
    · rintro σ' H1 ⟨l, y2, rfl, nl, e1, hl⟩
      exact ⟨_, rfl, q l H1 nl e1 hl⟩
/-! ### _law_whole -/
def sp_lwhole : Sp := fun vs H Q _ => ∃ i : Int, vs = [.int i] ∧ Q (.bl true) H
theorem ok__law_whole (T : Bi mg) (D : Df K mg "_law_whole" ps__law_whole s__law_whole) : Ok P w K mg base CX0 1 "_law_whole" ps__law_whole sp_lwhole := by
  refine D.ok sc__law_whole (fun vs H Q E h => ?_) (fun f cdv A outer s H vs Q E hr h => ?_)
  · obtain ⟨i, rfl, _⟩ := h; rfl
  · obtain ⟨i, rfl, q⟩ := h
    refine ⟨_, (pss_one (ps_ret (pe_and (pe_callB call_isi (by rfl) T.isinstance (by decide +kernel) (pa_cons (pv 0) (pa_cons (pe_bltn (v := .ty "int") (by rfl) T.int_ (by decide +kernel) rfl) pa_nil))) (pe_one (pe_not (pe_callB call_isi (by rfl) T.isinstance (by decide +kernel) (pa_cons (pv 0) (pa_cons (pe_bltn (v := .ty "bool") (by rfl) T.bool_ (by decide +kernel) rfl) pa_nil)))))))), ?_⟩
    refine ⟨_, rfl, _, _, _, _, _, rfl, .ty "int", .base (.int i), kit_ty (by decide +kernel : kitB "int" "int" = some true), _, rfl, if_t rfl ?_⟩
    exact ⟨_, rfl, _, _, _, _, _, rfl, .ty "bool", .base (.int i), kit_ty (by decide +kernel : kitB "int" "bool" = some false), _, rfl, q⟩
end
end Cc

namespace Cc
open PySem PySem.Spec PyProof.Rows L2 Evl
open Builtin.Int (intBits)
abbrev s__law_core : Stmt := topS 33
abbrev N__law_core : List Str := ["_law_prime_here", "_law_number", "_law_often"]
abbrev ps__law_core : List Str := ["_law_prime_here", "_law_number"]
theorem sc__law_core : FnScope N__law_core ps__law_core (defScope s__law_core) := ⟨rfl, rfl, rfl, by decide +kernel, rfl, by decide +kernel, by decide +kernel⟩

section
variable {P : Program} {w : World} {K : PySem.W.Frag} {mg : Str → Option Value} {base : Heap}
/-! ### _law_core -/
def sp_core : Sp := fun vs H Q _ => ∃ p n : Nat, vs = [.int p, .int n] ∧ (2 ≤ p ∧ p ≤ 1000 ∧ 0 < n) ∧ RetU [.int ((core p n).1 : Nat), .int ((core p n).2 : Nat)] H Q
theorem ok__law_core (D : Df K mg "_law_core" ps__law_core s__law_core) : Ok P w K mg base CX0 1 "_law_core" ps__law_core sp_core := by
  refine D.ok sc__law_core (fun vs H Q E h => ?_) (fun f cdv A outer s H vs Q E hr h => ?_)
  · obtain ⟨p, n, rfl, _⟩ := h; rfl
  · obtain ⟨p, n, rfl, ⟨hp, hp2, hn⟩, q⟩ := h
    refine ⟨_, (pss_cons (ps_set (i := 2) sc__law_core.nd rfl (.inl rfl) pe_int)
      (pss_cons (ps_while PassesOwn.never (pt_cmpR op_eq (pe_op op_mod (pv 1) (pv 0)) pe_int (nomark _))
      (pss_one (ps_par (i := 1) (j := 2) (by rfl) sc__law_core.nd rfl rfl (by decide) rfl rfl (pa_cons (pe_op op_fdivW (pv 1) (pv 0)) (pa_cons (pe_op op_add (pv 2) pe_int) pa_nil)) (by rfl))))
      (pss_one (ps_ret (pe_tup (pa_cons (pv 2) (pa_cons (pe_op op_mod (pv 1) (pv 0)) pa_nil))))))), ?_⟩
    refine ⟨fun m σ' H' => ∃ o : Nat, 0 < m ∧ core p n = ((core p m).1 + o, (core p m).2) ∧ σ' = [some (.int p), some (.int m), some (.int o)] ∧ H' = H, ⟨n, 0, hn, rfl, rfl, rfl⟩, fun m σ' H' hW => ?_⟩
    obtain ⟨o, hm, h1, rfl, rfl⟩ := hW
    refine ⟨_, rfl, _, rfl, _, _, rfl, rfl, (by show (0 : Int) < p; omega), rfl, _, rfl, ite2 (fun c => ?_) (fun c => ?_)⟩
    · have c1 : V.int ((m : Int) % (p : Int)) = V.int 0 := of_decide_eq_true c
      have c2 : ((m % p : Nat) : Int) = 0 := V.int.inj c1
      have c3 : m % p = 0 := by omega
      have hd := div_lt hp hm
      have hq : 0 < m / p := by
        refine Nat.pos_of_ne_zero fun z => ?_
        have := Nat.div_add_mod m p
        rw [z, c3] at this
        omega
      refine ⟨fun σ' H2 => ∃ o : Nat, core p n = ((core p (m / p)).1 + o, (core p (m / p)).2) ∧ σ' = [some (.int p), some (.int (m / p : Nat)), some (.int o)] ∧ H2 = H', fun σ' H2 hN => ?_, ?_⟩
      · obtain ⟨o2, g1, g2, g3⟩ := hN
        exact ⟨m / p, hd, o2, hq, g1, g2, g3⟩
      · refine ⟨_, rfl, _, rfl, _, _, rfl, rfl, div_small (by omega) hp2, _, rfl, _, _, rfl, rfl, _, _, rfl, o + 1, ?_, rfl, rfl⟩
        rw [h1, core_step hp hm c3]
        exact Prod.ext (by show (core p (m / p)).1 + 1 + o = (core p (m / p)).1 + (o + 1); omega) rfl
    · have c3 : m % p ≠ 0 := fun z => c (decide_eq_true (by
        show V.int ((m % p : Nat) : Int) = V.int 0
        rw [z]; rfl))
      rw [core_done hp hm c3] at h1
      refine ⟨_, rfl, _, rfl, _, rfl, _, _, rfl, rfl, (by show (0 : Int) < p; omega), (by show 2 ≤ sizeLine; decide), fun u nu => ?_⟩
      refine q u _ nu (Ex.new nu) ?_
      rw [upd_same, h1]
      show some (HO.tup [V.int (o : Int), V.int ((m % p : Nat) : Int)]) = some (HO.tup [V.int ((0 + o : Nat) : Int), V.int ((m % p : Nat) : Int)])
      rw [Nat.zero_add]
end
end Cc

namespace Cc
open PySem PySem.Spec PyProof.Rows L2 Evl
abbrev s_free_of : Stmt := topS 19
abbrev N_free_of : List Str := ["prime", "many", "found", "figure"]
abbrev ps_free_of : List Str := ["prime", "many"]
theorem sc_free_of : FnScope N_free_of ps_free_of (defScope s_free_of) := ⟨rfl, rfl, rfl, by decide +kernel, rfl, by decide +kernel, by decide +kernel⟩
abbrev s_free : Stmt := topS 20
abbrev N_free : List Str := ["prime", "many"]
abbrev ps_free : List Str := ["prime", "many"]
theorem sc_free : FnScope N_free ps_free (defScope s_free) := ⟨rfl, rfl, rfl, by decide +kernel, rfl, by decide +kernel, by decide +kernel⟩
abbrev s_most : Stmt := topS 21
abbrev N_most : List Str := ["prime", "many", "found", "power"]
abbrev ps_most : List Str := ["prime", "many"]
theorem sc_most : FnScope N_most ps_most (defScope s_most) := ⟨rfl, rfl, rfl, by decide +kernel, rfl, by decide +kernel, by decide +kernel⟩

section
variable {P : Program} {w : World} {K : PySem.W.Frag} {mg : Str → Option Value} {base : Heap}
theorem lt1000 {n : Nat} (h : n < 2 ^ 200) : n < 2 ^ 1000 := Nat.lt_trans h (Nat.pow_lt_pow_right (by decide) (by decide))
theorem mul_nat {a b x y : Nat} (ha : a < 2 ^ x) (hb : b < 2 ^ y) (h : x + y ≤ 134217728) : CMulX (a : Int) (b : Int) := mulx_ok (nat_pow_lt ha) (nat_pow_lt hb) h
theorem fr_part {p n c : Nat} {l : List Nat} (hp : 2 ≤ p) (hn : n < 2 ^ 200) (h : c * fr l = fr (figs p n)) : c < 2 ^ 201 := by
  have h1 := Nat.le_mul_of_pos_right c (fr_pos l)
  have h2 := fr_le hp n
  have h3 : (2 : Nat) ^ 201 = 2 ^ 200 + 2 ^ 200 := by decide
  rw [h3]
  rw [h] at h1
  omega
theorem d11 {d p : Nat} (h : d < p) (hp : p ≤ 1000) : d + 1 < 2 ^ 11 := Nat.lt_of_le_of_lt (show d + 1 ≤ 1000 by omega) (by decide)
/-! ### free_of, free -/
def sp_free_of : Sp := fun vs H Q _ => ∃ p n : Nat, vs = [.int p, .int n] ∧ (2 ≤ p ∧ p ≤ 1000 ∧ n < 2 ^ 200) ∧ RetV (.int (fr (figs p n) : Nat)) H Q
theorem ok_free_of (D : Df K mg "free_of" ps_free_of s_free_of) (O_figures_of : Ok P w K mg base CX0 1 "figures_of" ps_figures_of sp_figures_of) : Ok P w K mg base CX0 2 "free_of" ps_free_of sp_free_of := by
  refine D.ok sc_free_of (fun vs H Q E h => ?_) (fun f cdv A outer s H vs Q E hr h => ?_)
  · obtain ⟨p, n, rfl, _⟩ := h; rfl
  · obtain ⟨p, n, rfl, ⟨hp, hp2, hn⟩, q⟩ := h
    refine ⟨_, (pss_cons (ps_set (i := 2) sc_free_of.nd rfl (.inl rfl) pe_int)
      (pss_cons (ps_for PassesOwn.never rfl (pi_list (pe_callO O_figures_of hr (pa_cons (pv 0) (pa_cons (pv 1) pa_nil)))) (pg_name (i := 3) sc_free_of.nd rfl (.inl rfl))
      (pss_one (ps_set (i := 2) sc_free_of.nd rfl (.inl rfl) (pe_op op_mulX (pv 2) (pe_op op_add (pv 3) pe_int)))))
      (pss_one (ps_ret (pv 2))))), ?_⟩
    refine ⟨_, rfl, _, rfl, p, n, rfl, ⟨hp, hp2, lt1000 hn⟩, fun l H1 nl e1 hl => ?_⟩
    have hlen : (nV (figs p n)).length = (figs p n).length := List.length_map _
    refine ⟨l, rfl, ⟨_, SqL.of hl⟩, for_list (K := K) (a := l) (xs := nV (figs p n)) (fun i σ' H' => ∃ (c : Nat) (y : Option V), c * fr ((figs p n).drop i) = fr (figs p n) ∧ σ' = [some (.int p), some (.int n), some (.int c), y] ∧ Ex H1 H')
      ⟨1, _, Nat.one_mul _, rfl, Ex.refl _⟩ (fun i σ' H' _ ⟨_, _, _, _, e⟩ => SqL.of (e l _ hl)) ?_ ?_⟩
    · rintro i x σ' H' hi ⟨c, y, h1, rfl, e2⟩
      obtain ⟨d, hd, rfl⟩ := nV_get hi
      have hc := fr_part hp hn h1
      rw [drop_cons hd] at h1
      have hd2 := figs_small hp n d (List.mem_of_getElem? hd)
      refine ⟨_, rfl, _, rfl, _, _, rfl, rfl, _, _, rfl, rfl, (show CMulX (c : Int) ((d + 1 : Nat) : Int) from mul_nat hc (d11 hd2 hp2) (by decide)), c * (d + 1), some (.int d), ?_, rfl, e2⟩
      rw [← h1, Nat.mul_assoc]
      rfl
    · rintro σ' H' ⟨c, y, h1, rfl, e2⟩
      rw [hlen, List.drop_length] at h1
      have h2 : c = fr (figs p n) := (Nat.mul_one c).symm.trans h1
      refine ⟨_, rfl, ?_⟩
      rw [h2]
      exact q H' (e1.trans e2)
def sp_free : Sp := fun vs H Q _ => ∃ p n : Nat, vs = [.int p, .int n] ∧ (Pr p ∧ n < 2 ^ 200) ∧ RetV (.int (fr (figs p n) : Nat)) H Q
theorem ok_free (D : Df K mg "free" ps_free s_free) (O_check_prime : Ok P w K mg base CX0 2 "check_prime" ps_check_prime sp_check_prime) (O_check_many : Ok P w K mg base CX0 2 "check_many" ps_check_many sp_check_many) (O_free_of : Ok P w K mg base CX0 2 "free_of" ps_free_of sp_free_of) : Ok P w K mg base CX0 3 "free" ps_free sp_free := by
  refine D.ok sc_free (fun vs H Q E h => ?_) (fun f cdv A outer s H vs Q E hr h => ?_)
  · obtain ⟨p, n, rfl, _⟩ := h; rfl
  · obtain ⟨p, n, rfl, ⟨hP, hn⟩, q⟩ := h
    have hp2 : p ≤ 1000 := Nat.le_trans hP.hi (by decide)
    refine ⟨_, (pss_cons (ps_expr (pe_callO O_check_prime hr (pa_cons (pv 0) pa_nil)))
      (pss_cons (ps_expr (pe_callO O_check_many hr (pa_cons (pv 1) pa_nil)))
      (pss_one (ps_ret (pe_callO O_free_of hr (pa_cons (pv 0) (pa_cons (pv 1) pa_nil))))))), ?_⟩
    exact ⟨_, rfl, p, rfl, hP, fun H1 e1 => ⟨_, rfl, n, rfl, _, rfl, _, rfl, p, n, rfl, ⟨hP.lo, hp2, hn⟩, fun H2 e2 => q H2 (e1.trans e2)⟩⟩
/-! ### most -/
def sp_most : Sp := fun vs H Q _ => ∃ p n : Nat, vs = [.int p, .int n] ∧ (Pr p ∧ n < 2 ^ 200) ∧ RetV (.int (mst p n : Nat)) H Q
theorem ok_most (D : Df K mg "most" ps_most s_most) (O_check_prime : Ok P w K mg base CX0 2 "check_prime" ps_check_prime sp_check_prime) (O_check_many : Ok P w K mg base CX0 2 "check_many" ps_check_many sp_check_many) : Ok P w K mg base CX0 3 "most" ps_most sp_most := by
  refine D.ok sc_most (fun vs H Q E h => ?_) (fun f cdv A outer s H vs Q E hr h => ?_)
  · obtain ⟨p, n, rfl, _⟩ := h; rfl
  · obtain ⟨p, n, rfl, ⟨hP, hn⟩, q⟩ := h
    have hp := hP.lo
    have hp2 : p ≤ 1000 := Nat.le_trans hP.hi (by decide)
    have hN : 0 < n + 1 := Nat.succ_pos n
    have hLe := core_len hp hN
    refine ⟨_, (pss_cons (ps_expr (pe_callO O_check_prime hr (pa_cons (pv 0) pa_nil)))
      (pss_cons (ps_expr (pe_callO O_check_many hr (pa_cons (pv 1) pa_nil)))
      (pss_cons (ps_set (i := 2) sc_most.nd rfl (.inl rfl) pe_int)
      (pss_cons (ps_set (i := 3) sc_most.nd rfl (.inl rfl) (pv 0))
      (pss_cons (ps_while PassesOwn.never (pt_cmpR op_le (pv 3) (pe_op op_add (pv 1) pe_int) (nomark _))
      (pss_cons (ps_if (pt_cmpR op_ne (pe_op op_mod (pe_op op_add (pv 1) pe_int) (pv 3)) pe_int (nomark _))
      (pss_one (ps_aug (i := 2) sc_most.nd rfl (.inl rfl) pe_int ip_add))
      pss_nil)
      (pss_one (ps_aug (i := 3) sc_most.nd rfl (.inl rfl) (pv 0) ip_mulX))))
      (pss_one (ps_ret (pv 2)))))))), ?_⟩
    refine ⟨_, rfl, p, rfl, hP, fun H1 e1 => ⟨_, rfl, n, rfl, _, rfl, ?_⟩⟩
    refine ⟨fun m σ' H' => ∃ i : Nat, m = (figs p (n + 1)).length - i ∧ 1 ≤ i ∧ i ≤ (figs p (n + 1)).length ∧ σ' = [some (.int p), some (.int n), some (.int (i - 1 - (core p (n + 1)).1 : Nat)), some (.int (p ^ i : Nat))] ∧ Ex H H',
      ⟨_, 1, rfl, Nat.le_refl 1, by omega, ?_, e1⟩, fun m σ' H' hW => ?_⟩
    · rw [Nat.pow_one, Nat.sub_self, Nat.zero_sub]
      rfl
    obtain ⟨i, rfl, h1, h2, rfl, e2⟩ := hW
    refine ⟨_, rfl, _, rfl, _, _, rfl, rfl, _, _, rfl, rfl, _, rfl, ite2 (fun c => ?_) (fun c => ?_)⟩
    · have c : ((p ^ i : Nat) : Int) ≤ (n : Int) + 1 := of_decide_eq_true c
      have c2 : p ^ i ≤ n + 1 := by omega
      have hi := (pow_len hp i (n + 1) hN).mp c2
      have hpos : 0 < p ^ i := Nat.pow_pos (by omega)
      have hpw : p ^ i < 2 ^ 201 := by
        have h3 : (2 : Nat) ^ 201 = 2 ^ 200 + 2 ^ 200 := by decide
        rw [h3]
        omega
      have hcp := core_pow hp i (n + 1) hN
      refine ⟨fun σ' H2 => σ' = [some (.int p), some (.int n), some (.int (i + 1 - 1 - (core p (n + 1)).1 : Nat)), some (.int (p ^ (i + 1) : Nat))] ∧ Ex H H2, fun σ' H2 hN => ?_, ?_⟩
      · obtain ⟨g1, g2⟩ := hN
        exact ⟨_, by omega, i + 1, rfl, by omega, hi, g1, g2⟩
      · refine ⟨_, rfl, _, _, rfl, rfl, _, rfl, _, _, rfl, rfl, (by show (0 : Int) < ((p ^ i : Nat) : Int); omega), rfl, _, rfl, ite2 (fun o => ?_) (fun o => ?_)⟩
        · have o2 : (n + 1) % p ^ i ≠ 0 := fun z => by
            have o1 : (!decide (V.int (((n + 1) % p ^ i : Nat) : Int) = V.int 0)) = true := o
            rw [z] at o1
            cases o1
          have o3 := hcp.mp o2
          refine ⟨_, rfl, _, _, rfl, rfl, _, rfl, _, rfl, _, _, rfl, rfl, mul_nat hpw (Nat.lt_of_le_of_lt hp2 (show 1000 < 2 ^ 10 by decide)) (by decide), ?_, e2⟩
          show [_, _, some (V.int (((i - 1 - (core p (n + 1)).1 : Nat) : Int) + 1)), some (V.int ((p ^ i * p : Nat) : Int))] = _
          rw [← Nat.pow_succ, show ((i - 1 - (core p (n + 1)).1 : Nat) : Int) + 1 = ((i + 1 - 1 - (core p (n + 1)).1 : Nat) : Int) by omega]
        · have o2 : (n + 1) % p ^ i = 0 := Decidable.byContradiction fun z => o (by
            show (!decide (V.int (((n + 1) % p ^ i : Nat) : Int) = V.int 0)) = true
            rw [decide_eq_false (fun y : V.int (((n + 1) % p ^ i : Nat) : Int) = V.int 0 => z (Int.ofNat.inj (V.int.inj y)))]
            rfl)
          have o3 : ¬ (core p (n + 1)).1 < i := fun z => hcp.mpr z o2
          refine ⟨_, rfl, _, rfl, _, _, rfl, rfl, mul_nat hpw (Nat.lt_of_le_of_lt hp2 (show 1000 < 2 ^ 10 by decide)) (by decide), ?_, e2⟩
          show [_, _, some (V.int (i - 1 - (core p (n + 1)).1 : Nat)), some (V.int ((p ^ i * p : Nat) : Int))] = _
          rw [← Nat.pow_succ, show i - 1 - (core p (n + 1)).1 = i + 1 - 1 - (core p (n + 1)).1 by omega]
    · have c : ¬ ((p ^ i : Nat) : Int) ≤ (n : Int) + 1 := fun z => c (decide_eq_true z)
      have hi : ¬ i < (figs p (n + 1)).length := fun z => by
        have := (pow_len hp i (n + 1) hN).mpr z
        omega
      refine ⟨_, rfl, ?_⟩
      have := q H' e2
      unfold mst at this
      rw [show i = (figs p (n + 1)).length by omega]
      exact this
end
end Cc

namespace Cc
open PySem PySem.Spec PyProof.Rows L2 Evl
abbrev s_place_by : Stmt := topS 22
abbrev N_place_by : List Str := ["prime", "many", "number", "found", "power", "figure"]
abbrev ps_place_by : List Str := ["prime", "many", "number"]
theorem sc_place_by : FnScope N_place_by ps_place_by (defScope s_place_by) := ⟨rfl, rfl, rfl, by decide +kernel, rfl, by decide +kernel, by decide +kernel⟩
abbrev s_number_of : Stmt := topS 23
abbrev N_number_of : List Str := ["prime", "many", "some", "found", "weight", "mine", "place", "figure"]
abbrev ps_number_of : List Str := ["prime", "many", "some"]
theorem sc_number_of : FnScope N_number_of ps_number_of (defScope s_number_of) := ⟨rfl, rfl, rfl, by decide +kernel, rfl, by decide +kernel, by decide +kernel⟩
abbrev s__law_not_free : Stmt := topS 36
abbrev N__law_not_free : List Str := ["_law_prime_here", "_law_many", "_law_some", "error", "_law_others"]
abbrev ps__law_not_free : List Str := ["_law_prime_here", "_law_many", "_law_some"]
theorem sc__law_not_free : FnScope N__law_not_free ps__law_not_free (defScope s__law_not_free) := ⟨rfl, rfl, rfl, by decide +kernel, rfl, by decide +kernel, by decide +kernel⟩
abbrev s__law_most : Stmt := topS 37
abbrev N__law_most : List Str := ["_law_prime_here", "_law_many", "_law_row_here", "_law_begin"]
abbrev ps__law_most : List Str := ["_law_prime_here", "_law_many"]
theorem sc__law_most : FnScope N__law_most ps__law_most (defScope s__law_most) := ⟨rfl, rfl, rfl, by decide +kernel, rfl, by decide +kernel, by decide +kernel⟩

section
variable {P : Program} {w : World} {K : PySem.W.Frag} {mg : Str → Option Value} {base : Heap} {C_ChooseError C_BadPrime C_BadMany C_BadSome C_BadNumber C_NotFree : Addr}
/-! ### place_by -/
def sp_place_by : Sp := fun vs H Q _ => ∃ p n m : Nat, vs = [.int p, .int n, .int m] ∧ (Pr p ∧ n < 2 ^ 200 ∧ m < fr (figs p n)) ∧ RetV (.int (pb p (figs p n) m : Nat)) H Q
theorem step_pb (f w a p X : Nat) : f + a * w + w * p * X = f + w * (a + p * X) := by
  rw [Nat.mul_add, Nat.mul_assoc, Nat.mul_comm a w, Nat.add_assoc]
theorem ok_place_by (D : Df K mg "place_by" ps_place_by s_place_by) (O_is_whole : Ok P w K mg base CX0 1 "is_whole" ps_is_whole (sp_is_whole K)) (O_check_prime : Ok P w K mg base CX0 2 "check_prime" ps_check_prime sp_check_prime) (O_check_many : Ok P w K mg base CX0 2 "check_many" ps_check_many sp_check_many) (O_free_of : Ok P w K mg base CX0 2 "free_of" ps_free_of sp_free_of) (O_figures_of : Ok P w K mg base CX0 1 "figures_of" ps_figures_of sp_figures_of) : Ok P w K mg base CX0 3 "place_by" ps_place_by sp_place_by := by
  refine D.ok sc_place_by (fun vs H Q E h => ?_) (fun f cdv A outer s H vs Q E hr h => ?_)
  · obtain ⟨p, n, m, rfl, _⟩ := h; rfl
  · obtain ⟨p, n, m0, rfl, ⟨hP, hn, hm⟩, q⟩ := h
    have hp := hP.lo
    have hp2 : p ≤ 1000 := Nat.le_trans hP.hi (by decide)
    have hle := fr_le hp n
    refine ⟨_, (pss_cons (ps_expr (pe_callO O_check_prime hr (pa_cons (pv 0) pa_nil)))
      (pss_cons (ps_expr (pe_callO O_check_many hr (pa_cons (pv 1) pa_nil)))
      (pss_cons (ps_if (PW.pt (pw_or (pt_not (pt_val (pe_callO O_is_whole hr (pa_cons (pv 2) pa_nil)))) (pw_or1 (pt_cmpR op_ge (pv 2) (pe_callO O_free_of hr (pa_cons (pv 0) (pa_cons (pv 1) pa_nil))) (nomark _)))))
      (pss_one ps_never)
      pss_nil)
      (pss_cons (ps_set (i := 3) sc_place_by.nd rfl (.inl rfl) pe_int)
      (pss_cons (ps_set (i := 4) sc_place_by.nd rfl (.inl rfl) pe_int)
      (pss_cons (ps_for PassesOwn.never rfl (pi_list (pe_callO O_figures_of hr (pa_cons (pv 0) (pa_cons (pv 1) pa_nil)))) (pg_name (i := 5) sc_place_by.nd rfl (.inl rfl))
      (pss_cons (ps_aug (i := 3) sc_place_by.nd rfl (.inl rfl) (pe_op op_mulX (pe_op op_mod (pv 2) (pe_op op_add (pv 5) pe_int)) (pv 4)) ip_add)
      (pss_cons (ps_set (i := 2) sc_place_by.nd rfl (.inl rfl) (pe_op op_fdivW (pv 2) (pe_op op_add (pv 5) pe_int)))
      (pss_one (ps_aug (i := 4) sc_place_by.nd rfl (.inl rfl) (pv 0) ip_mulX)))))
      (pss_one (ps_ret (pv 3))))))))), ?_⟩
    have hw : (!whole (some (m0 : Int))) = false := by show (!decide (0 ≤ (m0 : Int))) = false; rw [decide_eq_true (by omega)]; rfl
    have c1 : decide (((fr (figs p n) : Nat) : Int) ≤ (m0 : Int)) = false := decide_eq_false (by omega)
    refine ⟨_, rfl, p, rfl, hP, fun H1 e1 => ⟨_, rfl, n, rfl, ?_⟩⟩
    refine ⟨_, rfl, _, _, rfl, .int (m0 : Int), _, rfl, if_f hw ⟨_, rfl, _, rfl, _, rfl, p, n, rfl, ⟨hp, hp2, hn⟩, fun H2 e2 => ⟨_, _, rfl, rfl, _, rfl, if_f c1 ?_⟩⟩⟩
    refine ⟨_, rfl, _, rfl, p, n, rfl, ⟨hp, hp2, lt1000 hn⟩, fun l H3 nl e3 hl => ?_⟩
    have hlen : (nV (figs p n)).length = (figs p n).length := List.length_map _
    have hll := figs_len_le hp n 200 hn
    refine ⟨l, rfl, ⟨_, SqL.of hl⟩, for_list (K := K) (a := l) (xs := nV (figs p n)) (fun i σ' H' => ∃ (f m : Nat) (y : Option V), m ≤ m0 ∧ f + p ^ i * pb p ((figs p n).drop i) m = pb p (figs p n) m0 ∧ σ' = [some (.int p), some (.int n), some (.int m), some (.int f), some (.int (p ^ i : Nat)), y] ∧ Ex H3 H')
      ⟨0, m0, _, Nat.le_refl _, by rw [Nat.pow_zero, Nat.one_mul, Nat.zero_add]; rfl, rfl, Ex.refl _⟩ (fun i σ' H' _ ⟨_, _, _, _, _, _, e⟩ => SqL.of (e l _ hl)) ?_ ?_⟩
    · rintro i x σ' H' hi ⟨f, m, y, hmm, h1, rfl, e4⟩
      obtain ⟨d, hd, rfl⟩ := nV_get hi
      have hil : i < (figs p n).length := (List.getElem?_eq_some_iff.mp hd).1
      rw [drop_cons hd] at h1
      have hd2 := figs_small hp n d (List.mem_of_getElem? hd)
      have hpw := pow_bits (i := i) hp2 (by omega)
      have hmod : m % (d + 1) < 2 ^ 11 := Nat.lt_trans (Nat.mod_lt _ (Nat.succ_pos d)) (d11 hd2 hp2)
      refine ⟨_, rfl, _, rfl, _, rfl, _, _, rfl, rfl, _, _, rfl, rfl, (by show (0 : Int) < (d : Int) + 1; omega), _, rfl, _, _, rfl, rfl, (show CMulX ((m % (d + 1) : Nat) : Int) ((p ^ i : Nat) : Int) from mul_nat hmod hpw (by decide)), _, _, rfl, rfl, ?_⟩
      refine ⟨_, rfl, _, rfl, _, _, rfl, rfl, _, _, rfl, rfl, (div_small (p := d + 1) (Nat.succ_pos d) (by omega)), ?_⟩
      refine ⟨_, rfl, _, rfl, _, _, rfl, rfl, mul_nat hpw (Nat.lt_of_le_of_lt hp2 (show 1000 < 2 ^ 10 by decide)) (by decide), f + m % (d + 1) * p ^ i, m / (d + 1), some (.int d), Nat.le_trans (Nat.div_le_self _ _) hmm, ?_, rfl, e4⟩
      rw [Nat.pow_succ, step_pb]
      exact h1
    · rintro σ' H' ⟨f, m, y, hmm, h1, rfl, e4⟩
      rw [hlen, List.drop_length] at h1
      have h2 : f = pb p (figs p n) m0 := by
        rw [← h1]
        show f = f + p ^ _ * 0
        rw [Nat.mul_zero, Nat.add_zero]
      refine ⟨_, rfl, ?_⟩
      rw [h2]
      exact q H' (((e1.trans e2).trans e3).trans e4)
/-! ### number_of: a free place's number, or the refusal -/
def sp_number_of (CF : Addr) : Sp := fun vs H Q E => ∃ p n k : Nat, vs = [.int p, .int n, .int k] ∧ (Pr p ∧ n < 2 ^ 200 ∧ k ≤ n) ∧ ∀ H', Ex H H' → (okL p (figs p n) k → Q (.int (nb p (figs p n) k : Nat)) H') ∧ (¬ okL p (figs p n) k → E (.ref CF) none H')
theorem step_nb (f w a d X : Nat) : f + a * w + w * (d + 1) * X = f + w * (a + (d + 1) * X) := by
  rw [Nat.mul_add w a, Nat.mul_assoc, Nat.mul_comm a w, Nat.add_assoc]
theorem ok_number_of (T : Bi mg) (X_NotFree : XCls K mg C_NotFree "NotFree") (D : Df K mg "number_of" ps_number_of s_number_of) (O_check_all : Ok P w K mg base CX0 3 "check_all" ps_check_all sp_check_all) (O_bound_at : Ok P w K mg base CX0 2 "bound_at" ps_bound_at sp_bound_at) (O_figures_of : Ok P w K mg base CX0 1 "figures_of" ps_figures_of sp_figures_of) : Ok P w K mg base (L2N.CX P w) 4 "number_of" ps_number_of (sp_number_of C_NotFree) := by
  refine D.okX sc_number_of (fun vs H Q E h => ?_) (fun f cdv A outer s H vs Q E hr h => ?_)
  · obtain ⟨p, n, m, rfl, _⟩ := h; rfl
  · obtain ⟨p, n, k, rfl, ⟨hP, hn, hk⟩, q⟩ := h
    have hp := hP.lo
    have hp2 : p ≤ 1000 := Nat.le_trans hP.hi (by decide)
    have hn3 := lt1000 hn
    refine ⟨_, (pss_cons (ps_expr (pe_callO O_check_all hr (pa_cons (pv 0) (pa_cons (pv 1) (pa_cons (pv 2) pa_nil)))))
      (pss_cons (ps_if (pt_cmpR op_ge (pe_callO O_bound_at hr (pa_cons (pv 0) (pa_cons (pv 1) (pa_cons (pv 2) pa_nil)))) pe_int (nomark _))
      (pss_one (L2N.ps_raise rfl (L2N.takes_of rfl rfl rfl rfl) (L2N.pmk_own PySem.F.excBase_ValueError X_NotFree.ex X_NotFree.g X_NotFree.k (raises_own X_NotFree.b X_NotFree.t) rfl)))
      pss_nil)
      (pss_cons (ps_set (i := 3) sc_number_of.nd rfl (.inl rfl) pe_int)
      (pss_cons (ps_set (i := 4) sc_number_of.nd rfl (.inl rfl) pe_int)
      (pss_cons (ps_set (i := 5) sc_number_of.nd rfl (.inl rfl) (pe_callO O_figures_of hr (pa_cons (pv 0) (pa_cons (pv 2) pa_nil))))
      (pss_cons (ps_for PassesOwn.leaving rfl (pi_enum (by rfl) T.enumerate (pa_cons (pe_callO O_figures_of hr (pa_cons (pv 0) (pa_cons (pv 1) pa_nil))) pa_nil)) (pg_tup rfl (pgs_cons (pg_name (i := 6) sc_number_of.nd rfl (.inl rfl)) (pgs_cons (pg_name (i := 7) sc_number_of.nd rfl (.inl rfl)) pgs_nil)))
      (pss_cons (ps_aug (i := 3) sc_number_of.nd rfl (.inl rfl) (pe_op op_mulX (pe_ifExp (pt_cmpR op_lt (pv 6) (pe_callB call_len_seq (by rfl) T.len (by decide +kernel) (pa_cons (pv 5) pa_nil)) (nomark _)) (pe_ix (r := rIxL K) ix_list (pv 5) (pv 6) (fun _ _ => rfl)) pe_int) (pv 4)) ip_add)
      (pss_one (ps_aug (i := 4) sc_number_of.nd rfl (.inl rfl) (pe_op op_add (pv 7) pe_int) ip_mulX))))
      (pss_one (ps_ret (pv 3))))))))), ?_⟩
    refine ⟨_, rfl, _, rfl, _, rfl, p, n, k, rfl, ⟨hP, hk⟩, fun H1 e1 => ?_⟩
    refine ⟨_, rfl, _, rfl, _, rfl, p, n, k, rfl, ⟨hp, hp2, hn3, Nat.lt_of_le_of_lt hk hn3⟩, fun H2 e2 => ⟨fun hf => ?_, fun i hi => ?_⟩⟩
    · have c : decide ((0 : Int) ≤ -1) = false := by decide
      have ok : okL p (figs p n) k := (okL_iff hp n k).mpr hf
      refine ⟨_, _, rfl, rfl, _, rfl, if_f c ?_⟩
      refine ⟨_, rfl, _, rfl, p, k, rfl, ⟨hp, hp2, Nat.lt_of_le_of_lt hk hn3⟩, fun a H3 na e3 ha => ?_⟩
      refine ⟨_, rfl, _, rfl, p, n, rfl, ⟨hp, hp2, hn3⟩, fun b H4 nb4 e4 hb => ?_⟩
      have ha4 := e4 a _ ha
      have hlen : (nV (figs p n)).length = (figs p n).length := List.length_map _
      refine ⟨b, _, rfl, SqL.of hb, for_it (walk_enum (K := K) (a := b) (xs := nV (figs p n))) (fun i σ' H' => ∃ (f c : Nat) (y7 y8 : Option V), c * fr ((figs p n).drop i) = fr (figs p n) ∧ f + c * nb p ((figs p n).drop i) (k / p ^ i) = nb p (figs p n) k ∧ σ' = [some (.int p), some (.int n), some (.int k), some (.int f), some (.int c), some (.ref a), y7, y8] ∧ Ex H4 H')
        ⟨0, 1, _, _, Nat.one_mul _, by rw [Nat.one_mul, Nat.zero_add, Nat.pow_zero, Nat.div_one]; rfl, rfl, Ex.refl _⟩ (fun i σ' H' _ ⟨_, _, _, _, _, _, _, e⟩ => SqL.of (e b _ hb)) ?_ ?_⟩
      · rintro i x σ' H' H'' hi ⟨f, c, y7, y8, h1, h2, rfl, e5⟩ ⟨T1, x1, x2, rfl, nT, rfl, g1, g2⟩
        cases g1
        obtain ⟨d, hd, rfl⟩ := nV_get g2
        have hc := fr_part hp hn h1
        rw [drop_cons hd] at h1 h2
        have hd2 := figs_small hp n d (List.mem_of_getElem? hd)
        have e6 := e5.trans (Ex.new (o := .tup [.int (i : Nat), .int (d : Int)]) nT)
        have ha6 := e6 a _ ha4
        have hdg := dg_eq hp i k
        have hlk : (nV (figs p k)).length = (figs p k).length := List.length_map _
        have hmul : dg p k i < 2 ^ 10 := by
          rw [hdg]
          exact Nat.lt_of_lt_of_le (Nat.mod_lt _ (by omega)) (Nat.le_trans hp2 (by decide))
        have n1 : c * (d + 1) * fr ((figs p n).drop (i + 1)) = fr (figs p n) := by
          rw [← h1, Nat.mul_assoc]
          rfl
        have n2 : f + dg p k i * c + c * (d + 1) * nb p ((figs p n).drop (i + 1)) (k / p ^ (i + 1)) = nb p (figs p n) k := by
          rw [step_nb, ← h2, hdg, Nat.pow_succ, ← Nat.div_div_eq_div_mul]
          rfl
        refine ⟨T1, _, rfl, SqT.of upd_same, rfl, _, _, rfl, _, _, rfl, rfl, ?_⟩
        refine ⟨_, rfl, _, rfl, _, rfl, a, _, rfl, .inl (SqL.of ha6), _, _, rfl, rfl, _, rfl, ite2 (fun o => ?_) (fun o => ?_)⟩
        · have o : (i : Int) < ((nV (figs p k)).length : Int) := of_decide_eq_true o
          have hik : i < (figs p k).length := by omega
          have e : (figs p k)[i]? = some (dg p k i) := by unfold dg; rw [List.getD_eq_getElem?_getD, List.getElem?_eq_getElem hik]; rfl
          refine ⟨_, rfl, _, rfl, a, _, _, _, rfl, rfl, SqL.of ha6, atI_nat (nV_at e), _, rfl, _, _, rfl, rfl, mul_nat hmul hc (by decide), _, _, rfl, rfl, ?_⟩
          exact ⟨_, rfl, _, rfl, _, _, rfl, rfl, _, _, rfl, rfl, (show CMulX (c : Int) ((d + 1 : Nat) : Int) from mul_nat hc (d11 hd2 hp2) (by decide)), f + dg p k i * c, c * (d + 1), _, _, n1, n2, rfl, e6⟩
        · have o : ¬ (i : Int) < ((nV (figs p k)).length : Int) := fun z => o (decide_eq_true z)
          have e : dg p k i = 0 := by unfold dg; rw [List.getD_eq_getElem?_getD, List.getElem?_eq_none (by omega)]; rfl
          rw [e] at n2 hmul
          refine ⟨_, rfl, _, _, rfl, rfl, (show CMulX ((0 : Nat) : Int) (c : Int) from mul_nat hmul hc (by decide)), _, _, rfl, rfl, ?_⟩
          exact ⟨_, rfl, _, rfl, _, _, rfl, rfl, _, _, rfl, rfl, (show CMulX (c : Int) ((d + 1 : Nat) : Int) from mul_nat hc (d11 hd2 hp2) (by decide)), f + 0 * c, c * (d + 1), _, _, n1, n2, rfl, e6⟩
      · rintro σ' H' ⟨f, c, y7, y8, h1, h2, rfl, e5⟩
        rw [hlen, List.drop_length] at h2
        have h3 : f = nb p (figs p n) k := by
          rw [← h2]
          show f = f + c * 0
          rw [Nat.mul_zero, Nat.add_zero]
        refine ⟨_, rfl, ?_⟩
        rw [h3]
        exact (q H' ((((e1.trans e2).trans e3).trans e4).trans e5)).1 ok
    · have c : decide ((0 : Int) ≤ (i : Int)) = true := decide_eq_true (by omega)
      have nok : ¬ okL p (figs p n) k := fun z => by
        have := (okL_iff hp n k).mp z i
        omega
      refine ⟨_, _, rfl, rfl, _, rfl, if_t c ?_⟩
      exact (q H2 (e1.trans e2)).2 nok
/-! ### _law_most -/
def sp_lmost : Sp := fun vs H Q _ => ∃ p n : Nat, vs = [.int p, .int n] ∧ (2 ≤ p ∧ p ≤ 1000 ∧ n < 2 ^ 200) ∧ RetV (.int (mst p n : Nat)) H Q
theorem ok__law_most (T : Bi mg) (D : Df K mg "_law_most" ps__law_most s__law_most) (O__law_figures : Ok P w K mg base CX0 1 "_law_figures" ps__law_figures sp_figures_of) : Ok P w K mg base CX0 2 "_law_most" ps__law_most sp_lmost := by
  refine D.ok sc__law_most (fun vs H Q E h => ?_) (fun f cdv A outer s H vs Q E hr h => ?_)
  · obtain ⟨p, n, rfl, _⟩ := h; rfl
  · obtain ⟨p, n, rfl, ⟨hp, hp2, hn⟩, q⟩ := h
    have hN : 0 < n + 1 := Nat.succ_pos n
    have hLe := core_len hp hN
    have hn1 : n + 1 < 2 ^ 1000 := by
      have h3 : (2 : Nat) ^ 1000 ≥ 2 ^ 201 := Nat.pow_le_pow_right (by decide) (by decide)
      have h4 : (2 : Nat) ^ 201 = 2 ^ 200 + 2 ^ 200 := by decide
      omega
    refine ⟨_, (pss_cons (ps_par (i := 2) (j := 3) (by rfl) sc__law_most.nd rfl rfl (by decide) rfl rfl (pa_cons (pe_callO O__law_figures hr (pa_cons (pv 0) (pa_cons (pe_op op_add (pv 1) pe_int) pa_nil))) (pa_cons pe_int pa_nil)) (by rfl))
      (pss_cons (ps_while PassesOwn.never (pt_cmpR op_eq (pe_ix (r := rIxL K) ix_list (pv 2) (pv 3) (fun _ _ => rfl)) pe_int (nomark _))
      (pss_one (ps_set (i := 3) sc__law_most.nd rfl (.inl rfl) (pe_op op_add (pv 3) pe_int))))
      (pss_one (ps_ret (pe_op op_sub (pe_op op_sub (pe_callB call_len_seq (by rfl) T.len (by decide +kernel) (pa_cons (pv 2) pa_nil)) pe_int) (pv 3)))))), ?_⟩
    refine ⟨_, rfl, _, rfl, _, _, rfl, rfl, p, n + 1, rfl, ⟨hp, hp2, hn1⟩, fun l H1 nl e1 hl => ?_⟩
    have hlen : (nV (figs p (n + 1))).length = (figs p (n + 1)).length := List.length_map _
    refine ⟨_, _, rfl, ?_⟩
    refine ⟨fun m σ' H' => ∃ b : Nat, m = (figs p (n + 1)).length - b ∧ b ≤ (core p (n + 1)).1 ∧ σ' = [some (.int p), some (.int n), some (.ref l), some (.int b)] ∧ H' = H1, ⟨_, 0, rfl, Nat.zero_le _, rfl, rfl⟩, fun m σ' H' hW => ?_⟩
    obtain ⟨b, rfl, hb, rfl, rfl⟩ := hW
    have hdc := dg_core hp hN hb
    have hbl : b < (figs p (n + 1)).length := by omega
    have e : (figs p (n + 1))[b]? = some (dg p (n + 1) b) := by unfold dg; rw [List.getD_eq_getElem?_getD, List.getElem?_eq_getElem hbl]; rfl
    refine ⟨_, rfl, _, rfl, l, _, _, _, rfl, rfl, SqL.of hl, atI_nat (nV_at e), rfl, _, rfl, ite2 (fun c => ?_) (fun c => ?_)⟩
    · have c1 : V.int (dg p (n + 1) b : Nat) = V.int 0 := of_decide_eq_true c
      have c2 : dg p (n + 1) b = 0 := Int.ofNat.inj (V.int.inj c1)
      have hlt := hdc.mp c2
      refine ⟨fun σ' H2 => σ' = [some (.int p), some (.int n), some (.ref l), some (.int (b + 1 : Nat))] ∧ H2 = H', fun σ' H2 hN => ?_, ?_⟩
      · exact ⟨_, by omega, b + 1, rfl, hlt, hN.1, hN.2⟩
      · exact ⟨_, rfl, _, _, rfl, rfl, rfl, rfl⟩
    · have hlt : ¬ b < (core p (n + 1)).1 := fun z => c (decide_eq_true (by
        show V.int (dg p (n + 1) b : Nat) = V.int 0
        rw [hdc.mpr z]
        rfl))
      refine ⟨_, rfl, l, _, rfl, .inl (SqL.of hl), _, _, rfl, rfl, _, rfl, _, _, rfl, rfl, ?_⟩
      have := q H' e1
      unfold mst at this
      show Q (.int (((nV (figs p (n + 1))).length : Int) - 1 - (b : Int))) H'
      rw [show (((nV (figs p (n + 1))).length : Int) - 1 - (b : Int)) = (((figs p (n + 1)).length - 1 - (core p (n + 1)).1 : Nat) : Int) by omega]
      exact this
/-! ### _law_not_free -/
/-- what the names of the error classes say, and what isinstance answers of a NotFree -/
structure Kd (K : PySem.W.Frag) (C0 C1 C2 C3 C4 C5 D : Addr) (b1 b2 b3 b4 b5 : Bool) : Prop where
  xc : ExcC K D
  m0 : PySem.W.exmOne K (.ref D) (.ref C0) = some true
  k1 : PySem.W.kitOne K (.ref D) (.ref C1) = some b1
  k2 : PySem.W.kitOne K (.ref D) (.ref C2) = some b2
  k3 : PySem.W.kitOne K (.ref D) (.ref C3) = some b3
  k4 : PySem.W.kitOne K (.ref D) (.ref C4) = some b4
  k5 : PySem.W.kitOne K (.ref D) (.ref C5) = some b5
structure Gx (mg : Str → Option Value) (C0 C1 C2 C3 C4 C5 : Addr) : Prop where
  g0 : mg "ChooseError" = some (.ref C0)
  g1 : mg "BadPrime" = some (.ref C1)
  g2 : mg "BadMany" = some (.ref C2)
  g3 : mg "BadSome" = some (.ref C3)
  g4 : mg "BadNumber" = some (.ref C4)
  g5 : mg "NotFree" = some (.ref C5)
def sp_not_free : Sp := fun vs H Q _ => ∃ p n k : Nat, vs = [.int p, .int n, .int k] ∧ (Pr p ∧ n < 2 ^ 200 ∧ k ≤ n ∧ ¬ okL p (figs p n) k) ∧ RetV (.bl true) H Q
theorem ok__law_not_free (T : Bi mg) (G : Gx mg C_ChooseError C_BadPrime C_BadMany C_BadSome C_BadNumber C_NotFree) (KD : Kd K C_ChooseError C_BadPrime C_BadMany C_BadSome C_BadNumber C_NotFree C_NotFree false false false false true) (D : Df K mg "_law_not_free" ps__law_not_free s__law_not_free) (O_number_of : Ok P w K mg base (L2N.CX P w) 4 "number_of" ps_number_of (sp_number_of C_NotFree)) : Ok P w K mg base CX0 5 "_law_not_free" ps__law_not_free sp_not_free := by
  refine D.ok sc__law_not_free (fun vs H Q E h => ?_) (fun f cdv A outer s H vs Q E hr h => ?_)
  · obtain ⟨p, n, k, rfl, _⟩ := h; rfl
  · obtain ⟨p, n, k, rfl, ⟨hP, hn, hk, nok⟩, q⟩ := h
    obtain ⟨g_ChooseError, g_BadPrime, g_BadMany, g_BadSome, g_BadNumber, g_NotFree⟩ := G
    refine ⟨_, (pss_cons (L2N.ps_try_as (i := 3) rfl rfl sc__law_not_free.nd rfl rfl ⟨rfl, by decide, .inl g_ChooseError⟩ takes0N
      (fun W pn xe tk _ => (pss_one (ps_expr (pe_callX O_number_of hr tk (pa_cons (pv 0) (pa_cons (pv 1) (pa_cons (pv 2) pa_nil)))))))
      (fun a oe cls d pn hz hf => (pss_cons (ps_set (i := 4) sc__law_not_free.nd rfl (.inl rfl) (pe_lst (pa_cons (pe_callB (id := "isinstance") (r := rIsEc K cls d a) (call_isEc hz.zc hf) (by rfl) T.isinstance (by decide +kernel) (pa_cons (pv 3) (pa_cons (C8.pe_gc (v := .ref C_BadMany) (by rfl) ⟨_, g_BadMany, rfl⟩) pa_nil))) (pa_cons (pe_callB (id := "isinstance") (r := rIsEc K cls d a) (call_isEc hz.zc hf) (by rfl) T.isinstance (by decide +kernel) (pa_cons (pv 3) (pa_cons (C8.pe_gc (v := .ref C_BadNumber) (by rfl) ⟨_, g_BadNumber, rfl⟩) pa_nil))) (pa_cons (pe_callB (id := "isinstance") (r := rIsEc K cls d a) (call_isEc hz.zc hf) (by rfl) T.isinstance (by decide +kernel) (pa_cons (pv 3) (pa_cons (C8.pe_gc (v := .ref C_BadPrime) (by rfl) ⟨_, g_BadPrime, rfl⟩) pa_nil))) pa_nil)))))
      (pss_one (ps_ret (pe_and (pe_callB (id := "isinstance") (r := rIsEc K cls d a) (call_isEc hz.zc hf) (by rfl) T.isinstance (by decide +kernel) (pa_cons (pv 3) (pa_cons (C8.pe_gc (v := .ref C_NotFree) (by rfl) ⟨_, g_NotFree, rfl⟩) pa_nil))) (pe_one (pe_not (pe_callB (id := "any") (r := rAny K) (cr_anyH (hotS hz hf)) (by rfl) T.any (by decide +kernel) (pa_cons (pe_op op_cat (pv 4) (pe_lst (pa_cons (pe_callB (id := "isinstance") (r := rIsEc K cls d a) (call_isEc hz.zc hf) (by rfl) T.isinstance (by decide +kernel) (pa_cons (pv 3) (pa_cons (C8.pe_gc (v := .ref C_BadSome) (by rfl) ⟨_, g_BadSome, rfl⟩) pa_nil))) pa_nil))) pa_nil))))))))))
      (pss_one (ps_ret pe_bl))), ?_⟩
    refine ⟨_, rfl, _, rfl, _, rfl, p, n, k, rfl, ⟨hP, hn, hk⟩, fun H1 e1 => ⟨fun ok => absurd ok nok, fun _ => ?_⟩⟩
    refine ⟨true, KD.m0, fun _ a0 na0 => ?_, fun z => Bool.noConfusion z⟩
    have iE : ∀ {C : Addr} {b : Bool} {H' : Hp} {Q' : VK}, PySem.W.kitOne K (.ref C_NotFree) (.ref C) = some b → Q' (.bl b) H' → rIsEc K (.ref C_NotFree) none a0 [.ref a0, .ref C] H' Q' := fun {C b H' Q'} h q' => ⟨_, rfl, rfl, KD.xc, _, _, _, rfl, fun u hu => hu, h, q'⟩
    refine ⟨_, rfl, iE KD.k2 ⟨_, rfl, iE KD.k4 ⟨_, rfl, iE KD.k1 ?_⟩⟩⟩
    refine ⟨by show 3 ≤ sizeLine; decide, fun l1 n1 => ?_⟩
    refine ⟨_, rfl, iE KD.k5 ⟨_, rfl, if_t rfl ?_⟩⟩
    refine ⟨_, rfl, _, rfl, iE KD.k3 ⟨by show 1 ≤ sizeLine; decide, fun l2 n2 => ?_⟩⟩
    refine ⟨l1, l2, _, _, rfl, rfl, Ex.new n2 l1 _ upd_same, upd_same, by show 4 ≤ sizeLine; decide, fun l3 n3 => ?_⟩
    refine ⟨l3, [false, false, false, false], rfl, SqL.of upd_same, _, rfl, ?_⟩
    exact q _ (((e1.trans (Ex.new n1)).trans (Ex.new n2)).trans (Ex.new n3))
end
end Cc

namespace Cc
open PySem PySem.Spec PyProof.Rows L2 Evl
abbrev s__law_right : Stmt := topS 38
abbrev N__law_right : List Str := ["_law_prime_here", "_law_many", "_law_drawn", "_law_count", "_law_figure", "_law_found", "_law_last", "_law_number", "_law_place", "_law_again", "_law_some"]
abbrev ps__law_right : List Str := ["_law_prime_here", "_law_many", "_law_drawn"]
theorem sc__law_right : FnScope N__law_right ps__law_right (defScope s__law_right) := ⟨rfl, rfl, rfl, by decide +kernel, rfl, by decide +kernel, by decide +kernel⟩

section
variable {P : Program} {w : World} {K : PySem.W.Frag} {mg : Str → Option Value} {base : Heap} {C_NotFree : Addr}
/-! ### _law_right -/
def sp_right3 : Sp := fun vs H Q _ => ∃ p n dr : Nat, vs = [.int p, .int n, .int dr] ∧ (Pr p ∧ n < 2 ^ 200) ∧ RetV (.bl true) H Q
def pick (dr c : Nat) : List Int := [0, (dr : Int) % (c : Int), (dr : Int) / 7 % (c : Int), (c : Int) / 2, (c : Int) - 1]
theorem pick_in {dr c : Nat} (hc : 0 < c) {z : Int} (h : z ∈ pick dr c) : ∃ m : Nat, z = (m : Int) ∧ m < c := by
  unfold pick at h
  simp only [List.mem_cons, List.not_mem_nil, or_false] at h
  rcases h with h | h | h | h | h
  · exact ⟨0, h, hc⟩
  · exact ⟨dr % c, h, Nat.mod_lt _ hc⟩
  · exact ⟨dr / 7 % c, h, Nat.mod_lt _ hc⟩
  · exact ⟨c / 2, h, by omega⟩
  · exact ⟨c - 1, by omega, by omega⟩
theorem ok__law_right (T : Bi mg) (D : Df K mg "_law_right" ps__law_right s__law_right) (O__law_figures : Ok P w K mg base CX0 1 "_law_figures" ps__law_figures sp_figures_of) (O_free : Ok P w K mg base CX0 3 "free" ps_free sp_free) (O__law_whole : Ok P w K mg base CX0 1 "_law_whole" ps__law_whole sp_lwhole)
    (O_most : Ok P w K mg base CX0 3 "most" ps_most sp_most) (O__law_most : Ok P w K mg base CX0 2 "_law_most" ps__law_most sp_lmost) (O_place_by : Ok P w K mg base CX0 3 "place_by" ps_place_by sp_place_by) (O__law_carries : Ok P w K mg base CX0 1 "_law_carries" ps__law_carries sp_carries)
    (O_number_of : Ok P w K mg base (L2N.CX P w) 4 "number_of" ps_number_of (sp_number_of C_NotFree)) (O__law_not_free : Ok P w K mg base CX0 5 "_law_not_free" ps__law_not_free sp_not_free) : Ok P w K mg base CX0 6 "_law_right" ps__law_right sp_right3 := by
  refine D.ok sc__law_right (fun vs H Q E h => ?_) (fun f cdv A outer s H vs Q E hr h => ?_)
  · obtain ⟨p, n, dr, rfl, _⟩ := h; rfl
  · obtain ⟨p, n, dr, rfl, ⟨hP, hn⟩, q⟩ := h
    have hp := hP.lo
    have hp2 : p ≤ 1000 := Nat.le_trans hP.hi (by decide)
    have hn3 := lt1000 hn
    have hs := figs_small hp n
    have hc0 : 0 < fr (figs p n) := fr_pos _
    refine ⟨_, (pss_cons (ps_set (i := 3) sc__law_right.nd rfl (.inl rfl) pe_int)
      (pss_cut (ps_for PassesOwn.never rfl (pi_list (pe_callO O__law_figures hr (pa_cons (pv 0) (pa_cons (pv 1) pa_nil)))) (pg_name (i := 4) sc__law_right.nd rfl (.inl rfl))
      (pss_one (ps_set (i := 3) sc__law_right.nd rfl (.inl rfl) (pe_op op_mulX (pv 3) (pe_op op_add (pv 4) pe_int)))))
      (pss_cons (ps_set (i := 5) sc__law_right.nd rfl (.inl rfl) (pe_callO O_free hr (pa_cons (pv 0) (pa_cons (pv 1) pa_nil))))
      (pss_cons (ps_if (PW.pt (pw_or (pt_not (pt_val (pe_callO O__law_whole hr (pa_cons (pv 5) pa_nil)))) (pw_or (pt_cmpR op_ne (pv 5) (pv 3) (nomark _)) (pw_or1 (pt_cmpR op_ne (pe_callO O_most hr (pa_cons (pv 0) (pa_cons (pv 1) pa_nil))) (pe_callO O__law_most hr (pa_cons (pv 0) (pa_cons (pv 1) pa_nil))) (nomark _))))))
      (pss_one (ps_ret pe_bl))
      pss_nil)
      (pss_cons (ps_set (i := 6) sc__law_right.nd rfl (.inl rfl) (pe_un un_neg pe_int))
      (pss_cut (ps_for PassesOwn.never rfl (pi_list (pe_callB (cr_sortedSet rfl) (by rfl) T.sorted (by decide +kernel) (pa_cons (pe_callTy (cr_setOfI rfl) (by rfl) T.set (by decide +kernel) (pa_cons (pe_lst (pa_cons pe_int (pa_cons (pe_op op_mod (pv 2) (pv 3)) (pa_cons (pe_op op_mod (pe_op op_fdivW (pv 2) pe_int) (pv 3)) (pa_cons (pe_op op_fdivW (pv 3) pe_int) (pa_cons (pe_op op_sub (pv 3) pe_int) pa_nil)))))) pa_nil)) pa_nil))) (pg_name (i := 7) sc__law_right.nd rfl (.inl rfl))
      (pss_cons (ps_set (i := 8) sc__law_right.nd rfl (.inl rfl) (pe_callO O_place_by hr (pa_cons (pv 0) (pa_cons (pv 1) (pa_cons (pv 7) pa_nil)))))
      (pss_cons (ps_if (PW.pt (pw_or (pt_not (pt_val (pe_callO O__law_whole hr (pa_cons (pv 8) pa_nil)))) (pw_or (pt_not (pt_chain op_lt op_le (pv 6) (pv 8) (pv 1))) (pw_or1 (pt_cmpR op_ne (pe_callO O__law_carries hr (pa_cons (pv 0) (pa_cons (pv 8) (pa_cons (pe_op op_sub (pv 1) (pv 8)) pa_nil)))) pe_int (nomark _))))))
      (pss_one (ps_ret pe_bl))
      pss_nil)
      (pss_cons (ps_set (i := 9) sc__law_right.nd rfl (.inl rfl) (pe_callL O_number_of hr (pa_cons (pv 0) (pa_cons (pv 1) (pa_cons (pv 8) pa_nil)))))
      (pss_cons (ps_if (PW.pt (pw_or (pt_not (pt_val (pe_callO O__law_whole hr (pa_cons (pv 9) pa_nil)))) (pw_or1 (pt_cmpR op_ne (pv 9) (pv 7) (nomark _)))))
      (pss_one (ps_ret pe_bl))
      pss_nil)
      (pss_cons (ps_if (PW.pt (pw_and (pt_cmpR op_gt (pv 7) pe_int (nomark _)) (pw_and1 (pt_not (pt_cmpR op_lt (pe_callO O_place_by hr (pa_cons (pv 0) (pa_cons (pv 1) (pa_cons (pe_op op_sub (pv 7) pe_int) pa_nil)))) (pv 8) (nomark _))))))
      (pss_one (ps_ret pe_bl))
      pss_nil)
      (pss_one (ps_set (i := 6) sc__law_right.nd rfl (.inl rfl) (pv 8)))))))))
      (pss_cons (ps_set (i := 10) sc__law_right.nd rfl (.inl rfl) (pe_op op_mod (pv 2) (pe_op op_add (pv 1) pe_int)))
      (pss_cons (ps_if (pt_cmpR op_gt (pe_callO O__law_carries hr (pa_cons (pv 0) (pa_cons (pv 10) (pa_cons (pe_op op_sub (pv 1) (pv 10)) pa_nil)))) pe_int (nomark _))
      (pss_one (ps_ret (pe_callO O__law_not_free hr (pa_cons (pv 0) (pa_cons (pv 1) (pa_cons (pv 10) pa_nil))))))
      pss_nil)
      (pss_one (ps_ret (pe_cmpR op_eq (pe_callO O_place_by hr (pa_cons (pv 0) (pa_cons (pv 1) (pa_cons (pe_callL O_number_of hr (pa_cons (pv 0) (pa_cons (pv 1) (pa_cons (pv 10) pa_nil)))) pa_nil)))) (pv 10) (nomark _)))))))))))), ?_⟩
    refine ⟨fun σ' H' => (∃ y4, σ' = [some (.int p), some (.int n), some (.int dr), some (.int (fr (figs p n) : Nat)), y4, none, none, none, none, none, none]) ∧ Ex H H', ?_, ?_⟩
    · refine ⟨_, rfl, _, rfl, p, n, rfl, ⟨hp, hp2, hn3⟩, fun l H1 nl e1 hl => ?_⟩
      have hlen : (nV (figs p n)).length = (figs p n).length := List.length_map _
      refine ⟨l, rfl, ⟨_, SqL.of hl⟩, for_list (K := K) (a := l) (xs := nV (figs p n)) (fun i σ' H' => ∃ (c : Nat) (y : Option V), c * fr ((figs p n).drop i) = fr (figs p n) ∧ σ' = [some (.int p), some (.int n), some (.int dr), some (.int c), y, none, none, none, none, none, none] ∧ Ex H1 H')
        ⟨1, _, Nat.one_mul _, rfl, Ex.refl _⟩ (fun i σ' H' _ ⟨_, _, _, _, e⟩ => SqL.of (e l _ hl)) ?_ ?_⟩
      · rintro i x σ' H' hi ⟨c, y, h1, rfl, e2⟩
        obtain ⟨d, hd, rfl⟩ := nV_get hi
        have hc := fr_part hp hn h1
        rw [drop_cons hd] at h1
        have hd2 := figs_small hp n d (List.mem_of_getElem? hd)
        refine ⟨_, rfl, _, rfl, _, _, rfl, rfl, _, _, rfl, rfl, (show CMulX (c : Int) ((d + 1 : Nat) : Int) from mul_nat hc (d11 hd2 hp2) (by decide)), c * (d + 1), some (.int d), ?_, rfl, e2⟩
        rw [← h1, Nat.mul_assoc]
        rfl
      · rintro σ' H' ⟨c, y, h1, rfl, e2⟩
        rw [hlen, List.drop_length] at h1
        have h2 : c = fr (figs p n) := (Nat.mul_one c).symm.trans h1
        rw [h2]
        exact ⟨⟨_, rfl⟩, e1.trans e2⟩
    rintro σ' H1 ⟨⟨y4, rfl⟩, e1⟩
    have q := fun H' (e : Ex H1 H') => q H' (e1.trans e)
    refine ⟨_, rfl, _, rfl, p, n, rfl, ⟨hP, hn⟩, fun H2 e2 => ?_⟩
    have c0 : (!decide (V.int (fr (figs p n) : Nat) = V.int (fr (figs p n) : Nat))) = false := by rw [decide_eq_true rfl]; rfl
    have c1 : (!decide (V.int (mst p n : Nat) = V.int (mst p n : Nat))) = false := by rw [decide_eq_true rfl]; rfl
    refine ⟨_, rfl, _, rfl, _, rfl, if_f rfl ⟨_, rfl, _, rfl, rfl, _, rfl, if_f c0 ?_⟩⟩
    refine ⟨_, rfl, _, rfl, p, n, rfl, ⟨hP, hn⟩, fun H3 e3 => ⟨_, rfl, _, rfl, p, n, rfl, ⟨hp, hp2, hn⟩, fun H4 e4 => ⟨rfl, _, rfl, if_f c1 ?_⟩⟩⟩
    have e24 := (e2.trans e3).trans e4
    refine ⟨1, rfl, ?_⟩
    refine ⟨fun σ' H' => (∃ y4 y6 y7 y8 y9, σ' = [some (.int p), some (.int n), some (.int dr), some (.int (fr (figs p n) : Nat)), y4, some (.int (fr (figs p n) : Nat)), y6, y7, y8, y9, none]) ∧ Ex H1 H', ?_, ?_⟩
    · -- the numbers that are asked, in order
      refine ⟨_, rfl, _, rfl, _, _, rfl, rfl, (by show (0 : Int) < (fr (figs p n) : Nat); omega), ?_⟩
      refine ⟨_, rfl, _, _, rfl, rfl, div_small (p := 7) (by decide) (by decide), _, rfl, _, _, rfl, rfl, (by show (0 : Int) < (fr (figs p n) : Nat); omega), ?_⟩
      refine ⟨_, rfl, _, _, rfl, rfl, div_small (p := 2) (by decide) (by decide), _, rfl, _, _, rfl, rfl, (by show 5 ≤ sizeLine; decide), fun l0 n0 => ?_⟩
      refine ⟨l0, pick dr (fr (figs p n)), rfl, SqL.of upd_same, (by show 5 < 60; decide), fun a0 c na hcl => ?_⟩
      have hcl : c ≤ 5 := hcl
      refine ⟨a0, _, c, rfl, upd_same, by omega, fun xs r hpw hmem hxl nr => ?_⟩
      have hin : ∀ z ∈ xs, ∃ m : Nat, z = (m : Int) ∧ m < fr (figs p n) := fun z hz => pick_in hc0 (of_decide_eq_true ((hmem z).mp hz))
      have hlt := List.pairwise_iff_getElem.mp hpw
      refine ⟨r, rfl, ⟨_, SqL.of upd_same⟩, for_list (K := K) (a := r) (xs := xs.map V.int) (fun i σ' H' => ∃ (L : Int) (y7 y8 y9 : Option V), (∀ (j m : Nat), i ≤ j → xs[j]? = some (m : Int) → L < (pb p (figs p n) m : Nat)) ∧ σ' = [some (.int p), some (.int n), some (.int dr), some (.int (fr (figs p n) : Nat)), y4, some (.int (fr (figs p n) : Nat)), some (.int L), y7, y8, y9, none] ∧ Ex _ H')
        ⟨-1, _, _, _, fun j m _ _ => by omega, rfl, Ex.refl _⟩ (fun i σ' H' _ ⟨_, _, _, _, _, _, e⟩ => SqL.of (e r _ upd_same)) ?_ ?_⟩
      · rintro i x σ' H5 hi ⟨L, y7, y8, y9, hL, rfl, e6⟩
        rw [List.getElem?_map] at hi
        obtain ⟨z, hz, rfl⟩ := Option.map_eq_some_iff.mp hi
        obtain ⟨hil, hzi⟩ := List.getElem?_eq_some_iff.mp hz
        obtain ⟨m, rfl, hm⟩ := hin z (List.mem_of_getElem? hz)
        have hle := pb_le hp n m
        have okp := pb_ok (p := p) (figs p n) m hs
        have hLm := hL i m (Nat.le_refl i) hz
        have hnext : ∀ (j k : Nat), i + 1 ≤ j → xs[j]? = some (k : Int) → ((pb p (figs p n) m : Nat) : Int) < (pb p (figs p n) k : Nat) := fun j k hj hk => by
          obtain ⟨hjl, hkj⟩ := List.getElem?_eq_some_iff.mp hk
          have g1 := hlt i j hil hjl (by omega)
          rw [hzi, hkj] at g1
          obtain ⟨k', e', hk'⟩ := hin _ (List.mem_of_getElem? hk)
          have e' : k = k' := Int.ofNat.inj e'
          subst e'
          have := pb_mono (figs p n) m k hs (Int.ofNat_lt.mp g1) hk'
          omega
        refine ⟨_, rfl, _, rfl, _, rfl, p, n, m, rfl, ⟨hP, hn, hm⟩, fun H6 e7 => ?_⟩
        have c2 : decide (L < ((pb p (figs p n) m : Nat) : Int)) = true := decide_eq_true hLm
        have c3 : (!decide (((pb p (figs p n) m : Nat) : Int) ≤ (n : Int))) = false := by rw [decide_eq_true (by omega)]; rfl
        have c4 : (!decide (V.int (kk p (pb p (figs p n) m) (n - pb p (figs p n) m) 0 : Nat) = V.int 0)) = false := by
          rw [(okL_kk hp hle).mp okp]
          show (!decide (V.int 0 = V.int 0)) = false
          rw [decide_eq_true rfl]; rfl
        refine ⟨_, rfl, _, rfl, _, rfl, if_f rfl ⟨_, rfl, _, rfl, _, _, rfl, rfl, _, rfl, if_t c2 ⟨_, rfl, _, _, rfl, rfl, _, rfl, if_f c3 ?_⟩⟩⟩
        refine ⟨_, rfl, _, rfl, _, rfl, _, rfl, _, _, rfl, rfl, p, pb p (figs p n) m, n - pb p (figs p n) m, ?_, ⟨hp, hp2⟩, fun H7 e8 => ⟨rfl, _, rfl, if_f c4 ?_⟩⟩
        · show [V.int (p : Int), V.int (pb p (figs p n) m : Nat), V.int ((n : Int) - (pb p (figs p n) m : Nat))] = _
          rw [show (n : Int) - (pb p (figs p n) m : Nat) = ((n - pb p (figs p n) m : Nat) : Int) by omega]
        refine ⟨_, rfl, _, rfl, _, rfl, p, n, pb p (figs p n) m, rfl, ⟨hP, hn, hle⟩, fun H8 e9 => ⟨fun _ => ?_, fun z => absurd okp z⟩⟩
        rw [nb_pb (figs p n) m hs hm]
        have c5 : (!decide (V.int (m : Nat) = V.int (m : Nat))) = false := by rw [decide_eq_true rfl]; rfl
        refine ⟨_, rfl, _, rfl, _, rfl, if_f rfl ⟨_, rfl, _, rfl, rfl, _, rfl, if_f c5 ?_⟩⟩
        have e68 := ((e6.trans e7).trans e8).trans e9
        refine ⟨_, rfl, _, _, rfl, rfl, _, rfl, ite2 (fun o => ?_) (fun o => ?_)⟩
        · have o : (0 : Int) < (m : Int) := of_decide_eq_true o
          refine ⟨_, rfl, _, rfl, _, rfl, _, _, rfl, rfl, p, n, m - 1, ?_, ⟨hP, hn, by omega⟩, fun H9 e10 => ?_⟩
          · show [V.int (p : Int), V.int (n : Int), V.int ((m : Int) - 1)] = _
            rw [show (m : Int) - 1 = ((m - 1 : Nat) : Int) by omega]
          have hmono := pb_mono (figs p n) (m - 1) m hs (by omega) hm
          have c6 : (!decide (((pb p (figs p n) (m - 1) : Nat) : Int) < (pb p (figs p n) m : Nat))) = false := by rw [decide_eq_true (by omega)]; rfl
          exact ⟨_, rfl, _, _, rfl, rfl, _, rfl, if_f c6 ⟨_, rfl, _, _, _, _, hnext, rfl, e68.trans e10⟩⟩
        · exact ⟨_, rfl, _, _, _, _, hnext, rfl, e68⟩
      · rintro σ' H5 ⟨L, y7, y8, y9, hL, rfl, e6⟩
        exact ⟨⟨_, _, _, _, _, rfl⟩, (((e24.trans (Ex.new n0)).trans (Ex.new na)).trans (Ex.new nr)).trans e6⟩
    rintro σ' H5 ⟨⟨y4', y6, y7, y8, y9, rfl⟩, e5⟩
    have hk : dr % (n + 1) ≤ n := Nat.le_of_lt_succ (Nat.mod_lt _ (Nat.succ_pos n))
    refine ⟨_, rfl, _, rfl, _, _, rfl, rfl, _, _, rfl, rfl, (by show (0 : Int) < (n : Int) + 1; omega), ?_⟩
    refine ⟨_, rfl, _, rfl, _, rfl, _, rfl, _, _, rfl, rfl, p, dr % (n + 1), n - dr % (n + 1), ?_, ⟨hp, hp2⟩, fun H6 e6 => ⟨_, _, rfl, rfl, _, rfl, ite2 (fun o => ?_) (fun o => ?_)⟩⟩
    · show [V.int (p : Int), V.int ((dr % (n + 1) : Nat) : Int), V.int ((n : Int) - ((dr % (n + 1) : Nat) : Int))] = _
      rw [show (n : Int) - ((dr % (n + 1) : Nat) : Int) = ((n - dr % (n + 1) : Nat) : Int) by omega]
    · have o : (0 : Int) < (kk p (dr % (n + 1)) (n - dr % (n + 1)) 0 : Nat) := of_decide_eq_true o
      have nok : ¬ okL p (figs p n) (dr % (n + 1)) := fun z => by
        rw [okL_kk hp hk] at z
        omega
      exact ⟨_, rfl, _, rfl, _, rfl, p, n, dr % (n + 1), rfl, ⟨hP, hn, hk, nok⟩, fun H7 e7 => q H7 ((e5.trans e6).trans e7)⟩
    · have o : ¬ (0 : Int) < (kk p (dr % (n + 1)) (n - dr % (n + 1)) 0 : Nat) := fun z => o (decide_eq_true z)
      have ok : okL p (figs p n) (dr % (n + 1)) := (okL_kk hp hk).mpr (by omega)
      refine ⟨_, rfl, _, rfl, _, rfl, _, rfl, _, rfl, p, n, dr % (n + 1), rfl, ⟨hP, hn, hk⟩, fun H7 e7 => ⟨fun _ => ?_, fun z => absurd ok z⟩⟩
      refine ⟨p, n, nb p (figs p n) (dr % (n + 1)), rfl, ⟨hP, hn, nb_lt _ _ ok⟩, fun H8 e8 => ?_⟩
      rw [pb_nb _ _ ok]
      refine ⟨_, rfl, rfl, ?_⟩
      show Q (.bl (decide (V.int ((dr % (n + 1) : Nat) : Int) = V.int ((dr % (n + 1) : Nat) : Int)))) H8
      rw [decide_eq_true rfl]
      exact q H8 (((e5.trans e6).trans e7).trans e8)
end
end Cc

namespace Cc
open PySem PySem.Spec PyProof.Rows L2 Evl
abbrev s__law_small_right : Stmt := topS 39
abbrev N__law_small_right : List Str := ["_law_prime_here", "_law_many", "_law_row_here", "_law_places", "_law_some", "_law_number"]
abbrev ps__law_small_right : List Str := ["_law_prime_here", "_law_many"]
theorem sc__law_small_right : FnScope N__law_small_right ps__law_small_right (defScope s__law_small_right) := ⟨rfl, rfl, rfl, by decide +kernel, rfl, by decide +kernel, by decide +kernel⟩

theorem inV_mem {l : List Nat} {k : Nat} (h : k ∈ l) : inV (.int (k : Int)) (nV l) = true := by
  unfold inV
  refine List.any_eq_true.mpr ⟨.int (k : Int), List.mem_map.mpr ⟨k, h, rfl⟩, ?_⟩
  show ((k : Int) == (k : Int)) = true
  exact beq_self_eq_true _
theorem flat_nV (l : List Nat) : (nV l).all flatV = true := by
  refine List.all_eq_true.mpr fun x hx => ?_
  obtain ⟨k, _, rfl⟩ := List.mem_map.mp hx
  rfl
section
variable {P : Program} {w : World} {K : PySem.W.Frag} {mg : Str → Option Value} {base : Heap} {C_NotFree : Addr}
/-! ### _law_small_right -/
def sp_small3 : Sp := fun vs H Q _ => ∃ p n : Nat, vs = [.int p, .int n] ∧ (Pr p ∧ (n < 40 ∨ (p = 2 ∧ n < 50))) ∧ RetV (.bl true) H Q
theorem filt_more {q : Nat → Bool} (i : Nat) : (List.range (i + 1)).filter q = (List.range i).filter q ++ (if q i = true then [i] else []) := by
  rw [List.range_succ, List.filter_append, List.filter_cons, List.filter_nil]
theorem ok__law_small_right (T : Bi mg) (D : Df K mg "_law_small_right" ps__law_small_right s__law_small_right) (O__law_row : Ok P w K mg base CX0 1 "_law_row" ps__law_row sp_row) (O_free : Ok P w K mg base CX0 3 "free" ps_free sp_free) (O_most : Ok P w K mg base CX0 3 "most" ps_most sp_most) (O_place_by : Ok P w K mg base CX0 3 "place_by" ps_place_by sp_place_by) (O__law_core : Ok P w K mg base CX0 1 "_law_core" ps__law_core sp_core)
    (O__law_not_free : Ok P w K mg base CX0 5 "_law_not_free" ps__law_not_free sp_not_free) : Ok P w K mg base CX0 6 "_law_small_right" ps__law_small_right sp_small3 := by
  refine D.ok sc__law_small_right (fun vs H Q E h => ?_) (fun f cdv A outer s H vs Q E hr h => ?_)
  · obtain ⟨p, n, rfl, _⟩ := h; rfl
  · obtain ⟨p, n, rfl, ⟨hP, hnn⟩, q⟩ := h
    have hp := hP.lo
    have hp2 : p ≤ 1000 := Nat.le_trans hP.hi (by decide)
    have hn50 : n < 50 := by omega
    have hn : n < 2 ^ 200 := Nat.lt_of_lt_of_le hn50 (by decide)
    have hfr := fr_le hp n
    refine ⟨_, (pss_cons (ps_set (i := 2) sc__law_small_right.nd rfl (.inl rfl) (pe_callO O__law_row hr (pa_cons (pv 1) pa_nil)))
      (pss_cons (ps_set (i := 3) sc__law_small_right.nd rfl (.inr rfl) (pe_lc (own := [("_law_some", 4), ("_law_number", 5)]) (g := gTup K 2 (gCons (gName 4) (gCons (gName 5) gNil))) (by rfl) sc__law_small_right.nd (pi_enum (by rfl) T.enumerate (pa_cons (pv 2) pa_nil)) (blkOk_by (own := [("_law_some", 4), ("_law_number", 5)]) (N := N__law_small_right) (sc := defScope s__law_small_right) (by decide +kernel)) (fun _ _ _ _ _ => (pg_tup rfl (pgs_cons (pg_name (i := 4) sc__law_small_right.nd rfl (.inl rfl)) (pgs_cons (pg_name (i := 5) sc__law_small_right.nd rfl (.inl rfl)) pgs_nil)))) (fun _ _ _ _ _ => (pts_one (pt_cmpR op_gt (pe_op op_mod (pv 5) (pv 0)) pe_int (nomark _)))) (fun _ _ _ _ _ => (pv 4))))
      (pss_cons (ps_if (pt_cmpR (op_neD hr.units) (pe_lc (own := [("_law_number", 5)]) (g := gName 5) (by rfl) sc__law_small_right.nd (pi_range1 (by rfl) T.range (pa_cons (pe_callO O_free hr (pa_cons (pv 0) (pa_cons (pv 1) pa_nil))) pa_nil)) (blkOk_by (own := [("_law_number", 5)]) (N := N__law_small_right) (sc := defScope s__law_small_right) (by decide +kernel)) (fun _ _ _ _ _ => (pg_name (i := 5) sc__law_small_right.nd rfl (.inl rfl))) (fun _ _ _ _ _ => pts_nil) (fun _ _ _ _ _ => (pe_callO O_place_by hr (pa_cons (pv 0) (pa_cons (pv 1) (pa_cons (pv 5) pa_nil)))))) (pv 3) (nomark _))
      (pss_one (ps_ret pe_bl))
      pss_nil)
      (pss_cons (ps_if (pt_cmpR op_ne (pe_callO O_most hr (pa_cons (pv 0) (pa_cons (pv 1) pa_nil))) (pe_callB (cr_max rfl) (by rfl) T.max (by decide +kernel) (pa_cons (pe_lc (own := [("_law_number", 5)]) (g := gName 5) (by rfl) sc__law_small_right.nd (pi_list (pv 2)) (blkOk_by (own := [("_law_number", 5)]) (N := N__law_small_right) (sc := defScope s__law_small_right) (by decide +kernel)) (fun _ _ _ _ _ => (pg_name (i := 5) sc__law_small_right.nd rfl (.inl rfl))) (fun _ _ _ _ _ => pts_nil) (fun _ _ _ _ _ => (pe_ix (r := rIxT K) ix_tup (pe_callO O__law_core hr (pa_cons (pv 0) (pa_cons (pv 5) pa_nil))) pe_int (fun _ _ => rfl)))) pa_nil)) (nomark _))
      (pss_one (ps_ret pe_bl))
      pss_nil)
      (pss_one (ps_ret (pe_callB (cr_all rfl) (by rfl) T.all (by decide +kernel) (pa_cons (pe_lc (own := [("_law_some", 4)]) (g := gName 4) (by rfl) sc__law_small_right.nd (pi_range1 (by rfl) T.range (pa_cons (pe_op op_add (pv 1) pe_int) pa_nil)) (blkOk_by (own := [("_law_some", 4)]) (N := N__law_small_right) (sc := defScope s__law_small_right) (by decide +kernel)) (fun _ _ _ _ _ => (pg_name (i := 4) sc__law_small_right.nd rfl (.inl rfl))) (fun _ _ _ _ _ => (pts_one (pt_cmpR (r := rIn K true) op_notIn_seq (pv 4) (pv 3) (by rfl)))) (fun _ _ _ _ _ => (pe_callO O__law_not_free hr (pa_cons (pv 0) (pa_cons (pv 1) (pa_cons (pv 4) pa_nil)))))) pa_nil)))))))), ?_⟩
    refine ⟨_, rfl, n, rfl, by omega, fun l H1 nl e1 hl => ?_⟩
    have hlen : (nV (rowL n)).length = n + 1 := by rw [List.length_map, rowL_len]
    -- the places
    refine ⟨_, rfl, l, _, rfl, SqL.of hl, fun Dd nD => ?_⟩
    refine lc_it (walk_enum (K := K) (a := l) (xs := nV (rowL n))) (fun i H' => H' Dd = some (.lst (nV ((List.range i).filter fun k => decide (0 < bin n k % p)))) ∧ Ex H1 H') ⟨upd_same, Ex.new nD⟩ (fun i H' _ h => SqL.of (h.2 l _ hl)) ?_ ?_
    · rintro i x H' H'' hi ⟨h1, h2⟩ ⟨T1, x1, x2, rfl, nT, rfl, g1, g2⟩
      cases g1
      have hi2 : i ≤ n := by omega
      have g3 : some (V.int (bin n i : Nat)) = some x2 := (nV_at (rowL_get hi2)).symm.trans g2
      cases g3
      have hDT : Dd ≠ T1 := fun e => by rw [e, nT] at h1; cases h1
      have e2 := h2.trans (Ex.new (o := .tup [.int (i : Nat), .int (bin n i : Nat)]) nT)
      have h1' : upd H' T1 (.tup [.int (i : Nat), .int (bin n i : Nat)]) Dd = some (.lst (nV ((List.range i).filter fun k => decide (0 < bin n k % p)))) := by rw [upd_ne hDT]; exact h1
      have hlen2 : (nV ((List.range i).filter fun k => decide (0 < bin n k % p))).length ≤ 50 := by
        rw [List.length_map]
        have := List.length_filter_le (fun k => decide (0 < bin n k % p)) (List.range i)
        rw [List.length_range] at this
        omega
      refine ⟨T1, _, rfl, SqT.of upd_same, rfl, _, _, rfl, _, _, rfl, rfl, rfl, _, rfl, _, rfl, _, _, rfl, rfl, (by show (0 : Int) < p; omega), _, _, rfl, rfl, _, rfl, ite2 (fun c => ?_) (fun c => ?_)⟩
      · have c : (0 : Int) < ((bin n i % p : Nat) : Int) := of_decide_eq_true c
        have c2 : decide (0 < bin n i % p) = true := decide_eq_true (by omega)
        refine ⟨_, rfl, _, h1', sz_lt (by omega), ?_, Ex.mut e2 nD⟩
        rw [upd_same, filt_more, if_pos c2, nV_app]
      · have c : ¬ (0 : Int) < ((bin n i % p : Nat) : Int) := fun z => c (decide_eq_true z)
        have c2 : ¬ decide (0 < bin n i % p) = true := fun z => c (by have := of_decide_eq_true z; omega)
        refine ⟨?_, e2⟩
        rw [filt_more, if_neg c2, List.append_nil]
        exact h1'
    rintro H2 ⟨hpl, e2⟩
    rw [hlen] at hpl
    have hpl : H2 Dd = some (.lst (nV (placesL p n))) := hpl
    have hl2 := e2 l _ hl
    -- [place_by(..) ..] is the same
    refine ⟨_, rfl, _, rfl, p, n, rfl, ⟨hP, hn⟩, fun H3 e3 => ?_⟩
    refine ⟨_, rfl, by omega, by omega, fun D2 nD2 => ?_⟩
    have hpl3 := e3 Dd _ hpl
    refine lc_range (lo := 0) (n := ((fr (figs p n) : Nat) : Int).toNat) (fun i H' => H' D2 = some (.lst (nV ((List.range i).map (pb p (figs p n))))) ∧ Ex H3 H') ⟨upd_same, Ex.new nD2⟩ ?_ ?_
    · rintro i H' hi ⟨h1, h2⟩
      have hi2 : i < fr (figs p n) := hi
      refine ⟨rfl, yes_if ⟨_, rfl, _, rfl, _, rfl, p, n, i, ?_, ⟨hP, hn, hi2⟩, fun H4 e4 => ⟨_, e4 D2 _ h1, sz_lt (by rw [List.length_map, List.length_map, List.length_range]; omega), ?_, Ex.mut (h2.trans e4) nD2⟩⟩⟩
      · show [V.int (p : Int), V.int (n : Int), V.int (0 + (i : Int))] = _
        rw [Int.zero_add]
      · rw [upd_same, nV_app, List.range_succ, List.map_append]
        rfl
    rintro H4 ⟨hD2, e4⟩
    have hD2 : H4 D2 = some (.lst (nV ((List.range (fr (figs p n))).map (pb p (figs p n))))) := hD2
    rw [places_eq hP n] at hD2
    have hpl4 := e4 Dd _ hpl3
    refine ⟨_, rfl, _, _, dpL (SqL.of hD2), dpL (SqL.of hpl4), shapedI _, shapedI _, _, rfl, if_f (by rw [eqvI]; rfl) ?_⟩
    -- most
    refine ⟨_, rfl, _, rfl, p, n, rfl, ⟨hP, hn⟩, fun H5 e5 => ?_⟩
    have hl5 := e5 l _ (e4 l _ (e3 l _ hl2))
    have hpl5 := e5 Dd _ hpl4
    refine ⟨_, rfl, l, rfl, ⟨_, SqL.of hl5⟩, fun D3 nD3 => ?_⟩
    refine lc_list (K := K) (a := l) (xs := nV (rowL n)) (fun i H' => H' D3 = some (.lst (nV (((rowL n).take i).map fun c => (core p c).1))) ∧ Ex H5 H') ⟨upd_same, Ex.new nD3⟩ (fun i H' _ h => SqL.of (h.2 l _ hl5)) ?_ ?_
    · rintro i x H' hx ⟨h1, h2⟩
      obtain ⟨c, hc, rfl⟩ := nV_get hx
      have hi2 : i < n + 1 := by
        have := (List.getElem?_eq_some_iff.mp hc).1
        rw [rowL_len] at this
        exact this
      have hc2 : c = bin n i := Option.some.inj (hc.symm.trans (rowL_get (by omega)))
      have hc0 : 0 < c := by rw [hc2]; exact bin_pos (by omega)
      refine ⟨rfl, yes_if ⟨_, rfl, _, rfl, p, c, rfl, ⟨hp, hp2, hc0⟩, fun u H6 nu e6 hu => ⟨u, _, _, _, rfl, rfl, SqT.of hu, atI_nat (j := 0) rfl, _, e6 D3 _ h1, sz_lt (by rw [List.length_map, List.length_map]; have := List.length_take_le i (rowL n); omega), ?_, Ex.mut (h2.trans e6) nD3⟩⟩⟩
      rw [upd_same, nV_app, take_more hc, List.map_append]
      rfl
    rintro H6 ⟨hD3, e6⟩
    have hlr : (nV (rowL n)).length = (rowL n).length := List.length_map _
    rw [hlr, List.take_length] at hD3
    have hmx := mst_max hP hnn
    refine ⟨D3, ((rowL n).map fun c => (core p c).1).map fun (d : Nat) => (d : Int), rfl, SqL.of (by rw [← nV_ints]; exact hD3), by rw [List.length_map, List.length_map, rowL_len]; omega, fun m hm hmax => ?_⟩
    have hmm : m = ((mst p n : Nat) : Int) := by
      obtain ⟨d, hd, rfl⟩ := List.mem_map.mp hm
      obtain ⟨c, hc, rfl⟩ := List.mem_map.mp hd
      obtain ⟨k, hk, rfl⟩ := List.mem_map.mp (show c ∈ (List.range (n + 1)).map (bin n) from hc)
      have hk := List.mem_range.mp hk
      have g1 := hmx.1 k (by omega)
      obtain ⟨k2, hk2, g2⟩ := hmx.2
      have g3 := hmax ((mst p n : Nat) : Int) (List.mem_map.mpr ⟨mst p n, List.mem_map.mpr ⟨bin n k2, List.mem_map.mpr ⟨k2, List.mem_range.mpr (by omega), rfl⟩, g2⟩, rfl⟩)
      omega
    subst hmm
    refine ⟨rfl, _, rfl, if_f (by rw [decide_eq_true rfl]; rfl) ?_⟩
    -- the others are refused
    have hpl6 := e6 Dd _ hpl5
    refine ⟨_, rfl, _, _, rfl, rfl, _, rfl, by show -(2 ^ 62) ≤ (n : Int) + 1; omega, by show (n : Int) + 1 < 2 ^ 62; omega, fun D4 nD4 => ?_⟩
    refine lc_range (lo := 0) (n := ((n : Int) + 1).toNat) (fun i H' => ∃ bs : List Bool, H' D4 = some (.lst (bs.map V.bl)) ∧ bs.length ≤ i ∧ (∀ b ∈ bs, b = true) ∧ Ex H6 H') ⟨[], upd_same, Nat.le_refl _, (fun b h => by cases h), Ex.new nD4⟩ ?_ ?_
    · rintro i H' hi ⟨bs, h1, h2, h3, h4⟩
      have hi2 : i ≤ n := by omega
      have hplc := h4 Dd _ hpl6
      refine ⟨rfl, _, rfl, _, rfl, Dd, _, rfl, .inl (SqL.of hplc), rfl, flat_nV _, _, rfl, ite2 (fun c => ?_) (fun c => ?_)⟩
      · have nmem : i ∉ placesL p n := fun z => by
          have := inV_mem z
          rw [show (0 : Int) + (i : Int) = (i : Int) by omega, this] at c
          cases c
        have nok : ¬ okL p (figs p n) i := fun z => nmem ((places_mem hP hi2).mpr z)
        refine ⟨_, rfl, _, rfl, _, rfl, p, n, i, ?_, ⟨hP, hn, hi2, nok⟩, fun H7 e7 => ⟨bs.map V.bl, e7 D4 _ h1, sz_lt (by rw [List.length_map]; omega), bs ++ [true], ?_, by rw [List.length_append]; exact Nat.succ_le_succ h2, fun b hb => ?_, Ex.mut (h4.trans e7) nD4⟩⟩
        · show [V.int (p : Int), V.int (n : Int), V.int (0 + (i : Int))] = _
          rw [Int.zero_add]
        · rw [upd_same, List.map_append]; rfl
        · rcases List.mem_append.mp hb with g | g
          · exact h3 b g
          · exact List.mem_singleton.mp g
      · exact ⟨bs, h1, by omega, h3, h4⟩
    rintro H7 ⟨bs, h1, h2, h3, h4⟩
    refine ⟨D4, bs, rfl, SqL.of h1, ?_⟩
    rw [show bs.all id = true from List.all_eq_true.mpr fun b hb => h3 b hb]
    exact q H7 (((((e1.trans e2).trans e3).trans e4).trans e5).trans (e6.trans h4))
end
end Cc

namespace Cc
open PySem PySem.Spec PyProof.Rows L2 Evl
open Builtin.Int (intBits)
abbrev s_law : Stmt := topS 40
abbrev N_law : List Str := ["_law_script", "_law_k", "_law_prime_here", "_law_many", "_law_some", "_law_drawn", "_law_more", "_law_cell", "_law_figure"]
abbrev ps_law : List Str := ["_law_script"]
theorem sc_law : FnScope N_law ps_law (defScope s_law) := ⟨rfl, rfl, rfl, by decide +kernel, rfl, by decide +kernel, by decide +kernel⟩

theorem pr2 : Pr 2 := ⟨by decide, by decide, by decide +kernel⟩
theorem pr5 : Pr 5 := ⟨by decide, by decide, by decide +kernel⟩
section
variable {P : Program} {w : World} {K : PySem.W.Frag} {mg : Str → Option Value} {base : Heap} {C_NotFree : Addr}
abbrev far : Nat := 10 ^ 30 - 1
theorem far_eq : ((10 : Int) ^ (30 : Nat) - 1) = ((far : Nat) : Int) := by decide
theorem far_lt : far < 2 ^ 200 := by decide
theorem far_ones : ((figs 2 far).filter fun d => d == 1).length = 66 := by decide +kernel
def sp_law (K : PySem.W.Frag) : Sp := fun vs H Q _ => ∃ (a : Addr) (ns : List Int), vs = [.ref a] ∧ (SqL K H a (ns.map V.int) ∧ ns.length ≤ 63 ∧ ∀ z ∈ ns, intBits z ≤ 1048576) ∧ ∀ H', Q (.bl true) H'
theorem ok_law (T : Bi mg) {f0 : Addr} {fd0 : FuncData} (D : Fun K "law" "law" s_law f0 fd0)
    (O__law_prime : Ok P w K mg base CX0 2 "_law_prime" ps__law_prime (sp_prime K)) (O__law_pair : Ok P w K mg base CX0 3 "_law_pair" ps__law_pair (sp_pair K)) (O__law_cell_at : Ok P w K mg base CX0 1 "_law_cell_at" ps__law_cell_at (sp_cell_at K)) (O__law_draw : Ok P w K mg base CX0 1 "_law_draw" ps__law_draw sp_draw) (O__law_value : Ok P w K mg base CX0 2 "_law_value" ps__law_value sp_value)
    (O__law_right : Ok P w K mg base CX0 6 "_law_right" ps__law_right sp_right3) (O__law_small_right : Ok P w K mg base CX0 6 "_law_small_right" ps__law_small_right sp_small3)
    (O_free : Ok P w K mg base CX0 3 "free" ps_free sp_free) (O_most : Ok P w K mg base CX0 3 "most" ps_most sp_most) (O_place_by : Ok P w K mg base CX0 3 "place_by" ps_place_by sp_place_by) (O__law_figures : Ok P w K mg base CX0 1 "_law_figures" ps__law_figures sp_figures_of)
    (O_number_of : Ok P w K mg base (L2N.CX P w) 4 "number_of" ps_number_of (sp_number_of C_NotFree)) : FnOk P w K mg base CX0 7 f0 fd0 ps_law (sp_law K) := by
  refine D.ok sc_law (fun vs H Q E h => ?_) (fun cdv A outer s H vs Q E hr h => ?_)
  · obtain ⟨a, ns, rfl, _⟩ := h; rfl
  · obtain ⟨a, ns, rfl, ⟨hS, hlen, hb⟩, q⟩ := h
    refine ⟨_, (pss_cons (ps_set (i := 0) sc_law.nd rfl (.inl rfl) (pe_slice sl_list (pv 0) po_none (po_some pe_int)))
      (pss_cut (ps_for PassesOwn.never rfl (pi_range3 (by rfl) T.range (pa_cons pe_int (pa_cons (pe_callB call_len_seq (by rfl) T.len (by decide +kernel) (pa_cons (pv 0) pa_nil)) (pa_cons (pe_op op_add pe_int (pe_op op_fdivW (pe_callB call_len_seq (by rfl) T.len (by decide +kernel) (pa_cons (pv 0) pa_nil)) pe_int)) pa_nil)))) (pg_name (i := 1) sc_law.nd rfl (.inl rfl))
      (pss_cons (ps_set (i := 2) sc_law.nd rfl (.inl rfl) (pe_callO O__law_prime hr (pa_cons (pv 0) (pa_cons (pv 1) pa_nil))))
      (pss_cons (ps_asg (pe_callO O__law_pair hr (pa_cons (pv 0) (pa_cons (pv 1) (pa_cons (pv 2) pa_nil)))) (pg_tup rfl (pgs_cons (pg_name (i := 3) sc_law.nd rfl (.inl rfl)) (pgs_cons (pg_name (i := 4) sc_law.nd rfl (.inl rfl)) pgs_nil))))
      (pss_cons (ps_set (i := 5) sc_law.nd rfl (.inl rfl) (pe_callO O__law_value hr (pa_cons (pe_callO O__law_cell_at hr (pa_cons (pv 0) (pa_cons (pe_op op_add (pv 1) pe_int) pa_nil))) (pa_cons (pe_op op_add (pv 1) pe_int) (pa_cons pe_int pa_nil)))))
      (pss_one (ps_for PassesOwn.never rfl (pi_tup (pe_tup (pa_cons (pv 3) (pa_cons (pv 4) (pa_cons (pe_op op_add (pv 3) pe_int) (pa_cons (pe_op op_mulX (pv 3) (pv 2)) (pa_cons (pe_op op_sub (pe_op op_add (pe_op op_mulX (pv 3) (pv 2)) (pv 2)) pe_int) pa_nil))))))) (pg_name (i := 6) sc_law.nd rfl (.inl rfl))
      (pss_one (ps_if (pt_not (pt_val (pe_callO O__law_right hr (pa_cons (pv 2) (pa_cons (pv 6) (pa_cons (pv 5) pa_nil))))))
      (pss_one (ps_ret pe_bl))
      pss_nil))))))))
      (pss_cons (ps_set (i := 7) sc_law.nd rfl (.inl rfl) (pe_op op_mod (pe_callO O__law_cell_at hr (pa_cons (pv 0) (pa_cons pe_int pa_nil))) (pe_op op_pow pe_int pe_int)))
      (pss_cons (ps_if (pt_not (pt_val (pe_callO O__law_small_right hr (pa_cons (pe_callO O__law_prime hr (pa_cons (pv 0) (pa_cons pe_int pa_nil))) (pa_cons (pe_callO O__law_draw hr (pa_cons (pv 7) (pa_cons pe_int (pa_cons pe_int pa_nil)))) pa_nil)))))
      (pss_one (ps_ret pe_bl))
      pss_nil)
      (pss_cons (ps_if (pt_not (pt_val (pe_callO O__law_small_right hr (pa_cons pe_int (pa_cons (pe_callO O__law_draw hr (pa_cons (pv 7) (pa_cons pe_int (pa_cons pe_int pa_nil)))) pa_nil)))))
      (pss_one (ps_ret pe_bl))
      pss_nil)
      (pss_cons (ps_if (pt_cmpR op_ne (pe_callO O_free hr (pa_cons pe_int (pa_cons (pe_op op_sub (pe_op op_pow pe_int pe_int) pe_int) pa_nil))) (pe_op op_shl pe_int (pe_callB call_len_seq (by rfl) T.len (by decide +kernel) (pa_cons (pe_lc (own := [("_law_figure", 8)]) (g := gName 8) (by rfl) sc_law.nd (pi_list (pe_callO O__law_figures hr (pa_cons pe_int (pa_cons (pe_op op_sub (pe_op op_pow pe_int pe_int) pe_int) pa_nil)))) (blkOk_by (own := [("_law_figure", 8)]) (N := N_law) (sc := defScope s_law) (by decide +kernel)) (fun _ _ _ _ _ => (pg_name (i := 8) sc_law.nd rfl (.inl rfl))) (fun _ _ _ _ _ => (pts_one (pt_cmpR op_eq (pv 8) pe_int (nomark _)))) (fun _ _ _ _ _ => pe_int)) pa_nil))) (nomark _))
      (pss_one (ps_ret pe_bl))
      pss_nil)
      (pss_cons (ps_if (PW.pt (pw_or (pt_cmpR op_ne (pe_callO O_free hr (pa_cons pe_int (pa_cons pe_int pa_nil))) pe_int (nomark _)) (pw_or (pt_cmpR op_ne (pe_callO O_most hr (pa_cons pe_int (pa_cons pe_int pa_nil))) pe_int (nomark _)) (pw_or1 (pt_cmpR op_ne (pe_callO O_most hr (pa_cons pe_int (pa_cons pe_int pa_nil))) pe_int (nomark _))))))
      (pss_one (ps_ret pe_bl))
      pss_nil)
      (pss_one (ps_ret (pe_and (pe_cmpR op_eq (pe_callO O_place_by hr (pa_cons pe_int (pa_cons pe_int (pa_cons pe_int pa_nil)))) pe_int (nomark _)) (pe_one (pe_cmpR op_eq (pe_callL O_number_of hr (pa_cons pe_int (pa_cons pe_int (pa_cons pe_int pa_nil)))) pe_int (nomark _))))))))))))), ?_⟩
    refine ⟨_, rfl, 63, rfl, a, _, rfl, hS, fun sc nsc => ?_⟩
    rw [cut63 ns hlen]
    have hL : (ns.map V.int).length = ns.length := List.length_map _
    have hsc : (upd H sc (.lst (ns.map V.int))) sc = some (.lst (ns.map V.int)) := upd_same
    generalize upd H sc (.lst (ns.map V.int)) = H0 at hsc ⊢
    obtain ⟨rg, hrng⟩ := rng_ok (d := 6) (L := (ns.map V.int).length) (by decide) (by omega)
    refine ⟨fun σ' H' => (∃ y1 y2 y3 y4 y5 y6, σ' = [some (.ref sc), y1, y2, y3, y4, y5, y6, none, none]) ∧ H' sc = some (.lst (ns.map V.int)), ?_, ?_⟩
    · refine ⟨_, rfl, sc, _, rfl, .inl (SqL.of hsc), _, rfl, sc, _, rfl, .inl (SqL.of hsc), _, _, rfl, rfl, div_small (p := 6) (by decide) (by decide), _, _, rfl, rfl, 0, _, _, rNum 6 (ns.map V.int).length, rfl, rg, ?_⟩
      refine for_rangeC (lo := 0) (c := 1 + ((ns.map V.int).length : Int) / 6) (n := rNum 6 (ns.map V.int).length) (fun i σ' H' => (∃ y1 y2 y3 y4 y5 y6, σ' = [some (.ref sc), y1, y2, y3, y4, y5, y6, none, none]) ∧ Ex H0 H') ⟨⟨_, _, _, _, _, _, rfl⟩, Ex.refl H0⟩ ?_ ?_
      · rintro i σ' H1 hi ⟨⟨y1, y2, y3, y4, y5, y6, rfl⟩, e1⟩
        obtain ⟨k, hk, ek⟩ := hrng i hi
        have ek : (0 : Int) + (i : Int) * (1 + ((ns.map V.int).length : Int) / 6) = (k : Int) := ek
        rw [ek]
        have hsc1 := e1 sc _ hsc
        refine ⟨_, rfl, _, rfl, sc, ns, k, rfl, ⟨SqL.of hsc1, by omega⟩, fun p hP H2 e2 => ?_⟩
        have hp := hP.lo
        have hp2 : p ≤ 1000 := Nat.le_trans hP.hi (by decide)
        have hsc2 := e2 sc _ hsc1
        refine ⟨_, rfl, _, rfl, _, rfl, sc, ns, k, p, rfl, ⟨SqL.of hsc2, hb, by omega, hp, hp2⟩, fun n s hs hn u H3 nu e3 hu => ?_⟩
        refine ⟨u, _, rfl, SqT.of hu, rfl, _, _, rfl, _, _, rfl, rfl, ?_⟩
        have hsc3 := e3 sc _ hsc2
        refine ⟨_, rfl, _, rfl, _, _, rfl, rfl, sc, ns, k + 3, rfl, SqL.of hsc3, _, rfl, _, _, rfl, rfl, _, k + 1, 900000, rfl, ⟨getD_bits hb _, by omega, by decide, by decide⟩, fun dr hdr H4 e4 => ?_⟩
        have hpb : p < 2 ^ 10 := Nat.lt_of_le_of_lt hp2 (by decide)
        refine ⟨_, rfl, _, rfl, _, rfl, _, _, rfl, rfl, _, rfl, _, rfl, _, _, rfl, rfl, mul_nat hn hpb (by decide), _, rfl, _, rfl, _, _, rfl, rfl, mul_nat hn hpb (by decide), _, rfl, _, _, rfl, rfl, _, _, rfl, rfl, (by show 5 ≤ sizeLine; decide), fun v nv => ?_⟩
        have items : ∀ x ∈ ([.int (n : Nat), .int (s : Nat), .int ((n : Int) + 1), .int ((n : Int) * (p : Int)), .int ((n : Int) * (p : Int) + (p : Int) - 1)] : List V), ∃ l : Nat, x = .int (l : Int) ∧ l < 2 ^ 200 := by
          have g150 : (2 : Nat) ^ 150 * 2000 < 2 ^ 200 := by decide
          have gp : n * p ≤ n * 1000 := Nat.mul_le_mul_left n hp2
          intro x hx
          simp only [List.mem_cons, List.not_mem_nil, or_false] at hx
          rcases hx with h | h | h | h | h
          · exact ⟨n, h, by omega⟩
          · exact ⟨s, h, by omega⟩
          · exact ⟨n + 1, h, by omega⟩
          · exact ⟨n * p, h, by omega⟩
          · exact ⟨n * p + p - 1, by rw [h, ← Int.natCast_mul, show ((n * p : Nat) : Int) + (p : Int) - 1 = ((n * p + p - 1 : Nat) : Int) by omega], by omega⟩
        refine ⟨v, rfl, ⟨_, SqT.of upd_same⟩, for_tup (K := K) (a := v) (xs := [.int (n : Nat), .int (s : Nat), .int ((n : Int) + 1), .int ((n : Int) * (p : Int)), .int ((n : Int) * (p : Int) + (p : Int) - 1)])
          (fun i σ' H' => (∃ y6, σ' = [some (.ref sc), some (.int k), some (.int p), some (.int n), some (.int s), some (.int dr), y6, none, none]) ∧ Ex (upd H4 v (.tup [.int (n : Nat), .int (s : Nat), .int ((n : Int) + 1), .int ((n : Int) * (p : Int)), .int ((n : Int) * (p : Int) + (p : Int) - 1)])) H')
          ⟨⟨_, rfl⟩, Ex.refl _⟩ (fun i σ' H' _ ⟨_, e⟩ => SqT.of (e v _ upd_same)) ?_ ?_⟩
        · rintro i2 x σ' H5 hi2 ⟨⟨y6, rfl⟩, e5⟩
          obtain ⟨l, rfl, hl⟩ := items x (List.mem_of_getElem? hi2)
          exact ⟨_, rfl, _, rfl, _, rfl, p, l, dr, rfl, ⟨hP, hl⟩, fun H6 e6 => ⟨_, rfl, if_f rfl ⟨⟨_, rfl⟩, e5.trans e6⟩⟩⟩
        · rintro σ' H5 ⟨⟨y6, rfl⟩, e5⟩
          exact ⟨⟨_, _, _, _, _, _, rfl⟩, (((e1.trans e2).trans e3).trans e4).trans ((Ex.new nv).trans e5)⟩
      · rintro σ' H1 ⟨h, e⟩
        exact ⟨h, e sc _ hsc⟩
    · rintro σ' H1 ⟨⟨y1, y2, y3, y4, y5, y6, rfl⟩, hsc1⟩
      have bb : intBits (ns.getD 0 0 % (10 : Int) ^ (Int.toNat 18)) ≤ 4000000 := Nat.le_trans (mod18_bits _) (by decide)
      refine ⟨_, rfl, sc, ns, 0, rfl, SqL.of hsc1, _, _, rfl, rfl, ⟨by decide, by decide, by decide⟩, _, _, rfl, rfl, (by show (0 : Int) < 10 ^ 18; decide), ?_⟩
      refine ⟨_, rfl, sc, ns, 0, rfl, ⟨SqL.of hsc1, by decide⟩, fun p hP H2 e2 => ?_⟩
      refine ⟨_, rfl, _, 5, 40, rfl, ⟨bb, by decide, by decide⟩, fun r hr H3 e3 => ?_⟩
      refine ⟨p, r, rfl, ⟨hP, .inl hr⟩, fun H4 e4 => ⟨_, rfl, if_f rfl ?_⟩⟩
      refine ⟨_, rfl, _, 4, 50, rfl, ⟨bb, by decide, by decide⟩, fun r2 hr2 H5 e5 => ?_⟩
      refine ⟨2, r2, rfl, ⟨pr2, .inr ⟨rfl, hr2⟩⟩, fun H6 e6 => ⟨_, rfl, if_f rfl ?_⟩⟩
      -- a row of ones and noughts
      refine ⟨_, _, rfl, rfl, ⟨by decide, by decide, by decide⟩, _, _, rfl, rfl, 2, far, ?_, ⟨pr2, far_lt⟩, fun H7 e7 => ?_⟩
      · show [V.int 2, V.int ((10 : Int) ^ (30 : Nat) - 1)] = _
        rw [far_eq]; rfl
      refine ⟨_, _, rfl, rfl, ⟨by decide, by decide, by decide⟩, _, _, rfl, rfl, 2, far, ?_, ⟨by decide, by decide, lt1000 far_lt⟩, fun l H8 nl e8 hl => ?_⟩
      · show [V.int 2, V.int ((10 : Int) ^ (30 : Nat) - 1)] = _
        rw [far_eq]; rfl
      refine ⟨l, rfl, ⟨_, SqL.of hl⟩, fun Dd nD => ?_⟩
      have hfl := figs_len_le (p := 2) (by decide) far 200 far_lt
      refine lc_list (K := K) (a := l) (xs := nV (figs 2 far)) (fun i H' => H' Dd = some (.lst ((((figs 2 far).take i).filter fun d => d == 1).map fun _ => V.int 1)) ∧ Ex H8 H') ⟨upd_same, Ex.new nD⟩ (fun i H' _ h => SqL.of (h.2 l _ hl)) ?_ ?_
      · rintro i x H' hx ⟨h1, h2⟩
        obtain ⟨d, hd, rfl⟩ := nV_get hx
        have hil := (List.getElem?_eq_some_iff.mp hd).1
        have hz : ((((figs 2 far).take i).filter fun d => d == 1).map fun _ => V.int 1).length ≤ 200 := by
          rw [List.length_map]
          have g1 := List.length_filter_le (fun d => d == 1) ((figs 2 far).take i)
          have g2 := List.length_take_le i (figs 2 far)
          omega
        refine ⟨rfl, _, rfl, rfl, _, rfl, ite2 (fun c => ?_) (fun c => ?_)⟩
        · have c1 : V.int (d : Nat) = V.int 1 := of_decide_eq_true c
          have c2 : d = 1 := Int.ofNat.inj (V.int.inj c1)
          refine ⟨_, h1, sz_lt (by omega), ?_, Ex.mut h2 nD⟩
          rw [upd_same, take_more hd, List.filter_append, List.filter_cons, if_pos (by rw [c2]; rfl), List.filter_nil, List.map_append]
          rfl
        · have c2 : ¬ d = 1 := fun z => c (decide_eq_true (by rw [z]; rfl))
          refine ⟨?_, h2⟩
          rw [take_more hd, List.filter_append, List.filter_cons, if_neg (by rw [beq_iff_eq]; exact c2), List.filter_nil, List.append_nil]
          exact h1
      rintro H9 ⟨h1, h2⟩
      have hlr : (nV (figs 2 far)).length = (figs 2 far).length := List.length_map _
      rw [hlr, List.take_length] at h1
      refine ⟨Dd, _, rfl, .inl (SqL.of h1), ?_⟩
      have h50 : ((((figs 2 far).filter fun d => d == 1).map fun _ => V.int 1)).length = 66 := by rw [List.length_map]; exact far_ones
      rw [h50]
      refine ⟨_, _, rfl, rfl, ⟨by decide, by decide, by decide⟩, rfl, _, rfl, if_f ?_ ?_⟩
      · rw [fr_two _ (figs_small (by decide) far), far_ones]
        show (!decide (V.int ((2 ^ 66 : Nat) : Int) = V.int (1 * 2 ^ 66))) = false
        rw [decide_eq_true (by decide)]; rfl
      -- written ones
      refine ⟨5, 0, rfl, ⟨pr5, Nat.pow_pos (by decide)⟩, fun H10 e10 => ⟨rfl, _, rfl, if_f (by decide +kernel) ?_⟩⟩
      refine ⟨2, 8, rfl, ⟨pr2, by decide⟩, fun H11 e11 => ⟨rfl, _, rfl, if_f (by decide +kernel) ?_⟩⟩
      refine ⟨2, 7, rfl, ⟨pr2, by decide⟩, fun H12 e12 => ⟨rfl, _, rfl, if_f (by decide +kernel) ?_⟩⟩
      refine ⟨2, 10, 2, rfl, ⟨pr2, by decide, by decide +kernel⟩, fun H13 e13 => ⟨rfl, _, rfl, if_t (by decide +kernel) ?_⟩⟩
      have ok10 : okL 2 (figs 2 10) 10 := (okL_kk (n := 10) (k := 10) (by decide) (by decide)).mpr (by decide +kernel)
      refine ⟨2, 10, 10, rfl, ⟨pr2, by decide, by decide⟩, fun H14 e14 => ⟨fun _ => ⟨rfl, ?_⟩, fun z => absurd ok10 z⟩⟩
      rw [show nb 2 (figs 2 10) 10 = 3 by decide +kernel]
      show Q (.bl (decide (V.int 3 = V.int 3))) H14
      rw [decide_eq_true rfl]
      exact q _
end
end Cc

namespace Cc
open PySem PySem.Spec PyProof.Rows L2 Evl
theorem all_mk {l : PySem.W.OpenLaw} {w : World} {K : PySem.W.Frag} {h : Heap} {mg : Str → Option Value} {fa : Addr} (X : K.In h) (G : h.Ns mainGlobals mg) (hfa : mg "law" = some (.ref fa))
    {f1 : Addr} {od1 an1 : Option Addr} {sl1 : Array (Option Value)} {oc1 kV1 dc1 pm1 cd1 ct1 : Value}
    {f2 : Addr} {od2 an2 : Option Addr} {sl2 : Array (Option Value)} {oc2 kV2 dc2 pm2 cd2 ct2 : Value}
    {f3 : Addr} {od3 an3 : Option Addr} {sl3 : Array (Option Value)} {oc3 kV3 dc3 pm3 cd3 ct3 : Value}
    {f4 : Addr} {od4 an4 : Option Addr} {sl4 : Array (Option Value)} {oc4 kV4 dc4 pm4 cd4 ct4 : Value}
    {f5 : Addr} {od5 an5 : Option Addr} {sl5 : Array (Option Value)} {oc5 kV5 dc5 pm5 cd5 ct5 : Value}
    {f6 : Addr} {od6 an6 : Option Addr} {sl6 : Array (Option Value)} {oc6 kV6 dc6 pm6 cd6 ct6 : Value}
    {f7 : Addr} {od7 an7 : Option Addr} {sl7 : Array (Option Value)} {oc7 kV7 dc7 pm7 cd7 ct7 : Value}
    {f8 : Addr} {od8 an8 : Option Addr} {sl8 : Array (Option Value)} {oc8 kV8 dc8 pm8 cd8 ct8 : Value}
    {f9 : Addr} {od9 an9 : Option Addr} {sl9 : Array (Option Value)} {oc9 kV9 dc9 pm9 cd9 ct9 : Value}
    {f10 : Addr} {od10 an10 : Option Addr} {sl10 : Array (Option Value)} {oc10 kV10 dc10 pm10 cd10 ct10 : Value}
    {f11 : Addr} {od11 an11 : Option Addr} {sl11 : Array (Option Value)} {oc11 kV11 dc11 pm11 cd11 ct11 : Value}
    {f12 : Addr} {od12 an12 : Option Addr} {sl12 : Array (Option Value)} {oc12 kV12 dc12 pm12 cd12 ct12 : Value}
    {f13 : Addr} {od13 an13 : Option Addr} {sl13 : Array (Option Value)} {oc13 kV13 dc13 pm13 cd13 ct13 : Value}
    {f14 : Addr} {od14 an14 : Option Addr} {sl14 : Array (Option Value)} {oc14 kV14 dc14 pm14 cd14 ct14 : Value}
    {f15 : Addr} {od15 an15 : Option Addr} {sl15 : Array (Option Value)} {oc15 kV15 dc15 pm15 cd15 ct15 : Value}
    {f16 : Addr} {od16 an16 : Option Addr} {sl16 : Array (Option Value)} {oc16 kV16 dc16 pm16 cd16 ct16 : Value}
    {f17 : Addr} {od17 an17 : Option Addr} {sl17 : Array (Option Value)} {oc17 kV17 dc17 pm17 cd17 ct17 : Value}
    {f18 : Addr} {od18 an18 : Option Addr} {sl18 : Array (Option Value)} {oc18 kV18 dc18 pm18 cd18 ct18 : Value}
    {f19 : Addr} {od19 an19 : Option Addr} {sl19 : Array (Option Value)} {oc19 kV19 dc19 pm19 cd19 ct19 : Value}
    {f20 : Addr} {od20 an20 : Option Addr} {sl20 : Array (Option Value)} {oc20 kV20 dc20 pm20 cd20 ct20 : Value}
    {f21 : Addr} {od21 an21 : Option Addr} {sl21 : Array (Option Value)} {oc21 kV21 dc21 pm21 cd21 ct21 : Value}
    {f22 : Addr} {od22 an22 : Option Addr} {sl22 : Array (Option Value)} {oc22 kV22 dc22 pm22 cd22 ct22 : Value}
    {f23 : Addr} {od23 an23 : Option Addr} {sl23 : Array (Option Value)} {oc23 kV23 dc23 pm23 cd23 ct23 : Value}
    {f24 : Addr} {od24 an24 : Option Addr} {sl24 : Array (Option Value)} {oc24 kV24 dc24 pm24 cd24 ct24 : Value}
    {f25 : Addr} {od25 an25 : Option Addr} {sl25 : Array (Option Value)} {oc25 kV25 dc25 pm25 cd25 ct25 : Value}
    {f26 : Addr} {od26 an26 : Option Addr} {sl26 : Array (Option Value)} {oc26 kV26 dc26 pm26 cd26 ct26 : Value}
    {f27 : Addr} {od27 an27 : Option Addr} {sl27 : Array (Option Value)} {oc27 kV27 dc27 pm27 cd27 ct27 : Value}
    {f28 : Addr} {od28 an28 : Option Addr} {sl28 : Array (Option Value)} {oc28 kV28 dc28 pm28 cd28 ct28 : Value}
    {CChooseError : Addr}
    
    
    
    {CBadPrime : Addr}
    
    
    
    {CBadMany : Addr}
    
    
    
    {CBadSome : Addr}
    
    
    
    {CBadNumber : Addr}
    
    
    
    {CNotFree : Addr}
    
    
    
    
    
    
    
    
    
    
    
    
    
    
    
    
    
    
    
    
    
    {tGREATEST : Tok}
    (a1 : PySem.W.nsIn K mainGlobals "is_whole" = some (some (.ref f1)))
    (l1 : K.lookup f1 = some ⟨oc1, od1, .func (PySem.W.fnOf "is_whole" "is_whole" (defArgs s_is_whole) (defBody s_is_whole) (defScope s_is_whole) .none kV1 dc1 pm1 an1 cd1 ct1), sl1⟩)
    (c1 : PySem.W.codeIn K cd1 "is_whole" = true)
    (k1 : PySem.W.keepIn K (.ref f1) = true)
    (a2 : PySem.W.nsIn K mainGlobals "check_prime" = some (some (.ref f2)))
    (l2 : K.lookup f2 = some ⟨oc2, od2, .func (PySem.W.fnOf "check_prime" "check_prime" (defArgs s_check_prime) (defBody s_check_prime) (defScope s_check_prime) .none kV2 dc2 pm2 an2 cd2 ct2), sl2⟩)
    (c2 : PySem.W.codeIn K cd2 "check_prime" = true)
    (k2 : PySem.W.keepIn K (.ref f2) = true)
    (a3 : PySem.W.nsIn K mainGlobals "check_many" = some (some (.ref f3)))
    (l3 : K.lookup f3 = some ⟨oc3, od3, .func (PySem.W.fnOf "check_many" "check_many" (defArgs s_check_many) (defBody s_check_many) (defScope s_check_many) .none kV3 dc3 pm3 an3 cd3 ct3), sl3⟩)
    (c3 : PySem.W.codeIn K cd3 "check_many" = true)
    (k3 : PySem.W.keepIn K (.ref f3) = true)
    (a4 : PySem.W.nsIn K mainGlobals "figures_of" = some (some (.ref f4)))
    (l4 : K.lookup f4 = some ⟨oc4, od4, .func (PySem.W.fnOf "figures_of" "figures_of" (defArgs s_figures_of) (defBody s_figures_of) (defScope s_figures_of) .none kV4 dc4 pm4 an4 cd4 ct4), sl4⟩)
    (c4 : PySem.W.codeIn K cd4 "figures_of" = true)
    (k4 : PySem.W.keepIn K (.ref f4) = true)
    (a5 : PySem.W.nsIn K mainGlobals "figure_at" = some (some (.ref f5)))
    (l5 : K.lookup f5 = some ⟨oc5, od5, .func (PySem.W.fnOf "figure_at" "figure_at" (defArgs s_figure_at) (defBody s_figure_at) (defScope s_figure_at) .none kV5 dc5 pm5 an5 cd5 ct5), sl5⟩)
    (c5 : PySem.W.codeIn K cd5 "figure_at" = true)
    (k5 : PySem.W.keepIn K (.ref f5) = true)
    (a6 : PySem.W.nsIn K mainGlobals "check_all" = some (some (.ref f6)))
    (l6 : K.lookup f6 = some ⟨oc6, od6, .func (PySem.W.fnOf "check_all" "check_all" (defArgs s_check_all) (defBody s_check_all) (defScope s_check_all) .none kV6 dc6 pm6 an6 cd6 ct6), sl6⟩)
    (c6 : PySem.W.codeIn K cd6 "check_all" = true)
    (k6 : PySem.W.keepIn K (.ref f6) = true)
    (a7 : PySem.W.nsIn K mainGlobals "bound_at" = some (some (.ref f7)))
    (l7 : K.lookup f7 = some ⟨oc7, od7, .func (PySem.W.fnOf "bound_at" "bound_at" (defArgs s_bound_at) (defBody s_bound_at) (defScope s_bound_at) .none kV7 dc7 pm7 an7 cd7 ct7), sl7⟩)
    (c7 : PySem.W.codeIn K cd7 "bound_at" = true)
    (k7 : PySem.W.keepIn K (.ref f7) = true)
    (a8 : PySem.W.nsIn K mainGlobals "free_of" = some (some (.ref f8)))
    (l8 : K.lookup f8 = some ⟨oc8, od8, .func (PySem.W.fnOf "free_of" "free_of" (defArgs s_free_of) (defBody s_free_of) (defScope s_free_of) .none kV8 dc8 pm8 an8 cd8 ct8), sl8⟩)
    (c8 : PySem.W.codeIn K cd8 "free_of" = true)
    (k8 : PySem.W.keepIn K (.ref f8) = true)
    (a9 : PySem.W.nsIn K mainGlobals "free" = some (some (.ref f9)))
    (l9 : K.lookup f9 = some ⟨oc9, od9, .func (PySem.W.fnOf "free" "free" (defArgs s_free) (defBody s_free) (defScope s_free) .none kV9 dc9 pm9 an9 cd9 ct9), sl9⟩)
    (c9 : PySem.W.codeIn K cd9 "free" = true)
    (k9 : PySem.W.keepIn K (.ref f9) = true)
    (a10 : PySem.W.nsIn K mainGlobals "most" = some (some (.ref f10)))
    (l10 : K.lookup f10 = some ⟨oc10, od10, .func (PySem.W.fnOf "most" "most" (defArgs s_most) (defBody s_most) (defScope s_most) .none kV10 dc10 pm10 an10 cd10 ct10), sl10⟩)
    (c10 : PySem.W.codeIn K cd10 "most" = true)
    (k10 : PySem.W.keepIn K (.ref f10) = true)
    (a11 : PySem.W.nsIn K mainGlobals "place_by" = some (some (.ref f11)))
    (l11 : K.lookup f11 = some ⟨oc11, od11, .func (PySem.W.fnOf "place_by" "place_by" (defArgs s_place_by) (defBody s_place_by) (defScope s_place_by) .none kV11 dc11 pm11 an11 cd11 ct11), sl11⟩)
    (c11 : PySem.W.codeIn K cd11 "place_by" = true)
    (k11 : PySem.W.keepIn K (.ref f11) = true)
    (a12 : PySem.W.nsIn K mainGlobals "number_of" = some (some (.ref f12)))
    (l12 : K.lookup f12 = some ⟨oc12, od12, .func (PySem.W.fnOf "number_of" "number_of" (defArgs s_number_of) (defBody s_number_of) (defScope s_number_of) .none kV12 dc12 pm12 an12 cd12 ct12), sl12⟩)
    (c12 : PySem.W.codeIn K cd12 "number_of" = true)
    (k12 : PySem.W.keepIn K (.ref f12) = true)
    (a13 : PySem.W.nsIn K mainGlobals "_law_cell_at" = some (some (.ref f13)))
    (l13 : K.lookup f13 = some ⟨oc13, od13, .func (PySem.W.fnOf "_law_cell_at" "_law_cell_at" (defArgs s__law_cell_at) (defBody s__law_cell_at) (defScope s__law_cell_at) .none kV13 dc13 pm13 an13 cd13 ct13), sl13⟩)
    (c13 : PySem.W.codeIn K cd13 "_law_cell_at" = true)
    (k13 : PySem.W.keepIn K (.ref f13) = true)
    (a14 : PySem.W.nsIn K mainGlobals "_law_draw" = some (some (.ref f14)))
    (l14 : K.lookup f14 = some ⟨oc14, od14, .func (PySem.W.fnOf "_law_draw" "_law_draw" (defArgs s__law_draw) (defBody s__law_draw) (defScope s__law_draw) .none kV14 dc14 pm14 an14 cd14 ct14), sl14⟩)
    (c14 : PySem.W.codeIn K cd14 "_law_draw" = true)
    (k14 : PySem.W.keepIn K (.ref f14) = true)
    (a15 : PySem.W.nsIn K mainGlobals "_law_value" = some (some (.ref f15)))
    (l15 : K.lookup f15 = some ⟨oc15, od15, .func (PySem.W.fnOf "_law_value" "_law_value" (defArgs s__law_value) (defBody s__law_value) (defScope s__law_value) .none kV15 dc15 pm15 an15 cd15 ct15), sl15⟩)
    (c15 : PySem.W.codeIn K cd15 "_law_value" = true)
    (k15 : PySem.W.keepIn K (.ref f15) = true)
    (a16 : PySem.W.nsIn K mainGlobals "_law_prime" = some (some (.ref f16)))
    (l16 : K.lookup f16 = some ⟨oc16, od16, .func (PySem.W.fnOf "_law_prime" "_law_prime" (defArgs s__law_prime) (defBody s__law_prime) (defScope s__law_prime) .none kV16 dc16 pm16 an16 cd16 ct16), sl16⟩)
    (c16 : PySem.W.codeIn K cd16 "_law_prime" = true)
    (k16 : PySem.W.keepIn K (.ref f16) = true)
    (a17 : PySem.W.nsIn K mainGlobals "_law_figures" = some (some (.ref f17)))
    (l17 : K.lookup f17 = some ⟨oc17, od17, .func (PySem.W.fnOf "_law_figures" "_law_figures" (defArgs s__law_figures) (defBody s__law_figures) (defScope s__law_figures) .none kV17 dc17 pm17 an17 cd17 ct17), sl17⟩)
    (c17 : PySem.W.codeIn K cd17 "_law_figures" = true)
    (k17 : PySem.W.keepIn K (.ref f17) = true)
    (a18 : PySem.W.nsIn K mainGlobals "_law_worth" = some (some (.ref f18)))
    (l18 : K.lookup f18 = some ⟨oc18, od18, .func (PySem.W.fnOf "_law_worth" "_law_worth" (defArgs s__law_worth) (defBody s__law_worth) (defScope s__law_worth) .none kV18 dc18 pm18 an18 cd18 ct18), sl18⟩)
    (c18 : PySem.W.codeIn K cd18 "_law_worth" = true)
    (k18 : PySem.W.keepIn K (.ref f18) = true)
    (a19 : PySem.W.nsIn K mainGlobals "_law_pair" = some (some (.ref f19)))
    (l19 : K.lookup f19 = some ⟨oc19, od19, .func (PySem.W.fnOf "_law_pair" "_law_pair" (defArgs s__law_pair) (defBody s__law_pair) (defScope s__law_pair) .none kV19 dc19 pm19 an19 cd19 ct19), sl19⟩)
    (c19 : PySem.W.codeIn K cd19 "_law_pair" = true)
    (k19 : PySem.W.keepIn K (.ref f19) = true)
    (a20 : PySem.W.nsIn K mainGlobals "_law_carries" = some (some (.ref f20)))
    (l20 : K.lookup f20 = some ⟨oc20, od20, .func (PySem.W.fnOf "_law_carries" "_law_carries" (defArgs s__law_carries) (defBody s__law_carries) (defScope s__law_carries) .none kV20 dc20 pm20 an20 cd20 ct20), sl20⟩)
    (c20 : PySem.W.codeIn K cd20 "_law_carries" = true)
    (k20 : PySem.W.keepIn K (.ref f20) = true)
    (a21 : PySem.W.nsIn K mainGlobals "_law_core" = some (some (.ref f21)))
    (l21 : K.lookup f21 = some ⟨oc21, od21, .func (PySem.W.fnOf "_law_core" "_law_core" (defArgs s__law_core) (defBody s__law_core) (defScope s__law_core) .none kV21 dc21 pm21 an21 cd21 ct21), sl21⟩)
    (c21 : PySem.W.codeIn K cd21 "_law_core" = true)
    (k21 : PySem.W.keepIn K (.ref f21) = true)
    (a22 : PySem.W.nsIn K mainGlobals "_law_row" = some (some (.ref f22)))
    (l22 : K.lookup f22 = some ⟨oc22, od22, .func (PySem.W.fnOf "_law_row" "_law_row" (defArgs s__law_row) (defBody s__law_row) (defScope s__law_row) .none kV22 dc22 pm22 an22 cd22 ct22), sl22⟩)
    (c22 : PySem.W.codeIn K cd22 "_law_row" = true)
    (k22 : PySem.W.keepIn K (.ref f22) = true)
    (a23 : PySem.W.nsIn K mainGlobals "_law_whole" = some (some (.ref f23)))
    (l23 : K.lookup f23 = some ⟨oc23, od23, .func (PySem.W.fnOf "_law_whole" "_law_whole" (defArgs s__law_whole) (defBody s__law_whole) (defScope s__law_whole) .none kV23 dc23 pm23 an23 cd23 ct23), sl23⟩)
    (c23 : PySem.W.codeIn K cd23 "_law_whole" = true)
    (k23 : PySem.W.keepIn K (.ref f23) = true)
    (a24 : PySem.W.nsIn K mainGlobals "_law_not_free" = some (some (.ref f24)))
    (l24 : K.lookup f24 = some ⟨oc24, od24, .func (PySem.W.fnOf "_law_not_free" "_law_not_free" (defArgs s__law_not_free) (defBody s__law_not_free) (defScope s__law_not_free) .none kV24 dc24 pm24 an24 cd24 ct24), sl24⟩)
    (c24 : PySem.W.codeIn K cd24 "_law_not_free" = true)
    (k24 : PySem.W.keepIn K (.ref f24) = true)
    (a25 : PySem.W.nsIn K mainGlobals "_law_most" = some (some (.ref f25)))
    (l25 : K.lookup f25 = some ⟨oc25, od25, .func (PySem.W.fnOf "_law_most" "_law_most" (defArgs s__law_most) (defBody s__law_most) (defScope s__law_most) .none kV25 dc25 pm25 an25 cd25 ct25), sl25⟩)
    (c25 : PySem.W.codeIn K cd25 "_law_most" = true)
    (k25 : PySem.W.keepIn K (.ref f25) = true)
    (a26 : PySem.W.nsIn K mainGlobals "_law_right" = some (some (.ref f26)))
    (l26 : K.lookup f26 = some ⟨oc26, od26, .func (PySem.W.fnOf "_law_right" "_law_right" (defArgs s__law_right) (defBody s__law_right) (defScope s__law_right) .none kV26 dc26 pm26 an26 cd26 ct26), sl26⟩)
    (c26 : PySem.W.codeIn K cd26 "_law_right" = true)
    (k26 : PySem.W.keepIn K (.ref f26) = true)
    (a27 : PySem.W.nsIn K mainGlobals "_law_small_right" = some (some (.ref f27)))
    (l27 : K.lookup f27 = some ⟨oc27, od27, .func (PySem.W.fnOf "_law_small_right" "_law_small_right" (defArgs s__law_small_right) (defBody s__law_small_right) (defScope s__law_small_right) .none kV27 dc27 pm27 an27 cd27 ct27), sl27⟩)
    (c27 : PySem.W.codeIn K cd27 "_law_small_right" = true)
    (k27 : PySem.W.keepIn K (.ref f27) = true)
    (a28 : PySem.W.nsIn K mainGlobals "law" = some (some (.ref f28)))
    (l28 : K.lookup f28 = some ⟨oc28, od28, .func (PySem.W.fnOf "law" "law" (defArgs s_law) (defBody s_law) (defScope s_law) .none kV28 dc28 pm28 an28 cd28 ct28), sl28⟩)
    (c28 : PySem.W.codeIn K cd28 "law" = true)
    (k28 : PySem.W.keepIn K (.ref f28) = true)
    (gChooseError : PySem.W.nsIn K mainGlobals "ChooseError" = some (some (.ref CChooseError)))
    (iChooseError : PySem.W.isClsIn K CChooseError = true)
    (yChooseError : PySem.W.typeIn K (.ref CChooseError) = some (.type "type"))
    (sChooseError : PySem.W.subIn K (.ref CChooseError) (.ref CChooseError) = some true)
    (gBadPrime : PySem.W.nsIn K mainGlobals "BadPrime" = some (some (.ref CBadPrime)))
    (iBadPrime : PySem.W.isClsIn K CBadPrime = true)
    (yBadPrime : PySem.W.typeIn K (.ref CBadPrime) = some (.type "type"))
    (sBadPrime : PySem.W.subIn K (.ref CBadPrime) (.ref CBadPrime) = some true)
    (gBadMany : PySem.W.nsIn K mainGlobals "BadMany" = some (some (.ref CBadMany)))
    (iBadMany : PySem.W.isClsIn K CBadMany = true)
    (yBadMany : PySem.W.typeIn K (.ref CBadMany) = some (.type "type"))
    (sBadMany : PySem.W.subIn K (.ref CBadMany) (.ref CBadMany) = some true)
    (gBadSome : PySem.W.nsIn K mainGlobals "BadSome" = some (some (.ref CBadSome)))
    (iBadSome : PySem.W.isClsIn K CBadSome = true)
    (yBadSome : PySem.W.typeIn K (.ref CBadSome) = some (.type "type"))
    (sBadSome : PySem.W.subIn K (.ref CBadSome) (.ref CBadSome) = some true)
    (gBadNumber : PySem.W.nsIn K mainGlobals "BadNumber" = some (some (.ref CBadNumber)))
    (iBadNumber : PySem.W.isClsIn K CBadNumber = true)
    (yBadNumber : PySem.W.typeIn K (.ref CBadNumber) = some (.type "type"))
    (sBadNumber : PySem.W.subIn K (.ref CBadNumber) (.ref CBadNumber) = some true)
    (gNotFree : PySem.W.nsIn K mainGlobals "NotFree" = some (some (.ref CNotFree)))
    (iNotFree : PySem.W.isClsIn K CNotFree = true)
    (yNotFree : PySem.W.typeIn K (.ref CNotFree) = some (.type "type"))
    (sNotFree : PySem.W.subIn K (.ref CNotFree) (.ref CNotFree) = some true)
    (bChooseError : PySem.W.subIn K (.ref CChooseError) (.type "BaseException") = some true)
    (hChooseError : PySem.W.hasDictIn K CChooseError = true)
    (hn0 : PySem.W.specialIn K (.builtin "object.__class__") "__get__" = some (some (.builtin "getset_descriptor.__get__")))
    (htk0 : PySem.W.takesIn K (.builtin "object.__class__") = some true)
    (ex_NotFree : PySem.W.excIn K CNotFree bmV "ValueError.__new__" = true)
    (keNotFree : PySem.W.keepIn K (.ref CNotFree) = true)
    (beNotFree : PySem.W.subIn K (.ref CNotFree) (.type "BaseException") = some true)
    (gaNotFree : PySem.W.findIn K (.ref CNotFree) "__getattribute__" = some (some (.builtin "BaseException.__getattribute__")))
    (gtNotFree : PySem.W.findIn K (.ref CNotFree) "__getattr__" = some none)
    (hdNotFree : PySem.W.hasDictIn K CNotFree = true)
    (hcNotFree : PySem.W.findIn K (.ref CNotFree) "__class__" = some (some (.builtin "object.__class__")))
    (hmNotFree : PySem.W.mroIn K CNotFree (.type "object") = some true)
    (m0NotFree : PySem.W.subIn K (.ref CNotFree) (.ref CChooseError) = some true)
    (qNotFreeBadPrime : PySem.W.subIn K (.ref CNotFree) (.ref CBadPrime) = some false)
    (qNotFreeBadMany : PySem.W.subIn K (.ref CNotFree) (.ref CBadMany) = some false)
    (qNotFreeBadSome : PySem.W.subIn K (.ref CNotFree) (.ref CBadSome) = some false)
    (qNotFreeBadNumber : PySem.W.subIn K (.ref CNotFree) (.ref CBadNumber) = some false)
    (qNotFreeNotFree : PySem.W.subIn K (.ref CNotFree) (.ref CNotFree) = some true)
    (zall : PySem.W.nsIn K mainGlobals "all" = some none)
    (zany : PySem.W.nsIn K mainGlobals "any" = some none)
    (zenumerate : PySem.W.nsIn K mainGlobals "enumerate" = some none)
    (zisinstance : PySem.W.nsIn K mainGlobals "isinstance" = some none)
    (zlen : PySem.W.nsIn K mainGlobals "len" = some none)
    (zmax : PySem.W.nsIn K mainGlobals "max" = some none)
    (zrange : PySem.W.nsIn K mainGlobals "range" = some none)
    (zset : PySem.W.nsIn K mainGlobals "set" = some none)
    (zsorted : PySem.W.nsIn K mainGlobals "sorted" = some none)
    (zValueError : PySem.W.nsIn K mainGlobals "ValueError" = some none)
    (zbool : PySem.W.nsIn K mainGlobals "bool" = some none)
    (zint : PySem.W.nsIn K mainGlobals "int" = some none)
    (zGREATEST : PySem.W.nsIn K mainGlobals "GREATEST" = some (some (.int 997 tGREATEST)))
    : ∃ fd : FuncData, (∀ (s : Shared) (v : Value), BindsTo s fd ⟨[v], []⟩ [("_law_script", v)]) ∧ ∀ base : Heap, K.In base → base.Ns mainGlobals mg → FnOk l.prog w K mg base CX0 7 fa fd ["_law_script"] (Cc.sp_law K) := by
  have e := hfa.symm.trans (PySem.W.mg_of X G a28)
  cases e
  have D_is_whole : Df K mg "is_whole" ps_is_whole s_is_whole := ⟨f1, _, fun_mk (st := s_is_whole) l1 c1 k1, PySem.W.mg_of X G a1, (fun_mk (st := s_is_whole) l1 c1 k1).binds (ps := ps_is_whole) fun _ _ _ _ _ _ us hl => match us, hl with | [_], _ => rfl⟩
  have D_check_prime : Df K mg "check_prime" ps_check_prime s_check_prime := ⟨f2, _, fun_mk (st := s_check_prime) l2 c2 k2, PySem.W.mg_of X G a2, (fun_mk (st := s_check_prime) l2 c2 k2).binds (ps := ps_check_prime) fun _ _ _ _ _ _ us hl => match us, hl with | [_], _ => rfl⟩
  have D_check_many : Df K mg "check_many" ps_check_many s_check_many := ⟨f3, _, fun_mk (st := s_check_many) l3 c3 k3, PySem.W.mg_of X G a3, (fun_mk (st := s_check_many) l3 c3 k3).binds (ps := ps_check_many) fun _ _ _ _ _ _ us hl => match us, hl with | [_], _ => rfl⟩
  have D_figures_of : Df K mg "figures_of" ps_figures_of s_figures_of := ⟨f4, _, fun_mk (st := s_figures_of) l4 c4 k4, PySem.W.mg_of X G a4, (fun_mk (st := s_figures_of) l4 c4 k4).binds (ps := ps_figures_of) fun _ _ _ _ _ _ us hl => match us, hl with | [_, _], _ => rfl⟩
  have D_figure_at : Df K mg "figure_at" ps_figure_at s_figure_at := ⟨f5, _, fun_mk (st := s_figure_at) l5 c5 k5, PySem.W.mg_of X G a5, (fun_mk (st := s_figure_at) l5 c5 k5).binds (ps := ps_figure_at) fun _ _ _ _ _ _ us hl => match us, hl with | [_, _], _ => rfl⟩
  have D_check_all : Df K mg "check_all" ps_check_all s_check_all := ⟨f6, _, fun_mk (st := s_check_all) l6 c6 k6, PySem.W.mg_of X G a6, (fun_mk (st := s_check_all) l6 c6 k6).binds (ps := ps_check_all) fun _ _ _ _ _ _ us hl => match us, hl with | [_, _, _], _ => rfl⟩
  have D_bound_at : Df K mg "bound_at" ps_bound_at s_bound_at := ⟨f7, _, fun_mk (st := s_bound_at) l7 c7 k7, PySem.W.mg_of X G a7, (fun_mk (st := s_bound_at) l7 c7 k7).binds (ps := ps_bound_at) fun _ _ _ _ _ _ us hl => match us, hl with | [_, _, _], _ => rfl⟩
  have D_free_of : Df K mg "free_of" ps_free_of s_free_of := ⟨f8, _, fun_mk (st := s_free_of) l8 c8 k8, PySem.W.mg_of X G a8, (fun_mk (st := s_free_of) l8 c8 k8).binds (ps := ps_free_of) fun _ _ _ _ _ _ us hl => match us, hl with | [_, _], _ => rfl⟩
  have D_free : Df K mg "free" ps_free s_free := ⟨f9, _, fun_mk (st := s_free) l9 c9 k9, PySem.W.mg_of X G a9, (fun_mk (st := s_free) l9 c9 k9).binds (ps := ps_free) fun _ _ _ _ _ _ us hl => match us, hl with | [_, _], _ => rfl⟩
  have D_most : Df K mg "most" ps_most s_most := ⟨f10, _, fun_mk (st := s_most) l10 c10 k10, PySem.W.mg_of X G a10, (fun_mk (st := s_most) l10 c10 k10).binds (ps := ps_most) fun _ _ _ _ _ _ us hl => match us, hl with | [_, _], _ => rfl⟩
  have D_place_by : Df K mg "place_by" ps_place_by s_place_by := ⟨f11, _, fun_mk (st := s_place_by) l11 c11 k11, PySem.W.mg_of X G a11, (fun_mk (st := s_place_by) l11 c11 k11).binds (ps := ps_place_by) fun _ _ _ _ _ _ us hl => match us, hl with | [_, _, _], _ => rfl⟩
  have D_number_of : Df K mg "number_of" ps_number_of s_number_of := ⟨f12, _, fun_mk (st := s_number_of) l12 c12 k12, PySem.W.mg_of X G a12, (fun_mk (st := s_number_of) l12 c12 k12).binds (ps := ps_number_of) fun _ _ _ _ _ _ us hl => match us, hl with | [_, _, _], _ => rfl⟩
  have D__law_cell_at : Df K mg "_law_cell_at" ps__law_cell_at s__law_cell_at := ⟨f13, _, fun_mk (st := s__law_cell_at) l13 c13 k13, PySem.W.mg_of X G a13, (fun_mk (st := s__law_cell_at) l13 c13 k13).binds (ps := ps__law_cell_at) fun _ _ _ _ _ _ us hl => match us, hl with | [_, _], _ => rfl⟩
  have D__law_draw : Df K mg "_law_draw" ps__law_draw s__law_draw := ⟨f14, _, fun_mk (st := s__law_draw) l14 c14 k14, PySem.W.mg_of X G a14, (fun_mk (st := s__law_draw) l14 c14 k14).binds (ps := ps__law_draw) fun _ _ _ _ _ _ us hl => match us, hl with | [_, _, _], _ => rfl⟩
  have D__law_value : Df K mg "_law_value" ps__law_value s__law_value := ⟨f15, _, fun_mk (st := s__law_value) l15 c15 k15, PySem.W.mg_of X G a15, (fun_mk (st := s__law_value) l15 c15 k15).binds (ps := ps__law_value) fun _ _ _ _ _ _ us hl => match us, hl with | [_, _, _], _ => rfl⟩
  have D__law_prime : Df K mg "_law_prime" ps__law_prime s__law_prime := ⟨f16, _, fun_mk (st := s__law_prime) l16 c16 k16, PySem.W.mg_of X G a16, (fun_mk (st := s__law_prime) l16 c16 k16).binds (ps := ps__law_prime) fun _ _ _ _ _ _ us hl => match us, hl with | [_, _], _ => rfl⟩
  have D__law_figures : Df K mg "_law_figures" ps__law_figures s__law_figures := ⟨f17, _, fun_mk (st := s__law_figures) l17 c17 k17, PySem.W.mg_of X G a17, (fun_mk (st := s__law_figures) l17 c17 k17).binds (ps := ps__law_figures) fun _ _ _ _ _ _ us hl => match us, hl with | [_, _], _ => rfl⟩
  have D__law_worth : Df K mg "_law_worth" ps__law_worth s__law_worth := ⟨f18, _, fun_mk (st := s__law_worth) l18 c18 k18, PySem.W.mg_of X G a18, (fun_mk (st := s__law_worth) l18 c18 k18).binds (ps := ps__law_worth) fun _ _ _ _ _ _ us hl => match us, hl with | [_, _], _ => rfl⟩
  have D__law_pair : Df K mg "_law_pair" ps__law_pair s__law_pair := ⟨f19, _, fun_mk (st := s__law_pair) l19 c19 k19, PySem.W.mg_of X G a19, (fun_mk (st := s__law_pair) l19 c19 k19).binds (ps := ps__law_pair) fun _ _ _ _ _ _ us hl => match us, hl with | [_, _, _], _ => rfl⟩
  have D__law_carries : Df K mg "_law_carries" ps__law_carries s__law_carries := ⟨f20, _, fun_mk (st := s__law_carries) l20 c20 k20, PySem.W.mg_of X G a20, (fun_mk (st := s__law_carries) l20 c20 k20).binds (ps := ps__law_carries) fun _ _ _ _ _ _ us hl => match us, hl with | [_, _, _], _ => rfl⟩
  have D__law_core : Df K mg "_law_core" ps__law_core s__law_core := ⟨f21, _, fun_mk (st := s__law_core) l21 c21 k21, PySem.W.mg_of X G a21, (fun_mk (st := s__law_core) l21 c21 k21).binds (ps := ps__law_core) fun _ _ _ _ _ _ us hl => match us, hl with | [_, _], _ => rfl⟩
  have D__law_row : Df K mg "_law_row" ps__law_row s__law_row := ⟨f22, _, fun_mk (st := s__law_row) l22 c22 k22, PySem.W.mg_of X G a22, (fun_mk (st := s__law_row) l22 c22 k22).binds (ps := ps__law_row) fun _ _ _ _ _ _ us hl => match us, hl with | [_], _ => rfl⟩
  have D__law_whole : Df K mg "_law_whole" ps__law_whole s__law_whole := ⟨f23, _, fun_mk (st := s__law_whole) l23 c23 k23, PySem.W.mg_of X G a23, (fun_mk (st := s__law_whole) l23 c23 k23).binds (ps := ps__law_whole) fun _ _ _ _ _ _ us hl => match us, hl with | [_], _ => rfl⟩
  have D__law_not_free : Df K mg "_law_not_free" ps__law_not_free s__law_not_free := ⟨f24, _, fun_mk (st := s__law_not_free) l24 c24 k24, PySem.W.mg_of X G a24, (fun_mk (st := s__law_not_free) l24 c24 k24).binds (ps := ps__law_not_free) fun _ _ _ _ _ _ us hl => match us, hl with | [_, _, _], _ => rfl⟩
  have D__law_most : Df K mg "_law_most" ps__law_most s__law_most := ⟨f25, _, fun_mk (st := s__law_most) l25 c25 k25, PySem.W.mg_of X G a25, (fun_mk (st := s__law_most) l25 c25 k25).binds (ps := ps__law_most) fun _ _ _ _ _ _ us hl => match us, hl with | [_, _], _ => rfl⟩
  have D__law_right : Df K mg "_law_right" ps__law_right s__law_right := ⟨f26, _, fun_mk (st := s__law_right) l26 c26 k26, PySem.W.mg_of X G a26, (fun_mk (st := s__law_right) l26 c26 k26).binds (ps := ps__law_right) fun _ _ _ _ _ _ us hl => match us, hl with | [_, _, _], _ => rfl⟩
  have D__law_small_right : Df K mg "_law_small_right" ps__law_small_right s__law_small_right := ⟨f27, _, fun_mk (st := s__law_small_right) l27 c27 k27, PySem.W.mg_of X G a27, (fun_mk (st := s__law_small_right) l27 c27 k27).binds (ps := ps__law_small_right) fun _ _ _ _ _ _ us hl => match us, hl with | [_, _], _ => rfl⟩
  have G_x : Gx mg CChooseError CBadPrime CBadMany CBadSome CBadNumber CNotFree := ⟨PySem.W.mg_of X G gChooseError, PySem.W.mg_of X G gBadPrime, PySem.W.mg_of X G gBadMany, PySem.W.mg_of X G gBadSome, PySem.W.mg_of X G gBadNumber, PySem.W.mg_of X G gNotFree⟩
  have X_NotFree : XCls K mg CNotFree "NotFree" := ⟨PySem.W.mg_of X G gNotFree, ex_NotFree, keNotFree, beNotFree, yNotFree⟩
  have KD_NotFree : Kd K CChooseError CBadPrime CBadMany CBadSome CBadNumber CNotFree CNotFree false false false false true := ⟨⟨gaNotFree, gtNotFree, beNotFree, hdNotFree, hcNotFree, hn0, htk0, hmNotFree⟩, PySem.W.exm_ref bChooseError hChooseError yChooseError m0NotFree, kit_cls qNotFreeBadPrime sBadPrime iBadPrime yBadPrime, kit_cls qNotFreeBadMany sBadMany iBadMany yBadMany, kit_cls qNotFreeBadSome sBadSome iBadSome yBadSome, kit_cls qNotFreeBadNumber sBadNumber iBadNumber yBadNumber, kit_cls qNotFreeNotFree sNotFree iNotFree yNotFree⟩
  have T : Bi mg := ⟨PySem.W.mg_none_of X G zall, PySem.W.mg_none_of X G zany, PySem.W.mg_none_of X G zenumerate, PySem.W.mg_none_of X G zisinstance, PySem.W.mg_none_of X G zlen, PySem.W.mg_none_of X G zmax, PySem.W.mg_none_of X G zrange, PySem.W.mg_none_of X G zset, PySem.W.mg_none_of X G zsorted, PySem.W.mg_none_of X G zValueError, PySem.W.mg_none_of X G zbool, PySem.W.mg_none_of X G zint, ⟨_, PySem.W.mg_of X G zGREATEST, ⟨_, rfl⟩⟩⟩
  refine ⟨PySem.W.fnOf "law" "law" (defArgs s_law) (defBody s_law) (defScope s_law) .none kV28 dc28 pm28 an28 cd28 ct28, fun s v => .of_eq rfl, fun base _ _ => ?_⟩
  have FL := fun_mk (st := s_law) l28 c28 k28
  have O_is_whole := ok_is_whole (P := l.prog) (w := w) (base := base) T D_is_whole
  have O_figures_of := ok_figures_of (P := l.prog) (w := w) (base := base) D_figures_of
  have O_figure_at := ok_figure_at (P := l.prog) (w := w) (base := base) T D_figure_at
  have O_check_prime := ok_check_prime T D_check_prime O_is_whole
  have O_check_many := ok_check_many D_check_many O_is_whole
  have O_check_all := ok_check_all D_check_all O_is_whole O_check_prime O_check_many
  have O_bound_at := ok_bound_at T D_bound_at O_figures_of O_figure_at
  have O_free_of := ok_free_of D_free_of O_figures_of
  have O_free := ok_free D_free O_check_prime O_check_many O_free_of
  have O_most := ok_most D_most O_check_prime O_check_many
  have O_place_by := ok_place_by D_place_by O_is_whole O_check_prime O_check_many O_free_of O_figures_of
  have O_number_of := ok_number_of T X_NotFree D_number_of O_check_all O_bound_at O_figures_of
  have O__law_cell_at := ok__law_cell_at (P := l.prog) (w := w) (base := base) T D__law_cell_at
  have O__law_draw := ok__law_draw (P := l.prog) (w := w) (base := base) D__law_draw
  have O__law_value := ok__law_value D__law_value O__law_draw
  have O__law_prime := ok__law_prime T D__law_prime O__law_cell_at O__law_draw
  have O__law_figures := ok__law_figures (P := l.prog) (w := w) (base := base) D__law_figures
  have O__law_worth := ok__law_worth (P := l.prog) (w := w) (base := base) D__law_worth
  have O__law_pair := ok__law_pair T D__law_pair O__law_cell_at O__law_draw O__law_value O__law_figures O__law_worth
  have O__law_carries := ok__law_carries (P := l.prog) (w := w) (base := base) D__law_carries
  have O__law_core := ok__law_core (P := l.prog) (w := w) (base := base) D__law_core
  have O__law_row := ok__law_row (P := l.prog) (w := w) (base := base) T D__law_row
  have O__law_whole := ok__law_whole (P := l.prog) (w := w) (base := base) T D__law_whole
  have O__law_most := ok__law_most T D__law_most O__law_figures
  have O__law_not_free := ok__law_not_free T G_x KD_NotFree D__law_not_free O_number_of
  have O__law_right := ok__law_right T D__law_right O__law_figures O_free O__law_whole O_most O__law_most O_place_by O__law_carries O_number_of O__law_not_free
  have O__law_small_right := ok__law_small_right T D__law_small_right O__law_row O_free O_most O_place_by O__law_core O__law_not_free
  exact ok_law T FL O__law_prime O__law_pair O__law_cell_at O__law_draw O__law_value O__law_right O__law_small_right O_free O_most O_place_by O__law_figures O_number_of
end Cc
open PySem PySem.W PyProof.Rows
set_option maxHeartbeats 0 in
theorem PySem.Challenge.cw_choosecarry_k03_whole_rows_holds : PySem.Challenge.rw_choosecarry_k03_whole_rows.Holds := by
  w_on; o_law; k_head; (case hw => w_witness2)
  k_fill
  refine L2.walk_ofB (l := PySem.Challenge.rw_choosecarry_k03_whole_rows) (n := 63) (k := 7) (x := "_law_script") (CX := fun _ => L2.CX0) (sp := fun w => Cc.sp_law _) rfl (by decide) rfl ⟨rfl, by decide, by decide⟩ (fun w h Y => PySem.W.kIn_of Y) ?F (fun _ _ a ns hl hb _ hS => ⟨a, ns, rfl, ⟨hS, hl, hb⟩, fun _ => rfl⟩) (fun _ _ _ _ _ h => h)
  case F =>
    intro w mg fa h KX G hmg
    refine' Cc.all_mk KX G hmg ?a1 ?l1 ?c1 ?k1 ?a2 ?l2 ?c2 ?k2 ?a3 ?l3 ?c3 ?k3 ?a4 ?l4 ?c4 ?k4 ?a5 ?l5 ?c5 ?k5 ?a6 ?l6 ?c6 ?k6 ?a7 ?l7 ?c7 ?k7 ?a8 ?l8 ?c8 ?k8 ?a9 ?l9 ?c9 ?k9 ?a10 ?l10 ?c10 ?k10 ?a11 ?l11 ?c11 ?k11 ?a12 ?l12 ?c12 ?k12 ?a13 ?l13 ?c13 ?k13 ?a14 ?l14 ?c14 ?k14 ?a15 ?l15 ?c15 ?k15 ?a16 ?l16 ?c16 ?k16 ?a17 ?l17 ?c17 ?k17 ?a18 ?l18 ?c18 ?k18 ?a19 ?l19 ?c19 ?k19 ?a20 ?l20 ?c20 ?k20 ?a21 ?l21 ?c21 ?k21 ?a22 ?l22 ?c22 ?k22 ?a23 ?l23 ?c23 ?k23 ?a24 ?l24 ?c24 ?k24 ?a25 ?l25 ?c25 ?k25 ?a26 ?l26 ?c26 ?k26 ?a27 ?l27 ?c27 ?k27 ?a28 ?l28 ?c28 ?k28 ?gChooseError ?iChooseError ?yChooseError ?sChooseError ?gBadPrime ?iBadPrime ?yBadPrime ?sBadPrime ?gBadMany ?iBadMany ?yBadMany ?sBadMany ?gBadSome ?iBadSome ?yBadSome ?sBadSome ?gBadNumber ?iBadNumber ?yBadNumber ?sBadNumber ?gNotFree ?iNotFree ?yNotFree ?sNotFree ?bChooseError ?hChooseError ?hn0 ?htk0 ?ex_NotFree ?keNotFree ?beNotFree ?gaNotFree ?gtNotFree ?hdNotFree ?hcNotFree ?hmNotFree ?m0NotFree ?qNotFreeBadPrime ?qNotFreeBadMany ?qNotFreeBadSome ?qNotFreeBadNumber ?qNotFreeNotFree ?zall ?zany ?zenumerate ?zisinstance ?zlen ?zmax ?zrange ?zset ?zsorted ?zValueError ?zbool ?zint ?zGREATEST
    (case a1 => k_is); (case l1 => k_is); (case c1 => k_is); (case k1 => k_is); (case a2 => k_is); (case l2 => k_is)
    (case c2 => k_is); (case k2 => k_is); (case a3 => k_is); (case l3 => k_is); (case c3 => k_is); (case k3 => k_is)
    (case a4 => k_is); (case l4 => k_is); (case c4 => k_is); (case k4 => k_is); (case a5 => k_is); (case l5 => k_is)
    (case c5 => k_is); (case k5 => k_is); (case a6 => k_is); (case l6 => k_is); (case c6 => k_is); (case k6 => k_is)
    (case a7 => k_is); (case l7 => k_is); (case c7 => k_is); (case k7 => k_is); (case a8 => k_is); (case l8 => k_is)
    (case c8 => k_is); (case k8 => k_is); (case a9 => k_is); (case l9 => k_is); (case c9 => k_is); (case k9 => k_is)
    (case a10 => k_is); (case l10 => k_is); (case c10 => k_is); (case k10 => k_is); (case a11 => k_is); (case l11 => k_is)
    (case c11 => k_is); (case k11 => k_is); (case a12 => k_is); (case l12 => k_is); (case c12 => k_is); (case k12 => k_is)
    (case a13 => k_is); (case l13 => k_is); (case c13 => k_is); (case k13 => k_is); (case a14 => k_is); (case l14 => k_is)
    (case c14 => k_is); (case k14 => k_is); (case a15 => k_is); (case l15 => k_is); (case c15 => k_is); (case k15 => k_is)
    (case a16 => k_is); (case l16 => k_is); (case c16 => k_is); (case k16 => k_is); (case a17 => k_is); (case l17 => k_is)
    (case c17 => k_is); (case k17 => k_is); (case a18 => k_is); (case l18 => k_is); (case c18 => k_is); (case k18 => k_is)
    (case a19 => k_is); (case l19 => k_is); (case c19 => k_is); (case k19 => k_is); (case a20 => k_is); (case l20 => k_is)
    (case c20 => k_is); (case k20 => k_is); (case a21 => k_is); (case l21 => k_is); (case c21 => k_is); (case k21 => k_is)
    (case a22 => k_is); (case l22 => k_is); (case c22 => k_is); (case k22 => k_is); (case a23 => k_is); (case l23 => k_is)
    (case c23 => k_is); (case k23 => k_is); (case a24 => k_is); (case l24 => k_is); (case c24 => k_is); (case k24 => k_is)
    (case a25 => k_is); (case l25 => k_is); (case c25 => k_is); (case k25 => k_is); (case a26 => k_is); (case l26 => k_is)
    (case c26 => k_is); (case k26 => k_is); (case a27 => k_is); (case l27 => k_is); (case c27 => k_is); (case k27 => k_is)
    (case a28 => k_is); (case l28 => k_is); (case c28 => k_is); (case k28 => k_is); (case gChooseError => k_is); (case iChooseError => k_is)
    (case yChooseError => k_is); (case sChooseError => k_is); (case gBadPrime => k_is); (case iBadPrime => k_is); (case yBadPrime => k_is); (case sBadPrime => k_is)
    (case gBadMany => k_is); (case iBadMany => k_is); (case yBadMany => k_is); (case sBadMany => k_is); (case gBadSome => k_is); (case iBadSome => k_is)
    (case yBadSome => k_is); (case sBadSome => k_is); (case gBadNumber => k_is); (case iBadNumber => k_is); (case yBadNumber => k_is); (case sBadNumber => k_is)
    (case gNotFree => k_is); (case iNotFree => k_is); (case yNotFree => k_is); (case sNotFree => k_is); (case bChooseError => k_is); (case hChooseError => k_is)
    (case hn0 => k_is); (case htk0 => k_is); (case ex_NotFree => k_exc); (case keNotFree => k_is); (case beNotFree => k_is); (case gaNotFree => k_is)
    (case gtNotFree => k_is); (case hdNotFree => k_is); (case hcNotFree => k_is); (case hmNotFree => k_is); (case m0NotFree => k_is); (case qNotFreeBadPrime => k_is)
    (case qNotFreeBadMany => k_is); (case qNotFreeBadSome => k_is); (case qNotFreeBadNumber => k_is); (case qNotFreeNotFree => k_is); (case zall => k_is); (case zany => k_is)
    (case zenumerate => k_is); (case zisinstance => k_is); (case zlen => k_is); (case zmax => k_is); (case zrange => k_is); (case zset => k_is)
    (case zsorted => k_is); (case zValueError => k_is); (case zbool => k_is); (case zint => k_is); (case zGREATEST => k_is)

