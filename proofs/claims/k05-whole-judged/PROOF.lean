import PyProof.Rows.All
import Wide.All
import OpenK.AllK
import Wide.FinOn
import HandS.EndBits
import HandS.Evl
import HandS.ExcIs
import HandS.ForExc
import HandS.ForMost
import HandS.IsInst
import HandS.Iter
import HandS.SortInts
import HandS.Style
import HandS.Wide
import PySem.Challenge.RW_bothread_k05_whole_judged
set_option Elab.async false
set_option linter.all false
set_option maxRecDepth 100000
set_option exponentiation.threshold 256
namespace Bm
/-! figures, the least place's first -/
def dsF (b : Nat) : Nat → Nat → List Nat
  | 0, n => [n]
  | f + 1, n => if n < b then [n] else (n % b) :: dsF b f (n / b)
def ds (b n : Nat) : List Nat := dsF b n n
def fig (b n : Nat) : List Nat := (ds b n).reverse
def vl (b : Nat) : List Nat → Nat
  | [] => 0
  | d :: r => d + b * vl b r
def val (b : Nat) (l : List Nat) : Nat := l.foldl (fun a d => a * b + d) 0

theorem dsF_eq {b : Nat} (hb : 2 ≤ b) : ∀ f g n, n ≤ f → n ≤ g → dsF b f n = dsF b g n
  | 0, 0, n, _, _ => rfl
  | 0, g + 1, n, h, _ => by
    have : n = 0 := by omega
    subst this
    unfold dsF
    rw [if_pos (by omega)]
  | f + 1, 0, n, _, h => by
    have : n = 0 := by omega
    subst this
    unfold dsF
    rw [if_pos (by omega)]
  | f + 1, g + 1, n, h1, h2 => by
    unfold dsF
    by_cases hn : n < b
    · rw [if_pos hn, if_pos hn]
    · rw [if_neg hn, if_neg hn]
      have : n / b < n := Nat.div_lt_self (by omega) (by omega)
      rw [dsF_eq hb f g (n / b) (by omega) (by omega)]
theorem ds_lo {b n : Nat} (h : n < b) : ds b n = [n] := by
  unfold ds
  cases n with
  | zero => rfl
  | succ k => unfold dsF; rw [if_pos h]
theorem ds_hi {b n : Nat} (hb : 2 ≤ b) (h : ¬ n < b) : ds b n = (n % b) :: ds b (n / b) := by
  unfold ds
  cases n with
  | zero => omega
  | succ k =>
    have : (k + 1) / b < k + 1 := Nat.div_lt_self (by omega) (by omega)
    rw [show dsF b (k + 1) (k + 1) = ((k + 1) % b) :: dsF b k ((k + 1) / b) by
      conv => lhs; unfold dsF
      rw [if_neg h]]
    rw [dsF_eq hb k ((k + 1) / b) _ (by omega) (Nat.le_refl _)]
/-- the law's own induction -/
theorem ds_ind {b : Nat} (hb : 2 ≤ b) {P : Nat → Prop} (lo : ∀ n, n < b → P n) (hi : ∀ n, ¬ n < b → P (n / b) → P n) (n : Nat) : P n := by
  induction n using Nat.strongRecOn with
  | ind n ih =>
    by_cases h : n < b
    · exact lo n h
    · exact hi n h (ih _ (Nat.div_lt_self (by omega) (by omega)))
theorem ds_ne {b : Nat} (hb : 2 ≤ b) (n : Nat) : ds b n ≠ [] := by
  by_cases h : n < b
  · rw [ds_lo h]; simp
  · rw [ds_hi hb h]; simp
theorem ds_pos {b : Nat} (hb : 2 ≤ b) (n : Nat) : 0 < (ds b n).length := List.length_pos_iff.mpr (ds_ne hb n)
theorem ds_lt {b : Nat} (hb : 2 ≤ b) (n : Nat) : ∀ d ∈ ds b n, d < b := by
  induction n using ds_ind hb with
  | lo n h =>
    rw [ds_lo h]
    intro d hd
    rw [List.mem_singleton] at hd
    omega
  | hi n h ih =>
    rw [ds_hi hb h]
    intro d hd
    rcases List.mem_cons.mp hd with e | e
    · rw [e]; exact Nat.mod_lt _ (by omega)
    · exact ih d e
theorem vl_ds {b : Nat} (hb : 2 ≤ b) (n : Nat) : vl b (ds b n) = n := by
  induction n using ds_ind hb with
  | lo n h =>
    rw [ds_lo h]
    show n + b * 0 = n
    rw [Nat.mul_zero, Nat.add_zero]
  | hi n h ih =>
    rw [ds_hi hb h]
    show n % b + b * vl b (ds b (n / b)) = n
    rw [ih]
    exact Nat.mod_add_div n b
theorem vl_append (b : Nat) : ∀ l m : List Nat, vl b (l ++ m) = vl b l + b ^ l.length * vl b m
  | [], m => by simp [vl]
  | d :: r, m => by
    show d + b * vl b (r ++ m) = (d + b * vl b r) + b ^ (r.length + 1) * vl b m
    rw [vl_append b r m, Nat.mul_add, Nat.pow_succ, Nat.mul_comm (b ^ r.length) b, Nat.mul_assoc, Nat.add_assoc]
theorem vl_lt {b : Nat} : ∀ {l : List Nat}, (∀ d ∈ l, d < b) → vl b l < b ^ l.length
  | [], _ => by simp [vl]
  | d :: r, h => by
    have h1 : d < b := h d List.mem_cons_self
    have h2 := vl_lt (l := r) fun x hx => h x (List.mem_cons_of_mem _ hx)
    show d + b * vl b r < b ^ (r.length + 1)
    rw [Nat.pow_succ]
    have h3 : b * (vl b r + 1) ≤ b * b ^ r.length := Nat.mul_le_mul_left b h2
    rw [Nat.mul_add, Nat.mul_one, Nat.mul_comm b (b ^ r.length)] at h3
    omega
theorem foldl_val (b : Nat) : ∀ (l : List Nat) (a : Nat), l.foldl (fun a d => a * b + d) a = a * b ^ l.length + val b l
  | [], a => by simp [val]
  | d :: r, a => by
    show r.foldl (fun a d => a * b + d) (a * b + d) = a * b ^ (r.length + 1) + r.foldl (fun a d => a * b + d) (0 * b + d)
    rw [foldl_val b r (a * b + d), foldl_val b r (0 * b + d), Nat.pow_succ, Nat.add_mul, Nat.add_mul, Nat.zero_mul, Nat.zero_mul, Nat.zero_add, Nat.mul_comm (b ^ r.length) b, Nat.mul_assoc, Nat.add_assoc]
theorem val_snoc (b : Nat) (l : List Nat) (d : Nat) : val b (l ++ [d]) = val b l * b + d := by
  unfold val
  rw [List.foldl_append]
  rfl
theorem val_vl (b : Nat) : ∀ l : List Nat, val b l.reverse = vl b l
  | [] => rfl
  | d :: r => by
    rw [List.reverse_cons, val_snoc, val_vl b r]
    show vl b r * b + d = d + b * vl b r
    rw [Nat.mul_comm, Nat.add_comm]
theorem val_eq (b : Nat) (l : List Nat) : val b l = vl b l.reverse := by
  rw [← val_vl, List.reverse_reverse]
theorem val_fig {b : Nat} (hb : 2 ≤ b) (n : Nat) : val b (fig b n) = n := by
  unfold fig
  rw [val_vl, vl_ds hb]
/-- a list of figures is that of its number, if it ends (the greatest place) on no 0, or has one figure -/
theorem ds_vl {b : Nat} (hb : 2 ≤ b) : ∀ {l : List Nat}, (∀ d ∈ l, d < b) → (l.length = 1 ∨ ∃ x, l.getLast? = some x ∧ x ≠ 0) → ds b (vl b l) = l
  | [], _, h => by
    rcases h with h | ⟨x, h, _⟩
    · cases h
    · cases h
  | [d], h, _ => by
    have h1 : d < b := h d List.mem_cons_self
    show ds b (d + b * 0) = [d]
    rw [Nat.mul_zero, Nat.add_zero, ds_lo h1]
  | d :: e :: r, h, hz => by
    have h1 : d < b := h d List.mem_cons_self
    have h2 : ∀ x ∈ e :: r, x < b := fun x hx => h x (List.mem_cons_of_mem _ hx)
    have hz2 : ∃ x, (e :: r).getLast? = some x ∧ x ≠ 0 := by
      rcases hz with hz | ⟨x, hx, h0⟩
      · simp at hz
      · exact ⟨x, by rw [List.getLast?_cons_cons] at hx; exact hx, h0⟩
    have ih := ds_vl hb h2 (Or.inr hz2)
    have hv : vl b (e :: r) ≠ 0 := by
      intro z
      rw [z, ds_lo (by omega)] at ih
      obtain ⟨x, hx, h0⟩ := hz2
      rw [← ih] at hx
      exact h0 (Option.some.inj hx).symm
    have hp : b * 1 ≤ b * vl b (e :: r) := Nat.mul_le_mul_left b (by omega)
    show ds b (d + b * vl b (e :: r)) = d :: e :: r
    rw [ds_hi hb (by omega)]
    rw [Nat.add_mul_mod_self_left, Nat.mod_eq_of_lt h1, Nat.add_mul_div_left _ _ (by omega : 0 < b), Nat.div_eq_of_lt h1, Nat.zero_add, ih]
theorem ds_last {b : Nat} (hb : 2 ≤ b) (n : Nat) (hn : 0 < n) : ∃ x, (ds b n).getLast? = some x ∧ x ≠ 0 := by
  revert hn
  induction n using ds_ind hb with
  | lo n h =>
    intro hn
    rw [ds_lo h]
    exact ⟨n, rfl, by omega⟩
  | hi n h ih =>
    intro hn
    rw [ds_hi hb h]
    have h1 : 0 < n / b := Nat.div_pos (by omega) (by omega)
    obtain ⟨x, hx, h0⟩ := ih h1
    refine ⟨x, ?_, h0⟩
    have hne := ds_ne hb (n / b)
    cases e : ds b (n / b) with
    | nil => exact absurd e hne
    | cons y r =>
      rw [e] at hx
      rw [List.getLast?_cons_cons]
      exact hx
theorem ds_up {b : Nat} (hb : 2 ≤ b) (n : Nat) : n < b ^ (ds b n).length := by
  have h := vl_lt (ds_lt hb n)
  rw [vl_ds hb] at h
  exact h
theorem ds_dn {b : Nat} (hb : 2 ≤ b) (n : Nat) (hn : 0 < n) : b ^ ((ds b n).length - 1) ≤ n := by
  revert hn
  induction n using ds_ind hb with
  | lo n h =>
    intro hn
    rw [ds_lo h]
    show b ^ 0 ≤ n
    rw [Nat.pow_zero]
    exact hn
  | hi n h ih =>
    intro hn
    have h1 : 0 < n / b := Nat.div_pos (by omega) (by omega)
    have h2 := ih h1
    have h3 := ds_pos hb (n / b)
    rw [ds_hi hb h]
    show b ^ ((ds b (n / b)).length + 1 - 1) ≤ n
    rw [show (ds b (n / b)).length + 1 - 1 = ((ds b (n / b)).length - 1) + 1 by omega, Nat.pow_succ]
    exact Nat.le_trans (Nat.mul_le_mul_right b h2) (Nat.div_mul_le_self n b)
theorem pow_lt {b i j : Nat} (hb : 2 ≤ b) (h : b ^ i < b ^ j) : i < j := by
  rcases Nat.lt_or_ge i j with g | g
  · exact g
  · have := Nat.pow_le_pow_right (show 0 < b by omega) g
    omega
/-- how many figures, by the bounds -/
theorem ds_len {b n m : Nat} (hb : 2 ≤ b) (h1 : b ^ m ≤ n) (h2 : n < b ^ (m + 1)) : (ds b n).length = m + 1 := by
  have p : 0 < b ^ m := Nat.pow_pos (by omega)
  have u := ds_up hb n
  have d := ds_dn hb n (by omega)
  have a1 : m < (ds b n).length := pow_lt hb (Nat.lt_of_le_of_lt h1 u)
  have a2 : (ds b n).length - 1 < m + 1 := pow_lt hb (Nat.lt_of_le_of_lt d h2)
  omega
theorem ds_len1 {b n : Nat} (h : n < b) : (ds b n).length = 1 := by rw [ds_lo h]; rfl
theorem ds_drop {b : Nat} (hb : 2 ≤ b) : ∀ (k n : Nat), k < (ds b n).length → (ds b n).drop k = ds b (n / b ^ k)
  | 0, n, _ => by simp
  | k + 1, n, h => by
    by_cases hn : n < b
    · rw [ds_lo hn] at h
      simp at h
    · rw [ds_hi hb hn] at h ⊢
      show (ds b (n / b)).drop k = _
      rw [ds_drop hb k (n / b) (by simpa using h), Nat.div_div_eq_div_mul, Nat.pow_succ, Nat.mul_comm b]
theorem ds_inj {b n m : Nat} (hb : 2 ≤ b) (h : ds b n = ds b m) : n = m := by
  rw [← vl_ds hb n, h, vl_ds hb]

/-! reading alike -/
def pal (b n : Nat) : Bool := decide ((ds b n).reverse = ds b n)
theorem pal_fig (b n : Nat) : pal b n = decide (fig b n = (fig b n).reverse) := by
  unfold pal fig
  rw [List.reverse_reverse]
theorem pal_lo {b n : Nat} (h : n < b) : pal b n = true := by
  unfold pal
  rw [ds_lo h]
  exact decide_eq_true rfl
/-! the number that begins with a half -/
def half2 (d : List Nat) (k : Nat) : List Nat := (d.drop k).reverse ++ d
def made (b h m : Nat) : Nat := val b (fig b h ++ (fig b h).reverse.drop (m % 2))
theorem made_eq (b h m : Nat) : made b h m = vl b (half2 (ds b h) (m % 2)) := by
  unfold made half2 fig
  rw [val_eq, List.reverse_append, List.reverse_reverse]
theorem half2_len {d : List Nat} {m : Nat} (hm : 0 < m) (hd : d.length = (m + 1) / 2) : (half2 d (m % 2)).length = m := by
  unfold half2
  rw [List.length_append, List.length_reverse, List.length_drop, hd]
  omega
theorem half2_rev {d : List Nat} {m : Nat} (hd : d ≠ []) : (half2 d (m % 2)).reverse = half2 d (m % 2) := by
  unfold half2
  rw [List.reverse_append, List.reverse_reverse]
  rcases Nat.mod_two_eq_zero_or_one m with e | e
  · rw [e, List.drop_zero]
  · rw [e]
    cases d with
    | nil => exact absurd rfl hd
    | cons x t => simp
theorem made_form {b h m : Nat} (hb : 2 ≤ b) (hm : 0 < m) (hd : (ds b h).length = (m + 1) / 2) : ∃ r, made b h m = r + b ^ (m / 2) * h ∧ r < b ^ (m / 2) := by
  refine ⟨vl b ((ds b h).drop (m % 2)).reverse, ?_, ?_⟩
  · rw [made_eq]
    unfold half2
    rw [vl_append, vl_ds hb, List.length_reverse, List.length_drop, hd]
    congr 2
    congr 1
    omega
  · have := vl_lt (b := b) (l := ((ds b h).drop (m % 2)).reverse) fun d hx => ds_lt hb h d (List.mem_of_mem_drop (List.mem_reverse.mp hx))
    rw [List.length_reverse, List.length_drop, hd] at this
    rw [show m / 2 = (m + 1) / 2 - m % 2 by omega]
    exact this
theorem made_div {b h m : Nat} (hb : 2 ≤ b) (hm : 0 < m) (hd : (ds b h).length = (m + 1) / 2) : made b h m / b ^ (m / 2) = h := by
  obtain ⟨r, e, hr⟩ := made_form hb hm hd
  rw [e, Nat.add_mul_div_left _ _ (Nat.pow_pos (by omega)), Nat.div_eq_of_lt hr, Nat.zero_add]
theorem made_ds {b h m : Nat} (hb : 2 ≤ b) (hm : 0 < m) (hd : (ds b h).length = (m + 1) / 2) (h0 : m = 1 ∨ 0 < h) : ds b (made b h m) = half2 (ds b h) (m % 2) := by
  rw [made_eq]
  refine ds_vl hb (fun d hx => ?_) ?_
  · unfold half2 at hx
    rcases List.mem_append.mp hx with e | e
    · exact ds_lt hb h d (List.mem_of_mem_drop (List.mem_reverse.mp e))
    · exact ds_lt hb h d e
  · rcases h0 with h0 | h0
    · left
      rw [half2_len hm hd, h0]
    · right
      obtain ⟨x, hx, z⟩ := ds_last hb h h0
      refine ⟨x, ?_, z⟩
      unfold half2
      rw [List.getLast?_append, hx]
      rfl
theorem made_len {b h m : Nat} (hb : 2 ≤ b) (hm : 0 < m) (hd : (ds b h).length = (m + 1) / 2) (h0 : m = 1 ∨ 0 < h) : (ds b (made b h m)).length = m := by
  rw [made_ds hb hm hd h0, half2_len hm hd]
theorem made_pal {b h m : Nat} (hb : 2 ≤ b) (hm : 0 < m) (hd : (ds b h).length = (m + 1) / 2) (h0 : m = 1 ∨ 0 < h) : pal b (made b h m) = true := by
  unfold pal
  rw [made_ds hb hm hd h0]
  exact decide_eq_true (half2_rev (ds_ne hb h))
theorem pal_half {l : List Nat} (h : l.reverse = l) : half2 (l.drop (l.length / 2)) (l.length % 2) = l := by
  unfold half2
  have e : (l.drop (l.length / 2)).drop (l.length % 2) = l.drop (l.length - l.length / 2) := by
    rw [List.drop_drop]
    congr 1
    omega
  rw [e]
  have e2 : (l.drop (l.length - l.length / 2)).reverse = l.take (l.length / 2) := by
    rw [List.reverse_drop, h]
    congr 1
    omega
  rw [e2, List.take_append_drop]
/-- the half of a number -/
def hf (b n : Nat) : Nat := n / b ^ ((ds b n).length / 2)
theorem hf_ds {b : Nat} (hb : 2 ≤ b) (n : Nat) : ds b (hf b n) = (ds b n).drop ((ds b n).length / 2) := by
  have := ds_pos hb n
  rw [hf, ← ds_drop hb _ _ (by omega)]
theorem hf_len {b : Nat} (hb : 2 ≤ b) (n : Nat) : (ds b (hf b n)).length = ((ds b n).length + 1) / 2 := by
  rw [hf_ds hb, List.length_drop]
  omega
theorem pal_made {b : Nat} (hb : 2 ≤ b) (n : Nat) : pal b n = true ↔ made b (hf b n) (ds b n).length = n := by
  constructor
  · intro h
    have h1 := of_decide_eq_true h
    rw [made_eq, hf_ds hb, pal_half h1, vl_ds hb]
  · intro h
    have hm := ds_pos hb n
    have h0 : (ds b n).length = 1 ∨ 0 < hf b n := by
      rcases Nat.eq_zero_or_pos n with z | z
      · left
        rw [z, ds_lo (by omega)]
        rfl
      · right
        have := ds_dn hb n z
        exact Nat.div_pos (Nat.le_trans (Nat.pow_le_pow_right (by omega) (by omega)) this) (Nat.pow_pos (by omega))
    have := made_pal hb hm (hf_len hb n) h0
    rw [h] at this
    exact this
/-! counts -/
def cnt (b m : Nat) : Nat := if m = 1 then b else (b - 1) * b ^ ((m - 1) / 2)
def lo (b m : Nat) : Nat := if m = 1 then 0 else b ^ ((m - 1) / 2)
def sm (b : Nat) : Nat → Nat
  | 0 => 0
  | m + 1 => sm b m + (if m = 0 then 0 else cnt b m)
def bl (b n : Nat) : Nat :=
  if n = 0 then 0 else sm b (ds b n).length + (hf b n - lo b (ds b n).length) + (if made b (hf b n) (ds b n).length < n then 1 else 0)
theorem cnt_lo {b m : Nat} (hb : 2 ≤ b) (hm : 0 < m) : cnt b m + lo b m = b ^ ((m + 1) / 2) := by
  unfold cnt lo
  by_cases h : m = 1
  · subst h
    simp
  · rw [if_neg h, if_neg h, show (m + 1) / 2 = (m - 1) / 2 + 1 by omega, Nat.pow_succ]
    obtain ⟨c, rfl⟩ : ∃ c, b = c + 1 := ⟨b - 1, by omega⟩
    rw [Nat.add_sub_cancel, Nat.mul_add, Nat.mul_one, Nat.mul_comm]
theorem lo_le {b n : Nat} (hb : 2 ≤ b) (hn : 0 < n) : lo b (ds b n).length ≤ hf b n := by
  unfold lo hf
  by_cases h : (ds b n).length = 1
  · rw [if_pos h]
    exact Nat.zero_le _
  · rw [if_neg h]
    have hm := ds_pos hb n
    have d := ds_dn hb n hn
    rw [Nat.le_div_iff_mul_le (Nat.pow_pos (by omega)), ← Nat.pow_add]
    rw [show ((ds b n).length - 1) / 2 + (ds b n).length / 2 = (ds b n).length - 1 by omega]
    exact d
theorem hf_lt {b : Nat} (hb : 2 ≤ b) (n : Nat) : hf b n < b ^ (((ds b n).length + 1) / 2) := by
  have := ds_up hb (hf b n)
  rw [hf_len hb] at this
  exact this
theorem pow_pred {b k : Nat} (hb : 2 ≤ b) : (ds b (b ^ (k + 1) - 1)).length = k + 1 := by
  have p : 0 < b ^ k := Nat.pow_pos (by omega)
  have e : b ^ (k + 1) = b ^ k * b := Nat.pow_succ ..
  have : b ^ k * 2 ≤ b ^ k * b := Nat.mul_le_mul_left _ hb
  exact ds_len hb (by omega) (by omega)
theorem vl_rep (b : Nat) (hb : 2 ≤ b) : ∀ k, vl b (List.replicate k (b - 1)) = b ^ k - 1
  | 0 => by simp [vl]
  | k + 1 => by
    show (b - 1) + b * vl b (List.replicate k (b - 1)) = _
    rw [vl_rep b hb k, Nat.pow_succ]
    have p : 0 < b ^ k := Nat.pow_pos (by omega)
    have : b * 1 ≤ b * b ^ k := Nat.mul_le_mul_left b p
    rw [Nat.mul_sub, Nat.mul_comm (b ^ k) b]
    omega
theorem pal_pred {b k : Nat} (hb : 2 ≤ b) : pal b (b ^ (k + 1) - 1) = true := by
  have e : ds b (b ^ (k + 1) - 1) = List.replicate (k + 1) (b - 1) := by
    rw [← vl_rep b hb]
    refine ds_vl hb (fun d h => ?_) (Or.inr ⟨b - 1, ?_, by omega⟩)
    · rw [(List.mem_replicate.mp h).2]
      omega
    · rw [List.getLast?_replicate]
      simp
  unfold pal
  rw [e, List.reverse_replicate]
  exact decide_eq_true rfl
theorem bl_succ {b : Nat} (hb : 2 ≤ b) (n : Nat) : bl b (n + 1) = bl b n + (if pal b n = true then 1 else 0) := by
  rcases Nat.eq_zero_or_pos n with z | hn
  · subst z
    have e1 : ds b 1 = [1] := ds_lo (by omega)
    have e0 : hf b 1 = 1 := by
      unfold hf
      rw [e1]
      simp
    rw [pal_lo (by omega : 0 < b), if_pos rfl]
    unfold bl
    rw [if_neg (by omega), if_pos rfl, e0, e1]
    have : made b 1 1 = 1 := by
      unfold made fig
      rw [e1]
      simp [val]
    simp [lo, sm, this]
  · have hm := ds_pos hb n
    have up := ds_up hb n
    have dn := ds_dn hb n hn
    have dl := hf_len hb n
    obtain ⟨r, er, hr⟩ := made_form hb hm dl
    have lle := lo_le hb hn
    have hp : 0 < b ^ ((ds b n).length / 2) := Nat.pow_pos (by omega)
    have hdm : b ^ ((ds b n).length / 2) * hf b n + n % b ^ ((ds b n).length / 2) = n := Nat.div_add_mod n _
    have hml : n % b ^ ((ds b n).length / 2) < b ^ ((ds b n).length / 2) := Nat.mod_lt _ hp
    have pm := pal_made hb n
    by_cases hc : n + 1 < b ^ (ds b n).length
    · -- as many figures
      have hl : (ds b (n + 1)).length = (ds b n).length := by
        have := ds_len hb (m := (ds b n).length - 1) (n := n + 1) (by omega) (by rw [show (ds b n).length - 1 + 1 = (ds b n).length by omega]; exact hc)
        omega
      have e1 : bl b (n + 1) = sm b (ds b n).length + (hf b (n + 1) - lo b (ds b n).length) + (if made b (hf b (n + 1)) (ds b n).length < n + 1 then 1 else 0) := by
        unfold bl
        rw [if_neg (by omega), hl]
      have e2 : bl b n = sm b (ds b n).length + (hf b n - lo b (ds b n).length) + (if made b (hf b n) (ds b n).length < n then 1 else 0) := by
        unfold bl
        rw [if_neg (by omega)]
      have dl' := hf_len hb (n + 1)
      rw [hl] at dl'
      obtain ⟨r', er', hr'⟩ := made_form hb hm dl'
      have hdm' : b ^ ((ds b n).length / 2) * hf b (n + 1) + (n + 1) % b ^ ((ds b n).length / 2) = n + 1 := by
        unfold hf
        rw [hl]
        exact Nat.div_add_mod (n + 1) _
      have hml' : (n + 1) % b ^ ((ds b n).length / 2) < b ^ ((ds b n).length / 2) := Nat.mod_lt _ hp
      rw [e1, e2]
      generalize hq : b ^ ((ds b n).length / 2) = q at *
      by_cases hs : hf b (n + 1) = hf b n
      · rw [hs]
        by_cases hpn : pal b n = true
        · have := pm.mp hpn
          rw [if_pos hpn, this, if_pos (by omega), if_neg (by omega)]
        · have : made b (hf b n) (ds b n).length ≠ n := fun z => hpn (pm.mpr z)
          rw [if_neg hpn]
          by_cases hlt : made b (hf b n) (ds b n).length < n
          · rw [if_pos hlt, if_pos (by omega)]
          · rw [if_neg hlt, if_neg (by omega)]
      · have hs2 : hf b (n + 1) = hf b n + 1 := by
          have g1 : hf b n ≤ hf b (n + 1) := by
            have : hf b (n + 1) = (n + 1) / q := by rw [← hq]; unfold hf; rw [hl]
            have h2 : hf b n = n / q := by rw [← hq]; rfl
            rw [this, h2]
            exact Nat.div_le_div_right (by omega)
          have g2 : q * hf b (n + 1) < q * (hf b n + 2) := by
            rw [Nat.mul_add]
            omega
          have g3 := Nat.lt_of_mul_lt_mul_left g2
          omega
        rw [hs2] at hdm' er' ⊢
        rw [Nat.mul_add, Nat.mul_one] at hdm' er'
        have z0 : (n + 1) % q = 0 := by omega
        have c1 : ¬ made b (hf b n + 1) (ds b n).length < n + 1 := by omega
        rw [if_neg c1]
        by_cases hpn : pal b n = true
        · have := pm.mp hpn
          rw [if_pos hpn, if_neg (by omega)]
          omega
        · have : made b (hf b n) (ds b n).length ≠ n := fun z => hpn (pm.mpr z)
          rw [if_neg hpn, if_pos (by omega)]
          omega
    · -- a figure more
      have hb1 : n + 1 = b ^ (ds b n).length := by omega
      generalize hmm : (ds b n).length = m at *
      obtain ⟨k, rfl⟩ : ∃ k, m = k + 1 := ⟨m - 1, by omega⟩
      have hnp : n = b ^ (k + 1) - 1 := by omega
      have hpn : pal b n = true := by
        rw [hnp]
        exact pal_pred hb
      have hpm := pm.mp hpn
      have hl : (ds b (n + 1)).length = k + 2 := by
        rw [hb1]
        exact ds_len hb (Nat.le_refl _) (by rw [Nat.pow_succ b (k + 1)]; have : 0 < b ^ (k + 1) := Nat.pow_pos (by omega); have : b ^ (k + 1) * 2 ≤ b ^ (k + 1) * b := Nat.mul_le_mul_left _ hb; omega)
      have hh : hf b (n + 1) = b ^ ((k + 1) / 2) := by
        unfold hf
        rw [hl, hb1]
        rw [show b ^ (k + 1) = b ^ ((k + 1) / 2) * b ^ ((k + 2) / 2) by rw [← Nat.pow_add]; congr 1; omega]
        exact Nat.mul_div_cancel _ (Nat.pow_pos (by omega))
      have hlo : lo b (k + 2) = b ^ ((k + 1) / 2) := by
        unfold lo
        rw [if_neg (by omega)]
        rfl
      have hcl := cnt_lo (b := b) (m := k + 1) hb (by omega)
      have hhn : hf b n + 1 = b ^ ((k + 1 + 1) / 2) := by
        have g : hf b n = (b ^ (k + 1) - 1) / b ^ ((k + 1) / 2) := by
          unfold hf
          rw [hmm, ← hnp]
        have e : b ^ (k + 1) = b ^ ((k + 1 + 1) / 2) * b ^ ((k + 1) / 2) := by
          rw [← Nat.pow_add]
          congr 1
          omega
        have p1 : 0 < b ^ ((k + 1 + 1) / 2) := Nat.pow_pos (by omega)
        have p2 : 0 < b ^ ((k + 1) / 2) := Nat.pow_pos (by omega)
        rw [g, e]
        have : (b ^ ((k + 1 + 1) / 2) * b ^ ((k + 1) / 2) - 1) / b ^ ((k + 1) / 2) = b ^ ((k + 1 + 1) / 2) - 1 := by
          refine Nat.div_eq_of_lt_le ?_ ?_
          · rw [Nat.sub_mul, Nat.one_mul]
            omega
          · rw [show b ^ ((k + 1 + 1) / 2) - 1 + 1 = b ^ ((k + 1 + 1) / 2) by omega]
            have : 0 < b ^ ((k + 1 + 1) / 2) * b ^ ((k + 1) / 2) := Nat.mul_pos p1 p2
            omega
        rw [this]
        omega
      have dl' := hf_len hb (n + 1)
      rw [hl] at dl'
      obtain ⟨r', er', hr'⟩ := made_form hb (show 0 < k + 2 by omega) dl'
      have big : ¬ made b (hf b (n + 1)) (k + 2) < n + 1 := by
        rw [er', hh, hb1]
        rw [← Nat.pow_add, show (k + 2) / 2 + (k + 1) / 2 = k + 1 by omega]
        omega
      have e1 : bl b (n + 1) = sm b (k + 2) + (hf b (n + 1) - lo b (k + 2)) + 0 := by
        unfold bl
        rw [if_neg (by omega), hl, if_neg big]
      have e2 : bl b n = sm b (k + 1) + (hf b n - lo b (k + 1)) + 0 := by
        unfold bl
        rw [if_neg (by omega), hmm, hpm, if_neg (by omega)]
      have e3 : sm b (k + 2) = sm b (k + 1) + cnt b (k + 1) := by
        show sm b (k + 1) + (if k + 1 = 0 then 0 else cnt b (k + 1)) = _
        rw [if_neg (by omega)]
      rw [e1, e2, e3, hh, hlo, if_pos hpn]
      omega
/-! the number of a count -/
def nbF (b : Nat) : Nat → Nat → Nat → Nat
  | 0, m, l => made b (b ^ ((m - 1) / 2) + l) m
  | f + 1, m, l => if cnt b m - (if m = 1 then 1 else 0) ≤ l then nbF b f (m + 1) (l - (cnt b m - (if m = 1 then 1 else 0))) else made b (b ^ ((m - 1) / 2) + l) m
def nb (b a : Nat) : Nat := if a = 0 then 0 else nbF b a 1 (a - 1)
theorem cnt_pos {b m : Nat} (hb : 2 ≤ b) : 1 ≤ cnt b m - (if m = 1 then 1 else 0) := by
  unfold cnt
  by_cases h : m = 1
  · rw [if_pos h, if_pos h]
    omega
  · rw [if_neg h, if_neg h]
    have : 1 * 1 ≤ (b - 1) * b ^ ((m - 1) / 2) := Nat.mul_le_mul (by omega) (Nat.pow_pos (by omega))
    omega
theorem bl_made {b h m : Nat} (hb : 2 ≤ b) (hm : 0 < m) (h1 : lo b m ≤ h) (h2 : h < b ^ ((m + 1) / 2)) (h0 : 0 < h) : bl b (made b h m) = sm b m + (h - lo b m) ∧ pal b (made b h m) = true ∧ (ds b (made b h m)).length = m ∧ 0 < made b h m := by
  have hd : (ds b h).length = (m + 1) / 2 := by
    by_cases e : m = 1
    · subst e
      have : h < b := by simpa using h2
      rw [ds_lo this]
      rfl
    · unfold lo at h1
      rw [if_neg e] at h1
      have := ds_len hb (m := (m - 1) / 2) h1 (by rw [show (m - 1) / 2 + 1 = (m + 1) / 2 by omega]; exact h2)
      omega
  have hl := made_len hb hm hd (Or.inr h0)
  have hp := made_pal hb hm hd (Or.inr h0)
  have hv := made_div hb hm hd
  obtain ⟨r, er, hr⟩ := made_form hb hm hd
  have hpos : 0 < made b h m := by
    have : 1 * 1 ≤ b ^ (m / 2) * h := Nat.mul_le_mul (Nat.pow_pos (by omega)) h0
    omega
  have hh : hf b (made b h m) = h := by
    unfold hf
    rw [hl]
    exact hv
  refine ⟨?_, hp, hl, hpos⟩
  unfold bl
  rw [if_neg (by omega), hl, hh, if_neg (by omega)]
  rfl
theorem nbF_ok {b : Nat} (hb : 2 ≤ b) : ∀ f m l, 0 < m → l < f + 1 → ∃ m' l', 0 < m' ∧ nbF b f m l = made b (b ^ ((m' - 1) / 2) + l') m' ∧ l' + (if m' = 1 then 1 else 0) < cnt b m' ∧ sm b m' + l' + (if m' = 1 then 1 else 0) = sm b m + l + (if m = 1 then 1 else 0)
  | 0, m, l, hm, hl => by
    have := cnt_pos (m := m) hb
    exact ⟨m, l, hm, rfl, by split <;> simp_all <;> omega, rfl⟩
  | f + 1, m, l, hm, hl => by
    have hc := cnt_pos (m := m) hb
    unfold nbF
    by_cases h : cnt b m - (if m = 1 then 1 else 0) ≤ l
    · rw [if_pos h]
      obtain ⟨m', l', a1, a2, a3, a4⟩ := nbF_ok hb f (m + 1) (l - (cnt b m - (if m = 1 then 1 else 0))) (by omega) (by omega)
      refine ⟨m', l', a1, a2, a3, ?_⟩
      rw [a4]
      show sm b m + (if m = 0 then 0 else cnt b m) + _ + _ = _
      rw [if_neg (by omega), if_neg (show ¬ m + 1 = 1 by omega)]
      by_cases e : m = 1
      · rw [if_pos e] at h hc ⊢
        omega
      · rw [if_neg e] at h hc ⊢
        omega
    · rw [if_neg h]
      exact ⟨m, l, hm, rfl, by omega, rfl⟩
theorem nb_ok {b : Nat} (hb : 2 ≤ b) (a : Nat) : bl b (nb b a) = a ∧ pal b (nb b a) = true := by
  unfold nb
  by_cases h : a = 0
  · rw [if_pos h, h]
    exact ⟨rfl, pal_lo (by omega)⟩
  · rw [if_neg h]
    obtain ⟨m, l, hm, e, h1, h2⟩ := nbF_ok hb a 1 (a - 1) (by omega) (by omega)
    rw [e]
    have hcl := cnt_lo (b := b) (m := m) hb hm
    have p : 0 < b ^ ((m - 1) / 2) := Nat.pow_pos (by omega)
    have hlo : lo b m + (if m = 1 then 1 else 0) = b ^ ((m - 1) / 2) := by
      unfold lo
      by_cases z : m = 1
      · subst z
        rfl
      · rw [if_neg z, if_neg z]
        rfl
    obtain ⟨q1, q2, q3, q4⟩ := bl_made (b := b) (h := b ^ ((m - 1) / 2) + l) (m := m) hb hm (by omega) (by omega) (by omega)
    refine ⟨?_, q2⟩
    rw [q1]
    have : sm b 1 = 0 := rfl
    rw [this, if_pos rfl] at h2
    omega
/-! what follows: bl counts, nb numbers -/
theorem bl_mono {b : Nat} (hb : 2 ≤ b) {m n : Nat} (h : m ≤ n) : bl b m ≤ bl b n := by
  induction h with
  | refl => exact Nat.le_refl _
  | step _ ih =>
    rw [bl_succ hb]
    omega
theorem bl_lt {b : Nat} (hb : 2 ≤ b) {m n : Nat} (h : m < n) (hp : pal b m = true) : bl b m < bl b n := by
  have h1 := bl_mono hb (show m + 1 ≤ n from h)
  rw [bl_succ hb, if_pos hp] at h1
  omega
theorem nb_lt {b : Nat} (hb : 2 ≤ b) {i j : Nat} (h : i < j) : nb b i < nb b j := by
  rcases Nat.lt_or_ge (nb b i) (nb b j) with g | g
  · exact g
  · have := bl_mono hb g
    rw [(nb_ok hb i).1, (nb_ok hb j).1] at this
    omega
theorem nb_bl {b : Nat} (hb : 2 ≤ b) {n : Nat} (hp : pal b n = true) : nb b (bl b n) = n := by
  have h := (nb_ok hb (bl b n)).1
  have q := (nb_ok hb (bl b n)).2
  rcases Nat.lt_trichotomy (nb b (bl b n)) n with g | g | g
  · have := bl_lt hb g q
    omega
  · exact g
  · have := bl_lt hb g hp
    omega
theorem bl_zero (b : Nat) : bl b 0 = 0 := rfl
/-- the numbers below n that read alike -/
def pals (b n : Nat) : List Nat := (List.range n).filter (pal b)
theorem pals_len {b : Nat} (hb : 2 ≤ b) : ∀ n, (pals b n).length = bl b n
  | 0 => rfl
  | n + 1 => by
    have ih := pals_len hb n
    unfold pals at ih ⊢
    rw [List.range_succ, List.filter_append, List.length_append, ih, bl_succ hb, List.filter_cons]
    by_cases h : pal b n = true
    · rw [if_pos h, if_pos h]
      rfl
    · rw [if_neg h, if_neg h]
      rfl
end Bm
namespace Bm
theorem nbF_eq {b : Nat} (hb : 2 ≤ b) : ∀ f g m l, l ≤ f → l ≤ g → nbF b f m l = nbF b g m l
  | 0, 0, m, l, _, _ => rfl
  | 0, g + 1, m, l, h, _ => by
    have hc := cnt_pos (m := m) hb
    have : l = 0 := by omega
    subst this
    unfold nbF
    rw [if_neg (by omega)]
  | f + 1, 0, m, l, _, h => by
    have hc := cnt_pos (m := m) hb
    have : l = 0 := by omega
    subst this
    unfold nbF
    rw [if_neg (by omega)]
  | f + 1, g + 1, m, l, h1, h2 => by
    have hc := cnt_pos (m := m) hb
    unfold nbF
    by_cases h : cnt b m - (if m = 1 then 1 else 0) ≤ l
    · rw [if_pos h, if_pos h, nbF_eq hb f g _ _ (by omega) (by omega)]
    · rw [if_neg h, if_neg h]
def nbG (b m l : Nat) : Nat := nbF b l m l
theorem nbG_lo {b m l : Nat} (hb : 2 ≤ b) (h : l < cnt b m - (if m = 1 then 1 else 0)) : nbG b m l = made b (b ^ ((m - 1) / 2) + l) m := by
  unfold nbG
  cases l with
  | zero => rfl
  | succ k =>
    unfold nbF
    rw [if_neg (by omega)]
theorem nbG_hi {b m l : Nat} (hb : 2 ≤ b) (h : cnt b m - (if m = 1 then 1 else 0) ≤ l) : nbG b m l = nbG b (m + 1) (l - (cnt b m - (if m = 1 then 1 else 0))) := by
  have hc := cnt_pos (m := m) hb
  unfold nbG
  cases l with
  | zero => omega
  | succ k =>
    rw [show nbF b (k + 1) m (k + 1) = nbF b k (m + 1) (k + 1 - (cnt b m - (if m = 1 then 1 else 0))) by
      conv => lhs; unfold nbF
      rw [if_pos h]]
    exact nbF_eq hb _ _ _ _ (by omega) (by omega)
theorem nb_G {b a : Nat} (hb : 2 ≤ b) (h : 0 < a) : nb b a = nbG b 1 (a - 1) := by
  unfold nb nbG
  rw [if_neg (by omega)]
  exact nbF_eq hb _ _ _ _ (by omega) (by omega)
theorem sm_succ {b m : Nat} (hm : 0 < m) : sm b (m + 1) = sm b m + cnt b m := by
  show sm b m + (if m = 0 then 0 else cnt b m) = _
  rw [if_neg (by omega)]
theorem sm_ge {b m : Nat} (hb : 2 ≤ b) (hm : 2 ≤ m) : b ^ ((m - 2) / 2) ≤ sm b m := by
  obtain ⟨k, rfl⟩ : ∃ k, m = k + 2 := ⟨m - 2, by omega⟩
  rw [show k + 2 = (k + 1) + 1 from rfl, sm_succ (by omega)]
  have hc : b ^ (k / 2) ≤ cnt b (k + 1) := by
    unfold cnt
    by_cases h : k + 1 = 1
    · rw [if_pos h]
      have : k = 0 := by omega
      subst this
      simp
      omega
    · rw [if_neg h]
      have : 1 * b ^ (k / 2) ≤ (b - 1) * b ^ (k / 2) := Nat.mul_le_mul_right _ (by omega)
      rw [Nat.one_mul] at this
      exact this
  show b ^ (k / 2) ≤ _
  omega
theorem m_bound {b m e : Nat} (hb : 2 ≤ b) (h : sm b m < 2 ^ e) : m ≤ 2 * e + 1 := by
  rcases Nat.lt_or_ge m 2 with z | z
  · omega
  · have h1 := sm_ge hb z
    have h2 : 2 ^ ((m - 2) / 2) ≤ b ^ ((m - 2) / 2) := Nat.pow_le_pow_left hb _
    have := pow_lt (b := 2) (by omega) (Nat.lt_of_le_of_lt (Nat.le_trans h2 h1) h)
    omega
theorem sm_le_bl {b n : Nat} (hn : 0 < n) : sm b (ds b n).length ≤ bl b n := by
  unfold bl
  rw [if_neg (by omega)]
  omega
theorem size_of_bl {b n : Nat} (hb : 2 ≤ b) (hb2 : b ≤ 1000) (h : bl b n < 2 ^ 700) : n < 2 ^ 14010 := by
  rcases Nat.eq_zero_or_pos n with z | z
  · subst z
    exact Nat.pow_pos (by decide)
  · have h1 := m_bound hb (Nat.lt_of_le_of_lt (sm_le_bl z) h)
    have h2 := ds_up hb n
    have h3 : b ^ (ds b n).length ≤ 1024 ^ (ds b n).length := Nat.pow_le_pow_left (by omega) _
    have h4 : (1024 : Nat) ^ (ds b n).length ≤ 1024 ^ 1401 := Nat.pow_le_pow_right (by decide) (by omega)
    have h5 : (1024 : Nat) ^ 1401 = 2 ^ (10 * 1401) := by rw [Nat.pow_mul]
    rw [h5] at h4
    exact Nat.lt_of_lt_of_le h2 (Nat.le_trans h3 h4)
theorem pow_le_two {b m : Nat} (hb2 : b ≤ 1000) : b ^ m ≤ 2 ^ (10 * m) := by
  rw [Nat.pow_mul]
  exact Nat.pow_le_pow_left (by omega) _
theorem bl_pow {b m : Nat} (hb : 2 ≤ b) (hm : 0 < m) : bl b (b ^ m) = sm b (m + 1) := by
  have p : 0 < b ^ m := Nat.pow_pos (by omega)
  have hl : (ds b (b ^ m)).length = m + 1 := ds_len hb (Nat.le_refl _) (by
    rw [Nat.pow_succ]
    have : b ^ m * 2 ≤ b ^ m * b := Nat.mul_le_mul_left _ hb
    omega)
  have hh : hf b (b ^ m) = b ^ (m / 2) := by
    unfold hf
    rw [hl]
    rw [show b ^ m = b ^ (m / 2) * b ^ ((m + 1) / 2) by rw [← Nat.pow_add]; congr 1; omega]
    exact Nat.mul_div_cancel _ (Nat.pow_pos (by omega))
  have hlo : lo b (m + 1) = b ^ (m / 2) := by
    unfold lo
    rw [if_neg (by omega)]
    rfl
  have dl' := hf_len hb (b ^ m)
  rw [hl] at dl'
  obtain ⟨r', er', hr'⟩ := made_form hb (show 0 < m + 1 by omega) dl'
  have big : ¬ made b (hf b (b ^ m)) (m + 1) < b ^ m := by
    rw [er', hh, ← Nat.pow_add, show (m + 1) / 2 + m / 2 = m by omega]
    omega
  unfold bl
  rw [if_neg (by omega), hl, if_neg big, hh, hlo]
  omega
theorem hf_val {b : Nat} (hb : 2 ≤ b) (n : Nat) : val b ((fig b n).take (((ds b n).length + 1) / 2)) = hf b n := by
  have e : (fig b n).take (((ds b n).length + 1) / 2) = ((ds b n).drop ((ds b n).length / 2)).reverse := by
    unfold fig
    rw [List.take_reverse]
    congr 2
    omega
  rw [e, val_vl, ← hf_ds hb, vl_ds hb]
end Bm
namespace Bm
theorem bl_form {b : Nat} (hb : 2 ≤ b) {n : Nat} (hp : pal b n = true) : bl b n + lo b (ds b n).length = sm b (ds b n).length + hf b n := by
  rcases Nat.eq_zero_or_pos n with z | z
  · subst z
    have e : ds b 0 = [0] := ds_lo (by omega)
    have h0 : hf b 0 = 0 := by unfold hf; rw [Nat.zero_div]
    rw [h0, e, bl_zero]
    rfl
  · have h1 := lo_le hb z
    have h2 := (pal_made hb n).mp hp
    unfold bl
    rw [if_neg (by omega), if_neg (by omega)]
    omega
theorem half_next {b : Nat} (hb : 2 ≤ b) (a : Nat) (h : (ds b (nb b a)).length = (ds b (nb b (a + 1))).length) : hf b (nb b (a + 1)) = hf b (nb b a) + 1 := by
  have h1 := bl_form hb (nb_ok hb a).2
  have h2 := bl_form hb (nb_ok hb (a + 1)).2
  rw [(nb_ok hb a).1] at h1
  rw [(nb_ok hb (a + 1)).1, ← h] at h2
  omega
theorem mid_bl {b : Nat} (hb : 2 ≤ b) (a x : Nat) (h1 : nb b a < x) (h2 : x ≤ nb b (a + 1)) : bl b x = a + 1 := by
  have e1 := bl_mono hb (show nb b a + 1 ≤ x from h1)
  have e2 := bl_mono hb h2
  rw [bl_succ hb, (nb_ok hb a).1, if_pos (nb_ok hb a).2] at e1
  rw [(nb_ok hb (a + 1)).1] at e2
  omega
theorem ds_len_le {b m n : Nat} (hb : 2 ≤ b) (h : m ≤ n) : (ds b m).length ≤ (ds b n).length := by
  rcases Nat.eq_zero_or_pos m with z | z
  · subst z
    rw [ds_lo (by omega)]
    exact ds_pos hb n
  · have h1 := ds_dn hb m z
    have h2 := ds_up hb n
    have := pow_lt hb (Nat.lt_of_le_of_lt h1 (Nat.lt_of_le_of_lt h h2))
    omega
theorem ds_shift {b n : Nat} (hb : 2 ≤ b) (hn : 0 < n) (d : Nat) (hd : d < b) : ds b (b * n + d) = d :: ds b n := by
  have : b * 1 ≤ b * n := Nat.mul_le_mul_left b hn
  rw [ds_hi hb (by omega), Nat.mul_add_mod, Nat.mod_eq_of_lt hd, Nat.mul_add_div (by omega), Nat.div_eq_of_lt hd, Nat.add_zero]
theorem ds_pow {b : Nat} (hb : 2 ≤ b) : ∀ m, ds b (b ^ m) = List.replicate m 0 ++ [1]
  | 0 => by
    rw [Nat.pow_zero, ds_lo (by omega)]
    rfl
  | m + 1 => by
    have p : 0 < b ^ m := Nat.pow_pos (by omega)
    rw [Nat.pow_succ, Nat.mul_comm, ← Nat.add_zero (b * b ^ m), ds_shift hb p 0 (by omega), ds_pow hb m]
    rfl
theorem pal_pow {b m : Nat} (hb : 2 ≤ b) (hm : 0 < m) : pal b (b ^ m) = false := by
  obtain ⟨k, rfl⟩ : ∃ k, m = k + 1 := ⟨m - 1, by omega⟩
  unfold pal
  rw [ds_pow hb, decide_eq_false_iff_not, List.reverse_append]
  intro h
  have := congrArg List.head? h
  simp [List.replicate_succ] at this
theorem pal_pow_succ {b m : Nat} (hb : 2 ≤ b) (hm : 0 < m) : pal b (b ^ m + 1) = true := by
  obtain ⟨k, rfl⟩ : ∃ k, m = k + 1 := ⟨m - 1, by omega⟩
  have p : 0 < b ^ k := Nat.pow_pos (by omega)
  unfold pal
  rw [Nat.pow_succ, Nat.mul_comm, ds_shift hb p 1 (by omega), ds_pow hb k]
  simp
theorem bl_pow_succ {b m : Nat} (hb : 2 ≤ b) (hm : 0 < m) : bl b (b ^ m + 1) = sm b (m + 1) := by
  rw [bl_succ hb, pal_pow hb hm, bl_pow hb hm]
  rfl
theorem nb_pow_succ {b m : Nat} (hb : 2 ≤ b) (hm : 0 < m) : nb b (sm b (m + 1)) = b ^ m + 1 := by
  rw [← bl_pow_succ hb hm, nb_bl hb (pal_pow_succ hb hm)]
theorem bl_pow_pred {b m : Nat} (hb : 2 ≤ b) (hm : 0 < m) : bl b (b ^ m - 1) + 1 = sm b (m + 1) := by
  obtain ⟨k, rfl⟩ : ∃ k, m = k + 1 := ⟨m - 1, by omega⟩
  have p : 0 < b ^ (k + 1) := Nat.pow_pos (by omega)
  have := bl_succ hb (b ^ (k + 1) - 1)
  rw [pal_pred hb, if_pos rfl, show b ^ (k + 1) - 1 + 1 = b ^ (k + 1) by omega, bl_pow hb hm] at this
  exact this.symm
theorem nb_pow_pred {b m : Nat} (hb : 2 ≤ b) (hm : 0 < m) : nb b (sm b (m + 1) - 1) = b ^ m - 1 := by
  obtain ⟨k, rfl⟩ : ∃ k, m = k + 1 := ⟨m - 1, by omega⟩
  rw [← bl_pow_pred hb hm, Nat.add_sub_cancel, nb_bl hb (pal_pred hb)]
/-- where the next one has more figures -/
theorem next_longer {b : Nat} (hb : 2 ≤ b) (a : Nat) (h : (ds b (nb b a)).length ≠ (ds b (nb b (a + 1))).length) :
    nb b a = b ^ (ds b (nb b a)).length - 1 ∧ nb b (a + 1) = b ^ (ds b (nb b a)).length + 1 := by
  have hlt := nb_lt hb (show a < a + 1 by omega)
  have hl := ds_len_le hb (Nat.le_of_lt hlt)
  generalize hm : (ds b (nb b a)).length = m at *
  have hmp : 0 < m := by rw [← hm]; exact ds_pos hb _
  obtain ⟨k, rfl⟩ : ∃ k, m = k + 1 := ⟨m - 1, by omega⟩
  have up := ds_up hb (nb b a)
  rw [hm] at up
  have p : 0 < b ^ (k + 1) := Nat.pow_pos (by omega)
  have dn := ds_dn hb (nb b (a + 1)) (by omega)
  have dn2 : b ^ (k + 1) ≤ nb b (a + 1) := Nat.le_trans (Nat.pow_le_pow_right (by omega) (by omega)) dn
  have e1 : nb b a = b ^ (k + 1) - 1 := by
    rcases Nat.lt_or_ge (nb b a) (b ^ (k + 1) - 1) with z | z
    · have g := mid_bl hb a (b ^ (k + 1) - 1) z (by omega)
      have q := bl_lt hb (show b ^ (k + 1) - 1 < nb b (a + 1) by omega) (pal_pred hb)
      rw [g, (nb_ok hb (a + 1)).1] at q
      omega
    · omega
  refine ⟨e1, ?_⟩
  have e2 : a + 1 = sm b (k + 1 + 1) := by
    have g := bl_pow_pred hb hmp
    rw [← e1, (nb_ok hb a).1] at g
    exact g
  rw [e2, nb_pow_succ hb hmp]
end Bm

set_option maxHeartbeats 4000000
namespace Bt
open PySem PySem.Spec PyProof.Rows L2 Evl
section
variable {X : Cx}
theorem op_mulX : OpR X (binaryOp .Mult) (rI IntMulOk fun i j => .int (i * j)) := opI fun _ _ _ _ _ _ _ hc q => mul_int q hc
end
theorem mulL {i j : Int} (h1 : -(2 ^ 64) < i) (h2 : i < 2 ^ 64) : IntMulOk i j := IntMulOk.of_left (intBits_le_64 h1 h2)
theorem mulR {i j : Int} (h1 : -(2 ^ 64) < j) (h2 : j < 2 ^ 64) : IntMulOk i j := IntMulOk.of_right (intBits_le_64 h1 h2)
/-! promises by the arguments' kinds -/
def spI1 (C : Int → Prop) (f : Int → V) : Sp := fun vs H Q _ => ∃ a, vs = [.int a] ∧ C a ∧ RetV (f a) H Q
def spI2 (C : Int → Int → Prop) (f : Int → Int → V) : Sp := fun vs H Q _ => ∃ a b, vs = [.int a, .int b] ∧ C a b ∧ RetV (f a b) H Q
def spI3 (C : Int → Int → Int → Prop) (f : Int → Int → Int → V) : Sp := fun vs H Q _ => ∃ a b c, vs = [.int a, .int b, .int c] ∧ C a b c ∧ RetV (f a b c) H Q
def spL2 (C : Int → Int → Prop) (f : Int → Int → List V) : Sp := fun vs H Q _ => ∃ a b, vs = [.int a, .int b] ∧ C a b ∧ RetL (f a b) H Q
def spL3 (C : Int → Int → Int → Prop) (f : Int → Int → Int → List V) : Sp := fun vs H Q _ => ∃ a b c, vs = [.int a, .int b, .int c] ∧ C a b c ∧ RetL (f a b c) H Q
def spL4 (C : Int → Int → Int → Int → Prop) (f : Int → Int → Int → Int → List V) : Sp := fun vs H Q _ => ∃ a b c d, vs = [.int a, .int b, .int c, .int d] ∧ C a b c d ∧ RetL (f a b c d) H Q
/-- a list of ints and an int -/
def spR (K : PySem.W.Frag) (C : List Int → Int → Prop) (f : List Int → Int → V) : Sp := fun vs H Q _ => ∃ (p : Addr) (xs : List Int) (b : Int), vs = [.ref p, .int b] ∧ SqL K H p (xs.map V.int) ∧ C xs b ∧ RetV (f xs b) H Q
section
variable {K : PySem.W.Frag} {σ : L2.St} {H H' : Hp} {ta tb te tx : TE} {t u : TT} {x y z v : V} {D : Ends} {tu tw tz : TS} {g : TG}
theorem sv1 {C : Int → Prop} {f : Int → V} {a : Int} (h : C a) : SpV (spI1 C f) [.int a] H (f a) := fun _ _ _ q _ => ⟨a, rfl, h, q⟩
theorem sv2 {C : Int → Int → Prop} {f : Int → Int → V} {a b : Int} (h : C a b) : SpV (spI2 C f) [.int a, .int b] H (f a b) := fun _ _ _ q _ => ⟨a, b, rfl, h, q⟩
theorem sv3 {C : Int → Int → Int → Prop} {f : Int → Int → Int → V} {a b c : Int} (h : C a b c) : SpV (spI3 C f) [.int a, .int b, .int c] H (f a b c) := fun _ _ _ q _ => ⟨a, b, c, rfl, h, q⟩
theorem sl2 {C : Int → Int → Prop} {f : Int → Int → List V} {a b : Int} (h : C a b) : SpL (spL2 C f) [.int a, .int b] H (f a b) := fun _ _ _ q _ => ⟨a, b, rfl, h, q⟩
theorem sl3 {C : Int → Int → Int → Prop} {f : Int → Int → Int → List V} {a b c : Int} (h : C a b c) : SpL (spL3 C f) [.int a, .int b, .int c] H (f a b c) := fun _ _ _ q _ => ⟨a, b, c, rfl, h, q⟩
theorem sl4 {C : Int → Int → Int → Int → Prop} {f : Int → Int → Int → Int → List V} {a b c d : Int} (h : C a b c d) : SpL (spL4 C f) [.int a, .int b, .int c, .int d] H (f a b c d) := fun _ _ _ q _ => ⟨a, b, c, d, rfl, h, q⟩
theorem svR {C : List Int → Int → Prop} {f : List Int → Int → V} {p : Addr} {xs : List Int} {b : Int} (hs : SqL K H p (xs.map V.int)) (h : C xs b) : SpV (spR K C f) [.ref p, .int b] H (f xs b) := fun _ e _ q _ => ⟨p, xs, b, rfl, ex_l e hs, h, q⟩
/-! calls by their argument's readings -/
variable {E : XK}
theorem ec1 {C : Int → Prop} {f : Int → V} {a : Int} (h1 : Ev ta σ H (.int a)) (h : C a) : Ev (tCall (spI1 C f) [] E (tCons ta tNil)) σ H (f a) := ev_call (ea_cons h1 ea_nil) (sv1 h)
theorem ec2 {C : Int → Int → Prop} {f : Int → Int → V} {a b : Int} (h1 : Ev ta σ H (.int a)) (h2 : Ev tb σ H (.int b)) (h : C a b) : Ev (tCall (spI2 C f) [] E (tCons ta (tCons tb tNil))) σ H (f a b) := ev_call (ea_cons h1 (ea_cons h2 ea_nil)) (sv2 h)
theorem ec3 {tc : TE} {C : Int → Int → Int → Prop} {f : Int → Int → Int → V} {a b c : Int} (h1 : Ev ta σ H (.int a)) (h2 : Ev tb σ H (.int b)) (h3 : Ev tc σ H (.int c)) (h : C a b c) : Ev (tCall (spI3 C f) [] E (tCons ta (tCons tb (tCons tc tNil)))) σ H (f a b c) := ev_call (ea_cons h1 (ea_cons h2 (ea_cons h3 ea_nil))) (sv3 h)
theorem el2 {C : Int → Int → Prop} {f : Int → Int → List V} {a b : Int} (h1 : Ev ta σ H (.int a)) (h2 : Ev tb σ H (.int b)) (h : C a b) : EvL (tCall (spL2 C f) [] E (tCons ta (tCons tb tNil))) σ H (f a b) := el_call (ea_cons h1 (ea_cons h2 ea_nil)) (sl2 h)
theorem el3 {tc : TE} {C : Int → Int → Int → Prop} {f : Int → Int → Int → List V} {a b c : Int} (h1 : Ev ta σ H (.int a)) (h2 : Ev tb σ H (.int b)) (h3 : Ev tc σ H (.int c)) (h : C a b c) : EvL (tCall (spL3 C f) [] E (tCons ta (tCons tb (tCons tc tNil)))) σ H (f a b c) := el_call (ea_cons h1 (ea_cons h2 (ea_cons h3 ea_nil))) (sl3 h)
theorem el4 {tc td : TE} {C : Int → Int → Int → Int → Prop} {f : Int → Int → Int → Int → List V} {a b c d : Int} (h1 : Ev ta σ H (.int a)) (h2 : Ev tb σ H (.int b)) (h3 : Ev tc σ H (.int c)) (h4 : Ev td σ H (.int d)) (h : C a b c d) : EvL (tCall (spL4 C f) [] E (tCons ta (tCons tb (tCons tc (tCons td tNil))))) σ H (f a b c d) := el_call (ea_cons h1 (ea_cons h2 (ea_cons h3 (ea_cons h4 ea_nil)))) (sl4 h)
theorem ecR {C : List Int → Int → Prop} {f : List Int → Int → V} {p : Addr} {xs : List Int} {b : Int} (h1 : Ev ta σ H (.ref p)) (hs : SqL K H p (xs.map V.int)) (h2 : Ev tb σ H (.int b)) (h : C xs b) : Ev (tCall (spR K C f) [] E (tCons ta (tCons tb tNil))) σ H (f xs b) := ev_call (ea_cons h1 (ea_cons h2 ea_nil)) (svR hs h)
theorem ecRN {C : List Int → Int → Prop} {f : List Int → Int → V} {xs : List Int} {b : Int} (h1 : EvL ta σ H (xs.map V.int)) (h2 : Ev tb σ H (.int b)) (h : C xs b) : Ev (tCall (spR K C f) [] E (tCons ta (tCons tb tNil))) σ H (f xs b) := fun H1 e Q q =>
  h1 H1 e _ fun p H2 _ e2 hp => h2 H2 (e.trans e2) _ fun H3 e3 => ⟨p, xs, b, rfl, sq_of (e3 p _ hp), h, fun H4 e4 => q H4 ((e2.trans e3).trans e4)⟩
/-! lists -/
theorem el_rev {a : Addr} {xs : List V} (h : Ev te σ H (.ref a)) (hs : SqL K H a xs) : EvL (tRevL K te) σ H xs.reverse := fun H1 e Q q =>
  h H1 e _ fun H2 e2 => ⟨a, xs, rfl, ex_l (e.trans e2) hs, fun p hp => q p _ (fresh_back e2 hp) (e2.trans (Ex.new hp)) upd_same⟩
theorem el_revN {xs : List V} (h : EvL te σ H xs) : EvL (tRevL K te) σ H xs.reverse := fun H1 e Q q =>
  h H1 e _ fun a H2 _ e2 ha => ⟨a, xs, rfl, sq_of ha, fun p hp => q p _ (fresh_back e2 hp) (e2.trans (Ex.new hp)) upd_same⟩
theorem el_slN {tl th : TO} {xs : List V} {lo hi : Option Int} (h : EvL te σ H xs) (h1 : EvO tl σ H lo) (h2 : EvO th σ H hi) : EvL (tSl (rSlL K) te tl th) σ H (cutV xs lo hi) := fun H1 e _ q =>
  h H1 e _ fun a H2 _ e2 ha => h1 H2 (e.trans e2) _ fun H3 e3 => h2 H3 ((e.trans e2).trans e3) _ fun H4 e4 =>
    ⟨a, xs, rfl, sq_of (e4 a _ (e3 a _ ha)), fun p hp => q p _ (fresh_back ((e2.trans e3).trans e4) hp) (((e2.trans e3).trans e4).trans (Ex.new hp)) upd_same⟩
theorem rcl_cat {l b : Addr} {xs zs : List V} {H1 : Hp} {Q : VK} (hl : H1 l = some (.lst xs)) (hb : H1 b = some (.lst zs)) (hz : xs.length + zs.length ≤ 100000) (q : ∀ p H2, H1 p = none → Ex H1 H2 → H2 p = some (.lst (xs ++ zs)) → Q (.ref p) H2) : rCat (.ref l) (.ref b) H1 Q :=
  ⟨l, b, xs, zs, rfl, rfl, hl, hb, sz_of hz, fun p hp => q p _ hp (Ex.new hp) upd_same⟩
/-- two lists joined: the first, the second a variable's or a new one -/
theorem el_cat {l b : Addr} {xs zs : List V} (h1 : Ev ta σ H (.ref l)) (hl : H l = some (.lst xs)) (h2 : Ev tb σ H (.ref b)) (hb : H b = some (.lst zs)) (hz : xs.length + zs.length ≤ 100000) : EvL (tOp rCat ta tb) σ H (xs ++ zs) := fun H1 e Q q =>
  h1 H1 e _ fun H2 e2 => h2 H2 (e.trans e2) _ fun H3 e3 => rcl_cat (e3 l _ (e2 l _ (e l _ hl))) (e3 b _ (e2 b _ (e b _ hb))) hz fun p H4 hp e4 h4 => q p H4 (fresh_back (e2.trans e3) hp) ((e2.trans e3).trans e4) h4
theorem el_catN {l : Addr} {xs zs : List V} (h1 : Ev ta σ H (.ref l)) (hl : H l = some (.lst xs)) (h2 : EvL tb σ H zs) (hz : xs.length + zs.length ≤ 100000) : EvL (tOp rCat ta tb) σ H (xs ++ zs) := fun H1 e Q q =>
  h1 H1 e _ fun H2 e2 => h2 H2 (e.trans e2) _ fun b H3 _ e3 hb => rcl_cat (e3 l _ (e2 l _ (e l _ hl))) hb hz fun p H4 hp e4 h4 => q p H4 (fresh_back (e2.trans e3) hp) ((e2.trans e3).trans e4) h4
theorem el_catN1 {b : Addr} {xs zs : List V} (h1 : EvL ta σ H xs) (h2 : Ev tb σ H (.ref b)) (hb : H b = some (.lst zs)) (hz : xs.length + zs.length ≤ 100000) : EvL (tOp rCat ta tb) σ H (xs ++ zs) := fun H1 e Q q =>
  h1 H1 e _ fun l H2 _ e2 hl => h2 H2 (e.trans e2) _ fun H3 e3 => rcl_cat (e3 l _ hl) (e3 b _ (e2 b _ (e b _ hb))) hz fun p H4 hp e4 h4 => q p H4 (fresh_back (e2.trans e3) hp) ((e2.trans e3).trans e4) h4
theorem el_catNN {xs zs : List V} (h1 : EvL ta σ H xs) (h2 : EvL tb σ H zs) (hz : xs.length + zs.length ≤ 100000) : EvL (tOp rCat ta tb) σ H (xs ++ zs) := fun H1 e Q q =>
  h1 H1 e _ fun l H2 _ e2 hl => h2 H2 (e.trans e2) _ fun b H3 _ e3 hb => rcl_cat (e3 l _ hl) hb hz fun p H4 hp e4 h4 => q p H4 (fresh_back (e2.trans e3) hp) ((e2.trans e3).trans e4) h4
/-! == of lists of ints -/
theorem dp_ints (K : PySem.W.Frag) (H : Hp) : ∀ xs : List Int, DpAll K H (xs.map V.int) (xs.map PyData.int)
  | [] => .nil
  | x :: r => .cons (.int x) (dp_ints K H r)
theorem eqv_ints (xs ys : List Int) : PyData.eqv (.list (xs.map PyData.int)) (.list (ys.map PyData.int)) = decide (xs = ys) := by
  induction xs generalizing ys with
  | nil =>
    cases ys with
    | nil => rfl
    | cons y r => rfl
  | cons x r ih =>
    cases ys with
    | nil => rfl
    | cons y r2 =>
      have h := ih r2
      simp only [PyData.eqv] at h ⊢
      simp only [List.map_cons, PyData.eqvAll, PyData.eqv] at h ⊢
      rw [h]
      by_cases e : x = y
      · subst e
        simp
      · simp [e]
end
theorem shaped_ints (ns : List Int) : SeqAt.shaped (.list (ns.map PyData.int)) = true := by
  have h1 : ∀ l : List Int, PyData.canLayAll0 (l.map PyData.int) = true := fun l => by
    induction l with
    | nil => rfl
    | cons x r ih => simp [PyData.canLayAll0, PyData.canLay0, ih]
  have h2 : ∀ l : List Int, PyData.depthAll (l.map PyData.int) ≤ 1 := fun l => by
    induction l with
    | nil => simp [PyData.depthAll]
    | cons x r ih => simp [PyData.depthAll, PyData.depth]; omega
  unfold SeqAt.shaped
  have a1 := h1 ns
  have a2 := h2 ns
  have a3 : (PyData.list (ns.map PyData.int)).depth ≤ 64 := by
    simp only [PyData.depth]
    omega
  have a4 : (PyData.list (ns.map PyData.int)).canLay0 = true := by
    simp only [PyData.canLay0]
    exact a1
  rw [a4, decide_eq_true a3]
  rfl
section
variable {K : PySem.W.Frag} {σ : L2.St} {H H' : Hp} {ta tb te tx : TE} {t u : TT} {x y z v : V} {D : Ends} {tu tw tz : TS} {g : TG}
theorem rv_eqI {p q : Addr} {xs ys : List Int} (h1 : SqL K H p (xs.map V.int)) (h2 : SqL K H q (ys.map V.int)) : RV (rEqD K) (.ref p) (.ref q) H (.bl (decide (xs = ys))) := fun H1 e Q k =>
  ⟨_, _, .lst (ex_l e h1) (dp_ints K H1 xs), .lst (ex_l e h2) (dp_ints K H1 ys), shaped_ints xs, shaped_ints ys, by rw [eqv_ints]; exact k H1 (Ex.refl H1)⟩
theorem rv_neI {p q : Addr} {xs ys : List Int} (h1 : SqL K H p (xs.map V.int)) (h2 : SqL K H q (ys.map V.int)) : RV (rNeD K) (.ref p) (.ref q) H (.bl (!decide (xs = ys))) := fun H1 e Q k =>
  ⟨_, _, .lst (ex_l e h1) (dp_ints K H1 xs), .lst (ex_l e h2) (dp_ints K H1 ys), shaped_ints xs, shaped_ints ys, by rw [eqv_ints]; exact k H1 (Ex.refl H1)⟩
/-- == and != of lists of ints: V a variable's, N a new one -/
theorem ev_eqVV {p q : Addr} {xs ys : List Int} (ha : Ev ta σ H (.ref p)) (h1 : SqL K H p (xs.map V.int)) (hb : Ev tb σ H (.ref q)) (h2 : SqL K H q (ys.map V.int)) : Ev (tOp (rEqD K) ta tb) σ H (.bl (decide (xs = ys))) := ev_op ha hb (rv_eqI h1 h2)
theorem ev_eqVN {p : Addr} {xs ys : List Int} (ha : Ev ta σ H (.ref p)) (h1 : SqL K H p (xs.map V.int)) (hb : EvL tb σ H (ys.map V.int)) : Ev (tOp (rEqD K) ta tb) σ H (.bl (decide (xs = ys))) := ev_opL ha hb fun q H1 hq e => rv_eqI (ex_l e h1) (sq_of hq)
theorem ev_eqNV {q : Addr} {xs ys : List Int} (ha : EvL ta σ H (xs.map V.int)) (hb : Ev tb σ H (.ref q)) (h2 : SqL K H q (ys.map V.int)) : Ev (tOp (rEqD K) ta tb) σ H (.bl (decide (xs = ys))) := ev_opL1 ha (fun H1 e => hb.mono e) fun p H1 hp e => rv_eqI (sq_of hp) (ex_l e h2)
theorem ev_eqNN {xs ys : List Int} (ha : EvL ta σ H (xs.map V.int)) (hb : EvL tb σ H (ys.map V.int)) : Ev (tOp (rEqD K) ta tb) σ H (.bl (decide (xs = ys))) := ev_opLL ha hb fun p q H1 hp hq e => rv_eqI (sq_of hp) (sq_of hq)
theorem ev_neVV {p q : Addr} {xs ys : List Int} (ha : Ev ta σ H (.ref p)) (h1 : SqL K H p (xs.map V.int)) (hb : Ev tb σ H (.ref q)) (h2 : SqL K H q (ys.map V.int)) : Ev (tOp (rNeD K) ta tb) σ H (.bl (!decide (xs = ys))) := ev_op ha hb (rv_neI h1 h2)
theorem ev_neVN {p : Addr} {xs ys : List Int} (ha : Ev ta σ H (.ref p)) (h1 : SqL K H p (xs.map V.int)) (hb : EvL tb σ H (ys.map V.int)) : Ev (tOp (rNeD K) ta tb) σ H (.bl (!decide (xs = ys))) := ev_opL ha hb fun q H1 hq e => rv_neI (ex_l e h1) (sq_of hq)
theorem ev_neNV {q : Addr} {xs ys : List Int} (ha : EvL ta σ H (xs.map V.int)) (hb : Ev tb σ H (.ref q)) (h2 : SqL K H q (ys.map V.int)) : Ev (tOp (rNeD K) ta tb) σ H (.bl (!decide (xs = ys))) := ev_opL1 ha (fun H1 e => hb.mono e) fun p H1 hp e => rv_neI (sq_of hp) (ex_l e h2)
theorem ev_neNN {xs ys : List Int} (ha : EvL ta σ H (xs.map V.int)) (hb : EvL tb σ H (ys.map V.int)) : Ev (tOp (rNeD K) ta tb) σ H (.bl (!decide (xs = ys))) := ev_opLL ha hb fun p q H1 hp hq e => rv_neI (sq_of hp) (sq_of hq)
theorem elI {xs : List V} {ys : List Int} (h : EvL te σ H xs) (e : xs = ys.map V.int) : EvL te σ H (ys.map V.int) := by
  rw [← e]
  exact h
theorem el_is {xs ys : List V} (h : EvL te σ H xs) (e : xs = ys) : EvL te σ H ys := by
  rw [← e]
  exact h
/-! built-in calls -/
theorem ev_sumN {ns : List Int} (h : EvL ta σ H (ns.map V.int)) : Ev (tCB (rSum K) (tCons ta tNil)) σ H (.int ns.sum) := fun H1 e Q q =>
  h H1 e _ fun p H2 _ e2 hp => ⟨p, ns, rfl, sq_of hp, q H2 e2⟩
theorem ev_allN {bs : List Bool} (h : EvL ta σ H (bs.map V.bl)) : Ev (tCB (rAll K) (tCons ta tNil)) σ H (.bl (bs.all id)) := fun H1 e Q q =>
  h H1 e _ fun p H2 _ e2 hp => ⟨p, bs, rfl, sq_of hp, q H2 e2⟩
def rMin2 : List V → Hp → VK → Prop := fun xs H Q => ∃ i j, xs = [.int i, .int j] ∧ Q (.int (if j < i then j else i)) H
theorem ev_min2 {i j : Int} (ha : Ev ta σ H (.int i)) (hb : Ev tb σ H (.int j)) : Ev (tCB rMin2 (tCons ta (tCons tb tNil))) σ H (.int (if j < i then j else i)) := fun H1 e Q q =>
  ha H1 e _ fun H2 e2 => hb H2 (e.trans e2) _ fun H3 e3 => ⟨i, j, rfl, q H3 (e2.trans e3)⟩
def rInt1 : List V → Hp → VK → Prop := fun xs H Q => (∃ i, xs = [.int i] ∧ Q (.int i) H) ∨ ∃ k, xs = [.bl k] ∧ Q (.int (if k then 1 else 0)) H
theorem ev_intB {b : Bool} (ha : Ev ta σ H (.bl b)) : Ev (tCB rInt1 (tCons ta tNil)) σ H (.int (if b then 1 else 0)) := fun H1 e Q q =>
  ha H1 e _ fun H2 e2 => Or.inr ⟨b, rfl, q H2 e2⟩
def rAbs1 : List V → Hp → VK → Prop := fun xs H Q => ∃ i, xs = [.int i] ∧ Q (.int (if i < 0 then -i else i)) H
theorem ev_abs {i : Int} (ha : Ev ta σ H (.int i)) : Ev (tCB rAbs1 (tCons ta tNil)) σ H (.int (if i < 0 then -i else i)) := fun H1 e Q q =>
  ha H1 e _ fun H2 e2 => ⟨i, rfl, q H2 e2⟩
theorem ev_isI {T : String} {i : Int} {b : Bool} (ha : Ev ta σ H (.int i)) (hk : kitB "int" T = some b) : Ev (tCB (rIsi K) (tCons ta (tCons (tC (.ty T)) tNil))) σ H (.bl b) := fun H1 e Q q =>
  ha H1 e _ fun H2 e2 => ⟨.int i, .ty T, _, _, b, rfl, .ty T, .base (.int i), kit_ty hk, q H2 e2⟩
theorem ev_isB {T : String} {i : Bool} {b : Bool} (ha : Ev ta σ H (.bl i)) (hk : kitB "bool" T = some b) : Ev (tCB (rIsi K) (tCons ta (tCons (tC (.ty T)) tNil))) σ H (.bl b) := fun H1 e Q q =>
  ha H1 e _ fun H2 e2 => ⟨.bl i, .ty T, _, _, b, rfl, .ty T, .base (.bl i), kit_ty hk, q H2 e2⟩
theorem ev_isL {T : String} {p : Addr} {xs : List V} {b : Bool} (ha : Ev ta σ H (.ref p)) (h : H p = some (.lst xs)) (hk : kitB "list" T = some b) : Ev (tCB (rIsi K) (tCons ta (tCons (tC (.ty T)) tNil))) σ H (.bl b) := fun H1 e Q q =>
  ha H1 e _ fun H2 e2 => ⟨.ref p, .ty T, _, _, b, rfl, .ty T, .base (.lst (e2 p _ (e p _ h))), kit_ty hk, q H2 e2⟩
/-! chains, pairs -/
theorem ev_chain {r r' : R2} {tc : TE} {a b : Bool} {x y w : V} (ha : Ev ta σ H x) (hb : Ev tb σ H y) (hc : Ev tc σ H w) (h1 : RV r x y H (.bl a)) (h2 : a = true → RV r' y w H (.bl b)) : Ev (tChain r r' ta tb tc) σ H (.bl (a && b)) := fun H1 e Q q =>
  ha H1 e _ fun H2 e2 => hb H2 (e.trans e2) _ fun H3 e3 => h1 H3 ((e.trans e2).trans e3) _ fun H4 e4 => ⟨a, rfl, by
    have eh : Ex H1 H4 := (e2.trans e3).trans e4
    cases a with
    | true =>
      show tc σ H4 _
      exact hc H4 (e.trans eh) _ fun H5 e5 => h2 rfl H5 ((e.trans eh).trans e5) Q fun H6 e6 => q H6 ((eh.trans e5).trans e6)
    | false =>
      show Q (.bl false) H4
      exact q H4 eh⟩
theorem q_par {i j : Nat} {ta : TA} {v w : V} (h : EvA ta σ H [v, w]) (k : ∀ H1, Ex H H1 → tz D ((σ.set i (some v)).set j (some w)) H1) : tSeq (tPar i j ta) tz D σ H := h H (Ex.refl H) _ fun H1 e => ⟨v, w, rfl, k H1 e⟩
theorem s_par {i j : Nat} {ta : TA} {v w : V} (h : EvA ta σ H [v, w]) (k : ∀ H1, Ex H H1 → D.nx ((σ.set i (some v)).set j (some w)) H1) : tPar i j ta D σ H := h H (Ex.refl H) _ fun H1 e => ⟨v, w, rfl, k H1 e⟩
theorem q_par3 {i j l : Nat} {ta : TA} {u v w : V} (h : EvA ta σ H [u, v, w]) (k : ∀ H1, Ex H H1 → tz D (((σ.set i (some u)).set j (some v)).set l (some w)) H1) : tSeq (tPar3 i j l ta) tz D σ H := h H (Ex.refl H) _ fun H1 e => ⟨u, v, w, rfl, k H1 e⟩
/-- an item of a written tuple -/
theorem ev_opU1 {r : R2} {xs : List V} (ha : EvU ta σ H xs) (hb : Ev tb σ H y) (hr : ∀ p H1, H1 p = some (.tup xs) → Ex H H1 → RV r (.ref p) y H1 z) : Ev (tOp r ta tb) σ H z := fun H1 e Q q =>
  ha H1 e _ fun p H2 _ e2 hp => hb H2 (e.trans e2) _ fun H3 e3 => hr p H3 (e3 p _ hp) ((e.trans e2).trans e3) H3 (Ex.refl H3) Q fun H4 e4 => q H4 ((e2.trans e3).trans e4)
theorem ev_ixU {xs : List V} {i : Int} (ha : EvU ta σ H xs) (hb : Ev tb σ H (.int i)) (h : atI xs i = some v) : Ev (tOp (rIxT K) ta tb) σ H v := ev_opU1 ha hb fun p H1 hp _ => rv_ixT (st_of hp) h
theorem ev_ixN {xs : List V} {i : Int} (ha : EvL ta σ H xs) (hb : Ev tb σ H (.int i)) (h : atI xs i = some v) : Ev (tOp (rIxL K) ta tb) σ H v := ev_opL1 ha (fun H1 e => hb.mono e) fun p H1 hp _ => rv_ixL (sq_of hp) h
theorem ev_ixV {p : Addr} {xs : List V} {i : Int} (ha : Ev ta σ H (.ref p)) (hp : SqL K H p xs) (hb : Ev tb σ H (.int i)) (h : atI xs i = some v) : Ev (tOp (rIxL K) ta tb) σ H v := ev_op ha hb (rv_ixL hp h)
theorem ev_ixT {p : Addr} {xs : List V} {i : Int} (ha : Ev ta σ H (.ref p)) (hp : SqT K H p xs) (hb : Ev tb σ H (.int i)) (h : atI xs i = some v) : Ev (tOp (rIxT K) ta tb) σ H v := ev_op ha hb (rv_ixT hp h)
/-! a test that is known -/
theorem q_no {b : Bool} (h : EvT t σ H b) (e : b = false) (k : ∀ H1, Ex H H1 → tz D σ H1) : tSeq (tIfS t tu tNext) tz D σ H := q_when h (fun z => by rw [e] at z; cases z) fun _ => k
theorem s_no {b : Bool} (h : EvT t σ H b) (e : b = false) (k : ∀ H1, Ex H H1 → D.nx σ H1) : tIfS t tu tNext D σ H := s_when h (fun z => by rw [e] at z; cases z) fun _ => k
theorem q_yes {b : Bool} (h : EvT t σ H b) (e : b = true) (k : ∀ H1, Ex H H1 → tu { D with nx := tz D } σ H1) : tSeq (tIfS t tu tw) tz D σ H := q_if h (fun _ => k) (fun z => by rw [e] at z; cases z)
theorem q_else {b : Bool} (h : EvT t σ H b) (e : b = false) (k : ∀ H1, Ex H H1 → tw { D with nx := tz D } σ H1) : tSeq (tIfS t tu tw) tz D σ H := q_if h (fun z => by rw [e] at z; cases z) (fun _ => k)
end
end Bt
namespace Bt
open PySem PySem.Spec PyProof.Rows L2 Evl
/-! data of any depth that stands in the heap -/
mutual
inductive Dh (H : Hp) : V → PyData → Prop
  | non : Dh H .non .none
  | bl (b : Bool) : Dh H (.bl b) (.bool b)
  | int (i : Int) : Dh H (.int i) (.int i)
  | str (x : Str) : Dh H (.str x) (.str x)
  | lst {a : Addr} {xs : List V} {ds : List PyData} : H a = some (.lst xs) → DhAll H xs ds → Dh H (.ref a) (.list ds)
  | tup {a : Addr} {xs : List V} {ds : List PyData} : H a = some (.tup xs) → DhAll H xs ds → Dh H (.ref a) (.tuple ds)
inductive DhAll (H : Hp) : List V → List PyData → Prop
  | nil : DhAll H [] []
  | cons {v : V} {vs : List V} {d : PyData} {ds : List PyData} : Dh H v d → DhAll H vs ds → DhAll H (v :: vs) (d :: ds)
end
mutual
theorem Dh.mono {H H' : Hp} (e : Ex H H') : ∀ (d : PyData) (v : V), Dh H v d → Dh H' v d
  | .none, _, h => by cases h; exact .non
  | .bool b, _, h => by cases h; exact .bl b
  | .int i, _, h => by cases h; exact .int i
  | .str x, _, h => by cases h; exact .str x
  | .list ds, _, h => by
    cases h with
    | lst hs ha => exact .lst (e _ _ hs) (DhAll.mono e ds _ ha)
  | .tuple ds, _, h => by
    cases h with
    | tup hs ha => exact .tup (e _ _ hs) (DhAll.mono e ds _ ha)
  | .dict _, _, h => by cases h
theorem DhAll.mono {H H' : Hp} (e : Ex H H') : ∀ (ds : List PyData) (vs : List V), DhAll H vs ds → DhAll H' vs ds
  | [], _, h => by cases h; exact .nil
  | d :: ds, _, h => by
    cases h with
    | cons h1 h2 => exact .cons (Dh.mono e d _ h1) (DhAll.mono e ds _ h2)
end
mutual
theorem Dh.dp {K : PySem.W.Frag} {H : Hp} : ∀ (d : PyData) (v : V), Dh H v d → Dp K H v d
  | .none, _, h => by cases h; exact .non
  | .bool b, _, h => by cases h; exact .bl b
  | .int i, _, h => by cases h; exact .int i
  | .str x, _, h => by cases h; exact .str x
  | .list ds, _, h => by
    cases h with
    | lst hs ha => exact .lst (sq_of hs) (DhAll.dp ds _ ha)
  | .tuple ds, _, h => by
    cases h with
    | tup hs ha => exact .tup (st_of hs) (DhAll.dp ds _ ha)
  | .dict _, _, h => by cases h
theorem DhAll.dp {K : PySem.W.Frag} {H : Hp} : ∀ (ds : List PyData) (vs : List V), DhAll H vs ds → DpAll K H vs ds
  | [], _, h => by cases h; exact .nil
  | d :: ds, _, h => by
    cases h with
    | cons h1 h2 => exact .cons (Dh.dp d _ h1) (DhAll.dp ds _ h2)
end
theorem DhAll.length {H : Hp} : ∀ {ds : List PyData} {vs : List V}, DhAll H vs ds → vs.length = ds.length
  | [], _, h => by cases h; rfl
  | d :: ds, _, h => by
    cases h with
    | cons h1 h2 => rw [List.length_cons, List.length_cons, DhAll.length h2]
theorem DhAll.append {H : Hp} {es : List PyData} {us : List V} (h2 : DhAll H us es) : ∀ {ds : List PyData} {vs : List V}, DhAll H vs ds → DhAll H (vs ++ us) (ds ++ es)
  | [], _, h => by cases h; exact h2
  | d :: ds, _, h => by
    cases h with
    | cons h1 h3 => exact .cons h1 (DhAll.append h2 h3)
theorem DhAll.get {H : Hp} : ∀ {ds : List PyData} {vs : List V} {i : Nat} {v : V}, DhAll H vs ds → vs[i]? = some v → ∃ d, ds[i]? = some d ∧ Dh H v d
  | [], _, i, v, h, e => by cases h; simp at e
  | d :: ds, _, i, v, h, e => by
    cases h with
    | cons h1 h2 =>
      cases i with
      | zero =>
        simp at e
        subst e
        exact ⟨d, rfl, h1⟩
      | succ j =>
        simp at e
        obtain ⟨d', e', h'⟩ := DhAll.get h2 e
        exact ⟨d', by simpa using e', h'⟩
theorem DhAll.ints (H : Hp) : ∀ xs : List Int, DhAll H (xs.map V.int) (xs.map PyData.int)
  | [] => .nil
  | x :: r => .cons (.int x) (DhAll.ints H r)
theorem DhAll.bools (H : Hp) : ∀ xs : List Bool, DhAll H (xs.map V.bl) (xs.map PyData.bool)
  | [] => .nil
  | x :: r => .cons (.bl x) (DhAll.bools H r)
def EvD (te : TE) (σ : L2.St) (H : Hp) (d : PyData) : Prop := ∀ H1, Ex H H1 → ∀ Q : VK, (∀ v H2, Ex H1 H2 → Dh H2 v d → Q v H2) → te σ H1 Q
def EvDA (ta : TA) (σ : L2.St) (H : Hp) (ds : List PyData) : Prop := ∀ H1, Ex H H1 → ∀ Q : List V → Hp → Prop, (∀ vs H2, Ex H1 H2 → DhAll H2 vs ds → Q vs H2) → ta σ H1 Q
section
variable {K : PySem.W.Frag} {σ : L2.St} {H H' : Hp} {ta tb te tx : TE} {t u : TT} {x y z v : V} {D : Ends} {tu tw tz : TS} {g : TG} {d e : PyData}
theorem EvD.mono (e : Ex H H') (h : EvD te σ H d) : EvD te σ H' d := fun H1 a Q q => h H1 (e.trans a) Q q
theorem ed_int {i : Int} (h : Ev te σ H (.int i)) : EvD te σ H (.int i) := fun H1 e _ q => h H1 e _ fun H2 e2 => q _ H2 e2 (.int i)
theorem ed_bl {i : Bool} (h : Ev te σ H (.bl i)) : EvD te σ H (.bool i) := fun H1 e _ q => h H1 e _ fun H2 e2 => q _ H2 e2 (.bl i)
theorem ed_str {i : Str} (h : Ev te σ H (.str i)) : EvD te σ H (.str i) := fun H1 e _ q => h H1 e _ fun H2 e2 => q _ H2 e2 (.str i)
theorem ed_non (h : Ev te σ H .non) : EvD te σ H .none := fun H1 e _ q => h H1 e _ fun H2 e2 => q _ H2 e2 .non
theorem ed_val (h : Ev te σ H v) (hd : Dh H v d) : EvD te σ H d := fun H1 e _ q => h H1 e _ fun H2 e2 => q _ H2 e2 (Dh.mono (e.trans e2) _ _ hd)
theorem ed_ints {ns : List Int} (h : EvL te σ H (ns.map V.int)) : EvD te σ H (.list (ns.map PyData.int)) := fun H1 e _ q => h H1 e _ fun p H2 _ e2 hp => q _ H2 e2 (.lst hp (DhAll.ints H2 ns))
theorem ed_bools {ns : List Bool} (h : EvL te σ H (ns.map V.bl)) : EvD te σ H (.list (ns.map PyData.bool)) := fun H1 e _ q => h H1 e _ fun p H2 _ e2 hp => q _ H2 e2 (.lst hp (DhAll.bools H2 ns))
theorem eda_nil : EvDA tNil σ H [] := fun H1 _ _ q => q [] H1 (Ex.refl H1) .nil
theorem eda_cons {tr : TA} {ds : List PyData} (h : EvD ta σ H d) (hr : EvDA tr σ H ds) : EvDA (tCons ta tr) σ H (d :: ds) := fun H1 e _ q =>
  h H1 e _ fun v H2 e2 hv => hr H2 (e.trans e2) _ fun vs H3 e3 hvs => q _ H3 (e2.trans e3) (.cons (Dh.mono e3 _ _ hv) hvs)
theorem ed_lst {ta : TA} {ds : List PyData} (h : EvDA ta σ H ds) (hl : ds.length ≤ 100000) : EvD (tLst ta) σ H (.list ds) := fun H1 e _ q =>
  h H1 e _ fun vs H2 e2 hv => ⟨sz_of (by rw [hv.length]; exact hl), fun p hp => q _ _ (e2.trans (Ex.new hp)) (.lst upd_same (DhAll.mono (Ex.new hp) _ _ hv))⟩
theorem ed_tup {ta : TA} {ds : List PyData} (h : EvDA ta σ H ds) (hl : ds.length ≤ 100000) : EvD (tTup ta) σ H (.tuple ds) := fun H1 e _ q =>
  h H1 e _ fun vs H2 e2 hv => ⟨sz_of (by rw [hv.length]; exact hl), fun p hp => q _ _ (e2.trans (Ex.new hp)) (.tup upd_same (DhAll.mono (Ex.new hp) _ _ hv))⟩
theorem ed_cat {ds es : List PyData} (h1 : EvD ta σ H (.list ds)) (h2 : EvD tb σ H (.list es)) (hz : ds.length + es.length ≤ 100000) : EvD (tOp rCat ta tb) σ H (.list (ds ++ es)) := fun H1 e Q q =>
  h1 H1 e _ fun v H2 e2 hv => h2 H2 (e.trans e2) _ fun u H3 e3 hu => by
    have hv3 := Dh.mono e3 _ _ hv
    cases hv3 with
    | lst a1 b1 =>
      cases hu with
      | lst a2 b2 =>
        refine ⟨_, _, _, _, rfl, rfl, a1, a2, sz_of (by rw [b1.length, b2.length]; exact hz), fun p hp => q _ _ ((e2.trans e3).trans (Ex.new hp)) (.lst upd_same (DhAll.mono (Ex.new hp) _ _ (DhAll.append b2 b1)))⟩
theorem DhAll.rep {H : Hp} {vs : List V} {ds : List PyData} (h : DhAll H vs ds) : ∀ k, DhAll H (List.replicate k vs).flatten (List.replicate k ds).flatten
  | 0 => .nil
  | k + 1 => by
    rw [List.replicate_succ, List.replicate_succ, List.flatten_cons, List.flatten_cons]
    exact DhAll.append (DhAll.rep h k) h
theorem ed_rep {ds : List PyData} {k : Int} (h1 : EvD ta σ H (.list ds)) (h2 : Ev tb σ H (.int k)) (hk : 0 ≤ k ∧ k ≤ 1000) (hz : ds.length ≤ 100) : EvD (tOp rRep ta tb) σ H (.list (List.replicate k.toNat ds).flatten) := fun H1 e Q q =>
  h1 H1 e _ fun v H2 e2 hv => h2 H2 (e.trans e2) _ fun H3 e3 => by
    have hv3 := Dh.mono e3 _ _ hv
    cases hv3 with
    | lst a1 b1 =>
      refine ⟨_, _, _, rfl, rfl, a1, by omega, by omega, ?_, fun p hp => q _ _ ((e2.trans e3).trans (Ex.new hp)) (.lst upd_same (DhAll.mono (Ex.new hp) _ _ (DhAll.rep b1 _)))⟩
      rw [b1.length]
      have : ds.length * k.toNat ≤ 100 * 1000 := Nat.mul_le_mul hz (by omega)
      exact sz_of (by omega)
theorem ev_eqD (h1 : EvD ta σ H d) (h2 : EvD tb σ H e) (s1 : SeqAt.shaped d = true) (s2 : SeqAt.shaped e = true) : Ev (tOp (rEqD K) ta tb) σ H (.bl (PyData.eqv d e)) := fun H1 ex Q q =>
  h1 H1 ex _ fun v H2 e2 hv => h2 H2 (ex.trans e2) _ fun u H3 e3 hu => ⟨_, _, Dh.dp _ _ (Dh.mono e3 _ _ hv), Dh.dp _ _ hu, s1, s2, q H3 (e2.trans e3)⟩
theorem ev_neD (h1 : EvD ta σ H d) (h2 : EvD tb σ H e) (s1 : SeqAt.shaped d = true) (s2 : SeqAt.shaped e = true) : Ev (tOp (rNeD K) ta tb) σ H (.bl (!PyData.eqv d e)) := fun H1 ex Q q =>
  h1 H1 ex _ fun v H2 e2 hv => h2 H2 (ex.trans e2) _ fun u H3 e3 hu => ⟨_, _, Dh.dp _ _ (Dh.mono e3 _ _ hv), Dh.dp _ _ hu, s1, s2, q H3 (e2.trans e3)⟩
theorem q_asgD {i : Nat} (h : EvD te σ H d) (k : ∀ v H1, Ex H H1 → Dh H1 v d → tz D (σ.set i (some v)) H1) : tSeq (tAsg te (gName i)) tz D σ H := h H (Ex.refl H) _ fun v H1 e hv => k v H1 e hv
theorem s_asgD {i : Nat} (h : EvD te σ H d) (k : ∀ v H1, Ex H H1 → Dh H1 v d → D.nx (σ.set i (some v)) H1) : tAsg te (gName i) D σ H := h H (Ex.refl H) _ fun v H1 e hv => k v H1 e hv
/-- a for over data: the list stands as long as what is known stands -/
theorem q_forD {ds : List PyData} {tl : TE} (h : EvD tl σ H (.list ds)) (Pv : Nat → L2.St → Hp → Prop) (h0 : ∀ H1, Ex H H1 → Pv 0 σ H1) (hx : ∀ i σ' H', Pv i σ' H' → Ex H H')
    (hs : ∀ i v d' H0 σ' H', Ex H H0 → Ex H0 H' → ds[i]? = some d' → Dh H0 v d' → Pv i σ' H' → g v σ' H' fun σ2 H2 => tu { D with nx := fun σ3 H3 => Pv (i + 1) σ3 H3 ∧ Ex H0 H3, ct := fun σ3 H3 => Pv (i + 1) σ3 H3 ∧ Ex H0 H3, bk := tz D } σ2 H2)
    (hd : ∀ σ' H', Pv ds.length σ' H' → tz D σ' H') : tSeq (tFor (iList K tl) g tu) tz D σ H :=
  h H (Ex.refl H) _ fun v H0 e0 hv => by
    cases hv with
    | @lst a xs ds hl ha =>
      refine ⟨a, rfl, ⟨xs, sq_of hl⟩, for_list (D := { D with nx := tz D }) (fun i σ' H' => Pv i σ' H' ∧ Ex H0 H') ⟨h0 H0 e0, Ex.refl H0⟩ (fun i σ' H' _ q => sq_of (q.2 a _ hl)) (fun i x σ' H' hi q => ?_) (fun σ' H' q => ?_)⟩
      · obtain ⟨d', e', h'⟩ := DhAll.get ha hi
        exact hs i x d' H0 σ' H' e0 q.2 e' h' q.1
      · have := q.1
        rw [ha.length] at this
        exact hd σ' H' this
theorem q_forDT {ds : List PyData} {tl : TE} (h : EvD tl σ H (.tuple ds)) (Pv : Nat → L2.St → Hp → Prop) (h0 : ∀ H1, Ex H H1 → Pv 0 σ H1)
    (hs : ∀ i v d' H0 σ' H', Ex H H0 → Ex H0 H' → ds[i]? = some d' → Dh H0 v d' → Pv i σ' H' → g v σ' H' fun σ2 H2 => tu { D with nx := fun σ3 H3 => Pv (i + 1) σ3 H3 ∧ Ex H0 H3, ct := fun σ3 H3 => Pv (i + 1) σ3 H3 ∧ Ex H0 H3, bk := tz D } σ2 H2)
    (hd : ∀ σ' H', Ex H H' → Pv ds.length σ' H' → tz D σ' H') : tSeq (tFor (iTup K tl) g tu) tz D σ H :=
  h H (Ex.refl H) _ fun v H0 e0 hv => by
    cases hv with
    | @tup a xs ds hl ha =>
      refine ⟨a, rfl, ⟨xs, st_of hl⟩, for_tup (D := { D with nx := tz D }) (fun i σ' H' => Pv i σ' H' ∧ Ex H0 H') ⟨h0 H0 e0, Ex.refl H0⟩ (fun i σ' H' _ q => st_of (q.2 a _ hl)) (fun i x σ' H' hi q => ?_) (fun σ' H' q => ?_)⟩
      · obtain ⟨d', e', h'⟩ := DhAll.get ha hi
        exact hs i x d' H0 σ' H' e0 q.2 e' h' q.1
      · have := q.1
        rw [ha.length] at this
        exact hd σ' H' (e0.trans q.2) this
/-! range with a step -/
theorem q_forR3 {ta : TA} {j : Nat} {lo hi c : Int} {n : Nat} (h : EvA ta σ H [.int lo, .int hi, .int c]) (hr : RgC lo hi c n) (Pv : Nat → L2.St → Hp → Prop) (h0 : ∀ H1, Ex H H1 → Pv 0 σ H1)
    (hs : ∀ (i : Nat) σ' H', i < n → Pv i σ' H' → tu { D with nx := Pv (i + 1), ct := Pv (i + 1), bk := tz D } (σ'.set j (some (.int (lo + (i : Int) * c)))) H') (hd : ∀ σ' H', Pv n σ' H' → tz D σ' H') : tSeq (tFor (iRng3 ta) (gName j) tu) tz D σ H :=
  h H (Ex.refl H) _ fun H1 e => ⟨lo, hi, c, n, rfl, hr, for_rangeC (D := { D with nx := tz D }) Pv (h0 H1 e) hs hd⟩
theorem et_yes : EvT tYes σ H true := fun H1 _ _ q => q H1 (Ex.refl H1)
theorem given_all (n : Nat) (v : Nat → V) : given n (fun _ => true) v = (List.range n).map v := by
  unfold given
  rw [List.filter_eq_self.mpr (fun _ _ => rfl)]
end
theorem rg_two {M : Int} (h1 : 1 ≤ M) (h2 : M ≤ 12) : ∃ n, n ≤ 6 ∧ RgC 0 M 2 n := by
  obtain ⟨k, rfl⟩ := Int.eq_ofNat_of_zero_le (show 0 ≤ M by omega)
  have hk : k < 13 := by omega
  have hk1 : 1 ≤ k := by omega
  have key : ∀ i : Fin 13, 1 ≤ i.val → Builtin.Range.small 0 ((i.val : Nat) : Int) 2 = true ∧ (Builtin.Range.rangeSize 0 ((i.val : Nat) : Int) 2).toNat ≤ 6 ∧ Builtin.Range.rangeSize 0 ((i.val : Nat) : Int) 2 = (((Builtin.Range.rangeSize 0 ((i.val : Nat) : Int) 2).toNat : Nat) : Int) := by decide
  have := key ⟨k, hk⟩ hk1
  exact ⟨_, this.2.1, by decide, by decide, this.1, this.2.2⟩
theorem rg_three {M : Int} (h1 : 1 ≤ M) (h2 : M ≤ 6) : ∃ n, n ≤ 2 ∧ RgC 0 M 3 n := by
  obtain ⟨k, rfl⟩ := Int.eq_ofNat_of_zero_le (show 0 ≤ M by omega)
  have hk : k < 7 := by omega
  have hk1 : 1 ≤ k := by omega
  have key : ∀ i : Fin 7, 1 ≤ i.val → Builtin.Range.small 0 ((i.val : Nat) : Int) 3 = true ∧ (Builtin.Range.rangeSize 0 ((i.val : Nat) : Int) 3).toNat ≤ 2 ∧ Builtin.Range.rangeSize 0 ((i.val : Nat) : Int) 3 = (((Builtin.Range.rangeSize 0 ((i.val : Nat) : Int) 3).toNat : Nat) : Int) := by decide
  have := key ⟨k, hk⟩ hk1
  exact ⟨_, this.2.1, by decide, by decide, this.1, this.2.2⟩
end Bt
namespace Bt
open PySem PySem.Spec PyProof.Rows L2 Evl
section
variable {K : PySem.W.Frag} {σ : L2.St} {H H' : Hp} {ta tb te tx : TE} {t u : TT} {x y z v : V} {D : Ends} {tu tw tz : TS} {g : TG}
/-- a comprehension over range(a, b) -/
theorem el_lcR2 {ta : TA} {j : Nat} {vs : List Nat} {lo hi : Int} (f : Nat → Bool) (v : Nat → V) (h : EvA ta σ H [.int lo, .int hi]) (h0 : 0 ≤ lo ∧ lo < 2 ^ 60) (hn : hi ≤ lo + 40000) (hm : -40000 ≤ hi) (hw : ∀ x, wipe ((wipe σ vs).set j (some x)) vs = wipe σ vs)
    (ht : ∀ (i : Nat) H1, Ex H H1 → lo + (i : Int) < hi → EvT t ((wipe σ vs).set j (some (.int (lo + (i : Int))))) H1 (f i)) (he : ∀ (i : Nat) H1, Ex H H1 → lo + (i : Int) < hi → f i = true → Ev te ((wipe σ vs).set j (some (.int (lo + (i : Int))))) H1 (v i)) :
    EvL (tLc (iRng2 ta) (gName j) t te vs) σ H (given (hi - lo).toNat f v) := fun H0 e Q q => h H0 e _ fun H1 e1 => ⟨lo, hi, rfl, ⟨by omega, by omega, by omega, by omega⟩, fun Dl hD =>
  lc_range (lo := lo) (n := (hi - lo).toNat) (Cw H1 f v Dl) ⟨hD, Ex.new hD, upd_same⟩ (fun i H' hi' p => ⟨hw _, cw_turn p (by omega) (ht i H1 (e.trans e1) (by omega)) (fun hf => he i H1 (e.trans e1) (by omega) hf)⟩) (fun H' p => q Dl H' (fresh_back e1 p.1) (e1.trans p.2.1) p.2.2)⟩
/-- for i, x in enumerate(a list) -/
theorem q_forEn {ta : TA} {a : Addr} {xs : List V} {j l : Nat} (h : EvA ta σ H [.ref a]) (hx : SqL K H a xs) (Pv : Nat → L2.St → Hp → Prop) (h0 : ∀ H1, Ex H H1 → Pv 0 σ H1) (hl : ∀ i σ' H', Pv i σ' H' → SqL K H' a xs)
    (hs : ∀ (i : Nat) (x : V) σ' H' T, xs[i]? = some x → Pv i σ' H' → H' T = none → tu { D with nx := Pv (i + 1), ct := Pv (i + 1), bk := tz D } ((σ'.set j (some (.int (i : Int)))).set l (some x)) (upd H' T (.tup [.int (i : Int), x]))) (hd : ∀ σ' H', Pv xs.length σ' H' → tz D σ' H') :
    tSeq (tFor (iEnum K ta) (gTup K 2 (gCons (gName j) (gCons (gName l) gNil))) tu) tz D σ H :=
  h H (Ex.refl H) _ fun H1 e1 => ⟨a, xs, rfl, ex_l e1 hx, fun i m σ' H' => m = xs.length - i ∧ i ≤ xs.length ∧ Pv i σ' H', ⟨xs.length, by simp, Nat.zero_le _, h0 H1 e1⟩, fun i m σ' H' ⟨em, hi, p⟩ => by
    have hS := hl i σ' H' p
    by_cases hlt : i < xs.length
    · have gx : xs[i]? = some xs[i] := List.getElem?_eq_getElem hlt
      refine Or.inr ⟨⟨xs, xs[i], hS, gx⟩, Pv (i + 1), fun σ2 H2 p2 => ⟨xs.length - (i + 1), by omega, rfl, hlt, p2⟩, fun w H2 y => ?_⟩
      obtain ⟨T, x, rfl, nT, rfl, fx⟩ := y
      have gx2 := fx xs hS
      exact ⟨T, [.int (i : Nat), x], rfl, Or.inl (Or.inl upd_same), rfl, _, _, rfl, _, _, rfl, rfl, hs i x σ' H' T gx2 p nT⟩
    · have : i = xs.length := by omega
      subst this
      exact Or.inl ⟨⟨xs, hS, Nat.le_refl _⟩, hd σ' H' p⟩⟩
end
/-- a, b = a written tuple of constants -/
theorem q_asgT2 {K : PySem.W.Frag} {σ : L2.St} {H : Hp} {te : TE} {D : Ends} {tz : TS} {i j : Nat} {v w : V} (h : EvU te σ H [v, w]) (k : ∀ H1, Ex H H1 → tz D ((σ.set i (some v)).set j (some w)) H1) : tSeq (tAsg te (gTup K 2 (gCons (gName i) (gCons (gName j) gNil)))) tz D σ H :=
  h H (Ex.refl H) _ fun p H1 hp e hl => ⟨p, [v, w], rfl, st_of hl, rfl, v, [w], rfl, w, [], rfl, rfl, k H1 e⟩
theorem cut_from (xs : List V) {i : Int} (h : 0 ≤ i) : cutV xs (some i) none = xs.drop i.toNat := by
  obtain ⟨k, rfl⟩ := Int.eq_ofNat_of_zero_le h
  unfold cutV
  rw [show HT.sIx xs.length 0 (some ((k : Nat) : Int)) = min k xs.length from HT.sIx_nat xs.length 0 k, HT.sIx_none, Int.toNat_natCast]
  rcases Nat.le_total k xs.length with z | z
  · rw [Nat.min_eq_left z]
    exact List.take_of_length_le (by rw [List.length_drop]; omega)
  · rw [Nat.min_eq_right z, List.drop_length, List.drop_eq_nil_of_le z, List.take_nil]
theorem cut_to (xs : List V) {i : Int} (h : 0 ≤ i) : cutV xs none (some i) = xs.take i.toNat := by
  obtain ⟨k, rfl⟩ := Int.eq_ofNat_of_zero_le h
  unfold cutV
  rw [show HT.sIx xs.length xs.length (some ((k : Nat) : Int)) = min k xs.length from HT.sIx_nat xs.length xs.length k, HT.sIx_none, Int.toNat_natCast, List.drop_zero, Nat.sub_zero]
  rcases Nat.le_total k xs.length with z | z
  · rw [Nat.min_eq_left z]
  · rw [Nat.min_eq_right z, List.take_length, List.take_of_length_le z]
end Bt
/-! defs that are run where no text of an object is being made (no guard stands): what str(a list) wants to know -/
namespace Bt
open PySem PySem.Spec PyProof.Rows L2 Evl
structure FnG (P : Program) (w : World) (K : PySem.W.Frag) (mg : Str → Option Value) (B : Heap) (C : CXT) (k : Nat) (f : Addr) (fd : FuncData) (ps : List Str) (sp : Sp) : Prop where
  len : ∀ vs H Q E, sp vs H Q E → vs.length = ps.length
  go : ∀ (A : Around) (out : List Env) (s : Shared) (H : Hp) (args : Args) (us : List Value) (vs : List V) (Q : VK) (E : XK), A.guards = some [] → Room k A → Env0 P w K mg B A out s H →
    BindsTo s fd args (ps.zip us) → Vals vs us → sp vs H Q E → codeAny (model P w) A (.call (.ref f) args) (CR C out P w H s Q E) s
section
variable {P : Program} {w : World} {K : PySem.W.Frag} {mg : Str → Option Value} {B : Heap} {C : CXT}
theorem fnG_of {k : Nat} {f : Addr} {nm ql : Str} {pa : Arguments} {bd : List Stmt} {sc : Scope} {dV kV dc pm cv ct oc : Value} {an od : Option Addr} {os : Array (Option Value)} {N ps : List Str} {sp : Sp}
    (lk : K.lookup f = some ⟨oc, od, .func (PySem.W.fnOf nm ql pa bd sc dV kV dc pm an cv ct), os⟩) (hcd : PySem.W.codeIn K cv ql = true) (S : FnScope N ps sc) (len : ∀ vs H Q E, sp vs H Q E → vs.length = ps.length)
    (body : ∀ (A : Around) (out : List Env) (s : Shared) (H : Hp) (vs : List V) (Q : VK) (E : XK), A.guards = some [] → Room k (A.deeper (envOfC ql sc s.heap.objs.size f cv)) → sp vs H Q E →
      ∃ t, PSs (cxOf C P w K mg B N ql sc f cv A out s H E) bd t ∧ t { nx := fun _ H' => Q .non H', rt := Q } (start N vs) H) :
    FnG P w K mg B C (k + 1) f (PySem.W.fnOf nm ql pa bd sc dV kV dc pm an cv ct) ps sp := by
  constructor
  · exact len
  · intro A out s H args us vs Q E hG hr e0 hb r hsp
    have kin : K.In s.heap := e0.mod.kin.keeps fun b o e => (e0.bs b o e).1
    have nol : s.heap.NoLimit := e0.mod.nolimit.keeps fun b o e => (e0.bs b o e).1
    have kinds : ∀ y ∈ ps.zip us, sc.names.lookup y.1 = some .local ∨ (sc.names.lookup y.1 = some .cell ∧ ((cellsFrom (s.heap.objs.size + 1) sc.names []).lookup y.1).isSome = true) := by
      rintro ⟨n, v⟩ hy
      cases S.par n (List.of_mem_zip hy).1 with
      | inl q => exact Or.inl q
      | inr q => exact Or.inr ⟨q, PySem.W.cellsFrom_some _ _ _ (Or.inl q)⟩
    apply codeAny_call_function hr.depth (kin _ _ lk) rfl S.co S.gen rfl (PySem.W.codeRec_of kin hcd)
    apply hb
    apply wpAny_newFunctionEnv_cells S.kind kinds
    intro env he s1 x
    subst he
    refine ⟨nol.keeps x.toInCall.keep, codeAny_func ?_⟩
    obtain ⟨t, ht, hq⟩ := body A out s H vs Q E hG (hr.deeper _) hsp
    have J : Inv (cxOf C P w K mg B N ql sc f cv A out s H E) [] (start N vs) H s1 := inv_start S hr.hd e0 (len _ _ _ _ hsp) r x
    refine wpAny_mono (ht.run [] s1 (start N vs) H _ J hq) (fun fl s' hs => ?_) (fun _ _ hs => hs)
    cases fl with
    | ret u =>
      obtain ⟨v, σ', H', I2, rv, q⟩ := hs
      exact ⟨v, H', I2.os, I2.bare, I2.base, I2.hok, rv, q⟩
    | next =>
      obtain ⟨σ', H', I2, q⟩ := hs
      exact ⟨V.non, H', I2.os, I2.bare, I2.base, I2.hok, rfl, q⟩
    | brk =>
      obtain ⟨_, _, _, q⟩ := hs
      cases q
    | cont =>
      obtain ⟨_, _, _, q⟩ := hs
      cases q
theorem okG {x ql : Str} {st : Stmt} {f : Addr} {fd : FuncData} {N ps : List Str} {k : Nat} {sp : Sp} (F : Fun K x ql st f fd) (S : FnScope N ps (defScope st)) (len : ∀ vs H Q E, sp vs H Q E → vs.length = ps.length)
    (body : ∀ (cv : Value) (A : Around) (out : List Env) (s : Shared) (H : Hp) (vs : List V) (Q : VK) (E : XK), A.guards = some [] → Room k (A.deeper (envOfC ql (defScope st) s.heap.objs.size f cv)) → sp vs H Q E →
      ∃ t, PSs (cxOf CX0 P w K mg B N ql (defScope st) f cv A out s H E).nox (defBody st) t ∧ t { nx := fun _ H' => Q .non H', rt := Q } (start N vs) H) : FnG P w K mg B CX0 (k + 1) f fd ps sp := by
  obtain ⟨oc, od, kV, dc, pm, an, cv, ct, os, rfl, lk, hcd⟩ := F.ex
  refine fnG_of lk hcd S len fun A out s H vs Q E hG hr hsp => ?_
  obtain ⟨t, h, q⟩ := body cv A out s H vs Q E hG hr hsp
  exact ⟨t, h.nox, q⟩
/-- the same for a def that may raise -/
theorem okGX {x ql : Str} {st : Stmt} {f : Addr} {fd : FuncData} {N ps : List Str} {k : Nat} {sp : Sp} (F : Fun K x ql st f fd) (S : FnScope N ps (defScope st)) (len : ∀ vs H Q E, sp vs H Q E → vs.length = ps.length)
    (body : ∀ (cv : Value) (A : Around) (out : List Env) (s : Shared) (H : Hp) (vs : List V) (Q : VK) (E : XK), A.guards = some [] → Room k (A.deeper (envOfC ql (defScope st) s.heap.objs.size f cv)) → sp vs H Q E →
      ∃ t, PSs (cxOf (L2.CX P w) P w K mg B N ql (defScope st) f cv A out s H E) (defBody st) t ∧ t { nx := fun _ H' => Q .non H', rt := Q } (start N vs) H) : FnG P w K mg B (L2.CX P w) (k + 1) f fd ps sp := by
  obtain ⟨oc, od, kV, dc, pm, an, cv, ct, os, rfl, lk, hcd⟩ := F.ex
  exact fnG_of lk hcd S len fun A out s H vs Q E hG hr hsp => body cv A out s H vs Q E hG hr hsp
end
section
variable {X : Cx} {C : CXT} {k : Nat} {f : Addr} {fd : FuncData} {ps : List Str} {sp : Sp} {E : XK} {x : Str} {p pos : Pos} {e : Expr} {es : List Expr} {t : TA}
/-- f(..) of such a def -/
theorem pe_callG (hG : X.A.guards = some []) (F : FnG X.prog X.w X.K X.mg X.base C k f fd ps sp) (hr : Room k X.A) (hg : Gl X x) (hm : X.mg x = some (.ref f)) (hk : PySem.W.keepIn X.K (.ref f) = true) (hb : Binds X.K fd ps []) (hx : Passes C X E)
    (ha : PA X (e :: es) t) (hdb : (x == ("__debug__" : Str)) = false := by decide) (he : starEach (e :: es) X.env = (false, eval e X.env) :: starEach es X.env := by rfl) (hpl : (backTo pos (starEach es X.env)).any (·.1) = false := by rfl) :
    PE X (.Call (.Name x p) (e :: es) [] pos) (tCall sp [] E t) := by
  constructor
  intro pins s σ H Q I h
  apply wpAny_Call_Name_kw
  apply ld_glob I hg hm ?_ hdb
  apply PySem.W.callWith_K (h₀ := X.base) I.ok.mod.kin hk ?_ he hpl
  refine thn (ha.run pos pins s σ H _ I h) fun us s1 ⟨vs, H1, I1, r, q⟩ => ⟨I1.kIn, ?_⟩
  have q' : sp vs H1 Q E := by
    have z := q
    dsimp only at z
    rw [List.append_nil] at z
    exact z
  have hl : us.length = ps.length := by
    rw [← Paired.length r]
    exact F.len _ _ _ _ q'
  have hb' := hb s1 us I1.kIn (by rw [List.append_nil]; exact hl)
  rw [List.append_nil] at hb'
  refine wpAny_call (codeAny_mono (F.go X.A X.stack s1 H1 ⟨us, []⟩ us vs Q E hG hr I1.env0 hb' r q') fun r' s' hq => ?_)
  cases r' with
  | error ex => exact hx pins σ H1 s1 ex s' I1 hq
  | ok fl =>
    cases fl with
    | ret u => exact I1.after hq
    | next => cases hq
    | brk => cases hq
    | cont => cases hq
/-! str of a list or tuple of plain data -/
def rStrD (K : PySem.W.Frag) : List V → Hp → VK → Prop := fun xs H Q => ∃ (p : Addr) (d : PyData), xs = [.ref p] ∧ Dp K H (.ref p) d ∧ d.showable = true ∧ d.hasDict = false ∧ d.depth ≤ 64 ∧ d.shown.length ≤ sizeLine ∧ Q (.str d.shown) H
theorem call_strD (hG : X.A.guards = some []) (hu : X.A.units + 100 < cLine) : CallR X (.type "str") (rStrD X.K) := by
  intro pins s σ H xs us Q I r h
  obtain ⟨p, d, rfl, hd, h1, h2, h3, h4, q⟩ := h
  rw [Vals.ref1 r]
  obtain ⟨as, rd⟩ := Dp.reads I d (.ref p) (.ref p) hd rfl
  refine str_of_reads rd h1 (fun z => by rw [h2] at z; cases z) hG (by omega) (fun b o e => e) (fun h' u tk hk => ?_) h4
  exact ⟨.str d.shown, H, I.kept hk, ⟨u, rfl⟩, q⟩
end


/-! the law's end over such a def -/
theorem law_callG {P : Program} {w : World} {K : PySem.W.Frag} {mg mb : Str → Option Value} {C : CXT} {k : Nat} {fa a : Addr} {fd : FuncData} {x : Str} {sp : Sp} {s : Shared} {vs : List Value} {ns : List Int}
    (kin : K.In s.heap) (hns : s.heap.Ns mainGlobals mg) (hb : s.heap.Ns builtinsNs mb) (hbb : ∀ x : Str, x ≠ "__name__" → mb x = bootBuiltins x) (nol : s.heap.NoLimit) (gens : s.gens = #[])
    (ha : s.heap.get? a = some { cls := .type "list", data := .seq vs.toArray }) (hi : IntsAre vs ns) (hl : ns.length ≤ sizeLine) (hr : Room k callerA)
    (F : ∀ B : Heap, K.In B → B.Ns mainGlobals mg → FnG P w K mg B C k fa fd [x] sp) (bd : ∀ (s : Shared) (u : Value), BindsTo s fd ⟨[u], []⟩ [(x, u)])
    (hsp : ∀ H : Hp, Only H → SqL K H a (ns.map V.int) → sp [.ref a] H (fun v _ => v = .bl true) fun _ _ _ => False) (hC : ∀ H e s', C [] H s (fun _ _ _ => False) e s' → False) :
    codeAny (model P w) callerA (.call (.ref fa) ⟨[.ref a], []⟩) (fun r s' => r = .ok (.ret (.bool true)) ∧ OldK s.heap s'.heap ∧ s'.os = s.os ∧ AllBare s'.gens) s := by
  have main : ∀ H : Hp, Only H → SqL K H a (ns.map V.int) → HOk P w H s.heap → (∀ b, H b ≠ none → b = a ∧ K.lookup b = none) →
      codeAny (model P w) callerA (.call (.ref fa) ⟨[.ref a], []⟩) (fun r s' => r = .ok (.ret (.bool true)) ∧ OldK s.heap s'.heap ∧ s'.os = s.os ∧ AllBare s'.gens) s := by
    intro H only hS hok hA
    have other : ∀ {b : Addr}, b ≠ a → H b = none := fun {b} z => by
      cases q : H b with
      | none => rfl
      | some u => exact absurd (hA b (by rw [q]; simp)).1 z
    have nsB : ∀ {b : Addr} {m : Str → Option Value}, s.heap.Ns b m → (hidT s.heap H).Ns b m := by
      rintro b m ⟨o, es, ep, e, d, r⟩
      refine ⟨o, es, ep, hidT_get e (other ?_), d, r⟩
      rintro rfl
      rw [ha] at e
      cases e
      cases (show Data.seq vs.toArray _ = Data.dict es ep from d)
    have kinB : K.In (hidT s.heap H) := fun b o e => hidT_get (kin b o e) (by
      cases q : H b with
      | none => rfl
      | some u =>
        have z := (hA b (by rw [q]; simp)).2
        rw [e] at z
        cases z)
    have modB : Mod K mg (hidT s.heap H) := by
      obtain ⟨mc, n1, n2⟩ := nol
      exact ⟨kinB, nsB hns, ⟨mb, nsB hb, hbb⟩, ⟨mc, nsB n1, n2⟩⟩
    have e0 : Env0 P w K mg (hidT s.heap H) callerA [] s H := by
      refine ⟨rfl, modB, fun b o e => of_hidT e, Nat.le_of_eq (hidT_size _ _), trivial, fun b hb => ?_, hok, AllBare.of_eq gens⟩
      cases (show b ∈ ([] : List Addr) from hb)
    refine codeAny_mono ((F _ kinB (nsB hns)).go callerA [] s H ⟨[.ref a], []⟩ [.ref a] [.ref a] _ _ rfl hr e0 (bd s (.ref a)) (Paired.cons rfl .nil) (hsp H only hS)) fun r s' h => ?_
    cases r with
    | error e => exact (hC H e s' h).elim
    | ok fl =>
      cases fl with
      | ret u =>
        obtain ⟨v, H', os, bare, un, hok', rv, q⟩ := h
        obtain rfl : v = .bl true := q
        obtain rfl : u = Value.bool true := rv
        refine ⟨rfl, OldK.of_keep fun b o e => ?_, os, bare⟩
        cases q : H b with
        | none =>
          refine un.keep b o e q (fun z => ?_) (fun z => ?_)
          · cases (show b ∈ ([] : List Addr) from z)
          · cases z
        | some u =>
          cases only b with
          | inl z =>
            rw [q] at z
            cases z
          | inr z =>
            obtain ⟨ob, xs, z⟩ := z
            have e1 := (hok b _ z).1
            have e2 := (hok' b _ (un.frzs b ob _ z)).1
            rw [e] at e1
            cases e1
            exact e2
      | next => cases h
      | brk => cases h
      | cont => cases h
  have rv := vals_ints hi
  have lv := hi.length
  by_cases hk : K.lookup a = none
  · let H : Hp := fun b => if b = a then some (.frz { cls := .type "list", data := .seq vs.toArray } (.lst (ns.map V.int))) else none
    have Ha : H a = some (.frz { cls := .type "list", data := .seq vs.toArray } (.lst (ns.map V.int))) := if_pos rfl
    have Hb : ∀ b, b ≠ a → H b = none := fun b z => if_neg z
    refine main H (fun b => ?_) (Or.inl (Or.inr ⟨_, Ha⟩)) (fun b u z => ?_) (fun b z => ?_)
    · by_cases e : b = a
      · exact Or.inr ⟨_, _, by rw [e]; exact Ha⟩
      · exact Or.inl (Hb b e)
    · by_cases e : b = a
      · subst e
        rw [Ha] at z
        cases z
        exact ⟨ha, by rw [List.length_map]; exact hl, vs, _, rv, ha⟩
      · rw [Hb b e] at z
        cases z
    · by_cases e : b = a
      · exact ⟨e, by rw [e]; exact hk⟩
      · exact absurd (Hb b e) z
  · obtain ⟨o, ho⟩ := Option.ne_none_iff_exists'.mp hk
    have e := kin a o ho
    rw [ha] at e
    cases e
    refine main (fun _ => none) (fun _ => Or.inl rfl) (Or.inr ⟨_, vs.toArray, _, ho, rfl, rfl, rfl, ?_, ?_⟩) (fun b u z => ?_) (fun b z => absurd rfl z)
    · rw [List.size_toArray, lv]
      exact hl
    · simpa using rv
    · cases (show (none : Option HO) = some u from z)
theorem walk_ofG {l : PySem.W.OpenLaw} {n k : Nat} {q : Program} {loose : List Str} {XP : (Str → Option Value) → Heap → Prop} {YP : World → Heap → Prop} {d : DefRec} {K : Params → PySem.W.Frag} {C : World → CXT} {sp : World → Sp} {x : Str}
    (hn : l.most = some n) (hn2 : n ≤ sizeLine) (hdf : d.params.defaults = []) (hr : Room k callerA) (hY : ∀ (w : World) (h : Heap), YP w h → (K w.params).In h)
    (F : ∀ (w : World) (mg : Str → Option Value) (fa : Addr) (h : Heap), (K w.params).In h → h.Ns mainGlobals mg → mg d.name = some (.ref fa) →
      ∃ fd : FuncData, (∀ (s : Shared) (u : Value), BindsTo s fd ⟨[u], []⟩ [(x, u)]) ∧ ∀ B : Heap, (K w.params).In B → B.Ns mainGlobals mg → FnG l.prog w (K w.params) mg B (C w) k fa fd [x] (sp w))
    (hsp : ∀ (w : World) (H : Hp) (a : Addr) (ns : List Int), ns.length ≤ n → (∀ z ∈ ns, Builtin.Int.intBits z ≤ 1048576) → Only H → SqL (K w.params) H a (ns.map V.int) → sp w [.ref a] H (fun v _ => v = .bl true) fun _ _ _ => False)
    (hC : ∀ (w : World) (H : Hp) (s : Shared) (e : Value) (s' : Shared), C w [] H s (fun _ _ _ => False) e s' → False) :
    PySem.W.WalkO q loose XP YP l.row.toRowW d [] (fun f vs => PySem.call f vs) := by
  apply Att.attach_callB hn hdf
  intro w s0 s1 mg mb fa o pm cd doc a vs ns G Y ho hd hcd hmg hobj hints hlen hbits hg
  obtain ⟨fd, hb, hF⟩ := F w mg fa _ (hY w _ Y) G.T.g hmg
  exact law_callG (hY w _ Y) G.T.g G.T.b G.T.builtins G.T.nolimit hg hobj hints (Nat.le_trans hlen hn2) hr hF hb (fun H hO hS => hsp w H a ns hlen hbits hO hS) fun H e s' => hC w H s1 e s'
/-! readings -/
section
variable {K : PySem.W.Frag} {σ : L2.St} {H : Hp} {ta : TE} {d : PyData}
theorem ev_strD (h : EvD ta σ H d) (h0 : ∀ H1 v, Dh H1 v d → ∃ p, v = .ref p) (h1 : d.showable = true) (h2 : d.hasDict = false) (h3 : d.depth ≤ 64) (h4 : d.shown.length ≤ sizeLine) : Ev (tCB (rStrD K) (tCons ta tNil)) σ H (.str d.shown) := fun H1 e Q q =>
  h H1 e _ fun v H2 e2 hv => by
    obtain ⟨p, rfl⟩ := h0 H2 v hv
    exact ⟨p, d, rfl, Dh.dp _ _ hv, h1, h2, h3, h4, q H2 e2⟩
theorem dh_ref {H : Hp} {v : V} {ds : List PyData} (h : Dh H v (.list ds)) : ∃ p, v = .ref p := by
  cases h with
  | lst a b => exact ⟨_, rfl⟩
theorem dh_refT {H : Hp} {v : V} {ds : List PyData} (h : Dh H v (.tuple ds)) : ∃ p, v = .ref p := by
  cases h with
  | tup a b => exact ⟨_, rfl⟩
end
theorem hu100 {k : Nat} {A : Around} (hr : Room k A) : A.units + 100 < cLine := by
  have := hr.un
  omega
theorem log_small {i : Int} (h : i.natAbs < 10 ^ 100) : i.natAbs.log2 < 1920 := by
  have h2 : i.natAbs < 2 ^ 1920 := Nat.lt_of_lt_of_le h (by
    have e : (10 : Nat) ^ 100 ≤ 2 ^ 400 := by decide +kernel
    exact Nat.le_trans e (Nat.pow_le_pow_right (by decide) (by decide)))
  exact log2_small h2
theorem int_len {i : Int} (h : i.natAbs < 10 ^ 100) : (PyData.shown (.int i)).length ≤ 101 := by
  have e := int_text_length_le10 (k := 100) (by decide) h
  show (Str.ofString (toString i)).length ≤ 101
  rw [PySem.ofString_length]
  exact e
theorem ev_str1 {K : PySem.W.Frag} {σ : L2.St} {H : Hp} {ta : TE} {i : Int} (h : Ev ta σ H (.int i)) (hi : i.natAbs < 10 ^ 100) : Ev (tCB (rStrD K) (tCons (tLst (tCons ta tNil)) tNil)) σ H (.str (PyData.list [.int i]).shown) := by
  refine ev_strD (ed_lst (eda_cons (ed_int h) eda_nil) (by simp)) (fun H1 v hv => dh_ref hv) ?_ rfl (by simp [PyData.depth, PyData.depthAll]) ?_
  · simp only [PyData.showable, PyData.showableAll, Bool.and_true, decide_eq_true_eq]
    exact log_small hi
  · have h1 := listText_len_le [PyData.shown (.int i)]
    have h2 := int_len hi
    simp only [PyData.shown, PyData.shownAll, List.map_cons, List.map_nil, List.sum_cons, List.sum_nil, List.length_cons, List.length_nil] at h1 h2 ⊢
    have : (200 : Nat) ≤ sizeLine := by decide
    omega
theorem ev_str2 {K : PySem.W.Frag} {σ : L2.St} {H : Hp} {ta tb : TE} {i j : Int} (h : Ev ta σ H (.int i)) (h' : Ev tb σ H (.int j)) (hi : i.natAbs < 10 ^ 100) (hj : j.natAbs < 10 ^ 100) : Ev (tCB (rStrD K) (tCons (tTup (tCons ta (tCons tb tNil))) tNil)) σ H (.str (PyData.tuple [.int i, .int j]).shown) := by
  refine ev_strD (ed_tup (eda_cons (ed_int h) (eda_cons (ed_int h') eda_nil)) (by simp)) (fun H1 v hv => dh_refT hv) ?_ rfl (by simp [PyData.depth, PyData.depthAll]) ?_
  · simp only [PyData.showable, PyData.showableAll, Bool.and_true, Bool.and_eq_true, decide_eq_true_eq]
    exact ⟨log_small hi, log_small hj⟩
  · have h1 := tupleText_len_le [PyData.shown (.int i), PyData.shown (.int j)]
    have h2 := int_len hi
    have h3 := int_len hj
    simp only [PyData.shown, PyData.shownAll, List.map_cons, List.map_nil, List.sum_cons, List.sum_nil, List.length_cons, List.length_nil] at h1 h2 h3 ⊢
    have : (400 : Nat) ≤ sizeLine := by decide
    omega
end Bt
namespace Bt
open PySem PySem.Spec PyProof.Rows L2 Evl
/-- str of a pair of ints that stands -/
theorem ev_strT {K : PySem.W.Frag} {σ : L2.St} {H : Hp} {ta : TE} {p : Addr} {i j : Int} (h : Ev ta σ H (.ref p)) (hp : H p = some (.tup [.int i, .int j])) (hi : i.natAbs < 10 ^ 100) (hj : j.natAbs < 10 ^ 100) : Ev (tCB (rStrD K) (tCons ta tNil)) σ H (.str (PyData.tuple [.int i, .int j]).shown) := by
  refine ev_strD (ed_val h (.tup hp (.cons (.int i) (.cons (.int j) .nil)))) (fun H1 v hv => dh_refT hv) ?_ rfl (by simp [PyData.depth, PyData.depthAll]) ?_
  · simp only [PyData.showable, PyData.showableAll, Bool.and_true, Bool.and_eq_true, decide_eq_true_eq]
    exact ⟨log_small hi, log_small hj⟩
  · have h1 := tupleText_len_le [PyData.shown (.int i), PyData.shown (.int j)]
    have h2 := int_len hi
    have h3 := int_len hj
    simp only [PyData.shown, PyData.shownAll, List.map_cons, List.map_nil, List.sum_cons, List.sum_nil, List.length_cons, List.length_nil] at h1 h2 h3 ⊢
    have : (400 : Nat) ≤ sizeLine := by decide
    omega
end Bt
namespace Bt
open PySem PySem.Spec PyProof.Rows L2 Evl
/-! loops over new tuples and lists of ints -/
section
variable {K : PySem.W.Frag} {σ : L2.St} {H H' : Hp} {ta tb te tx : TE} {t u : TT} {x y z v : V} {D : Ends} {tu tw tz : TS} {g : TG}
theorem q_forUI {ns : List Int} {tl : TE} {j : Nat} (h : EvU tl σ H (ns.map V.int)) (Pv : Nat → L2.St → Hp → Prop) (h0 : ∀ H1, Ex H H1 → Pv 0 σ H1)
    (hs : ∀ i n H0 σ' H', Ex H H0 → Ex H0 H' → n ∈ ns → Pv i σ' H' → tu { D with nx := fun σ3 H3 => Pv (i + 1) σ3 H3 ∧ Ex H0 H3, ct := fun σ3 H3 => Pv (i + 1) σ3 H3 ∧ Ex H0 H3, bk := tz D } (σ'.set j (some (.int n))) H')
    (hd : ∀ σ' H', Ex H H' → Pv ns.length σ' H' → tz D σ' H') : tSeq (tFor (iTup K tl) (gName j) tu) tz D σ H :=
  h H (Ex.refl H) _ fun p H0 hp e0 hl => ⟨p, rfl, ⟨_, st_of hl⟩, for_tup (D := { D with nx := tz D }) (fun i σ' H' => Pv i σ' H' ∧ Ex H0 H') ⟨h0 H0 e0, Ex.refl H0⟩ (fun i σ' H' _ q => st_of (q.2 p _ hl)) (fun i x σ' H' hi q => by
    rw [List.getElem?_map] at hi
    obtain ⟨n, hn, rfl⟩ := Option.map_eq_some_iff.mp hi
    exact hs i n H0 σ' H' e0 q.2 (List.mem_of_getElem? hn) q.1) (fun σ' H' q => by
    have := q.1
    rw [List.length_map] at this
    exact hd σ' H' (e0.trans q.2) this)⟩
theorem q_forLI {ns : List Int} {tl : TE} {j : Nat} (h : EvL tl σ H (ns.map V.int)) (Pv : Nat → L2.St → Hp → Prop) (h0 : ∀ H1, Ex H H1 → Pv 0 σ H1)
    (hs : ∀ i n H0 σ' H', Ex H H0 → Ex H0 H' → n ∈ ns → Pv i σ' H' → tu { D with nx := fun σ3 H3 => Pv (i + 1) σ3 H3 ∧ Ex H0 H3, ct := fun σ3 H3 => Pv (i + 1) σ3 H3 ∧ Ex H0 H3, bk := tz D } (σ'.set j (some (.int n))) H')
    (hd : ∀ σ' H', Ex H H' → Pv ns.length σ' H' → tz D σ' H') : tSeq (tFor (iList K tl) (gName j) tu) tz D σ H :=
  h H (Ex.refl H) _ fun p H0 hp e0 hl => ⟨p, rfl, ⟨_, sq_of hl⟩, for_list (D := { D with nx := tz D }) (fun i σ' H' => Pv i σ' H' ∧ Ex H0 H') ⟨h0 H0 e0, Ex.refl H0⟩ (fun i σ' H' _ q => sq_of (q.2 p _ hl)) (fun i x σ' H' hi q => by
    rw [List.getElem?_map] at hi
    obtain ⟨n, hn, rfl⟩ := Option.map_eq_some_iff.mp hi
    exact hs i n H0 σ' H' e0 q.2 (List.mem_of_getElem? hn) q.1) (fun σ' H' q => by
    have := q.1
    rw [List.length_map] at this
    exact hd σ' H' (e0.trans q.2) this)⟩
end
/-! errors of own classes: raised, caught, looked at -/
def RaX (c : Addr) (H : Hp) (E : XK) : Prop := ∀ H2, Ex H H2 → E (.ref c) none H2
def SpX (sp : Sp) (vs : List V) (H : Hp) (c : Addr) : Prop := ∀ H1, Ex H H1 → ∀ (Q : VK) (E : XK), RaX c H1 E → sp vs H1 Q E
def rIsE2 (K : PySem.W.Frag) (cls : Value) (d : Option Addr) (a : Addr) : List V → Hp → VK → Prop := fun xs H Q => ∃ (D : Addr) (c : V) (cv : Value) (b : Bool), cls = .ref D ∧ d = none ∧ ExcC K D ∧ xs = [.ref a, c] ∧ ClsV c cv ∧ PySem.W.kitOne K (.ref D) cv = some b ∧ Q (.bl b) H
theorem call_isE2 {X : Cx} {a : Addr} {cls : Value} {d : Option Addr} {oe : Obj} {pn : List (Addr × Obj)} (hz : Zc cls d oe) (hf : ∃ vs, oe.data = .fields vs) : CallR (X.suite a ((a, oe) :: pn)) (.builtin "isinstance") (rIsE2 X.K cls d a) := by
  intro pins s σ H xs us Q I r h
  obtain ⟨D, c, cv, b, rfl, rfl, C, rfl, hc, e, q⟩ := h
  exact call_isE C hz hf pins s σ H _ us Q I r ⟨c, cv, b, rfl, fun u h => hc.eq h, e, q⟩
section
variable {K : PySem.W.Frag} {σ : L2.St} {H H' : Hp} {ta tb te tx : TE} {D : Ends} {tu tw tz : TS}
theorem ev_isE {C c a : Addr} {b : Bool} (hc : ExcC K C) (ha : Ev ta σ H (.ref a)) (hk : PySem.W.kitOne K (.ref C) (.ref c) = some b) : Ev (tCB (rIsE2 K (.ref C) none a) (tCons ta (tCons (tC (.ref c)) tNil))) σ H (.bl b) := fun H1 e Q q =>
  ha H1 e _ fun H2 e2 => ⟨C, .ref c, .ref c, b, rfl, rfl, hc, rfl, .own c, hk, q H2 e2⟩
theorem ev_isET {C a : Addr} {n : String} {b : Bool} (hc : ExcC K C) (ha : Ev ta σ H (.ref a)) (hk : PySem.W.kitOne K (.ref C) (.type n) = some b) : Ev (tCB (rIsE2 K (.ref C) none a) (tCons ta (tCons (tC (.ty n)) tNil))) σ H (.bl b) := fun H1 e Q q =>
  ha H1 e _ fun H2 e2 => ⟨C, .ty n, .type n, b, rfl, rfl, hc, rfl, .ty n, hk, q H2 e2⟩
/-- try: f(..) except c as n: suite, f raises C -/
theorem q_tryX {sp : Sp} {ta : TA} {vs : List V} {C : Addr} {c : Value} {i : Nat} {ts : Addr → Value → Option Addr → TS} {Wout : WX} (h : EvA ta σ H vs) (hs : SpX sp vs H C) (hm : PySem.W.exmOne K (.ref C) c = some true)
    (k : ∀ a H1, Ex H H1 → H1 a = none → ts a (.ref C) none { nx := fun σ' H' => tz D (σ'.set i none) H', rt := D.rt, bk := fun σ' H' => D.bk (σ'.set i none) H', ct := fun σ' H' => D.ct (σ'.set i none) H' } (σ.set i (some (.ref a))) H1) :
    tSeq (fun D σ H => tDrop (tCallS sp (WE (wAs K c i ts Wout D)) ta) D σ H) tz D σ H :=
  h H (Ex.refl H) _ fun H1 e1 => hs H1 e1 _ _ fun H2 e2 => ⟨true, hm, fun _ a ha => k a H2 (e1.trans e2) ha, fun z => by cases z⟩
end
theorem exm_C {K : PySem.W.Frag} {C R : Addr} (hb : PySem.W.subIn K (.ref R) (.type "BaseException") = some true) (hd : PySem.W.hasDictIn K R = true) (ht : PySem.W.typeIn K (.ref R) = some (.type "type")) (hs : PySem.W.subIn K (.ref C) (.ref R) = some true) : PySem.W.exmOne K (.ref C) (.ref R) = some true := PySem.W.exm_ref hb hd ht hs
theorem kit_own {K : PySem.W.Frag} {C D : Addr} {b : Bool} (hn : b = true ∨ (Value.ref C == Value.ref D) = false) (hd : PySem.W.hasDictIn K D = true) (ht : PySem.W.typeIn K (.ref D) = some (.type "type")) (hs : PySem.W.subIn K (.ref C) (.ref D) = some b) : PySem.W.kitOne K (.ref C) (.ref D) = some b := by
  obtain ⟨cd, hc, _⟩ := PySem.W.any_some hd
  have e2 : ((PySem.W.clsIn K D).isSome && PySem.W.typeIn K (.ref D) == some (.type "type")) = true := by rw [hc, ht] <;> rfl
  have e3 : PySem.W.kitCls K (.ref C) (.ref D) = some b := by
    show (if ((PySem.W.clsIn K D).isSome && PySem.W.typeIn K (.ref D) == some (.type "type")) = true then PySem.W.subIn K (.ref C) (.ref D) else none) = some b
    rw [if_pos e2]
    exact hs
  unfold PySem.W.kitOne
  by_cases z : (Value.ref C == Value.ref D) = true
  · rw [if_pos z]
    rcases hn with h | h
    · rw [h]
    · rw [h] at z
      cases z
  · rw [if_neg z]
    exact e3
theorem kit_type {K : PySem.W.Frag} {C : Addr} {n : String} {b : Bool} (hm : PySem.W.kitMeta n = true) (hs : PySem.W.subIn K (.ref C) (.type n) = some b) : PySem.W.kitOne K (.ref C) (.type n) = some b := by
  unfold PySem.W.kitOne
  rw [if_neg (by intro z; have := beq_iff_eq.mp z; cases this)]
  show (if PySem.W.kitMeta n = true then PySem.W.subIn K (.ref C) (.type n) else none) = some b
  rw [if_pos hm]
  exact hs
end Bt
namespace Bt
open PySem PySem.Spec PyProof.Rows L2 Evl
theorem rg_up {a b c : Int} (h0 : 0 ≤ a) (h1 : a ≤ 1000000) (h2 : 0 ≤ b) (h3 : b ≤ 1000000) (hc : 1 ≤ c) (hc2 : c ≤ 1000000) : ∃ n : Nat, RgC a b c n ∧ ∀ i : Nat, i < n → a + (i : Int) * c < b := by
  have e : Builtin.Range.rangeSize a b c = if a < b then (b - a - 1) / c + 1 else 0 := by
    unfold Builtin.Range.rangeSize
    rw [if_pos (by omega)]
  have hq : ∀ z : Int, 0 ≤ z → 0 ≤ z / c ∧ z / c ≤ z := fun z hz => ⟨Int.ediv_nonneg hz (by omega), Int.ediv_le_self _ hz⟩
  have hs : 0 ≤ Builtin.Range.rangeSize a b c ∧ Builtin.Range.rangeSize a b c ≤ 1000001 := by
    rw [e]
    split
    · have := hq (b - a - 1) (by omega)
      omega
    · omega
  refine ⟨(Builtin.Range.rangeSize a b c).toNat, ⟨by omega, by omega, ?_, by omega⟩, fun i hi => ?_⟩
  · unfold Builtin.Range.small
    rw [if_pos (by omega)]
    simp only [Builtin.Range.rangeFitsLong, Bool.and_eq_true, Bool.or_eq_true, decide_eq_true_eq]
    refine ⟨⟨⟨⟨by omega, by omega⟩, by omega⟩, by omega⟩, Or.inr (by omega)⟩
  · by_cases hab : a < b
    · rw [e, if_pos hab] at hi
      have h4 : (i : Int) ≤ (b - a - 1) / c := by
        have := hq (b - a - 1) (by omega)
        omega
      have h5 := (Int.le_ediv_iff_mul_le (by omega : 0 < c)).mp h4
      omega
    · rw [e, if_neg hab] at hi
      exact absurd hi (Nat.not_lt_zero i)
theorem range_getD (ns : List Int) : (List.range ns.length).map (fun i => ns.getD i 0) = ns := by
  refine List.ext_getElem (by simp) fun i h1 h2 => ?_
  simp [List.getD_eq_getElem?_getD, List.getElem?_eq_getElem h2]
theorem given_filter (ns : List Int) (p : Int → Bool) (g : Int → V) : given ns.length (fun i => p (ns.getD i 0)) (fun i => g (ns.getD i 0)) = (ns.filter p).map g := by
  unfold given
  have h : ((List.range ns.length).filter (fun i => p (ns.getD i 0))).map (fun i => ns.getD i 0) = ns.filter p := by
    conv => rhs; rw [← range_getD ns, List.filter_map]
    rfl
  rw [← h, List.map_map]
  rfl
theorem given_map (ns : List Int) (f : Int → V) : given ns.length (fun _ => true) (fun i => f (ns.getD i 0)) = ns.map f := by
  rw [given_all]
  conv => rhs; rw [← range_getD ns, List.map_map]
  rfl
section
variable {K : PySem.W.Frag} {σ : L2.St} {H H' : Hp} {ta tb te tx tl : TE} {t u : TT} {x y z v : V} {D : Ends} {tu tw tz : TS} {g : TG} {a : Addr} {j : Nat} {vs : List Nat}
theorem el_lcT {xs : List V} (f : Nat → Bool) (v : Nat → V) (h : Ev tl σ H (.ref a)) (hx : SqT K H a xs) (hz : xs.length ≤ 40000) (hw : ∀ x, wipe ((wipe σ vs).set j (some x)) vs = wipe σ vs)
    (ht : ∀ (i : Nat) (x : V) H1, Ex H H1 → xs[i]? = some x → EvT t ((wipe σ vs).set j (some x)) H1 (f i)) (he : ∀ (i : Nat) (x : V) H1, Ex H H1 → xs[i]? = some x → f i = true → Ev te ((wipe σ vs).set j (some x)) H1 (v i)) :
    EvL (tLc (iTup K tl) (gName j) t te vs) σ H (given xs.length f v) := fun H0 e Q q => h H0 e _ fun H1 e1 => ⟨a, rfl, ⟨xs, ex_t (e.trans e1) hx⟩, fun Dl hD =>
  lc_tup (xs := xs) (Cw H1 f v Dl) ⟨hD, Ex.new hD, upd_same⟩ (fun i H' _ p => ex_t ((e.trans e1).trans p.2.1) hx) (fun i x H' hi p => ⟨hw x, cw_turn p (by have := (List.getElem?_eq_some_iff.mp hi).1; omega) (ht i x H1 (e.trans e1) hi) (fun hf => he i x H1 (e.trans e1) hi hf)⟩)
    (fun H' p => q Dl H' (fresh_back e1 p.1) (e1.trans p.2.1) p.2.2)⟩
theorem el_lcNT {xs : List V} (f : Nat → Bool) (v : Nat → V) (h : EvU tl σ H xs) (hz : xs.length ≤ 40000) (hw : ∀ x, wipe ((wipe σ vs).set j (some x)) vs = wipe σ vs)
    (ht : ∀ (i : Nat) (x : V) H1, Ex H H1 → xs[i]? = some x → EvT t ((wipe σ vs).set j (some x)) H1 (f i)) (he : ∀ (i : Nat) (x : V) H1, Ex H H1 → xs[i]? = some x → f i = true → Ev te ((wipe σ vs).set j (some x)) H1 (v i)) :
    EvL (tLc (iTup K tl) (gName j) t te vs) σ H (given xs.length f v) := fun H0 e Q q => h H0 e _ fun a H1 ha e1 hx => ⟨a, rfl, ⟨xs, st_of hx⟩, fun Dl hD =>
  lc_tup (xs := xs) (Cw H1 f v Dl) ⟨hD, Ex.new hD, upd_same⟩ (fun i H' _ p => st_of (p.2.1 a _ hx)) (fun i x H' hi p => ⟨hw x, cw_turn p (by have := (List.getElem?_eq_some_iff.mp hi).1; omega) (ht i x H1 (e.trans e1) hi) (fun hf => he i x H1 (e.trans e1) hi hf)⟩)
    (fun H' p => q Dl H' (fresh_back e1 p.1) (e1.trans p.2.1) p.2.2)⟩
/-! comprehensions over ints -/
theorem int_item {ns : List Int} {i : Nat} {x : V} (h : (ns.map V.int)[i]? = some x) : x = .int (ns.getD i 0) ∧ ns.getD i 0 ∈ ns := by
  rw [List.getElem?_map] at h
  obtain ⟨d, hd, rfl⟩ := Option.map_eq_some_iff.mp h
  have e : ns.getD i 0 = d := by
    rw [List.getD_eq_getElem?_getD, hd]
    rfl
  rw [e]
  exact ⟨rfl, List.mem_of_getElem? hd⟩
theorem el_mapT {ns : List Int} (f : Int → V) (h : Ev tl σ H (.ref a)) (hx : SqT K H a (ns.map V.int)) (hz : ns.length ≤ 40000) (hw : ∀ x, wipe ((wipe σ vs).set j (some x)) vs = wipe σ vs)
    (he : ∀ (n : Int), n ∈ ns → ∀ H1, Ex H H1 → Ev te ((wipe σ vs).set j (some (.int n))) H1 (f n)) : EvL (tLc (iTup K tl) (gName j) tYes te vs) σ H (ns.map f) := by
  have := el_lcT (K := K) (te := te) (t := tYes) (vs := vs) (j := j) (fun _ => true) (fun i => f (ns.getD i 0)) h hx (by rw [List.length_map]; exact hz) hw (fun _ _ _ _ _ => et_yes) (fun i x H1 e hx' _ => by
    obtain ⟨rfl, hm⟩ := int_item hx'
    exact he _ hm H1 e)
  rw [List.length_map, given_map] at this
  exact this
theorem el_mapNT {ns : List Int} (f : Int → V) (h : EvU tl σ H (ns.map V.int)) (hz : ns.length ≤ 40000) (hw : ∀ x, wipe ((wipe σ vs).set j (some x)) vs = wipe σ vs)
    (he : ∀ (n : Int), n ∈ ns → ∀ H1, Ex H H1 → Ev te ((wipe σ vs).set j (some (.int n))) H1 (f n)) : EvL (tLc (iTup K tl) (gName j) tYes te vs) σ H (ns.map f) := by
  have := el_lcNT (K := K) (te := te) (t := tYes) (vs := vs) (j := j) (fun _ => true) (fun i => f (ns.getD i 0)) h (by rw [List.length_map]; exact hz) hw (fun _ _ _ _ _ => et_yes) (fun i x H1 e hx' _ => by
    obtain ⟨rfl, hm⟩ := int_item hx'
    exact he _ hm H1 e)
  rw [List.length_map, given_map] at this
  exact this
theorem el_filL {ns : List Int} (p : Int → Bool) (f : Int → V) (h : Ev tl σ H (.ref a)) (hx : SqL K H a (ns.map V.int)) (hz : ns.length ≤ 40000) (hw : ∀ x, wipe ((wipe σ vs).set j (some x)) vs = wipe σ vs)
    (ht : ∀ (n : Int), n ∈ ns → ∀ H1, Ex H H1 → EvT t ((wipe σ vs).set j (some (.int n))) H1 (p n)) (he : ∀ (n : Int), n ∈ ns → ∀ H1, Ex H H1 → Ev te ((wipe σ vs).set j (some (.int n))) H1 (f n)) : EvL (tLc (iList K tl) (gName j) t te vs) σ H ((ns.filter p).map f) := by
  have := el_lcL (K := K) (te := te) (t := t) (vs := vs) (j := j) (fun i => p (ns.getD i 0)) (fun i => f (ns.getD i 0)) h hx (by rw [List.length_map]; exact hz) hw (fun i x H1 e hx' => by
    obtain ⟨rfl, hm⟩ := int_item hx'
    exact ht _ hm H1 e) (fun i x H1 e hx' _ => by
    obtain ⟨rfl, hm⟩ := int_item hx'
    exact he _ hm H1 e)
  rw [List.length_map, given_filter] at this
  exact this
theorem el_mapL {ns : List Int} (f : Int → V) (h : Ev tl σ H (.ref a)) (hx : SqL K H a (ns.map V.int)) (hz : ns.length ≤ 40000) (hw : ∀ x, wipe ((wipe σ vs).set j (some x)) vs = wipe σ vs)
    (he : ∀ (n : Int), n ∈ ns → ∀ H1, Ex H H1 → Ev te ((wipe σ vs).set j (some (.int n))) H1 (f n)) : EvL (tLc (iList K tl) (gName j) tYes te vs) σ H (ns.map f) := by
  have := el_filL (K := K) (te := te) (t := tYes) (vs := vs) (j := j) (fun _ => true) f h hx hz hw (fun _ _ _ _ => et_yes) he
  rw [List.filter_eq_self.mpr (fun _ _ => rfl)] at this
  exact this
theorem el_filR {n : Nat} (p : Nat → Bool) (f : Nat → V) {ta : TA} (h : EvA ta σ H [.int (n : Int)]) (hz : n ≤ 40000) (hw : ∀ x, wipe ((wipe σ vs).set j (some x)) vs = wipe σ vs)
    (ht : ∀ i : Nat, i < n → ∀ H1, Ex H H1 → EvT t ((wipe σ vs).set j (some (.int (i : Int)))) H1 (p i)) (he : ∀ i : Nat, i < n → ∀ H1, Ex H H1 → Ev te ((wipe σ vs).set j (some (.int (i : Int)))) H1 (f i)) : EvL (tLc (iRng1 ta) (gName j) t te vs) σ H (((List.range n).filter p).map f) := by
  have := el_lcR1 (te := te) (t := t) (vs := vs) (j := j) p f h ⟨by omega, by omega⟩ hw (fun i H1 e hi => ht i (by omega) H1 e) (fun i H1 e hi _ => he i (by omega) H1 e)
  rw [Int.toNat_natCast] at this
  exact this
end
end Bt
namespace Bt
open PySem PySem.Spec PyProof.Rows L2 Evl
section
variable {K : PySem.W.Frag} {σ : L2.St} {H H' : Hp} {ta tb tc te tx tl : TE} {t u : TT} {x y z v w : V} {D : Ends} {tu tw tz : TS} {g : TG}
theorem q_par3L {i j l : Nat} {xs : List V} (h1 : EvL ta σ H xs) (h2 : Ev tb σ H v) (h3 : Ev tc σ H w) (k : ∀ p H1, H p = none → Ex H H1 → H1 p = some (.lst xs) → tz D (((σ.set i (some (.ref p))).set j (some v)).set l (some w)) H1) : tSeq (tPar3 i j l (tCons ta (tCons tb (tCons tc tNil)))) tz D σ H :=
  h1 H (Ex.refl H) _ fun p H1 hp e1 l1 => h2 H1 e1 _ fun H2 e2 => h3 H2 (e1.trans e2) _ fun H3 e3 => ⟨.ref p, v, w, rfl, k p H3 hp ((e1.trans e2).trans e3) (e3 _ _ (e2 _ _ l1))⟩
theorem ev_allT {ns : List Int} (h : EvL tl σ H (ns.map fun _ => V.bl true)) : Ev (tCB (rAll K) (tCons tl tNil)) σ H (.bl true) := by
  have h2 : EvL tl σ H ((ns.map fun _ => true).map V.bl) := by
    rw [List.map_map]
    exact h
  have h3 := ev_allN (K := K) h2
  have e : (ns.map fun _ => true).all id = true := by simp
  rw [e] at h3
  exact h3
end
end Bt
namespace Bt
open PySem PySem.Spec PyProof.Rows L2 Evl
/-! objects of own classes: made, asked, looked at -/
def tMakeO (C : Addr) : TE := fun _ H Q => ∀ x dx, H x = none → H dx = none → dx ≠ x → Q (.ref x) (upd (upd H dx (.own x)) x (.ins C dx []))
def tMeth2 (C1 C2 : Addr) (m : Str) (sp1 sp2 : Sp) (E : XK) (ta : TE) (t : TA) : TE := fun σ H Q => ta σ H fun x H1 => ∃ a dx fs, x = .ref a ∧ fs.lookup m = none ∧
  ((H1 a = some (.ins C1 dx fs) ∧ t σ H1 fun vs H2 => sp1 (x :: vs) H2 Q E) ∨ (H1 a = some (.ins C2 dx fs) ∧ t σ H1 fun vs H2 => sp2 (x :: vs) H2 Q E))
section
variable {X : Cx} {C C1 C2 f1 f2 : Addr} {fd1 fd2 : FuncData} {ps1 ps2 : List Str} {sp1 sp2 : Sp} {E : XK} {x m : Str} {p pos apos : Pos} {e o : Expr} {es : List Expr} {ta : TE} {t : TA} {k1 k2 : Nat}
/-- C(), C without an __init__ of its own -/
theorem pe_makeO (hm : PySem.W.makesIn X.K C = true) (hi : PySem.W.findIn X.K (.ref C) "__init__" = some (some (.builtin "object.__init__"))) (hk : PySem.W.keepIn X.K (.ref C) = true) (hg : Gl X x) (hmg : X.mg x = some (.ref C))
    (hdb : (x == ("__debug__" : Str)) = false := by decide) : PE X (.Call (.Name x p) [] [] pos) (tMakeO C) := by
  refine ⟨fun pins s σ H Q I h => ?_⟩
  refine wpAny_Call_Name_kw (ld_glob I hg hmg ?_ hdb)
  refine PySem.W.callWith_K0 I.kIn hk ?_
  have I2 := Inv.made (C := C) I
  have hq := h (s.heap.objs.size + 1) s.heap.objs.size (I.hok.fresh (Nat.le_succ _)) (I.hok.fresh (Nat.le_refl _)) (Nat.ne_of_lt (Nat.lt_succ_self _))
  have Y := PySem.W.makes_of (M := model X.prog X.w) I.kIn hm
  refine wpAny_call (make_map0 I.kIn hm hi (fun self => PySem.W.Looks.of_pure (PySem.W.oi_bind self)) ?_)
  obtain ⟨hh, g, d, tk, os⟩ := s
  dsimp only at I2 hq Y ⊢
  have e2 : ((hh.push PySem.W.emptyDict).push (PySem.W.instObj C hh.objs.size)).get? (hh.objs.size + 1) = some (PySem.W.instObj C hh.objs.size) := by
    have := Heap.get?_push_size (hh.push PySem.W.emptyDict) (o := PySem.W.instObj C hh.objs.size) rfl
    rwa [Heap.size_push] at this
  have t1 : PySem.W.Looks (model X.prog X.w) ((hh.push PySem.W.emptyDict).push (PySem.W.instObj C hh.objs.size)) (typeOf (.ref (hh.objs.size + 1))) (.ref C) := (PySem.W.Looks.ld e2).andThen .now
  have t2 : PySem.W.Looks (model X.prog X.w) ((hh.push PySem.W.emptyDict).push (PySem.W.instObj C hh.objs.size)) (isInstance (.ref (hh.objs.size + 1)) (.type "object")) true := t1.andThen (Y.top.keeps fun b o e => Heap.get?_push_of_some _ (Heap.get?_push_of_some _ e))
  refine codeAny_call_builtin PySem.W.oi_plain PySem.W.entry_oi (@PySem.W.check_slot (model X.prog X.w) _ _ _ "object.__init__" "object" "__init__" (.ref (hh.objs.size + 1)) [] [] _ PySem.W.oi_kind PySem.W.oi_split t2 (PySem.W.oi_args (.ref (hh.objs.size + 1))) ?_)
  rw [PySem.W.oi_run]
  exact wpAny_pure (And.intro rfl ⟨.ref (hh.objs.size + 1), _, I2, rfl, hq⟩)
/-- o.m(..), o of one of two classes -/
theorem pe_meth2 {pl : Sem Bool} (he : PE X o ta) (c1 : Cls X.K C1) (c2 : Cls X.K C2) (hm1 : Meth X.K C1 m f1) (hm2 : Meth X.K C2 m f2) (F1 : FnOk X.prog X.w X.K X.mg X.base CX0 k1 f1 fd1 ps1 sp1) (F2 : FnOk X.prog X.w X.K X.mg X.base CX0 k2 f2 fd2 ps2 sp2)
    (hr1 : Room k1 X.A) (hr2 : Room k2 X.A) (hb1 : Binds X.K fd1 ps1 []) (hb2 : Binds X.K fd2 ps2 []) (hx : Passes CX0 X E) (ha : PA X (e :: es) t)
    (hst : starEach (e :: es) X.env = (false, eval e X.env) :: starEach es X.env := by rfl) (hpl : (backTo pos (starEach es X.env)).any (·.1) = false := by rfl)
    (ht : eval (.Call (.Attribute o m apos) (e :: es) [] pos) X.env = (do
      let ov ← eval o X.env
      standAt apos.atName
      let (f, first) ← holding [ov] (getMethod ov m pl)
      callWith pos f first (backTo pos (starEach (e :: es) X.env)) (backToKw pos (keywordEach [] X.env))) := by rfl) :
    PE X (.Call (.Attribute o m apos) (e :: es) [] pos) (tMeth2 C1 C2 m sp1 sp2 E ta t) := by
  refine ⟨fun pins s σ H Q I h => ?_⟩
  refine PySem.W.methodCall_KW (pl := pl) (thn (he.run pins s σ H _ I h) fun u s1 ⟨x, H1, I1, rx, a, dx, fs, ex, l, q⟩ => ?_) ht
  subst ex
  obtain rfl : u = Value.ref a := rx
  rcases q with ⟨ea, q⟩ | ⟨ea, q⟩
  · refine getmeth_ok I1 ea c1 hm1 l ?_
    refine PySem.W.callWith_K (first := [.ref a]) (h₀ := X.base) I.ok.mod.kin hm1.kp (thn (ha.run pos pins s1 σ H1 _ I1 q) fun us s2 ⟨vs, H2, I2, r, q2⟩ => ⟨I2.kIn, ?_⟩) hst hpl
    exact run_fn (us := .ref a :: us) (vs := .ref a :: vs) (dvs := []) F1 hr1 hb1 .nil hx I2 (.cons rfl r) (by rw [List.append_nil]; exact q2)
  · refine getmeth_ok I1 ea c2 hm2 l ?_
    refine PySem.W.callWith_K (first := [.ref a]) (h₀ := X.base) I.ok.mod.kin hm2.kp (thn (ha.run pos pins s1 σ H1 _ I1 q) fun us s2 ⟨vs, H2, I2, r, q2⟩ => ⟨I2.kIn, ?_⟩) hst hpl
    exact run_fn (us := .ref a :: us) (vs := .ref a :: vs) (dvs := []) F2 hr2 hb2 .nil hx I2 (.cons rfl r) (by rw [List.append_nil]; exact q2)
end
/-- a new object of the class at C -/
def EvI (te : TE) (σ : L2.St) (H : Hp) (C : Addr) (fs : List (Str × V)) : Prop := ∀ H1, Ex H H1 → ∀ Q : VK, (∀ p dx H2, H1 p = none → Ex H1 H2 → H2 p = some (.ins C dx fs) → Q (.ref p) H2) → te σ H1 Q
/-- what the class says, so that isinstance asks rightly -/
structure ClsC (K : PySem.W.Frag) (C : Addr) : Prop where
  cl : Cls K C
  ha : PySem.W.findIn K (.ref C) "__class__" = some (some (.builtin "object.__class__"))
  hn : PySem.W.specialIn K (.builtin "object.__class__") "__get__" = some (some (.builtin "getset_descriptor.__get__"))
  ht : PySem.W.takesIn K (.builtin "object.__class__") = some true
  hm : PySem.W.mroIn K C (.type "object") = some true
section
variable {K : PySem.W.Frag} {σ : L2.St} {H H' : Hp} {ta tb te tx : TE} {t u : TT} {x y z v w : V} {D : Ends} {tu tw tz : TS} {g : TG} {C C1 C2 a : Addr} {fs : List (Str × V)} {f m : Str}
theorem ei_makeO : EvI (tMakeO C) σ H C [] := fun H1 e Q q x dx hx hd hn => q x dx _ hx ((Ex.new hd).trans (Ex.new (by rw [upd_ne hn.symm]; exact hx))) upd_same
theorem ev_fld {dx : Addr} (h : Ev ta σ H (.ref a)) (ha : H a = some (.ins C dx fs)) (c : Cls K C) (n : NoAttr K C f) (hl : fs.lookup f = some v) : Ev (tFld K ta f) σ H v := fun H1 e Q q =>
  h H1 e _ fun H2 e2 => ⟨a, C, dx, fs, v, rfl, e2 _ _ (e _ _ ha), c, n, hl, q H2 e2⟩
theorem ev_fldN (h : EvI ta σ H C fs) (c : Cls K C) (n : NoAttr K C f) (hl : fs.lookup f = some v) : Ev (tFld K ta f) σ H v := fun H1 e Q q =>
  h H1 e _ fun p dx H2 hp e2 h2 => ⟨p, C, dx, fs, v, rfl, h2, c, n, hl, q H2 e2⟩
theorem ev_isO {dx c : Addr} {b : Bool} (hc : ClsC K C) (h : Ev ta σ H (.ref a)) (ha : H a = some (.ins C dx fs)) (hk : PySem.W.kitOne K (.ref C) (.ref c) = some b) : Ev (tCB (rIsi K) (tCons ta (tCons (tC (.ref c)) tNil))) σ H (.bl b) := fun H1 e Q q =>
  h H1 e _ fun H2 e2 => ⟨.ref a, .ref c, _, _, b, rfl, .own c, .base (.ins (e2 _ _ (e _ _ ha)) hc.cl hc.ha hc.hn hc.ht hc.hm), hk, q H2 e2⟩
theorem ev_isON {c : Addr} {b : Bool} (hc : ClsC K C) (h : EvI ta σ H C fs) (hk : PySem.W.kitOne K (.ref C) (.ref c) = some b) : Ev (tCB (rIsi K) (tCons ta (tCons (tC (.ref c)) tNil))) σ H (.bl b) := fun H1 e Q q =>
  h H1 e _ fun p dx H2 hp e2 h2 => ⟨.ref p, .ref c, _, _, b, rfl, .own c, .base (.ins h2 hc.cl hc.ha hc.hn hc.ht hc.hm), hk, q H2 e2⟩
theorem ev_meth {dx : Addr} {sp : Sp} {E : XK} {t : TA} {vs : List V} (h : Ev ta σ H (.ref a)) (ha : H a = some (.ins C dx fs)) (hl : fs.lookup m = none) (ht : EvA t σ H vs) (hs : ∀ H1, Ex H H1 → SpV sp (.ref a :: vs) H1 v) : Ev (tMeth C m sp [] E ta t) σ H v := fun H1 e Q q =>
  h H1 e _ fun H2 e2 => ⟨a, dx, fs, rfl, e2 _ _ (e _ _ ha), hl, ht H2 (e.trans e2) _ fun H3 e3 => by rw [List.append_nil]; exact hs H3 ((e.trans e2).trans e3) H3 (Ex.refl H3) _ (fun H4 e4 => q H4 ((e2.trans e3).trans e4)) _⟩
theorem ev_methN {sp : Sp} {E : XK} {t : TA} {vs : List V} (h : EvI ta σ H C fs) (hl : fs.lookup m = none) (ht : EvA t σ H vs) (hs : ∀ p dx H1, H1 p = some (.ins C dx fs) → SpV sp (.ref p :: vs) H1 v) : Ev (tMeth C m sp [] E ta t) σ H v := fun H1 e Q q =>
  h H1 e _ fun p dx H2 hp e2 h2 => ⟨p, dx, fs, rfl, h2, hl, ht H2 (e.trans e2) _ fun H3 e3 => by rw [List.append_nil]; exact hs p dx H3 (e3 _ _ h2) H3 (Ex.refl H3) _ (fun H4 e4 => q H4 ((e2.trans e3).trans e4)) _⟩
theorem ev_meth2a {dx : Addr} {sp1 sp2 : Sp} {E : XK} {t : TA} {vs : List V} (h : Ev ta σ H (.ref a)) (ha : H a = some (.ins C1 dx fs)) (hl : fs.lookup m = none) (ht : EvA t σ H vs) (hs : ∀ H1, Ex H H1 → SpV sp1 (.ref a :: vs) H1 v) : Ev (tMeth2 C1 C2 m sp1 sp2 E ta t) σ H v := fun H1 e Q q =>
  h H1 e _ fun H2 e2 => ⟨a, dx, fs, rfl, hl, Or.inl ⟨e2 _ _ (e _ _ ha), ht H2 (e.trans e2) _ fun H3 e3 => hs H3 ((e.trans e2).trans e3) H3 (Ex.refl H3) _ (fun H4 e4 => q H4 ((e2.trans e3).trans e4)) _⟩⟩
theorem ev_meth2b {dx : Addr} {sp1 sp2 : Sp} {E : XK} {t : TA} {vs : List V} (h : Ev ta σ H (.ref a)) (ha : H a = some (.ins C2 dx fs)) (hl : fs.lookup m = none) (ht : EvA t σ H vs) (hs : ∀ H1, Ex H H1 → SpV sp2 (.ref a :: vs) H1 v) : Ev (tMeth2 C1 C2 m sp1 sp2 E ta t) σ H v := fun H1 e Q q =>
  h H1 e _ fun H2 e2 => ⟨a, dx, fs, rfl, hl, Or.inr ⟨e2 _ _ (e _ _ ha), ht H2 (e.trans e2) _ fun H3 e3 => hs H3 ((e.trans e2).trans e3) H3 (Ex.refl H3) _ (fun H4 e4 => q H4 ((e2.trans e3).trans e4)) _⟩⟩
theorem q_asgI {i : Nat} (h : EvI te σ H C fs) (k : ∀ p dx H1, H p = none → Ex H H1 → H1 p = some (.ins C dx fs) → tz D (σ.set i (some (.ref p))) H1) : tSeq (tAsg te (gName i)) tz D σ H := h H (Ex.refl H) _ k
theorem s_retI (h : EvI te σ H C fs) (k : ∀ p dx H1, H p = none → Ex H H1 → H1 p = some (.ins C dx fs) → D.rt (.ref p) H1) : tRet te D σ H := h H (Ex.refl H) _ k
/-! is, is not -/
theorem ev_isB2 {b c : Bool} (ha : Ev ta σ H (.bl b)) (hb : Ev tb σ H (.bl c)) : Ev (tOp rIsB ta tb) σ H (.bl (decide (b = c))) := ev_op ha hb fun H1 e Q q => ⟨b, c, rfl, rfl, q H1 (Ex.refl H1)⟩
theorem ev_nisB2 {b c : Bool} (ha : Ev ta σ H (.bl b)) (hb : Ev tb σ H (.bl c)) : Ev (tOp rNotB ta tb) σ H (.bl (!decide (b = c))) := ev_op ha hb fun H1 e Q q => ⟨b, c, rfl, rfl, q H1 (Ex.refl H1)⟩
/-- for x in a new tuple of ints, by its place -/
theorem q_forUX {ns : List Int} {tl : TE} {j : Nat} (h : EvU tl σ H (ns.map V.int)) (Pv : Nat → L2.St → Hp → Prop) (h0 : ∀ H1, Ex H H1 → Pv 0 σ H1)
    (hs : ∀ i n H0 σ' H', Ex H H0 → Ex H0 H' → ns[i]? = some n → Pv i σ' H' → tu { D with nx := fun σ3 H3 => Pv (i + 1) σ3 H3 ∧ Ex H0 H3, ct := fun σ3 H3 => Pv (i + 1) σ3 H3 ∧ Ex H0 H3, bk := tz D } (σ'.set j (some (.int n))) H')
    (hd : ∀ σ' H', Ex H H' → Pv ns.length σ' H' → tz D σ' H') : tSeq (tFor (iTup K tl) (gName j) tu) tz D σ H :=
  h H (Ex.refl H) _ fun p H0 hp e0 hl => ⟨p, rfl, ⟨_, st_of hl⟩, for_tup (D := { D with nx := tz D }) (fun i σ' H' => Pv i σ' H' ∧ Ex H0 H') ⟨h0 H0 e0, Ex.refl H0⟩ (fun i σ' H' _ q => st_of (q.2 p _ hl)) (fun i x σ' H' hi q => by
    rw [List.getElem?_map] at hi
    obtain ⟨n, hn, rfl⟩ := Option.map_eq_some_iff.mp hi
    exact hs i n H0 σ' H' e0 q.2 hn q.1) (fun σ' H' q => by
    have := q.1
    rw [List.length_map] at this
    exact hd σ' H' (e0.trans q.2) this)⟩
end
theorem atI_minus {xs : List Int} {i : Nat} (h : i < xs.length) : atI (xs.map V.int) (-1 - (i : Int)) = some (.int (xs.getD (xs.length - 1 - i) 0)) := by
  unfold atI ixN
  rw [List.length_map, if_neg (by omega), if_pos (by omega), Option.bind_some, show ((-1 - (i : Int)) + (xs.length : Int)).toNat = xs.length - 1 - i by omega, List.getElem?_map, List.getElem?_eq_getElem (by omega), List.getD_eq_getElem?_getD, List.getElem?_eq_getElem (by omega)]
  rfl
end Bt
namespace Bt
open PySem PySem.Spec PyProof.Rows L2 Evl
theorem shaped_two {i j : Int} : SeqAt.shaped (.tuple [.int i, .int j]) = true := rfl
theorem eqv_two (i j k l : Int) : PyData.eqv (.tuple [.int i, .int j]) (.tuple [.int k, .int l]) = (decide (i = k) && decide (j = l)) := by
  simp only [PyData.eqv, PyData.eqvAll, Bool.and_true]
  rfl
theorem DhAll.boolsF (H : Hp) (f : Int → Bool) : ∀ xs : List Int, DhAll H (xs.map fun p => V.bl (f p)) (xs.map fun p => PyData.bool (f p))
  | [] => .nil
  | x :: r => .cons (.bl (f x)) (DhAll.boolsF H f r)
section
variable {K : PySem.W.Frag} {σ : L2.St} {H H' : Hp} {ta tb te tx : TE} {D : Ends} {tu tw tz : TS}
theorem ed_boolsF {ns : List Int} {f : Int → Bool} (h : EvL te σ H (ns.map fun p => V.bl (f p))) : EvD te σ H (.list (ns.map fun p => PyData.bool (f p))) := fun H1 e _ q => h H1 e _ fun p H2 _ e2 hp => q _ H2 e2 (.lst hp (DhAll.boolsF H2 f ns))
theorem s_forUI {ns : List Int} {tl : TE} {j : Nat} (h : EvU tl σ H (ns.map V.int)) (Pv : Nat → L2.St → Hp → Prop) (h0 : ∀ H1, Ex H H1 → Pv 0 σ H1)
    (hs : ∀ i n H0 σ' H', Ex H H0 → Ex H0 H' → n ∈ ns → Pv i σ' H' → tu { D with nx := fun σ3 H3 => Pv (i + 1) σ3 H3 ∧ Ex H0 H3, ct := fun σ3 H3 => Pv (i + 1) σ3 H3 ∧ Ex H0 H3, bk := D.nx } (σ'.set j (some (.int n))) H')
    (hd : ∀ σ' H', Ex H H' → Pv ns.length σ' H' → D.nx σ' H') : tFor (iTup K tl) (gName j) tu D σ H := q_forUI (tz := fun D => D.nx) (D := D) h Pv h0 hs hd
end
end Bt
namespace Bt
open PySem PySem.Spec PyProof.Rows L2 Evl
section
variable {K : PySem.W.Frag} {σ : L2.St} {H H' : Hp} {ta tb te tx tl : TE} {t : TT} {D : Ends} {tu tw tz : TS} {vs : List Nat} {j : Nat}
theorem el_filNT {ns : List Int} (p : Int → Bool) (f : Int → V) (h : EvU tl σ H (ns.map V.int)) (hz : ns.length ≤ 40000) (hw : ∀ x, wipe ((wipe σ vs).set j (some x)) vs = wipe σ vs)
    (ht : ∀ (n : Int), n ∈ ns → ∀ H1, Ex H H1 → EvT t ((wipe σ vs).set j (some (.int n))) H1 (p n)) (he : ∀ (n : Int), n ∈ ns → ∀ H1, Ex H H1 → Ev te ((wipe σ vs).set j (some (.int n))) H1 (f n)) : EvL (tLc (iTup K tl) (gName j) t te vs) σ H ((ns.filter p).map f) := by
  have := el_lcNT (K := K) (te := te) (t := t) (vs := vs) (j := j) (fun i => p (ns.getD i 0)) (fun i => f (ns.getD i 0)) h (by rw [List.length_map]; exact hz) hw (fun i x H1 e hx' => by
    obtain ⟨rfl, hm⟩ := int_item hx'
    exact ht _ hm H1 e) (fun i x H1 e hx' _ => by
    obtain ⟨rfl, hm⟩ := int_item hx'
    exact he _ hm H1 e)
  rw [List.length_map, given_filter] at this
  exact this
theorem rv_notN {x : V} : RV (fun x y H Q => y = .non ∧ Q (.bl (!decide (x = .non))) H) x .non H (.bl (!decide (x = .non))) := fun H1 _ Q q => ⟨rfl, q H1 (Ex.refl H1)⟩
theorem eu_if {b : Bool} {xs : List V} (h : EvT t σ H b) (hb : b = true) (h1 : EvU ta σ H xs) : EvU (tIf t ta tb) σ H xs := fun H1 e Q q => h H1 e _ fun H2 e2 => by
  rw [hb]
  show ta σ H2 Q
  exact h1 H2 (e.trans e2) Q fun p H3 hp e3 h3 => q p H3 (fresh_back e2 hp) (e2.trans e3) h3
theorem ei_eq {C C' : Addr} {fs fs' : List (Str × V)} (h : EvI te σ H C fs) (e1 : C = C') (e2 : fs = fs') : EvI te σ H C' fs' := by
  subst e1 e2
  exact h
end
end Bt
namespace Bt
open PySem PySem.Spec PyProof.Rows L2 Evl
def topS (i : Nat) : Stmt := PySem.Challenge.pw_bothread_k05_whole_judged.main.body.getD i (.Pass ⟨0, 0, 0, 0⟩)
abbrev s_is_whole : Stmt := (topS 6)
abbrev N_is_whole : List Str := ["thing"]
theorem sc_is_whole : FnScope N_is_whole ["thing"] (defScope s_is_whole) := ⟨rfl, rfl, rfl, by decide +kernel, rfl, by decide +kernel, by decide +kernel⟩

abbrev s_check_number : Stmt := (topS 7)
abbrev N_check_number : List Str := ["number"]
theorem sc_check_number : FnScope N_check_number ["number"] (defScope s_check_number) := ⟨rfl, rfl, rfl, by decide +kernel, rfl, by decide +kernel, by decide +kernel⟩

abbrev s_check_base : Stmt := (topS 8)
abbrev N_check_base : List Str := ["base"]
theorem sc_check_base : FnScope N_check_base ["base"] (defScope s_check_base) := ⟨rfl, rfl, rfl, by decide +kernel, rfl, by decide +kernel, by decide +kernel⟩

abbrev s_figures_of : Stmt := (topS 9)
abbrev N_figures_of : List Str := ["number", "base", "found"]
theorem sc_figures_of : FnScope N_figures_of ["number", "base"] (defScope s_figures_of) := ⟨rfl, rfl, rfl, by decide +kernel, rfl, by decide +kernel, by decide +kernel⟩

abbrev s_number_from : Stmt := (topS 10)
abbrev N_number_from : List Str := ["row", "base", "found", "figure"]
theorem sc_number_from : FnScope N_number_from ["row", "base"] (defScope s_number_from) := ⟨rfl, rfl, rfl, by decide +kernel, rfl, by decide +kernel, by decide +kernel⟩

abbrev s_first_wrong : Stmt := (topS 11)
abbrev N_first_wrong : List Str := ["number", "base", "row", "place", "figure"]
theorem sc_first_wrong : FnScope N_first_wrong ["number", "base"] (defScope s_first_wrong) := ⟨rfl, rfl, rfl, by decide +kernel, rfl, by decide +kernel, by decide +kernel⟩

abbrev s_Alike_shows : Stmt := (inClass (topS 14) 0)
abbrev N_Alike_shows : List Str := ["self", "number", "one", "other"]
theorem sc_Alike_shows : FnScope N_Alike_shows ["self", "number", "one", "other"] (defScope s_Alike_shows) := ⟨rfl, rfl, rfl, by decide +kernel, rfl, by decide +kernel, by decide +kernel⟩

abbrev s_Unlike___init__ : Stmt := (inClass (topS 15) 0)
abbrev N_Unlike___init__ : List Str := ["self", "base", "place"]
theorem sc_Unlike___init__ : FnScope N_Unlike___init__ ["self", "base", "place"] (defScope s_Unlike___init__) := ⟨rfl, rfl, rfl, by decide +kernel, rfl, by decide +kernel, by decide +kernel⟩

abbrev s_Unlike_shows : Stmt := (inClass (topS 15) 1)
abbrev N_Unlike_shows : List Str := ["self", "number", "one", "other"]
theorem sc_Unlike_shows : FnScope N_Unlike_shows ["self", "number", "one", "other"] (defScope s_Unlike_shows) := ⟨rfl, rfl, rfl, by decide +kernel, rfl, by decide +kernel, by decide +kernel⟩

abbrev s_power : Stmt := (topS 17)
abbrev N_power : List Str := ["base", "times", "found", "turn"]
theorem sc_power : FnScope N_power ["base", "times"] (defScope s_power) := ⟨rfl, rfl, rfl, by decide +kernel, rfl, by decide +kernel, by decide +kernel⟩

abbrev s_many_of : Stmt := (topS 18)
abbrev N_many_of : List Str := ["many", "base"]
theorem sc_many_of : FnScope N_many_of ["many", "base"] (defScope s_many_of) := ⟨rfl, rfl, rfl, by decide +kernel, rfl, by decide +kernel, by decide +kernel⟩

abbrev s_made_of : Stmt := (topS 19)
abbrev N_made_of : List Str := ["half", "many", "base", "row"]
theorem sc_made_of : FnScope N_made_of ["half", "many", "base"] (defScope s_made_of) := ⟨rfl, rfl, rfl, by decide +kernel, rfl, by decide +kernel, by decide +kernel⟩

abbrev s_number_by : Stmt := (topS 20)
abbrev N_number_by : List Str := ["at", "base", "many", "left"]
theorem sc_number_by : FnScope N_number_by ["at", "base"] (defScope s_number_by) := ⟨rfl, rfl, rfl, by decide +kernel, rfl, by decide +kernel, by decide +kernel⟩

abbrev s_judged : Stmt := (topS 22)
abbrev N_judged : List Str := ["number", "one", "other", "base", "place"]
theorem sc_judged : FnScope N_judged ["number", "one", "other"] (defScope s_judged) := ⟨rfl, rfl, rfl, by decide +kernel, rfl, by decide +kernel, by decide +kernel⟩

abbrev s__law_cell_at : Stmt := (topS 24)
abbrev N__law_cell_at : List Str := ["_law_script", "_law_k"]
theorem sc__law_cell_at : FnScope N__law_cell_at ["_law_script", "_law_k"] (defScope s__law_cell_at) := ⟨rfl, rfl, rfl, by decide +kernel, rfl, by decide +kernel, by decide +kernel⟩

abbrev s__law_draw : Stmt := (topS 25)
abbrev N__law_draw : List Str := ["_law_cell", "_law_k", "_law_most", "_law_primes"]
theorem sc__law_draw : FnScope N__law_draw ["_law_cell", "_law_k", "_law_most"] (defScope s__law_draw) := ⟨rfl, rfl, rfl, by decide +kernel, rfl, by decide +kernel, by decide +kernel⟩

abbrev s__law_number : Stmt := (topS 26)
abbrev N__law_number : List Str := ["_law_cell", "_law_k", "_law_limit"]
theorem sc__law_number : FnScope N__law_number ["_law_cell", "_law_k", "_law_limit"] (defScope s__law_number) := ⟨rfl, rfl, rfl, by decide +kernel, rfl, by decide +kernel, by decide +kernel⟩

abbrev s__law_great : Stmt := (topS 27)
abbrev N__law_great : List Str := ["_law_script", "_law_by", "_law_cell", "_law_wide"]
theorem sc__law_great : FnScope N__law_great ["_law_script", "_law_by"] (defScope s__law_great) := ⟨rfl, rfl, rfl, by decide +kernel, rfl, by decide +kernel, by decide +kernel⟩

abbrev s__law_base : Stmt := (topS 28)
abbrev N__law_base : List Str := ["_law_script", "_law_by", "_law_cell"]
theorem sc__law_base : FnScope N__law_base ["_law_script", "_law_by"] (defScope s__law_base) := ⟨rfl, rfl, rfl, by decide +kernel, rfl, by decide +kernel, by decide +kernel⟩

abbrev s__law_figures : Stmt := (topS 29)
abbrev N__law_figures : List Str := ["_law_number_here", "_law_base_here", "_law_found"]
theorem sc__law_figures : FnScope N__law_figures ["_law_number_here", "_law_base_here"] (defScope s__law_figures) := ⟨rfl, rfl, rfl, by decide +kernel, rfl, by decide +kernel, by decide +kernel⟩

abbrev s__law_reads : Stmt := (topS 30)
abbrev N__law_reads : List Str := ["_law_number_here", "_law_base_here", "_law_row"]
theorem sc__law_reads : FnScope N__law_reads ["_law_number_here", "_law_base_here"] (defScope s__law_reads) := ⟨rfl, rfl, rfl, by decide +kernel, rfl, by decide +kernel, by decide +kernel⟩

abbrev s__law_wrong : Stmt := (topS 31)
abbrev N__law_wrong : List Str := ["_law_number_here", "_law_base_here", "_law_row", "_law_place"]
theorem sc__law_wrong : FnScope N__law_wrong ["_law_number_here", "_law_base_here"] (defScope s__law_wrong) := ⟨rfl, rfl, rfl, by decide +kernel, rfl, by decide +kernel, by decide +kernel⟩

abbrev s__law_whole : Stmt := (topS 32)
abbrev N__law_whole : List Str := ["_law_found"]
theorem sc__law_whole : FnScope N__law_whole ["_law_found"] (defScope s__law_whole) := ⟨rfl, rfl, rfl, by decide +kernel, rfl, by decide +kernel, by decide +kernel⟩

abbrev s__law_says : Stmt := (topS 33)
abbrev N__law_says : List Str := ["_law_said", "_law_due_here"]
theorem sc__law_says : FnScope N__law_says ["_law_said", "_law_due_here"] (defScope s__law_says) := ⟨rfl, rfl, rfl, by decide +kernel, rfl, by decide +kernel, by decide +kernel⟩

abbrev s__law_due : Stmt := (topS 34)
abbrev N__law_due : List Str := ["_law_number_here", "_law_one", "_law_other", "_law_found"]
theorem sc__law_due : FnScope N__law_due ["_law_number_here", "_law_one", "_law_other", "_law_found"] (defScope s__law_due) := ⟨rfl, rfl, rfl, by decide +kernel, rfl, by decide +kernel, by decide +kernel⟩

abbrev s__law_right : Stmt := (topS 35)
abbrev N__law_right : List Str := ["_law_number_here", "_law_one", "_law_other", "_law_others", "_law_bad", "_law_found", "_law_sorts", "_law_due_here", "_law_more", "_law_first", "_law_second", "_law_base_here"]
theorem sc__law_right : FnScope N__law_right ["_law_number_here", "_law_one", "_law_other", "_law_others"] (defScope s__law_right) := ⟨rfl, rfl, rfl, by decide +kernel, rfl, by decide +kernel, by decide +kernel⟩

abbrev s_law : Stmt := (topS 36)
abbrev N_law : List Str := ["_law_script", "_law_by", "_law_drawn", "_law_one", "_law_other", "_law_numbers", "_law_number_here", "_law_others", "_law_found", "_law_great_here", "_law_turn"]
theorem sc_law : FnScope N_law ["_law_script"] (defScope s_law) := ⟨rfl, rfl, rfl, by decide +kernel, rfl, by decide +kernel, by decide +kernel⟩

structure Tx (K : PySem.W.Frag) (mg : Str → Option Value) where
  a_is_whole : Addr
  d_is_whole : FuncData
  F_is_whole : Fun K "is_whole" "is_whole" s_is_whole a_is_whole d_is_whole
  b_is_whole : Binds K d_is_whole ["thing"] []
  g_is_whole : mg "is_whole" = some (.ref a_is_whole)
  a_check_number : Addr
  d_check_number : FuncData
  F_check_number : Fun K "check_number" "check_number" s_check_number a_check_number d_check_number
  b_check_number : Binds K d_check_number ["number"] []
  g_check_number : mg "check_number" = some (.ref a_check_number)
  a_check_base : Addr
  d_check_base : FuncData
  F_check_base : Fun K "check_base" "check_base" s_check_base a_check_base d_check_base
  b_check_base : Binds K d_check_base ["base"] []
  g_check_base : mg "check_base" = some (.ref a_check_base)
  a_figures_of : Addr
  d_figures_of : FuncData
  F_figures_of : Fun K "figures_of" "figures_of" s_figures_of a_figures_of d_figures_of
  b_figures_of : Binds K d_figures_of ["number", "base"] []
  g_figures_of : mg "figures_of" = some (.ref a_figures_of)
  a_number_from : Addr
  d_number_from : FuncData
  F_number_from : Fun K "number_from" "number_from" s_number_from a_number_from d_number_from
  b_number_from : Binds K d_number_from ["row", "base"] []
  g_number_from : mg "number_from" = some (.ref a_number_from)
  a_first_wrong : Addr
  d_first_wrong : FuncData
  F_first_wrong : Fun K "first_wrong" "first_wrong" s_first_wrong a_first_wrong d_first_wrong
  b_first_wrong : Binds K d_first_wrong ["number", "base"] []
  g_first_wrong : mg "first_wrong" = some (.ref a_first_wrong)
  a_power : Addr
  d_power : FuncData
  F_power : Fun K "power" "power" s_power a_power d_power
  b_power : Binds K d_power ["base", "times"] []
  g_power : mg "power" = some (.ref a_power)
  a_many_of : Addr
  d_many_of : FuncData
  F_many_of : Fun K "many_of" "many_of" s_many_of a_many_of d_many_of
  b_many_of : Binds K d_many_of ["many", "base"] []
  g_many_of : mg "many_of" = some (.ref a_many_of)
  a_made_of : Addr
  d_made_of : FuncData
  F_made_of : Fun K "made_of" "made_of" s_made_of a_made_of d_made_of
  b_made_of : Binds K d_made_of ["half", "many", "base"] []
  g_made_of : mg "made_of" = some (.ref a_made_of)
  a_number_by : Addr
  d_number_by : FuncData
  F_number_by : Fun K "number_by" "number_by" s_number_by a_number_by d_number_by
  b_number_by : Binds K d_number_by ["at", "base"] []
  g_number_by : mg "number_by" = some (.ref a_number_by)
  a_judged : Addr
  d_judged : FuncData
  F_judged : Fun K "judged" "judged" s_judged a_judged d_judged
  b_judged : Binds K d_judged ["number", "one", "other"] []
  g_judged : mg "judged" = some (.ref a_judged)
  a__law_cell_at : Addr
  d__law_cell_at : FuncData
  F__law_cell_at : Fun K "_law_cell_at" "_law_cell_at" s__law_cell_at a__law_cell_at d__law_cell_at
  b__law_cell_at : Binds K d__law_cell_at ["_law_script", "_law_k"] []
  g__law_cell_at : mg "_law_cell_at" = some (.ref a__law_cell_at)
  a__law_draw : Addr
  d__law_draw : FuncData
  F__law_draw : Fun K "_law_draw" "_law_draw" s__law_draw a__law_draw d__law_draw
  b__law_draw : Binds K d__law_draw ["_law_cell", "_law_k", "_law_most"] []
  g__law_draw : mg "_law_draw" = some (.ref a__law_draw)
  a__law_number : Addr
  d__law_number : FuncData
  F__law_number : Fun K "_law_number" "_law_number" s__law_number a__law_number d__law_number
  b__law_number : Binds K d__law_number ["_law_cell", "_law_k", "_law_limit"] []
  g__law_number : mg "_law_number" = some (.ref a__law_number)
  a__law_great : Addr
  d__law_great : FuncData
  F__law_great : Fun K "_law_great" "_law_great" s__law_great a__law_great d__law_great
  b__law_great : Binds K d__law_great ["_law_script", "_law_by"] []
  g__law_great : mg "_law_great" = some (.ref a__law_great)
  a__law_base : Addr
  d__law_base : FuncData
  F__law_base : Fun K "_law_base" "_law_base" s__law_base a__law_base d__law_base
  b__law_base : Binds K d__law_base ["_law_script", "_law_by"] []
  g__law_base : mg "_law_base" = some (.ref a__law_base)
  a__law_figures : Addr
  d__law_figures : FuncData
  F__law_figures : Fun K "_law_figures" "_law_figures" s__law_figures a__law_figures d__law_figures
  b__law_figures : Binds K d__law_figures ["_law_number_here", "_law_base_here"] []
  g__law_figures : mg "_law_figures" = some (.ref a__law_figures)
  a__law_reads : Addr
  d__law_reads : FuncData
  F__law_reads : Fun K "_law_reads" "_law_reads" s__law_reads a__law_reads d__law_reads
  b__law_reads : Binds K d__law_reads ["_law_number_here", "_law_base_here"] []
  g__law_reads : mg "_law_reads" = some (.ref a__law_reads)
  a__law_wrong : Addr
  d__law_wrong : FuncData
  F__law_wrong : Fun K "_law_wrong" "_law_wrong" s__law_wrong a__law_wrong d__law_wrong
  b__law_wrong : Binds K d__law_wrong ["_law_number_here", "_law_base_here"] []
  g__law_wrong : mg "_law_wrong" = some (.ref a__law_wrong)
  a__law_whole : Addr
  d__law_whole : FuncData
  F__law_whole : Fun K "_law_whole" "_law_whole" s__law_whole a__law_whole d__law_whole
  b__law_whole : Binds K d__law_whole ["_law_found"] []
  g__law_whole : mg "_law_whole" = some (.ref a__law_whole)
  a__law_says : Addr
  d__law_says : FuncData
  F__law_says : Fun K "_law_says" "_law_says" s__law_says a__law_says d__law_says
  b__law_says : Binds K d__law_says ["_law_said", "_law_due_here"] []
  g__law_says : mg "_law_says" = some (.ref a__law_says)
  a__law_due : Addr
  d__law_due : FuncData
  F__law_due : Fun K "_law_due" "_law_due" s__law_due a__law_due d__law_due
  b__law_due : Binds K d__law_due ["_law_number_here", "_law_one", "_law_other", "_law_found"] []
  g__law_due : mg "_law_due" = some (.ref a__law_due)
  a__law_right : Addr
  d__law_right : FuncData
  F__law_right : Fun K "_law_right" "_law_right" s__law_right a__law_right d__law_right
  b__law_right : Binds K d__law_right ["_law_number_here", "_law_one", "_law_other", "_law_others"] []
  g__law_right : mg "_law_right" = some (.ref a__law_right)
  a_law : Addr
  d_law : FuncData
  F_law : Fun K "law" "law" s_law a_law d_law
  b_law : Binds K d_law ["_law_script"] []
  g_law : mg "law" = some (.ref a_law)
  a_Answer : Addr
  g_Answer : mg "Answer" = some (.ref a_Answer)
  k_Answer : PySem.W.keepIn K (.ref a_Answer) = true
  C_Answer : ClsC K a_Answer
  mk0_Answer : PySem.W.makesIn K a_Answer = true
  i0_Answer : PySem.W.findIn K (.ref a_Answer) "__init__" = some (some (.builtin "object.__init__"))
  a_Alike : Addr
  g_Alike : mg "Alike" = some (.ref a_Alike)
  k_Alike : PySem.W.keepIn K (.ref a_Alike) = true
  C_Alike : ClsC K a_Alike
  a_Alike_shows : Addr
  d_Alike_shows : FuncData
  F_Alike_shows : Fun K "shows" "Alike.shows" s_Alike_shows a_Alike_shows d_Alike_shows
  b_Alike_shows : Binds K d_Alike_shows ["self", "number", "one", "other"] []
  M_Alike_shows : Meth K a_Alike "shows" a_Alike_shows
  mk0_Alike : PySem.W.makesIn K a_Alike = true
  i0_Alike : PySem.W.findIn K (.ref a_Alike) "__init__" = some (some (.builtin "object.__init__"))
  a_Unlike : Addr
  g_Unlike : mg "Unlike" = some (.ref a_Unlike)
  k_Unlike : PySem.W.keepIn K (.ref a_Unlike) = true
  C_Unlike : ClsC K a_Unlike
  a_Unlike___init__ : Addr
  d_Unlike___init__ : FuncData
  F_Unlike___init__ : Fun K "__init__" "Unlike.__init__" s_Unlike___init__ a_Unlike___init__ d_Unlike___init__
  b_Unlike___init__ : Binds K d_Unlike___init__ ["self", "base", "place"] []
  Mk_Unlike : Mk K a_Unlike a_Unlike___init__
  a_Unlike_shows : Addr
  d_Unlike_shows : FuncData
  F_Unlike_shows : Fun K "shows" "Unlike.shows" s_Unlike_shows a_Unlike_shows d_Unlike_shows
  b_Unlike_shows : Binds K d_Unlike_shows ["self", "number", "one", "other"] []
  M_Unlike_shows : Meth K a_Unlike "shows" a_Unlike_shows
  n_Unlike_base : NoAttr K a_Unlike "base"
  n_Unlike_place : NoAttr K a_Unlike "place"
  i_Alike_Answer : PySem.W.kitOne K (.ref a_Alike) (.ref a_Answer) = some true
  i_Alike_Alike : PySem.W.kitOne K (.ref a_Alike) (.ref a_Alike) = some true
  i_Alike_Unlike : PySem.W.kitOne K (.ref a_Alike) (.ref a_Unlike) = some false
  i_Unlike_Answer : PySem.W.kitOne K (.ref a_Unlike) (.ref a_Answer) = some true
  i_Unlike_Alike : PySem.W.kitOne K (.ref a_Unlike) (.ref a_Alike) = some false
  i_Unlike_Unlike : PySem.W.kitOne K (.ref a_Unlike) (.ref a_Unlike) = some true
  m_bool : mg "bool" = none
  m_enumerate : mg "enumerate" = none
  m_int : mg "int" = none
  m_isinstance : mg "isinstance" = none
  m_len : mg "len" = none
  m_max : mg "max" = none
  m_min : mg "min" = none
  m_range : mg "range" = none
  m_str : mg "str" = none
  k_GREATEST_BASE : Tok
  c_GREATEST_BASE : mg "GREATEST_BASE" = some (.int 1000 k_GREATEST_BASE)
local macro_rules | `(tactic| walk_at "Mod") => `(tactic| first | assumption | omega)
local macro_rules | `(tactic| walk_at "FloorDiv") => `(tactic| first | assumption | exact ⟨by omega, by omega⟩)
local macro_rules | `(tactic| walk_at "Mult") => `(tactic| first | assumption | exact mulL (by omega) (by omega) | exact mulR (by omega) (by omega))
local macro_rules | `(tactic| walk_at "Pow") => `(tactic| first | assumption | exact ⟨by omega, by omega, by decide⟩ | exact ⟨by omega, by omega, by omega⟩)
/-! ### the mirrors over ints -/
def Big : Int := 2 ^ 20000
def figI (n b : Int) : List Int := (Bm.fig b.toNat n.toNat).map fun d : Nat => (d : Int)
def figV (n b : Int) : List V := (figI n b).map V.int
def valI (xs : List Int) (b : Int) : Int := xs.foldl (fun a d => a * b + d) 0
abbrev CNum (n b : Int) : Prop := 0 ≤ n ∧ n < Big ∧ 2 ≤ b ∧ b ≤ 1000
theorem ds_len_big {b n : Nat} (hb : 2 ≤ b) (h : (n : Int) < Big) : (Bm.ds b n).length ≤ 20000 := by
  rcases Nat.eq_zero_or_pos n with z | z
  · subst z
    rw [Bm.ds_lo (by omega)]
    decide
  · have d := Bm.ds_dn hb n z
    have h2 : n < 2 ^ 20000 := by
      have : ((2 ^ 20000 : Nat) : Int) = Big := by
        unfold Big
        rw [Int.natCast_pow]
        rfl
      omega
    have h3 : 2 ^ ((Bm.ds b n).length - 1) ≤ b ^ ((Bm.ds b n).length - 1) := Nat.pow_le_pow_left hb _
    have h4 : (2 : Nat) ^ ((Bm.ds b n).length - 1) < 2 ^ 20000 := Nat.lt_of_le_of_lt (Nat.le_trans h3 d) h2
    have := Bm.pow_lt (b := 2) (by omega) h4
    omega
theorem figI_nat (n b : Nat) : figI (n : Int) (b : Int) = (Bm.fig b n).map fun d : Nat => (d : Int) := by
  unfold figI
  rw [Int.toNat_natCast, Int.toNat_natCast]
theorem valI_nat (b : Nat) (l : List Nat) : valI (l.map fun d : Nat => (d : Int)) (b : Int) = ((Bm.val b l : Nat) : Int) := by
  have h : ∀ (l : List Nat) (a : Nat), (l.map fun d : Nat => (d : Int)).foldl (fun a d => a * (b : Int) + d) (a : Int) = ((l.foldl (fun a d => a * b + d) a : Nat) : Int) := by
    intro l
    induction l with
    | nil => intro a; rfl
    | cons d r ih =>
      intro a
      show (r.map fun d : Nat => (d : Int)).foldl (fun a d => a * (b : Int) + d) ((a : Int) * (b : Int) + (d : Int)) = _
      rw [← Int.natCast_mul, ← Int.natCast_add, ih]
      rfl
  exact h l 0
theorem figI_len {n b : Int} (h : CNum n b) : (figI n b).length ≤ 20000 ∧ 0 < (figI n b).length := by
  obtain ⟨h0, h1, h2, h3⟩ := h
  obtain ⟨k, rfl⟩ := Int.eq_ofNat_of_zero_le h0
  obtain ⟨c, rfl⟩ := Int.eq_ofNat_of_zero_le (show 0 ≤ b by omega)
  rw [figI_nat, List.length_map]
  unfold Bm.fig
  rw [List.length_reverse]
  exact ⟨ds_len_big (by omega) h1, Bm.ds_pos (by omega) k⟩
/-! ### the law's draws -/
def CellOk (c : Int) : Prop := c.natAbs < 2 ^ 1048576
theorem cell_bits {c : Int} (h : Builtin.Int.intBits c ≤ 1048576) : CellOk c := by
  unfold CellOk
  unfold Builtin.Int.intBits at h
  by_cases z : c.natAbs = 0
  · rw [z]
    exact Nat.pow_pos (by decide)
  · have h2 : c.natAbs.log2 + 1 ≤ 1048576 := by
      split at h
      · rename_i e
        first
          | exact absurd e z
          | exact absurd (by simpa using e) z
      · exact h
    exact Nat.lt_of_lt_of_le Nat.lt_log2_self (Nat.pow_le_pow_right (by decide) h2)
theorem pow_two_le {a b : Nat} (h : a ≤ b) : 2 ^ a ≤ 2 ^ b := Nat.pow_le_pow_right (by decide) h
theorem cell_add {c d : Int} (h : CellOk c) (hd : d.natAbs < 2 ^ 1000) : (c + d).natAbs < 2 ^ 1048577 := by
  have h1 : d.natAbs < 2 ^ 1048576 := Nat.lt_of_lt_of_le hd (pow_two_le (by decide))
  have h2 : c.natAbs < 2 ^ 1048576 := h
  have e : (2 : Nat) ^ 1048577 = 2 ^ 1048576 + 2 ^ 1048576 := by
    rw [show 1048577 = 1048576 + 1 from rfl, Nat.pow_succ, Nat.mul_two]
  have : (c + d).natAbs ≤ c.natAbs + d.natAbs := Int.natAbs_add_le c d
  generalize (2 : Nat) ^ 1048576 = q at *
  omega
theorem small_bits {d : Int} (h0 : 0 ≤ d) (h : d < 10 ^ 100) : d.natAbs < 2 ^ 1000 := by
  have h1 : d.natAbs < 10 ^ 100 := by omega
  have h2 : (10 : Nat) ^ 100 ≤ 2 ^ 400 := by decide
  exact Nat.lt_of_lt_of_le (Nat.lt_of_lt_of_le h1 h2) (pow_two_le (by decide))
theorem cell_mul {a b : Int} (ha : a.natAbs < 2 ^ 1048577) (hb : b.natAbs < 2 ^ 1048577) : IntMulOk a b := by
  have l1 := PySem.Flt.log2_lt_of (by decide) ha
  have l2 := PySem.Flt.log2_lt_of (by decide) hb
  have b1 : ∀ x : Int, Builtin.Int.intBits x ≤ x.natAbs.log2 + 1 := fun x => by
    unfold Builtin.Int.intBits
    split <;> omega
  have h1 := b1 a
  have h2 := b1 b
  have e : bitsLine = 134217728 := by decide
  unfold IntMulOk
  intro z
  rw [Bool.and_eq_true] at z
  have z2 := z.2
  unfold Builtin.Int.intTooBig at z2
  have z3 := of_decide_eq_true z2
  rw [e] at z3
  omega
def primes : List Int := [1000003, 1000033, 1000037, 1000039, 1000081, 1000099, 1000117, 1000121, 1000133, 1000151, 1000159, 1000171, 1000183, 1000187, 1000193, 1000199]
def cellI (ns : List Int) (k : Int) : Int := ns.getD k.toNat 0
def drawI (c k m : Int) : Int := (c * 48271 + k * 69621) % (primes.getD (k % 16).toNat 0) % m
def numI (c k l : Int) : Int := if 10 ^ 18 ≤ c then (c - 10 ^ 18) / (([1, 7, 49, 343, 2401] : List Int).getD (k % 5).toNat 0) % l else drawI ((c + 977 * k) * (c + 31 * k + 5)) (k % 9 + 1) 999983 % l
def greatI (ns : List Int) (k : Int) : Int := numI (cellI ns k) (k + 2) (([20, 2000, 10 ^ 9, 10 ^ 40] : List Int).getD (numI (cellI ns k) (k + 1) 4).toNat 0)
def baseI (ns : List Int) (k : Int) : Int := if numI (cellI ns k) (k + 8) 3 = 0 then 2 + numI (cellI ns k) (k + 9) 999 else ([2, 3, 10, 16, 7, 1000] : List Int).getD (numI (cellI ns k) (k + 3) 6).toNat 0
theorem atI_ints {xs : List Int} {i : Int} (h0 : 0 ≤ i) (h1 : i < xs.length) : atI (xs.map V.int) i = some (.int (xs.getD i.toNat 0)) := by
  obtain ⟨j, rfl⟩ := Int.eq_ofNat_of_zero_le h0
  have hj : j < xs.length := by omega
  refine atI_nat (j := j) ?_
  rw [List.getElem?_map, List.getElem?_eq_getElem hj, Int.toNat_natCast, List.getD_eq_getElem?_getD, List.getElem?_eq_getElem hj]
  rfl
theorem getD_all {xs : List Int} {P : Int → Prop} (h : ∀ x ∈ xs, P x) {i : Nat} (hi : i < xs.length) : P (xs.getD i 0) := by
  rw [List.getD_eq_getElem?_getD, List.getElem?_eq_getElem hi]
  exact h _ (List.getElem_mem hi)
theorem primes_pos {k : Int} : 0 < primes.getD (k % 16).toNat 0 := by
  have : (k % 16).toNat < primes.length := by
    show (k % 16).toNat < 16
    omega
  exact getD_all (P := fun x => 0 < x) (by decide) this
theorem fives_pos {k : Int} : 0 < ([1, 7, 49, 343, 2401] : List Int).getD (k % 5).toNat 0 ∧ ([1, 7, 49, 343, 2401] : List Int).getD (k % 5).toNat 0 < 1073741824 := by
  have : (k % 5).toNat < ([1, 7, 49, 343, 2401] : List Int).length := by
    show (k % 5).toNat < 5
    omega
  exact getD_all (P := fun x => 0 < x ∧ x < 1073741824) (by decide) this
theorem numI_bd {c k l : Int} (h : 0 < l) : 0 ≤ numI c k l ∧ numI c k l < l := by
  unfold numI
  split
  · exact ⟨Int.emod_nonneg _ (by omega), Int.emod_lt_of_pos _ h⟩
  · exact ⟨Int.emod_nonneg _ (by omega), Int.emod_lt_of_pos _ h⟩
theorem wides_pos {i : Int} (h0 : 0 ≤ i) (h : i < 4) : 0 < ([20, 2000, 10 ^ 9, 10 ^ 40] : List Int).getD i.toNat 0 ∧ ([20, 2000, 10 ^ 9, 10 ^ 40] : List Int).getD i.toNat 0 ≤ 10 ^ 40 := by
  have : i.toNat < ([20, 2000, 10 ^ 9, 10 ^ 40] : List Int).length := by
    show i.toNat < 4
    omega
  exact getD_all (P := fun x => 0 < x ∧ x ≤ 10 ^ 40) (by decide) this
theorem greatI_bd (ns : List Int) (k : Int) : 0 ≤ greatI ns k ∧ greatI ns k < 10 ^ 40 := by
  have a := numI_bd (c := cellI ns k) (k := k + 1) (l := 4) (by decide)
  have b := wides_pos a.1 a.2
  have c := numI_bd (c := cellI ns k) (k := k + 2) b.1
  exact ⟨c.1, Int.lt_of_lt_of_le c.2 b.2⟩
theorem baseI_bd (ns : List Int) (k : Int) : 2 ≤ baseI ns k ∧ baseI ns k ≤ 1000 := by
  unfold baseI
  split
  · have a := numI_bd (c := cellI ns k) (k := k + 9) (l := 999) (by decide)
    omega
  · have a := numI_bd (c := cellI ns k) (k := k + 3) (l := 6) (by decide)
    have : (numI (cellI ns k) (k + 3) 6).toNat < ([2, 3, 10, 16, 7, 1000] : List Int).length := by
      show _ < 6
      omega
    exact getD_all (P := fun x => 2 ≤ x ∧ x ≤ 1000) (by decide) this
abbrev CellsOk (ns : List Int) : Prop := ∀ n ∈ ns, CellOk n
theorem cellI_ok {ns : List Int} (h : CellsOk ns) (k : Int) : CellOk (cellI ns k) := by
  unfold cellI
  rw [List.getD_eq_getElem?_getD]
  cases e : ns[k.toNat]? with
  | none =>
    show CellOk 0
    exact Nat.pow_pos (by decide)
  | some x => exact h x (List.mem_of_getElem? e)
theorem big_of {n : Int} (h : n < 10 ^ 600) : n < Big := by
  have e : (10 : Nat) ^ 600 ≤ 2 ^ 20000 := by
    have h1 : (10 : Nat) ^ 600 ≤ 16 ^ 600 := Nat.pow_le_pow_left (by decide) _
    have h2 : (16 : Nat) ^ 600 = 2 ^ (4 * 600) := by
      rw [Nat.pow_mul]
    rw [h2] at h1
    exact Nat.le_trans h1 (pow_two_le (by decide))
  have e2 : (10 : Int) ^ 600 ≤ Big := by
    unfold Big
    have := Int.ofNat_le.mpr e
    rw [Int.natCast_pow, Int.natCast_pow] at this
    exact this
  exact Int.lt_of_lt_of_le h e2
theorem big_40 {n : Int} (h : n < 10 ^ 100) : n < Big := big_of (Int.lt_trans h (by
  have h1 : (10 : Int) ^ 100 * 1 < 10 ^ 100 * 10 ^ 500 := Int.mul_lt_mul_of_pos_left (by
    have : ((1 : Nat) : Int) < ((10 ^ 500 : Nat) : Int) := Int.ofNat_lt.mpr (Nat.one_lt_pow (by decide) (by decide))
    rw [Int.natCast_pow] at this
    exact this) (Int.pow_pos (by decide))
  rw [Int.mul_one, ← Int.pow_add] at h1
  exact h1))
/-! ### counted: the mirrors over ints -/
def Mid : Int := 2 ^ 700
def cntI (m b : Int) : Int := ((Bm.cnt b.toNat m.toNat : Nat) : Int)
def madeI (h m b : Int) : Int := ((Bm.made b.toNat h.toNat m.toNat : Nat) : Int)
def nbI (a b : Int) : Int := ((Bm.nb b.toNat a.toNat : Nat) : Int)
def blI (n b : Int) : Int := ((Bm.bl b.toNat n.toNat : Nat) : Int)
abbrev CB (b : Int) : Prop := 2 ≤ b ∧ b ≤ 1000
abbrev CAt (a b : Int) : Prop := 0 ≤ a ∧ a < Mid ∧ CB b
theorem mid_nat {n : Nat} (h : (n : Int) < Mid) : n < 2 ^ 700 := by
  have : ((2 ^ 700 : Nat) : Int) = Mid := by
    unfold Mid
    rw [Int.natCast_pow]
    rfl
  omega
theorem nat_mid {n : Nat} (h : n < 2 ^ 700) : (n : Int) < Mid := by
  have : ((2 ^ 700 : Nat) : Int) = Mid := by
    unfold Mid
    rw [Int.natCast_pow]
    rfl
  omega
theorem nat_big {n : Nat} (h : n < 2 ^ 20000) : (n : Int) < Big := by
  have : ((2 ^ 20000 : Nat) : Int) = Big := by
    unfold Big
    rw [Int.natCast_pow]
    rfl
  omega
theorem mid_of {n : Int} (h : n < 10 ^ 200) : n < Mid := by
  have e : (10 : Nat) ^ 200 ≤ 2 ^ 700 := by decide +kernel
  have e2 : (10 : Int) ^ 200 ≤ Mid := by
    unfold Mid
    have := Int.ofNat_le.mpr e
    rw [Int.natCast_pow, Int.natCast_pow] at this
    exact this
  exact Int.lt_of_lt_of_le h e2
theorem nb_cn {a b : Int} (h : CAt a b) : CNum (nbI a b) b := by
  obtain ⟨h0, h1, h2, h3⟩ := h
  obtain ⟨k, rfl⟩ := Int.eq_ofNat_of_zero_le h0
  obtain ⟨c, rfl⟩ := Int.eq_ofNat_of_zero_le (show 0 ≤ b by omega)
  refine ⟨by unfold nbI; omega, ?_, h2, h3⟩
  unfold nbI
  rw [Int.toNat_natCast, Int.toNat_natCast]
  refine nat_big (Nat.lt_of_lt_of_le (Bm.size_of_bl (b := c) (by omega) (by omega) ?_) (pow_two_le (by decide)))
  rw [(Bm.nb_ok (by omega) k).1]
  exact mid_nat h1
section
variable {P : Program} {w : World} {K : PySem.W.Frag} {mg : Str → Option Value} {base : Heap}
def sp_is_whole : Sp := spI1 (fun _ => True) fun _ => .bl true
theorem ok_is_whole (T : Tx K mg) : FnOk P w K mg base CX0 1 T.a_is_whole T.d_is_whole ["thing"] sp_is_whole := by
  refine T.F_is_whole.ok sc_is_whole (fun vs H Q E h => ?_) (fun cdv A outer s H vs Q E hr h => ?_)
  · obtain ⟨a, rfl, _⟩ := h
    rfl
  · obtain ⟨a, rfl, _, q⟩ := h
    refine ⟨_, (pss_one (ps_ret (pe_and (pe_callB call_isi (by rfl) T.m_isinstance (by decide +kernel) (pa_cons (pv 0) (pa_cons (pe_bltn (v := .ty "int") (by rfl) T.m_int (by decide +kernel) rfl) pa_nil))) (pe_one (pe_not (pe_callB call_isi (by rfl) T.m_isinstance (by decide +kernel) (pa_cons (pv 0) (pa_cons (pe_bltn (v := .ty "bool") (by rfl) T.m_bool (by decide +kernel) rfl) pa_nil)))))))), ?_⟩
    exact s_ret (ev_andV (ev_isI (b := true) (ev_var rfl) (by decide +kernel)) fun _ => ev_notV (ev_isI (b := false) (ev_var rfl) (by decide +kernel))) q

def sp_check_number : Sp := spI1 (fun n => 0 ≤ n) fun _ => .non
theorem ok_check_number (T : Tx K mg) : FnOk P w K mg base CX0 2 T.a_check_number T.d_check_number ["number"] sp_check_number := by
  refine T.F_check_number.ok sc_check_number (fun vs H Q E h => ?_) (fun cdv A outer s H vs Q E hr h => ?_)
  · obtain ⟨a, rfl, _⟩ := h
    rfl
  · obtain ⟨a, rfl, h0, q⟩ := h
    refine ⟨_, (pss_one (ps_if (PW.pt (pw_or (pt_not (pt_val (pe_call (ok_is_whole T) (hr.mono (by decide)) (by rfl) T.g_is_whole T.F_is_whole.kp T.b_is_whole .nil pass0 (pa_cons (pv 0) pa_nil)))) (pw_or1 (pt_cmpR op_lt (pv 0) pe_int (nomark _))))) (pss_one ps_never) pss_nil)), ?_⟩
    refine s_no (et_or (et_not (et_B (ec1 (ev_var rfl) trivial))) fun _ => et_test (ev_op (ev_var rfl) ev_c rv_I0)) ?_ q
    simp only [Bool.not_true, Bool.false_or, decide_eq_false_iff_not]
    omega

def sp_check_base : Sp := spI1 (fun n => 2 ≤ n ∧ n ≤ 1000) fun _ => .non
theorem ok_check_base (T : Tx K mg) : FnOk P w K mg base CX0 2 T.a_check_base T.d_check_base ["base"] sp_check_base := by
  refine T.F_check_base.ok sc_check_base (fun vs H Q E h => ?_) (fun cdv A outer s H vs Q E hr h => ?_)
  · obtain ⟨a, rfl, _⟩ := h
    rfl
  · obtain ⟨a, rfl, h0, q⟩ := h
    refine ⟨_, (pss_one (ps_if (PW.pt (pw_or (pt_not (pt_val (pe_call (ok_is_whole T) (hr.mono (by decide)) (by rfl) T.g_is_whole T.F_is_whole.kp T.b_is_whole .nil pass0 (pa_cons (pv 0) pa_nil)))) (pw_or1 (pt_not (pt_chain op_le op_le pe_int (pv 0) (pe_glob (v := .int 1000) (by rfl) T.c_GREATEST_BASE ⟨_, rfl⟩)))))) (pss_one ps_never) pss_nil)), ?_⟩
    refine s_no (et_or (et_not (et_B (ec1 (ev_var rfl) trivial))) fun _ => et_not (et_test (ev_chain ev_c (ev_var rfl) ev_c rv_I0 fun _ => rv_I0))) ?_ q
    have h1 := h0.1
    have h2 := h0.2
    simp only [Bool.not_true, Bool.false_or, Bool.not_eq_false', Bool.and_eq_true, decide_eq_true_eq]
    omega

def sp_figures_of : Sp := spL2 CNum figV
set_option maxHeartbeats 1000000 in
theorem ok_figures_of (T : Tx K mg) : FnOk P w K mg base CX0 1 T.a_figures_of T.d_figures_of ["number", "base"] sp_figures_of := by
  refine T.F_figures_of.ok sc_figures_of (fun vs H Q E h => ?_) (fun cdv A outer s H vs Q E hr h => ?_)
  · obtain ⟨a, b, rfl, _⟩ := h
    rfl
  · obtain ⟨n, b, rfl, ⟨h0, h1, h2, h3⟩, q⟩ := h
    obtain ⟨k, rfl⟩ := Int.eq_ofNat_of_zero_le h0
    obtain ⟨c, rfl⟩ := Int.eq_ofNat_of_zero_le (show 0 ≤ b by omega)
    have hc : 2 ≤ c := by omega
    have hlen := ds_len_big hc h1
    refine ⟨_, (pss_cons (ps_set (i := 2) sc_figures_of.nd rfl (Or.inl rfl) (pe_lst (pa_cons (pe_op op_mod (pv 0) (pv 1)) pa_nil)))
      (pss_cons (ps_while PassesOwn.never (pt_cmpR op_ge (pv 0) (pv 1) (nomark _))
      (pss_cons (ps_set (i := 0) sc_figures_of.nd rfl (Or.inl rfl) (pe_op op_fdiv (pv 0) (pv 1)))
      (pss_one (ps_expr (pe_bm PySem.F.plainAttrs_list PySem.F.slot_list_append PySem.F.type_list_append mt_append (pv 2) (pa_cons (pe_op op_mod (pv 0) (pv 1)) pa_nil))))))
      (pss_one (ps_ret (pe_revL (pv 2)))))), ?_⟩
    refine q_asgL (el_lst (ea_cons (ev_op (ev_var rfl) (ev_var rfl) (rv_I (by omega))) ea_nil) (by simp)) fun p H1 hp e1 l1 => ?_
    refine q_while (fun m σ' H' => ∃ (pre : List Nat), σ' = [some (.int (m : Int)), some (.int (c : Int)), some (.ref p)] ∧ Ex H H' ∧ H' p = some (.lst ((pre ++ [m % c]).map fun d : Nat => V.int (d : Int))) ∧ pre ++ Bm.ds c m = Bm.ds c k) k ⟨[], rfl, e1, ?_, rfl⟩ fun j σ' H' hW => ?_
    · rw [l1]
      show _ = some (HO.lst [V.int ((k % c : Nat) : Int)])
      rw [Int.natCast_emod]
    · obtain ⟨pre, rfl, ex, lp, hd⟩ := hW
      refine ⟨decide ((c : Int) ≤ (j : Int)), et_test (ev_op (ev_var rfl) (ev_var rfl) rv_I0), fun hb H2 e2 => ?_, fun hb H2 e2 => ?_⟩
      · have hb2 := of_decide_eq_true hb
        have hj : ¬ j < c := by omega
        have hjl : j / c < j := Nat.div_lt_self (by omega) (by omega)
        have hpl : pre.length + 1 < 100000 := by
          have := congrArg List.length hd
          rw [List.length_append] at this
          have := Bm.ds_pos hc j
          omega
        refine ⟨fun σ2 H3 => ∃ (j' : Nat) (pre' : List Nat), j' = j / c ∧ σ2 = [some (.int (j' : Int)), some (.int (c : Int)), some (.ref p)] ∧ Ex H H3 ∧ H3 p = some (.lst ((pre' ++ [j' % c]).map fun d : Nat => V.int (d : Int))) ∧ pre' ++ Bm.ds c j' = Bm.ds c k, fun σ2 H3 hN => ?_, ?_⟩
        · obtain ⟨j', pre', rfl, a1, a2, a3, a4⟩ := hN
          exact ⟨j / c, hjl, pre', a1, a2, a3, a4⟩
        · refine q_asg (ev_op (ev_var rfl) (ev_var rfl) (rv_I ⟨by omega, by omega⟩)) fun H3 e3 => ?_
          refine s_app (l := p) (xs := (pre ++ [j % c]).map fun d : Nat => V.int (d : Int)) (e3 p _ (e2 p _ lp)) (ev_var rfl) (ev_op (ev_var rfl) (ev_var rfl) (rv_I (by omega))) ?_ fun H4 e4 => ?_
          · rw [List.length_map, List.length_append]
            simpa using hpl
          · refine ⟨j / c, pre ++ [j % c], rfl, ?_, ?_, ?_, ?_⟩
            · rw [Int.natCast_ediv]
              rfl
            · exact Ex.mut ((ex.trans e2).trans (e3.trans e4)) hp
            · rw [upd_same, List.map_append (l₂ := [j / c % c]), List.map_singleton, Int.natCast_emod, Int.natCast_ediv]
            · rw [List.append_assoc, ← hd, Bm.ds_hi hc hj]
              rfl
      · have hb2 := of_decide_eq_false hb
        have hj : j < c := by omega
        refine s_retL (el_rev (ev_var rfl) (sq_of (e2 p _ lp))) fun r H3 hr3 e3 l3 => ?_
        refine q r H3 (fresh_back (ex.trans e2) hr3) ((ex.trans e2).trans e3) ?_
        rw [l3, Nat.mod_eq_of_lt hj]
        rw [Bm.ds_lo hj] at hd
        rw [hd]
        unfold figV figI Bm.fig
        rw [Int.toNat_natCast, Int.toNat_natCast, List.map_map, List.map_reverse]
        rfl

def sp_number_from (K : PySem.W.Frag) : Sp := spR K (fun _ b => 2 ≤ b ∧ b ≤ 1000) fun xs b => .int (valI xs b)
theorem ok_number_from (T : Tx K mg) : FnOk P w K mg base CX0 1 T.a_number_from T.d_number_from ["row", "base"] (sp_number_from K) := by
  refine T.F_number_from.ok sc_number_from (fun vs H Q E h => ?_) (fun cdv A outer s H vs Q E hr h => ?_)
  · obtain ⟨p, xs, b, rfl, _⟩ := h
    rfl
  · obtain ⟨p, xs, b, rfl, hs, hb, q⟩ := h
    refine ⟨_, (pss_cons (ps_set (i := 2) sc_number_from.nd rfl (Or.inl rfl) pe_int)
      (pss_cons (ps_for PassesOwn.never rfl (pi_list (pv 0)) (pg_name (i := 3) sc_number_from.nd rfl (Or.inl rfl))
      (pss_one (ps_set (i := 2) sc_number_from.nd rfl (Or.inl rfl) (pe_op op_add (pe_op op_mulX (pv 2) (pv 1)) (pv 3)))))
      (pss_one (ps_ret (pv 2))))), ?_⟩
    refine q_asg ev_c fun H1 e1 => ?_
    refine q_forLn (ev_var rfl) (ex_l e1 hs) (fun i σ' H' => (∃ y, σ' = [some (.ref p), some (.int b), some (.int (valI (xs.take i) b)), y]) ∧ Ex H H') (fun H2 e2 => ⟨⟨_, rfl⟩, e1.trans e2⟩) (fun i σ' H' _ w => ex_l w.2 hs) (fun i x σ' H' hx w => ?_) (fun σ' H' w => ?_)
    · obtain ⟨⟨y, rfl⟩, ex⟩ := w
      rw [List.getElem?_map] at hx
      obtain ⟨d, hd, rfl⟩ := Option.map_eq_some_iff.mp hx
      refine s_asg (ev_op (ev_op (ev_var rfl) (ev_var rfl) (rv_I (mulR (by omega) (by omega)))) (ev_var rfl) rv_I0) fun H2 e2 => ⟨⟨some (.int d), ?_⟩, ex.trans e2⟩
      have : valI (xs.take (i + 1)) b = valI (xs.take i) b * b + d := by
        unfold valI
        rw [List.take_add_one, hd, List.foldl_append]
        rfl
      rw [this]
      rfl
    · obtain ⟨⟨y, rfl⟩, ex⟩ := w
      rw [List.length_map, List.take_length]
      exact s_ret (ev_var rfl) fun H2 e2 => q H2 (ex.trans e2)

/-- the first place whose figure isn't that as far from the end -/
def fwL (l : List Int) : Int := match (List.range l.length).find? (fun i => decide (l.getD i 0 ≠ l.getD (l.length - 1 - i) 0)) with
  | some i => (i : Int)
  | none => -1
def fwI (n b : Int) : Int := fwL (figI n b)
theorem fw_some {l : List Int} {i : Nat} (hi : i < l.length) (h : l.getD i 0 ≠ l.getD (l.length - 1 - i) 0) (hb : ∀ j, j < i → l.getD j 0 = l.getD (l.length - 1 - j) 0) : fwL l = (i : Int) := by
  have e : (List.range l.length).find? (fun i => decide (l.getD i 0 ≠ l.getD (l.length - 1 - i) 0)) = some i := by
    rw [List.find?_range_eq_some]
    exact ⟨decide_eq_true h, List.mem_range.mpr hi, fun j hj => by rw [hb j hj]; simp⟩
  unfold fwL
  rw [e]
theorem fw_none {l : List Int} (hb : ∀ j, j < l.length → l.getD j 0 = l.getD (l.length - 1 - j) 0) : fwL l = -1 := by
  have e : (List.range l.length).find? (fun i => decide (l.getD i 0 ≠ l.getD (l.length - 1 - i) 0)) = none := by
    rw [List.find?_range_eq_none]
    intro j hj
    rw [hb j hj]
    simp
  unfold fwL
  rw [e]
def sp_first_wrong : Sp := spI2 CNum fun n b => .int (fwI n b)
set_option maxHeartbeats 1000000 in
theorem ok_first_wrong (T : Tx K mg) : FnOk P w K mg base CX0 2 T.a_first_wrong T.d_first_wrong ["number", "base"] sp_first_wrong := by
  refine T.F_first_wrong.ok sc_first_wrong (fun vs H Q E h => ?_) (fun cdv A outer s H vs Q E hr h => ?_)
  · obtain ⟨a, b, rfl, _⟩ := h
    rfl
  · obtain ⟨n, b, rfl, c, q⟩ := h
    refine ⟨_, (pss_cons (ps_set (i := 2) sc_first_wrong.nd rfl (Or.inl rfl) (pe_call (ok_figures_of T) (hr.mono (by decide)) (by rfl) T.g_figures_of T.F_figures_of.kp T.b_figures_of .nil pass0 (pa_cons (pv 0) (pa_cons (pv 1) pa_nil))))
      (pss_cons (ps_for PassesOwn.never rfl (pi_enum (by rfl) T.m_enumerate (pa_cons (pv 2) pa_nil)) (pg_tup rfl (pgs_cons (pg_name (i := 3) sc_first_wrong.nd rfl (Or.inl rfl)) (pgs_cons (pg_name (i := 4) sc_first_wrong.nd rfl (Or.inl rfl)) pgs_nil)))
      (pss_one (ps_if (pt_cmpR op_ne (pv 4) (pe_ix ix_list (pv 2) (pe_op op_sub (pe_op op_sub (pe_callB (r := rLenS _) call_len_seq (by rfl) T.m_len PySem.boot_len (pa_cons (pv 2) pa_nil)) pe_int) (pv 3)) (fun _ _ => rfl)) (nomark _)) (pss_one (ps_ret (pv 3))) pss_nil)))
      (pss_one (ps_ret (pe_un un_neg pe_int))))), ?_⟩
    refine q_asgL (el2 (ev_var rfl) (ev_var rfl) c) fun p H1 hp e1 l1 => ?_
    have hfl : (figV n b).length = (figI n b).length := List.length_map ..
    refine q_forEn (a := p) (xs := figV n b) (ea_cons (ev_var rfl) ea_nil) (sq_of l1) (fun i σ' H' => (∃ y3 y4, σ' = [some (.int n), some (.int b), some (.ref p), y3, y4]) ∧ Ex H1 H' ∧ ∀ j, j < i → (figI n b).getD j 0 = (figI n b).getD ((figI n b).length - 1 - j) 0) (fun H2 e2 => ⟨⟨_, _, rfl⟩, e2, fun j hj => absurd hj (Nat.not_lt_zero j)⟩) (fun i σ' H' w => sq_of (w.2.1 _ _ l1)) (fun i x σ' H' T' hx w nT => ?_) (fun σ' H' w => ?_)
    · obtain ⟨⟨y3, y4, rfl⟩, ex, hj⟩ := w
      have hi : i < (figI n b).length := by
        rw [← hfl]
        exact (List.getElem?_eq_some_iff.mp hx).1
      have ex' : x = .int ((figI n b).getD i 0) := by
        unfold figV at hx
        rw [List.getElem?_map, List.getElem?_eq_getElem hi] at hx
        rw [List.getD_eq_getElem?_getD, List.getElem?_eq_getElem hi]
        exact (Option.some.inj hx).symm
      subst ex'
      have exT : Ex H1 (upd H' T' (.tup [.int (i : Int), .int ((figI n b).getD i 0)])) := ex.trans (Ex.new nT)
      have lT := exT _ _ l1
      have eix : (figV n b).length - 1 - i < (figI n b).length := by omega
      refine s_when (b := !decide (V.int ((figI n b).getD i 0) = V.int ((figI n b).getD ((figI n b).length - 1 - i) 0))) (et_test (ev_op (ev_var rfl) (ev_ixV (ev_var rfl) (sq_of lT) (ev_op (ev_op (ev_len (ev_var rfl) (sq_of lT)) ev_c rv_I0) (ev_var rfl) rv_I0) ?ix) (rv_ne rfl))) (fun hb H2 e2 => ?_) (fun hb H2 e2 => ?_)
      case ix =>
        have a1 := atI_ints (xs := figI n b) (i := ((figV n b).length : Int) - 1 - (i : Int)) (by omega) (by omega)
        rw [show (((figV n b).length : Int) - 1 - (i : Int)).toNat = (figI n b).length - 1 - i by omega] at a1
        exact a1
      · have hne : (figI n b).getD i 0 ≠ (figI n b).getD ((figI n b).length - 1 - i) 0 := fun z => by
          rw [z, decide_eq_true rfl] at hb
          cases hb
        have efw : fwI n b = (i : Int) := fw_some hi hne hj
        dsimp only at q
        rw [efw] at q
        exact s_ret (ev_var rfl) fun H3 e3 => q H3 (e1.trans ((exT.trans e2).trans e3))
      · refine ⟨⟨_, _, rfl⟩, exT.trans e2, fun j hj' => ?_⟩
        rcases Nat.lt_or_ge j i with z | z
        · exact hj j z
        · have : j = i := by omega
          subst this
          have := of_decide_eq_true ((Bool.not_eq_false' ..).mp hb)
          exact V.int.inj this
    · obtain ⟨⟨y3, y4, rfl⟩, ex, hj⟩ := w
      rw [hfl] at hj
      have efw : fwI n b = -1 := fw_none hj
      dsimp only at q
      rw [efw] at q
      exact s_ret (ev_un ev_c ru_neg) fun H3 e3 => q H3 (e1.trans (ex.trans e3))

def uf (b p : Int) : List (Str × V) := putF "place" (.int p) (putF "base" (.int b) [])
theorem uf_place {b p : Int} : (uf b p).lookup ("place" : Str) = some (.int p) := by
  unfold uf
  rw [lookup_putF, if_pos rfl]
theorem uf_base {b p : Int} : (uf b p).lookup ("base" : Str) = some (.int b) := by
  unfold uf
  rw [lookup_putF, if_neg (by decide +kernel), lookup_putF, if_pos rfl]
theorem uf_shows {b p : Int} : (uf b p).lookup ("shows" : Str) = none := by
  unfold uf
  rw [lookup_putF, if_neg (by decide +kernel), lookup_putF, if_neg (by decide +kernel)]
  rfl
def sp_Unlike___init__ (C : Addr) : Sp := fun vs H Q _ => ∃ x dx b p, vs = [.ref x, .int b, .int p] ∧ H x = some (.ins C dx []) ∧ ∀ H' : Hp, (∀ a o, a ≠ x → H a = some o → H' a = some o) → H' x = some (.ins C dx (uf b p)) → Q .non H'
theorem ok_Unlike___init__ (T : Tx K mg) : FnOk P w K mg base CX0 1 T.a_Unlike___init__ T.d_Unlike___init__ ["self", "base", "place"] (sp_Unlike___init__ T.a_Unlike) := by
  refine T.F_Unlike___init__.ok sc_Unlike___init__ (fun vs H Q E h => ?_) (fun cdv A outer s H vs Q E hr h => ?_)
  · obtain ⟨x, dx, b, p, rfl, _⟩ := h
    rfl
  · obtain ⟨x, dx, b, p, rfl, hx, q⟩ := h
    refine ⟨_, (pss_cons (ps_fld (pv 0) (pv 1) rfl)
      (pss_one (ps_fld (pv 0) (pv 2) rfl))), ?_⟩
    refine ⟨_, rfl, _, rfl, x, T.a_Unlike, dx, [], rfl, hx, T.C_Unlike.cl, T.n_Unlike_base, by show 0 < 1000; decide, ?_⟩
    refine ⟨_, rfl, _, rfl, x, T.a_Unlike, dx, _, rfl, upd_same, T.C_Unlike.cl, T.n_Unlike_place, by show 1 < 1000; decide, ?_⟩
    exact q _ (fun a o ha h => by rw [upd_ne ha, upd_ne ha]; exact h) upd_same
theorem ei_unlike {σ : L2.St} {H : Hp} {ta tb : TE} {b p : Int} {C : Addr} {E : XK} (h1 : Ev ta σ H (.int b)) (h2 : Ev tb σ H (.int p)) : EvI (tMake C (sp_Unlike___init__ C) [] E (tCons ta (tCons tb tNil))) σ H C (uf b p) := fun H1 e Q q =>
  h1 H1 e _ fun H2 e2 => h2 H2 (e.trans e2) _ fun H3 e3 x dx hx hd hn => ⟨x, dx, b, p, rfl, upd_same, fun H' k l => ⟨rfl, q x dx H' (fresh_back (e2.trans e3) hx) (fun a o ha => by
    have h3 := e3 _ _ (e2 _ _ ha)
    have n1 : a ≠ x := fun z => by rw [z, hx] at h3; cases h3
    have n2 : a ≠ dx := fun z => by rw [z, hd] at h3; cases h3
    exact k a o n1 (by rw [upd_ne n1, upd_ne n2]; exact h3)) l⟩⟩

def ashI (n a b : Int) : Bool := decide (fwI n a < 0) && decide (fwI n b < 0)
def sp_Alike_shows : Sp := fun vs H Q _ => ∃ x n a b, vs = [x, .int n, .int a, .int b] ∧ (CNum n a ∧ CB b) ∧ RetV (.bl (ashI n a b)) H Q
theorem sv_Alike_shows {H : Hp} {x : V} {n a b : Int} (h : CNum n a ∧ CB b) : SpV sp_Alike_shows [x, .int n, .int a, .int b] H (.bl (ashI n a b)) := fun _ _ _ q _ => ⟨x, n, a, b, rfl, h, q⟩
theorem ok_Alike_shows (T : Tx K mg) : FnOk P w K mg base CX0 3 T.a_Alike_shows T.d_Alike_shows ["self", "number", "one", "other"] sp_Alike_shows := by
  refine T.F_Alike_shows.ok sc_Alike_shows (fun vs H Q E h => ?_) (fun cdv A outer s H vs Q E hr h => ?_)
  · obtain ⟨x, n, a, b, rfl, _⟩ := h
    rfl
  · obtain ⟨x, n, a, b, rfl, ⟨c1, c2⟩, q⟩ := h
    refine ⟨_, (pss_one (ps_ret (pe_and (pe_cmpR op_lt (pe_call (ok_first_wrong T) (hr.mono (by decide)) (by rfl) T.g_first_wrong T.F_first_wrong.kp T.b_first_wrong .nil pass0 (pa_cons (pv 1) (pa_cons (pv 2) pa_nil))) pe_int (nomark _)) (pe_one (pe_cmpR op_lt (pe_call (ok_first_wrong T) (hr.mono (by decide)) (by rfl) T.g_first_wrong T.F_first_wrong.kp T.b_first_wrong .nil pass0 (pa_cons (pv 1) (pa_cons (pv 3) pa_nil))) pe_int (nomark _)))))), ?_⟩
    have c3 : CNum n b := ⟨c1.1, c1.2.1, c2⟩
    exact s_ret (ev_andV (ev_op (ec2 (ev_var rfl) (ev_var rfl) (by first | exact c1 | exact c3)) ev_c rv_I0) fun _ => (ev_op (ec2 (ev_var rfl) (ev_var rfl) (by first | exact c1 | exact c3)) ev_c rv_I0)) q
theorem eqV_int (a b : Int) : eqV (.int a) (.int b) = decide (a = b) := by
  first
    | rfl
    | (unfold eqV; rfl)
    | simp [eqV]
theorem inV2 (x a b : Int) : inV (.int x) [.int a, .int b] = (decide (a = x) || decide (b = x)) := by
  unfold inV
  simp only [List.any_cons, List.any_nil, Bool.or_false, eqV_int]
def ushI (u p n a b : Int) : Bool := inV (.int u) [.int a, .int b] && (decide (0 ≤ p) && decide (V.int (fwI n u) = V.int p))
def sp_Unlike_shows (C : Addr) : Sp := fun vs H Q _ => ∃ x dx u p n a b, vs = [.ref x, .int n, .int a, .int b] ∧ H x = some (.ins C dx (uf u p)) ∧ (CNum n a ∧ CB b) ∧ RetV (.bl (ushI u p n a b)) H Q
theorem sv_Unlike_shows {H : Hp} {C x dx : Addr} {u p n a b : Int} (hx : H x = some (.ins C dx (uf u p))) (h : CNum n a ∧ CB b) : SpV (sp_Unlike_shows C) [.ref x, .int n, .int a, .int b] H (.bl (ushI u p n a b)) := fun _ e _ q _ => ⟨x, dx, u, p, n, a, b, rfl, e _ _ hx, h, q⟩
theorem ok_Unlike_shows (T : Tx K mg) : FnOk P w K mg base CX0 3 T.a_Unlike_shows T.d_Unlike_shows ["self", "number", "one", "other"] (sp_Unlike_shows T.a_Unlike) := by
  refine T.F_Unlike_shows.ok sc_Unlike_shows (fun vs H Q E h => ?_) (fun cdv A outer s H vs Q E hr h => ?_)
  · obtain ⟨x, dx, u, p, n, a, b, rfl, _⟩ := h
    rfl
  · obtain ⟨x, dx, u, p, n, a, b, rfl, hx, ⟨c1, c2⟩, q⟩ := h
    refine ⟨_, (pss_one (ps_ret (pe_and (pe_cmpR op_in_seq (pe_fld (pv 0) rfl) (pe_tup (pa_cons (pv 2) (pa_cons (pv 3) pa_nil))) (by rfl)) (pe_and (pe_cmpR op_ge (pe_fld (pv 0) rfl) pe_int (nomark _)) (pe_one (pe_cmpR op_eq (pe_call (ok_first_wrong T) (hr.mono (by decide)) (by rfl) T.g_first_wrong T.F_first_wrong.kp T.b_first_wrong .nil pass0 (pa_cons (pv 1) (pa_cons (pe_fld (pv 0) rfl) pa_nil))) (pe_fld (pv 0) rfl) (nomark _))))))), ?_⟩
    have hcn : inV (.int u) [.int a, .int b] = true → CNum n u := fun z => by
      rw [inV2, Bool.or_eq_true, decide_eq_true_eq, decide_eq_true_eq] at z
      rcases z with z | z
      · rw [← z]
        exact c1
      · rw [← z]
        exact ⟨c1.1, c1.2.1, c2⟩
    exact s_ret (ev_andV (ev_inU (ev_fld (ev_var rfl) hx T.C_Unlike.cl T.n_Unlike_base uf_base) (eu_tup (ea_cons (ev_var rfl) (ea_cons (ev_var rfl) ea_nil)) (by simp)) rfl rfl) fun _ => (ev_andV (ev_op (ev_fld (ev_var rfl) hx T.C_Unlike.cl T.n_Unlike_place uf_place) ev_c rv_I0) fun _ => (ev_op (ec2 (ev_var rfl) (ev_fld (ev_var rfl) hx T.C_Unlike.cl T.n_Unlike_base uf_base) (hcn (by assumption))) (ev_fld (ev_var rfl) hx T.C_Unlike.cl T.n_Unlike_place uf_place) (rv_eq rfl)))) q

def sp_power : Sp := spI2 (fun b t => CB b ∧ 0 ≤ t ∧ t ≤ 100000) fun b t => .int (b ^ t.toNat)
theorem ok_power (T : Tx K mg) : FnOk P w K mg base CX0 1 T.a_power T.d_power ["base", "times"] sp_power := by
  refine T.F_power.ok sc_power (fun vs H Q E h => ?_) (fun cdv A outer s H vs Q E hr h => ?_)
  · obtain ⟨a, b, rfl, _⟩ := h
    rfl
  · obtain ⟨b, t, rfl, ⟨hb, h0, h1⟩, q⟩ := h
    refine ⟨_, (pss_cons (ps_set (i := 2) sc_power.nd rfl (Or.inl rfl) pe_int)
      (pss_cons (ps_for PassesOwn.never rfl (pi_range1 (by rfl) T.m_range (pa_cons (pv 1) pa_nil)) (pg_name (i := 3) sc_power.nd rfl (Or.inl rfl))
      (pss_one (ps_set (i := 2) sc_power.nd rfl (Or.inl rfl) (pe_op op_mulX (pv 2) (pv 0)))))
      (pss_one (ps_ret (pv 2))))), ?_⟩
    refine q_asg ev_c fun H1 e1 => ?_
    refine q_forR1 (n := t) (ea_cons (ev_var rfl) ea_nil) ⟨h0, h1⟩ (fun i σ' H' => (∃ y, σ' = [some (.int b), some (.int t), some (.int (b ^ i)), y]) ∧ Ex H H') (fun H2 e2 => ⟨⟨none, by rw [Int.pow_zero]; rfl⟩, e1.trans e2⟩) (fun i σ' H' hi w => ?_) (fun σ' H' w => ?_)
    · obtain ⟨⟨y, rfl⟩, ex⟩ := w
      refine s_asg (ev_op (ev_var rfl) (ev_var rfl) (rv_I (mulR (by omega) (by omega)))) fun H2 e2 => ⟨⟨some (.int (i : Int)), ?_⟩, ex.trans e2⟩
      rw [Int.pow_succ]
      rfl
    · obtain ⟨⟨y, rfl⟩, ex⟩ := w
      exact s_ret (ev_var rfl) fun H2 e2 => q H2 (ex.trans e2)

def sp_many_of : Sp := spI2 (fun m b => 1 ≤ m ∧ m ≤ 100000 ∧ CB b) fun m b => .int (cntI m b)
theorem ok_many_of (T : Tx K mg) : FnOk P w K mg base CX0 2 T.a_many_of T.d_many_of ["many", "base"] sp_many_of := by
  refine T.F_many_of.ok sc_many_of (fun vs H Q E h => ?_) (fun cdv A outer s H vs Q E hr h => ?_)
  · obtain ⟨a, b, rfl, _⟩ := h
    rfl
  · obtain ⟨m, b, rfl, ⟨h0, h1, hb⟩, q⟩ := h
    refine ⟨_, (pss_cons (ps_if (pt_cmpR op_eq (pv 0) pe_int (nomark _)) (pss_one (ps_ret (pv 1))) pss_nil)
      (pss_one (ps_ret (pe_op op_mulX (pe_op op_sub (pv 1) pe_int) (pe_call (ok_power T) (hr.mono (by decide)) (by rfl) T.g_power T.F_power.kp T.b_power .nil pass0 (pa_cons (pv 1) (pa_cons (pe_op op_fdiv (pe_op op_sub (pv 0) pe_int) pe_int) pa_nil))))))), ?_⟩
    refine q_when (et_test (ev_op (ev_var rfl) ev_c (rv_eq rfl))) (fun hb' H1 e1 => ?_) (fun hb' H1 e1 => ?_)
    · have e : m = 1 := V.int.inj (of_decide_eq_true hb')
      subst e
      have e2 : cntI 1 b = b := by
        show ((b.toNat : Nat) : Int) = b
        omega
      dsimp only at q
      rw [e2] at q
      exact s_ret (ev_var rfl) fun H2 e2 => q H2 (e1.trans e2)
    · have e : m ≠ 1 := fun z => of_decide_eq_false hb' (congrArg V.int z)
      have e2 : cntI m b = (b - 1) * b ^ ((m - 1) / 2).toNat := by
        obtain ⟨k, rfl⟩ := Int.eq_ofNat_of_zero_le (show 0 ≤ m by omega)
        obtain ⟨c, rfl⟩ := Int.eq_ofNat_of_zero_le (show 0 ≤ b by omega)
        unfold cntI Bm.cnt
        rw [Int.toNat_natCast, Int.toNat_natCast, if_neg (by omega), Int.natCast_mul, Int.natCast_pow, Int.natCast_sub (by omega)]
        congr 2
        omega
      dsimp only at q
      rw [e2] at q
      exact s_ret (ev_op (ev_op (ev_var rfl) ev_c rv_I0) (ec2 (ev_var rfl) (ev_op (ev_op (ev_var rfl) ev_c rv_I0) ev_c (rv_I (by walk_at "FloorDiv"))) ⟨hb, by omega, by omega⟩) (rv_I (by walk_at "Mult"))) fun H2 e2 => q H2 (e1.trans e2)

def sp_made_of : Sp := spI3 (fun h m b => CNum h b ∧ 0 ≤ m) fun h m b => .int (madeI h m b)
theorem ok_made_of (T : Tx K mg) : FnOk P w K mg base CX0 2 T.a_made_of T.d_made_of ["half", "many", "base"] sp_made_of := by
  refine T.F_made_of.ok sc_made_of (fun vs H Q E h => ?_) (fun cdv A outer s H vs Q E hr h => ?_)
  · obtain ⟨a, b, c, rfl, _⟩ := h
    rfl
  · obtain ⟨h, m, b, rfl, ⟨cn, hm⟩, q⟩ := h
    refine ⟨_, (pss_cons (ps_set (i := 3) sc_made_of.nd rfl (Or.inl rfl) (pe_call (ok_figures_of T) (hr.mono (by decide)) (by rfl) T.g_figures_of T.F_figures_of.kp T.b_figures_of .nil pass0 (pa_cons (pv 0) (pa_cons (pv 2) pa_nil))))
      (pss_one (ps_ret (pe_call (ok_number_from T) (hr.mono (by decide)) (by rfl) T.g_number_from T.F_number_from.kp T.b_number_from .nil pass0 (pa_cons (pe_op op_cat (pv 3) (pe_slice sl_list (pe_revL (pv 3)) (po_some (pe_op op_mod (pv 1) pe_int)) po_none)) (pa_cons (pv 2) pa_nil)))))), ?_⟩
    refine q_asgL (el2 (ev_var rfl) (ev_var rfl) cn) fun p H1 hp e1 l1 => ?_
    refine s_ret (ecRN (elI (ys := figI h b ++ (figI h b).reverse.drop (m % 2).toNat) (el_catN (ev_var rfl) l1 (el_slN (el_rev (ev_var rfl) (sq_of l1)) (eo_some (ev_op (ev_var rfl) ev_c (rv_I (by walk_at "Mod")))) eo_none) ?z) ?y) (ev_var rfl) cn.2.2) fun H2 e2 => ?q
    case z =>
      have := (figI_len cn).1
      have h2 := cutV_length (figV h b).reverse (some (m % 2)) none
      rw [List.length_reverse] at h2
      have h3 : (figV h b).length = (figI h b).length := List.length_map ..
      omega
    case y =>
      rw [cut_from _ (by omega)]
      unfold figV
      rw [List.map_append, List.map_drop, List.map_reverse]
    case q =>
      have e : valI (figI h b ++ (figI h b).reverse.drop (m % 2).toNat) b = madeI h m b := by
        obtain ⟨k, rfl⟩ := Int.eq_ofNat_of_zero_le cn.1
        obtain ⟨c, rfl⟩ := Int.eq_ofNat_of_zero_le (show 0 ≤ b from Int.le_trans (by decide) cn.2.2.1)
        obtain ⟨j, rfl⟩ := Int.eq_ofNat_of_zero_le hm
        unfold madeI Bm.made
        rw [Int.toNat_natCast, Int.toNat_natCast, Int.toNat_natCast, figI_nat, ← List.map_reverse, ← List.map_drop, ← List.map_append, valI_nat]
        congr 4
      rw [e]
      exact q H2 (e1.trans e2)

def sp_number_by : Sp := spI2 CAt fun a b => .int (nbI a b)
theorem nb_half {b m l : Nat} (hb2 : b ≤ 1000) (hm : m ≤ 1401) (hl : l < 2 ^ 700) : ((b ^ ((m - 1) / 2) + l : Nat) : Int) < Big := by
  refine nat_big ?_
  have h1 : b ^ ((m - 1) / 2) ≤ 2 ^ (10 * ((m - 1) / 2)) := Bm.pow_le_two hb2
  have h2 : (2 : Nat) ^ (10 * ((m - 1) / 2)) ≤ 2 ^ 7000 := pow_two_le (by omega)
  have h3 : (2 : Nat) ^ 700 ≤ 2 ^ 7000 := pow_two_le (by decide)
  have h4 : (2 : Nat) ^ 7000 + 2 ^ 7000 ≤ 2 ^ 20000 := by
    rw [← Nat.mul_two, ← Nat.pow_succ]
    exact pow_two_le (by decide)
  omega
set_option maxHeartbeats 1000000 in
theorem ok_number_by (T : Tx K mg) : FnOk P w K mg base CX0 3 T.a_number_by T.d_number_by ["at", "base"] sp_number_by := by
  refine T.F_number_by.ok sc_number_by (fun vs H Q E h => ?_) (fun cdv A outer s H vs Q E hr h => ?_)
  · obtain ⟨a, b, rfl, _⟩ := h
    rfl
  · obtain ⟨a, b, rfl, ⟨h0, h1, hb⟩, q⟩ := h
    refine ⟨_, (pss_cons (ps_expr (pe_call (ok_check_number T) (hr.mono (by decide)) (by rfl) T.g_check_number T.F_check_number.kp T.b_check_number .nil pass0 (pa_cons (pv 0) pa_nil)))
      (pss_cons (ps_expr (pe_call (ok_check_base T) (hr.mono (by decide)) (by rfl) T.g_check_base T.F_check_base.kp T.b_check_base .nil pass0 (pa_cons (pv 1) pa_nil)))
      (pss_cons (ps_if (pt_cmpR op_eq (pv 0) pe_int (nomark _)) (pss_one (ps_ret pe_int)) pss_nil)
      (pss_cons (ps_par (i := 2) (j := 3) (by rfl) sc_number_by.nd rfl rfl (by decide) rfl rfl (pa_cons pe_int (pa_cons (pe_op op_sub (pv 0) pe_int) pa_nil)) (by rfl))
      (pss_cons (ps_while PassesOwn.never (pt_cmpR op_ge (pv 3) (pe_op op_sub (pe_call (ok_many_of T) (hr.mono (by decide)) (by rfl) T.g_many_of T.F_many_of.kp T.b_many_of .nil pass0 (pa_cons (pv 2) (pa_cons (pv 1) pa_nil))) (pe_callTy (r := rInt1) call_int1 (by rfl) T.m_int (by decide +kernel) (pa_cons (pe_cmpR op_eq (pv 2) pe_int (nomark _)) pa_nil))) (nomark _))
      (pss_cons (ps_set (i := 3) sc_number_by.nd rfl (Or.inl rfl) (pe_op op_add (pe_op op_sub (pv 3) (pe_call (ok_many_of T) (hr.mono (by decide)) (by rfl) T.g_many_of T.F_many_of.kp T.b_many_of .nil pass0 (pa_cons (pv 2) (pa_cons (pv 1) pa_nil)))) (pe_callTy (r := rInt1) call_int1 (by rfl) T.m_int (by decide +kernel) (pa_cons (pe_cmpR op_eq (pv 2) pe_int (nomark _)) pa_nil))))
      (pss_one (ps_aug (i := 2) sc_number_by.nd rfl (Or.inl rfl) pe_int ip_add))))
      (pss_one (ps_ret (pe_call (ok_made_of T) (hr.mono (by decide)) (by rfl) T.g_made_of T.F_made_of.kp T.b_made_of .nil pass0 (pa_cons (pe_op op_add (pe_call (ok_power T) (hr.mono (by decide)) (by rfl) T.g_power T.F_power.kp T.b_power .nil pass0 (pa_cons (pv 1) (pa_cons (pe_op op_fdiv (pe_op op_sub (pv 2) pe_int) pe_int) pa_nil))) (pv 3)) (pa_cons (pv 2) (pa_cons (pv 1) pa_nil))))))))))), ?_⟩
    refine q_drop (ec1 (ev_var rfl) h0) fun H1 e1 => ?_
    refine q_drop (ec1 (ev_var rfl) hb) fun H2 e2 => ?_
    refine q_when (et_test (ev_op (ev_var rfl) ev_c (rv_eq rfl))) (fun hb' H3 e3 => ?_) (fun hb' H3 e3 => ?_)
    · have e : a = 0 := V.int.inj (of_decide_eq_true hb')
      subst e
      exact s_ret ev_c fun H4 e4 => q H4 ((e1.trans e2).trans (e3.trans e4))
    · have ha : a ≠ 0 := fun z => of_decide_eq_false hb' (congrArg V.int z)
      obtain ⟨k, rfl⟩ := Int.eq_ofNat_of_zero_le h0
      obtain ⟨c, rfl⟩ := Int.eq_ofNat_of_zero_le (show 0 ≤ b by omega)
      have hc : 2 ≤ c := by omega
      have hc2 : c ≤ 1000 := by omega
      have hk := mid_nat h1
      refine q_par (ea_cons ev_c (ea_cons (ev_op (ev_var rfl) ev_c rv_I0) ea_nil)) fun H4 e4 => ?_
      refine q_while (fun j σ' H' => ∃ m : Nat, σ' = [some (.int (k : Int)), some (.int (c : Int)), some (.int (m : Int)), some (.int (j : Int))] ∧ 1 ≤ m ∧ Bm.sm c m + j + (if m = 1 then 1 else 0) = k ∧ Bm.nbG c m j = Bm.nb c k ∧ Ex H H') (k - 1) ⟨1, ?_, Nat.le_refl 1, ?_, ?_, (e1.trans e2).trans (e3.trans e4)⟩ fun j σ' H' hW => ?_
      · rw [show ((k - 1 : Nat) : Int) = (k : Int) - 1 by omega]
        rfl
      · rw [if_pos rfl]
        show 0 + (if (0 : Nat) = 0 then 0 else Bm.cnt c 0) + (k - 1) + 1 = k
        rw [if_pos rfl]
        omega
      · rw [Bm.nb_G hc (by omega)]
      · obtain ⟨m, rfl, hm1, hinv, hval, ex⟩ := hW
        have hm2 : m ≤ 1401 := Bm.m_bound (e := 700) hc (by omega)
        have hcp := Bm.cnt_pos (m := m) hc
        have cm : 1 ≤ (m : Int) ∧ (m : Int) ≤ 100000 ∧ CB (c : Int) := ⟨by omega, by omega, hb⟩
        have ecnt : cntI (m : Int) (c : Int) = ((Bm.cnt c m : Nat) : Int) := by
          unfold cntI
          rw [Int.toNat_natCast, Int.toNat_natCast]
        have eif : (if decide (V.int (m : Int) = V.int 1) then (1 : Int) else 0) = ((if m = 1 then 1 else 0 : Nat) : Int) := by
          by_cases z : m = 1
          · rw [if_pos z, if_pos (by rw [z]; exact decide_eq_true rfl)]
            rfl
          · rw [if_neg z, if_neg (by rw [decide_eq_true_iff]; intro y; exact z (by have := V.int.inj y; omega))]
            rfl
        refine ⟨decide ((cntI (m : Int) (c : Int) - (if decide (V.int (m : Int) = V.int 1) then (1 : Int) else 0)) ≤ (j : Int)), (et_test (ev_op (ev_var rfl) (ev_op (ec2 (ev_var rfl) (ev_var rfl) cm) (ev_intB (ev_op (ev_var rfl) ev_c (rv_eq rfl))) rv_I0) rv_I0)), fun hb2 H5 e5 => ?_, fun hb2 H5 e5 => ?_⟩
        · have hb3 := of_decide_eq_true hb2
          rw [ecnt, eif] at hb3
          generalize hif : (if m = 1 then 1 else 0 : Nat) = d1 at *
          refine ⟨fun σ2 H6 => σ2 = [some (.int (k : Int)), some (.int (c : Int)), some (.int ((m + 1 : Nat) : Int)), some (.int ((j - (Bm.cnt c m - d1) : Nat) : Int))] ∧ Ex H H6, fun σ2 H6 hN => ⟨j - (Bm.cnt c m - d1), by omega, m + 1, hN.1, by omega, ?_, ?_, hN.2⟩, ?_⟩
          · rw [Bm.sm_succ (by omega), if_neg (by omega)]
            omega
          · rw [← hval, Bm.nbG_hi (m := m) (l := j) hc (by rw [hif]; omega), hif]
          · refine q_asg (ev_op (ev_op (ev_var rfl) (ec2 (ev_var rfl) (ev_var rfl) cm) rv_I0) (ev_intB (ev_op (ev_var rfl) ev_c (rv_eq rfl))) rv_I0) fun H6 e6 => ?_
            refine s_aug (a := (m : Int)) (b := 1) rfl ev_c fun H7 e7 => ⟨?_, (ex.trans e5).trans (e6.trans e7)⟩
            rw [ecnt, eif, show ((j - (Bm.cnt c m - d1) : Nat) : Int) = (j : Int) - ((Bm.cnt c m : Nat) : Int) + (d1 : Int) by omega, show ((m + 1 : Nat) : Int) = (m : Int) + 1 by omega]
            rfl
        · have hb3 := of_decide_eq_false hb2
          rw [ecnt, eif] at hb3
          have hlt : j < Bm.cnt c m - (if m = 1 then 1 else 0) := by
            generalize (if m = 1 then 1 else 0 : Nat) = d1 at *
            omega
          have epow : (c : Int) ^ (((m : Int) - 1) / 2).toNat + (j : Int) = ((c ^ ((m - 1) / 2) + j : Nat) : Int) := by
            rw [Int.natCast_add, Int.natCast_pow]
            congr 2
            omega
          have hj : j < 2 ^ 700 := by omega
          refine s_ret (ec3 (ev_is (ev_op (ec2 (ev_var rfl) (ev_op (ev_op (ev_var rfl) ev_c rv_I0) ev_c (rv_I (by walk_at "FloorDiv"))) ⟨hb, by omega, by omega⟩) (ev_var rfl) rv_I0) (congrArg V.int epow)) (ev_var rfl) (ev_var rfl) ⟨⟨by omega, nb_half hc2 hm2 hj, hb⟩, by omega⟩) fun H6 e6 => ?_
          have efin : madeI ((c ^ ((m - 1) / 2) + j : Nat) : Int) (m : Int) (c : Int) = nbI (k : Int) (c : Int) := by
            unfold madeI nbI
            rw [Int.toNat_natCast, Int.toNat_natCast, Int.toNat_natCast, Int.toNat_natCast, ← hval, Bm.nbG_lo hc hlt]
          rw [efin]
          exact q H6 ((ex.trans e5).trans e6)

def jd (n a b : Int) : Option (Int × Int) := if 0 ≤ fwI n a then some (a, fwI n a) else if 0 ≤ fwI n b then some (b, fwI n b) else none
def anC (A U : Addr) : Option (Int × Int) → Addr
  | none => A
  | some _ => U
def anF : Option (Int × Int) → List (Str × V)
  | none => []
  | some (b, p) => uf b p
def shI (w : Option (Int × Int)) (n a b : Int) : Bool := match w with
  | none => ashI n a b
  | some (u, p) => ushI u p n a b
abbrev CJ (n a b : Int) : Prop := CNum n a ∧ CB b
def sp_judged (A U : Addr) : Sp := fun vs H Q _ => ∃ n a b, vs = [.int n, .int a, .int b] ∧ CJ n a b ∧ ∀ p dx H', H p = none → Ex H H' → H' p = some (.ins (anC A U (jd n a b)) dx (anF (jd n a b))) → Q (.ref p) H'
theorem ei_judged {σ : L2.St} {H : Hp} {ta tb tc : TE} {n a b : Int} {A U : Addr} {E : XK} (h1 : Ev ta σ H (.int n)) (h2 : Ev tb σ H (.int a)) (h3 : Ev tc σ H (.int b)) (h : CJ n a b) : EvI (tCall (sp_judged A U) [] E (tCons ta (tCons tb (tCons tc tNil)))) σ H (anC A U (jd n a b)) (anF (jd n a b)) := fun H1 e Q q =>
  h1 H1 e _ fun H2 e2 => h2 H2 (e.trans e2) _ fun H3 e3 => h3 H3 ((e.trans e2).trans e3) _ fun H4 e4 => ⟨n, a, b, rfl, h, fun p dx H' hp e5 h5 => q p dx H' (fresh_back ((e2.trans e3).trans e4) hp) (((e2.trans e3).trans e4).trans e5) h5⟩
/-- what was told is asked -/
theorem ev_shows {σ : L2.St} {H : Hp} {ta t1 t2 t3 : TE} {n a b : Int} {A U x dx : Addr} {E : XK} {w : Option (Int × Int)} (h : Ev ta σ H (.ref x)) (hx : H x = some (.ins (anC A U w) dx (anF w))) (h1 : Ev t1 σ H (.int n)) (h2 : Ev t2 σ H (.int a)) (h3 : Ev t3 σ H (.int b)) (hc : CJ n a b) :
    Ev (tMeth2 A U "shows" sp_Alike_shows (sp_Unlike_shows U) E ta (tCons t1 (tCons t2 (tCons t3 tNil)))) σ H (.bl (shI w n a b)) := by
  cases w with
  | none => exact ev_meth2a h hx rfl (ea_cons h1 (ea_cons h2 (ea_cons h3 ea_nil))) fun H1 e1 => sv_Alike_shows hc
  | some up =>
    obtain ⟨u, p⟩ := up
    exact ev_meth2b h hx uf_shows (ea_cons h1 (ea_cons h2 (ea_cons h3 ea_nil))) fun H1 e1 => sv_Unlike_shows (e1 _ _ hx) hc
theorem ok_judged (T : Tx K mg) : FnOk P w K mg base CX0 3 T.a_judged T.d_judged ["number", "one", "other"] (sp_judged T.a_Alike T.a_Unlike) := by
  refine T.F_judged.ok sc_judged (fun vs H Q E h => ?_) (fun cdv A outer s H vs Q E hr h => ?_)
  · obtain ⟨n, a, b, rfl, _⟩ := h
    rfl
  · obtain ⟨n, a, b, rfl, ⟨c1, c2⟩, q⟩ := h
    refine ⟨_, (pss_cons (ps_expr (pe_call (ok_check_number T) (hr.mono (by decide)) (by rfl) T.g_check_number T.F_check_number.kp T.b_check_number .nil pass0 (pa_cons (pv 0) pa_nil)))
      (pss_cons (ps_expr (pe_call (ok_check_base T) (hr.mono (by decide)) (by rfl) T.g_check_base T.F_check_base.kp T.b_check_base .nil pass0 (pa_cons (pv 1) pa_nil)))
      (pss_cons (ps_expr (pe_call (ok_check_base T) (hr.mono (by decide)) (by rfl) T.g_check_base T.F_check_base.kp T.b_check_base .nil pass0 (pa_cons (pv 2) pa_nil)))
      (pss_cons (ps_for PassesOwn.never rfl (pi_tup (pe_tup (pa_cons (pv 1) (pa_cons (pv 2) pa_nil)))) (pg_name (i := 3) sc_judged.nd rfl (Or.inl rfl))
      (pss_cons (ps_set (i := 4) sc_judged.nd rfl (Or.inl rfl) (pe_call (ok_first_wrong T) (hr.mono (by decide)) (by rfl) T.g_first_wrong T.F_first_wrong.kp T.b_first_wrong .nil pass0 (pa_cons (pv 0) (pa_cons (pv 3) pa_nil))))
      (pss_one (ps_if (pt_cmpR op_ge (pv 4) pe_int (nomark _)) (pss_one (ps_ret (pe_make T.Mk_Unlike (ok_Unlike___init__ T) (hr.mono (by decide)) (by rfl) T.g_Unlike T.b_Unlike___init__ .nil pass0 (pa_cons (pv 3) (pa_cons (pv 4) pa_nil))))) pss_nil))))
      (pss_one (ps_ret (pe_makeO T.mk0_Alike T.i0_Alike T.k_Alike (by rfl) T.g_Alike))))))), ?_⟩
    refine q_drop (ec1 (ev_var rfl) c1.1) fun H1 e1 => ?_
    refine q_drop (ec1 (ev_var rfl) c1.2.2) fun H2 e2 => ?_
    refine q_drop (ec1 (ev_var rfl) c2) fun H3 e3 => ?_
    have ex3 : Ex H H3 := e1.trans (e2.trans e3)
    refine q_forUX (ns := [a, b]) (eu_tup (ea_cons (ev_var rfl) (ea_cons (ev_var rfl) ea_nil)) (by simp)) (fun i σ' H' => (∃ y3 y4, σ' = [some (.int n), some (.int a), some (.int b), y3, y4]) ∧ Ex H H' ∧ ∀ j c, j < i → ([a, b] : List Int)[j]? = some c → fwI n c < 0) (fun H4 e4 => ⟨⟨_, _, rfl⟩, ex3.trans e4, fun j c hj => absurd hj (Nat.not_lt_zero j)⟩) (fun i c H0 σ' H4 e4 e5 hi w => ?_) (fun σ' H4 e4 w => ?_)
    · obtain ⟨⟨y3, y4, rfl⟩, ex4, hj⟩ := w
      have hic : (i = 0 ∧ c = a) ∨ (i = 1 ∧ c = b) := by
        match i, hi with
        | 0, hi => exact Or.inl ⟨rfl, (Option.some.inj hi).symm⟩
        | 1, hi => exact Or.inr ⟨rfl, (Option.some.inj hi).symm⟩
        | k + 2, hi => simp at hi
      have cn : CNum n c := by
        rcases hic with ⟨_, rfl⟩ | ⟨_, rfl⟩
        · exact c1
        · exact ⟨c1.1, c1.2.1, c2⟩
      refine q_asg (ec2 (ev_var rfl) (ev_var rfl) cn) fun H5 e6 => ?_
      refine s_when (et_test (ev_op (ev_var rfl) ev_c rv_I0)) (fun hb H6 e7 => ?_) (fun hb H6 e7 => ?_)
      · have hb2 := of_decide_eq_true hb
        have ej : jd n a b = some (c, fwI n c) := by
          unfold jd
          rcases hic with ⟨_, rfl⟩ | ⟨z, rfl⟩
          · rw [if_pos hb2]
          · have := hj 0 a (by omega) rfl
            rw [if_neg (by omega), if_pos hb2]
        rw [ej] at q
        exact s_retI (ei_unlike (ev_var rfl) (ev_var rfl)) fun p dx H7 hp e8 h8 => q p dx H7 (fresh_back (ex4.trans (e6.trans e7)) hp) ((ex4.trans (e6.trans e7)).trans e8) h8
      · have hb2 := of_decide_eq_false hb
        refine ⟨⟨⟨_, _, rfl⟩, ex4.trans (e6.trans e7), fun j c' hj' hc' => ?_⟩, e5.trans (e6.trans e7)⟩
        rcases Nat.lt_or_ge j i with z | z
        · exact hj j c' z hc'
        · have : j = i := by omega
          subst this
          rw [hi] at hc'
          have := Option.some.inj hc'
          subst this
          omega
    · obtain ⟨⟨y3, y4, rfl⟩, ex4, hj⟩ := w
      have ha := hj 0 a (by show 0 < 2; decide) rfl
      have hb := hj 1 b (by show 1 < 2; decide) rfl
      have ej : jd n a b = none := by
        unfold jd
        rw [if_neg (by omega), if_neg (by omega)]
      rw [ej] at q
      exact s_retI ei_makeO fun p dx H7 hp e8 h8 => q p dx H7 (fresh_back ex4 hp) (ex4.trans e8) h8

def sp__law_cell_at (K : PySem.W.Frag) : Sp := spR K (fun _ k => 0 ≤ k) fun ns k => .int (cellI ns k)
theorem ok__law_cell_at (T : Tx K mg) : FnOk P w K mg base CX0 1 T.a__law_cell_at T.d__law_cell_at ["_law_script", "_law_k"] (sp__law_cell_at K) := by
  refine T.F__law_cell_at.ok sc__law_cell_at (fun vs H Q E h => ?_) (fun cdv A outer s H vs Q E hr h => ?_)
  · obtain ⟨p, ns, k, rfl, _⟩ := h
    rfl
  · obtain ⟨p, ns, k, rfl, hs, h0, q⟩ := h
    refine ⟨_, (pss_cons (ps_if (pt_cmpR op_lt (pv 1) (pe_callB (r := rLenS _) call_len_seq (by rfl) T.m_len PySem.boot_len (pa_cons (pv 0) pa_nil)) (nomark _)) (pss_one (ps_ret (pe_ix ix_list (pv 0) (pv 1) (fun _ _ => rfl)))) pss_nil)
      (pss_one (ps_ret pe_int))), ?_⟩
    refine q_when (et_test (ev_op (ev_var rfl) (ev_len (ev_var rfl) hs) rv_I0)) (fun hb H1 e1 => ?_) (fun hb H1 e1 => ?_)
    · have hb2 := of_decide_eq_true hb
      rw [List.length_map] at hb2
      exact s_ret (ev_ixV (ev_var rfl) (ex_l e1 hs) (ev_var rfl) (atI_ints h0 hb2)) fun H2 e2 => q H2 (e1.trans e2)
    · have hb2 := of_decide_eq_false hb
      rw [List.length_map] at hb2
      have e : cellI ns k = 0 := by
        unfold cellI
        rw [List.getD_eq_getElem?_getD, List.getElem?_eq_none (by omega)]
        rfl
      dsimp only at q
      rw [e] at q
      exact s_ret ev_c fun H2 e2 => q H2 (e1.trans e2)

def sp__law_draw : Sp := spI3 (fun _ k m => 0 ≤ k ∧ k ≤ 1000 ∧ 0 < m) fun c k m => .int (drawI c k m)
theorem ok__law_draw (T : Tx K mg) : FnOk P w K mg base CX0 1 T.a__law_draw T.d__law_draw ["_law_cell", "_law_k", "_law_most"] sp__law_draw := by
  refine T.F__law_draw.ok sc__law_draw (fun vs H Q E h => ?_) (fun cdv A outer s H vs Q E hr h => ?_)
  · obtain ⟨a, b, c, rfl, _⟩ := h
    rfl
  · obtain ⟨c, k, m, rfl, ⟨h0, h1, h2⟩, q⟩ := h
    refine ⟨_, (pss_cons (ps_set (i := 3) sc__law_draw.nd rfl (Or.inl rfl) (pe_tup (pa_cons pe_int (pa_cons pe_int (pa_cons pe_int (pa_cons pe_int (pa_cons pe_int (pa_cons pe_int (pa_cons pe_int (pa_cons pe_int (pa_cons pe_int (pa_cons pe_int (pa_cons pe_int (pa_cons pe_int (pa_cons pe_int (pa_cons pe_int (pa_cons pe_int (pa_cons pe_int pa_nil))))))))))))))))))
      (pss_one (ps_ret (pe_op op_mod (pe_op op_mod (pe_op op_add (pe_op op_mulX (pv 0) pe_int) (pe_op op_mulX (pv 1) pe_int)) (pe_ix ix_tup (pv 3) (pe_op op_mod (pv 1) pe_int) (fun _ _ => rfl))) (pv 2))))), ?_⟩
    refine q_asgU (xs := primes.map V.int) (eu_tup (ea_cons ev_c (ea_cons ev_c (ea_cons ev_c (ea_cons ev_c (ea_cons ev_c (ea_cons ev_c (ea_cons ev_c (ea_cons ev_c (ea_cons ev_c (ea_cons ev_c (ea_cons ev_c (ea_cons ev_c (ea_cons ev_c (ea_cons ev_c (ea_cons ev_c (ea_cons ev_c ea_nil)))))))))))))))) (by decide)) fun p H1 hp e1 l1 => ?_
    exact s_ret (ev_op (ev_op (ev_op (ev_op (ev_var rfl) ev_c (rv_I (by walk_at "Mult"))) (ev_op (ev_var rfl) ev_c (rv_I (by walk_at "Mult"))) rv_I0) (ev_ixT (ev_var rfl) (st_of l1) (ev_op (ev_var rfl) ev_c (rv_I (by first | exact primes_pos | omega))) (atI_ints (xs := primes) (by omega) (by show _ < (16 : Int); omega))) (rv_I (by first | exact primes_pos | omega))) (ev_var rfl) (rv_I (by first | exact primes_pos | omega))) fun H2 e2 => q H2 (e1.trans e2)

def sp__law_number : Sp := spI3 (fun c k l => CellOk c ∧ 0 ≤ k ∧ k ≤ 1000 ∧ 0 < l) fun c k l => .int (numI c k l)
theorem ok__law_number (T : Tx K mg) : FnOk P w K mg base CX0 2 T.a__law_number T.d__law_number ["_law_cell", "_law_k", "_law_limit"] sp__law_number := by
  refine T.F__law_number.ok sc__law_number (fun vs H Q E h => ?_) (fun cdv A outer s H vs Q E hr h => ?_)
  · obtain ⟨a, b, c, rfl, _⟩ := h
    rfl
  · obtain ⟨c, k, l, rfl, ⟨hc, h0, h1, h2⟩, q⟩ := h
    refine ⟨_, (pss_cons (ps_if (pt_cmpR op_ge (pv 0) (pe_op op_pow pe_int pe_int) (nomark _)) (pss_one (ps_ret (pe_op op_mod (pe_op op_fdiv (pe_op op_sub (pv 0) (pe_op op_pow pe_int pe_int)) (pe_ix ix_tup (pe_tup (pa_cons pe_int (pa_cons pe_int (pa_cons pe_int (pa_cons pe_int (pa_cons pe_int pa_nil)))))) (pe_op op_mod (pv 1) pe_int) (fun _ _ => rfl))) (pv 2)))) pss_nil)
      (pss_one (ps_ret (pe_op op_mod (pe_call (ok__law_draw T) (hr.mono (by decide)) (by rfl) T.g__law_draw T.F__law_draw.kp T.b__law_draw .nil pass0 (pa_cons (pe_op op_mulX (pe_op op_add (pv 0) (pe_op op_mulX pe_int (pv 1))) (pe_op op_add (pe_op op_add (pv 0) (pe_op op_mulX pe_int (pv 1))) pe_int)) (pa_cons (pe_op op_add (pe_op op_mod (pv 1) pe_int) pe_int) (pa_cons pe_int pa_nil)))) (pv 2))))), ?_⟩
    refine q_when (et_test (ev_op (ev_var rfl) (ev_op ev_c ev_c (rv_I (by walk_at "Pow"))) rv_I0)) (fun hb H1 e1 => ?_) (fun hb H1 e1 => ?_)
    · have hb2 : (10 : Int) ^ 18 ≤ c := of_decide_eq_true hb
      unfold numI at q
      dsimp only at q
      rw [if_pos hb2] at q
      exact s_ret (ev_op (ev_op (ev_op (ev_var rfl) (ev_op ev_c ev_c (rv_I (by walk_at "Pow"))) rv_I0) (ev_ixU (eu_tup (ea_cons ev_c (ea_cons ev_c (ea_cons ev_c (ea_cons ev_c (ea_cons ev_c ea_nil))))) (by simp)) (ev_op (ev_var rfl) ev_c (rv_I (by walk_at "Mod"))) (atI_ints (xs := [1, 7, 49, 343, 2401]) (by omega) (by show _ < (5 : Int); omega))) (rv_I fives_pos)) (ev_var rfl) (rv_I (by walk_at "Mod"))) fun H2 e2 => q H2 (e1.trans e2)
    · have hb2 : ¬ (10 : Int) ^ 18 ≤ c := of_decide_eq_false hb
      unfold numI at q
      dsimp only at q
      rw [if_neg hb2] at q
      exact s_ret (ev_op (ec3 (ev_op (ev_op (ev_var rfl) (ev_op ev_c (ev_var rfl) (rv_I (by first | exact mulL (by omega) (by omega) | exact cell_mul (cell_add hc (small_bits (by omega) (by omega))) (by rw [Int.add_assoc]; exact cell_add hc (small_bits (by omega) (by omega)))))) rv_I0) (ev_op (ev_op (ev_var rfl) (ev_op ev_c (ev_var rfl) (rv_I (by first | exact mulL (by omega) (by omega) | exact cell_mul (cell_add hc (small_bits (by omega) (by omega))) (by rw [Int.add_assoc]; exact cell_add hc (small_bits (by omega) (by omega)))))) rv_I0) ev_c rv_I0) (rv_I (by first | exact mulL (by omega) (by omega) | exact cell_mul (cell_add hc (small_bits (by omega) (by omega))) (by rw [Int.add_assoc]; exact cell_add hc (small_bits (by omega) (by omega)))))) (ev_op (ev_op (ev_var rfl) ev_c (rv_I (by walk_at "Mod"))) ev_c rv_I0) ev_c ⟨by omega, by omega, by omega⟩) (ev_var rfl) (rv_I (by walk_at "Mod"))) fun H2 e2 => q H2 (e1.trans e2)

abbrev CBy (ns : List Int) (k : Int) : Prop := CellsOk ns ∧ 0 ≤ k ∧ k ≤ 100
def sp__law_great (K : PySem.W.Frag) : Sp := spR K CBy fun ns k => .int (greatI ns k)
theorem ok__law_great (T : Tx K mg) : FnOk P w K mg base CX0 3 T.a__law_great T.d__law_great ["_law_script", "_law_by"] (sp__law_great K) := by
  refine T.F__law_great.ok sc__law_great (fun vs H Q E h => ?_) (fun cdv A outer s H vs Q E hr h => ?_)
  · obtain ⟨p, ns, k, rfl, _⟩ := h
    rfl
  · obtain ⟨p, ns, k, rfl, hs, ⟨hc, h0, h1⟩, q⟩ := h
    have ok := cellI_ok hc k
    have n1 := numI_bd (c := cellI ns k) (k := k + 1) (l := 4) (by decide)
    have w1 := wides_pos n1.1 n1.2
    refine ⟨_, (pss_cons (ps_set (i := 2) sc__law_great.nd rfl (Or.inl rfl) (pe_call (ok__law_cell_at T) (hr.mono (by decide)) (by rfl) T.g__law_cell_at T.F__law_cell_at.kp T.b__law_cell_at .nil pass0 (pa_cons (pv 0) (pa_cons (pv 1) pa_nil))))
      (pss_cons (ps_set (i := 3) sc__law_great.nd rfl (Or.inl rfl) (pe_ix ix_tup (pe_tup (pa_cons pe_int (pa_cons pe_int (pa_cons (pe_op op_pow pe_int pe_int) (pa_cons (pe_op op_pow pe_int pe_int) pa_nil))))) (pe_call (ok__law_number T) (hr.mono (by decide)) (by rfl) T.g__law_number T.F__law_number.kp T.b__law_number .nil pass0 (pa_cons (pv 2) (pa_cons (pe_op op_add (pv 1) pe_int) (pa_cons pe_int pa_nil)))) (fun _ _ => rfl)))
      (pss_one (ps_ret (pe_call (ok__law_number T) (hr.mono (by decide)) (by rfl) T.g__law_number T.F__law_number.kp T.b__law_number .nil pass0 (pa_cons (pv 2) (pa_cons (pe_op op_add (pv 1) pe_int) (pa_cons (pv 3) pa_nil)))))))), ?_⟩
    refine q_asg (ecR (ev_var rfl) hs (ev_var rfl) h0) fun H1 e1 => ?_
    refine q_asg (ev_ixU (eu_tup (ea_cons ev_c (ea_cons ev_c (ea_cons (ev_op ev_c ev_c (rv_I (by walk_at "Pow"))) (ea_cons (ev_op ev_c ev_c (rv_I (by walk_at "Pow"))) ea_nil)))) (by simp)) (ec3 (ev_var rfl) (ev_op (ev_var rfl) ev_c rv_I0) ev_c ⟨ok, by omega, by omega, by decide⟩) (atI_ints (xs := [20, 2000, 10 ^ 9, 10 ^ 40]) n1.1 n1.2)) fun H2 e2 => ?_
    exact s_ret (ec3 (ev_var rfl) (ev_op (ev_var rfl) ev_c rv_I0) (ev_var rfl) ⟨ok, by omega, by omega, w1.1⟩) fun H3 e3 => q H3 ((e1.trans e2).trans e3)

def sp__law_base (K : PySem.W.Frag) : Sp := spR K CBy fun ns k => .int (baseI ns k)
theorem ok__law_base (T : Tx K mg) : FnOk P w K mg base CX0 3 T.a__law_base T.d__law_base ["_law_script", "_law_by"] (sp__law_base K) := by
  refine T.F__law_base.ok sc__law_base (fun vs H Q E h => ?_) (fun cdv A outer s H vs Q E hr h => ?_)
  · obtain ⟨p, ns, k, rfl, _⟩ := h
    rfl
  · obtain ⟨p, ns, k, rfl, hs, ⟨hc, h0, h1⟩, q⟩ := h
    have ok := cellI_ok hc k
    refine ⟨_, (pss_cons (ps_set (i := 2) sc__law_base.nd rfl (Or.inl rfl) (pe_call (ok__law_cell_at T) (hr.mono (by decide)) (by rfl) T.g__law_cell_at T.F__law_cell_at.kp T.b__law_cell_at .nil pass0 (pa_cons (pv 0) (pa_cons (pv 1) pa_nil))))
      (pss_cons (ps_if (pt_cmpR op_eq (pe_call (ok__law_number T) (hr.mono (by decide)) (by rfl) T.g__law_number T.F__law_number.kp T.b__law_number .nil pass0 (pa_cons (pv 2) (pa_cons (pe_op op_add (pv 1) pe_int) (pa_cons pe_int pa_nil)))) pe_int (nomark _)) (pss_one (ps_ret (pe_op op_add pe_int (pe_call (ok__law_number T) (hr.mono (by decide)) (by rfl) T.g__law_number T.F__law_number.kp T.b__law_number .nil pass0 (pa_cons (pv 2) (pa_cons (pe_op op_add (pv 1) pe_int) (pa_cons pe_int pa_nil))))))) pss_nil)
      (pss_one (ps_ret (pe_ix ix_tup (pe_tup (pa_cons pe_int (pa_cons pe_int (pa_cons pe_int (pa_cons pe_int (pa_cons pe_int (pa_cons pe_int pa_nil))))))) (pe_call (ok__law_number T) (hr.mono (by decide)) (by rfl) T.g__law_number T.F__law_number.kp T.b__law_number .nil pass0 (pa_cons (pv 2) (pa_cons (pe_op op_add (pv 1) pe_int) (pa_cons pe_int pa_nil)))) (fun _ _ => rfl)))))), ?_⟩
    refine q_asg (ecR (ev_var rfl) hs (ev_var rfl) h0) fun H1 e1 => ?_
    refine q_when (et_test (ev_op (ec3 (ev_var rfl) (ev_op (ev_var rfl) ev_c rv_I0) ev_c ⟨ok, by omega, by omega, by decide⟩) ev_c (rv_eq rfl))) (fun hb H2 e2 => ?_) (fun hb H2 e2 => ?_)
    · have hb2 := V.int.inj (of_decide_eq_true hb)
      unfold baseI at q
      dsimp only at q
      rw [if_pos hb2] at q
      exact s_ret (ev_op ev_c (ec3 (ev_var rfl) (ev_op (ev_var rfl) ev_c rv_I0) ev_c ⟨ok, by omega, by omega, by decide⟩) rv_I0) fun H3 e3 => q H3 ((e1.trans e2).trans e3)
    · have hb2 : ¬ numI (cellI ns k) (k + 8) 3 = 0 := fun z => of_decide_eq_false hb (congrArg V.int z)
      unfold baseI at q
      dsimp only at q
      rw [if_neg hb2] at q
      have n1 := numI_bd (c := cellI ns k) (k := k + 3) (l := 6) (by decide)
      exact s_ret (ev_ixU (eu_tup (ea_cons ev_c (ea_cons ev_c (ea_cons ev_c (ea_cons ev_c (ea_cons ev_c (ea_cons ev_c ea_nil)))))) (by simp)) (ec3 (ev_var rfl) (ev_op (ev_var rfl) ev_c rv_I0) ev_c ⟨ok, by omega, by omega, by decide⟩) (atI_ints (xs := [2, 3, 10, 16, 7, 1000]) n1.1 n1.2)) fun H3 e3 => q H3 ((e1.trans e2).trans e3)

def sp__law_figures : Sp := spL2 CNum figV
set_option maxHeartbeats 1000000 in
theorem ok__law_figures (T : Tx K mg) : FnOk P w K mg base CX0 1 T.a__law_figures T.d__law_figures ["_law_number_here", "_law_base_here"] sp__law_figures := by
  refine T.F__law_figures.ok sc__law_figures (fun vs H Q E h => ?_) (fun cdv A outer s H vs Q E hr h => ?_)
  · obtain ⟨a, b, rfl, _⟩ := h
    rfl
  · obtain ⟨n, b, rfl, ⟨h0, h1, h2, h3⟩, q⟩ := h
    obtain ⟨k, rfl⟩ := Int.eq_ofNat_of_zero_le h0
    obtain ⟨c, rfl⟩ := Int.eq_ofNat_of_zero_le (show 0 ≤ b by omega)
    have hc : 2 ≤ c := by omega
    have hlen := ds_len_big hc h1
    refine ⟨_, (pss_cons (ps_set (i := 2) sc__law_figures.nd rfl (Or.inl rfl) (pe_lst pa_nil))
      (pss_cons (ps_while PassesOwn.never (PW.pt (pw_or (pt_cmpR (op_eqD hr.units) (pv 2) (pe_lst pa_nil) (nomark _)) (pw_or1 (pt_cmpR op_gt (pv 0) pe_int (nomark _)))))
      (pss_cons (ps_set (i := 2) sc__law_figures.nd rfl (Or.inl rfl) (pe_op op_cat (pe_lst (pa_cons (pe_op op_mod (pv 0) (pv 1)) pa_nil)) (pv 2)))
      (pss_one (ps_set (i := 0) sc__law_figures.nd rfl (Or.inl rfl) (pe_op op_fdiv (pv 0) (pv 1))))))
      (pss_one (ps_ret (pv 2))))), ?_⟩
    refine q_asgL (el_lst ea_nil (by simp)) fun p H1 hp e1 l1 => ?_
    refine q_while (fun m σ' H' => ∃ (p : Addr) (j : Nat) (pre : List Nat), m = j + (if pre = [] then 1 else 0) ∧ σ' = [some (.int (j : Int)), some (.int (c : Int)), some (.ref p)] ∧ H p = none ∧ Ex H H' ∧ H' p = some (.lst ((pre.reverse.map fun d : Nat => (d : Int)).map V.int)) ∧
      ((pre ++ Bm.ds c j = Bm.ds c k ∧ (pre ≠ [] → 0 < j)) ∨ (j = 0 ∧ pre = Bm.ds c k))) (k + 1) ⟨p, k, [], rfl, rfl, hp, e1, l1, Or.inl ⟨rfl, fun z => absurd rfl z⟩⟩ fun m σ' H' hW => ?_
    obtain ⟨p, j, pre, hm, rfl, hp, ex, lp, hd⟩ := hW
    refine ⟨decide ((pre.reverse.map fun d : Nat => (d : Int)) = []) || decide (0 < (j : Int)), et_or (et_test (ev_eqVN (ev_var rfl) (sq_of lp) (elI (ys := []) (el_lst ea_nil (by simp)) rfl))) (fun _ => et_test (ev_op (ev_var rfl) ev_c rv_I0)), fun hb H2 e2 => ?_, fun hb H2 e2 => ?_⟩
    · have hgo : pre = [] ∨ 0 < j := by
        rcases (Bool.or_eq_true _ _).mp hb with z | z
        · left
          have := of_decide_eq_true z
          simpa using this
        · right
          have := of_decide_eq_true z
          omega
      have hd2 : pre ++ Bm.ds c j = Bm.ds c k := by
        rcases hd with hd | ⟨z1, z2⟩
        · exact hd.1
        · rcases hgo with g | g
          · exfalso
            rw [g] at z2
            exact Bm.ds_ne hc k z2.symm
          · omega
      have hpl : pre.length < 20000 := by
        have := congrArg List.length hd2
        rw [List.length_append] at this
        have := Bm.ds_pos hc j
        omega
      refine ⟨fun σ2 H3 => ∃ (p' : Addr), σ2 = [some (.int ((j / c : Nat) : Int)), some (.int (c : Int)), some (.ref p')] ∧ H p' = none ∧ Ex H H3 ∧ H3 p' = some (.lst (((pre ++ [j % c]).reverse.map fun d : Nat => (d : Int)).map V.int)), fun σ2 H3 hN => ?_, ?_⟩
      · obtain ⟨p', a1, a2, a3, a4⟩ := hN
        refine ⟨j / c + 0, ?_, p', j / c, pre ++ [j % c], ?_, a1, a2, a3, a4, ?_⟩
        · rw [hm]
          rcases hgo with g | g
          · rw [if_pos g]
            have : j / c ≤ j := Nat.div_le_self _ _
            omega
          · have : j / c < j := Nat.div_lt_self g (by omega)
            omega
        · rw [if_neg (by simp)]
        · by_cases hj : j < c
          · right
            refine ⟨Nat.div_eq_of_lt hj, ?_⟩
            rw [← hd2, Bm.ds_lo hj, Nat.mod_eq_of_lt hj]
          · left
            refine ⟨?_, fun _ => Nat.div_pos (by omega) (by omega)⟩
            rw [List.append_assoc, ← hd2, Bm.ds_hi hc hj]
            rfl
      · refine q_asgL (el_catN1 (el_lst (ea_cons (ev_op (ev_var rfl) (ev_var rfl) (rv_I (by omega))) ea_nil) (by simp)) (ev_var rfl) (e2 p _ lp) ?_) fun p' H3 hp' e3 l3 => ?_
        · simp only [List.length_map, List.length_reverse, List.length_cons, List.length_nil]
          omega
        · refine s_asg (ev_op (ev_var rfl) (ev_var rfl) (rv_I ⟨by omega, by omega⟩)) fun H4 e4 => ⟨p', ?_, fresh_back (ex.trans e2) hp', (ex.trans e2).trans (e3.trans e4), ?_⟩
          · rw [Int.natCast_ediv]
            rfl
          · rw [e4 _ _ l3, List.reverse_append, List.reverse_singleton]
            show _ = some (HO.lst (V.int ((j % c : Nat) : Int) :: _))
            rw [Int.natCast_emod]
            rfl
    · have hb2 := (Bool.or_eq_false_iff).mp hb
      have hj : j = 0 := by
        have := of_decide_eq_false hb2.2
        omega
      have hne : pre ≠ [] := fun z => by
        have := of_decide_eq_false hb2.1
        rw [z] at this
        exact this rfl
      have hfin : pre = Bm.ds c k := by
        rcases hd with hd | hd
        · have := hd.2 hne
          omega
        · exact hd.2
      refine s_ret (ev_var rfl) fun H3 e3 => q p H3 hp ((ex.trans e2).trans e3) ?_
      rw [e3 _ _ (e2 _ _ lp), hfin]
      unfold figV figI Bm.fig
      rw [Int.toNat_natCast, Int.toNat_natCast]

def palI (n b : Int) : Bool := Bm.pal b.toNat n.toNat
theorem figI_pal (n b : Int) : decide (figI n b = (figI n b).reverse) = palI n b := by
  unfold palI
  rw [Bm.pal_fig]
  unfold figI
  rw [← List.map_reverse]
  have inj : ∀ (l m : List Nat), (l.map fun d : Nat => (d : Int)) = (m.map fun d : Nat => (d : Int)) ↔ l = m := fun l m => by
    constructor
    · intro h
      exact (List.map_inj_right (fun a b h => Int.ofNat.inj h)).mp h
    · intro h
      rw [h]
  simp only [inj]
def sp__law_reads : Sp := spI2 CNum fun n b => .bl (palI n b)
theorem ok__law_reads (T : Tx K mg) : FnOk P w K mg base CX0 2 T.a__law_reads T.d__law_reads ["_law_number_here", "_law_base_here"] sp__law_reads := by
  refine T.F__law_reads.ok sc__law_reads (fun vs H Q E h => ?_) (fun cdv A outer s H vs Q E hr h => ?_)
  · obtain ⟨a, b, rfl, _⟩ := h
    rfl
  · obtain ⟨n, b, rfl, c, q⟩ := h
    refine ⟨_, (pss_cons (ps_set (i := 2) sc__law_reads.nd rfl (Or.inl rfl) (pe_call (ok__law_figures T) (hr.mono (by decide)) (by rfl) T.g__law_figures T.F__law_figures.kp T.b__law_figures .nil pass0 (pa_cons (pv 0) (pa_cons (pv 1) pa_nil))))
      (pss_one (ps_ret (pe_cmpR (op_eqD hr.units) (pv 2) (pe_revL (pv 2)) (nomark _))))), ?_⟩
    refine q_asgL (el2 (ev_var rfl) (ev_var rfl) c) fun p H1 hp e1 l1 => ?_
    refine s_ret (ev_eqVN (xs := figI n b) (ys := (figI n b).reverse) (ev_var rfl) (sq_of l1) (elI (el_rev (ev_var rfl) (sq_of l1)) (List.map_reverse).symm)) fun H2 e2 => ?_
    rw [figI_pal]
    exact q H2 (e1.trans e2)

def sp__law_wrong : Sp := spI2 CNum fun n b => .int (fwI n b)
set_option maxHeartbeats 1000000 in
theorem ok__law_wrong (T : Tx K mg) : FnOk P w K mg base CX0 2 T.a__law_wrong T.d__law_wrong ["_law_number_here", "_law_base_here"] sp__law_wrong := by
  refine T.F__law_wrong.ok sc__law_wrong (fun vs H Q E h => ?_) (fun cdv A outer s H vs Q E hr h => ?_)
  · obtain ⟨a, b, rfl, _⟩ := h
    rfl
  · obtain ⟨n, b, rfl, c, q⟩ := h
    refine ⟨_, (pss_cons (ps_set (i := 2) sc__law_wrong.nd rfl (Or.inl rfl) (pe_call (ok__law_figures T) (hr.mono (by decide)) (by rfl) T.g__law_figures T.F__law_figures.kp T.b__law_figures .nil pass0 (pa_cons (pv 0) (pa_cons (pv 1) pa_nil))))
      (pss_cons (ps_for PassesOwn.never rfl (pi_range1 (by rfl) T.m_range (pa_cons (pe_callB (r := rLenS _) call_len_seq (by rfl) T.m_len PySem.boot_len (pa_cons (pv 2) pa_nil)) pa_nil)) (pg_name (i := 3) sc__law_wrong.nd rfl (Or.inl rfl))
      (pss_one (ps_if (pt_cmpR op_ne (pe_ix ix_list (pv 2) (pv 3) (fun _ _ => rfl)) (pe_ix ix_list (pv 2) (pe_op op_sub (pe_un un_neg pe_int) (pv 3)) (fun _ _ => rfl)) (nomark _)) (pss_one (ps_ret (pv 3))) pss_nil)))
      (pss_one (ps_ret (pe_un un_neg pe_int))))), ?_⟩
    refine q_asgL (el2 (ev_var rfl) (ev_var rfl) c) fun p H1 hp e1 l1 => ?_
    have hfl : (figV n b).length = (figI n b).length := List.length_map ..
    have hbd := (figI_len c).1
    refine q_forR1 (n := ((figV n b).length : Int)) (ea_cons (ev_len (ev_var rfl) (sq_of l1)) ea_nil) (by omega) (fun i σ' H' => (∃ y3, σ' = [some (.int n), some (.int b), some (.ref p), y3]) ∧ Ex H1 H' ∧ ∀ j, j < i → (figI n b).getD j 0 = (figI n b).getD ((figI n b).length - 1 - j) 0) (fun H2 e2 => ⟨⟨_, rfl⟩, e2, fun j hj => absurd hj (Nat.not_lt_zero j)⟩) (fun i σ' H' hi w => ?_) (fun σ' H' w => ?_)
    · obtain ⟨⟨y3, rfl⟩, ex, hj⟩ := w
      have hi2 : i < (figI n b).length := by omega
      have l2 := ex _ _ l1
      have a1 := atI_ints (xs := figI n b) (i := (i : Int)) (by omega) (by omega)
      rw [Int.toNat_natCast] at a1
      refine s_when (b := !decide (V.int ((figI n b).getD i 0) = V.int ((figI n b).getD ((figI n b).length - 1 - i) 0))) (et_test (ev_op (ev_ixV (ev_var rfl) (sq_of l2) (ev_var rfl) (by first | exact a1 | exact atI_minus hi2)) (ev_ixV (ev_var rfl) (sq_of l2) (ev_op (ev_un ev_c ru_neg) (ev_var rfl) rv_I0) (by first | exact a1 | exact atI_minus hi2)) (rv_ne rfl))) (fun hb H2 e2 => ?_) (fun hb H2 e2 => ?_)
      · have hne : (figI n b).getD i 0 ≠ (figI n b).getD ((figI n b).length - 1 - i) 0 := fun z => by
          rw [z, decide_eq_true rfl] at hb
          cases hb
        have efw : fwI n b = (i : Int) := fw_some hi2 hne hj
        dsimp only at q
        rw [efw] at q
        exact s_ret (ev_var rfl) fun H3 e3 => q H3 (e1.trans ((ex.trans e2).trans e3))
      · refine ⟨⟨_, rfl⟩, ex.trans e2, fun j hj' => ?_⟩
        rcases Nat.lt_or_ge j i with z | z
        · exact hj j z
        · have : j = i := by omega
          subst this
          have := of_decide_eq_true ((Bool.not_eq_false' ..).mp hb)
          exact V.int.inj this
    · obtain ⟨⟨y3, rfl⟩, ex, hj⟩ := w
      rw [Int.toNat_natCast, hfl] at hj
      have efw : fwI n b = -1 := fw_none hj
      dsimp only at q
      rw [efw] at q
      exact s_ret (ev_un ev_c ru_neg) fun H3 e3 => q H3 (e1.trans (ex.trans e3))

def sp__law_whole : Sp := spI1 (fun _ => True) fun _ => .bl true
theorem ok__law_whole (T : Tx K mg) : FnOk P w K mg base CX0 1 T.a__law_whole T.d__law_whole ["_law_found"] sp__law_whole := by
  refine T.F__law_whole.ok sc__law_whole (fun vs H Q E h => ?_) (fun cdv A outer s H vs Q E hr h => ?_)
  · obtain ⟨a, rfl, _⟩ := h
    rfl
  · obtain ⟨a, rfl, _, q⟩ := h
    refine ⟨_, (pss_one (ps_ret (pe_and (pe_callB call_isi (by rfl) T.m_isinstance (by decide +kernel) (pa_cons (pv 0) (pa_cons (pe_bltn (v := .ty "int") (by rfl) T.m_int (by decide +kernel) rfl) pa_nil))) (pe_one (pe_not (pe_callB call_isi (by rfl) T.m_isinstance (by decide +kernel) (pa_cons (pv 0) (pa_cons (pe_bltn (v := .ty "bool") (by rfl) T.m_bool (by decide +kernel) rfl) pa_nil)))))))), ?_⟩
    exact s_ret (ev_andV (ev_isI (b := true) (ev_var rfl) (by decide +kernel)) fun _ => ev_notV (ev_isI (b := false) (ev_var rfl) (by decide +kernel))) q

def sp__law_says : Sp := fun vs H Q _ => ∃ x y, vs = [.bl x, .bl y] ∧ RetV (.bl (decide (x = y))) H Q
theorem ecB2 {σ : L2.St} {H : Hp} {ta tb : TE} {x y : Bool} {E : XK} (h1 : Ev ta σ H (.bl x)) (h2 : Ev tb σ H (.bl y)) (_ : True) : Ev (tCall sp__law_says [] E (tCons ta (tCons tb tNil))) σ H (.bl (decide (x = y))) := ev_call (ea_cons h1 (ea_cons h2 ea_nil)) fun _ _ _ q _ => ⟨x, y, rfl, q⟩
theorem ok__law_says (T : Tx K mg) : FnOk P w K mg base CX0 1 T.a__law_says T.d__law_says ["_law_said", "_law_due_here"] sp__law_says := by
  refine T.F__law_says.ok sc__law_says (fun vs H Q E h => ?_) (fun cdv A outer s H vs Q E hr h => ?_)
  · obtain ⟨x, y, rfl, _⟩ := h
    rfl
  · obtain ⟨x, y, rfl, q⟩ := h
    refine ⟨_, (pss_one (ps_ret (pe_and (pe_callB call_isi (by rfl) T.m_isinstance (by decide +kernel) (pa_cons (pv 0) (pa_cons (pe_bltn (v := .ty "bool") (by rfl) T.m_bool (by decide +kernel) rfl) pa_nil))) (pe_one (pe_cmpR op_eq (pv 0) (pv 1) (nomark _)))))), ?_⟩
    have e : (true && decide (V.bl x = V.bl y)) = decide (x = y) := by
      cases x <;> cases y <;> rfl
    have hq : (v : V) → v = .bl (decide (x = y)) → RetV v H Q := fun v hv => by rw [hv]; exact q
    exact s_ret (ev_andV (ev_isB (b := true) (ev_var rfl) (by decide +kernel)) fun _ => ev_op (ev_var rfl) (ev_var rfl) (rv_eq rfl)) (hq _ (by rw [e]))

theorem palI_nat (n b : Nat) : palI (n : Int) (b : Int) = Bm.pal b n := by
  unfold palI
  rw [Int.toNat_natCast, Int.toNat_natCast]
theorem blI_nat (n b : Nat) : blI (n : Int) (b : Int) = ((Bm.bl b n : Nat) : Int) := by
  unfold blI
  rw [Int.toNat_natCast, Int.toNat_natCast]
theorem nbI_nat (n b : Nat) : nbI (n : Int) (b : Int) = ((Bm.nb b n : Nat) : Int) := by
  unfold nbI
  rw [Int.toNat_natCast, Int.toNat_natCast]
theorem cntI_nat (m b : Nat) : cntI (m : Int) (b : Int) = ((Bm.cnt b m : Nat) : Int) := by
  unfold cntI
  rw [Int.toNat_natCast, Int.toNat_natCast]
theorem figI_length (n b : Nat) : (figI (n : Int) (b : Int)).length = (Bm.ds b n).length := by
  rw [figI_nat, List.length_map]
  unfold Bm.fig
  rw [List.length_reverse]
theorem bl_le {b : Nat} (hb : 2 ≤ b) (n : Nat) : Bm.bl b n ≤ n := by
  rw [← Bm.pals_len hb n]
  unfold Bm.pals
  exact Nat.le_trans (List.length_filter_le _ _) (by rw [List.length_range]; exact Nat.le_refl n)

theorem getD_rev {l : List Int} {j : Nat} (hj : j < l.length) : l.reverse.getD j 0 = l.getD (l.length - 1 - j) 0 := by
  rw [List.getD_eq_getElem?_getD, List.getD_eq_getElem?_getD, List.getElem?_reverse hj]
theorem fw_pal (l : List Int) : fwL l < 0 ↔ l = l.reverse := by
  constructor
  · intro h
    have hb : ∀ j, j < l.length → l.getD j 0 = l.getD (l.length - 1 - j) 0 := by
      intro j hj
      unfold fwL at h
      cases e : (List.range l.length).find? (fun i => decide (l.getD i 0 ≠ l.getD (l.length - 1 - i) 0)) with
      | some i =>
        rw [e] at h
        exact absurd h (by show ¬ (i : Int) < 0; omega)
      | none =>
        rw [List.find?_range_eq_none] at e
        have := e j hj
        simpa using this
    refine List.ext_getElem (by rw [List.length_reverse]) fun i h1 h2 => ?_
    have := hb i h1
    rw [← getD_rev h1] at this
    rw [List.getD_eq_getElem?_getD, List.getElem?_eq_getElem h1, List.getD_eq_getElem?_getD, List.getElem?_eq_getElem h2] at this
    exact this
  · intro h
    have : fwL l = -1 := fw_none fun j hj => by rw [← getD_rev hj, ← h]
    rw [this]
    decide
theorem fwI_pal (n b : Int) : decide (fwI n b < 0) = palI n b := by
  rw [← figI_pal]
  unfold fwI
  exact decide_eq_decide.mpr (fw_pal _)
theorem fw_of_pal {n b : Int} (h : palI n b = true) : fwI n b < 0 := by
  rw [← fwI_pal] at h
  exact of_decide_eq_true h

theorem pow_cn {b m : Nat} (hb : 2 ≤ b) (hb2 : b ≤ 1000) (hm : m ≤ 200) (d : Nat) (hd : d ≤ 1) : CNum ((b ^ m + d : Nat) : Int) (b : Int) := by
  refine ⟨by omega, nat_big ?_, by omega, by omega⟩
  have h1 : b ^ m ≤ 2 ^ (10 * m) := Bm.pow_le_two hb2
  have h2 : (2 : Nat) ^ (10 * m) ≤ 2 ^ 2000 := pow_two_le (by omega)
  have h3 : (2 : Nat) ^ 2000 + 2 ^ 2000 ≤ 2 ^ 20000 := by
    rw [← Nat.mul_two, ← Nat.pow_succ]
    exact pow_two_le (by decide)
  have h4 : 1 ≤ (2 : Nat) ^ 2000 := Nat.pow_pos (by decide)
  omega
theorem tens {m d : Nat} (hm : m ≤ 300) (hd : d ≤ 1) : CNum ((10 ^ m + d : Nat) : Int) 10 := by
  refine ⟨Int.natCast_nonneg _, nat_big ?_, by decide, by decide⟩
  have h1 : 10 ^ m ≤ 2 ^ (10 * m) := Bm.pow_le_two (by decide)
  have h2 : (2 : Nat) ^ (10 * m) ≤ 2 ^ 3000 := pow_two_le (by omega)
  have h3 : (2 : Nat) ^ 3000 + 2 ^ 3000 ≤ 2 ^ 20000 := by
    rw [← Nat.mul_two, ← Nat.pow_succ]
    exact pow_two_le (by decide)
  have h4 : 1 ≤ (2 : Nat) ^ 3000 := Nat.pow_pos (by decide)
  omega
theorem pow_int (b : Int) (m : Nat) (h : b = 10) : b ^ m = ((10 ^ m : Nat) : Int) := by
  rw [h, Int.natCast_pow]
  rfl
theorem pow_nabs (m : Nat) (hm : m ≤ 1000) : ((10 : Int) ^ m).natAbs < 2 ^ 1048577 := by
  rw [pow_int 10 m rfl, Int.natAbs_natCast]
  have h1 : 10 ^ m ≤ 2 ^ (10 * m) := Bm.pow_le_two (by decide)
  exact Nat.lt_of_le_of_lt h1 (Nat.pow_lt_pow_right (by decide) (by omega))
theorem pow_nabs2 (m : Nat) (hm : m ≤ 1000) : (2 * (10 : Int) ^ m).natAbs < 2 ^ 1048577 := by
  rw [pow_int 10 m rfl, Int.natAbs_mul, Int.natAbs_natCast]
  have h1 : 10 ^ m ≤ 2 ^ (10 * m) := Bm.pow_le_two (by decide)
  have h2 : 2 * 2 ^ (10 * m) = 2 ^ (10 * m + 1) := by rw [Nat.pow_succ, Nat.mul_comm]
  have h3 : (2 : Nat) ^ (10 * m + 1) < 2 ^ 1048577 := Nat.pow_lt_pow_right (by decide) (by omega)
  show 2 * 10 ^ m < _
  omega
theorem gn_cn {b n d : Nat} (hb : 2 ≤ b) (hb3 : b ≤ 1000) (h : n < 2 ^ 15000) (hd : d ≤ 1) : CNum ((n : Int) + (d : Int)) (b : Int) := by
  refine ⟨by omega, ?_, by omega, by omega⟩
  rw [← Int.natCast_add]
  refine nat_big ?_
  have h4 : (2 : Nat) ^ 15000 + 2 ^ 15000 ≤ 2 ^ 20000 := by
    rw [← Nat.mul_two, ← Nat.pow_succ]
    exact pow_two_le (by decide)
  have h5 : 0 < (2 : Nat) ^ 15000 := Nat.pow_pos (by decide)
  omega
theorem gn_cn0 {b n : Nat} (hb : 2 ≤ b) (hb3 : b ≤ 1000) (h : n < 2 ^ 15000) : CNum (n : Int) (b : Int) := gn_cn (d := 0) hb hb3 h (by decide)
theorem gn_cn1 {b n : Nat} (hb : 2 ≤ b) (hb3 : b ≤ 1000) (h : n < 2 ^ 15000) : CNum ((n : Int) + 1) (b : Int) := gn_cn (d := 1) hb hb3 h (by decide)

theorem ash_pal (n a b : Int) : ashI n a b = (palI n a && palI n b) := by
  unfold ashI
  rw [fwI_pal, fwI_pal]

theorem jd_right (n a b : Int) : shI (jd n a b) n a b = true := by
  unfold jd
  by_cases h1 : 0 ≤ fwI n a
  · rw [if_pos h1]
    show ushI a (fwI n a) n a b = true
    unfold ushI
    rw [inV2, decide_eq_true rfl, decide_eq_true h1, decide_eq_true rfl]
    rfl
  · rw [if_neg h1]
    by_cases h2 : 0 ≤ fwI n b
    · rw [if_pos h2]
      show ushI b (fwI n b) n a b = true
      unfold ushI
      rw [inV2, decide_eq_true (show b = b from rfl), decide_eq_true h2, decide_eq_true rfl, Bool.or_true]
      rfl
    · rw [if_neg h2]
      show ashI n a b = true
      unfold ashI
      rw [decide_eq_true (by omega), decide_eq_true (by omega)]
      rfl
theorem fw_bd {n b : Int} (h : CNum n b) : -1 ≤ fwI n b ∧ fwI n b < 20000 := by
  have hl := (figI_len h).1
  unfold fwI fwL
  cases e : (List.range (figI n b).length).find? (fun i => decide ((figI n b).getD i 0 ≠ (figI n b).getD ((figI n b).length - 1 - i) 0)) with
  | none => exact ⟨by decide, by decide⟩
  | some i =>
    have := List.mem_range.mp (List.mem_of_find?_eq_some e)
    show -1 ≤ (i : Int) ∧ (i : Int) < 20000
    omega

def sp__law_due (A U : Addr) : Sp := fun vs H Q _ => ∃ n a b x dx w, vs = [.int n, .int a, .int b, .ref x] ∧ H x = some (.ins (anC A U w) dx (anF w)) ∧ CJ n a b ∧ RetV (.bl (shI w n a b)) H Q
theorem ec_due {σ : L2.St} {H : Hp} {t1 t2 t3 ta : TE} {n a b : Int} {A U x dx : Addr} {E : XK} {w : Option (Int × Int)} (h1 : Ev t1 σ H (.int n)) (h2 : Ev t2 σ H (.int a)) (h3 : Ev t3 σ H (.int b)) (h : Ev ta σ H (.ref x)) (hx : H x = some (.ins (anC A U w) dx (anF w))) (hc : CJ n a b) :
    Ev (tCall (sp__law_due A U) [] E (tCons t1 (tCons t2 (tCons t3 (tCons ta tNil))))) σ H (.bl (shI w n a b)) := ev_call (ea_cons h1 (ea_cons h2 (ea_cons h3 (ea_cons h ea_nil)))) fun _ e _ q _ => ⟨n, a, b, x, dx, w, rfl, e _ _ hx, hc, q⟩
theorem ok__law_due (T : Tx K mg) : FnOk P w K mg base CX0 3 T.a__law_due T.d__law_due ["_law_number_here", "_law_one", "_law_other", "_law_found"] (sp__law_due T.a_Alike T.a_Unlike) := by
  refine T.F__law_due.ok sc__law_due (fun vs H Q E h => ?_) (fun cdv A outer s H vs Q E hr h => ?_)
  · obtain ⟨n, a, b, x, dx, w, rfl, _⟩ := h
    rfl
  · obtain ⟨n, a, b, x, dx, w, rfl, hx, ⟨c1, c2⟩, q⟩ := h
    refine ⟨_, (pss_cons (ps_if (pt_val (pe_callB call_isi (by rfl) T.m_isinstance (by decide +kernel) (pa_cons (pv 3) (pa_cons (pe_glob (v := .ref T.a_Alike) (by rfl) T.g_Alike rfl) pa_nil)))) (pss_one (ps_ret (pe_and (pe_call (ok__law_reads T) (hr.mono (by decide)) (by rfl) T.g__law_reads T.F__law_reads.kp T.b__law_reads .nil pass0 (pa_cons (pv 0) (pa_cons (pv 1) pa_nil))) (pe_one (pe_call (ok__law_reads T) (hr.mono (by decide)) (by rfl) T.g__law_reads T.F__law_reads.kp T.b__law_reads .nil pass0 (pa_cons (pv 0) (pa_cons (pv 2) pa_nil))))))) pss_nil)
      (pss_one (ps_ret (pe_and (pe_cmpR op_in_seq (pe_fld (pv 3) rfl) (pe_tup (pa_cons (pv 1) (pa_cons (pv 2) pa_nil))) (by rfl)) (pe_and (pe_cmpR op_ge (pe_fld (pv 3) rfl) pe_int (nomark _)) (pe_one (pe_cmpR op_eq (pe_call (ok__law_wrong T) (hr.mono (by decide)) (by rfl) T.g__law_wrong T.F__law_wrong.kp T.b__law_wrong .nil pass0 (pa_cons (pv 0) (pa_cons (pe_fld (pv 3) rfl) pa_nil))) (pe_fld (pv 3) rfl) (nomark _)))))))), ?_⟩
    have c3 : CNum n b := ⟨c1.1, c1.2.1, c2⟩
    cases w with
    | none =>
      refine q_yes (et_B (ev_isO T.C_Alike (ev_var rfl) hx T.i_Alike_Alike)) rfl fun H1 e1 => ?_
      have eq1 : shI none n a b = (palI n a && palI n b) := ash_pal n a b
      rw [eq1] at q
      exact s_ret (ev_andV (ec2 (ev_var rfl) (ev_var rfl) (by first | exact c1 | exact c3)) fun _ => (ec2 (ev_var rfl) (ev_var rfl) (by first | exact c1 | exact c3))) fun H2 e2 => q H2 (e1.trans e2)
    | some up =>
      obtain ⟨u, p⟩ := up
      refine q_no (et_B (ev_isO T.C_Unlike (ev_var rfl) hx T.i_Unlike_Alike)) rfl fun H1 e1 => ?_
      have hx1 : H1 x = some (.ins T.a_Unlike dx (uf u p)) := e1 _ _ hx
      have hcn : inV (.int u) [.int a, .int b] = true → CNum n u := fun z => by
        rw [inV2, Bool.or_eq_true, decide_eq_true_eq, decide_eq_true_eq] at z
        rcases z with z | z
        · rw [← z]
          exact c1
        · rw [← z]
          exact c3
      exact s_ret (ev_andV (ev_inU (ev_fld (ev_var rfl) hx1 T.C_Unlike.cl T.n_Unlike_base uf_base) (eu_tup (ea_cons (ev_var rfl) (ea_cons (ev_var rfl) ea_nil)) (by simp)) rfl rfl) fun _ => (ev_andV (ev_op (ev_fld (ev_var rfl) hx1 T.C_Unlike.cl T.n_Unlike_place uf_place) ev_c rv_I0) fun _ => (ev_op (ec2 (ev_var rfl) (ev_fld (ev_var rfl) hx1 T.C_Unlike.cl T.n_Unlike_base uf_base) (hcn (by assumption))) (ev_fld (ev_var rfl) hx1 T.C_Unlike.cl T.n_Unlike_place uf_place) (rv_eq rfl)))) fun H2 e2 => q H2 (e1.trans e2)

def triD (t : Int × Int × Int) : PyData := .tuple [.int t.1, .int t.2.1, .int t.2.2]
def sp__law_right : Sp := fun vs H Q _ => ∃ (n a b : Int) (v : V) (os : List (Int × Int × Int)), vs = [.int n, .int a, .int b, v] ∧ CJ n a b ∧ Dh H v (.list (os.map triD)) ∧ (∀ t ∈ os, CJ t.1 t.2.1 t.2.2) ∧ RetV (.bl true) H Q
theorem ec_right {σ : L2.St} {H : Hp} {t1 t2 t3 ta : TE} {n a b : Int} {v : V} {E : XK} {os : List (Int × Int × Int)} (h1 : Ev t1 σ H (.int n)) (h2 : Ev t2 σ H (.int a)) (h3 : Ev t3 σ H (.int b)) (h : Ev ta σ H v) (hv : Dh H v (.list (os.map triD))) (hc : CJ n a b) (ho : ∀ t ∈ os, CJ t.1 t.2.1 t.2.2) :
    Ev (tCall sp__law_right [] E (tCons t1 (tCons t2 (tCons t3 (tCons ta tNil))))) σ H (.bl true) := ev_call (ea_cons h1 (ea_cons h2 (ea_cons h3 (ea_cons h ea_nil)))) fun _ e _ q _ => ⟨n, a, b, v, os, rfl, hc, Dh.mono e _ _ hv, ho, q⟩
theorem jd_bad {n a b : Int} (c1 : CNum n a) (c2 : CB b) : (([a, b] : List Int).filter (fun c => !palI n c) = [] ∧ jd n a b = none) ∨ ∃ c r, ([a, b] : List Int).filter (fun c => !palI n c) = c :: r ∧ jd n a b = some (c, fwI n c) ∧ CNum n c ∧ r.length ≤ 1 := by
  have c3 : CNum n b := ⟨c1.1, c1.2.1, c2⟩
  unfold jd
  have p1 := fwI_pal n a
  have p2 := fwI_pal n b
  by_cases h1 : 0 ≤ fwI n a
  · right
    rw [decide_eq_false (by omega)] at p1
    rw [if_pos h1]
    refine ⟨a, ([b] : List Int).filter (fun c => !palI n c), ?_, rfl, c1, List.length_filter_le _ _⟩
    rw [List.filter_cons_of_pos (by rw [← p1]; rfl)]
  · rw [decide_eq_true (by omega)] at p1
    rw [if_neg h1, List.filter_cons_of_neg (by rw [← p1]; decide)]
    by_cases h2 : 0 ≤ fwI n b
    · right
      rw [decide_eq_false (by omega)] at p2
      rw [if_pos h2]
      refine ⟨b, [], ?_, rfl, c3, by decide⟩
      rw [List.filter_cons_of_pos (by rw [← p2]; rfl), List.filter_nil]
    · left
      rw [decide_eq_true (by omega)] at p2
      rw [if_neg h2, List.filter_cons_of_neg (by rw [← p2]; decide), List.filter_nil]
      exact ⟨rfl, rfl⟩
theorem abs_small {i : Int} (h1 : -1 ≤ i) (h2 : i < 20000) : i.natAbs < 10 ^ 100 := Nat.lt_of_lt_of_le (show i.natAbs < 20000 by omega) (by decide +kernel)
set_option maxHeartbeats 4000000 in
theorem ok__law_right (T : Tx K mg) : FnG P w K mg base CX0 4 T.a__law_right T.d__law_right ["_law_number_here", "_law_one", "_law_other", "_law_others"] sp__law_right := by
  refine okG T.F__law_right sc__law_right (fun vs H Q E h => ?_) (fun cdv A outer s H vs Q E hG hr h => ?_)
  · obtain ⟨n, a, b, v, os, rfl, _⟩ := h
    rfl
  · obtain ⟨n, a, b, v, os, rfl, ⟨c1, c2⟩, hv, ho, q⟩ := h
    have c3 : CNum n b := ⟨c1.1, c1.2.1, c2⟩
    refine ⟨_, (pss_cons (ps_setLc (i := 4) (own := [("_law_base_here", 11)]) (g := gName 11) (by rfl) sc__law_right.nd rfl rfl (sw_true rfl rfl rfl (by decide +kernel)) (pi_tup (pe_tup (pa_cons (pv 1) (pa_cons (pv 2) pa_nil)))) (blkOk_by (own := [("_law_base_here", 11)]) (N := N__law_right) (sc := defScope s__law_right) (by decide +kernel)) (fun _ _ _ _ _ => pg_name (i := 11) sc__law_right.nd rfl (Or.inl rfl)) (fun _ _ _ _ _ => pts_one (pt_not (pt_val (pe_call (ok__law_reads T) (hr.mono (by decide)) (by rfl) T.g__law_reads T.F__law_reads.kp T.b__law_reads .nil pass0 (pa_cons (pv 0) (pa_cons (pv 11) pa_nil)))))) (fun _ _ _ _ _ => (pv 11)))
      (pss_cons (ps_set (i := 5) sc__law_right.nd rfl (Or.inl rfl) (pe_call (ok_judged T) (hr.mono (by decide)) (by rfl) T.g_judged T.F_judged.kp T.b_judged .nil pass0 (pa_cons (pv 0) (pa_cons (pv 1) (pa_cons (pv 2) pa_nil)))))
      (pss_cons (ps_set (i := 6) sc__law_right.nd rfl (Or.inl rfl) (pe_lst (pa_cons (pe_callB call_isi (by rfl) T.m_isinstance (by decide +kernel) (pa_cons (pv 5) (pa_cons (pe_glob (v := .ref T.a_Alike) (by rfl) T.g_Alike rfl) pa_nil))) (pa_cons (pe_callB call_isi (by rfl) T.m_isinstance (by decide +kernel) (pa_cons (pv 5) (pa_cons (pe_glob (v := .ref T.a_Unlike) (by rfl) T.g_Unlike rfl) pa_nil))) pa_nil))))
      (pss_cons (ps_if (PW.pt (pw_or (pt_not (pt_val (pe_callB call_isi (by rfl) T.m_isinstance (by decide +kernel) (pa_cons (pv 5) (pa_cons (pe_glob (v := .ref T.a_Answer) (by rfl) T.g_Answer rfl) pa_nil))))) (pw_or1 (pt_cmpR (op_neD hr.units) (pv 6) (pe_lst (pa_cons (pe_cmpR (op_eqD hr.units) (pv 4) (pe_lst pa_nil) (nomark _)) (pa_cons (pe_cmpR (op_neD hr.units) (pv 4) (pe_lst pa_nil) (nomark _)) pa_nil))) (nomark _))))) (pss_one (ps_ret pe_bl)) pss_nil)
      (pss_cons (ps_set (i := 7) sc__law_right.nd rfl (Or.inl rfl) (pe_ifExp (pt_cmpR (op_neD hr.units) (pv 4) (pe_lst pa_nil) (nomark _)) (pe_tup (pa_cons (pe_ix ix_list (pv 4) pe_int (fun _ _ => rfl)) (pa_cons (pe_call (ok__law_wrong T) (hr.mono (by decide)) (by rfl) T.g__law_wrong T.F__law_wrong.kp T.b__law_wrong .nil pass0 (pa_cons (pv 0) (pa_cons (pe_ix ix_list (pv 4) pe_int (fun _ _ => rfl)) pa_nil))) pa_nil))) pe_non))
      (pss_cons (ps_if (PW.pt (pw_and (pt_cmpR op_notN (pv 7) pe_non (nomark _)) (pw_and1 (pt_cmpR op_ne (pe_callTy (r := rStrD _) (call_strD hG (hu100 hr)) (by rfl) T.m_str (by decide +kernel) (pa_cons (pe_tup (pa_cons (pe_fld (pv 5) rfl) (pa_cons (pe_fld (pv 5) rfl) pa_nil))) pa_nil)) (pe_callTy (r := rStrD _) (call_strD hG (hu100 hr)) (by rfl) T.m_str (by decide +kernel) (pa_cons (pv 7) pa_nil)) (nomark _))))) (pss_one (ps_ret pe_bl)) pss_nil)
      (pss_cons (ps_if (PW.pt (pw_and (pt_cmpR (op_neD hr.units) (pv 4) (pe_lst pa_nil) (nomark _)) (pw_and1 (pt_not (pt_val (pe_call (ok__law_whole T) (hr.mono (by decide)) (by rfl) T.g__law_whole T.F__law_whole.kp T.b__law_whole .nil pass0 (pa_cons (pe_fld (pv 5) rfl) pa_nil))))))) (pss_one (ps_ret pe_bl)) pss_nil)
      (pss_cons (ps_if (pt_not (pt_val (pe_call (ok__law_says T) (hr.mono (by decide)) (by rfl) T.g__law_says T.F__law_says.kp T.b__law_says .nil pass0 (pa_cons (pe_meth2 (pv 5) T.C_Alike.cl T.C_Unlike.cl T.M_Alike_shows T.M_Unlike_shows (ok_Alike_shows T) (ok_Unlike_shows T) (hr.mono (by decide)) (hr.mono (by decide)) T.b_Alike_shows T.b_Unlike_shows pass0 (pa_cons (pv 0) (pa_cons (pv 1) (pa_cons (pv 2) pa_nil)))) (pa_cons pe_bl pa_nil))))) (pss_one (ps_ret pe_bl)) pss_nil)
      (pss_cons (ps_for PassesOwn.never rfl (pi_list (pv 3)) (pg_tup rfl (pgs_cons (pg_name (i := 8) sc__law_right.nd rfl (Or.inl rfl)) (pgs_cons (pg_name (i := 9) sc__law_right.nd rfl (Or.inl rfl)) (pgs_cons (pg_name (i := 10) sc__law_right.nd rfl (Or.inl rfl)) pgs_nil))))
      (pss_one (ps_if (pt_not (pt_val (pe_call (ok__law_says T) (hr.mono (by decide)) (by rfl) T.g__law_says T.F__law_says.kp T.b__law_says .nil pass0 (pa_cons (pe_meth2 (pv 5) T.C_Alike.cl T.C_Unlike.cl T.M_Alike_shows T.M_Unlike_shows (ok_Alike_shows T) (ok_Unlike_shows T) (hr.mono (by decide)) (hr.mono (by decide)) T.b_Alike_shows T.b_Unlike_shows pass0 (pa_cons (pv 8) (pa_cons (pv 9) (pa_cons (pv 10) pa_nil)))) (pa_cons (pe_call (ok__law_due T) (hr.mono (by decide)) (by rfl) T.g__law_due T.F__law_due.kp T.b__law_due .nil pass0 (pa_cons (pv 8) (pa_cons (pv 9) (pa_cons (pv 10) (pa_cons (pv 5) pa_nil))))) pa_nil))))) (pss_one (ps_ret pe_bl)) pss_nil)))
      (pss_one (ps_ret pe_bl))))))))))), ?_⟩
    refine q_asgL (xs := (([a, b] : List Int).filter fun c => !palI n c).map V.int) (el_filNT (fun c => !palI n c) V.int (eu_tup (ea_cons (ev_var rfl) (ea_cons (ev_var rfl) ea_nil)) (by simp)) (by simp) (fun _ => rfl) (fun c hc H1 e1 => et_not (et_B (ec2 (ev_var rfl) (ev_var rfl) ?cn))) (fun c hc H1 e1 => ev_var rfl)) fun pb H1 hpb e1 l1 => ?_
    case cn =>
      simp only [List.mem_cons, List.not_mem_nil, or_false] at hc
      rcases hc with rfl | rfl
      · exact c1
      · exact c3
    refine q_asgI (ei_judged (ev_var rfl) (ev_var rfl) (ev_var rfl) ⟨c1, c2⟩) fun x dx H2 hx e2 l2 => ?_
    have l2b := e2 _ _ l1
    have hsh := jd_right n a b
    rcases jd_bad c1 c2 with ⟨eb, ew⟩ | ⟨c, r, eb, ew, cc, hrl⟩
    · rw [eb] at l2b
      rw [ew] at l2 hsh
      have l2a : H2 x = some (.ins T.a_Alike dx []) := l2
      refine q_asgL (el_lst (ea_cons (ev_isO T.C_Alike (ev_var rfl) l2a T.i_Alike_Alike) (ea_cons (ev_isO T.C_Alike (ev_var rfl) l2a T.i_Alike_Unlike) ea_nil)) (by simp)) fun ps H3 hps e3 l3 => ?_
      have l3b := e3 _ _ l2b
      have l3a := e3 _ _ l2a
      refine q_no (et_or (et_not (et_B (ev_isO T.C_Alike (ev_var rfl) l3a T.i_Alike_Answer))) fun _ => et_test (ev_neD (ed_val (ev_var rfl) (.lst l3 (DhAll.bools _ [true, false]))) (ed_lst (eda_cons (ed_bl (ev_eqVN (xs := []) (ys := []) (ev_var rfl) (sq_of l3b) (elI (ys := []) (el_lst ea_nil (by simp)) rfl))) (eda_cons (ed_bl (ev_neVN (xs := []) (ys := []) (ev_var rfl) (sq_of l3b) (elI (ys := []) (el_lst ea_nil (by simp)) rfl))) eda_nil)) (by simp)) (by decide +kernel) (by decide +kernel))) (by decide +kernel) fun H4 e4 => ?_
      have l4b := e4 _ _ l3b
      refine q_asg (v := .non) (ev_if (et_test (ev_neVN (xs := []) (ys := []) (ev_var rfl) (sq_of l4b) (elI (ys := []) (el_lst ea_nil (by simp)) rfl))) (fun z => absurd z (by decide)) (fun z => ev_c)) fun H5 e5 => ?_
      refine q_no (et_and (et_test (ev_op (ev_var rfl) ev_c rv_notN)) fun z => absurd z (by decide)) (b := (!decide (V.non = V.non)) && false) (by decide) fun H6 e6 => ?_
      have l6b := e6 _ _ (e5 _ _ l4b)
      refine q_no (b := (!decide (([] : List Int) = [])) && false) (et_and (et_test (ev_neVN (xs := []) (ys := []) (ev_var rfl) (sq_of l6b) (elI (ys := []) (el_lst ea_nil (by simp)) rfl))) fun z => absurd z (by decide)) (by decide) fun H7 e7 => ?_
      have l7 : H7 x = some (.ins (anC T.a_Alike T.a_Unlike none) dx (anF none)) := e7 _ _ (e6 _ _ (e5 _ _ (e4 _ _ l3a)))
      refine q_no (et_not (et_B (ecB2 (ev_shows (ev_var rfl) l7 (ev_var rfl) (ev_var rfl) (ev_var rfl) ⟨c1, c2⟩) ev_c trivial))) (by rw [hsh]; rfl) fun H8 e8 => ?_
      have ex8 : Ex H H8 := e1.trans (e2.trans (e3.trans (e4.trans (e5.trans (e6.trans (e7.trans e8))))))
      have l8 := e8 _ _ l7
      generalize hw : (none : Option (Int × Int)) = w at l8
      clear hw hsh
      refine q_forD (ds := os.map triD) (ed_val (ev_var rfl) (Dh.mono ex8 _ _ hv)) (fun i σ' H' => (∃ y8 y9 y10, σ' = [some (.int n), some (.int a), some (.int b), some v, some (.ref pb), some (.ref x), some (.ref ps), some .non, y8, y9, y10, none]) ∧ Ex H8 H') (fun H9 e9 => ⟨⟨_, _, _, rfl⟩, e9⟩) (fun i σ' H' w => w.2) (fun i u d' H9 σ' H10 e9 e10 hd' hu wv => ?_) (fun σ' H9 wv => ?_)
      · obtain ⟨⟨y8, y9, y10, rfl⟩, ex10⟩ := wv
        rw [List.getElem?_map] at hd'
        obtain ⟨t, ht', rfl⟩ := Option.map_eq_some_iff.mp hd'
        have ct := ho t (List.mem_of_getElem? ht')
        cases hu with
        | tup ht ha =>
          cases ha with
          | cons h1 ha =>
            cases h1
            cases ha with
            | cons h2 ha =>
              cases h2
              cases ha with
              | cons h3 ha =>
                cases h3
                cases ha
                refine ⟨_, _, rfl, st_of (e10 _ _ ht), rfl, _, _, rfl, _, _, rfl, _, _, rfl, rfl, ?_⟩
                have l10 := ex10 _ _ l8
                refine s_no (et_not (et_B (ecB2 (ev_shows (ev_var rfl) l10 (ev_var rfl) (ev_var rfl) (ev_var rfl) ct) (ec_due (ev_var rfl) (ev_var rfl) (ev_var rfl) (ev_var rfl) l10 ct) trivial))) ?_ fun H11 e11 => ⟨⟨⟨_, _, _, rfl⟩, ex10.trans e11⟩, e10.trans e11⟩
                rw [decide_eq_true rfl]
                rfl
      · obtain ⟨⟨y8, y9, y10, rfl⟩, ex9⟩ := wv
        exact s_ret ev_c fun H10 e10 => q H10 (ex8.trans (ex9.trans e10))
    · rw [eb] at l2b
      rw [ew] at l2 hsh
      have l2a : H2 x = some (.ins T.a_Unlike dx (uf c (fwI n c))) := l2
      have fb := fw_bd cc
      refine q_asgL (el_lst (ea_cons (ev_isO T.C_Unlike (ev_var rfl) l2a T.i_Unlike_Alike) (ea_cons (ev_isO T.C_Unlike (ev_var rfl) l2a T.i_Unlike_Unlike) ea_nil)) (by simp)) fun ps H3 hps e3 l3 => ?_
      have l3b := e3 _ _ l2b
      have l3a := e3 _ _ l2a
      have dn : decide (c :: r = []) = false := rfl
      refine q_no (et_or (et_not (et_B (ev_isO T.C_Unlike (ev_var rfl) l3a T.i_Unlike_Answer))) fun _ => et_test (ev_neD (ed_val (ev_var rfl) (.lst l3 (DhAll.bools _ [false, true]))) (ed_lst (eda_cons (ed_bl (ev_eqVN (xs := c :: r) (ys := []) (ev_var rfl) (sq_of l3b) (elI (ys := []) (el_lst ea_nil (by simp)) rfl))) (eda_cons (ed_bl (ev_neVN (xs := c :: r) (ys := []) (ev_var rfl) (sq_of l3b) (elI (ys := []) (el_lst ea_nil (by simp)) rfl))) eda_nil)) (by simp)) (by decide +kernel) (by rfl))) (by rfl) fun H4 e4 => ?_
      have l4b := e4 _ _ l3b
      have at0 : atI ((c :: r).map V.int) 0 = some (.int c) := atI_ints (xs := c :: r) (by decide) (by simp)
      refine q_asgU (xs := [.int c, .int (fwI n c)]) (eu_if (et_test (ev_neVN (xs := c :: r) (ys := []) (ev_var rfl) (sq_of l4b) (elI (ys := []) (el_lst ea_nil (by simp)) rfl))) rfl (eu_tup (ea_cons (ev_ixV (ev_var rfl) (sq_of l4b) ev_c at0) (ea_cons (ec2 (ev_var rfl) (ev_ixV (ev_var rfl) (sq_of l4b) ev_c at0) cc) ea_nil)) (by simp))) fun pd H5 hpd e5 l5 => ?_
      have l5a := e5 _ _ (e4 _ _ l3a)
      refine q_no (b := (!decide (V.ref pd = V.non)) && !decide (V.str (PyData.tuple [.int c, .int (fwI n c)]).shown = V.str (PyData.tuple [.int c, .int (fwI n c)]).shown)) (et_and (et_test (ev_op (ev_var rfl) ev_c rv_notN)) fun _ => et_test (ev_op (ev_str2 (ev_fld (ev_var rfl) l5a T.C_Unlike.cl T.n_Unlike_base uf_base) (ev_fld (ev_var rfl) l5a T.C_Unlike.cl T.n_Unlike_place uf_place) (abs_small (by have := cc.2.2; omega) (by have := cc.2.2; omega)) (abs_small fb.1 fb.2)) (ev_strT (ev_var rfl) l5 (abs_small (by have := cc.2.2; omega) (by have := cc.2.2; omega)) (abs_small fb.1 fb.2)) (rv_ne rfl))) ?_ fun H6 e6 => ?_
      · rw [decide_eq_true (rfl : V.str (PyData.tuple [.int c, .int (fwI n c)]).shown = _), Bool.not_true, Bool.and_false]
      have l6b := e6 _ _ (e5 _ _ l4b)
      have l6a := e6 _ _ l5a
      refine q_no (et_and (et_test (ev_neVN (xs := c :: r) (ys := []) (ev_var rfl) (sq_of l6b) (elI (ys := []) (el_lst ea_nil (by simp)) rfl))) fun _ => (et_not (et_B (ec1 (ev_fld (ev_var rfl) l6a T.C_Unlike.cl T.n_Unlike_place uf_place) trivial)))) (by rfl) fun H7 e7 => ?_
      have l7 : H7 x = some (.ins (anC T.a_Alike T.a_Unlike (some (c, fwI n c))) dx (anF (some (c, fwI n c)))) := e7 _ _ l6a
      refine q_no (et_not (et_B (ecB2 (ev_shows (ev_var rfl) l7 (ev_var rfl) (ev_var rfl) (ev_var rfl) ⟨c1, c2⟩) ev_c trivial))) (by rw [hsh]; rfl) fun H8 e8 => ?_
      have ex8 : Ex H H8 := e1.trans (e2.trans (e3.trans (e4.trans (e5.trans (e6.trans (e7.trans e8))))))
      have l8 := e8 _ _ l7
      generalize hw : (some (c, fwI n c) : Option (Int × Int)) = w at l8
      clear hw hsh
      refine q_forD (ds := os.map triD) (ed_val (ev_var rfl) (Dh.mono ex8 _ _ hv)) (fun i σ' H' => (∃ y8 y9 y10, σ' = [some (.int n), some (.int a), some (.int b), some v, some (.ref pb), some (.ref x), some (.ref ps), some (.ref pd), y8, y9, y10, none]) ∧ Ex H8 H') (fun H9 e9 => ⟨⟨_, _, _, rfl⟩, e9⟩) (fun i σ' H' w => w.2) (fun i u d' H9 σ' H10 e9 e10 hd' hu wv => ?_) (fun σ' H9 wv => ?_)
      · obtain ⟨⟨y8, y9, y10, rfl⟩, ex10⟩ := wv
        rw [List.getElem?_map] at hd'
        obtain ⟨t, ht', rfl⟩ := Option.map_eq_some_iff.mp hd'
        have ct := ho t (List.mem_of_getElem? ht')
        cases hu with
        | tup ht ha =>
          cases ha with
          | cons h1 ha =>
            cases h1
            cases ha with
            | cons h2 ha =>
              cases h2
              cases ha with
              | cons h3 ha =>
                cases h3
                cases ha
                refine ⟨_, _, rfl, st_of (e10 _ _ ht), rfl, _, _, rfl, _, _, rfl, _, _, rfl, rfl, ?_⟩
                have l10 := ex10 _ _ l8
                refine s_no (et_not (et_B (ecB2 (ev_shows (ev_var rfl) l10 (ev_var rfl) (ev_var rfl) (ev_var rfl) ct) (ec_due (ev_var rfl) (ev_var rfl) (ev_var rfl) (ev_var rfl) l10 ct) trivial))) ?_ fun H11 e11 => ⟨⟨⟨_, _, _, rfl⟩, ex10.trans e11⟩, e10.trans e11⟩
                rw [decide_eq_true rfl]
                rfl
      · obtain ⟨⟨y8, y9, y10, rfl⟩, ex9⟩ := wv
        exact s_ret ev_c fun H10 e10 => q H10 (ex8.trans (ex9.trans e10))

def sp_law (K : PySem.W.Frag) : Sp := fun vs H Q _ => ∃ (a : Addr) (ns : List Int), vs = [.ref a] ∧ SqL K H a (ns.map V.int) ∧ CellsOk ns ∧ ∀ H', Q (.bl true) H'
theorem nums5 {k a b : Int} (hk0 : 0 ≤ k) (hk : k < 10 ^ 40) (ha : CB a) (hb : CB b) {n : Int} (h : n ∈ [k, nbI k a, nbI k b, k % a, 1]) : ∃ m : Nat, n = (m : Int) ∧ m < 2 ^ 15000 := by
  obtain ⟨k', rfl⟩ := Int.eq_ofNat_of_zero_le hk0
  have hsm : ∀ j : Nat, j < 10 ^ 40 → j < 2 ^ 15000 := fun j hj => Nat.lt_of_lt_of_le hj (Nat.le_trans (show 10 ^ 40 ≤ 2 ^ 200 by decide +kernel) (pow_two_le (by decide)))
  have hnb : ∀ c : Int, CB c → ∃ m : Nat, nbI (k' : Int) c = (m : Int) ∧ m < 2 ^ 15000 := fun c hc => by
    obtain ⟨c', rfl⟩ := Int.eq_ofNat_of_zero_le (show 0 ≤ c by omega)
    refine ⟨Bm.nb c' k', nbI_nat k' c', Nat.lt_of_lt_of_le (Bm.size_of_bl (b := c') (by omega) (by omega) ?_) (pow_two_le (by decide))⟩
    rw [(Bm.nb_ok (by omega) k').1]
    exact Nat.lt_of_lt_of_le (show k' < 10 ^ 40 by omega) (Nat.le_trans (show 10 ^ 40 ≤ 2 ^ 200 by decide +kernel) (pow_two_le (by decide)))
  have hm1 : 0 ≤ (k' : Int) % a := Int.emod_nonneg _ (by omega)
  have hm2 : (k' : Int) % a < a := Int.emod_lt_of_pos _ (by omega)
  simp only [List.mem_cons, List.not_mem_nil, or_false] at h
  rcases h with h | h | h | h | h
  · exact ⟨k', h, hsm _ (by omega)⟩
  · obtain ⟨m, e, hm⟩ := hnb a ha
    exact ⟨m, h.trans e, hm⟩
  · obtain ⟨m, e, hm⟩ := hnb b hb
    exact ⟨m, h.trans e, hm⟩
  · exact ⟨((k' : Int) % a).toNat, by omega, hsm _ (by omega)⟩
  · exact ⟨1, h, hsm _ (by decide)⟩
theorem cn_nat {n : Nat} {c : Int} (h : n < 2 ^ 15000) (hc : CB c) : CNum (n : Int) c ∧ CNum ((n : Int) + 1) c := by
  obtain ⟨c', rfl⟩ := Int.eq_ofNat_of_zero_le (show 0 ≤ c by omega)
  exact ⟨gn_cn0 (by omega) (by omega) h, gn_cn1 (by omega) (by omega) h⟩
theorem cj_small {n a b : Int} (h0 : 0 ≤ n) (h1 : n < 10 ^ 100) (ha : CB a) (hb : CB b) : CJ n a b := ⟨⟨h0, big_40 h1, ha⟩, hb⟩
set_option maxHeartbeats 4000000 in
theorem ok_law (T : Tx K mg) : FnG P w K mg base CX0 5 T.a_law T.d_law ["_law_script"] (sp_law K) := by
  refine okG T.F_law sc_law (fun vs H Q E h => ?_) (fun cdv A outer s H vs Q E hG hr h => ?_)
  · obtain ⟨a, ns, rfl, _⟩ := h
    rfl
  · obtain ⟨a, ns, rfl, hs, hc, q⟩ := h
    refine ⟨_, (pss_cons (ps_for PassesOwn.never rfl (pi_range3 (by rfl) T.m_range (pa_cons pe_int (pa_cons (pe_callB (r := rMax2) (call_max2 rfl) (by rfl) T.m_max (by decide +kernel) (pa_cons pe_int (pa_cons (pe_callB (r := rMin2) (call_min2 rfl) (by rfl) T.m_min (by decide +kernel) (pa_cons pe_int (pa_cons (pe_callB (r := rLenS _) call_len_seq (by rfl) T.m_len PySem.boot_len (pa_cons (pv 0) pa_nil)) pa_nil))) pa_nil))) (pa_cons pe_int pa_nil)))) (pg_name (i := 1) sc_law.nd rfl (Or.inl rfl))
      (pss_cons (ps_par3 (i := 2) (j := 3) (l := 4) (by rfl) sc_law.nd rfl rfl rfl (by decide) (by decide) (by decide) rfl rfl rfl (pa_cons (pe_call (ok__law_great T) (hr.mono (by decide)) (by rfl) T.g__law_great T.F__law_great.kp T.b__law_great .nil pass0 (pa_cons (pv 0) (pa_cons (pv 1) pa_nil))) (pa_cons (pe_call (ok__law_base T) (hr.mono (by decide)) (by rfl) T.g__law_base T.F__law_base.kp T.b__law_base .nil pass0 (pa_cons (pv 0) (pa_cons (pv 1) pa_nil))) (pa_cons (pe_call (ok__law_base T) (hr.mono (by decide)) (by rfl) T.g__law_base T.F__law_base.kp T.b__law_base .nil pass0 (pa_cons (pv 0) (pa_cons (pe_op op_add (pv 1) pe_int) pa_nil))) pa_nil))) (by rfl))
      (pss_cons (ps_set (i := 5) sc_law.nd rfl (Or.inl rfl) (pe_lst (pa_cons (pv 2) (pa_cons (pe_call (ok_number_by T) (hr.mono (by decide)) (by rfl) T.g_number_by T.F_number_by.kp T.b_number_by .nil pass0 (pa_cons (pv 2) (pa_cons (pv 3) pa_nil))) (pa_cons (pe_call (ok_number_by T) (hr.mono (by decide)) (by rfl) T.g_number_by T.F_number_by.kp T.b_number_by .nil pass0 (pa_cons (pv 2) (pa_cons (pv 4) pa_nil))) (pa_cons (pe_op op_mod (pv 2) (pv 3)) (pa_cons pe_int pa_nil)))))))
      (pss_one (ps_for PassesOwn.never rfl (pi_list (pv 5)) (pg_name (i := 6) sc_law.nd rfl (Or.inl rfl))
      (pss_cons (ps_set (i := 7) sc_law.nd rfl (Or.inl rfl) (pe_lst (pa_cons (pe_tup (pa_cons (pv 2) (pa_cons (pv 3) (pa_cons (pv 4) pa_nil)))) (pa_cons (pe_tup (pa_cons (pv 6) (pa_cons (pv 4) (pa_cons (pv 3) pa_nil)))) (pa_cons (pe_tup (pa_cons (pe_op op_add (pv 6) pe_int) (pa_cons (pv 3) (pa_cons (pv 3) pa_nil)))) pa_nil)))))
      (pss_one (ps_if (pt_not (pt_val (pe_callG hG (ok__law_right T) (hr.mono (by decide)) (by rfl) T.g__law_right T.F__law_right.kp T.b__law_right pass0 (pa_cons (pv 6) (pa_cons (pv 3) (pa_cons (pv 4) (pa_cons (pv 7) pa_nil))))))) (pss_one (ps_ret pe_bl)) pss_nil))))))))
      (pss_cons (ps_set (i := 8) sc_law.nd rfl (Or.inl rfl) (pe_call (ok_judged T) (hr.mono (by decide)) (by rfl) T.g_judged T.F_judged.kp T.b_judged .nil pass0 (pa_cons pe_int (pa_cons pe_int (pa_cons pe_int pa_nil)))))
      (pss_cons (ps_if (PW.pt (pw_or (pt_not (pt_val (pe_callB call_isi (by rfl) T.m_isinstance (by decide +kernel) (pa_cons (pe_call (ok_judged T) (hr.mono (by decide)) (by rfl) T.g_judged T.F_judged.kp T.b_judged .nil pass0 (pa_cons pe_int (pa_cons pe_int (pa_cons pe_int pa_nil)))) (pa_cons (pe_glob (v := .ref T.a_Alike) (by rfl) T.g_Alike rfl) pa_nil))))) (pw_or1 (pt_not (pt_val (pe_callB call_isi (by rfl) T.m_isinstance (by decide +kernel) (pa_cons (pv 8) (pa_cons (pe_glob (v := .ref T.a_Unlike) (by rfl) T.g_Unlike rfl) pa_nil)))))))) (pss_one (ps_ret pe_bl)) pss_nil)
      (pss_cons (ps_if (pt_cmpR (op_neD hr.units) (pe_tup (pa_cons (pe_fld (pv 8) rfl) (pa_cons (pe_fld (pv 8) rfl) pa_nil))) (pe_tup (pa_cons pe_int (pa_cons pe_int pa_nil))) (nomark _)) (pss_one (ps_ret pe_bl)) pss_nil)
      (pss_cons (ps_set (i := 4) sc_law.nd rfl (Or.inl rfl) (pe_call (ok_judged T) (hr.mono (by decide)) (by rfl) T.g_judged T.F_judged.kp T.b_judged .nil pass0 (pa_cons pe_int (pa_cons pe_int (pa_cons pe_int pa_nil)))))
      (pss_cons (ps_if (pt_cmpR (op_neD hr.units) (pe_lst (pa_cons (pe_tup (pa_cons (pe_fld (pv 8) rfl) (pa_cons (pe_fld (pv 8) rfl) pa_nil))) (pa_cons (pe_meth2 (pv 8) T.C_Alike.cl T.C_Unlike.cl T.M_Alike_shows T.M_Unlike_shows (ok_Alike_shows T) (ok_Unlike_shows T) (hr.mono (by decide)) (hr.mono (by decide)) T.b_Alike_shows T.b_Unlike_shows pass0 (pa_cons pe_int (pa_cons pe_int (pa_cons pe_int pa_nil)))) (pa_cons (pe_meth2 (pv 8) T.C_Alike.cl T.C_Unlike.cl T.M_Alike_shows T.M_Unlike_shows (ok_Alike_shows T) (ok_Unlike_shows T) (hr.mono (by decide)) (hr.mono (by decide)) T.b_Alike_shows T.b_Unlike_shows pass0 (pa_cons pe_int (pa_cons pe_int (pa_cons pe_int pa_nil)))) pa_nil)))) (pe_lst (pa_cons (pe_tup (pa_cons pe_int (pa_cons pe_int pa_nil))) (pa_cons pe_bl (pa_cons pe_bl pa_nil)))) (nomark _)) (pss_one (ps_ret pe_bl)) pss_nil)
      (pss_cons (ps_if (PW.pt (pw_or (pt_cmpR op_notBl (pe_meth2 (pv 4) T.C_Alike.cl T.C_Unlike.cl T.M_Alike_shows T.M_Unlike_shows (ok_Alike_shows T) (ok_Unlike_shows T) (hr.mono (by decide)) (hr.mono (by decide)) T.b_Alike_shows T.b_Unlike_shows pass0 (pa_cons pe_int (pa_cons pe_int (pa_cons pe_int pa_nil)))) pe_bl (nomark _)) (pw_or1 (pt_cmpR op_notBl (pe_meth2 (pv 4) T.C_Alike.cl T.C_Unlike.cl T.M_Alike_shows T.M_Unlike_shows (ok_Alike_shows T) (ok_Unlike_shows T) (hr.mono (by decide)) (hr.mono (by decide)) T.b_Alike_shows T.b_Unlike_shows pass0 (pa_cons pe_int (pa_cons pe_int (pa_cons pe_int pa_nil)))) pe_bl (nomark _))))) (pss_one (ps_ret pe_bl)) pss_nil)
      (pss_cons (ps_set (i := 9) sc_law.nd rfl (Or.inl rfl) pe_int)
      (pss_cons (ps_for PassesOwn.never rfl (pi_range1 (by rfl) T.m_range (pa_cons pe_int pa_nil)) (pg_name (i := 10) sc_law.nd rfl (Or.inl rfl))
      (pss_one (ps_set (i := 9) sc_law.nd rfl (Or.inl rfl) (pe_op op_mulX (pv 9) (pe_op op_pow pe_int pe_int)))))
      (pss_cons (ps_set (i := 8) sc_law.nd rfl (Or.inl rfl) (pe_call (ok_judged T) (hr.mono (by decide)) (by rfl) T.g_judged T.F_judged.kp T.b_judged .nil pass0 (pa_cons (pv 9) (pa_cons pe_int (pa_cons pe_int pa_nil)))))
      (pss_cons (ps_if (PW.pt (pw_or (pt_not (pt_val (pe_callB call_isi (by rfl) T.m_isinstance (by decide +kernel) (pa_cons (pv 8) (pa_cons (pe_glob (v := .ref T.a_Unlike) (by rfl) T.g_Unlike rfl) pa_nil))))) (pw_or1 (pt_cmpR (op_neD hr.units) (pe_tup (pa_cons (pe_fld (pv 8) rfl) (pa_cons (pe_fld (pv 8) rfl) pa_nil))) (pe_tup (pa_cons pe_int (pa_cons pe_int pa_nil))) (nomark _))))) (pss_one (ps_ret pe_bl)) pss_nil)
      (pss_cons (ps_if (pt_not (pt_val (pe_callB call_isi (by rfl) T.m_isinstance (by decide +kernel) (pa_cons (pe_call (ok_judged T) (hr.mono (by decide)) (by rfl) T.g_judged T.F_judged.kp T.b_judged .nil pass0 (pa_cons (pe_op op_add (pv 9) pe_int) (pa_cons pe_int (pa_cons pe_int pa_nil)))) (pa_cons (pe_glob (v := .ref T.a_Alike) (by rfl) T.g_Alike rfl) pa_nil))))) (pss_one (ps_ret pe_bl)) pss_nil)
      (pss_cons (ps_set (i := 8) sc_law.nd rfl (Or.inl rfl) (pe_call (ok_judged T) (hr.mono (by decide)) (by rfl) T.g_judged T.F_judged.kp T.b_judged .nil pass0 (pa_cons pe_int (pa_cons pe_int (pa_cons pe_int pa_nil)))))
      (pss_one (ps_ret (pe_and (pe_callB call_isi (by rfl) T.m_isinstance (by decide +kernel) (pa_cons (pv 8) (pa_cons (pe_glob (v := .ref T.a_Unlike) (by rfl) T.g_Unlike rfl) pa_nil))) (pe_and (pe_cmpR (op_eqD hr.units) (pe_tup (pa_cons (pe_fld (pv 8) rfl) (pa_cons (pe_fld (pv 8) rfl) pa_nil))) (pe_tup (pa_cons pe_int (pa_cons pe_int pa_nil))) (nomark _)) (pe_one (pe_callB call_isi (by rfl) T.m_isinstance (by decide +kernel) (pa_cons (pe_call (ok_judged T) (hr.mono (by decide)) (by rfl) T.g_judged T.F_judged.kp T.b_judged .nil pass0 (pa_cons pe_int (pa_cons pe_int (pa_cons pe_int pa_nil)))) (pa_cons (pe_glob (v := .ref T.a_Alike) (by rfl) T.g_Alike rfl) pa_nil))))))))))))))))))))), ?_⟩
    have hM : ∃ n, n ≤ 6 ∧ RgC 0 (if (if ((ns.map V.int).length : Int) < 12 then ((ns.map V.int).length : Int) else 12) > 1 then (if ((ns.map V.int).length : Int) < 12 then ((ns.map V.int).length : Int) else 12) else 1) 2 n := rg_two (by omega) (by omega)
    obtain ⟨m, hm, hrg⟩ := hM
    refine q_forR3 (ea_cons ev_c (ea_cons (ev_max2 ev_c (ev_min2 ev_c (ev_len (ev_var rfl) hs))) (ea_cons ev_c ea_nil))) hrg (fun i σ' H' => (∃ y1 y2 y3 y4 y5 y6 y7, σ' = [some (.ref a), y1, y2, y3, y4, y5, y6, y7, none, none, none]) ∧ Ex H H') (fun H1 e1 => ⟨⟨_, _, _, _, _, _, _, rfl⟩, e1⟩) (fun i σ' H' hi w => ?_) (fun σ' H' w => ?_)
    · obtain ⟨⟨y1, y2, y3, y4, y5, y6, y7, rfl⟩, e0⟩ := w
      have hby : 0 ≤ 0 + (i : Int) * 2 ∧ 0 + (i : Int) * 2 ≤ 90 := by omega
      generalize 0 + (i : Int) * 2 = by_ at hby
      have g1 := greatI_bd ns by_
      have ca : CB (baseI ns by_) := baseI_bd ns by_
      have cb : CB (baseI ns (by_ + 1)) := baseI_bd ns (by_ + 1)
      have cby : CBy ns by_ := ⟨hc, hby.1, by omega⟩
      have cby1 : CBy ns (by_ + 1) := ⟨hc, by omega, by omega⟩
      have hs0 : SqL K H' a (ns.map V.int) := ex_l e0 hs
      refine q_par3 (ea_cons (ecR (ev_var rfl) hs0 (ev_var rfl) cby) (ea_cons (ecR (ev_var rfl) hs0 (ev_var rfl) (by first | exact cby | exact cby1)) (ea_cons (ecR (ev_var rfl) hs0 (ev_op (ev_var rfl) ev_c rv_I0) (by first | exact cby | exact cby1)) ea_nil))) fun H1 e1 => ?_
      generalize greatI ns by_ = k at *
      generalize baseI ns by_ = a' at *
      generalize baseI ns (by_ + 1) = b' at *
      have cat1 : CAt k a' := ⟨g1.1, mid_of (by omega), ca⟩
      have cat2 : CAt k b' := ⟨g1.1, mid_of (by omega), cb⟩
      refine q_asgL (xs := ([k, nbI k a', nbI k b', k % a', 1] : List Int).map V.int) (el_lst (ea_cons (ev_var rfl) (ea_cons (ec2 (ev_var rfl) (ev_var rfl) cat1) (ea_cons (ec2 (ev_var rfl) (ev_var rfl) cat2) (ea_cons (ev_op (ev_var rfl) (ev_var rfl) (rv_I (show (0 : Int) < a' by omega))) (ea_cons ev_c ea_nil))))) (by simp)) fun pn H2 hpn e2 l2 => ?_
      have ex2 : Ex H H2 := e0.trans (e1.trans e2)
      refine s_forLn (a := pn) (xs := ([k, nbI k a', nbI k b', k % a', 1] : List Int).map V.int) (ev_var rfl) (sq_of l2) (fun i σ' H' => (∃ y6 y7, σ' = [some (.ref a), some (.int by_), some (.int k), some (.int a'), some (.int b'), some (.ref pn), y6, y7, none, none, none]) ∧ Ex H2 H') (fun H3 e3 => ⟨⟨_, _, rfl⟩, e3⟩) (fun i σ' H3 _ w => sq_of (w.2 _ _ l2)) (fun i x σ' H3 hx w => ?_) (fun σ' H3 w => ?_)
      · obtain ⟨⟨y6, y7, rfl⟩, ex3⟩ := w
        obtain ⟨rfl, hmem⟩ := int_item hx
        clear hx
        generalize (([k, nbI k a', nbI k b', k % a', 1] : List Int).getD i 0) = n at *
        obtain ⟨n', rfl, hn'⟩ := nums5 g1.1 g1.2 ca cb hmem
        have cn1 := cn_nat hn' ca
        have cn2 := cn_nat hn' cb
        have ck : CNum k a' := ⟨g1.1, big_40 (by omega), ca⟩
        refine q_asgD (d := .list ([(k, a', b'), ((n' : Int), b', a'), ((n' : Int) + 1, a', a')].map triD)) (ed_lst (eda_cons (ed_tup (eda_cons (ed_int (ev_var rfl)) (eda_cons (ed_int (ev_var rfl)) (eda_cons (ed_int (ev_var rfl)) eda_nil))) (by simp)) (eda_cons (ed_tup (eda_cons (ed_int (ev_var rfl)) (eda_cons (ed_int (ev_var rfl)) (eda_cons (ed_int (ev_var rfl)) eda_nil))) (by simp)) (eda_cons (ed_tup (eda_cons (ed_int (ev_op (ev_var rfl) ev_c rv_I0)) (eda_cons (ed_int (ev_var rfl)) (eda_cons (ed_int (ev_var rfl)) eda_nil))) (by simp)) eda_nil))) (by simp)) fun v H4 e4 hv => ?_
        refine s_no (et_not (et_B (ec_right (ev_var rfl) (ev_var rfl) (ev_var rfl) (ev_var rfl) hv ⟨cn1.1, cb⟩ ?_))) rfl fun H5 e5 => ⟨⟨_, _, rfl⟩, ex3.trans (e4.trans e5)⟩
        intro t ht
        simp only [List.mem_cons, List.not_mem_nil, or_false] at ht
        rcases ht with rfl | rfl | rfl
        · exact ⟨ck, cb⟩
        · exact ⟨cn2.1, ca⟩
        · exact ⟨cn1.2, ca⟩
      · obtain ⟨⟨y6, y7, rfl⟩, ex3⟩ := w
        exact ⟨⟨_, _, _, _, _, _, _, rfl⟩, ex2.trans ex3⟩
    · obtain ⟨⟨y1, y2, y3, y4, y5, y6, y7, rfl⟩, e0⟩ := w
      have j12 : jd 12 10 2 = some (10, 0) := by decide +kernel
      have j585 : jd 585 10 2 = none := by decide +kernel
      have j11 : jd 11 10 2 = some (2, 1) := by decide +kernel
      have j0 : jd 0 9 9 = none := by decide +kernel
      have two : ∀ i j : Int, SeqAt.shaped (.tuple [.int i, .int j]) = true := fun _ _ => rfl
      refine q_asgI (ei_judged ev_c ev_c ev_c (cj_small (by decide) (by decide) (by decide) (by decide))) fun x dx H1 hx e1 l1 => ?_
      rw [j12] at l1
      have l1a : H1 x = some (.ins T.a_Unlike dx (uf 10 0)) := l1
      refine q_no (et_or (et_not (et_B (ev_isON T.C_Alike (ei_eq (ei_judged ev_c ev_c ev_c (cj_small (by decide) (by decide) (by decide) (by decide))) (congrArg (anC _ _) j585) (congrArg anF j585)) T.i_Alike_Alike))) fun _ => et_not (et_B (ev_isO T.C_Unlike (ev_var rfl) l1a T.i_Unlike_Unlike))) rfl fun H2 e2 => ?_
      have l2a := e2 _ _ l1a
      refine q_no (et_test (ev_neD (ed_tup (eda_cons (ed_int (ev_fld (ev_var rfl) l2a T.C_Unlike.cl T.n_Unlike_base uf_base)) (eda_cons (ed_int (ev_fld (ev_var rfl) l2a T.C_Unlike.cl T.n_Unlike_place uf_place)) eda_nil)) (by simp)) (ed_tup (eda_cons (ed_int ev_c) (eda_cons (ed_int ev_c) eda_nil)) (by simp)) (two _ _) (two _ _))) (by decide +kernel) fun H3 e3 => ?_
      have l3a := e3 _ _ l2a
      have l3 : H3 x = some (.ins (anC T.a_Alike T.a_Unlike (some (10, 0))) dx (anF (some (10, 0)))) := l3a
      refine q_asgI (ei_judged ev_c ev_c ev_c (cj_small (by decide) (by decide) (by decide) (by decide))) fun x2 dx2 H4 hx2 e4 l4 => ?_
      rw [j11] at l4
      have l4a := e4 _ _ l3
      have l4b : H4 x = some (.ins T.a_Unlike dx (uf 10 0)) := l4a
      refine q_no (et_test (ev_neD (ed_lst (eda_cons (ed_tup (eda_cons (ed_int (ev_fld (ev_var rfl) l4b T.C_Unlike.cl T.n_Unlike_base uf_base)) (eda_cons (ed_int (ev_fld (ev_var rfl) l4b T.C_Unlike.cl T.n_Unlike_place uf_place)) eda_nil)) (by simp)) (eda_cons (ed_bl (ev_shows (ev_var rfl) l4a ev_c ev_c ev_c (cj_small (by decide) (by decide) (by decide) (by decide)))) (eda_cons (ed_bl (ev_shows (ev_var rfl) l4a ev_c ev_c ev_c (cj_small (by decide) (by decide) (by decide) (by decide)))) eda_nil))) (by simp)) (ed_lst (eda_cons (ed_tup (eda_cons (ed_int ev_c) (eda_cons (ed_int ev_c) eda_nil)) (by simp)) (eda_cons (ed_bl ev_c) (eda_cons (ed_bl ev_c) eda_nil))) (by simp)) (by decide +kernel) (by decide +kernel))) (by decide +kernel) fun H5 e5 => ?_
      have l5 := e5 _ _ l4
      refine q_no (et_or (et_test (ev_nisB2 (ev_shows (ev_var rfl) l5 ev_c ev_c ev_c (cj_small (by decide) (by decide) (by decide) (by decide))) ev_c)) fun _ => (et_test (ev_nisB2 (ev_shows (ev_var rfl) l5 ev_c ev_c ev_c (cj_small (by decide) (by decide) (by decide) (by decide))) ev_c))) (by decide +kernel) fun H6 e6 => ?_
      refine q_asg ev_c fun H7 e7 => ?_
      refine q_forR1 (n := 5) (ea_cons ev_c ea_nil) (by decide) (fun i σ' H' => ∃ y10, σ' = [some (.ref a), y1, y2, y3, some (.ref x2), y5, y6, y7, some (.ref x), some (.int (10 ^ (60 * i))), y10]) (fun H8 e8 => ⟨_, rfl⟩) (fun i σ' H8 hi w => ?_) (fun σ' H8 w => ?_)
      · obtain ⟨y10, rfl⟩ := w
        refine s_asg (ev_op (ev_var rfl) (ev_op ev_c ev_c (rv_I (by walk_at "Pow"))) (rv_I (cell_mul (pow_nabs _ (by omega)) (pow_nabs _ (by decide))))) fun H9 e9 => ⟨some (.int (i : Int)), ?_⟩
        have f1 : (10 : Int) ^ (60 * (i + 1)) = 10 ^ (60 * i) * 10 ^ Int.toNat 60 := by
          rw [show 60 * (i + 1) = 60 * i + 60 by omega, Int.pow_add]
          rfl
        rw [f1]
        rfl
      · obtain ⟨y10, rfl⟩ := w
        have g1 : (10 : Int) ^ (60 * Int.toNat 5) = ((10 ^ 300 : Nat) : Int) := by decide +kernel
        rw [g1]
        have t1 : CNum ((10 ^ 300 : Nat) : Int) 10 := tens (m := 300) (d := 0) (by decide) (by decide)
        have t2 : CNum (((10 ^ 300 : Nat) : Int) + 1) 10 := tens (m := 300) (d := 1) (by decide) (by decide)
        have jg : jd ((10 ^ 300 : Nat) : Int) 10 10 = some (10, 0) := by decide +kernel
        have jg1 : jd (((10 ^ 300 : Nat) : Int) + 1) 10 1000 = none := by decide +kernel
        refine q_asgI (ei_judged (ev_var rfl) ev_c ev_c ⟨t1, by decide⟩) fun x3 dx3 H9 hx3 e9 l9 => ?_
        rw [jg] at l9
        have l9a : H9 x3 = some (.ins T.a_Unlike dx3 (uf 10 0)) := l9
        refine q_no (et_or (et_not (et_B (ev_isO T.C_Unlike (ev_var rfl) l9a T.i_Unlike_Unlike))) fun _ => et_test (ev_neD (ed_tup (eda_cons (ed_int (ev_fld (ev_var rfl) l9a T.C_Unlike.cl T.n_Unlike_base uf_base)) (eda_cons (ed_int (ev_fld (ev_var rfl) l9a T.C_Unlike.cl T.n_Unlike_place uf_place)) eda_nil)) (by simp)) (ed_tup (eda_cons (ed_int ev_c) (eda_cons (ed_int ev_c) eda_nil)) (by simp)) (two _ _) (two _ _))) (by decide +kernel) fun H10 e10 => ?_
        refine q_no (et_not (et_B (ev_isON T.C_Alike (ei_eq (ei_judged (ev_op (ev_var rfl) ev_c rv_I0) ev_c ev_c ⟨t2, by decide⟩) (congrArg (anC _ _) jg1) (congrArg anF jg1)) T.i_Alike_Alike))) rfl fun H11 e11 => ?_
        refine q_asgI (ei_judged ev_c ev_c ev_c (cj_small (by decide) (by decide) (by decide) (by decide))) fun x4 dx4 H12 hx4 e12 l12 => ?_
        rw [j11] at l12
        have l12a : H12 x4 = some (.ins T.a_Unlike dx4 (uf 2 1)) := l12
        exact s_ret (v := .bl true) (ev_is (ev_andV (ev_isO T.C_Unlike (ev_var rfl) l12a T.i_Unlike_Unlike) fun _ => ev_andV (ev_eqD (ed_tup (eda_cons (ed_int (ev_fld (ev_var rfl) l12a T.C_Unlike.cl T.n_Unlike_base uf_base)) (eda_cons (ed_int (ev_fld (ev_var rfl) l12a T.C_Unlike.cl T.n_Unlike_place uf_place)) eda_nil)) (by simp)) (ed_tup (eda_cons (ed_int ev_c) (eda_cons (ed_int ev_c) eda_nil)) (by simp)) (two _ _) (two _ _)) fun _ => ev_isON T.C_Alike (ei_eq (ei_judged ev_c ev_c ev_c (cj_small (by decide) (by decide) (by decide) (by decide))) (congrArg (anC _ _) j0) (congrArg anF j0)) T.i_Alike_Alike) (by decide +kernel)) fun H13 e13 => q H13

end
theorem all_mk {l : PySem.W.OpenLaw} {w : World} {K : PySem.W.Frag} {h : Heap} {mg : Str → Option Value} {fa f0 f1 f2 f3 f4 f5 f6 f7 f8 f9 f10 f11 f12 f13 f14 f15 f16 f17 f18 f19 f20 f21 f22 f23 c_Answer c_Alike f_Alike_shows c_Unlike f_Unlike___init__ f_Unlike_shows : Addr} (X : K.In h) (G : h.Ns mainGlobals mg) (hfa : mg "law" = some (.ref fa))
    {od0 an0 od1 an1 od2 an2 od3 an3 od4 an4 od5 an5 od6 an6 od7 an7 od8 an8 od9 an9 od10 an10 od11 an11 od12 an12 od13 an13 od14 an14 od15 an15 od16 an16 od17 an17 od18 an18 od19 an19 od20 an20 od21 an21 od22 an22 od23 an23 od_Alike_shows an_Alike_shows od_Unlike___init__ an_Unlike___init__ od_Unlike_shows an_Unlike_shows : Option Addr} {sl0 sl1 sl2 sl3 sl4 sl5 sl6 sl7 sl8 sl9 sl10 sl11 sl12 sl13 sl14 sl15 sl16 sl17 sl18 sl19 sl20 sl21 sl22 sl23 sl_Alike_shows sl_Unlike___init__ sl_Unlike_shows : Array (Option Value)} {oc0 kV0 dc0 pm0 cd0 ct0 oc1 kV1 dc1 pm1 cd1 ct1 oc2 kV2 dc2 pm2 cd2 ct2 oc3 kV3 dc3 pm3 cd3 ct3 oc4 kV4 dc4 pm4 cd4 ct4 oc5 kV5 dc5 pm5 cd5 ct5 oc6 kV6 dc6 pm6 cd6 ct6 oc7 kV7 dc7 pm7 cd7 ct7 oc8 kV8 dc8 pm8 cd8 ct8 oc9 kV9 dc9 pm9 cd9 ct9 oc10 kV10 dc10 pm10 cd10 ct10 oc11 kV11 dc11 pm11 cd11 ct11 oc12 kV12 dc12 pm12 cd12 ct12 oc13 kV13 dc13 pm13 cd13 ct13 oc14 kV14 dc14 pm14 cd14 ct14 oc15 kV15 dc15 pm15 cd15 ct15 oc16 kV16 dc16 pm16 cd16 ct16 oc17 kV17 dc17 pm17 cd17 ct17 oc18 kV18 dc18 pm18 cd18 ct18 oc19 kV19 dc19 pm19 cd19 ct19 oc20 kV20 dc20 pm20 cd20 ct20 oc21 kV21 dc21 pm21 cd21 ct21 oc22 kV22 dc22 pm22 cd22 ct22 oc23 kV23 dc23 pm23 cd23 ct23 oc_Alike_shows kV_Alike_shows dc_Alike_shows pm_Alike_shows cd_Alike_shows ct_Alike_shows oc_Unlike___init__ kV_Unlike___init__ dc_Unlike___init__ pm_Unlike___init__ cd_Unlike___init__ ct_Unlike___init__ oc_Unlike_shows kV_Unlike_shows dc_Unlike_shows pm_Unlike_shows cd_Unlike_shows ct_Unlike_shows : Value} {t_GREATEST_BASE : Tok} 
    (a0 : PySem.W.nsIn K mainGlobals "is_whole" = some (some (.ref f0))) (l0 : K.lookup f0 = some ⟨oc0, od0, .func (PySem.W.fnOf "is_whole" "is_whole" (defArgs s_is_whole) (defBody s_is_whole) (defScope s_is_whole) .none kV0 dc0 pm0 an0 cd0 ct0), sl0⟩) (c0 : PySem.W.codeIn K cd0 "is_whole" = true) (k0 : PySem.W.keepIn K (.ref f0) = true)
    (a1 : PySem.W.nsIn K mainGlobals "check_number" = some (some (.ref f1))) (l1 : K.lookup f1 = some ⟨oc1, od1, .func (PySem.W.fnOf "check_number" "check_number" (defArgs s_check_number) (defBody s_check_number) (defScope s_check_number) .none kV1 dc1 pm1 an1 cd1 ct1), sl1⟩) (c1 : PySem.W.codeIn K cd1 "check_number" = true) (k1 : PySem.W.keepIn K (.ref f1) = true)
    (a2 : PySem.W.nsIn K mainGlobals "check_base" = some (some (.ref f2))) (l2 : K.lookup f2 = some ⟨oc2, od2, .func (PySem.W.fnOf "check_base" "check_base" (defArgs s_check_base) (defBody s_check_base) (defScope s_check_base) .none kV2 dc2 pm2 an2 cd2 ct2), sl2⟩) (c2 : PySem.W.codeIn K cd2 "check_base" = true) (k2 : PySem.W.keepIn K (.ref f2) = true)
    (a3 : PySem.W.nsIn K mainGlobals "figures_of" = some (some (.ref f3))) (l3 : K.lookup f3 = some ⟨oc3, od3, .func (PySem.W.fnOf "figures_of" "figures_of" (defArgs s_figures_of) (defBody s_figures_of) (defScope s_figures_of) .none kV3 dc3 pm3 an3 cd3 ct3), sl3⟩) (c3 : PySem.W.codeIn K cd3 "figures_of" = true) (k3 : PySem.W.keepIn K (.ref f3) = true)
    (a4 : PySem.W.nsIn K mainGlobals "number_from" = some (some (.ref f4))) (l4 : K.lookup f4 = some ⟨oc4, od4, .func (PySem.W.fnOf "number_from" "number_from" (defArgs s_number_from) (defBody s_number_from) (defScope s_number_from) .none kV4 dc4 pm4 an4 cd4 ct4), sl4⟩) (c4 : PySem.W.codeIn K cd4 "number_from" = true) (k4 : PySem.W.keepIn K (.ref f4) = true)
    (a5 : PySem.W.nsIn K mainGlobals "first_wrong" = some (some (.ref f5))) (l5 : K.lookup f5 = some ⟨oc5, od5, .func (PySem.W.fnOf "first_wrong" "first_wrong" (defArgs s_first_wrong) (defBody s_first_wrong) (defScope s_first_wrong) .none kV5 dc5 pm5 an5 cd5 ct5), sl5⟩) (c5 : PySem.W.codeIn K cd5 "first_wrong" = true) (k5 : PySem.W.keepIn K (.ref f5) = true)
    (a6 : PySem.W.nsIn K mainGlobals "power" = some (some (.ref f6))) (l6 : K.lookup f6 = some ⟨oc6, od6, .func (PySem.W.fnOf "power" "power" (defArgs s_power) (defBody s_power) (defScope s_power) .none kV6 dc6 pm6 an6 cd6 ct6), sl6⟩) (c6 : PySem.W.codeIn K cd6 "power" = true) (k6 : PySem.W.keepIn K (.ref f6) = true)
    (a7 : PySem.W.nsIn K mainGlobals "many_of" = some (some (.ref f7))) (l7 : K.lookup f7 = some ⟨oc7, od7, .func (PySem.W.fnOf "many_of" "many_of" (defArgs s_many_of) (defBody s_many_of) (defScope s_many_of) .none kV7 dc7 pm7 an7 cd7 ct7), sl7⟩) (c7 : PySem.W.codeIn K cd7 "many_of" = true) (k7 : PySem.W.keepIn K (.ref f7) = true)
    (a8 : PySem.W.nsIn K mainGlobals "made_of" = some (some (.ref f8))) (l8 : K.lookup f8 = some ⟨oc8, od8, .func (PySem.W.fnOf "made_of" "made_of" (defArgs s_made_of) (defBody s_made_of) (defScope s_made_of) .none kV8 dc8 pm8 an8 cd8 ct8), sl8⟩) (c8 : PySem.W.codeIn K cd8 "made_of" = true) (k8 : PySem.W.keepIn K (.ref f8) = true)
    (a9 : PySem.W.nsIn K mainGlobals "number_by" = some (some (.ref f9))) (l9 : K.lookup f9 = some ⟨oc9, od9, .func (PySem.W.fnOf "number_by" "number_by" (defArgs s_number_by) (defBody s_number_by) (defScope s_number_by) .none kV9 dc9 pm9 an9 cd9 ct9), sl9⟩) (c9 : PySem.W.codeIn K cd9 "number_by" = true) (k9 : PySem.W.keepIn K (.ref f9) = true)
    (a10 : PySem.W.nsIn K mainGlobals "judged" = some (some (.ref f10))) (l10 : K.lookup f10 = some ⟨oc10, od10, .func (PySem.W.fnOf "judged" "judged" (defArgs s_judged) (defBody s_judged) (defScope s_judged) .none kV10 dc10 pm10 an10 cd10 ct10), sl10⟩) (c10 : PySem.W.codeIn K cd10 "judged" = true) (k10 : PySem.W.keepIn K (.ref f10) = true)
    (a11 : PySem.W.nsIn K mainGlobals "_law_cell_at" = some (some (.ref f11))) (l11 : K.lookup f11 = some ⟨oc11, od11, .func (PySem.W.fnOf "_law_cell_at" "_law_cell_at" (defArgs s__law_cell_at) (defBody s__law_cell_at) (defScope s__law_cell_at) .none kV11 dc11 pm11 an11 cd11 ct11), sl11⟩) (c11 : PySem.W.codeIn K cd11 "_law_cell_at" = true) (k11 : PySem.W.keepIn K (.ref f11) = true)
    (a12 : PySem.W.nsIn K mainGlobals "_law_draw" = some (some (.ref f12))) (l12 : K.lookup f12 = some ⟨oc12, od12, .func (PySem.W.fnOf "_law_draw" "_law_draw" (defArgs s__law_draw) (defBody s__law_draw) (defScope s__law_draw) .none kV12 dc12 pm12 an12 cd12 ct12), sl12⟩) (c12 : PySem.W.codeIn K cd12 "_law_draw" = true) (k12 : PySem.W.keepIn K (.ref f12) = true)
    (a13 : PySem.W.nsIn K mainGlobals "_law_number" = some (some (.ref f13))) (l13 : K.lookup f13 = some ⟨oc13, od13, .func (PySem.W.fnOf "_law_number" "_law_number" (defArgs s__law_number) (defBody s__law_number) (defScope s__law_number) .none kV13 dc13 pm13 an13 cd13 ct13), sl13⟩) (c13 : PySem.W.codeIn K cd13 "_law_number" = true) (k13 : PySem.W.keepIn K (.ref f13) = true)
    (a14 : PySem.W.nsIn K mainGlobals "_law_great" = some (some (.ref f14))) (l14 : K.lookup f14 = some ⟨oc14, od14, .func (PySem.W.fnOf "_law_great" "_law_great" (defArgs s__law_great) (defBody s__law_great) (defScope s__law_great) .none kV14 dc14 pm14 an14 cd14 ct14), sl14⟩) (c14 : PySem.W.codeIn K cd14 "_law_great" = true) (k14 : PySem.W.keepIn K (.ref f14) = true)
    (a15 : PySem.W.nsIn K mainGlobals "_law_base" = some (some (.ref f15))) (l15 : K.lookup f15 = some ⟨oc15, od15, .func (PySem.W.fnOf "_law_base" "_law_base" (defArgs s__law_base) (defBody s__law_base) (defScope s__law_base) .none kV15 dc15 pm15 an15 cd15 ct15), sl15⟩) (c15 : PySem.W.codeIn K cd15 "_law_base" = true) (k15 : PySem.W.keepIn K (.ref f15) = true)
    (a16 : PySem.W.nsIn K mainGlobals "_law_figures" = some (some (.ref f16))) (l16 : K.lookup f16 = some ⟨oc16, od16, .func (PySem.W.fnOf "_law_figures" "_law_figures" (defArgs s__law_figures) (defBody s__law_figures) (defScope s__law_figures) .none kV16 dc16 pm16 an16 cd16 ct16), sl16⟩) (c16 : PySem.W.codeIn K cd16 "_law_figures" = true) (k16 : PySem.W.keepIn K (.ref f16) = true)
    (a17 : PySem.W.nsIn K mainGlobals "_law_reads" = some (some (.ref f17))) (l17 : K.lookup f17 = some ⟨oc17, od17, .func (PySem.W.fnOf "_law_reads" "_law_reads" (defArgs s__law_reads) (defBody s__law_reads) (defScope s__law_reads) .none kV17 dc17 pm17 an17 cd17 ct17), sl17⟩) (c17 : PySem.W.codeIn K cd17 "_law_reads" = true) (k17 : PySem.W.keepIn K (.ref f17) = true)
    (a18 : PySem.W.nsIn K mainGlobals "_law_wrong" = some (some (.ref f18))) (l18 : K.lookup f18 = some ⟨oc18, od18, .func (PySem.W.fnOf "_law_wrong" "_law_wrong" (defArgs s__law_wrong) (defBody s__law_wrong) (defScope s__law_wrong) .none kV18 dc18 pm18 an18 cd18 ct18), sl18⟩) (c18 : PySem.W.codeIn K cd18 "_law_wrong" = true) (k18 : PySem.W.keepIn K (.ref f18) = true)
    (a19 : PySem.W.nsIn K mainGlobals "_law_whole" = some (some (.ref f19))) (l19 : K.lookup f19 = some ⟨oc19, od19, .func (PySem.W.fnOf "_law_whole" "_law_whole" (defArgs s__law_whole) (defBody s__law_whole) (defScope s__law_whole) .none kV19 dc19 pm19 an19 cd19 ct19), sl19⟩) (c19 : PySem.W.codeIn K cd19 "_law_whole" = true) (k19 : PySem.W.keepIn K (.ref f19) = true)
    (a20 : PySem.W.nsIn K mainGlobals "_law_says" = some (some (.ref f20))) (l20 : K.lookup f20 = some ⟨oc20, od20, .func (PySem.W.fnOf "_law_says" "_law_says" (defArgs s__law_says) (defBody s__law_says) (defScope s__law_says) .none kV20 dc20 pm20 an20 cd20 ct20), sl20⟩) (c20 : PySem.W.codeIn K cd20 "_law_says" = true) (k20 : PySem.W.keepIn K (.ref f20) = true)
    (a21 : PySem.W.nsIn K mainGlobals "_law_due" = some (some (.ref f21))) (l21 : K.lookup f21 = some ⟨oc21, od21, .func (PySem.W.fnOf "_law_due" "_law_due" (defArgs s__law_due) (defBody s__law_due) (defScope s__law_due) .none kV21 dc21 pm21 an21 cd21 ct21), sl21⟩) (c21 : PySem.W.codeIn K cd21 "_law_due" = true) (k21 : PySem.W.keepIn K (.ref f21) = true)
    (a22 : PySem.W.nsIn K mainGlobals "_law_right" = some (some (.ref f22))) (l22 : K.lookup f22 = some ⟨oc22, od22, .func (PySem.W.fnOf "_law_right" "_law_right" (defArgs s__law_right) (defBody s__law_right) (defScope s__law_right) .none kV22 dc22 pm22 an22 cd22 ct22), sl22⟩) (c22 : PySem.W.codeIn K cd22 "_law_right" = true) (k22 : PySem.W.keepIn K (.ref f22) = true)
    (a23 : PySem.W.nsIn K mainGlobals "law" = some (some (.ref f23))) (l23 : K.lookup f23 = some ⟨oc23, od23, .func (PySem.W.fnOf "law" "law" (defArgs s_law) (defBody s_law) (defScope s_law) .none kV23 dc23 pm23 an23 cd23 ct23), sl23⟩) (c23 : PySem.W.codeIn K cd23 "law" = true) (k23 : PySem.W.keepIn K (.ref f23) = true)
    (z_bool : PySem.W.nsIn K mainGlobals "bool" = some none)
    (z_enumerate : PySem.W.nsIn K mainGlobals "enumerate" = some none)
    (z_int : PySem.W.nsIn K mainGlobals "int" = some none)
    (z_isinstance : PySem.W.nsIn K mainGlobals "isinstance" = some none)
    (z_len : PySem.W.nsIn K mainGlobals "len" = some none)
    (z_max : PySem.W.nsIn K mainGlobals "max" = some none)
    (z_min : PySem.W.nsIn K mainGlobals "min" = some none)
    (z_range : PySem.W.nsIn K mainGlobals "range" = some none)
    (z_str : PySem.W.nsIn K mainGlobals "str" = some none)
    (oa_Answer : PySem.W.nsIn K mainGlobals "Answer" = some (some (.ref c_Answer))) (ok_Answer : PySem.W.keepIn K (.ref c_Answer) = true) (op_Answer : PySem.W.plainGet K c_Answer Str.empty = true) (ed_Answer : PySem.W.hasDictIn K c_Answer = true) (oo_Answer : PySem.W.plainOver K c_Answer = true) (os_Answer : PySem.W.findIn K (.ref c_Answer) "__setattr__" = some (some (.builtin "object.__setattr__")))
    (el_Answer : PySem.W.findIn K (.ref c_Answer) "__class__" = some (some (.builtin "object.__class__"))) (em_Answer : PySem.W.mroIn K c_Answer (.type "object") = some true) (et_Answer : PySem.W.typeIn K (.ref c_Answer) = some (.type "type")) (om_Answer : PySem.W.makesIn K c_Answer = true)
    (oi_Answer : PySem.W.findIn K (.ref c_Answer) "__init__" = some (some (.builtin "object.__init__")))
    (oa_Alike : PySem.W.nsIn K mainGlobals "Alike" = some (some (.ref c_Alike))) (ok_Alike : PySem.W.keepIn K (.ref c_Alike) = true) (op_Alike : PySem.W.plainGet K c_Alike Str.empty = true) (ed_Alike : PySem.W.hasDictIn K c_Alike = true) (oo_Alike : PySem.W.plainOver K c_Alike = true) (os_Alike : PySem.W.findIn K (.ref c_Alike) "__setattr__" = some (some (.builtin "object.__setattr__")))
    (el_Alike : PySem.W.findIn K (.ref c_Alike) "__class__" = some (some (.builtin "object.__class__"))) (em_Alike : PySem.W.mroIn K c_Alike (.type "object") = some true) (et_Alike : PySem.W.typeIn K (.ref c_Alike) = some (.type "type")) (om_Alike : PySem.W.makesIn K c_Alike = true)
    (ma_Alike_shows : PySem.W.findIn K (.ref c_Alike) "shows" = some (some (.ref f_Alike_shows))) (mi_Alike_shows : PySem.W.isFn K (.ref f_Alike_shows) = true) (ml_Alike_shows : K.lookup f_Alike_shows = some ⟨oc_Alike_shows, od_Alike_shows, .func (PySem.W.fnOf "shows" "Alike.shows" (defArgs s_Alike_shows) (defBody s_Alike_shows) (defScope s_Alike_shows) .none kV_Alike_shows dc_Alike_shows pm_Alike_shows an_Alike_shows cd_Alike_shows ct_Alike_shows), sl_Alike_shows⟩) (mc_Alike_shows : PySem.W.codeIn K cd_Alike_shows "Alike.shows" = true) (mk_Alike_shows : PySem.W.keepIn K (.ref f_Alike_shows) = true)
    (oi_Alike : PySem.W.findIn K (.ref c_Alike) "__init__" = some (some (.builtin "object.__init__")))
    (oa_Unlike : PySem.W.nsIn K mainGlobals "Unlike" = some (some (.ref c_Unlike))) (ok_Unlike : PySem.W.keepIn K (.ref c_Unlike) = true) (op_Unlike : PySem.W.plainGet K c_Unlike Str.empty = true) (ed_Unlike : PySem.W.hasDictIn K c_Unlike = true) (oo_Unlike : PySem.W.plainOver K c_Unlike = true) (os_Unlike : PySem.W.findIn K (.ref c_Unlike) "__setattr__" = some (some (.builtin "object.__setattr__")))
    (el_Unlike : PySem.W.findIn K (.ref c_Unlike) "__class__" = some (some (.builtin "object.__class__"))) (em_Unlike : PySem.W.mroIn K c_Unlike (.type "object") = some true) (et_Unlike : PySem.W.typeIn K (.ref c_Unlike) = some (.type "type")) (om_Unlike : PySem.W.makesIn K c_Unlike = true)
    (ma_Unlike___init__ : PySem.W.findIn K (.ref c_Unlike) "__init__" = some (some (.ref f_Unlike___init__))) (mi_Unlike___init__ : PySem.W.isFn K (.ref f_Unlike___init__) = true) (ml_Unlike___init__ : K.lookup f_Unlike___init__ = some ⟨oc_Unlike___init__, od_Unlike___init__, .func (PySem.W.fnOf "__init__" "Unlike.__init__" (defArgs s_Unlike___init__) (defBody s_Unlike___init__) (defScope s_Unlike___init__) .none kV_Unlike___init__ dc_Unlike___init__ pm_Unlike___init__ an_Unlike___init__ cd_Unlike___init__ ct_Unlike___init__), sl_Unlike___init__⟩) (mc_Unlike___init__ : PySem.W.codeIn K cd_Unlike___init__ "Unlike.__init__" = true) (mk_Unlike___init__ : PySem.W.keepIn K (.ref f_Unlike___init__) = true)
    (ma_Unlike_shows : PySem.W.findIn K (.ref c_Unlike) "shows" = some (some (.ref f_Unlike_shows))) (mi_Unlike_shows : PySem.W.isFn K (.ref f_Unlike_shows) = true) (ml_Unlike_shows : K.lookup f_Unlike_shows = some ⟨oc_Unlike_shows, od_Unlike_shows, .func (PySem.W.fnOf "shows" "Unlike.shows" (defArgs s_Unlike_shows) (defBody s_Unlike_shows) (defScope s_Unlike_shows) .none kV_Unlike_shows dc_Unlike_shows pm_Unlike_shows an_Unlike_shows cd_Unlike_shows ct_Unlike_shows), sl_Unlike_shows⟩) (mc_Unlike_shows : PySem.W.codeIn K cd_Unlike_shows "Unlike.shows" = true) (mk_Unlike_shows : PySem.W.keepIn K (.ref f_Unlike_shows) = true)
    (on_Unlike_base : PySem.W.findIn K (.ref c_Unlike) "base" = some none)
    (on_Unlike_place : PySem.W.findIn K (.ref c_Unlike) "place" = some none)
    (esp : PySem.W.specialIn K (.builtin "object.__class__") "__get__" = some (some (.builtin "getset_descriptor.__get__"))) (etk : PySem.W.takesIn K (.builtin "object.__class__") = some true)
    (ei_Alike_Answer : PySem.W.subIn K (.ref c_Alike) (.ref c_Answer) = some true)
    (ei_Alike_Alike : PySem.W.subIn K (.ref c_Alike) (.ref c_Alike) = some true)
    (ei_Alike_Unlike : PySem.W.subIn K (.ref c_Alike) (.ref c_Unlike) = some false)
    (en_Alike_Unlike : (Value.ref c_Alike == Value.ref c_Unlike) = false)
    (ei_Unlike_Answer : PySem.W.subIn K (.ref c_Unlike) (.ref c_Answer) = some true)
    (ei_Unlike_Alike : PySem.W.subIn K (.ref c_Unlike) (.ref c_Alike) = some false)
    (en_Unlike_Alike : (Value.ref c_Unlike == Value.ref c_Alike) = false)
    (ei_Unlike_Unlike : PySem.W.subIn K (.ref c_Unlike) (.ref c_Unlike) = some true)
    (q_GREATEST_BASE : PySem.W.nsIn K mainGlobals "GREATEST_BASE" = some (some (.int 1000 t_GREATEST_BASE))) :
    ∃ fd : FuncData, (∀ (s : Shared) (v : Value), BindsTo s fd ⟨[v], []⟩ [("_law_script", v)]) ∧ ∀ base : Heap, K.In base → base.Ns mainGlobals mg → FnG l.prog w K mg base CX0 5 fa fd ["_law_script"] (sp_law K) := by
  have e : fa = f23 := Value.ref.inj (Option.some.inj (hfa.symm.trans (PySem.W.mg_of X G a23)))
  rw [e]
  let T : Tx K mg := {
      a_is_whole := f0, d_is_whole := _, F_is_whole := fun_mk (st := s_is_whole) l0 c0 k0, b_is_whole := (fun_mk (st := s_is_whole) l0 c0 k0).binds (ps := ["thing"]) fun _ _ _ _ _ _ us hl => match us, hl with | [_], _ => rfl, g_is_whole := PySem.W.mg_of X G a0,
      a_check_number := f1, d_check_number := _, F_check_number := fun_mk (st := s_check_number) l1 c1 k1, b_check_number := (fun_mk (st := s_check_number) l1 c1 k1).binds (ps := ["number"]) fun _ _ _ _ _ _ us hl => match us, hl with | [_], _ => rfl, g_check_number := PySem.W.mg_of X G a1,
      a_check_base := f2, d_check_base := _, F_check_base := fun_mk (st := s_check_base) l2 c2 k2, b_check_base := (fun_mk (st := s_check_base) l2 c2 k2).binds (ps := ["base"]) fun _ _ _ _ _ _ us hl => match us, hl with | [_], _ => rfl, g_check_base := PySem.W.mg_of X G a2,
      a_figures_of := f3, d_figures_of := _, F_figures_of := fun_mk (st := s_figures_of) l3 c3 k3, b_figures_of := (fun_mk (st := s_figures_of) l3 c3 k3).binds (ps := ["number", "base"]) fun _ _ _ _ _ _ us hl => match us, hl with | [_, _], _ => rfl, g_figures_of := PySem.W.mg_of X G a3,
      a_number_from := f4, d_number_from := _, F_number_from := fun_mk (st := s_number_from) l4 c4 k4, b_number_from := (fun_mk (st := s_number_from) l4 c4 k4).binds (ps := ["row", "base"]) fun _ _ _ _ _ _ us hl => match us, hl with | [_, _], _ => rfl, g_number_from := PySem.W.mg_of X G a4,
      a_first_wrong := f5, d_first_wrong := _, F_first_wrong := fun_mk (st := s_first_wrong) l5 c5 k5, b_first_wrong := (fun_mk (st := s_first_wrong) l5 c5 k5).binds (ps := ["number", "base"]) fun _ _ _ _ _ _ us hl => match us, hl with | [_, _], _ => rfl, g_first_wrong := PySem.W.mg_of X G a5,
      a_power := f6, d_power := _, F_power := fun_mk (st := s_power) l6 c6 k6, b_power := (fun_mk (st := s_power) l6 c6 k6).binds (ps := ["base", "times"]) fun _ _ _ _ _ _ us hl => match us, hl with | [_, _], _ => rfl, g_power := PySem.W.mg_of X G a6,
      a_many_of := f7, d_many_of := _, F_many_of := fun_mk (st := s_many_of) l7 c7 k7, b_many_of := (fun_mk (st := s_many_of) l7 c7 k7).binds (ps := ["many", "base"]) fun _ _ _ _ _ _ us hl => match us, hl with | [_, _], _ => rfl, g_many_of := PySem.W.mg_of X G a7,
      a_made_of := f8, d_made_of := _, F_made_of := fun_mk (st := s_made_of) l8 c8 k8, b_made_of := (fun_mk (st := s_made_of) l8 c8 k8).binds (ps := ["half", "many", "base"]) fun _ _ _ _ _ _ us hl => match us, hl with | [_, _, _], _ => rfl, g_made_of := PySem.W.mg_of X G a8,
      a_number_by := f9, d_number_by := _, F_number_by := fun_mk (st := s_number_by) l9 c9 k9, b_number_by := (fun_mk (st := s_number_by) l9 c9 k9).binds (ps := ["at", "base"]) fun _ _ _ _ _ _ us hl => match us, hl with | [_, _], _ => rfl, g_number_by := PySem.W.mg_of X G a9,
      a_judged := f10, d_judged := _, F_judged := fun_mk (st := s_judged) l10 c10 k10, b_judged := (fun_mk (st := s_judged) l10 c10 k10).binds (ps := ["number", "one", "other"]) fun _ _ _ _ _ _ us hl => match us, hl with | [_, _, _], _ => rfl, g_judged := PySem.W.mg_of X G a10,
      a__law_cell_at := f11, d__law_cell_at := _, F__law_cell_at := fun_mk (st := s__law_cell_at) l11 c11 k11, b__law_cell_at := (fun_mk (st := s__law_cell_at) l11 c11 k11).binds (ps := ["_law_script", "_law_k"]) fun _ _ _ _ _ _ us hl => match us, hl with | [_, _], _ => rfl, g__law_cell_at := PySem.W.mg_of X G a11,
      a__law_draw := f12, d__law_draw := _, F__law_draw := fun_mk (st := s__law_draw) l12 c12 k12, b__law_draw := (fun_mk (st := s__law_draw) l12 c12 k12).binds (ps := ["_law_cell", "_law_k", "_law_most"]) fun _ _ _ _ _ _ us hl => match us, hl with | [_, _, _], _ => rfl, g__law_draw := PySem.W.mg_of X G a12,
      a__law_number := f13, d__law_number := _, F__law_number := fun_mk (st := s__law_number) l13 c13 k13, b__law_number := (fun_mk (st := s__law_number) l13 c13 k13).binds (ps := ["_law_cell", "_law_k", "_law_limit"]) fun _ _ _ _ _ _ us hl => match us, hl with | [_, _, _], _ => rfl, g__law_number := PySem.W.mg_of X G a13,
      a__law_great := f14, d__law_great := _, F__law_great := fun_mk (st := s__law_great) l14 c14 k14, b__law_great := (fun_mk (st := s__law_great) l14 c14 k14).binds (ps := ["_law_script", "_law_by"]) fun _ _ _ _ _ _ us hl => match us, hl with | [_, _], _ => rfl, g__law_great := PySem.W.mg_of X G a14,
      a__law_base := f15, d__law_base := _, F__law_base := fun_mk (st := s__law_base) l15 c15 k15, b__law_base := (fun_mk (st := s__law_base) l15 c15 k15).binds (ps := ["_law_script", "_law_by"]) fun _ _ _ _ _ _ us hl => match us, hl with | [_, _], _ => rfl, g__law_base := PySem.W.mg_of X G a15,
      a__law_figures := f16, d__law_figures := _, F__law_figures := fun_mk (st := s__law_figures) l16 c16 k16, b__law_figures := (fun_mk (st := s__law_figures) l16 c16 k16).binds (ps := ["_law_number_here", "_law_base_here"]) fun _ _ _ _ _ _ us hl => match us, hl with | [_, _], _ => rfl, g__law_figures := PySem.W.mg_of X G a16,
      a__law_reads := f17, d__law_reads := _, F__law_reads := fun_mk (st := s__law_reads) l17 c17 k17, b__law_reads := (fun_mk (st := s__law_reads) l17 c17 k17).binds (ps := ["_law_number_here", "_law_base_here"]) fun _ _ _ _ _ _ us hl => match us, hl with | [_, _], _ => rfl, g__law_reads := PySem.W.mg_of X G a17,
      a__law_wrong := f18, d__law_wrong := _, F__law_wrong := fun_mk (st := s__law_wrong) l18 c18 k18, b__law_wrong := (fun_mk (st := s__law_wrong) l18 c18 k18).binds (ps := ["_law_number_here", "_law_base_here"]) fun _ _ _ _ _ _ us hl => match us, hl with | [_, _], _ => rfl, g__law_wrong := PySem.W.mg_of X G a18,
      a__law_whole := f19, d__law_whole := _, F__law_whole := fun_mk (st := s__law_whole) l19 c19 k19, b__law_whole := (fun_mk (st := s__law_whole) l19 c19 k19).binds (ps := ["_law_found"]) fun _ _ _ _ _ _ us hl => match us, hl with | [_], _ => rfl, g__law_whole := PySem.W.mg_of X G a19,
      a__law_says := f20, d__law_says := _, F__law_says := fun_mk (st := s__law_says) l20 c20 k20, b__law_says := (fun_mk (st := s__law_says) l20 c20 k20).binds (ps := ["_law_said", "_law_due_here"]) fun _ _ _ _ _ _ us hl => match us, hl with | [_, _], _ => rfl, g__law_says := PySem.W.mg_of X G a20,
      a__law_due := f21, d__law_due := _, F__law_due := fun_mk (st := s__law_due) l21 c21 k21, b__law_due := (fun_mk (st := s__law_due) l21 c21 k21).binds (ps := ["_law_number_here", "_law_one", "_law_other", "_law_found"]) fun _ _ _ _ _ _ us hl => match us, hl with | [_, _, _, _], _ => rfl, g__law_due := PySem.W.mg_of X G a21,
      a__law_right := f22, d__law_right := _, F__law_right := fun_mk (st := s__law_right) l22 c22 k22, b__law_right := (fun_mk (st := s__law_right) l22 c22 k22).binds (ps := ["_law_number_here", "_law_one", "_law_other", "_law_others"]) fun _ _ _ _ _ _ us hl => match us, hl with | [_, _, _, _], _ => rfl, g__law_right := PySem.W.mg_of X G a22,
      a_law := f23, d_law := _, F_law := fun_mk (st := s_law) l23 c23 k23, b_law := (fun_mk (st := s_law) l23 c23 k23).binds (ps := ["_law_script"]) fun _ _ _ _ _ _ us hl => match us, hl with | [_], _ => rfl, g_law := PySem.W.mg_of X G a23,
      a_Answer := c_Answer, g_Answer := PySem.W.mg_of X G oa_Answer, k_Answer := ok_Answer, C_Answer := ⟨⟨op_Answer, ed_Answer, oo_Answer, os_Answer⟩, el_Answer, esp, etk, em_Answer⟩,
      mk0_Answer := om_Answer, i0_Answer := oi_Answer,
      a_Alike := c_Alike, g_Alike := PySem.W.mg_of X G oa_Alike, k_Alike := ok_Alike, C_Alike := ⟨⟨op_Alike, ed_Alike, oo_Alike, os_Alike⟩, el_Alike, esp, etk, em_Alike⟩,
      a_Alike_shows := f_Alike_shows, d_Alike_shows := _, F_Alike_shows := fun_mk (st := s_Alike_shows) ml_Alike_shows mc_Alike_shows mk_Alike_shows, b_Alike_shows := (fun_mk (st := s_Alike_shows) ml_Alike_shows mc_Alike_shows mk_Alike_shows).binds (ps := ["self", "number", "one", "other"]) fun _ _ _ _ _ _ us hl => match us, hl with | [_, _, _, _], _ => rfl,
      M_Alike_shows := ⟨ma_Alike_shows, mi_Alike_shows, mk_Alike_shows⟩,
      mk0_Alike := om_Alike, i0_Alike := oi_Alike,
      a_Unlike := c_Unlike, g_Unlike := PySem.W.mg_of X G oa_Unlike, k_Unlike := ok_Unlike, C_Unlike := ⟨⟨op_Unlike, ed_Unlike, oo_Unlike, os_Unlike⟩, el_Unlike, esp, etk, em_Unlike⟩,
      a_Unlike___init__ := f_Unlike___init__, d_Unlike___init__ := _, F_Unlike___init__ := fun_mk (st := s_Unlike___init__) ml_Unlike___init__ mc_Unlike___init__ mk_Unlike___init__, b_Unlike___init__ := (fun_mk (st := s_Unlike___init__) ml_Unlike___init__ mc_Unlike___init__ mk_Unlike___init__).binds (ps := ["self", "base", "place"]) fun _ _ _ _ _ _ us hl => match us, hl with | [_, _, _], _ => rfl,
      Mk_Unlike := ⟨om_Unlike, ma_Unlike___init__, mi_Unlike___init__, ok_Unlike⟩,
      a_Unlike_shows := f_Unlike_shows, d_Unlike_shows := _, F_Unlike_shows := fun_mk (st := s_Unlike_shows) ml_Unlike_shows mc_Unlike_shows mk_Unlike_shows, b_Unlike_shows := (fun_mk (st := s_Unlike_shows) ml_Unlike_shows mc_Unlike_shows mk_Unlike_shows).binds (ps := ["self", "number", "one", "other"]) fun _ _ _ _ _ _ us hl => match us, hl with | [_, _, _, _], _ => rfl,
      M_Unlike_shows := ⟨ma_Unlike_shows, mi_Unlike_shows, mk_Unlike_shows⟩,
      n_Unlike_base := on_Unlike_base,
      n_Unlike_place := on_Unlike_place,
      i_Alike_Answer := kit_own (Or.inl rfl) ed_Answer et_Answer ei_Alike_Answer,
      i_Alike_Alike := kit_own (Or.inl rfl) ed_Alike et_Alike ei_Alike_Alike,
      i_Alike_Unlike := kit_own (Or.inr en_Alike_Unlike) ed_Unlike et_Unlike ei_Alike_Unlike,
      i_Unlike_Answer := kit_own (Or.inl rfl) ed_Answer et_Answer ei_Unlike_Answer,
      i_Unlike_Alike := kit_own (Or.inr en_Unlike_Alike) ed_Alike et_Alike ei_Unlike_Alike,
      i_Unlike_Unlike := kit_own (Or.inl rfl) ed_Unlike et_Unlike ei_Unlike_Unlike,
      m_bool := PySem.W.mg_none_of X G z_bool,
      m_enumerate := PySem.W.mg_none_of X G z_enumerate,
      m_int := PySem.W.mg_none_of X G z_int,
      m_isinstance := PySem.W.mg_none_of X G z_isinstance,
      m_len := PySem.W.mg_none_of X G z_len,
      m_max := PySem.W.mg_none_of X G z_max,
      m_min := PySem.W.mg_none_of X G z_min,
      m_range := PySem.W.mg_none_of X G z_range,
      m_str := PySem.W.mg_none_of X G z_str,
      k_GREATEST_BASE := t_GREATEST_BASE, c_GREATEST_BASE := PySem.W.mg_of X G q_GREATEST_BASE }
  exact ⟨PySem.W.fnOf "law" "law" (defArgs s_law) (defBody s_law) (defScope s_law) .none kV23 dc23 pm23 an23 cd23 ct23, fun s v => .of_eq rfl, fun base _ _ => ok_law T⟩
end Bt
open PySem PySem.W PyProof.Rows
set_option maxHeartbeats 0 in
theorem PySem.Challenge.cw_bothread_k05_whole_judged_holds : PySem.Challenge.rw_bothread_k05_whole_judged.Holds := by
  w_on; o_law; k_head; (case hw => w_witness2)
  k_fill
  refine Bt.walk_ofG (l := PySem.Challenge.rw_bothread_k05_whole_judged) (n := 63) (k := 5) (x := "_law_script") (C := fun _ => L2.CX0) (sp := fun w => Bt.sp_law _) rfl (by decide) rfl ⟨rfl, by decide, by decide⟩ (fun w h Y => PySem.W.kIn_of Y) ?F (fun _ _ a ns hl hb _ hS => ⟨a, ns, rfl, hS, fun n hn => Bt.cell_bits (hb n hn), fun _ => rfl⟩) (fun _ _ _ _ _ h => h)
  case F =>
    intro w mg fa h KX G hmg
    refine' Bt.all_mk KX G hmg ?a0 ?l0 ?c0 ?k0 ?a1 ?l1 ?c1 ?k1 ?a2 ?l2 ?c2 ?k2 ?a3 ?l3 ?c3 ?k3 ?a4 ?l4 ?c4 ?k4 ?a5 ?l5 ?c5 ?k5 ?a6 ?l6 ?c6 ?k6 ?a7 ?l7 ?c7 ?k7 ?a8 ?l8 ?c8 ?k8 ?a9 ?l9 ?c9 ?k9 ?a10 ?l10 ?c10 ?k10 ?a11 ?l11 ?c11 ?k11 ?a12 ?l12 ?c12 ?k12 ?a13 ?l13 ?c13 ?k13 ?a14 ?l14 ?c14 ?k14 ?a15 ?l15 ?c15 ?k15 ?a16 ?l16 ?c16 ?k16 ?a17 ?l17 ?c17 ?k17 ?a18 ?l18 ?c18 ?k18 ?a19 ?l19 ?c19 ?k19 ?a20 ?l20 ?c20 ?k20 ?a21 ?l21 ?c21 ?k21 ?a22 ?l22 ?c22 ?k22 ?a23 ?l23 ?c23 ?k23 ?z_bool ?z_enumerate ?z_int ?z_isinstance ?z_len ?z_max ?z_min ?z_range ?z_str ?oa_Answer ?ok_Answer ?op_Answer ?ed_Answer ?oo_Answer ?os_Answer ?el_Answer ?em_Answer ?et_Answer ?om_Answer ?oi_Answer ?oa_Alike ?ok_Alike ?op_Alike ?ed_Alike ?oo_Alike ?os_Alike ?el_Alike ?em_Alike ?et_Alike ?om_Alike ?ma_Alike_shows ?mi_Alike_shows ?ml_Alike_shows ?mc_Alike_shows ?mk_Alike_shows ?oi_Alike ?oa_Unlike ?ok_Unlike ?op_Unlike ?ed_Unlike ?oo_Unlike ?os_Unlike ?el_Unlike ?em_Unlike ?et_Unlike ?om_Unlike ?ma_Unlike___init__ ?mi_Unlike___init__ ?ml_Unlike___init__ ?mc_Unlike___init__ ?mk_Unlike___init__ ?ma_Unlike_shows ?mi_Unlike_shows ?ml_Unlike_shows ?mc_Unlike_shows ?mk_Unlike_shows ?on_Unlike_base ?on_Unlike_place ?esp ?etk ?ei_Alike_Answer ?ei_Alike_Alike ?ei_Alike_Unlike ?en_Alike_Unlike ?ei_Unlike_Answer ?ei_Unlike_Alike ?en_Unlike_Alike ?ei_Unlike_Unlike ?q_GREATEST_BASE
    (case a0 => k_is)
    (case l0 => k_is)
    (case c0 => k_is)
    (case k0 => k_is)
    (case a1 => k_is)
    (case l1 => k_is)
    (case c1 => k_is)
    (case k1 => k_is)
    (case a2 => k_is)
    (case l2 => k_is)
    (case c2 => k_is)
    (case k2 => k_is)
    (case a3 => k_is)
    (case l3 => k_is)
    (case c3 => k_is)
    (case k3 => k_is)
    (case a4 => k_is)
    (case l4 => k_is)
    (case c4 => k_is)
    (case k4 => k_is)
    (case a5 => k_is)
    (case l5 => k_is)
    (case c5 => k_is)
    (case k5 => k_is)
    (case a6 => k_is)
    (case l6 => k_is)
    (case c6 => k_is)
    (case k6 => k_is)
    (case a7 => k_is)
    (case l7 => k_is)
    (case c7 => k_is)
    (case k7 => k_is)
    (case a8 => k_is)
    (case l8 => k_is)
    (case c8 => k_is)
    (case k8 => k_is)
    (case a9 => k_is)
    (case l9 => k_is)
    (case c9 => k_is)
    (case k9 => k_is)
    (case a10 => k_is)
    (case l10 => k_is)
    (case c10 => k_is)
    (case k10 => k_is)
    (case a11 => k_is)
    (case l11 => k_is)
    (case c11 => k_is)
    (case k11 => k_is)
    (case a12 => k_is)
    (case l12 => k_is)
    (case c12 => k_is)
    (case k12 => k_is)
    (case a13 => k_is)
    (case l13 => k_is)
    (case c13 => k_is)
    (case k13 => k_is)
    (case a14 => k_is)
    (case l14 => k_is)
    (case c14 => k_is)
    (case k14 => k_is)
    (case a15 => k_is)
    (case l15 => k_is)
    (case c15 => k_is)
    (case k15 => k_is)
    (case a16 => k_is)
    (case l16 => k_is)
    (case c16 => k_is)
    (case k16 => k_is)
    (case a17 => k_is)
    (case l17 => k_is)
    (case c17 => k_is)
    (case k17 => k_is)
    (case a18 => k_is)
    (case l18 => k_is)
    (case c18 => k_is)
    (case k18 => k_is)
    (case a19 => k_is)
    (case l19 => k_is)
    (case c19 => k_is)
    (case k19 => k_is)
    (case a20 => k_is)
    (case l20 => k_is)
    (case c20 => k_is)
    (case k20 => k_is)
    (case a21 => k_is)
    (case l21 => k_is)
    (case c21 => k_is)
    (case k21 => k_is)
    (case a22 => k_is)
    (case l22 => k_is)
    (case c22 => k_is)
    (case k22 => k_is)
    (case a23 => k_is)
    (case l23 => k_is)
    (case c23 => k_is)
    (case k23 => k_is)
    (case z_bool => k_is)
    (case z_enumerate => k_is)
    (case z_int => k_is)
    (case z_isinstance => k_is)
    (case z_len => k_is)
    (case z_max => k_is)
    (case z_min => k_is)
    (case z_range => k_is)
    (case z_str => k_is)
    (case oa_Answer => k_is)
    (case ok_Answer => k_is)
    (case op_Answer => k_is)
    (case ed_Answer => k_is)
    (case oo_Answer => k_is)
    (case os_Answer => k_is)
    (case el_Answer => k_is)
    (case em_Answer => k_is)
    (case et_Answer => k_is)
    (case om_Answer => k_is)
    (case oi_Answer => k_is)
    (case oa_Alike => k_is)
    (case ok_Alike => k_is)
    (case op_Alike => k_is)
    (case ed_Alike => k_is)
    (case oo_Alike => k_is)
    (case os_Alike => k_is)
    (case el_Alike => k_is)
    (case em_Alike => k_is)
    (case et_Alike => k_is)
    (case om_Alike => k_is)
    (case ma_Alike_shows => k_is)
    (case mi_Alike_shows => k_is)
    (case ml_Alike_shows => k_is)
    (case mc_Alike_shows => k_is)
    (case mk_Alike_shows => k_is)
    (case oi_Alike => k_is)
    (case oa_Unlike => k_is)
    (case ok_Unlike => k_is)
    (case op_Unlike => k_is)
    (case ed_Unlike => k_is)
    (case oo_Unlike => k_is)
    (case os_Unlike => k_is)
    (case el_Unlike => k_is)
    (case em_Unlike => k_is)
    (case et_Unlike => k_is)
    (case om_Unlike => k_is)
    (case ma_Unlike___init__ => k_is)
    (case mi_Unlike___init__ => k_is)
    (case ml_Unlike___init__ => k_is)
    (case mc_Unlike___init__ => k_is)
    (case mk_Unlike___init__ => k_is)
    (case ma_Unlike_shows => k_is)
    (case mi_Unlike_shows => k_is)
    (case ml_Unlike_shows => k_is)
    (case mc_Unlike_shows => k_is)
    (case mk_Unlike_shows => k_is)
    (case on_Unlike_base => k_is)
    (case on_Unlike_place => k_is)
    (case esp => k_is)
    (case etk => k_is)
    (case ei_Alike_Answer => k_is)
    (case ei_Alike_Alike => k_is)
    (case ei_Alike_Unlike => k_is)
    (case en_Alike_Unlike => rfl)
    (case ei_Unlike_Answer => k_is)
    (case ei_Unlike_Alike => k_is)
    (case en_Unlike_Alike => rfl)
    (case ei_Unlike_Unlike => k_is)
    (case q_GREATEST_BASE => k_is)
