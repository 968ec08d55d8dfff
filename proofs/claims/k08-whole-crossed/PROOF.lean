import PyProof.Rows.All
import Wide.All
import OpenK.AllK
import Wide.FinOn
import HandS.EndBits
import HandS.Evl
import HandS.ExcIs
import HandS.ForExc
import HandS.ForMost
import HandS.IsInst
import HandS.Iter
import HandS.SortInts
import HandS.Style
import HandS.Wide
import PySem.Challenge.RW_bothread_k08_whole_crossed
set_option Elab.async false
set_option linter.all false
set_option maxRecDepth 100000
set_option exponentiation.threshold 256
namespace Bm
/-! figures, the least place's first -/
def dsF (b : Nat) : Nat → Nat → List Nat
  | 0, n => [n]
  | f + 1, n => if n < b then [n] else (n % b) :: dsF b f (n / b)
def ds (b n : Nat) : List Nat := dsF b n n
def fig (b n : Nat) : List Nat := (ds b n).reverse
def vl (b : Nat) : List Nat → Nat
  | [] => 0
  | d :: r => d + b * vl b r
def val (b : Nat) (l : List Nat) : Nat := l.foldl (fun a d => a * b + d) 0

theorem dsF_eq {b : Nat} (hb : 2 ≤ b) : ∀ f g n, n ≤ f → n ≤ g → dsF b f n = dsF b g n
  | 0, 0, n, _, _ => rfl
  | 0, g + 1, n, h, _ => by
    have : n = 0 := by omega
    subst this
    unfold dsF
    rw [if_pos (by omega)]
  | f + 1, 0, n, _, h => by
    have : n = 0 := by omega
    subst this
    unfold dsF
    rw [if_pos (by omega)]
  | f + 1, g + 1, n, h1, h2 => by
    unfold dsF
    by_cases hn : n < b
    · rw [if_pos hn, if_pos hn]
    · rw [if_neg hn, if_neg hn]
      have : n / b < n := Nat.div_lt_self (by omega) (by omega)
      rw [dsF_eq hb f g (n / b) (by omega) (by omega)]
theorem ds_lo {b n : Nat} (h : n < b) : ds b n = [n] := by
  unfold ds
  cases n with
  | zero => rfl
  | succ k => unfold dsF; rw [if_pos h]
theorem ds_hi {b n : Nat} (hb : 2 ≤ b) (h : ¬ n < b) : ds b n = (n % b) :: ds b (n / b) := by
  unfold ds
  cases n with
  | zero => omega
  | succ k =>
    have : (k + 1) / b < k + 1 := Nat.div_lt_self (by omega) (by omega)
    rw [show dsF b (k + 1) (k + 1) = ((k + 1) % b) :: dsF b k ((k + 1) / b) by
      conv => lhs; unfold dsF
      rw [if_neg h]]
    rw [dsF_eq hb k ((k + 1) / b) _ (by omega) (Nat.le_refl _)]
/-- the law's own induction -/
theorem ds_ind {b : Nat} (hb : 2 ≤ b) {P : Nat → Prop} (lo : ∀ n, n < b → P n) (hi : ∀ n, ¬ n < b → P (n / b) → P n) (n : Nat) : P n := by
  induction n using Nat.strongRecOn with
  | ind n ih =>
    by_cases h : n < b
    · exact lo n h
    · exact hi n h (ih _ (Nat.div_lt_self (by omega) (by omega)))
theorem ds_ne {b : Nat} (hb : 2 ≤ b) (n : Nat) : ds b n ≠ [] := by
  by_cases h : n < b
  · rw [ds_lo h]; simp
  · rw [ds_hi hb h]; simp
theorem ds_pos {b : Nat} (hb : 2 ≤ b) (n : Nat) : 0 < (ds b n).length := List.length_pos_iff.mpr (ds_ne hb n)
theorem ds_lt {b : Nat} (hb : 2 ≤ b) (n : Nat) : ∀ d ∈ ds b n, d < b := by
  induction n using ds_ind hb with
  | lo n h =>
    rw [ds_lo h]
    intro d hd
    rw [List.mem_singleton] at hd
    omega
  | hi n h ih =>
    rw [ds_hi hb h]
    intro d hd
    rcases List.mem_cons.mp hd with e | e
    · rw [e]; exact Nat.mod_lt _ (by omega)
    · exact ih d e
theorem vl_ds {b : Nat} (hb : 2 ≤ b) (n : Nat) : vl b (ds b n) = n := by
  induction n using ds_ind hb with
  | lo n h =>
    rw [ds_lo h]
    show n + b * 0 = n
    rw [Nat.mul_zero, Nat.add_zero]
  | hi n h ih =>
    rw [ds_hi hb h]
    show n % b + b * vl b (ds b (n / b)) = n
    rw [ih]
    exact Nat.mod_add_div n b
theorem vl_append (b : Nat) : ∀ l m : List Nat, vl b (l ++ m) = vl b l + b ^ l.length * vl b m
  | [], m => by simp [vl]
  | d :: r, m => by
    show d + b * vl b (r ++ m) = (d + b * vl b r) + b ^ (r.length + 1) * vl b m
    rw [vl_append b r m, Nat.mul_add, Nat.pow_succ, Nat.mul_comm (b ^ r.length) b, Nat.mul_assoc, Nat.add_assoc]
theorem vl_lt {b : Nat} : ∀ {l : List Nat}, (∀ d ∈ l, d < b) → vl b l < b ^ l.length
  | [], _ => by simp [vl]
  | d :: r, h => by
    have h1 : d < b := h d List.mem_cons_self
    have h2 := vl_lt (l := r) fun x hx => h x (List.mem_cons_of_mem _ hx)
    show d + b * vl b r < b ^ (r.length + 1)
    rw [Nat.pow_succ]
    have h3 : b * (vl b r + 1) ≤ b * b ^ r.length := Nat.mul_le_mul_left b h2
    rw [Nat.mul_add, Nat.mul_one, Nat.mul_comm b (b ^ r.length)] at h3
    omega
theorem foldl_val (b : Nat) : ∀ (l : List Nat) (a : Nat), l.foldl (fun a d => a * b + d) a = a * b ^ l.length + val b l
  | [], a => by simp [val]
  | d :: r, a => by
    show r.foldl (fun a d => a * b + d) (a * b + d) = a * b ^ (r.length + 1) + r.foldl (fun a d => a * b + d) (0 * b + d)
    rw [foldl_val b r (a * b + d), foldl_val b r (0 * b + d), Nat.pow_succ, Nat.add_mul, Nat.add_mul, Nat.zero_mul, Nat.zero_mul, Nat.zero_add, Nat.mul_comm (b ^ r.length) b, Nat.mul_assoc, Nat.add_assoc]
theorem val_snoc (b : Nat) (l : List Nat) (d : Nat) : val b (l ++ [d]) = val b l * b + d := by
  unfold val
  rw [List.foldl_append]
  rfl
theorem val_vl (b : Nat) : ∀ l : List Nat, val b l.reverse = vl b l
  | [] => rfl
  | d :: r => by
    rw [List.reverse_cons, val_snoc, val_vl b r]
    show vl b r * b + d = d + b * vl b r
    rw [Nat.mul_comm, Nat.add_comm]
theorem val_eq (b : Nat) (l : List Nat) : val b l = vl b l.reverse := by
  rw [← val_vl, List.reverse_reverse]
theorem val_fig {b : Nat} (hb : 2 ≤ b) (n : Nat) : val b (fig b n) = n := by
  unfold fig
  rw [val_vl, vl_ds hb]
/-- a list of figures is that of its number, if it ends (the greatest place) on no 0, or has one figure -/
theorem ds_vl {b : Nat} (hb : 2 ≤ b) : ∀ {l : List Nat}, (∀ d ∈ l, d < b) → (l.length = 1 ∨ ∃ x, l.getLast? = some x ∧ x ≠ 0) → ds b (vl b l) = l
  | [], _, h => by
    rcases h with h | ⟨x, h, _⟩
    · cases h
    · cases h
  | [d], h, _ => by
    have h1 : d < b := h d List.mem_cons_self
    show ds b (d + b * 0) = [d]
    rw [Nat.mul_zero, Nat.add_zero, ds_lo h1]
  | d :: e :: r, h, hz => by
    have h1 : d < b := h d List.mem_cons_self
    have h2 : ∀ x ∈ e :: r, x < b := fun x hx => h x (List.mem_cons_of_mem _ hx)
    have hz2 : ∃ x, (e :: r).getLast? = some x ∧ x ≠ 0 := by
      rcases hz with hz | ⟨x, hx, h0⟩
      · simp at hz
      · exact ⟨x, by rw [List.getLast?_cons_cons] at hx; exact hx, h0⟩
    have ih := ds_vl hb h2 (Or.inr hz2)
    have hv : vl b (e :: r) ≠ 0 := by
      intro z
      rw [z, ds_lo (by omega)] at ih
      obtain ⟨x, hx, h0⟩ := hz2
      rw [← ih] at hx
      exact h0 (Option.some.inj hx).symm
    have hp : b * 1 ≤ b * vl b (e :: r) := Nat.mul_le_mul_left b (by omega)
    show ds b (d + b * vl b (e :: r)) = d :: e :: r
    rw [ds_hi hb (by omega)]
    rw [Nat.add_mul_mod_self_left, Nat.mod_eq_of_lt h1, Nat.add_mul_div_left _ _ (by omega : 0 < b), Nat.div_eq_of_lt h1, Nat.zero_add, ih]
theorem ds_last {b : Nat} (hb : 2 ≤ b) (n : Nat) (hn : 0 < n) : ∃ x, (ds b n).getLast? = some x ∧ x ≠ 0 := by
  revert hn
  induction n using ds_ind hb with
  | lo n h =>
    intro hn
    rw [ds_lo h]
    exact ⟨n, rfl, by omega⟩
  | hi n h ih =>
    intro hn
    rw [ds_hi hb h]
    have h1 : 0 < n / b := Nat.div_pos (by omega) (by omega)
    obtain ⟨x, hx, h0⟩ := ih h1
    refine ⟨x, ?_, h0⟩
    have hne := ds_ne hb (n / b)
    cases e : ds b (n / b) with
    | nil => exact absurd e hne
    | cons y r =>
      rw [e] at hx
      rw [List.getLast?_cons_cons]
      exact hx
theorem ds_up {b : Nat} (hb : 2 ≤ b) (n : Nat) : n < b ^ (ds b n).length := by
  have h := vl_lt (ds_lt hb n)
  rw [vl_ds hb] at h
  exact h
theorem ds_dn {b : Nat} (hb : 2 ≤ b) (n : Nat) (hn : 0 < n) : b ^ ((ds b n).length - 1) ≤ n := by
  revert hn
  induction n using ds_ind hb with
  | lo n h =>
    intro hn
    rw [ds_lo h]
    show b ^ 0 ≤ n
    rw [Nat.pow_zero]
    exact hn
  | hi n h ih =>
    intro hn
    have h1 : 0 < n / b := Nat.div_pos (by omega) (by omega)
    have h2 := ih h1
    have h3 := ds_pos hb (n / b)
    rw [ds_hi hb h]
    show b ^ ((ds b (n / b)).length + 1 - 1) ≤ n
    rw [show (ds b (n / b)).length + 1 - 1 = ((ds b (n / b)).length - 1) + 1 by omega, Nat.pow_succ]
    exact Nat.le_trans (Nat.mul_le_mul_right b h2) (Nat.div_mul_le_self n b)
theorem pow_lt {b i j : Nat} (hb : 2 ≤ b) (h : b ^ i < b ^ j) : i < j := by
  rcases Nat.lt_or_ge i j with g | g
  · exact g
  · have := Nat.pow_le_pow_right (show 0 < b by omega) g
    omega
/-- how many figures, by the bounds -/
theorem ds_len {b n m : Nat} (hb : 2 ≤ b) (h1 : b ^ m ≤ n) (h2 : n < b ^ (m + 1)) : (ds b n).length = m + 1 := by
  have p : 0 < b ^ m := Nat.pow_pos (by omega)
  have u := ds_up hb n
  have d := ds_dn hb n (by omega)
  have a1 : m < (ds b n).length := pow_lt hb (Nat.lt_of_le_of_lt h1 u)
  have a2 : (ds b n).length - 1 < m + 1 := pow_lt hb (Nat.lt_of_le_of_lt d h2)
  omega
theorem ds_len1 {b n : Nat} (h : n < b) : (ds b n).length = 1 := by rw [ds_lo h]; rfl
theorem ds_drop {b : Nat} (hb : 2 ≤ b) : ∀ (k n : Nat), k < (ds b n).length → (ds b n).drop k = ds b (n / b ^ k)
  | 0, n, _ => by simp
  | k + 1, n, h => by
    by_cases hn : n < b
    · rw [ds_lo hn] at h
      simp at h
    · rw [ds_hi hb hn] at h ⊢
      show (ds b (n / b)).drop k = _
      rw [ds_drop hb k (n / b) (by simpa using h), Nat.div_div_eq_div_mul, Nat.pow_succ, Nat.mul_comm b]
theorem ds_inj {b n m : Nat} (hb : 2 ≤ b) (h : ds b n = ds b m) : n = m := by
  rw [← vl_ds hb n, h, vl_ds hb]

/-! reading alike -/
def pal (b n : Nat) : Bool := decide ((ds b n).reverse = ds b n)
theorem pal_fig (b n : Nat) : pal b n = decide (fig b n = (fig b n).reverse) := by
  unfold pal fig
  rw [List.reverse_reverse]
theorem pal_lo {b n : Nat} (h : n < b) : pal b n = true := by
  unfold pal
  rw [ds_lo h]
  exact decide_eq_true rfl
/-! the number that begins with a half -/
def half2 (d : List Nat) (k : Nat) : List Nat := (d.drop k).reverse ++ d
def made (b h m : Nat) : Nat := val b (fig b h ++ (fig b h).reverse.drop (m % 2))
theorem made_eq (b h m : Nat) : made b h m = vl b (half2 (ds b h) (m % 2)) := by
  unfold made half2 fig
  rw [val_eq, List.reverse_append, List.reverse_reverse]
theorem half2_len {d : List Nat} {m : Nat} (hm : 0 < m) (hd : d.length = (m + 1) / 2) : (half2 d (m % 2)).length = m := by
  unfold half2
  rw [List.length_append, List.length_reverse, List.length_drop, hd]
  omega
theorem half2_rev {d : List Nat} {m : Nat} (hd : d ≠ []) : (half2 d (m % 2)).reverse = half2 d (m % 2) := by
  unfold half2
  rw [List.reverse_append, List.reverse_reverse]
  rcases Nat.mod_two_eq_zero_or_one m with e | e
  · rw [e, List.drop_zero]
  · rw [e]
    cases d with
    | nil => exact absurd rfl hd
    | cons x t => simp
theorem made_form {b h m : Nat} (hb : 2 ≤ b) (hm : 0 < m) (hd : (ds b h).length = (m + 1) / 2) : ∃ r, made b h m = r + b ^ (m / 2) * h ∧ r < b ^ (m / 2) := by
  refine ⟨vl b ((ds b h).drop (m % 2)).reverse, ?_, ?_⟩
  · rw [made_eq]
    unfold half2
    rw [vl_append, vl_ds hb, List.length_reverse, List.length_drop, hd]
    congr 2
    congr 1
    omega
  · have := vl_lt (b := b) (l := ((ds b h).drop (m % 2)).reverse) fun d hx => ds_lt hb h d (List.mem_of_mem_drop (List.mem_reverse.mp hx))
    rw [List.length_reverse, List.length_drop, hd] at this
    rw [show m / 2 = (m + 1) / 2 - m % 2 by omega]
    exact this
theorem made_div {b h m : Nat} (hb : 2 ≤ b) (hm : 0 < m) (hd : (ds b h).length = (m + 1) / 2) : made b h m / b ^ (m / 2) = h := by
  obtain ⟨r, e, hr⟩ := made_form hb hm hd
  rw [e, Nat.add_mul_div_left _ _ (Nat.pow_pos (by omega)), Nat.div_eq_of_lt hr, Nat.zero_add]
theorem made_ds {b h m : Nat} (hb : 2 ≤ b) (hm : 0 < m) (hd : (ds b h).length = (m + 1) / 2) (h0 : m = 1 ∨ 0 < h) : ds b (made b h m) = half2 (ds b h) (m % 2) := by
  rw [made_eq]
  refine ds_vl hb (fun d hx => ?_) ?_
  · unfold half2 at hx
    rcases List.mem_append.mp hx with e | e
    · exact ds_lt hb h d (List.mem_of_mem_drop (List.mem_reverse.mp e))
    · exact ds_lt hb h d e
  · rcases h0 with h0 | h0
    · left
      rw [half2_len hm hd, h0]
    · right
      obtain ⟨x, hx, z⟩ := ds_last hb h h0
      refine ⟨x, ?_, z⟩
      unfold half2
      rw [List.getLast?_append, hx]
      rfl
theorem made_len {b h m : Nat} (hb : 2 ≤ b) (hm : 0 < m) (hd : (ds b h).length = (m + 1) / 2) (h0 : m = 1 ∨ 0 < h) : (ds b (made b h m)).length = m := by
  rw [made_ds hb hm hd h0, half2_len hm hd]
theorem made_pal {b h m : Nat} (hb : 2 ≤ b) (hm : 0 < m) (hd : (ds b h).length = (m + 1) / 2) (h0 : m = 1 ∨ 0 < h) : pal b (made b h m) = true := by
  unfold pal
  rw [made_ds hb hm hd h0]
  exact decide_eq_true (half2_rev (ds_ne hb h))
theorem pal_half {l : List Nat} (h : l.reverse = l) : half2 (l.drop (l.length / 2)) (l.length % 2) = l := by
  unfold half2
  have e : (l.drop (l.length / 2)).drop (l.length % 2) = l.drop (l.length - l.length / 2) := by
    rw [List.drop_drop]
    congr 1
    omega
  rw [e]
  have e2 : (l.drop (l.length - l.length / 2)).reverse = l.take (l.length / 2) := by
    rw [List.reverse_drop, h]
    congr 1
    omega
  rw [e2, List.take_append_drop]
/-- the half of a number -/
def hf (b n : Nat) : Nat := n / b ^ ((ds b n).length / 2)
theorem hf_ds {b : Nat} (hb : 2 ≤ b) (n : Nat) : ds b (hf b n) = (ds b n).drop ((ds b n).length / 2) := by
  have := ds_pos hb n
  rw [hf, ← ds_drop hb _ _ (by omega)]
theorem hf_len {b : Nat} (hb : 2 ≤ b) (n : Nat) : (ds b (hf b n)).length = ((ds b n).length + 1) / 2 := by
  rw [hf_ds hb, List.length_drop]
  omega
theorem pal_made {b : Nat} (hb : 2 ≤ b) (n : Nat) : pal b n = true ↔ made b (hf b n) (ds b n).length = n := by
  constructor
  · intro h
    have h1 := of_decide_eq_true h
    rw [made_eq, hf_ds hb, pal_half h1, vl_ds hb]
  · intro h
    have hm := ds_pos hb n
    have h0 : (ds b n).length = 1 ∨ 0 < hf b n := by
      rcases Nat.eq_zero_or_pos n with z | z
      · left
        rw [z, ds_lo (by omega)]
        rfl
      · right
        have := ds_dn hb n z
        exact Nat.div_pos (Nat.le_trans (Nat.pow_le_pow_right (by omega) (by omega)) this) (Nat.pow_pos (by omega))
    have := made_pal hb hm (hf_len hb n) h0
    rw [h] at this
    exact this
/-! counts -/
def cnt (b m : Nat) : Nat := if m = 1 then b else (b - 1) * b ^ ((m - 1) / 2)
def lo (b m : Nat) : Nat := if m = 1 then 0 else b ^ ((m - 1) / 2)
def sm (b : Nat) : Nat → Nat
  | 0 => 0
  | m + 1 => sm b m + (if m = 0 then 0 else cnt b m)
def bl (b n : Nat) : Nat :=
  if n = 0 then 0 else sm b (ds b n).length + (hf b n - lo b (ds b n).length) + (if made b (hf b n) (ds b n).length < n then 1 else 0)
theorem cnt_lo {b m : Nat} (hb : 2 ≤ b) (hm : 0 < m) : cnt b m + lo b m = b ^ ((m + 1) / 2) := by
  unfold cnt lo
  by_cases h : m = 1
  · subst h
    simp
  · rw [if_neg h, if_neg h, show (m + 1) / 2 = (m - 1) / 2 + 1 by omega, Nat.pow_succ]
    obtain ⟨c, rfl⟩ : ∃ c, b = c + 1 := ⟨b - 1, by omega⟩
    rw [Nat.add_sub_cancel, Nat.mul_add, Nat.mul_one, Nat.mul_comm]
theorem lo_le {b n : Nat} (hb : 2 ≤ b) (hn : 0 < n) : lo b (ds b n).length ≤ hf b n := by
  unfold lo hf
  by_cases h : (ds b n).length = 1
  · rw [if_pos h]
    exact Nat.zero_le _
  · rw [if_neg h]
    have hm := ds_pos hb n
    have d := ds_dn hb n hn
    rw [Nat.le_div_iff_mul_le (Nat.pow_pos (by omega)), ← Nat.pow_add]
    rw [show ((ds b n).length - 1) / 2 + (ds b n).length / 2 = (ds b n).length - 1 by omega]
    exact d
theorem hf_lt {b : Nat} (hb : 2 ≤ b) (n : Nat) : hf b n < b ^ (((ds b n).length + 1) / 2) := by
  have := ds_up hb (hf b n)
  rw [hf_len hb] at this
  exact this
theorem pow_pred {b k : Nat} (hb : 2 ≤ b) : (ds b (b ^ (k + 1) - 1)).length = k + 1 := by
  have p : 0 < b ^ k := Nat.pow_pos (by omega)
  have e : b ^ (k + 1) = b ^ k * b := Nat.pow_succ ..
  have : b ^ k * 2 ≤ b ^ k * b := Nat.mul_le_mul_left _ hb
  exact ds_len hb (by omega) (by omega)
theorem vl_rep (b : Nat) (hb : 2 ≤ b) : ∀ k, vl b (List.replicate k (b - 1)) = b ^ k - 1
  | 0 => by simp [vl]
  | k + 1 => by
    show (b - 1) + b * vl b (List.replicate k (b - 1)) = _
    rw [vl_rep b hb k, Nat.pow_succ]
    have p : 0 < b ^ k := Nat.pow_pos (by omega)
    have : b * 1 ≤ b * b ^ k := Nat.mul_le_mul_left b p
    rw [Nat.mul_sub, Nat.mul_comm (b ^ k) b]
    omega
theorem pal_pred {b k : Nat} (hb : 2 ≤ b) : pal b (b ^ (k + 1) - 1) = true := by
  have e : ds b (b ^ (k + 1) - 1) = List.replicate (k + 1) (b - 1) := by
    rw [← vl_rep b hb]
    refine ds_vl hb (fun d h => ?_) (Or.inr ⟨b - 1, ?_, by omega⟩)
    · rw [(List.mem_replicate.mp h).2]
      omega
    · rw [List.getLast?_replicate]
      simp
  unfold pal
  rw [e, List.reverse_replicate]
  exact decide_eq_true rfl
theorem bl_succ {b : Nat} (hb : 2 ≤ b) (n : Nat) : bl b (n + 1) = bl b n + (if pal b n = true then 1 else 0) := by
  rcases Nat.eq_zero_or_pos n with z | hn
  · subst z
    have e1 : ds b 1 = [1] := ds_lo (by omega)
    have e0 : hf b 1 = 1 := by
      unfold hf
      rw [e1]
      simp
    rw [pal_lo (by omega : 0 < b), if_pos rfl]
    unfold bl
    rw [if_neg (by omega), if_pos rfl, e0, e1]
    have : made b 1 1 = 1 := by
      unfold made fig
      rw [e1]
      simp [val]
    simp [lo, sm, this]
  · have hm := ds_pos hb n
    have up := ds_up hb n
    have dn := ds_dn hb n hn
    have dl := hf_len hb n
    obtain ⟨r, er, hr⟩ := made_form hb hm dl
    have lle := lo_le hb hn
    have hp : 0 < b ^ ((ds b n).length / 2) := Nat.pow_pos (by omega)
    have hdm : b ^ ((ds b n).length / 2) * hf b n + n % b ^ ((ds b n).length / 2) = n := Nat.div_add_mod n _
    have hml : n % b ^ ((ds b n).length / 2) < b ^ ((ds b n).length / 2) := Nat.mod_lt _ hp
    have pm := pal_made hb n
    by_cases hc : n + 1 < b ^ (ds b n).length
    · -- as many figures
      have hl : (ds b (n + 1)).length = (ds b n).length := by
        have := ds_len hb (m := (ds b n).length - 1) (n := n + 1) (by omega) (by rw [show (ds b n).length - 1 + 1 = (ds b n).length by omega]; exact hc)
        omega
      have e1 : bl b (n + 1) = sm b (ds b n).length + (hf b (n + 1) - lo b (ds b n).length) + (if made b (hf b (n + 1)) (ds b n).length < n + 1 then 1 else 0) := by
        unfold bl
        rw [if_neg (by omega), hl]
      have e2 : bl b n = sm b (ds b n).length + (hf b n - lo b (ds b n).length) + (if made b (hf b n) (ds b n).length < n then 1 else 0) := by
        unfold bl
        rw [if_neg (by omega)]
      have dl' := hf_len hb (n + 1)
      rw [hl] at dl'
      obtain ⟨r', er', hr'⟩ := made_form hb hm dl'
      have hdm' : b ^ ((ds b n).length / 2) * hf b (n + 1) + (n + 1) % b ^ ((ds b n).length / 2) = n + 1 := by
        unfold hf
        rw [hl]
        exact Nat.div_add_mod (n + 1) _
      have hml' : (n + 1) % b ^ ((ds b n).length / 2) < b ^ ((ds b n).length / 2) := Nat.mod_lt _ hp
      rw [e1, e2]
      generalize hq : b ^ ((ds b n).length / 2) = q at *
      by_cases hs : hf b (n + 1) = hf b n
      · rw [hs]
        by_cases hpn : pal b n = true
        · have := pm.mp hpn
          rw [if_pos hpn, this, if_pos (by omega), if_neg (by omega)]
        · have : made b (hf b n) (ds b n).length ≠ n := fun z => hpn (pm.mpr z)
          rw [if_neg hpn]
          by_cases hlt : made b (hf b n) (ds b n).length < n
          · rw [if_pos hlt, if_pos (by omega)]
          · rw [if_neg hlt, if_neg (by omega)]
      · have hs2 : hf b (n + 1) = hf b n + 1 := by
          have g1 : hf b n ≤ hf b (n + 1) := by
            have : hf b (n + 1) = (n + 1) / q := by rw [← hq]; unfold hf; rw [hl]
            have h2 : hf b n = n / q := by rw [← hq]; rfl
            rw [this, h2]
            exact Nat.div_le_div_right (by omega)
          have g2 : q * hf b (n + 1) < q * (hf b n + 2) := by
            rw [Nat.mul_add]
            omega
          have g3 := Nat.lt_of_mul_lt_mul_left g2
          omega
        rw [hs2] at hdm' er' ⊢
        rw [Nat.mul_add, Nat.mul_one] at hdm' er'
        have z0 : (n + 1) % q = 0 := by omega
        have c1 : ¬ made b (hf b n + 1) (ds b n).length < n + 1 := by omega
        rw [if_neg c1]
        by_cases hpn : pal b n = true
        · have := pm.mp hpn
          rw [if_pos hpn, if_neg (by omega)]
          omega
        · have : made b (hf b n) (ds b n).length ≠ n := fun z => hpn (pm.mpr z)
          rw [if_neg hpn, if_pos (by omega)]
          omega
    · -- a figure more
      have hb1 : n + 1 = b ^ (ds b n).length := by omega
      generalize hmm : (ds b n).length = m at *
      obtain ⟨k, rfl⟩ : ∃ k, m = k + 1 := ⟨m - 1, by omega⟩
      have hnp : n = b ^ (k + 1) - 1 := by omega
      have hpn : pal b n = true := by
        rw [hnp]
        exact pal_pred hb
      have hpm := pm.mp hpn
      have hl : (ds b (n + 1)).length = k + 2 := by
        rw [hb1]
        exact ds_len hb (Nat.le_refl _) (by rw [Nat.pow_succ b (k + 1)]; have : 0 < b ^ (k + 1) := Nat.pow_pos (by omega); have : b ^ (k + 1) * 2 ≤ b ^ (k + 1) * b := Nat.mul_le_mul_left _ hb; omega)
      have hh : hf b (n + 1) = b ^ ((k + 1) / 2) := by
        unfold hf
        rw [hl, hb1]
        rw [show b ^ (k + 1) = b ^ ((k + 1) / 2) * b ^ ((k + 2) / 2) by rw [← Nat.pow_add]; congr 1; omega]
        exact Nat.mul_div_cancel _ (Nat.pow_pos (by omega))
      have hlo : lo b (k + 2) = b ^ ((k + 1) / 2) := by
        unfold lo
        rw [if_neg (by omega)]
        rfl
      have hcl := cnt_lo (b := b) (m := k + 1) hb (by omega)
      have hhn : hf b n + 1 = b ^ ((k + 1 + 1) / 2) := by
        have g : hf b n = (b ^ (k + 1) - 1) / b ^ ((k + 1) / 2) := by
          unfold hf
          rw [hmm, ← hnp]
        have e : b ^ (k + 1) = b ^ ((k + 1 + 1) / 2) * b ^ ((k + 1) / 2) := by
          rw [← Nat.pow_add]
          congr 1
          omega
        have p1 : 0 < b ^ ((k + 1 + 1) / 2) := Nat.pow_pos (by omega)
        have p2 : 0 < b ^ ((k + 1) / 2) := Nat.pow_pos (by omega)
        rw [g, e]
        have : (b ^ ((k + 1 + 1) / 2) * b ^ ((k + 1) / 2) - 1) / b ^ ((k + 1) / 2) = b ^ ((k + 1 + 1) / 2) - 1 := by
          refine Nat.div_eq_of_lt_le ?_ ?_
          · rw [Nat.sub_mul, Nat.one_mul]
            omega
          · rw [show b ^ ((k + 1 + 1) / 2) - 1 + 1 = b ^ ((k + 1 + 1) / 2) by omega]
            have : 0 < b ^ ((k + 1 + 1) / 2) * b ^ ((k + 1) / 2) := Nat.mul_pos p1 p2
            omega
        rw [this]
        omega
      have dl' := hf_len hb (n + 1)
      rw [hl] at dl'
      obtain ⟨r', er', hr'⟩ := made_form hb (show 0 < k + 2 by omega) dl'
      have big : ¬ made b (hf b (n + 1)) (k + 2) < n + 1 := by
        rw [er', hh, hb1]
        rw [← Nat.pow_add, show (k + 2) / 2 + (k + 1) / 2 = k + 1 by omega]
        omega
      have e1 : bl b (n + 1) = sm b (k + 2) + (hf b (n + 1) - lo b (k + 2)) + 0 := by
        unfold bl
        rw [if_neg (by omega), hl, if_neg big]
      have e2 : bl b n = sm b (k + 1) + (hf b n - lo b (k + 1)) + 0 := by
        unfold bl
        rw [if_neg (by omega), hmm, hpm, if_neg (by omega)]
      have e3 : sm b (k + 2) = sm b (k + 1) + cnt b (k + 1) := by
        show sm b (k + 1) + (if k + 1 = 0 then 0 else cnt b (k + 1)) = _
        rw [if_neg (by omega)]
      rw [e1, e2, e3, hh, hlo, if_pos hpn]
      omega
/-! the number of a count -/
def nbF (b : Nat) : Nat → Nat → Nat → Nat
  | 0, m, l => made b (b ^ ((m - 1) / 2) + l) m
  | f + 1, m, l => if cnt b m - (if m = 1 then 1 else 0) ≤ l then nbF b f (m + 1) (l - (cnt b m - (if m = 1 then 1 else 0))) else made b (b ^ ((m - 1) / 2) + l) m
def nb (b a : Nat) : Nat := if a = 0 then 0 else nbF b a 1 (a - 1)
theorem cnt_pos {b m : Nat} (hb : 2 ≤ b) : 1 ≤ cnt b m - (if m = 1 then 1 else 0) := by
  unfold cnt
  by_cases h : m = 1
  · rw [if_pos h, if_pos h]
    omega
  · rw [if_neg h, if_neg h]
    have : 1 * 1 ≤ (b - 1) * b ^ ((m - 1) / 2) := Nat.mul_le_mul (by omega) (Nat.pow_pos (by omega))
    omega
theorem bl_made {b h m : Nat} (hb : 2 ≤ b) (hm : 0 < m) (h1 : lo b m ≤ h) (h2 : h < b ^ ((m + 1) / 2)) (h0 : 0 < h) : bl b (made b h m) = sm b m + (h - lo b m) ∧ pal b (made b h m) = true ∧ (ds b (made b h m)).length = m ∧ 0 < made b h m := by
  have hd : (ds b h).length = (m + 1) / 2 := by
    by_cases e : m = 1
    · subst e
      have : h < b := by simpa using h2
      rw [ds_lo this]
      rfl
    · unfold lo at h1
      rw [if_neg e] at h1
      have := ds_len hb (m := (m - 1) / 2) h1 (by rw [show (m - 1) / 2 + 1 = (m + 1) / 2 by omega]; exact h2)
      omega
  have hl := made_len hb hm hd (Or.inr h0)
  have hp := made_pal hb hm hd (Or.inr h0)
  have hv := made_div hb hm hd
  obtain ⟨r, er, hr⟩ := made_form hb hm hd
  have hpos : 0 < made b h m := by
    have : 1 * 1 ≤ b ^ (m / 2) * h := Nat.mul_le_mul (Nat.pow_pos (by omega)) h0
    omega
  have hh : hf b (made b h m) = h := by
    unfold hf
    rw [hl]
    exact hv
  refine ⟨?_, hp, hl, hpos⟩
  unfold bl
  rw [if_neg (by omega), hl, hh, if_neg (by omega)]
  rfl
theorem nbF_ok {b : Nat} (hb : 2 ≤ b) : ∀ f m l, 0 < m → l < f + 1 → ∃ m' l', 0 < m' ∧ nbF b f m l = made b (b ^ ((m' - 1) / 2) + l') m' ∧ l' + (if m' = 1 then 1 else 0) < cnt b m' ∧ sm b m' + l' + (if m' = 1 then 1 else 0) = sm b m + l + (if m = 1 then 1 else 0)
  | 0, m, l, hm, hl => by
    have := cnt_pos (m := m) hb
    exact ⟨m, l, hm, rfl, by split <;> simp_all <;> omega, rfl⟩
  | f + 1, m, l, hm, hl => by
    have hc := cnt_pos (m := m) hb
    unfold nbF
    by_cases h : cnt b m - (if m = 1 then 1 else 0) ≤ l
    · rw [if_pos h]
      obtain ⟨m', l', a1, a2, a3, a4⟩ := nbF_ok hb f (m + 1) (l - (cnt b m - (if m = 1 then 1 else 0))) (by omega) (by omega)
      refine ⟨m', l', a1, a2, a3, ?_⟩
      rw [a4]
      show sm b m + (if m = 0 then 0 else cnt b m) + _ + _ = _
      rw [if_neg (by omega), if_neg (show ¬ m + 1 = 1 by omega)]
      by_cases e : m = 1
      · rw [if_pos e] at h hc ⊢
        omega
      · rw [if_neg e] at h hc ⊢
        omega
    · rw [if_neg h]
      exact ⟨m, l, hm, rfl, by omega, rfl⟩
theorem nb_ok {b : Nat} (hb : 2 ≤ b) (a : Nat) : bl b (nb b a) = a ∧ pal b (nb b a) = true := by
  unfold nb
  by_cases h : a = 0
  · rw [if_pos h, h]
    exact ⟨rfl, pal_lo (by omega)⟩
  · rw [if_neg h]
    obtain ⟨m, l, hm, e, h1, h2⟩ := nbF_ok hb a 1 (a - 1) (by omega) (by omega)
    rw [e]
    have hcl := cnt_lo (b := b) (m := m) hb hm
    have p : 0 < b ^ ((m - 1) / 2) := Nat.pow_pos (by omega)
    have hlo : lo b m + (if m = 1 then 1 else 0) = b ^ ((m - 1) / 2) := by
      unfold lo
      by_cases z : m = 1
      · subst z
        rfl
      · rw [if_neg z, if_neg z]
        rfl
    obtain ⟨q1, q2, q3, q4⟩ := bl_made (b := b) (h := b ^ ((m - 1) / 2) + l) (m := m) hb hm (by omega) (by omega) (by omega)
    refine ⟨?_, q2⟩
    rw [q1]
    have : sm b 1 = 0 := rfl
    rw [this, if_pos rfl] at h2
    omega
/-! what follows: bl counts, nb numbers -/
theorem bl_mono {b : Nat} (hb : 2 ≤ b) {m n : Nat} (h : m ≤ n) : bl b m ≤ bl b n := by
  induction h with
  | refl => exact Nat.le_refl _
  | step _ ih =>
    rw [bl_succ hb]
    omega
theorem bl_lt {b : Nat} (hb : 2 ≤ b) {m n : Nat} (h : m < n) (hp : pal b m = true) : bl b m < bl b n := by
  have h1 := bl_mono hb (show m + 1 ≤ n from h)
  rw [bl_succ hb, if_pos hp] at h1
  omega
theorem nb_lt {b : Nat} (hb : 2 ≤ b) {i j : Nat} (h : i < j) : nb b i < nb b j := by
  rcases Nat.lt_or_ge (nb b i) (nb b j) with g | g
  · exact g
  · have := bl_mono hb g
    rw [(nb_ok hb i).1, (nb_ok hb j).1] at this
    omega
theorem nb_bl {b : Nat} (hb : 2 ≤ b) {n : Nat} (hp : pal b n = true) : nb b (bl b n) = n := by
  have h := (nb_ok hb (bl b n)).1
  have q := (nb_ok hb (bl b n)).2
  rcases Nat.lt_trichotomy (nb b (bl b n)) n with g | g | g
  · have := bl_lt hb g q
    omega
  · exact g
  · have := bl_lt hb g hp
    omega
theorem bl_zero (b : Nat) : bl b 0 = 0 := rfl
/-- the numbers below n that read alike -/
def pals (b n : Nat) : List Nat := (List.range n).filter (pal b)
theorem pals_len {b : Nat} (hb : 2 ≤ b) : ∀ n, (pals b n).length = bl b n
  | 0 => rfl
  | n + 1 => by
    have ih := pals_len hb n
    unfold pals at ih ⊢
    rw [List.range_succ, List.filter_append, List.length_append, ih, bl_succ hb, List.filter_cons]
    by_cases h : pal b n = true
    · rw [if_pos h, if_pos h]
      rfl
    · rw [if_neg h, if_neg h]
      rfl
end Bm
namespace Bm
theorem nbF_eq {b : Nat} (hb : 2 ≤ b) : ∀ f g m l, l ≤ f → l ≤ g → nbF b f m l = nbF b g m l
  | 0, 0, m, l, _, _ => rfl
  | 0, g + 1, m, l, h, _ => by
    have hc := cnt_pos (m := m) hb
    have : l = 0 := by omega
    subst this
    unfold nbF
    rw [if_neg (by omega)]
  | f + 1, 0, m, l, _, h => by
    have hc := cnt_pos (m := m) hb
    have : l = 0 := by omega
    subst this
    unfold nbF
    rw [if_neg (by omega)]
  | f + 1, g + 1, m, l, h1, h2 => by
    have hc := cnt_pos (m := m) hb
    unfold nbF
    by_cases h : cnt b m - (if m = 1 then 1 else 0) ≤ l
    · rw [if_pos h, if_pos h, nbF_eq hb f g _ _ (by omega) (by omega)]
    · rw [if_neg h, if_neg h]
def nbG (b m l : Nat) : Nat := nbF b l m l
theorem nbG_lo {b m l : Nat} (hb : 2 ≤ b) (h : l < cnt b m - (if m = 1 then 1 else 0)) : nbG b m l = made b (b ^ ((m - 1) / 2) + l) m := by
  unfold nbG
  cases l with
  | zero => rfl
  | succ k =>
    unfold nbF
    rw [if_neg (by omega)]
theorem nbG_hi {b m l : Nat} (hb : 2 ≤ b) (h : cnt b m - (if m = 1 then 1 else 0) ≤ l) : nbG b m l = nbG b (m + 1) (l - (cnt b m - (if m = 1 then 1 else 0))) := by
  have hc := cnt_pos (m := m) hb
  unfold nbG
  cases l with
  | zero => omega
  | succ k =>
    rw [show nbF b (k + 1) m (k + 1) = nbF b k (m + 1) (k + 1 - (cnt b m - (if m = 1 then 1 else 0))) by
      conv => lhs; unfold nbF
      rw [if_pos h]]
    exact nbF_eq hb _ _ _ _ (by omega) (by omega)
theorem nb_G {b a : Nat} (hb : 2 ≤ b) (h : 0 < a) : nb b a = nbG b 1 (a - 1) := by
  unfold nb nbG
  rw [if_neg (by omega)]
  exact nbF_eq hb _ _ _ _ (by omega) (by omega)
theorem sm_succ {b m : Nat} (hm : 0 < m) : sm b (m + 1) = sm b m + cnt b m := by
  show sm b m + (if m = 0 then 0 else cnt b m) = _
  rw [if_neg (by omega)]
theorem sm_ge {b m : Nat} (hb : 2 ≤ b) (hm : 2 ≤ m) : b ^ ((m - 2) / 2) ≤ sm b m := by
  obtain ⟨k, rfl⟩ : ∃ k, m = k + 2 := ⟨m - 2, by omega⟩
  rw [show k + 2 = (k + 1) + 1 from rfl, sm_succ (by omega)]
  have hc : b ^ (k / 2) ≤ cnt b (k + 1) := by
    unfold cnt
    by_cases h : k + 1 = 1
    · rw [if_pos h]
      have : k = 0 := by omega
      subst this
      simp
      omega
    · rw [if_neg h]
      have : 1 * b ^ (k / 2) ≤ (b - 1) * b ^ (k / 2) := Nat.mul_le_mul_right _ (by omega)
      rw [Nat.one_mul] at this
      exact this
  show b ^ (k / 2) ≤ _
  omega
theorem m_bound {b m e : Nat} (hb : 2 ≤ b) (h : sm b m < 2 ^ e) : m ≤ 2 * e + 1 := by
  rcases Nat.lt_or_ge m 2 with z | z
  · omega
  · have h1 := sm_ge hb z
    have h2 : 2 ^ ((m - 2) / 2) ≤ b ^ ((m - 2) / 2) := Nat.pow_le_pow_left hb _
    have := pow_lt (b := 2) (by omega) (Nat.lt_of_le_of_lt (Nat.le_trans h2 h1) h)
    omega
theorem sm_le_bl {b n : Nat} (hn : 0 < n) : sm b (ds b n).length ≤ bl b n := by
  unfold bl
  rw [if_neg (by omega)]
  omega
theorem size_of_bl {b n : Nat} (hb : 2 ≤ b) (hb2 : b ≤ 1000) (h : bl b n < 2 ^ 700) : n < 2 ^ 14010 := by
  rcases Nat.eq_zero_or_pos n with z | z
  · subst z
    exact Nat.pow_pos (by decide)
  · have h1 := m_bound hb (Nat.lt_of_le_of_lt (sm_le_bl z) h)
    have h2 := ds_up hb n
    have h3 : b ^ (ds b n).length ≤ 1024 ^ (ds b n).length := Nat.pow_le_pow_left (by omega) _
    have h4 : (1024 : Nat) ^ (ds b n).length ≤ 1024 ^ 1401 := Nat.pow_le_pow_right (by decide) (by omega)
    have h5 : (1024 : Nat) ^ 1401 = 2 ^ (10 * 1401) := by rw [Nat.pow_mul]
    rw [h5] at h4
    exact Nat.lt_of_lt_of_le h2 (Nat.le_trans h3 h4)
theorem pow_le_two {b m : Nat} (hb2 : b ≤ 1000) : b ^ m ≤ 2 ^ (10 * m) := by
  rw [Nat.pow_mul]
  exact Nat.pow_le_pow_left (by omega) _
theorem bl_pow {b m : Nat} (hb : 2 ≤ b) (hm : 0 < m) : bl b (b ^ m) = sm b (m + 1) := by
  have p : 0 < b ^ m := Nat.pow_pos (by omega)
  have hl : (ds b (b ^ m)).length = m + 1 := ds_len hb (Nat.le_refl _) (by
    rw [Nat.pow_succ]
    have : b ^ m * 2 ≤ b ^ m * b := Nat.mul_le_mul_left _ hb
    omega)
  have hh : hf b (b ^ m) = b ^ (m / 2) := by
    unfold hf
    rw [hl]
    rw [show b ^ m = b ^ (m / 2) * b ^ ((m + 1) / 2) by rw [← Nat.pow_add]; congr 1; omega]
    exact Nat.mul_div_cancel _ (Nat.pow_pos (by omega))
  have hlo : lo b (m + 1) = b ^ (m / 2) := by
    unfold lo
    rw [if_neg (by omega)]
    rfl
  have dl' := hf_len hb (b ^ m)
  rw [hl] at dl'
  obtain ⟨r', er', hr'⟩ := made_form hb (show 0 < m + 1 by omega) dl'
  have big : ¬ made b (hf b (b ^ m)) (m + 1) < b ^ m := by
    rw [er', hh, ← Nat.pow_add, show (m + 1) / 2 + m / 2 = m by omega]
    omega
  unfold bl
  rw [if_neg (by omega), hl, if_neg big, hh, hlo]
  omega
theorem hf_val {b : Nat} (hb : 2 ≤ b) (n : Nat) : val b ((fig b n).take (((ds b n).length + 1) / 2)) = hf b n := by
  have e : (fig b n).take (((ds b n).length + 1) / 2) = ((ds b n).drop ((ds b n).length / 2)).reverse := by
    unfold fig
    rw [List.take_reverse]
    congr 2
    omega
  rw [e, val_vl, ← hf_ds hb, vl_ds hb]
end Bm
namespace Bm
theorem bl_form {b : Nat} (hb : 2 ≤ b) {n : Nat} (hp : pal b n = true) : bl b n + lo b (ds b n).length = sm b (ds b n).length + hf b n := by
  rcases Nat.eq_zero_or_pos n with z | z
  · subst z
    have e : ds b 0 = [0] := ds_lo (by omega)
    have h0 : hf b 0 = 0 := by unfold hf; rw [Nat.zero_div]
    rw [h0, e, bl_zero]
    rfl
  · have h1 := lo_le hb z
    have h2 := (pal_made hb n).mp hp
    unfold bl
    rw [if_neg (by omega), if_neg (by omega)]
    omega
theorem half_next {b : Nat} (hb : 2 ≤ b) (a : Nat) (h : (ds b (nb b a)).length = (ds b (nb b (a + 1))).length) : hf b (nb b (a + 1)) = hf b (nb b a) + 1 := by
  have h1 := bl_form hb (nb_ok hb a).2
  have h2 := bl_form hb (nb_ok hb (a + 1)).2
  rw [(nb_ok hb a).1] at h1
  rw [(nb_ok hb (a + 1)).1, ← h] at h2
  omega
theorem mid_bl {b : Nat} (hb : 2 ≤ b) (a x : Nat) (h1 : nb b a < x) (h2 : x ≤ nb b (a + 1)) : bl b x = a + 1 := by
  have e1 := bl_mono hb (show nb b a + 1 ≤ x from h1)
  have e2 := bl_mono hb h2
  rw [bl_succ hb, (nb_ok hb a).1, if_pos (nb_ok hb a).2] at e1
  rw [(nb_ok hb (a + 1)).1] at e2
  omega
theorem ds_len_le {b m n : Nat} (hb : 2 ≤ b) (h : m ≤ n) : (ds b m).length ≤ (ds b n).length := by
  rcases Nat.eq_zero_or_pos m with z | z
  · subst z
    rw [ds_lo (by omega)]
    exact ds_pos hb n
  · have h1 := ds_dn hb m z
    have h2 := ds_up hb n
    have := pow_lt hb (Nat.lt_of_le_of_lt h1 (Nat.lt_of_le_of_lt h h2))
    omega
theorem ds_shift {b n : Nat} (hb : 2 ≤ b) (hn : 0 < n) (d : Nat) (hd : d < b) : ds b (b * n + d) = d :: ds b n := by
  have : b * 1 ≤ b * n := Nat.mul_le_mul_left b hn
  rw [ds_hi hb (by omega), Nat.mul_add_mod, Nat.mod_eq_of_lt hd, Nat.mul_add_div (by omega), Nat.div_eq_of_lt hd, Nat.add_zero]
theorem ds_pow {b : Nat} (hb : 2 ≤ b) : ∀ m, ds b (b ^ m) = List.replicate m 0 ++ [1]
  | 0 => by
    rw [Nat.pow_zero, ds_lo (by omega)]
    rfl
  | m + 1 => by
    have p : 0 < b ^ m := Nat.pow_pos (by omega)
    rw [Nat.pow_succ, Nat.mul_comm, ← Nat.add_zero (b * b ^ m), ds_shift hb p 0 (by omega), ds_pow hb m]
    rfl
theorem pal_pow {b m : Nat} (hb : 2 ≤ b) (hm : 0 < m) : pal b (b ^ m) = false := by
  obtain ⟨k, rfl⟩ : ∃ k, m = k + 1 := ⟨m - 1, by omega⟩
  unfold pal
  rw [ds_pow hb, decide_eq_false_iff_not, List.reverse_append]
  intro h
  have := congrArg List.head? h
  simp [List.replicate_succ] at this
theorem pal_pow_succ {b m : Nat} (hb : 2 ≤ b) (hm : 0 < m) : pal b (b ^ m + 1) = true := by
  obtain ⟨k, rfl⟩ : ∃ k, m = k + 1 := ⟨m - 1, by omega⟩
  have p : 0 < b ^ k := Nat.pow_pos (by omega)
  unfold pal
  rw [Nat.pow_succ, Nat.mul_comm, ds_shift hb p 1 (by omega), ds_pow hb k]
  simp
theorem bl_pow_succ {b m : Nat} (hb : 2 ≤ b) (hm : 0 < m) : bl b (b ^ m + 1) = sm b (m + 1) := by
  rw [bl_succ hb, pal_pow hb hm, bl_pow hb hm]
  rfl
theorem nb_pow_succ {b m : Nat} (hb : 2 ≤ b) (hm : 0 < m) : nb b (sm b (m + 1)) = b ^ m + 1 := by
  rw [← bl_pow_succ hb hm, nb_bl hb (pal_pow_succ hb hm)]
theorem bl_pow_pred {b m : Nat} (hb : 2 ≤ b) (hm : 0 < m) : bl b (b ^ m - 1) + 1 = sm b (m + 1) := by
  obtain ⟨k, rfl⟩ : ∃ k, m = k + 1 := ⟨m - 1, by omega⟩
  have p : 0 < b ^ (k + 1) := Nat.pow_pos (by omega)
  have := bl_succ hb (b ^ (k + 1) - 1)
  rw [pal_pred hb, if_pos rfl, show b ^ (k + 1) - 1 + 1 = b ^ (k + 1) by omega, bl_pow hb hm] at this
  exact this.symm
theorem nb_pow_pred {b m : Nat} (hb : 2 ≤ b) (hm : 0 < m) : nb b (sm b (m + 1) - 1) = b ^ m - 1 := by
  obtain ⟨k, rfl⟩ : ∃ k, m = k + 1 := ⟨m - 1, by omega⟩
  rw [← bl_pow_pred hb hm, Nat.add_sub_cancel, nb_bl hb (pal_pred hb)]
/-- where the next one has more figures -/
theorem next_longer {b : Nat} (hb : 2 ≤ b) (a : Nat) (h : (ds b (nb b a)).length ≠ (ds b (nb b (a + 1))).length) :
    nb b a = b ^ (ds b (nb b a)).length - 1 ∧ nb b (a + 1) = b ^ (ds b (nb b a)).length + 1 := by
  have hlt := nb_lt hb (show a < a + 1 by omega)
  have hl := ds_len_le hb (Nat.le_of_lt hlt)
  generalize hm : (ds b (nb b a)).length = m at *
  have hmp : 0 < m := by rw [← hm]; exact ds_pos hb _
  obtain ⟨k, rfl⟩ : ∃ k, m = k + 1 := ⟨m - 1, by omega⟩
  have up := ds_up hb (nb b a)
  rw [hm] at up
  have p : 0 < b ^ (k + 1) := Nat.pow_pos (by omega)
  have dn := ds_dn hb (nb b (a + 1)) (by omega)
  have dn2 : b ^ (k + 1) ≤ nb b (a + 1) := Nat.le_trans (Nat.pow_le_pow_right (by omega) (by omega)) dn
  have e1 : nb b a = b ^ (k + 1) - 1 := by
    rcases Nat.lt_or_ge (nb b a) (b ^ (k + 1) - 1) with z | z
    · have g := mid_bl hb a (b ^ (k + 1) - 1) z (by omega)
      have q := bl_lt hb (show b ^ (k + 1) - 1 < nb b (a + 1) by omega) (pal_pred hb)
      rw [g, (nb_ok hb (a + 1)).1] at q
      omega
    · omega
  refine ⟨e1, ?_⟩
  have e2 : a + 1 = sm b (k + 1 + 1) := by
    have g := bl_pow_pred hb hmp
    rw [← e1, (nb_ok hb a).1] at g
    exact g
  rw [e2, nb_pow_succ hb hmp]
end Bm
namespace Bm
/-! crossed: rows of figures, all numbers tried -/
def mn (a b : Nat) : Nat := if b < a then b else a
def rws (L : Nat) : Nat → List (List Nat)
  | 0 => [[]]
  | m + 1 => (rws L m).flatMap fun r => (List.range L).map fun d => r ++ [d]
def cnd (m a b : Nat) (r : List Nat) : Bool := (decide (m = 1) || decide (0 < r.getD 0 0 * r.getD (r.length - 1) 0)) && decide (val a r = val b r.reverse)
def fnd (m a b : Nat) : List Nat := ((rws (mn a b) m).filter (cnd m a b)).map (val a)
def due (m a b : Nat) : List Nat := (List.range (mn a b ^ m)).filter fun n => decide ((fig a n).length = m) && decide ((fig a n).reverse = fig b n)
theorem cross_all : ∀ m : Fin 3, ∀ a : Fin 11, ∀ b : Fin 11, (fnd (m.val + 1) (a.val + 2) (b.val + 2) == due (m.val + 1) (a.val + 2) (b.val + 2)) = true := by decide +kernel
end Bm
namespace Bm
theorem cross_ok {m a b : Nat} (hm : 1 ≤ m ∧ m ≤ 3) (ha : 2 ≤ a ∧ a ≤ 12) (hb : 2 ≤ b ∧ b ≤ 12) : fnd m a b = due m a b := by
  have h := cross_all ⟨m - 1, by omega⟩ ⟨a - 2, by omega⟩ ⟨b - 2, by omega⟩
  have e1 : m - 1 + 1 = m := by omega
  have e2 : a - 2 + 2 = a := by omega
  have e3 : b - 2 + 2 = b := by omega
  have h2 : (fnd (m - 1 + 1) (a - 2 + 2) (b - 2 + 2) == due (m - 1 + 1) (a - 2 + 2) (b - 2 + 2)) = true := h
  rw [e1, e2, e3] at h2
  exact eq_of_beq h2
theorem due_swap {m a b : Nat} : due m a b = due m b a := by
  have e : mn a b = mn b a := by
    unfold mn
    split <;> split <;> omega
  unfold due
  rw [e]
  congr 1
  funext n
  apply Bool.eq_iff_iff.mpr
  simp only [Bool.and_eq_true, decide_eq_true_eq]
  constructor
  · rintro ⟨h1, h2⟩
    refine ⟨?_, ?_⟩
    · rw [← h2, List.length_reverse]
      exact h1
    · rw [← h2, List.reverse_reverse]
  · rintro ⟨h1, h2⟩
    refine ⟨?_, ?_⟩
    · rw [← h2, List.length_reverse]
      exact h1
    · rw [← h2, List.reverse_reverse]
theorem due_sorted (m a b : Nat) : (due m a b).Pairwise (· < ·) := List.Pairwise.filter _ List.pairwise_lt_range
theorem rws_mem {L : Nat} : ∀ {m : Nat} {r : List Nat}, r ∈ rws L m → r.length = m ∧ ∀ d ∈ r, d < L
  | 0, r, h => by
    have : r = [] := by simpa [rws] using h
    subst this
    exact ⟨rfl, fun d hd => absurd hd List.not_mem_nil⟩
  | m + 1, r, h => by
    unfold rws at h
    rw [List.mem_flatMap] at h
    obtain ⟨r', h1, h2⟩ := h
    rw [List.mem_map] at h2
    obtain ⟨d, h3, rfl⟩ := h2
    obtain ⟨h4, h5⟩ := rws_mem h1
    refine ⟨by rw [List.length_append, h4]; rfl, fun e he => ?_⟩
    rcases List.mem_append.mp he with z | z
    · exact h5 e z
    · rw [List.mem_singleton.mp z]
      exact List.mem_range.mp h3
theorem flat_len {α β : Type} {L : Nat} (f : α → List β) (hf : ∀ x, (f x).length = L) : ∀ l : List α, (l.flatMap f).length = l.length * L
  | [] => by simp
  | x :: l => by
    rw [List.flatMap_cons, List.length_append, hf, flat_len f hf l, List.length_cons, Nat.add_mul]
    omega
theorem rws_len (L : Nat) : ∀ m, (rws L m).length = L ^ m
  | 0 => rfl
  | m + 1 => by
    unfold rws
    rw [flat_len _ (L := L) (fun r => by rw [List.length_map, List.length_range]), rws_len L m, Nat.pow_succ]
end Bm

set_option maxHeartbeats 4000000
namespace Bt
open PySem PySem.Spec PyProof.Rows L2 Evl
section
variable {X : Cx}
theorem op_mulX : OpR X (binaryOp .Mult) (rI IntMulOk fun i j => .int (i * j)) := opI fun _ _ _ _ _ _ _ hc q => mul_int q hc
end
theorem mulL {i j : Int} (h1 : -(2 ^ 64) < i) (h2 : i < 2 ^ 64) : IntMulOk i j := IntMulOk.of_left (intBits_le_64 h1 h2)
theorem mulR {i j : Int} (h1 : -(2 ^ 64) < j) (h2 : j < 2 ^ 64) : IntMulOk i j := IntMulOk.of_right (intBits_le_64 h1 h2)
/-! promises by the arguments' kinds -/
def spI1 (C : Int → Prop) (f : Int → V) : Sp := fun vs H Q _ => ∃ a, vs = [.int a] ∧ C a ∧ RetV (f a) H Q
def spI2 (C : Int → Int → Prop) (f : Int → Int → V) : Sp := fun vs H Q _ => ∃ a b, vs = [.int a, .int b] ∧ C a b ∧ RetV (f a b) H Q
def spI3 (C : Int → Int → Int → Prop) (f : Int → Int → Int → V) : Sp := fun vs H Q _ => ∃ a b c, vs = [.int a, .int b, .int c] ∧ C a b c ∧ RetV (f a b c) H Q
def spL2 (C : Int → Int → Prop) (f : Int → Int → List V) : Sp := fun vs H Q _ => ∃ a b, vs = [.int a, .int b] ∧ C a b ∧ RetL (f a b) H Q
def spL3 (C : Int → Int → Int → Prop) (f : Int → Int → Int → List V) : Sp := fun vs H Q _ => ∃ a b c, vs = [.int a, .int b, .int c] ∧ C a b c ∧ RetL (f a b c) H Q
def spL4 (C : Int → Int → Int → Int → Prop) (f : Int → Int → Int → Int → List V) : Sp := fun vs H Q _ => ∃ a b c d, vs = [.int a, .int b, .int c, .int d] ∧ C a b c d ∧ RetL (f a b c d) H Q
/-- a list of ints and an int -/
def spR (K : PySem.W.Frag) (C : List Int → Int → Prop) (f : List Int → Int → V) : Sp := fun vs H Q _ => ∃ (p : Addr) (xs : List Int) (b : Int), vs = [.ref p, .int b] ∧ SqL K H p (xs.map V.int) ∧ C xs b ∧ RetV (f xs b) H Q
section
variable {K : PySem.W.Frag} {σ : L2.St} {H H' : Hp} {ta tb te tx : TE} {t u : TT} {x y z v : V} {D : Ends} {tu tw tz : TS} {g : TG}
theorem sv1 {C : Int → Prop} {f : Int → V} {a : Int} (h : C a) : SpV (spI1 C f) [.int a] H (f a) := fun _ _ _ q _ => ⟨a, rfl, h, q⟩
theorem sv2 {C : Int → Int → Prop} {f : Int → Int → V} {a b : Int} (h : C a b) : SpV (spI2 C f) [.int a, .int b] H (f a b) := fun _ _ _ q _ => ⟨a, b, rfl, h, q⟩
theorem sv3 {C : Int → Int → Int → Prop} {f : Int → Int → Int → V} {a b c : Int} (h : C a b c) : SpV (spI3 C f) [.int a, .int b, .int c] H (f a b c) := fun _ _ _ q _ => ⟨a, b, c, rfl, h, q⟩
theorem sl2 {C : Int → Int → Prop} {f : Int → Int → List V} {a b : Int} (h : C a b) : SpL (spL2 C f) [.int a, .int b] H (f a b) := fun _ _ _ q _ => ⟨a, b, rfl, h, q⟩
theorem sl3 {C : Int → Int → Int → Prop} {f : Int → Int → Int → List V} {a b c : Int} (h : C a b c) : SpL (spL3 C f) [.int a, .int b, .int c] H (f a b c) := fun _ _ _ q _ => ⟨a, b, c, rfl, h, q⟩
theorem sl4 {C : Int → Int → Int → Int → Prop} {f : Int → Int → Int → Int → List V} {a b c d : Int} (h : C a b c d) : SpL (spL4 C f) [.int a, .int b, .int c, .int d] H (f a b c d) := fun _ _ _ q _ => ⟨a, b, c, d, rfl, h, q⟩
theorem svR {C : List Int → Int → Prop} {f : List Int → Int → V} {p : Addr} {xs : List Int} {b : Int} (hs : SqL K H p (xs.map V.int)) (h : C xs b) : SpV (spR K C f) [.ref p, .int b] H (f xs b) := fun _ e _ q _ => ⟨p, xs, b, rfl, ex_l e hs, h, q⟩
/-! calls by their argument's readings -/
variable {E : XK}
theorem ec1 {C : Int → Prop} {f : Int → V} {a : Int} (h1 : Ev ta σ H (.int a)) (h : C a) : Ev (tCall (spI1 C f) [] E (tCons ta tNil)) σ H (f a) := ev_call (ea_cons h1 ea_nil) (sv1 h)
theorem ec2 {C : Int → Int → Prop} {f : Int → Int → V} {a b : Int} (h1 : Ev ta σ H (.int a)) (h2 : Ev tb σ H (.int b)) (h : C a b) : Ev (tCall (spI2 C f) [] E (tCons ta (tCons tb tNil))) σ H (f a b) := ev_call (ea_cons h1 (ea_cons h2 ea_nil)) (sv2 h)
theorem ec3 {tc : TE} {C : Int → Int → Int → Prop} {f : Int → Int → Int → V} {a b c : Int} (h1 : Ev ta σ H (.int a)) (h2 : Ev tb σ H (.int b)) (h3 : Ev tc σ H (.int c)) (h : C a b c) : Ev (tCall (spI3 C f) [] E (tCons ta (tCons tb (tCons tc tNil)))) σ H (f a b c) := ev_call (ea_cons h1 (ea_cons h2 (ea_cons h3 ea_nil))) (sv3 h)
theorem el2 {C : Int → Int → Prop} {f : Int → Int → List V} {a b : Int} (h1 : Ev ta σ H (.int a)) (h2 : Ev tb σ H (.int b)) (h : C a b) : EvL (tCall (spL2 C f) [] E (tCons ta (tCons tb tNil))) σ H (f a b) := el_call (ea_cons h1 (ea_cons h2 ea_nil)) (sl2 h)
theorem el3 {tc : TE} {C : Int → Int → Int → Prop} {f : Int → Int → Int → List V} {a b c : Int} (h1 : Ev ta σ H (.int a)) (h2 : Ev tb σ H (.int b)) (h3 : Ev tc σ H (.int c)) (h : C a b c) : EvL (tCall (spL3 C f) [] E (tCons ta (tCons tb (tCons tc tNil)))) σ H (f a b c) := el_call (ea_cons h1 (ea_cons h2 (ea_cons h3 ea_nil))) (sl3 h)
theorem el4 {tc td : TE} {C : Int → Int → Int → Int → Prop} {f : Int → Int → Int → Int → List V} {a b c d : Int} (h1 : Ev ta σ H (.int a)) (h2 : Ev tb σ H (.int b)) (h3 : Ev tc σ H (.int c)) (h4 : Ev td σ H (.int d)) (h : C a b c d) : EvL (tCall (spL4 C f) [] E (tCons ta (tCons tb (tCons tc (tCons td tNil))))) σ H (f a b c d) := el_call (ea_cons h1 (ea_cons h2 (ea_cons h3 (ea_cons h4 ea_nil)))) (sl4 h)
theorem ecR {C : List Int → Int → Prop} {f : List Int → Int → V} {p : Addr} {xs : List Int} {b : Int} (h1 : Ev ta σ H (.ref p)) (hs : SqL K H p (xs.map V.int)) (h2 : Ev tb σ H (.int b)) (h : C xs b) : Ev (tCall (spR K C f) [] E (tCons ta (tCons tb tNil))) σ H (f xs b) := ev_call (ea_cons h1 (ea_cons h2 ea_nil)) (svR hs h)
theorem ecRN {C : List Int → Int → Prop} {f : List Int → Int → V} {xs : List Int} {b : Int} (h1 : EvL ta σ H (xs.map V.int)) (h2 : Ev tb σ H (.int b)) (h : C xs b) : Ev (tCall (spR K C f) [] E (tCons ta (tCons tb tNil))) σ H (f xs b) := fun H1 e Q q =>
  h1 H1 e _ fun p H2 _ e2 hp => h2 H2 (e.trans e2) _ fun H3 e3 => ⟨p, xs, b, rfl, sq_of (e3 p _ hp), h, fun H4 e4 => q H4 ((e2.trans e3).trans e4)⟩
/-! lists -/
theorem el_rev {a : Addr} {xs : List V} (h : Ev te σ H (.ref a)) (hs : SqL K H a xs) : EvL (tRevL K te) σ H xs.reverse := fun H1 e Q q =>
  h H1 e _ fun H2 e2 => ⟨a, xs, rfl, ex_l (e.trans e2) hs, fun p hp => q p _ (fresh_back e2 hp) (e2.trans (Ex.new hp)) upd_same⟩
theorem el_revN {xs : List V} (h : EvL te σ H xs) : EvL (tRevL K te) σ H xs.reverse := fun H1 e Q q =>
  h H1 e _ fun a H2 _ e2 ha => ⟨a, xs, rfl, sq_of ha, fun p hp => q p _ (fresh_back e2 hp) (e2.trans (Ex.new hp)) upd_same⟩
theorem el_slN {tl th : TO} {xs : List V} {lo hi : Option Int} (h : EvL te σ H xs) (h1 : EvO tl σ H lo) (h2 : EvO th σ H hi) : EvL (tSl (rSlL K) te tl th) σ H (cutV xs lo hi) := fun H1 e _ q =>
  h H1 e _ fun a H2 _ e2 ha => h1 H2 (e.trans e2) _ fun H3 e3 => h2 H3 ((e.trans e2).trans e3) _ fun H4 e4 =>
    ⟨a, xs, rfl, sq_of (e4 a _ (e3 a _ ha)), fun p hp => q p _ (fresh_back ((e2.trans e3).trans e4) hp) (((e2.trans e3).trans e4).trans (Ex.new hp)) upd_same⟩
theorem rcl_cat {l b : Addr} {xs zs : List V} {H1 : Hp} {Q : VK} (hl : H1 l = some (.lst xs)) (hb : H1 b = some (.lst zs)) (hz : xs.length + zs.length ≤ 100000) (q : ∀ p H2, H1 p = none → Ex H1 H2 → H2 p = some (.lst (xs ++ zs)) → Q (.ref p) H2) : rCat (.ref l) (.ref b) H1 Q :=
  ⟨l, b, xs, zs, rfl, rfl, hl, hb, sz_of hz, fun p hp => q p _ hp (Ex.new hp) upd_same⟩
/-- two lists joined: the first, the second a variable's or a new one -/
theorem el_cat {l b : Addr} {xs zs : List V} (h1 : Ev ta σ H (.ref l)) (hl : H l = some (.lst xs)) (h2 : Ev tb σ H (.ref b)) (hb : H b = some (.lst zs)) (hz : xs.length + zs.length ≤ 100000) : EvL (tOp rCat ta tb) σ H (xs ++ zs) := fun H1 e Q q =>
  h1 H1 e _ fun H2 e2 => h2 H2 (e.trans e2) _ fun H3 e3 => rcl_cat (e3 l _ (e2 l _ (e l _ hl))) (e3 b _ (e2 b _ (e b _ hb))) hz fun p H4 hp e4 h4 => q p H4 (fresh_back (e2.trans e3) hp) ((e2.trans e3).trans e4) h4
theorem el_catN {l : Addr} {xs zs : List V} (h1 : Ev ta σ H (.ref l)) (hl : H l = some (.lst xs)) (h2 : EvL tb σ H zs) (hz : xs.length + zs.length ≤ 100000) : EvL (tOp rCat ta tb) σ H (xs ++ zs) := fun H1 e Q q =>
  h1 H1 e _ fun H2 e2 => h2 H2 (e.trans e2) _ fun b H3 _ e3 hb => rcl_cat (e3 l _ (e2 l _ (e l _ hl))) hb hz fun p H4 hp e4 h4 => q p H4 (fresh_back (e2.trans e3) hp) ((e2.trans e3).trans e4) h4
theorem el_catN1 {b : Addr} {xs zs : List V} (h1 : EvL ta σ H xs) (h2 : Ev tb σ H (.ref b)) (hb : H b = some (.lst zs)) (hz : xs.length + zs.length ≤ 100000) : EvL (tOp rCat ta tb) σ H (xs ++ zs) := fun H1 e Q q =>
  h1 H1 e _ fun l H2 _ e2 hl => h2 H2 (e.trans e2) _ fun H3 e3 => rcl_cat (e3 l _ hl) (e3 b _ (e2 b _ (e b _ hb))) hz fun p H4 hp e4 h4 => q p H4 (fresh_back (e2.trans e3) hp) ((e2.trans e3).trans e4) h4
theorem el_catNN {xs zs : List V} (h1 : EvL ta σ H xs) (h2 : EvL tb σ H zs) (hz : xs.length + zs.length ≤ 100000) : EvL (tOp rCat ta tb) σ H (xs ++ zs) := fun H1 e Q q =>
  h1 H1 e _ fun l H2 _ e2 hl => h2 H2 (e.trans e2) _ fun b H3 _ e3 hb => rcl_cat (e3 l _ hl) hb hz fun p H4 hp e4 h4 => q p H4 (fresh_back (e2.trans e3) hp) ((e2.trans e3).trans e4) h4
/-! == of lists of ints -/
theorem dp_ints (K : PySem.W.Frag) (H : Hp) : ∀ xs : List Int, DpAll K H (xs.map V.int) (xs.map PyData.int)
  | [] => .nil
  | x :: r => .cons (.int x) (dp_ints K H r)
theorem eqv_ints (xs ys : List Int) : PyData.eqv (.list (xs.map PyData.int)) (.list (ys.map PyData.int)) = decide (xs = ys) := by
  induction xs generalizing ys with
  | nil =>
    cases ys with
    | nil => rfl
    | cons y r => rfl
  | cons x r ih =>
    cases ys with
    | nil => rfl
    | cons y r2 =>
      have h := ih r2
      simp only [PyData.eqv] at h ⊢
      simp only [List.map_cons, PyData.eqvAll, PyData.eqv] at h ⊢
      rw [h]
      by_cases e : x = y
      · subst e
        simp
      · simp [e]
end
theorem shaped_ints (ns : List Int) : SeqAt.shaped (.list (ns.map PyData.int)) = true := by
  have h1 : ∀ l : List Int, PyData.canLayAll0 (l.map PyData.int) = true := fun l => by
    induction l with
    | nil => rfl
    | cons x r ih => simp [PyData.canLayAll0, PyData.canLay0, ih]
  have h2 : ∀ l : List Int, PyData.depthAll (l.map PyData.int) ≤ 1 := fun l => by
    induction l with
    | nil => simp [PyData.depthAll]
    | cons x r ih => simp [PyData.depthAll, PyData.depth]; omega
  unfold SeqAt.shaped
  have a1 := h1 ns
  have a2 := h2 ns
  have a3 : (PyData.list (ns.map PyData.int)).depth ≤ 64 := by
    simp only [PyData.depth]
    omega
  have a4 : (PyData.list (ns.map PyData.int)).canLay0 = true := by
    simp only [PyData.canLay0]
    exact a1
  rw [a4, decide_eq_true a3]
  rfl
section
variable {K : PySem.W.Frag} {σ : L2.St} {H H' : Hp} {ta tb te tx : TE} {t u : TT} {x y z v : V} {D : Ends} {tu tw tz : TS} {g : TG}
theorem rv_eqI {p q : Addr} {xs ys : List Int} (h1 : SqL K H p (xs.map V.int)) (h2 : SqL K H q (ys.map V.int)) : RV (rEqD K) (.ref p) (.ref q) H (.bl (decide (xs = ys))) := fun H1 e Q k =>
  ⟨_, _, .lst (ex_l e h1) (dp_ints K H1 xs), .lst (ex_l e h2) (dp_ints K H1 ys), shaped_ints xs, shaped_ints ys, by rw [eqv_ints]; exact k H1 (Ex.refl H1)⟩
theorem rv_neI {p q : Addr} {xs ys : List Int} (h1 : SqL K H p (xs.map V.int)) (h2 : SqL K H q (ys.map V.int)) : RV (rNeD K) (.ref p) (.ref q) H (.bl (!decide (xs = ys))) := fun H1 e Q k =>
  ⟨_, _, .lst (ex_l e h1) (dp_ints K H1 xs), .lst (ex_l e h2) (dp_ints K H1 ys), shaped_ints xs, shaped_ints ys, by rw [eqv_ints]; exact k H1 (Ex.refl H1)⟩
/-- == and != of lists of ints: V a variable's, N a new one -/
theorem ev_eqVV {p q : Addr} {xs ys : List Int} (ha : Ev ta σ H (.ref p)) (h1 : SqL K H p (xs.map V.int)) (hb : Ev tb σ H (.ref q)) (h2 : SqL K H q (ys.map V.int)) : Ev (tOp (rEqD K) ta tb) σ H (.bl (decide (xs = ys))) := ev_op ha hb (rv_eqI h1 h2)
theorem ev_eqVN {p : Addr} {xs ys : List Int} (ha : Ev ta σ H (.ref p)) (h1 : SqL K H p (xs.map V.int)) (hb : EvL tb σ H (ys.map V.int)) : Ev (tOp (rEqD K) ta tb) σ H (.bl (decide (xs = ys))) := ev_opL ha hb fun q H1 hq e => rv_eqI (ex_l e h1) (sq_of hq)
theorem ev_eqNV {q : Addr} {xs ys : List Int} (ha : EvL ta σ H (xs.map V.int)) (hb : Ev tb σ H (.ref q)) (h2 : SqL K H q (ys.map V.int)) : Ev (tOp (rEqD K) ta tb) σ H (.bl (decide (xs = ys))) := ev_opL1 ha (fun H1 e => hb.mono e) fun p H1 hp e => rv_eqI (sq_of hp) (ex_l e h2)
theorem ev_eqNN {xs ys : List Int} (ha : EvL ta σ H (xs.map V.int)) (hb : EvL tb σ H (ys.map V.int)) : Ev (tOp (rEqD K) ta tb) σ H (.bl (decide (xs = ys))) := ev_opLL ha hb fun p q H1 hp hq e => rv_eqI (sq_of hp) (sq_of hq)
theorem ev_neVV {p q : Addr} {xs ys : List Int} (ha : Ev ta σ H (.ref p)) (h1 : SqL K H p (xs.map V.int)) (hb : Ev tb σ H (.ref q)) (h2 : SqL K H q (ys.map V.int)) : Ev (tOp (rNeD K) ta tb) σ H (.bl (!decide (xs = ys))) := ev_op ha hb (rv_neI h1 h2)
theorem ev_neVN {p : Addr} {xs ys : List Int} (ha : Ev ta σ H (.ref p)) (h1 : SqL K H p (xs.map V.int)) (hb : EvL tb σ H (ys.map V.int)) : Ev (tOp (rNeD K) ta tb) σ H (.bl (!decide (xs = ys))) := ev_opL ha hb fun q H1 hq e => rv_neI (ex_l e h1) (sq_of hq)
theorem ev_neNV {q : Addr} {xs ys : List Int} (ha : EvL ta σ H (xs.map V.int)) (hb : Ev tb σ H (.ref q)) (h2 : SqL K H q (ys.map V.int)) : Ev (tOp (rNeD K) ta tb) σ H (.bl (!decide (xs = ys))) := ev_opL1 ha (fun H1 e => hb.mono e) fun p H1 hp e => rv_neI (sq_of hp) (ex_l e h2)
theorem ev_neNN {xs ys : List Int} (ha : EvL ta σ H (xs.map V.int)) (hb : EvL tb σ H (ys.map V.int)) : Ev (tOp (rNeD K) ta tb) σ H (.bl (!decide (xs = ys))) := ev_opLL ha hb fun p q H1 hp hq e => rv_neI (sq_of hp) (sq_of hq)
theorem elI {xs : List V} {ys : List Int} (h : EvL te σ H xs) (e : xs = ys.map V.int) : EvL te σ H (ys.map V.int) := by
  rw [← e]
  exact h
theorem el_is {xs ys : List V} (h : EvL te σ H xs) (e : xs = ys) : EvL te σ H ys := by
  rw [← e]
  exact h
/-! built-in calls -/
theorem ev_sumN {ns : List Int} (h : EvL ta σ H (ns.map V.int)) : Ev (tCB (rSum K) (tCons ta tNil)) σ H (.int ns.sum) := fun H1 e Q q =>
  h H1 e _ fun p H2 _ e2 hp => ⟨p, ns, rfl, sq_of hp, q H2 e2⟩
theorem ev_allN {bs : List Bool} (h : EvL ta σ H (bs.map V.bl)) : Ev (tCB (rAll K) (tCons ta tNil)) σ H (.bl (bs.all id)) := fun H1 e Q q =>
  h H1 e _ fun p H2 _ e2 hp => ⟨p, bs, rfl, sq_of hp, q H2 e2⟩
def rMin2 : List V → Hp → VK → Prop := fun xs H Q => ∃ i j, xs = [.int i, .int j] ∧ Q (.int (if j < i then j else i)) H
theorem ev_min2 {i j : Int} (ha : Ev ta σ H (.int i)) (hb : Ev tb σ H (.int j)) : Ev (tCB rMin2 (tCons ta (tCons tb tNil))) σ H (.int (if j < i then j else i)) := fun H1 e Q q =>
  ha H1 e _ fun H2 e2 => hb H2 (e.trans e2) _ fun H3 e3 => ⟨i, j, rfl, q H3 (e2.trans e3)⟩
def rInt1 : List V → Hp → VK → Prop := fun xs H Q => (∃ i, xs = [.int i] ∧ Q (.int i) H) ∨ ∃ k, xs = [.bl k] ∧ Q (.int (if k then 1 else 0)) H
theorem ev_intB {b : Bool} (ha : Ev ta σ H (.bl b)) : Ev (tCB rInt1 (tCons ta tNil)) σ H (.int (if b then 1 else 0)) := fun H1 e Q q =>
  ha H1 e _ fun H2 e2 => Or.inr ⟨b, rfl, q H2 e2⟩
def rAbs1 : List V → Hp → VK → Prop := fun xs H Q => ∃ i, xs = [.int i] ∧ Q (.int (if i < 0 then -i else i)) H
theorem ev_abs {i : Int} (ha : Ev ta σ H (.int i)) : Ev (tCB rAbs1 (tCons ta tNil)) σ H (.int (if i < 0 then -i else i)) := fun H1 e Q q =>
  ha H1 e _ fun H2 e2 => ⟨i, rfl, q H2 e2⟩
theorem ev_isI {T : String} {i : Int} {b : Bool} (ha : Ev ta σ H (.int i)) (hk : kitB "int" T = some b) : Ev (tCB (rIsi K) (tCons ta (tCons (tC (.ty T)) tNil))) σ H (.bl b) := fun H1 e Q q =>
  ha H1 e _ fun H2 e2 => ⟨.int i, .ty T, _, _, b, rfl, .ty T, .base (.int i), kit_ty hk, q H2 e2⟩
theorem ev_isB {T : String} {i : Bool} {b : Bool} (ha : Ev ta σ H (.bl i)) (hk : kitB "bool" T = some b) : Ev (tCB (rIsi K) (tCons ta (tCons (tC (.ty T)) tNil))) σ H (.bl b) := fun H1 e Q q =>
  ha H1 e _ fun H2 e2 => ⟨.bl i, .ty T, _, _, b, rfl, .ty T, .base (.bl i), kit_ty hk, q H2 e2⟩
theorem ev_isL {T : String} {p : Addr} {xs : List V} {b : Bool} (ha : Ev ta σ H (.ref p)) (h : H p = some (.lst xs)) (hk : kitB "list" T = some b) : Ev (tCB (rIsi K) (tCons ta (tCons (tC (.ty T)) tNil))) σ H (.bl b) := fun H1 e Q q =>
  ha H1 e _ fun H2 e2 => ⟨.ref p, .ty T, _, _, b, rfl, .ty T, .base (.lst (e2 p _ (e p _ h))), kit_ty hk, q H2 e2⟩
/-! chains, pairs -/
theorem ev_chain {r r' : R2} {tc : TE} {a b : Bool} {x y w : V} (ha : Ev ta σ H x) (hb : Ev tb σ H y) (hc : Ev tc σ H w) (h1 : RV r x y H (.bl a)) (h2 : a = true → RV r' y w H (.bl b)) : Ev (tChain r r' ta tb tc) σ H (.bl (a && b)) := fun H1 e Q q =>
  ha H1 e _ fun H2 e2 => hb H2 (e.trans e2) _ fun H3 e3 => h1 H3 ((e.trans e2).trans e3) _ fun H4 e4 => ⟨a, rfl, by
    have eh : Ex H1 H4 := (e2.trans e3).trans e4
    cases a with
    | true =>
      show tc σ H4 _
      exact hc H4 (e.trans eh) _ fun H5 e5 => h2 rfl H5 ((e.trans eh).trans e5) Q fun H6 e6 => q H6 ((eh.trans e5).trans e6)
    | false =>
      show Q (.bl false) H4
      exact q H4 eh⟩
theorem q_par {i j : Nat} {ta : TA} {v w : V} (h : EvA ta σ H [v, w]) (k : ∀ H1, Ex H H1 → tz D ((σ.set i (some v)).set j (some w)) H1) : tSeq (tPar i j ta) tz D σ H := h H (Ex.refl H) _ fun H1 e => ⟨v, w, rfl, k H1 e⟩
theorem s_par {i j : Nat} {ta : TA} {v w : V} (h : EvA ta σ H [v, w]) (k : ∀ H1, Ex H H1 → D.nx ((σ.set i (some v)).set j (some w)) H1) : tPar i j ta D σ H := h H (Ex.refl H) _ fun H1 e => ⟨v, w, rfl, k H1 e⟩
theorem q_par3 {i j l : Nat} {ta : TA} {u v w : V} (h : EvA ta σ H [u, v, w]) (k : ∀ H1, Ex H H1 → tz D (((σ.set i (some u)).set j (some v)).set l (some w)) H1) : tSeq (tPar3 i j l ta) tz D σ H := h H (Ex.refl H) _ fun H1 e => ⟨u, v, w, rfl, k H1 e⟩
/-- an item of a written tuple -/
theorem ev_opU1 {r : R2} {xs : List V} (ha : EvU ta σ H xs) (hb : Ev tb σ H y) (hr : ∀ p H1, H1 p = some (.tup xs) → Ex H H1 → RV r (.ref p) y H1 z) : Ev (tOp r ta tb) σ H z := fun H1 e Q q =>
  ha H1 e _ fun p H2 _ e2 hp => hb H2 (e.trans e2) _ fun H3 e3 => hr p H3 (e3 p _ hp) ((e.trans e2).trans e3) H3 (Ex.refl H3) Q fun H4 e4 => q H4 ((e2.trans e3).trans e4)
theorem ev_ixU {xs : List V} {i : Int} (ha : EvU ta σ H xs) (hb : Ev tb σ H (.int i)) (h : atI xs i = some v) : Ev (tOp (rIxT K) ta tb) σ H v := ev_opU1 ha hb fun p H1 hp _ => rv_ixT (st_of hp) h
theorem ev_ixN {xs : List V} {i : Int} (ha : EvL ta σ H xs) (hb : Ev tb σ H (.int i)) (h : atI xs i = some v) : Ev (tOp (rIxL K) ta tb) σ H v := ev_opL1 ha (fun H1 e => hb.mono e) fun p H1 hp _ => rv_ixL (sq_of hp) h
theorem ev_ixV {p : Addr} {xs : List V} {i : Int} (ha : Ev ta σ H (.ref p)) (hp : SqL K H p xs) (hb : Ev tb σ H (.int i)) (h : atI xs i = some v) : Ev (tOp (rIxL K) ta tb) σ H v := ev_op ha hb (rv_ixL hp h)
theorem ev_ixT {p : Addr} {xs : List V} {i : Int} (ha : Ev ta σ H (.ref p)) (hp : SqT K H p xs) (hb : Ev tb σ H (.int i)) (h : atI xs i = some v) : Ev (tOp (rIxT K) ta tb) σ H v := ev_op ha hb (rv_ixT hp h)
/-! a test that is known -/
theorem q_no {b : Bool} (h : EvT t σ H b) (e : b = false) (k : ∀ H1, Ex H H1 → tz D σ H1) : tSeq (tIfS t tu tNext) tz D σ H := q_when h (fun z => by rw [e] at z; cases z) fun _ => k
theorem s_no {b : Bool} (h : EvT t σ H b) (e : b = false) (k : ∀ H1, Ex H H1 → D.nx σ H1) : tIfS t tu tNext D σ H := s_when h (fun z => by rw [e] at z; cases z) fun _ => k
theorem q_yes {b : Bool} (h : EvT t σ H b) (e : b = true) (k : ∀ H1, Ex H H1 → tu { D with nx := tz D } σ H1) : tSeq (tIfS t tu tw) tz D σ H := q_if h (fun _ => k) (fun z => by rw [e] at z; cases z)
theorem q_else {b : Bool} (h : EvT t σ H b) (e : b = false) (k : ∀ H1, Ex H H1 → tw { D with nx := tz D } σ H1) : tSeq (tIfS t tu tw) tz D σ H := q_if h (fun z => by rw [e] at z; cases z) (fun _ => k)
end
end Bt
namespace Bt
open PySem PySem.Spec PyProof.Rows L2 Evl
/-! data of any depth that stands in the heap -/
mutual
inductive Dh (H : Hp) : V → PyData → Prop
  | non : Dh H .non .none
  | bl (b : Bool) : Dh H (.bl b) (.bool b)
  | int (i : Int) : Dh H (.int i) (.int i)
  | str (x : Str) : Dh H (.str x) (.str x)
  | lst {a : Addr} {xs : List V} {ds : List PyData} : H a = some (.lst xs) → DhAll H xs ds → Dh H (.ref a) (.list ds)
  | tup {a : Addr} {xs : List V} {ds : List PyData} : H a = some (.tup xs) → DhAll H xs ds → Dh H (.ref a) (.tuple ds)
inductive DhAll (H : Hp) : List V → List PyData → Prop
  | nil : DhAll H [] []
  | cons {v : V} {vs : List V} {d : PyData} {ds : List PyData} : Dh H v d → DhAll H vs ds → DhAll H (v :: vs) (d :: ds)
end
mutual
theorem Dh.mono {H H' : Hp} (e : Ex H H') : ∀ (d : PyData) (v : V), Dh H v d → Dh H' v d
  | .none, _, h => by cases h; exact .non
  | .bool b, _, h => by cases h; exact .bl b
  | .int i, _, h => by cases h; exact .int i
  | .str x, _, h => by cases h; exact .str x
  | .list ds, _, h => by
    cases h with
    | lst hs ha => exact .lst (e _ _ hs) (DhAll.mono e ds _ ha)
  | .tuple ds, _, h => by
    cases h with
    | tup hs ha => exact .tup (e _ _ hs) (DhAll.mono e ds _ ha)
  | .dict _, _, h => by cases h
theorem DhAll.mono {H H' : Hp} (e : Ex H H') : ∀ (ds : List PyData) (vs : List V), DhAll H vs ds → DhAll H' vs ds
  | [], _, h => by cases h; exact .nil
  | d :: ds, _, h => by
    cases h with
    | cons h1 h2 => exact .cons (Dh.mono e d _ h1) (DhAll.mono e ds _ h2)
end
mutual
theorem Dh.dp {K : PySem.W.Frag} {H : Hp} : ∀ (d : PyData) (v : V), Dh H v d → Dp K H v d
  | .none, _, h => by cases h; exact .non
  | .bool b, _, h => by cases h; exact .bl b
  | .int i, _, h => by cases h; exact .int i
  | .str x, _, h => by cases h; exact .str x
  | .list ds, _, h => by
    cases h with
    | lst hs ha => exact .lst (sq_of hs) (DhAll.dp ds _ ha)
  | .tuple ds, _, h => by
    cases h with
    | tup hs ha => exact .tup (st_of hs) (DhAll.dp ds _ ha)
  | .dict _, _, h => by cases h
theorem DhAll.dp {K : PySem.W.Frag} {H : Hp} : ∀ (ds : List PyData) (vs : List V), DhAll H vs ds → DpAll K H vs ds
  | [], _, h => by cases h; exact .nil
  | d :: ds, _, h => by
    cases h with
    | cons h1 h2 => exact .cons (Dh.dp d _ h1) (DhAll.dp ds _ h2)
end
theorem DhAll.length {H : Hp} : ∀ {ds : List PyData} {vs : List V}, DhAll H vs ds → vs.length = ds.length
  | [], _, h => by cases h; rfl
  | d :: ds, _, h => by
    cases h with
    | cons h1 h2 => rw [List.length_cons, List.length_cons, DhAll.length h2]
theorem DhAll.append {H : Hp} {es : List PyData} {us : List V} (h2 : DhAll H us es) : ∀ {ds : List PyData} {vs : List V}, DhAll H vs ds → DhAll H (vs ++ us) (ds ++ es)
  | [], _, h => by cases h; exact h2
  | d :: ds, _, h => by
    cases h with
    | cons h1 h3 => exact .cons h1 (DhAll.append h2 h3)
theorem DhAll.get {H : Hp} : ∀ {ds : List PyData} {vs : List V} {i : Nat} {v : V}, DhAll H vs ds → vs[i]? = some v → ∃ d, ds[i]? = some d ∧ Dh H v d
  | [], _, i, v, h, e => by cases h; simp at e
  | d :: ds, _, i, v, h, e => by
    cases h with
    | cons h1 h2 =>
      cases i with
      | zero =>
        simp at e
        subst e
        exact ⟨d, rfl, h1⟩
      | succ j =>
        simp at e
        obtain ⟨d', e', h'⟩ := DhAll.get h2 e
        exact ⟨d', by simpa using e', h'⟩
theorem DhAll.ints (H : Hp) : ∀ xs : List Int, DhAll H (xs.map V.int) (xs.map PyData.int)
  | [] => .nil
  | x :: r => .cons (.int x) (DhAll.ints H r)
theorem DhAll.bools (H : Hp) : ∀ xs : List Bool, DhAll H (xs.map V.bl) (xs.map PyData.bool)
  | [] => .nil
  | x :: r => .cons (.bl x) (DhAll.bools H r)
def EvD (te : TE) (σ : L2.St) (H : Hp) (d : PyData) : Prop := ∀ H1, Ex H H1 → ∀ Q : VK, (∀ v H2, Ex H1 H2 → Dh H2 v d → Q v H2) → te σ H1 Q
def EvDA (ta : TA) (σ : L2.St) (H : Hp) (ds : List PyData) : Prop := ∀ H1, Ex H H1 → ∀ Q : List V → Hp → Prop, (∀ vs H2, Ex H1 H2 → DhAll H2 vs ds → Q vs H2) → ta σ H1 Q
section
variable {K : PySem.W.Frag} {σ : L2.St} {H H' : Hp} {ta tb te tx : TE} {t u : TT} {x y z v : V} {D : Ends} {tu tw tz : TS} {g : TG} {d e : PyData}
theorem EvD.mono (e : Ex H H') (h : EvD te σ H d) : EvD te σ H' d := fun H1 a Q q => h H1 (e.trans a) Q q
theorem ed_int {i : Int} (h : Ev te σ H (.int i)) : EvD te σ H (.int i) := fun H1 e _ q => h H1 e _ fun H2 e2 => q _ H2 e2 (.int i)
theorem ed_bl {i : Bool} (h : Ev te σ H (.bl i)) : EvD te σ H (.bool i) := fun H1 e _ q => h H1 e _ fun H2 e2 => q _ H2 e2 (.bl i)
theorem ed_str {i : Str} (h : Ev te σ H (.str i)) : EvD te σ H (.str i) := fun H1 e _ q => h H1 e _ fun H2 e2 => q _ H2 e2 (.str i)
theorem ed_non (h : Ev te σ H .non) : EvD te σ H .none := fun H1 e _ q => h H1 e _ fun H2 e2 => q _ H2 e2 .non
theorem ed_val (h : Ev te σ H v) (hd : Dh H v d) : EvD te σ H d := fun H1 e _ q => h H1 e _ fun H2 e2 => q _ H2 e2 (Dh.mono (e.trans e2) _ _ hd)
theorem ed_ints {ns : List Int} (h : EvL te σ H (ns.map V.int)) : EvD te σ H (.list (ns.map PyData.int)) := fun H1 e _ q => h H1 e _ fun p H2 _ e2 hp => q _ H2 e2 (.lst hp (DhAll.ints H2 ns))
theorem ed_bools {ns : List Bool} (h : EvL te σ H (ns.map V.bl)) : EvD te σ H (.list (ns.map PyData.bool)) := fun H1 e _ q => h H1 e _ fun p H2 _ e2 hp => q _ H2 e2 (.lst hp (DhAll.bools H2 ns))
theorem eda_nil : EvDA tNil σ H [] := fun H1 _ _ q => q [] H1 (Ex.refl H1) .nil
theorem eda_cons {tr : TA} {ds : List PyData} (h : EvD ta σ H d) (hr : EvDA tr σ H ds) : EvDA (tCons ta tr) σ H (d :: ds) := fun H1 e _ q =>
  h H1 e _ fun v H2 e2 hv => hr H2 (e.trans e2) _ fun vs H3 e3 hvs => q _ H3 (e2.trans e3) (.cons (Dh.mono e3 _ _ hv) hvs)
theorem ed_lst {ta : TA} {ds : List PyData} (h : EvDA ta σ H ds) (hl : ds.length ≤ 100000) : EvD (tLst ta) σ H (.list ds) := fun H1 e _ q =>
  h H1 e _ fun vs H2 e2 hv => ⟨sz_of (by rw [hv.length]; exact hl), fun p hp => q _ _ (e2.trans (Ex.new hp)) (.lst upd_same (DhAll.mono (Ex.new hp) _ _ hv))⟩
theorem ed_tup {ta : TA} {ds : List PyData} (h : EvDA ta σ H ds) (hl : ds.length ≤ 100000) : EvD (tTup ta) σ H (.tuple ds) := fun H1 e _ q =>
  h H1 e _ fun vs H2 e2 hv => ⟨sz_of (by rw [hv.length]; exact hl), fun p hp => q _ _ (e2.trans (Ex.new hp)) (.tup upd_same (DhAll.mono (Ex.new hp) _ _ hv))⟩
theorem ed_cat {ds es : List PyData} (h1 : EvD ta σ H (.list ds)) (h2 : EvD tb σ H (.list es)) (hz : ds.length + es.length ≤ 100000) : EvD (tOp rCat ta tb) σ H (.list (ds ++ es)) := fun H1 e Q q =>
  h1 H1 e _ fun v H2 e2 hv => h2 H2 (e.trans e2) _ fun u H3 e3 hu => by
    have hv3 := Dh.mono e3 _ _ hv
    cases hv3 with
    | lst a1 b1 =>
      cases hu with
      | lst a2 b2 =>
        refine ⟨_, _, _, _, rfl, rfl, a1, a2, sz_of (by rw [b1.length, b2.length]; exact hz), fun p hp => q _ _ ((e2.trans e3).trans (Ex.new hp)) (.lst upd_same (DhAll.mono (Ex.new hp) _ _ (DhAll.append b2 b1)))⟩
theorem DhAll.rep {H : Hp} {vs : List V} {ds : List PyData} (h : DhAll H vs ds) : ∀ k, DhAll H (List.replicate k vs).flatten (List.replicate k ds).flatten
  | 0 => .nil
  | k + 1 => by
    rw [List.replicate_succ, List.replicate_succ, List.flatten_cons, List.flatten_cons]
    exact DhAll.append (DhAll.rep h k) h
theorem ed_rep {ds : List PyData} {k : Int} (h1 : EvD ta σ H (.list ds)) (h2 : Ev tb σ H (.int k)) (hk : 0 ≤ k ∧ k ≤ 1000) (hz : ds.length ≤ 100) : EvD (tOp rRep ta tb) σ H (.list (List.replicate k.toNat ds).flatten) := fun H1 e Q q =>
  h1 H1 e _ fun v H2 e2 hv => h2 H2 (e.trans e2) _ fun H3 e3 => by
    have hv3 := Dh.mono e3 _ _ hv
    cases hv3 with
    | lst a1 b1 =>
      refine ⟨_, _, _, rfl, rfl, a1, by omega, by omega, ?_, fun p hp => q _ _ ((e2.trans e3).trans (Ex.new hp)) (.lst upd_same (DhAll.mono (Ex.new hp) _ _ (DhAll.rep b1 _)))⟩
      rw [b1.length]
      have : ds.length * k.toNat ≤ 100 * 1000 := Nat.mul_le_mul hz (by omega)
      exact sz_of (by omega)
theorem ev_eqD (h1 : EvD ta σ H d) (h2 : EvD tb σ H e) (s1 : SeqAt.shaped d = true) (s2 : SeqAt.shaped e = true) : Ev (tOp (rEqD K) ta tb) σ H (.bl (PyData.eqv d e)) := fun H1 ex Q q =>
  h1 H1 ex _ fun v H2 e2 hv => h2 H2 (ex.trans e2) _ fun u H3 e3 hu => ⟨_, _, Dh.dp _ _ (Dh.mono e3 _ _ hv), Dh.dp _ _ hu, s1, s2, q H3 (e2.trans e3)⟩
theorem ev_neD (h1 : EvD ta σ H d) (h2 : EvD tb σ H e) (s1 : SeqAt.shaped d = true) (s2 : SeqAt.shaped e = true) : Ev (tOp (rNeD K) ta tb) σ H (.bl (!PyData.eqv d e)) := fun H1 ex Q q =>
  h1 H1 ex _ fun v H2 e2 hv => h2 H2 (ex.trans e2) _ fun u H3 e3 hu => ⟨_, _, Dh.dp _ _ (Dh.mono e3 _ _ hv), Dh.dp _ _ hu, s1, s2, q H3 (e2.trans e3)⟩
theorem q_asgD {i : Nat} (h : EvD te σ H d) (k : ∀ v H1, Ex H H1 → Dh H1 v d → tz D (σ.set i (some v)) H1) : tSeq (tAsg te (gName i)) tz D σ H := h H (Ex.refl H) _ fun v H1 e hv => k v H1 e hv
theorem s_asgD {i : Nat} (h : EvD te σ H d) (k : ∀ v H1, Ex H H1 → Dh H1 v d → D.nx (σ.set i (some v)) H1) : tAsg te (gName i) D σ H := h H (Ex.refl H) _ fun v H1 e hv => k v H1 e hv
/-- a for over data: the list stands as long as what is known stands -/
theorem q_forD {ds : List PyData} {tl : TE} (h : EvD tl σ H (.list ds)) (Pv : Nat → L2.St → Hp → Prop) (h0 : ∀ H1, Ex H H1 → Pv 0 σ H1) (hx : ∀ i σ' H', Pv i σ' H' → Ex H H')
    (hs : ∀ i v d' H0 σ' H', Ex H H0 → Ex H0 H' → ds[i]? = some d' → Dh H0 v d' → Pv i σ' H' → g v σ' H' fun σ2 H2 => tu { D with nx := fun σ3 H3 => Pv (i + 1) σ3 H3 ∧ Ex H0 H3, ct := fun σ3 H3 => Pv (i + 1) σ3 H3 ∧ Ex H0 H3, bk := tz D } σ2 H2)
    (hd : ∀ σ' H', Pv ds.length σ' H' → tz D σ' H') : tSeq (tFor (iList K tl) g tu) tz D σ H :=
  h H (Ex.refl H) _ fun v H0 e0 hv => by
    cases hv with
    | @lst a xs ds hl ha =>
      refine ⟨a, rfl, ⟨xs, sq_of hl⟩, for_list (D := { D with nx := tz D }) (fun i σ' H' => Pv i σ' H' ∧ Ex H0 H') ⟨h0 H0 e0, Ex.refl H0⟩ (fun i σ' H' _ q => sq_of (q.2 a _ hl)) (fun i x σ' H' hi q => ?_) (fun σ' H' q => ?_)⟩
      · obtain ⟨d', e', h'⟩ := DhAll.get ha hi
        exact hs i x d' H0 σ' H' e0 q.2 e' h' q.1
      · have := q.1
        rw [ha.length] at this
        exact hd σ' H' this
theorem q_forDT {ds : List PyData} {tl : TE} (h : EvD tl σ H (.tuple ds)) (Pv : Nat → L2.St → Hp → Prop) (h0 : ∀ H1, Ex H H1 → Pv 0 σ H1)
    (hs : ∀ i v d' H0 σ' H', Ex H H0 → Ex H0 H' → ds[i]? = some d' → Dh H0 v d' → Pv i σ' H' → g v σ' H' fun σ2 H2 => tu { D with nx := fun σ3 H3 => Pv (i + 1) σ3 H3 ∧ Ex H0 H3, ct := fun σ3 H3 => Pv (i + 1) σ3 H3 ∧ Ex H0 H3, bk := tz D } σ2 H2)
    (hd : ∀ σ' H', Ex H H' → Pv ds.length σ' H' → tz D σ' H') : tSeq (tFor (iTup K tl) g tu) tz D σ H :=
  h H (Ex.refl H) _ fun v H0 e0 hv => by
    cases hv with
    | @tup a xs ds hl ha =>
      refine ⟨a, rfl, ⟨xs, st_of hl⟩, for_tup (D := { D with nx := tz D }) (fun i σ' H' => Pv i σ' H' ∧ Ex H0 H') ⟨h0 H0 e0, Ex.refl H0⟩ (fun i σ' H' _ q => st_of (q.2 a _ hl)) (fun i x σ' H' hi q => ?_) (fun σ' H' q => ?_)⟩
      · obtain ⟨d', e', h'⟩ := DhAll.get ha hi
        exact hs i x d' H0 σ' H' e0 q.2 e' h' q.1
      · have := q.1
        rw [ha.length] at this
        exact hd σ' H' (e0.trans q.2) this
/-! range with a step -/
theorem q_forR3 {ta : TA} {j : Nat} {lo hi c : Int} {n : Nat} (h : EvA ta σ H [.int lo, .int hi, .int c]) (hr : RgC lo hi c n) (Pv : Nat → L2.St → Hp → Prop) (h0 : ∀ H1, Ex H H1 → Pv 0 σ H1)
    (hs : ∀ (i : Nat) σ' H', i < n → Pv i σ' H' → tu { D with nx := Pv (i + 1), ct := Pv (i + 1), bk := tz D } (σ'.set j (some (.int (lo + (i : Int) * c)))) H') (hd : ∀ σ' H', Pv n σ' H' → tz D σ' H') : tSeq (tFor (iRng3 ta) (gName j) tu) tz D σ H :=
  h H (Ex.refl H) _ fun H1 e => ⟨lo, hi, c, n, rfl, hr, for_rangeC (D := { D with nx := tz D }) Pv (h0 H1 e) hs hd⟩
theorem et_yes : EvT tYes σ H true := fun H1 _ _ q => q H1 (Ex.refl H1)
theorem given_all (n : Nat) (v : Nat → V) : given n (fun _ => true) v = (List.range n).map v := by
  unfold given
  rw [List.filter_eq_self.mpr (fun _ _ => rfl)]
end
theorem rg_two {M : Int} (h1 : 1 ≤ M) (h2 : M ≤ 12) : ∃ n, n ≤ 6 ∧ RgC 0 M 2 n := by
  obtain ⟨k, rfl⟩ := Int.eq_ofNat_of_zero_le (show 0 ≤ M by omega)
  have hk : k < 13 := by omega
  have hk1 : 1 ≤ k := by omega
  have key : ∀ i : Fin 13, 1 ≤ i.val → Builtin.Range.small 0 ((i.val : Nat) : Int) 2 = true ∧ (Builtin.Range.rangeSize 0 ((i.val : Nat) : Int) 2).toNat ≤ 6 ∧ Builtin.Range.rangeSize 0 ((i.val : Nat) : Int) 2 = (((Builtin.Range.rangeSize 0 ((i.val : Nat) : Int) 2).toNat : Nat) : Int) := by decide
  have := key ⟨k, hk⟩ hk1
  exact ⟨_, this.2.1, by decide, by decide, this.1, this.2.2⟩
theorem rg_three {M : Int} (h1 : 1 ≤ M) (h2 : M ≤ 6) : ∃ n, n ≤ 2 ∧ RgC 0 M 3 n := by
  obtain ⟨k, rfl⟩ := Int.eq_ofNat_of_zero_le (show 0 ≤ M by omega)
  have hk : k < 7 := by omega
  have hk1 : 1 ≤ k := by omega
  have key : ∀ i : Fin 7, 1 ≤ i.val → Builtin.Range.small 0 ((i.val : Nat) : Int) 3 = true ∧ (Builtin.Range.rangeSize 0 ((i.val : Nat) : Int) 3).toNat ≤ 2 ∧ Builtin.Range.rangeSize 0 ((i.val : Nat) : Int) 3 = (((Builtin.Range.rangeSize 0 ((i.val : Nat) : Int) 3).toNat : Nat) : Int) := by decide
  have := key ⟨k, hk⟩ hk1
  exact ⟨_, this.2.1, by decide, by decide, this.1, this.2.2⟩
end Bt
namespace Bt
open PySem PySem.Spec PyProof.Rows L2 Evl
section
variable {K : PySem.W.Frag} {σ : L2.St} {H H' : Hp} {ta tb te tx : TE} {t u : TT} {x y z v : V} {D : Ends} {tu tw tz : TS} {g : TG}
/-- a comprehension over range(a, b) -/
theorem el_lcR2 {ta : TA} {j : Nat} {vs : List Nat} {lo hi : Int} (f : Nat → Bool) (v : Nat → V) (h : EvA ta σ H [.int lo, .int hi]) (h0 : 0 ≤ lo ∧ lo < 2 ^ 60) (hn : hi ≤ lo + 40000) (hm : -40000 ≤ hi) (hw : ∀ x, wipe ((wipe σ vs).set j (some x)) vs = wipe σ vs)
    (ht : ∀ (i : Nat) H1, Ex H H1 → lo + (i : Int) < hi → EvT t ((wipe σ vs).set j (some (.int (lo + (i : Int))))) H1 (f i)) (he : ∀ (i : Nat) H1, Ex H H1 → lo + (i : Int) < hi → f i = true → Ev te ((wipe σ vs).set j (some (.int (lo + (i : Int))))) H1 (v i)) :
    EvL (tLc (iRng2 ta) (gName j) t te vs) σ H (given (hi - lo).toNat f v) := fun H0 e Q q => h H0 e _ fun H1 e1 => ⟨lo, hi, rfl, ⟨by omega, by omega, by omega, by omega⟩, fun Dl hD =>
  lc_range (lo := lo) (n := (hi - lo).toNat) (Cw H1 f v Dl) ⟨hD, Ex.new hD, upd_same⟩ (fun i H' hi' p => ⟨hw _, cw_turn p (by omega) (ht i H1 (e.trans e1) (by omega)) (fun hf => he i H1 (e.trans e1) (by omega) hf)⟩) (fun H' p => q Dl H' (fresh_back e1 p.1) (e1.trans p.2.1) p.2.2)⟩
/-- for i, x in enumerate(a list) -/
theorem q_forEn {ta : TA} {a : Addr} {xs : List V} {j l : Nat} (h : EvA ta σ H [.ref a]) (hx : SqL K H a xs) (Pv : Nat → L2.St → Hp → Prop) (h0 : ∀ H1, Ex H H1 → Pv 0 σ H1) (hl : ∀ i σ' H', Pv i σ' H' → SqL K H' a xs)
    (hs : ∀ (i : Nat) (x : V) σ' H' T, xs[i]? = some x → Pv i σ' H' → H' T = none → tu { D with nx := Pv (i + 1), ct := Pv (i + 1), bk := tz D } ((σ'.set j (some (.int (i : Int)))).set l (some x)) (upd H' T (.tup [.int (i : Int), x]))) (hd : ∀ σ' H', Pv xs.length σ' H' → tz D σ' H') :
    tSeq (tFor (iEnum K ta) (gTup K 2 (gCons (gName j) (gCons (gName l) gNil))) tu) tz D σ H :=
  h H (Ex.refl H) _ fun H1 e1 => ⟨a, xs, rfl, ex_l e1 hx, fun i m σ' H' => m = xs.length - i ∧ i ≤ xs.length ∧ Pv i σ' H', ⟨xs.length, by simp, Nat.zero_le _, h0 H1 e1⟩, fun i m σ' H' ⟨em, hi, p⟩ => by
    have hS := hl i σ' H' p
    by_cases hlt : i < xs.length
    · have gx : xs[i]? = some xs[i] := List.getElem?_eq_getElem hlt
      refine Or.inr ⟨⟨xs, xs[i], hS, gx⟩, Pv (i + 1), fun σ2 H2 p2 => ⟨xs.length - (i + 1), by omega, rfl, hlt, p2⟩, fun w H2 y => ?_⟩
      obtain ⟨T, x, rfl, nT, rfl, fx⟩ := y
      have gx2 := fx xs hS
      exact ⟨T, [.int (i : Nat), x], rfl, Or.inl (Or.inl upd_same), rfl, _, _, rfl, _, _, rfl, rfl, hs i x σ' H' T gx2 p nT⟩
    · have : i = xs.length := by omega
      subst this
      exact Or.inl ⟨⟨xs, hS, Nat.le_refl _⟩, hd σ' H' p⟩⟩
end
/-- a, b = a written tuple of constants -/
theorem q_asgT2 {K : PySem.W.Frag} {σ : L2.St} {H : Hp} {te : TE} {D : Ends} {tz : TS} {i j : Nat} {v w : V} (h : EvU te σ H [v, w]) (k : ∀ H1, Ex H H1 → tz D ((σ.set i (some v)).set j (some w)) H1) : tSeq (tAsg te (gTup K 2 (gCons (gName i) (gCons (gName j) gNil)))) tz D σ H :=
  h H (Ex.refl H) _ fun p H1 hp e hl => ⟨p, [v, w], rfl, st_of hl, rfl, v, [w], rfl, w, [], rfl, rfl, k H1 e⟩
theorem cut_from (xs : List V) {i : Int} (h : 0 ≤ i) : cutV xs (some i) none = xs.drop i.toNat := by
  obtain ⟨k, rfl⟩ := Int.eq_ofNat_of_zero_le h
  unfold cutV
  rw [show HT.sIx xs.length 0 (some ((k : Nat) : Int)) = min k xs.length from HT.sIx_nat xs.length 0 k, HT.sIx_none, Int.toNat_natCast]
  rcases Nat.le_total k xs.length with z | z
  · rw [Nat.min_eq_left z]
    exact List.take_of_length_le (by rw [List.length_drop]; omega)
  · rw [Nat.min_eq_right z, List.drop_length, List.drop_eq_nil_of_le z, List.take_nil]
theorem cut_to (xs : List V) {i : Int} (h : 0 ≤ i) : cutV xs none (some i) = xs.take i.toNat := by
  obtain ⟨k, rfl⟩ := Int.eq_ofNat_of_zero_le h
  unfold cutV
  rw [show HT.sIx xs.length xs.length (some ((k : Nat) : Int)) = min k xs.length from HT.sIx_nat xs.length xs.length k, HT.sIx_none, Int.toNat_natCast, List.drop_zero, Nat.sub_zero]
  rcases Nat.le_total k xs.length with z | z
  · rw [Nat.min_eq_left z]
  · rw [Nat.min_eq_right z, List.take_length, List.take_of_length_le z]
end Bt
namespace Bt
open PySem PySem.Spec PyProof.Rows L2 Evl
/-! loops over new tuples and lists of ints -/
section
variable {K : PySem.W.Frag} {σ : L2.St} {H H' : Hp} {ta tb te tx : TE} {t u : TT} {x y z v : V} {D : Ends} {tu tw tz : TS} {g : TG}
theorem q_forUI {ns : List Int} {tl : TE} {j : Nat} (h : EvU tl σ H (ns.map V.int)) (Pv : Nat → L2.St → Hp → Prop) (h0 : ∀ H1, Ex H H1 → Pv 0 σ H1)
    (hs : ∀ i n H0 σ' H', Ex H H0 → Ex H0 H' → n ∈ ns → Pv i σ' H' → tu { D with nx := fun σ3 H3 => Pv (i + 1) σ3 H3 ∧ Ex H0 H3, ct := fun σ3 H3 => Pv (i + 1) σ3 H3 ∧ Ex H0 H3, bk := tz D } (σ'.set j (some (.int n))) H')
    (hd : ∀ σ' H', Ex H H' → Pv ns.length σ' H' → tz D σ' H') : tSeq (tFor (iTup K tl) (gName j) tu) tz D σ H :=
  h H (Ex.refl H) _ fun p H0 hp e0 hl => ⟨p, rfl, ⟨_, st_of hl⟩, for_tup (D := { D with nx := tz D }) (fun i σ' H' => Pv i σ' H' ∧ Ex H0 H') ⟨h0 H0 e0, Ex.refl H0⟩ (fun i σ' H' _ q => st_of (q.2 p _ hl)) (fun i x σ' H' hi q => by
    rw [List.getElem?_map] at hi
    obtain ⟨n, hn, rfl⟩ := Option.map_eq_some_iff.mp hi
    exact hs i n H0 σ' H' e0 q.2 (List.mem_of_getElem? hn) q.1) (fun σ' H' q => by
    have := q.1
    rw [List.length_map] at this
    exact hd σ' H' (e0.trans q.2) this)⟩
theorem q_forLI {ns : List Int} {tl : TE} {j : Nat} (h : EvL tl σ H (ns.map V.int)) (Pv : Nat → L2.St → Hp → Prop) (h0 : ∀ H1, Ex H H1 → Pv 0 σ H1)
    (hs : ∀ i n H0 σ' H', Ex H H0 → Ex H0 H' → n ∈ ns → Pv i σ' H' → tu { D with nx := fun σ3 H3 => Pv (i + 1) σ3 H3 ∧ Ex H0 H3, ct := fun σ3 H3 => Pv (i + 1) σ3 H3 ∧ Ex H0 H3, bk := tz D } (σ'.set j (some (.int n))) H')
    (hd : ∀ σ' H', Ex H H' → Pv ns.length σ' H' → tz D σ' H') : tSeq (tFor (iList K tl) (gName j) tu) tz D σ H :=
  h H (Ex.refl H) _ fun p H0 hp e0 hl => ⟨p, rfl, ⟨_, sq_of hl⟩, for_list (D := { D with nx := tz D }) (fun i σ' H' => Pv i σ' H' ∧ Ex H0 H') ⟨h0 H0 e0, Ex.refl H0⟩ (fun i σ' H' _ q => sq_of (q.2 p _ hl)) (fun i x σ' H' hi q => by
    rw [List.getElem?_map] at hi
    obtain ⟨n, hn, rfl⟩ := Option.map_eq_some_iff.mp hi
    exact hs i n H0 σ' H' e0 q.2 (List.mem_of_getElem? hn) q.1) (fun σ' H' q => by
    have := q.1
    rw [List.length_map] at this
    exact hd σ' H' (e0.trans q.2) this)⟩
end
/-! errors of own classes: raised, caught, looked at -/
def RaX (c : Addr) (H : Hp) (E : XK) : Prop := ∀ H2, Ex H H2 → E (.ref c) none H2
def SpX (sp : Sp) (vs : List V) (H : Hp) (c : Addr) : Prop := ∀ H1, Ex H H1 → ∀ (Q : VK) (E : XK), RaX c H1 E → sp vs H1 Q E
def rIsE2 (K : PySem.W.Frag) (cls : Value) (d : Option Addr) (a : Addr) : List V → Hp → VK → Prop := fun xs H Q => ∃ (D : Addr) (c : V) (cv : Value) (b : Bool), cls = .ref D ∧ d = none ∧ ExcC K D ∧ xs = [.ref a, c] ∧ ClsV c cv ∧ PySem.W.kitOne K (.ref D) cv = some b ∧ Q (.bl b) H
theorem call_isE2 {X : Cx} {a : Addr} {cls : Value} {d : Option Addr} {oe : Obj} {pn : List (Addr × Obj)} (hz : Zc cls d oe) (hf : ∃ vs, oe.data = .fields vs) : CallR (X.suite a ((a, oe) :: pn)) (.builtin "isinstance") (rIsE2 X.K cls d a) := by
  intro pins s σ H xs us Q I r h
  obtain ⟨D, c, cv, b, rfl, rfl, C, rfl, hc, e, q⟩ := h
  exact call_isE C hz hf pins s σ H _ us Q I r ⟨c, cv, b, rfl, fun u h => hc.eq h, e, q⟩
section
variable {K : PySem.W.Frag} {σ : L2.St} {H H' : Hp} {ta tb te tx : TE} {D : Ends} {tu tw tz : TS}
theorem ev_isE {C c a : Addr} {b : Bool} (hc : ExcC K C) (ha : Ev ta σ H (.ref a)) (hk : PySem.W.kitOne K (.ref C) (.ref c) = some b) : Ev (tCB (rIsE2 K (.ref C) none a) (tCons ta (tCons (tC (.ref c)) tNil))) σ H (.bl b) := fun H1 e Q q =>
  ha H1 e _ fun H2 e2 => ⟨C, .ref c, .ref c, b, rfl, rfl, hc, rfl, .own c, hk, q H2 e2⟩
theorem ev_isET {C a : Addr} {n : String} {b : Bool} (hc : ExcC K C) (ha : Ev ta σ H (.ref a)) (hk : PySem.W.kitOne K (.ref C) (.type n) = some b) : Ev (tCB (rIsE2 K (.ref C) none a) (tCons ta (tCons (tC (.ty n)) tNil))) σ H (.bl b) := fun H1 e Q q =>
  ha H1 e _ fun H2 e2 => ⟨C, .ty n, .type n, b, rfl, rfl, hc, rfl, .ty n, hk, q H2 e2⟩
/-- try: f(..) except c as n: suite, f raises C -/
theorem q_tryX {sp : Sp} {ta : TA} {vs : List V} {C : Addr} {c : Value} {i : Nat} {ts : Addr → Value → Option Addr → TS} {Wout : WX} (h : EvA ta σ H vs) (hs : SpX sp vs H C) (hm : PySem.W.exmOne K (.ref C) c = some true)
    (k : ∀ a H1, Ex H H1 → H1 a = none → ts a (.ref C) none { nx := fun σ' H' => tz D (σ'.set i none) H', rt := D.rt, bk := fun σ' H' => D.bk (σ'.set i none) H', ct := fun σ' H' => D.ct (σ'.set i none) H' } (σ.set i (some (.ref a))) H1) :
    tSeq (fun D σ H => tDrop (tCallS sp (WE (wAs K c i ts Wout D)) ta) D σ H) tz D σ H :=
  h H (Ex.refl H) _ fun H1 e1 => hs H1 e1 _ _ fun H2 e2 => ⟨true, hm, fun _ a ha => k a H2 (e1.trans e2) ha, fun z => by cases z⟩
end
theorem exm_C {K : PySem.W.Frag} {C R : Addr} (hb : PySem.W.subIn K (.ref R) (.type "BaseException") = some true) (hd : PySem.W.hasDictIn K R = true) (ht : PySem.W.typeIn K (.ref R) = some (.type "type")) (hs : PySem.W.subIn K (.ref C) (.ref R) = some true) : PySem.W.exmOne K (.ref C) (.ref R) = some true := PySem.W.exm_ref hb hd ht hs
theorem kit_own {K : PySem.W.Frag} {C D : Addr} {b : Bool} (hn : b = true ∨ (Value.ref C == Value.ref D) = false) (hd : PySem.W.hasDictIn K D = true) (ht : PySem.W.typeIn K (.ref D) = some (.type "type")) (hs : PySem.W.subIn K (.ref C) (.ref D) = some b) : PySem.W.kitOne K (.ref C) (.ref D) = some b := by
  obtain ⟨cd, hc, _⟩ := PySem.W.any_some hd
  have e2 : ((PySem.W.clsIn K D).isSome && PySem.W.typeIn K (.ref D) == some (.type "type")) = true := by rw [hc, ht] <;> rfl
  have e3 : PySem.W.kitCls K (.ref C) (.ref D) = some b := by
    show (if ((PySem.W.clsIn K D).isSome && PySem.W.typeIn K (.ref D) == some (.type "type")) = true then PySem.W.subIn K (.ref C) (.ref D) else none) = some b
    rw [if_pos e2]
    exact hs
  unfold PySem.W.kitOne
  by_cases z : (Value.ref C == Value.ref D) = true
  · rw [if_pos z]
    rcases hn with h | h
    · rw [h]
    · rw [h] at z
      cases z
  · rw [if_neg z]
    exact e3
theorem kit_type {K : PySem.W.Frag} {C : Addr} {n : String} {b : Bool} (hm : PySem.W.kitMeta n = true) (hs : PySem.W.subIn K (.ref C) (.type n) = some b) : PySem.W.kitOne K (.ref C) (.type n) = some b := by
  unfold PySem.W.kitOne
  rw [if_neg (by intro z; have := beq_iff_eq.mp z; cases this)]
  show (if PySem.W.kitMeta n = true then PySem.W.subIn K (.ref C) (.type n) else none) = some b
  rw [if_pos hm]
  exact hs
end Bt
namespace Bt
open PySem PySem.Spec PyProof.Rows L2 Evl
theorem rg_up {a b c : Int} (h0 : 0 ≤ a) (h1 : a ≤ 1000000) (h2 : 0 ≤ b) (h3 : b ≤ 1000000) (hc : 1 ≤ c) (hc2 : c ≤ 1000000) : ∃ n : Nat, RgC a b c n ∧ ∀ i : Nat, i < n → a + (i : Int) * c < b := by
  have e : Builtin.Range.rangeSize a b c = if a < b then (b - a - 1) / c + 1 else 0 := by
    unfold Builtin.Range.rangeSize
    rw [if_pos (by omega)]
  have hq : ∀ z : Int, 0 ≤ z → 0 ≤ z / c ∧ z / c ≤ z := fun z hz => ⟨Int.ediv_nonneg hz (by omega), Int.ediv_le_self _ hz⟩
  have hs : 0 ≤ Builtin.Range.rangeSize a b c ∧ Builtin.Range.rangeSize a b c ≤ 1000001 := by
    rw [e]
    split
    · have := hq (b - a - 1) (by omega)
      omega
    · omega
  refine ⟨(Builtin.Range.rangeSize a b c).toNat, ⟨by omega, by omega, ?_, by omega⟩, fun i hi => ?_⟩
  · unfold Builtin.Range.small
    rw [if_pos (by omega)]
    simp only [Builtin.Range.rangeFitsLong, Bool.and_eq_true, Bool.or_eq_true, decide_eq_true_eq]
    refine ⟨⟨⟨⟨by omega, by omega⟩, by omega⟩, by omega⟩, Or.inr (by omega)⟩
  · by_cases hab : a < b
    · rw [e, if_pos hab] at hi
      have h4 : (i : Int) ≤ (b - a - 1) / c := by
        have := hq (b - a - 1) (by omega)
        omega
      have h5 := (Int.le_ediv_iff_mul_le (by omega : 0 < c)).mp h4
      omega
    · rw [e, if_neg hab] at hi
      exact absurd hi (Nat.not_lt_zero i)
theorem range_getD (ns : List Int) : (List.range ns.length).map (fun i => ns.getD i 0) = ns := by
  refine List.ext_getElem (by simp) fun i h1 h2 => ?_
  simp [List.getD_eq_getElem?_getD, List.getElem?_eq_getElem h2]
theorem given_filter (ns : List Int) (p : Int → Bool) (g : Int → V) : given ns.length (fun i => p (ns.getD i 0)) (fun i => g (ns.getD i 0)) = (ns.filter p).map g := by
  unfold given
  have h : ((List.range ns.length).filter (fun i => p (ns.getD i 0))).map (fun i => ns.getD i 0) = ns.filter p := by
    conv => rhs; rw [← range_getD ns, List.filter_map]
    rfl
  rw [← h, List.map_map]
  rfl
theorem given_map (ns : List Int) (f : Int → V) : given ns.length (fun _ => true) (fun i => f (ns.getD i 0)) = ns.map f := by
  rw [given_all]
  conv => rhs; rw [← range_getD ns, List.map_map]
  rfl
section
variable {K : PySem.W.Frag} {σ : L2.St} {H H' : Hp} {ta tb te tx tl : TE} {t u : TT} {x y z v : V} {D : Ends} {tu tw tz : TS} {g : TG} {a : Addr} {j : Nat} {vs : List Nat}
theorem el_lcT {xs : List V} (f : Nat → Bool) (v : Nat → V) (h : Ev tl σ H (.ref a)) (hx : SqT K H a xs) (hz : xs.length ≤ 40000) (hw : ∀ x, wipe ((wipe σ vs).set j (some x)) vs = wipe σ vs)
    (ht : ∀ (i : Nat) (x : V) H1, Ex H H1 → xs[i]? = some x → EvT t ((wipe σ vs).set j (some x)) H1 (f i)) (he : ∀ (i : Nat) (x : V) H1, Ex H H1 → xs[i]? = some x → f i = true → Ev te ((wipe σ vs).set j (some x)) H1 (v i)) :
    EvL (tLc (iTup K tl) (gName j) t te vs) σ H (given xs.length f v) := fun H0 e Q q => h H0 e _ fun H1 e1 => ⟨a, rfl, ⟨xs, ex_t (e.trans e1) hx⟩, fun Dl hD =>
  lc_tup (xs := xs) (Cw H1 f v Dl) ⟨hD, Ex.new hD, upd_same⟩ (fun i H' _ p => ex_t ((e.trans e1).trans p.2.1) hx) (fun i x H' hi p => ⟨hw x, cw_turn p (by have := (List.getElem?_eq_some_iff.mp hi).1; omega) (ht i x H1 (e.trans e1) hi) (fun hf => he i x H1 (e.trans e1) hi hf)⟩)
    (fun H' p => q Dl H' (fresh_back e1 p.1) (e1.trans p.2.1) p.2.2)⟩
theorem el_lcNT {xs : List V} (f : Nat → Bool) (v : Nat → V) (h : EvU tl σ H xs) (hz : xs.length ≤ 40000) (hw : ∀ x, wipe ((wipe σ vs).set j (some x)) vs = wipe σ vs)
    (ht : ∀ (i : Nat) (x : V) H1, Ex H H1 → xs[i]? = some x → EvT t ((wipe σ vs).set j (some x)) H1 (f i)) (he : ∀ (i : Nat) (x : V) H1, Ex H H1 → xs[i]? = some x → f i = true → Ev te ((wipe σ vs).set j (some x)) H1 (v i)) :
    EvL (tLc (iTup K tl) (gName j) t te vs) σ H (given xs.length f v) := fun H0 e Q q => h H0 e _ fun a H1 ha e1 hx => ⟨a, rfl, ⟨xs, st_of hx⟩, fun Dl hD =>
  lc_tup (xs := xs) (Cw H1 f v Dl) ⟨hD, Ex.new hD, upd_same⟩ (fun i H' _ p => st_of (p.2.1 a _ hx)) (fun i x H' hi p => ⟨hw x, cw_turn p (by have := (List.getElem?_eq_some_iff.mp hi).1; omega) (ht i x H1 (e.trans e1) hi) (fun hf => he i x H1 (e.trans e1) hi hf)⟩)
    (fun H' p => q Dl H' (fresh_back e1 p.1) (e1.trans p.2.1) p.2.2)⟩
/-! comprehensions over ints -/
theorem int_item {ns : List Int} {i : Nat} {x : V} (h : (ns.map V.int)[i]? = some x) : x = .int (ns.getD i 0) ∧ ns.getD i 0 ∈ ns := by
  rw [List.getElem?_map] at h
  obtain ⟨d, hd, rfl⟩ := Option.map_eq_some_iff.mp h
  have e : ns.getD i 0 = d := by
    rw [List.getD_eq_getElem?_getD, hd]
    rfl
  rw [e]
  exact ⟨rfl, List.mem_of_getElem? hd⟩
theorem el_mapT {ns : List Int} (f : Int → V) (h : Ev tl σ H (.ref a)) (hx : SqT K H a (ns.map V.int)) (hz : ns.length ≤ 40000) (hw : ∀ x, wipe ((wipe σ vs).set j (some x)) vs = wipe σ vs)
    (he : ∀ (n : Int), n ∈ ns → ∀ H1, Ex H H1 → Ev te ((wipe σ vs).set j (some (.int n))) H1 (f n)) : EvL (tLc (iTup K tl) (gName j) tYes te vs) σ H (ns.map f) := by
  have := el_lcT (K := K) (te := te) (t := tYes) (vs := vs) (j := j) (fun _ => true) (fun i => f (ns.getD i 0)) h hx (by rw [List.length_map]; exact hz) hw (fun _ _ _ _ _ => et_yes) (fun i x H1 e hx' _ => by
    obtain ⟨rfl, hm⟩ := int_item hx'
    exact he _ hm H1 e)
  rw [List.length_map, given_map] at this
  exact this
theorem el_mapNT {ns : List Int} (f : Int → V) (h : EvU tl σ H (ns.map V.int)) (hz : ns.length ≤ 40000) (hw : ∀ x, wipe ((wipe σ vs).set j (some x)) vs = wipe σ vs)
    (he : ∀ (n : Int), n ∈ ns → ∀ H1, Ex H H1 → Ev te ((wipe σ vs).set j (some (.int n))) H1 (f n)) : EvL (tLc (iTup K tl) (gName j) tYes te vs) σ H (ns.map f) := by
  have := el_lcNT (K := K) (te := te) (t := tYes) (vs := vs) (j := j) (fun _ => true) (fun i => f (ns.getD i 0)) h (by rw [List.length_map]; exact hz) hw (fun _ _ _ _ _ => et_yes) (fun i x H1 e hx' _ => by
    obtain ⟨rfl, hm⟩ := int_item hx'
    exact he _ hm H1 e)
  rw [List.length_map, given_map] at this
  exact this
theorem el_filL {ns : List Int} (p : Int → Bool) (f : Int → V) (h : Ev tl σ H (.ref a)) (hx : SqL K H a (ns.map V.int)) (hz : ns.length ≤ 40000) (hw : ∀ x, wipe ((wipe σ vs).set j (some x)) vs = wipe σ vs)
    (ht : ∀ (n : Int), n ∈ ns → ∀ H1, Ex H H1 → EvT t ((wipe σ vs).set j (some (.int n))) H1 (p n)) (he : ∀ (n : Int), n ∈ ns → ∀ H1, Ex H H1 → Ev te ((wipe σ vs).set j (some (.int n))) H1 (f n)) : EvL (tLc (iList K tl) (gName j) t te vs) σ H ((ns.filter p).map f) := by
  have := el_lcL (K := K) (te := te) (t := t) (vs := vs) (j := j) (fun i => p (ns.getD i 0)) (fun i => f (ns.getD i 0)) h hx (by rw [List.length_map]; exact hz) hw (fun i x H1 e hx' => by
    obtain ⟨rfl, hm⟩ := int_item hx'
    exact ht _ hm H1 e) (fun i x H1 e hx' _ => by
    obtain ⟨rfl, hm⟩ := int_item hx'
    exact he _ hm H1 e)
  rw [List.length_map, given_filter] at this
  exact this
theorem el_mapL {ns : List Int} (f : Int → V) (h : Ev tl σ H (.ref a)) (hx : SqL K H a (ns.map V.int)) (hz : ns.length ≤ 40000) (hw : ∀ x, wipe ((wipe σ vs).set j (some x)) vs = wipe σ vs)
    (he : ∀ (n : Int), n ∈ ns → ∀ H1, Ex H H1 → Ev te ((wipe σ vs).set j (some (.int n))) H1 (f n)) : EvL (tLc (iList K tl) (gName j) tYes te vs) σ H (ns.map f) := by
  have := el_filL (K := K) (te := te) (t := tYes) (vs := vs) (j := j) (fun _ => true) f h hx hz hw (fun _ _ _ _ => et_yes) he
  rw [List.filter_eq_self.mpr (fun _ _ => rfl)] at this
  exact this
theorem el_filR {n : Nat} (p : Nat → Bool) (f : Nat → V) {ta : TA} (h : EvA ta σ H [.int (n : Int)]) (hz : n ≤ 40000) (hw : ∀ x, wipe ((wipe σ vs).set j (some x)) vs = wipe σ vs)
    (ht : ∀ i : Nat, i < n → ∀ H1, Ex H H1 → EvT t ((wipe σ vs).set j (some (.int (i : Int)))) H1 (p i)) (he : ∀ i : Nat, i < n → ∀ H1, Ex H H1 → Ev te ((wipe σ vs).set j (some (.int (i : Int)))) H1 (f i)) : EvL (tLc (iRng1 ta) (gName j) t te vs) σ H (((List.range n).filter p).map f) := by
  have := el_lcR1 (te := te) (t := t) (vs := vs) (j := j) p f h ⟨by omega, by omega⟩ hw (fun i H1 e hi => ht i (by omega) H1 e) (fun i H1 e hi _ => he i (by omega) H1 e)
  rw [Int.toNat_natCast] at this
  exact this
end
end Bt
namespace Bt
open PySem PySem.Spec PyProof.Rows L2 Evl
section
variable {K : PySem.W.Frag} {σ : L2.St} {H H' : Hp} {ta tb tc te tx tl : TE} {t u : TT} {x y z v w : V} {D : Ends} {tu tw tz : TS} {g : TG}
theorem q_par3L {i j l : Nat} {xs : List V} (h1 : EvL ta σ H xs) (h2 : Ev tb σ H v) (h3 : Ev tc σ H w) (k : ∀ p H1, H p = none → Ex H H1 → H1 p = some (.lst xs) → tz D (((σ.set i (some (.ref p))).set j (some v)).set l (some w)) H1) : tSeq (tPar3 i j l (tCons ta (tCons tb (tCons tc tNil)))) tz D σ H :=
  h1 H (Ex.refl H) _ fun p H1 hp e1 l1 => h2 H1 e1 _ fun H2 e2 => h3 H2 (e1.trans e2) _ fun H3 e3 => ⟨.ref p, v, w, rfl, k p H3 hp ((e1.trans e2).trans e3) (e3 _ _ (e2 _ _ l1))⟩
theorem ev_allT {ns : List Int} (h : EvL tl σ H (ns.map fun _ => V.bl true)) : Ev (tCB (rAll K) (tCons tl tNil)) σ H (.bl true) := by
  have h2 : EvL tl σ H ((ns.map fun _ => true).map V.bl) := by
    rw [List.map_map]
    exact h
  have h3 := ev_allN (K := K) h2
  have e : (ns.map fun _ => true).all id = true := by simp
  rw [e] at h3
  exact h3
end
end Bt
namespace Bt
open PySem PySem.Spec PyProof.Rows L2 Evl
/-! lists of lists of ints that stand in the heap; P: what is known of where -/
inductive RowsP (P : Addr → Prop) (H : Hp) : List V → List (List Int) → Prop
  | nil : RowsP P H [] []
  | cons {a : Addr} {r : List Int} {us : List V} {rs : List (List Int)} : P a → H a = some (.lst (r.map V.int)) → RowsP P H us rs → RowsP P H (.ref a :: us) (r :: rs)
theorem RowsP.mono {P P' : Addr → Prop} {H H' : Hp} (hp : ∀ a, P a → P' a) (e : ∀ a o, P a → H a = some o → H' a = some o) : ∀ {rs : List (List Int)} {us : List V}, RowsP P H us rs → RowsP P' H' us rs
  | [], _, h => by cases h; exact .nil
  | r :: rs, _, h => by
    cases h with
    | cons h1 h2 h3 => exact .cons (hp _ h1) (e _ _ h1 h2) (RowsP.mono hp e h3)
theorem RowsP.append {P : Addr → Prop} {H : Hp} {es : List (List Int)} {vs : List V} (h2 : RowsP P H vs es) : ∀ {rs : List (List Int)} {us : List V}, RowsP P H us rs → RowsP P H (us ++ vs) (rs ++ es)
  | [], _, h => by cases h; exact h2
  | r :: rs, _, h => by
    cases h with
    | cons h1 h3 h4 => exact .cons h1 h3 (RowsP.append h2 h4)
theorem RowsP.len {P : Addr → Prop} {H : Hp} : ∀ {rs : List (List Int)} {us : List V}, RowsP P H us rs → us.length = rs.length
  | [], _, h => by cases h; rfl
  | r :: rs, _, h => by
    cases h with
    | cons h1 h3 h4 => rw [List.length_cons, List.length_cons, RowsP.len h4]
theorem RowsP.get {P : Addr → Prop} {H : Hp} : ∀ {rs : List (List Int)} {us : List V} {i : Nat} {v : V}, RowsP P H us rs → us[i]? = some v → ∃ a r, v = .ref a ∧ rs[i]? = some r ∧ P a ∧ H a = some (.lst (r.map V.int))
  | [], _, i, v, h, e => by cases h; simp at e
  | r :: rs, _, i, v, h, e => by
    cases h with
    | cons h1 h2 h3 =>
      cases i with
      | zero =>
        simp at e
        exact ⟨_, r, e.symm, rfl, h1, h2⟩
      | succ j =>
        simp at e
        obtain ⟨a, r', e1, e2, e3, e4⟩ := RowsP.get h3 e
        exact ⟨a, r', e1, by simpa using e2, e3, e4⟩
def EvRows (te : TE) (σ : L2.St) (H : Hp) (rs : List (List Int)) : Prop := ∀ H1, Ex H H1 → ∀ Q : VK, (∀ p us H2, H1 p = none → Ex H1 H2 → H2 p = some (.lst us) → RowsP (fun a => H1 a = none) H2 us rs → Q (.ref p) H2) → te σ H1 Q
section
variable {K : PySem.W.Frag} {σ : L2.St} {H H' : Hp} {ta tb tc te tx tl : TE} {t u : TT} {x y z v w : V} {D : Ends} {tu tw tz : TS} {g : TG}
/-- a comprehension over range(n) whose items are new lists of ints -/
theorem er_lcR1 {ta : TA} {j : Nat} {vs : List Nat} {n : Nat} (r : Nat → List Int) (h : EvA ta σ H [.int (n : Int)]) (hn : n ≤ 40000) (hw : ∀ x, wipe ((wipe σ vs).set j (some x)) vs = wipe σ vs)
    (he : ∀ (i : Nat) H1, Ex H H1 → i < n → EvL te ((wipe σ vs).set j (some (.int (i : Int)))) H1 ((r i).map V.int)) : EvRows (tLc (iRng1 ta) (gName j) tYes te vs) σ H ((List.range n).map r) := fun H0 e Q q => h H0 e _ fun H1 e1 => ⟨(n : Int), rfl, by omega, by omega, fun Dl hD =>
  lc_range (lo := 0) (n := (n : Int).toNat) (fun i H' => Ex H1 H' ∧ ∃ us, H' Dl = some (.lst us) ∧ RowsP (fun a => H1 a = none ∧ a ≠ Dl) H' us ((List.range i).map r)) ⟨Ex.new hD, [], upd_same, .nil⟩ (fun i H' hi p => by
    have e0 : (0 : Int) + (i : Int) = (i : Int) := Int.zero_add _
    show wipe ((wipe σ vs).set j (some (.int ((0 : Int) + (i : Int))))) vs = wipe σ vs ∧ tYes ((wipe σ vs).set j (some (.int ((0 : Int) + (i : Int))))) H' fun b H3 => if b = true then te ((wipe σ vs).set j (some (.int ((0 : Int) + (i : Int))))) H3 fun y H4 => ∃ acc, H4 Dl = some (.lst acc) ∧ acc.length < sizeLine ∧ (Ex H1 (upd H4 Dl (.lst (acc ++ [y]))) ∧ ∃ us, (upd H4 Dl (.lst (acc ++ [y]))) Dl = some (.lst us) ∧ RowsP (fun a => H1 a = none ∧ a ≠ Dl) (upd H4 Dl (.lst (acc ++ [y]))) us ((List.range (i + 1)).map r)) else _
    rw [e0]
    obtain ⟨ex, us, hl, hr⟩ := p
    refine ⟨hw _, ?_⟩
    show te _ H' _
    refine he i H' ((e.trans e1).trans ex) (by omega) H' (Ex.refl H') _ fun p H4 hp e4 l4 => ⟨us, e4 _ _ hl, ?_, ?_, us ++ [.ref p], upd_same, ?_⟩
    · rw [hr.len, List.length_map, List.length_range]
      exact sz_lt (by omega)
    · exact Ex.mut (ex.trans e4) hD
    · have hne : p ≠ Dl := fun z => by
        rw [z, hl] at hp
        cases hp
      rw [List.range_succ, List.map_append]
      refine RowsP.append (.cons ⟨fresh_back ex hp, hne⟩ (by rw [upd_ne hne]; exact l4) .nil) (hr.mono (fun _ h => h) fun a o ha h => by
        rw [upd_ne ha.2]
        exact e4 _ _ h)) (fun H' p => by
    obtain ⟨ex, us, hl, hr⟩ := p
    rw [Int.toNat_natCast] at hr
    exact q Dl us H' (fresh_back e1 hD) (e1.trans ex) hl (hr.mono (fun a h => fresh_back e1 h.1) fun _ _ _ h => h))⟩
/-- l.extend(new lists) -/
theorem s_extR {l : Addr} {us : List V} {rs rs2 : List (List Int)} (hl : H l = some (.lst us)) (hr : RowsP (fun a => a ≠ l) H us rs) (ha : Ev ta σ H (.ref l)) (h : EvRows te σ H rs2) (hz : rs.length + rs2.length ≤ 100000)
    (k : ∀ us2 H1, Ex H H1 → RowsP (fun a => a ≠ l) (upd H1 l (.lst us2)) us2 (rs ++ rs2) → D.nx σ (upd H1 l (.lst us2))) : tDrop (tBM K "list" rExtend ta (tCons te tNil)) D σ H := ha H (Ex.refl H) _ fun H1 e1 =>
  ⟨Or.inl ⟨rfl, us, sq_of (e1 l _ hl)⟩, h H1 e1 _ fun p us2 H2 hp e2 h2 hr2 => by
    refine ⟨l, p, us, us2, rfl, rfl, e2 l _ (e1 l _ hl), h2, sz_of (by rw [hr.len, hr2.len]; exact hz), k _ H2 (e1.trans e2) ?_⟩
    refine RowsP.append (hr2.mono (P' := fun a => a ≠ l) (fun a ha z => ?_) fun a o ha h => ?_) (hr.mono (fun _ h => h) fun a o ha h => ?_)
    · rw [z, e1 _ _ hl] at ha
      cases ha
    · rw [upd_ne (fun z => by rw [z, e1 _ _ hl] at ha; cases ha)]
      exact h
    · rw [upd_ne ha]
      exact e2 _ _ (e1 _ _ h)⟩
theorem q_parR {i j : Nat} (h2 : Ev tb σ H w) (k : ∀ p a H1, Ex H H1 → H1 p = some (.lst [.ref a]) → H1 a = some (.lst []) → tz D ((σ.set i (some (.ref p))).set j (some w)) H1) : tSeq (tPar i j (tCons (tLst (tCons (tLst tNil) tNil)) (tCons tb tNil))) tz D σ H := by
  refine ⟨sz_of (by simp), fun a ha => ⟨sz_of (by simp), fun p hp => ?_⟩⟩
  have e1 : Ex H (upd (upd H a (.lst [])) p (.lst [.ref a])) := (Ex.new ha).trans (Ex.new hp)
  have hne : a ≠ p := fun z => by
    rw [← z, upd_same] at hp
    cases hp
  exact h2 _ e1 _ fun H3 e3 => ⟨.ref p, w, rfl, k p a H3 (e1.trans e3) (e3 _ _ upd_same) (e3 _ _ (by rw [upd_ne hne, upd_same]))⟩
/-- return sorted(a list of ints that rise) -/
theorem s_retS {a : Addr} {ns : List Int} (h : Ev ta σ H (.ref a)) (hs : SqL K H a (ns.map V.int)) (hp : ns.Pairwise (· ≤ ·)) (k : ∀ p H1, H p = none → Ex H H1 → H1 p = some (.lst (ns.map V.int)) → D.rt (.ref p) H1) : tRet (tCB (rSortedI K) (tCons ta tNil)) D σ H :=
  h H (Ex.refl H) _ fun H1 e1 => ⟨a, ns, rfl, ex_l e1 hs, fun ns' p hperm hpw hpn => by
    have e : ns' = ns := List.Perm.eq_of_pairwise (le := (· ≤ ·)) (fun a b _ _ h1 h2 => Int.le_antisymm h1 h2) hpw hp hperm
    subst e
    exact k p _ (fresh_back e1 hpn) (e1.trans (Ex.new hpn)) upd_same⟩
end
theorem atI_neg1 {xs : List Int} (h : 0 < xs.length) : atI (xs.map V.int) (-1) = some (.int (xs.getD (xs.length - 1) 0)) := by
  unfold atI ixN
  rw [List.length_map, if_neg (by omega), if_pos (by omega), Option.bind_some, show ((-1 : Int) + (xs.length : Int)).toNat = xs.length - 1 by omega, List.getElem?_map, List.getElem?_eq_getElem (by omega), List.getD_eq_getElem?_getD, List.getElem?_eq_getElem (by omega)]
  rfl
end Bt
namespace Bt
open PySem PySem.Spec PyProof.Rows L2 Evl
def topS (i : Nat) : Stmt := PySem.Challenge.pw_bothread_k08_whole_crossed.main.body.getD i (.Pass ⟨0, 0, 0, 0⟩)
abbrev s_is_whole : Stmt := (topS 5)
abbrev N_is_whole : List Str := ["thing"]
theorem sc_is_whole : FnScope N_is_whole ["thing"] (defScope s_is_whole) := ⟨rfl, rfl, rfl, by decide +kernel, rfl, by decide +kernel, by decide +kernel⟩

abbrev s_number_from : Stmt := (topS 6)
abbrev N_number_from : List Str := ["row", "base", "found", "figure"]
theorem sc_number_from : FnScope N_number_from ["row", "base"] (defScope s_number_from) := ⟨rfl, rfl, rfl, by decide +kernel, rfl, by decide +kernel, by decide +kernel⟩

abbrev s_crossed : Stmt := (topS 10)
abbrev N_crossed : List Str := ["many", "one", "other", "base", "rows", "least", "turn", "longer", "row", "found", "figure"]
theorem sc_crossed : FnScope N_crossed ["many", "one", "other"] (defScope s_crossed) := ⟨rfl, rfl, rfl, by decide +kernel, rfl, by decide +kernel, by decide +kernel⟩

abbrev s__law_cell_at : Stmt := (topS 12)
abbrev N__law_cell_at : List Str := ["_law_script", "_law_k"]
theorem sc__law_cell_at : FnScope N__law_cell_at ["_law_script", "_law_k"] (defScope s__law_cell_at) := ⟨rfl, rfl, rfl, by decide +kernel, rfl, by decide +kernel, by decide +kernel⟩

abbrev s__law_draw : Stmt := (topS 13)
abbrev N__law_draw : List Str := ["_law_cell", "_law_k", "_law_most", "_law_primes"]
theorem sc__law_draw : FnScope N__law_draw ["_law_cell", "_law_k", "_law_most"] (defScope s__law_draw) := ⟨rfl, rfl, rfl, by decide +kernel, rfl, by decide +kernel, by decide +kernel⟩

abbrev s__law_number : Stmt := (topS 14)
abbrev N__law_number : List Str := ["_law_cell", "_law_k", "_law_limit"]
theorem sc__law_number : FnScope N__law_number ["_law_cell", "_law_k", "_law_limit"] (defScope s__law_number) := ⟨rfl, rfl, rfl, by decide +kernel, rfl, by decide +kernel, by decide +kernel⟩

abbrev s__law_figures : Stmt := (topS 15)
abbrev N__law_figures : List Str := ["_law_number_here", "_law_base", "_law_found"]
theorem sc__law_figures : FnScope N__law_figures ["_law_number_here", "_law_base"] (defScope s__law_figures) := ⟨rfl, rfl, rfl, by decide +kernel, rfl, by decide +kernel, by decide +kernel⟩

abbrev s__law_whole : Stmt := (topS 16)
abbrev N__law_whole : List Str := ["_law_found"]
theorem sc__law_whole : FnScope N__law_whole ["_law_found"] (defScope s__law_whole) := ⟨rfl, rfl, rfl, by decide +kernel, rfl, by decide +kernel, by decide +kernel⟩

abbrev s__law_power : Stmt := (topS 17)
abbrev N__law_power : List Str := ["_law_base", "_law_times", "_law_found", "_law_turn"]
theorem sc__law_power : FnScope N__law_power ["_law_base", "_law_times"] (defScope s__law_power) := ⟨rfl, rfl, rfl, by decide +kernel, rfl, by decide +kernel, by decide +kernel⟩

abbrev s_law : Stmt := (topS 18)
abbrev N_law : List Str := ["_law_script", "_law_by", "_law_cell", "_law_many", "_law_one", "_law_other", "_law_due", "_law_number_here", "_law_row", "_law_again", "_law_found", "_law_told", "_law_rows"]
theorem sc_law : FnScope N_law ["_law_script"] (defScope s_law) := ⟨rfl, rfl, rfl, by decide +kernel, rfl, by decide +kernel, by decide +kernel⟩

structure Tx (K : PySem.W.Frag) (mg : Str → Option Value) where
  a_is_whole : Addr
  d_is_whole : FuncData
  F_is_whole : Fun K "is_whole" "is_whole" s_is_whole a_is_whole d_is_whole
  b_is_whole : Binds K d_is_whole ["thing"] []
  g_is_whole : mg "is_whole" = some (.ref a_is_whole)
  a_number_from : Addr
  d_number_from : FuncData
  F_number_from : Fun K "number_from" "number_from" s_number_from a_number_from d_number_from
  b_number_from : Binds K d_number_from ["row", "base"] []
  g_number_from : mg "number_from" = some (.ref a_number_from)
  a_crossed : Addr
  d_crossed : FuncData
  F_crossed : Fun K "crossed" "crossed" s_crossed a_crossed d_crossed
  b_crossed : Binds K d_crossed ["many", "one", "other"] []
  g_crossed : mg "crossed" = some (.ref a_crossed)
  a__law_cell_at : Addr
  d__law_cell_at : FuncData
  F__law_cell_at : Fun K "_law_cell_at" "_law_cell_at" s__law_cell_at a__law_cell_at d__law_cell_at
  b__law_cell_at : Binds K d__law_cell_at ["_law_script", "_law_k"] []
  g__law_cell_at : mg "_law_cell_at" = some (.ref a__law_cell_at)
  a__law_draw : Addr
  d__law_draw : FuncData
  F__law_draw : Fun K "_law_draw" "_law_draw" s__law_draw a__law_draw d__law_draw
  b__law_draw : Binds K d__law_draw ["_law_cell", "_law_k", "_law_most"] []
  g__law_draw : mg "_law_draw" = some (.ref a__law_draw)
  a__law_number : Addr
  d__law_number : FuncData
  F__law_number : Fun K "_law_number" "_law_number" s__law_number a__law_number d__law_number
  b__law_number : Binds K d__law_number ["_law_cell", "_law_k", "_law_limit"] []
  g__law_number : mg "_law_number" = some (.ref a__law_number)
  a__law_figures : Addr
  d__law_figures : FuncData
  F__law_figures : Fun K "_law_figures" "_law_figures" s__law_figures a__law_figures d__law_figures
  b__law_figures : Binds K d__law_figures ["_law_number_here", "_law_base"] []
  g__law_figures : mg "_law_figures" = some (.ref a__law_figures)
  a__law_whole : Addr
  d__law_whole : FuncData
  F__law_whole : Fun K "_law_whole" "_law_whole" s__law_whole a__law_whole d__law_whole
  b__law_whole : Binds K d__law_whole ["_law_found"] []
  g__law_whole : mg "_law_whole" = some (.ref a__law_whole)
  a__law_power : Addr
  d__law_power : FuncData
  F__law_power : Fun K "_law_power" "_law_power" s__law_power a__law_power d__law_power
  b__law_power : Binds K d__law_power ["_law_base", "_law_times"] []
  g__law_power : mg "_law_power" = some (.ref a__law_power)
  a_law : Addr
  d_law : FuncData
  F_law : Fun K "law" "law" s_law a_law d_law
  b_law : Binds K d_law ["_law_script"] []
  g_law : mg "law" = some (.ref a_law)
  m_all : mg "all" = none
  m_bool : mg "bool" = none
  m_int : mg "int" = none
  m_isinstance : mg "isinstance" = none
  m_len : mg "len" = none
  m_list : mg "list" = none
  m_max : mg "max" = none
  m_min : mg "min" = none
  m_range : mg "range" = none
  m_sorted : mg "sorted" = none
  k_MOST_TURNED : Tok
  c_MOST_TURNED : mg "MOST_TURNED" = some (.int 3 k_MOST_TURNED)
  k_CROSSED_BASE : Tok
  c_CROSSED_BASE : mg "CROSSED_BASE" = some (.int 12 k_CROSSED_BASE)
local macro_rules | `(tactic| walk_at "Mod") => `(tactic| first | assumption | omega)
local macro_rules | `(tactic| walk_at "FloorDiv") => `(tactic| first | assumption | exact ⟨by omega, by omega⟩)
local macro_rules | `(tactic| walk_at "Mult") => `(tactic| first | assumption | exact mulL (by omega) (by omega) | exact mulR (by omega) (by omega))
local macro_rules | `(tactic| walk_at "Pow") => `(tactic| first | assumption | exact ⟨by omega, by omega, by decide⟩ | exact ⟨by omega, by omega, by omega⟩)
/-! ### the mirrors over ints -/
def Big : Int := 2 ^ 20000
def figI (n b : Int) : List Int := (Bm.fig b.toNat n.toNat).map fun d : Nat => (d : Int)
def figV (n b : Int) : List V := (figI n b).map V.int
def valI (xs : List Int) (b : Int) : Int := xs.foldl (fun a d => a * b + d) 0
abbrev CNum (n b : Int) : Prop := 0 ≤ n ∧ n < Big ∧ 2 ≤ b ∧ b ≤ 1000
theorem ds_len_big {b n : Nat} (hb : 2 ≤ b) (h : (n : Int) < Big) : (Bm.ds b n).length ≤ 20000 := by
  rcases Nat.eq_zero_or_pos n with z | z
  · subst z
    rw [Bm.ds_lo (by omega)]
    decide
  · have d := Bm.ds_dn hb n z
    have h2 : n < 2 ^ 20000 := by
      have : ((2 ^ 20000 : Nat) : Int) = Big := by
        unfold Big
        rw [Int.natCast_pow]
        rfl
      omega
    have h3 : 2 ^ ((Bm.ds b n).length - 1) ≤ b ^ ((Bm.ds b n).length - 1) := Nat.pow_le_pow_left hb _
    have h4 : (2 : Nat) ^ ((Bm.ds b n).length - 1) < 2 ^ 20000 := Nat.lt_of_le_of_lt (Nat.le_trans h3 d) h2
    have := Bm.pow_lt (b := 2) (by omega) h4
    omega
theorem figI_nat (n b : Nat) : figI (n : Int) (b : Int) = (Bm.fig b n).map fun d : Nat => (d : Int) := by
  unfold figI
  rw [Int.toNat_natCast, Int.toNat_natCast]
theorem valI_nat (b : Nat) (l : List Nat) : valI (l.map fun d : Nat => (d : Int)) (b : Int) = ((Bm.val b l : Nat) : Int) := by
  have h : ∀ (l : List Nat) (a : Nat), (l.map fun d : Nat => (d : Int)).foldl (fun a d => a * (b : Int) + d) (a : Int) = ((l.foldl (fun a d => a * b + d) a : Nat) : Int) := by
    intro l
    induction l with
    | nil => intro a; rfl
    | cons d r ih =>
      intro a
      show (r.map fun d : Nat => (d : Int)).foldl (fun a d => a * (b : Int) + d) ((a : Int) * (b : Int) + (d : Int)) = _
      rw [← Int.natCast_mul, ← Int.natCast_add, ih]
      rfl
  exact h l 0
theorem figI_len {n b : Int} (h : CNum n b) : (figI n b).length ≤ 20000 ∧ 0 < (figI n b).length := by
  obtain ⟨h0, h1, h2, h3⟩ := h
  obtain ⟨k, rfl⟩ := Int.eq_ofNat_of_zero_le h0
  obtain ⟨c, rfl⟩ := Int.eq_ofNat_of_zero_le (show 0 ≤ b by omega)
  rw [figI_nat, List.length_map]
  unfold Bm.fig
  rw [List.length_reverse]
  exact ⟨ds_len_big (by omega) h1, Bm.ds_pos (by omega) k⟩
/-! ### the law's draws -/
def CellOk (c : Int) : Prop := c.natAbs < 2 ^ 1048576
theorem cell_bits {c : Int} (h : Builtin.Int.intBits c ≤ 1048576) : CellOk c := by
  unfold CellOk
  unfold Builtin.Int.intBits at h
  by_cases z : c.natAbs = 0
  · rw [z]
    exact Nat.pow_pos (by decide)
  · have h2 : c.natAbs.log2 + 1 ≤ 1048576 := by
      split at h
      · rename_i e
        first
          | exact absurd e z
          | exact absurd (by simpa using e) z
      · exact h
    exact Nat.lt_of_lt_of_le Nat.lt_log2_self (Nat.pow_le_pow_right (by decide) h2)
theorem pow_two_le {a b : Nat} (h : a ≤ b) : 2 ^ a ≤ 2 ^ b := Nat.pow_le_pow_right (by decide) h
theorem cell_add {c d : Int} (h : CellOk c) (hd : d.natAbs < 2 ^ 1000) : (c + d).natAbs < 2 ^ 1048577 := by
  have h1 : d.natAbs < 2 ^ 1048576 := Nat.lt_of_lt_of_le hd (pow_two_le (by decide))
  have h2 : c.natAbs < 2 ^ 1048576 := h
  have e : (2 : Nat) ^ 1048577 = 2 ^ 1048576 + 2 ^ 1048576 := by
    rw [show 1048577 = 1048576 + 1 from rfl, Nat.pow_succ, Nat.mul_two]
  have : (c + d).natAbs ≤ c.natAbs + d.natAbs := Int.natAbs_add_le c d
  generalize (2 : Nat) ^ 1048576 = q at *
  omega
theorem small_bits {d : Int} (h0 : 0 ≤ d) (h : d < 10 ^ 100) : d.natAbs < 2 ^ 1000 := by
  have h1 : d.natAbs < 10 ^ 100 := by omega
  have h2 : (10 : Nat) ^ 100 ≤ 2 ^ 400 := by decide
  exact Nat.lt_of_lt_of_le (Nat.lt_of_lt_of_le h1 h2) (pow_two_le (by decide))
theorem cell_mul {a b : Int} (ha : a.natAbs < 2 ^ 1048577) (hb : b.natAbs < 2 ^ 1048577) : IntMulOk a b := by
  have l1 := PySem.Flt.log2_lt_of (by decide) ha
  have l2 := PySem.Flt.log2_lt_of (by decide) hb
  have b1 : ∀ x : Int, Builtin.Int.intBits x ≤ x.natAbs.log2 + 1 := fun x => by
    unfold Builtin.Int.intBits
    split <;> omega
  have h1 := b1 a
  have h2 := b1 b
  have e : bitsLine = 134217728 := by decide
  unfold IntMulOk
  intro z
  rw [Bool.and_eq_true] at z
  have z2 := z.2
  unfold Builtin.Int.intTooBig at z2
  have z3 := of_decide_eq_true z2
  rw [e] at z3
  omega
def primes : List Int := [1000003, 1000033, 1000037, 1000039, 1000081, 1000099, 1000117, 1000121, 1000133, 1000151, 1000159, 1000171, 1000183, 1000187, 1000193, 1000199]
def cellI (ns : List Int) (k : Int) : Int := ns.getD k.toNat 0
def drawI (c k m : Int) : Int := (c * 48271 + k * 69621) % (primes.getD (k % 16).toNat 0) % m
def numI (c k l : Int) : Int := if 10 ^ 18 ≤ c then (c - 10 ^ 18) / (([1, 7, 49, 343, 2401] : List Int).getD (k % 5).toNat 0) % l else drawI ((c + 977 * k) * (c + 31 * k + 5)) (k % 9 + 1) 999983 % l
def greatI (ns : List Int) (k : Int) : Int := numI (cellI ns k) (k + 2) (([20, 2000, 10 ^ 9, 10 ^ 40] : List Int).getD (numI (cellI ns k) (k + 1) 4).toNat 0)
def baseI (ns : List Int) (k : Int) : Int := if numI (cellI ns k) (k + 8) 3 = 0 then 2 + numI (cellI ns k) (k + 9) 999 else ([2, 3, 10, 16, 7, 1000] : List Int).getD (numI (cellI ns k) (k + 3) 6).toNat 0
theorem atI_ints {xs : List Int} {i : Int} (h0 : 0 ≤ i) (h1 : i < xs.length) : atI (xs.map V.int) i = some (.int (xs.getD i.toNat 0)) := by
  obtain ⟨j, rfl⟩ := Int.eq_ofNat_of_zero_le h0
  have hj : j < xs.length := by omega
  refine atI_nat (j := j) ?_
  rw [List.getElem?_map, List.getElem?_eq_getElem hj, Int.toNat_natCast, List.getD_eq_getElem?_getD, List.getElem?_eq_getElem hj]
  rfl
theorem getD_all {xs : List Int} {P : Int → Prop} (h : ∀ x ∈ xs, P x) {i : Nat} (hi : i < xs.length) : P (xs.getD i 0) := by
  rw [List.getD_eq_getElem?_getD, List.getElem?_eq_getElem hi]
  exact h _ (List.getElem_mem hi)
theorem primes_pos {k : Int} : 0 < primes.getD (k % 16).toNat 0 := by
  have : (k % 16).toNat < primes.length := by
    show (k % 16).toNat < 16
    omega
  exact getD_all (P := fun x => 0 < x) (by decide) this
theorem fives_pos {k : Int} : 0 < ([1, 7, 49, 343, 2401] : List Int).getD (k % 5).toNat 0 ∧ ([1, 7, 49, 343, 2401] : List Int).getD (k % 5).toNat 0 < 1073741824 := by
  have : (k % 5).toNat < ([1, 7, 49, 343, 2401] : List Int).length := by
    show (k % 5).toNat < 5
    omega
  exact getD_all (P := fun x => 0 < x ∧ x < 1073741824) (by decide) this
theorem numI_bd {c k l : Int} (h : 0 < l) : 0 ≤ numI c k l ∧ numI c k l < l := by
  unfold numI
  split
  · exact ⟨Int.emod_nonneg _ (by omega), Int.emod_lt_of_pos _ h⟩
  · exact ⟨Int.emod_nonneg _ (by omega), Int.emod_lt_of_pos _ h⟩
theorem wides_pos {i : Int} (h0 : 0 ≤ i) (h : i < 4) : 0 < ([20, 2000, 10 ^ 9, 10 ^ 40] : List Int).getD i.toNat 0 ∧ ([20, 2000, 10 ^ 9, 10 ^ 40] : List Int).getD i.toNat 0 ≤ 10 ^ 40 := by
  have : i.toNat < ([20, 2000, 10 ^ 9, 10 ^ 40] : List Int).length := by
    show i.toNat < 4
    omega
  exact getD_all (P := fun x => 0 < x ∧ x ≤ 10 ^ 40) (by decide) this
theorem greatI_bd (ns : List Int) (k : Int) : 0 ≤ greatI ns k ∧ greatI ns k < 10 ^ 40 := by
  have a := numI_bd (c := cellI ns k) (k := k + 1) (l := 4) (by decide)
  have b := wides_pos a.1 a.2
  have c := numI_bd (c := cellI ns k) (k := k + 2) b.1
  exact ⟨c.1, Int.lt_of_lt_of_le c.2 b.2⟩
theorem baseI_bd (ns : List Int) (k : Int) : 2 ≤ baseI ns k ∧ baseI ns k ≤ 1000 := by
  unfold baseI
  split
  · have a := numI_bd (c := cellI ns k) (k := k + 9) (l := 999) (by decide)
    omega
  · have a := numI_bd (c := cellI ns k) (k := k + 3) (l := 6) (by decide)
    have : (numI (cellI ns k) (k + 3) 6).toNat < ([2, 3, 10, 16, 7, 1000] : List Int).length := by
      show _ < 6
      omega
    exact getD_all (P := fun x => 2 ≤ x ∧ x ≤ 1000) (by decide) this
abbrev CellsOk (ns : List Int) : Prop := ∀ n ∈ ns, CellOk n
theorem cellI_ok {ns : List Int} (h : CellsOk ns) (k : Int) : CellOk (cellI ns k) := by
  unfold cellI
  rw [List.getD_eq_getElem?_getD]
  cases e : ns[k.toNat]? with
  | none =>
    show CellOk 0
    exact Nat.pow_pos (by decide)
  | some x => exact h x (List.mem_of_getElem? e)
theorem big_of {n : Int} (h : n < 10 ^ 600) : n < Big := by
  have e : (10 : Nat) ^ 600 ≤ 2 ^ 20000 := by
    have h1 : (10 : Nat) ^ 600 ≤ 16 ^ 600 := Nat.pow_le_pow_left (by decide) _
    have h2 : (16 : Nat) ^ 600 = 2 ^ (4 * 600) := by
      rw [Nat.pow_mul]
    rw [h2] at h1
    exact Nat.le_trans h1 (pow_two_le (by decide))
  have e2 : (10 : Int) ^ 600 ≤ Big := by
    unfold Big
    have := Int.ofNat_le.mpr e
    rw [Int.natCast_pow, Int.natCast_pow] at this
    exact this
  exact Int.lt_of_lt_of_le h e2
theorem big_40 {n : Int} (h : n < 10 ^ 100) : n < Big := big_of (Int.lt_trans h (by
  have h1 : (10 : Int) ^ 100 * 1 < 10 ^ 100 * 10 ^ 500 := Int.mul_lt_mul_of_pos_left (by
    have : ((1 : Nat) : Int) < ((10 ^ 500 : Nat) : Int) := Int.ofNat_lt.mpr (Nat.one_lt_pow (by decide) (by decide))
    rw [Int.natCast_pow] at this
    exact this) (Int.pow_pos (by decide))
  rw [Int.mul_one, ← Int.pow_add] at h1
  exact h1))
/-! ### counted: the mirrors over ints -/
def Mid : Int := 2 ^ 700
def cntI (m b : Int) : Int := ((Bm.cnt b.toNat m.toNat : Nat) : Int)
def madeI (h m b : Int) : Int := ((Bm.made b.toNat h.toNat m.toNat : Nat) : Int)
def nbI (a b : Int) : Int := ((Bm.nb b.toNat a.toNat : Nat) : Int)
def blI (n b : Int) : Int := ((Bm.bl b.toNat n.toNat : Nat) : Int)
abbrev CB (b : Int) : Prop := 2 ≤ b ∧ b ≤ 1000
abbrev CAt (a b : Int) : Prop := 0 ≤ a ∧ a < Mid ∧ CB b
theorem mid_nat {n : Nat} (h : (n : Int) < Mid) : n < 2 ^ 700 := by
  have : ((2 ^ 700 : Nat) : Int) = Mid := by
    unfold Mid
    rw [Int.natCast_pow]
    rfl
  omega
theorem nat_mid {n : Nat} (h : n < 2 ^ 700) : (n : Int) < Mid := by
  have : ((2 ^ 700 : Nat) : Int) = Mid := by
    unfold Mid
    rw [Int.natCast_pow]
    rfl
  omega
theorem nat_big {n : Nat} (h : n < 2 ^ 20000) : (n : Int) < Big := by
  have : ((2 ^ 20000 : Nat) : Int) = Big := by
    unfold Big
    rw [Int.natCast_pow]
    rfl
  omega
theorem mid_of {n : Int} (h : n < 10 ^ 200) : n < Mid := by
  have e : (10 : Nat) ^ 200 ≤ 2 ^ 700 := by decide +kernel
  have e2 : (10 : Int) ^ 200 ≤ Mid := by
    unfold Mid
    have := Int.ofNat_le.mpr e
    rw [Int.natCast_pow, Int.natCast_pow] at this
    exact this
  exact Int.lt_of_lt_of_le h e2
theorem nb_cn {a b : Int} (h : CAt a b) : CNum (nbI a b) b := by
  obtain ⟨h0, h1, h2, h3⟩ := h
  obtain ⟨k, rfl⟩ := Int.eq_ofNat_of_zero_le h0
  obtain ⟨c, rfl⟩ := Int.eq_ofNat_of_zero_le (show 0 ≤ b by omega)
  refine ⟨by unfold nbI; omega, ?_, h2, h3⟩
  unfold nbI
  rw [Int.toNat_natCast, Int.toNat_natCast]
  refine nat_big (Nat.lt_of_lt_of_le (Bm.size_of_bl (b := c) (by omega) (by omega) ?_) (pow_two_le (by decide)))
  rw [(Bm.nb_ok (by omega) k).1]
  exact mid_nat h1
section
variable {P : Program} {w : World} {K : PySem.W.Frag} {mg : Str → Option Value} {base : Heap}
def sp_is_whole : Sp := spI1 (fun _ => True) fun _ => .bl true
theorem ok_is_whole (T : Tx K mg) : FnOk P w K mg base CX0 1 T.a_is_whole T.d_is_whole ["thing"] sp_is_whole := by
  refine T.F_is_whole.ok sc_is_whole (fun vs H Q E h => ?_) (fun cdv A outer s H vs Q E hr h => ?_)
  · obtain ⟨a, rfl, _⟩ := h
    rfl
  · obtain ⟨a, rfl, _, q⟩ := h
    refine ⟨_, (pss_one (ps_ret (pe_and (pe_callB call_isi (by rfl) T.m_isinstance (by decide +kernel) (pa_cons (pv 0) (pa_cons (pe_bltn (v := .ty "int") (by rfl) T.m_int (by decide +kernel) rfl) pa_nil))) (pe_one (pe_not (pe_callB call_isi (by rfl) T.m_isinstance (by decide +kernel) (pa_cons (pv 0) (pa_cons (pe_bltn (v := .ty "bool") (by rfl) T.m_bool (by decide +kernel) rfl) pa_nil)))))))), ?_⟩
    exact s_ret (ev_andV (ev_isI (b := true) (ev_var rfl) (by decide +kernel)) fun _ => ev_notV (ev_isI (b := false) (ev_var rfl) (by decide +kernel))) q

def sp_number_from (K : PySem.W.Frag) : Sp := spR K (fun _ b => 2 ≤ b ∧ b ≤ 1000) fun xs b => .int (valI xs b)
theorem ok_number_from (T : Tx K mg) : FnOk P w K mg base CX0 1 T.a_number_from T.d_number_from ["row", "base"] (sp_number_from K) := by
  refine T.F_number_from.ok sc_number_from (fun vs H Q E h => ?_) (fun cdv A outer s H vs Q E hr h => ?_)
  · obtain ⟨p, xs, b, rfl, _⟩ := h
    rfl
  · obtain ⟨p, xs, b, rfl, hs, hb, q⟩ := h
    refine ⟨_, (pss_cons (ps_set (i := 2) sc_number_from.nd rfl (Or.inl rfl) pe_int)
      (pss_cons (ps_for PassesOwn.never rfl (pi_list (pv 0)) (pg_name (i := 3) sc_number_from.nd rfl (Or.inl rfl))
      (pss_one (ps_set (i := 2) sc_number_from.nd rfl (Or.inl rfl) (pe_op op_add (pe_op op_mulX (pv 2) (pv 1)) (pv 3)))))
      (pss_one (ps_ret (pv 2))))), ?_⟩
    refine q_asg ev_c fun H1 e1 => ?_
    refine q_forLn (ev_var rfl) (ex_l e1 hs) (fun i σ' H' => (∃ y, σ' = [some (.ref p), some (.int b), some (.int (valI (xs.take i) b)), y]) ∧ Ex H H') (fun H2 e2 => ⟨⟨_, rfl⟩, e1.trans e2⟩) (fun i σ' H' _ w => ex_l w.2 hs) (fun i x σ' H' hx w => ?_) (fun σ' H' w => ?_)
    · obtain ⟨⟨y, rfl⟩, ex⟩ := w
      rw [List.getElem?_map] at hx
      obtain ⟨d, hd, rfl⟩ := Option.map_eq_some_iff.mp hx
      refine s_asg (ev_op (ev_op (ev_var rfl) (ev_var rfl) (rv_I (mulR (by omega) (by omega)))) (ev_var rfl) rv_I0) fun H2 e2 => ⟨⟨some (.int d), ?_⟩, ex.trans e2⟩
      have : valI (xs.take (i + 1)) b = valI (xs.take i) b * b + d := by
        unfold valI
        rw [List.take_add_one, hd, List.foldl_append]
        rfl
      rw [this]
      rfl
    · obtain ⟨⟨y, rfl⟩, ex⟩ := w
      rw [List.length_map, List.take_length]
      exact s_ret (ev_var rfl) fun H2 e2 => q H2 (ex.trans e2)

def crI (m a b : Int) : List Int := (Bm.due m.toNat a.toNat b.toNat).map fun d : Nat => (d : Int)
def crV (m a b : Int) : List V := (crI m a b).map V.int
abbrev CC (b : Int) : Prop := 2 ≤ b ∧ b ≤ 12
abbrev CCr (m a b : Int) : Prop := (1 ≤ m ∧ m ≤ 3) ∧ CC a ∧ CC b
def ci (r : List Nat) : List Int := r.map fun d : Nat => (d : Int)
def sp_crossed : Sp := spL3 CCr crV
set_option maxHeartbeats 4000000 in
theorem ok_crossed (T : Tx K mg) : FnOk P w K mg base CX0 2 T.a_crossed T.d_crossed ["many", "one", "other"] sp_crossed := by
  refine T.F_crossed.ok sc_crossed (fun vs H Q E h => ?_) (fun cdv A outer s H vs Q E hr h => ?_)
  · obtain ⟨a, b, c, rfl, _⟩ := h
    rfl
  · obtain ⟨m, a, b, rfl, ⟨cm, ca, cb⟩, q⟩ := h
    refine ⟨_, (pss_cons (ps_if (PW.pt (pw_or (pt_not (pt_val (pe_call (ok_is_whole T) (hr.mono (by decide)) (by rfl) T.g_is_whole T.F_is_whole.kp T.b_is_whole .nil pass0 (pa_cons (pv 0) pa_nil)))) (pw_or1 (pt_not (pt_chain op_le op_le pe_int (pv 0) (pe_glob (v := .int 3) (by rfl) T.c_MOST_TURNED ⟨_, rfl⟩)))))) (pss_one ps_never) pss_nil)
      (pss_cons (ps_for PassesOwn.never rfl (pi_tup (pe_tup (pa_cons (pv 1) (pa_cons (pv 2) pa_nil)))) (pg_name (i := 3) sc_crossed.nd rfl (Or.inl rfl))
      (pss_one (ps_if (PW.pt (pw_or (pt_not (pt_val (pe_call (ok_is_whole T) (hr.mono (by decide)) (by rfl) T.g_is_whole T.F_is_whole.kp T.b_is_whole .nil pass0 (pa_cons (pv 3) pa_nil)))) (pw_or1 (pt_not (pt_chain op_le op_le pe_int (pv 3) (pe_glob (v := .int 12) (by rfl) T.c_CROSSED_BASE ⟨_, rfl⟩)))))) (pss_one ps_never) pss_nil)))
      (pss_cons (ps_par (i := 4) (j := 5) (by rfl) sc_crossed.nd rfl rfl (by decide) rfl rfl (pa_cons (pe_lst (pa_cons (pe_lst pa_nil) pa_nil)) (pa_cons (pe_callB (r := rMin2) (call_min2 rfl) (by rfl) T.m_min (by decide +kernel) (pa_cons (pv 1) (pa_cons (pv 2) pa_nil))) pa_nil)) (by rfl))
      (pss_cons (ps_for PassesOwn.never rfl (pi_range1 (by rfl) T.m_range (pa_cons (pv 0) pa_nil)) (pg_name (i := 6) sc_crossed.nd rfl (Or.inl rfl))
      (pss_cons (ps_set (i := 7) sc_crossed.nd rfl (Or.inl rfl) (pe_lst pa_nil))
      (pss_cons (ps_for PassesOwn.never rfl (pi_list (pv 4)) (pg_name (i := 8) sc_crossed.nd rfl (Or.inr rfl))
      (pss_one (ps_expr (pe_bm PySem.F.plainAttrs_list PySem.F.slot_list_extend PySem.F.type_list_extend mt_extend (pv 7) (pa_cons (pe_lc (own := [("figure", 10)]) (g := gName 10) (tt := tYes) (by rfl) sc_crossed.nd (pi_range1 (by rfl) T.m_range (pa_cons (pv 5) pa_nil)) (blkOk_by (own := [("figure", 10)]) (N := N_crossed) (sc := defScope s_crossed) (by decide +kernel)) (fun _ _ _ _ _ => pg_name (i := 10) sc_crossed.nd rfl (Or.inl rfl)) (fun _ _ _ _ _ => pts_nil) (fun _ _ _ _ _ => (pe_op op_cat (pv 8) (pe_lst (pa_cons (pv 10) pa_nil))))) pa_nil)))))
      (pss_one (ps_set (i := 4) sc_crossed.nd rfl (Or.inl rfl) (pv 7))))))
      (pss_cons (ps_set (i := 9) sc_crossed.nd rfl (Or.inl rfl) (pe_lst pa_nil))
      (pss_cons (ps_for PassesOwn.never rfl (pi_list (pv 4)) (pg_name (i := 8) sc_crossed.nd rfl (Or.inr rfl))
      (pss_one (ps_if (PW.pt (pw_and (PW.pt (pw_or (pt_cmpR op_eq (pv 0) pe_int (nomark _)) (pw_or1 (pt_cmpR op_gt (pe_op op_mulX (pe_ix ix_list (pv 8) pe_int (fun _ _ => rfl)) (pe_ix ix_list (pv 8) (pe_un un_neg pe_int) (fun _ _ => rfl))) pe_int (nomark _))))) (pw_and1 (pt_cmpR op_eq (pe_call (ok_number_from T) (hr.mono (by decide)) (by rfl) T.g_number_from T.F_number_from.kp T.b_number_from .nil pass0 (pa_cons (pv 8) (pa_cons (pv 1) pa_nil))) (pe_call (ok_number_from T) (hr.mono (by decide)) (by rfl) T.g_number_from T.F_number_from.kp T.b_number_from .nil pass0 (pa_cons (pe_revL (pv 8)) (pa_cons (pv 2) pa_nil))) (nomark _))))) (pss_one (ps_expr (pe_bm PySem.F.plainAttrs_list PySem.F.slot_list_append PySem.F.type_list_append mt_append (pv 9) (pa_cons (pe_call (ok_number_from T) (hr.mono (by decide)) (by rfl) T.g_number_from T.F_number_from.kp T.b_number_from .nil pass0 (pa_cons (pv 8) (pa_cons (pv 1) pa_nil))) pa_nil)))) pss_nil)))
      (pss_one (ps_ret (pe_callB cr_sortedI (by rfl) T.m_sorted (by decide +kernel) (pa_cons (pv 9) pa_nil)))))))))), ?_⟩
    refine q_no (et_or (et_not (et_B (ec1 (ev_var rfl) trivial))) fun _ => (et_not (et_test (ev_chain ev_c (ev_var rfl) ev_c rv_I0 fun _ => rv_I0)))) ?_ fun H1 e1 => ?_
    · rw [decide_eq_true cm.1, decide_eq_true cm.2]
      rfl
    refine q_forUI (ns := [a, b]) (eu_tup (ea_cons (ev_var rfl) (ea_cons (ev_var rfl) ea_nil)) (by simp)) (fun i σ' H' => (∃ y3, σ' = [some (.int m), some (.int a), some (.int b), y3, none, none, none, none, none, none, none]) ∧ Ex H H') (fun H2 e2 => ⟨⟨_, rfl⟩, e1.trans e2⟩) (fun i n H0 σ' H2 e2 e3 hn w => ?_) (fun σ' H2 e2 w => ?_)
    · obtain ⟨⟨y3, rfl⟩, ex⟩ := w
      have cn : CC n := by
        simp only [List.mem_cons, List.not_mem_nil, or_false] at hn
        rcases hn with rfl | rfl
        · exact ca
        · exact cb
      refine s_no (et_or (et_not (et_B (ec1 (ev_var rfl) trivial))) fun _ => (et_not (et_test (ev_chain ev_c (ev_var rfl) ev_c rv_I0 fun _ => rv_I0)))) ?_ fun H4 e4 => ⟨⟨⟨_, rfl⟩, ex.trans e4⟩, e3.trans e4⟩
      rw [decide_eq_true cn.1, decide_eq_true cn.2]
      rfl
    · obtain ⟨⟨y3, rfl⟩, ex2⟩ := w
      obtain ⟨m', rfl⟩ := Int.eq_ofNat_of_zero_le (show 0 ≤ m by omega)
      obtain ⟨a', rfl⟩ := Int.eq_ofNat_of_zero_le (show 0 ≤ a by omega)
      obtain ⟨b', rfl⟩ := Int.eq_ofNat_of_zero_le (show 0 ≤ b by omega)
      have hL : (if (b' : Int) < (a' : Int) then (b' : Int) else (a' : Int)) = ((Bm.mn a' b' : Nat) : Int) := by
        unfold Bm.mn
        by_cases z : b' < a'
        · rw [if_pos z, if_pos (by omega)]
        · rw [if_neg z, if_neg (by omega)]
      have hfn : (crI (m' : Int) (a' : Int) (b' : Int)) = (((Bm.rws (Bm.mn a' b') m').filter (Bm.cnd m' a' b')).map (Bm.val a')).map fun d : Nat => (d : Int) := by
        unfold crI
        rw [Int.toNat_natCast, Int.toNat_natCast, Int.toNat_natCast, ← Bm.cross_ok (by omega) (by omega) (by omega)]
        rfl
      have hL12 : Bm.mn a' b' ≤ 12 := by
        unfold Bm.mn
        split <;> omega
      generalize Bm.mn a' b' = L at *
      refine q_parR (w := .int (L : Int)) (ev_is (ev_min2 (ev_var rfl) (ev_var rfl)) (congrArg V.int hL)) fun p0 a0 H3 e3 l3 l3a => ?_
      have hpw : ∀ i, i ≤ 3 → L ^ i ≤ 1728 := fun i hi => Nat.le_trans (Nat.pow_le_pow_left hL12 i) (Nat.le_trans (Nat.pow_le_pow_right (by decide) hi) (by decide))
      refine q_forR1 (n := (m' : Int)) (ea_cons (ev_var rfl) ea_nil) (by omega) (fun i σ' H' => (∃ pr us y6 y7 y8, σ' = [some (.int (m' : Int)), some (.int (a' : Int)), some (.int (b' : Int)), y3, some (.ref pr), some (.int (L : Int)), y6, y7, y8, none, none] ∧ H' pr = some (.lst us) ∧ RowsP (fun _ => True) H' us ((Bm.rws L i).map ci)) ∧ Ex H H') (fun H4 e4 => ⟨⟨p0, _, _, _, _, rfl, e4 _ _ l3, .cons trivial (e4 _ _ l3a) .nil⟩, ex2.trans (e3.trans e4)⟩) (fun i σ' H4 hi w => ?_) (fun σ' H4 w => ?_)
      · obtain ⟨⟨pr, us, y6, y7, y8, rfl, lr, hrw⟩, ex4⟩ := w
        have hi3 : i < 3 := by omega
        have hrl := Bm.rws_len L i
        have hp1 := hpw i (by omega)
        have hp2 := hpw (i + 1) (by omega)
        refine q_asgL (el_lst ea_nil (by simp)) fun pl H5 hpl e5 l5 => ?_
        refine q_forLn (a := pr) (xs := us) (ev_var rfl) (sq_of (e5 _ _ lr)) (fun j σ' H' => (∃ y8, σ' = [some (.int (m' : Int)), some (.int (a' : Int)), some (.int (b' : Int)), y3, some (.ref pr), some (.int (L : Int)), some (.int (i : Int)), some (.ref pl), y8, none, none]) ∧ Ex H4 H' ∧ ∃ us2, H' pl = some (.lst us2) ∧ RowsP (fun a => a ≠ pl) H' us2 ((((Bm.rws L i).take j).flatMap fun r => (List.range L).map fun d => r ++ [d]).map ci)) (fun H6 e6 => ⟨⟨_, rfl⟩, e5.trans e6, [], e6 _ _ l5, .nil⟩) (fun j σ' H6 _ w => sq_of (w.2.1 _ _ lr)) (fun j x σ' H6 hx w => ?_) (fun σ' H6 w => ?_)
        · obtain ⟨⟨y8, rfl⟩, ex6, us2, l6, hr6⟩ := w
          obtain ⟨ar, r, rfl, hg, _, har⟩ := hrw.get hx
          rw [List.getElem?_map] at hg
          obtain ⟨rn, hrn, rfl⟩ := Option.map_eq_some_iff.mp hg
          have har6 := ex6 _ _ har
          have hmem := Bm.rws_mem (List.mem_of_getElem? hrn)
          have hst : ((Bm.rws L i).take (j + 1)).flatMap (fun r => (List.range L).map fun d => r ++ [d]) = ((Bm.rws L i).take j).flatMap (fun r => (List.range L).map fun d => r ++ [d]) ++ (List.range L).map fun d => rn ++ [d] := by
            rw [List.take_add_one, hrn, List.flatMap_append]
            congr 1
            show List.flatMap _ [rn] = _
            rw [List.flatMap_cons, List.flatMap_nil, List.append_nil]
          have hl1 : (((Bm.rws L i).take j).flatMap (fun r => (List.range L).map fun d => r ++ [d])).length ≤ 1728 * 12 := by
            rw [Bm.flat_len _ (L := L) (fun r => by rw [List.length_map, List.length_range]), List.length_take]
            exact Nat.mul_le_mul (by omega) hL12
          rw [hst, List.map_append]
          refine s_extR (rs2 := (List.range L).map fun d : Nat => ci rn ++ [(d : Int)]) l6 hr6 (ev_var rfl) (er_lcR1 (n := L) (fun d : Nat => ci rn ++ [(d : Int)]) (ea_cons (ev_var rfl) ea_nil) (by omega) (fun _ => rfl) (fun d H7 e7 hd => ?el)) ?sz (fun us3 H7 e7 hr7 => ⟨⟨_, rfl⟩, Ex.mut (ex6.trans e7) hpl, us3, upd_same, ?_⟩)
          case el =>
            have := el_catN (tb := tLst (tCons (tVar 10) tNil)) (zs := [V.int (d : Int)]) (ta := tVar 8) (σ := (wipe [some (.int (m' : Int)), some (.int (a' : Int)), some (.int (b' : Int)), y3, some (.ref pr), some (.int (L : Int)), some (.int (i : Int)), some (.ref pl), some (.ref ar), none, none] [10]).set 10 (some (.int (d : Int)))) (ev_var rfl) (e7 _ _ har6) (el_lst (ea_cons (ev_var rfl) ea_nil) (by simp)) (by unfold ci; rw [List.length_map, List.length_map, hmem.1, List.length_singleton]; omega)
            rw [List.map_append]
            exact this
          case sz =>
            rw [List.length_map, List.length_map, List.length_range]
            omega
          · have e : ((List.range L).map fun d => rn ++ [d]).map ci = (List.range L).map fun d : Nat => ci rn ++ [(d : Int)] := by
              rw [List.map_map]
              refine List.map_congr_left fun d _ => ?_
              show ci (rn ++ [d]) = _
              unfold ci
              rw [List.map_append]
              rfl
            rw [e]
            exact hr7
        · obtain ⟨⟨y8, rfl⟩, ex6, us2, l6, hr6⟩ := w
          have hlen := hrw.len
          rw [List.length_map] at hlen
          rw [hlen, List.take_length] at hr6
          exact s_asg (ev_var rfl) fun H7 e7 => ⟨⟨pl, us2, _, _, _, rfl, e7 _ _ l6, hr6.mono (fun _ _ => trivial) fun _ _ _ h => e7 _ _ h⟩, ex4.trans (ex6.trans e7)⟩
      · obtain ⟨⟨pr, us, y6, y7, y8, rfl, lr, hrw⟩, ex4⟩ := w
        rw [Int.toNat_natCast] at hrw
        have hp1 := hpw m' (by omega)
        have hrl := Bm.rws_len L m'
        refine q_asgL (el_lst ea_nil (by simp)) fun pf H5 hpf e5 l5 => ?_
        refine q_forLn (a := pr) (xs := us) (ev_var rfl) (sq_of (e5 _ _ lr)) (fun j σ' H' => (∃ y8, σ' = [some (.int (m' : Int)), some (.int (a' : Int)), some (.int (b' : Int)), y3, some (.ref pr), some (.int (L : Int)), y6, y7, y8, some (.ref pf), none]) ∧ Ex H4 H' ∧ H' pf = some (.lst ((((((Bm.rws L m').take j).filter (Bm.cnd m' a' b')).map (Bm.val a')).map fun d : Nat => (d : Int)).map V.int))) (fun H6 e6 => ⟨⟨_, rfl⟩, e5.trans e6, e6 _ _ l5⟩) (fun j σ' H6 _ w => sq_of (w.2.1 _ _ lr)) (fun j x σ' H6 hx w => ?_) (fun σ' H6 w => ?_)
        · obtain ⟨⟨y8, rfl⟩, ex6, l6⟩ := w
          obtain ⟨ar, r, rfl, hg, _, har⟩ := hrw.get hx
          rw [List.getElem?_map] at hg
          obtain ⟨rn, hrn, rfl⟩ := Option.map_eq_some_iff.mp hg
          have har6 := ex6 _ _ har
          have hmem := Bm.rws_mem (List.mem_of_getElem? hrn)
          have hst : (((Bm.rws L m').take (j + 1)).filter (Bm.cnd m' a' b')).map (Bm.val a') = (((Bm.rws L m').take j).filter (Bm.cnd m' a' b')).map (Bm.val a') ++ (if Bm.cnd m' a' b' rn = true then [Bm.val a' rn] else []) := by
            rw [List.take_add_one, hrn, List.filter_append, List.map_append]
            congr 1
            show List.map _ (List.filter _ [rn]) = _
            by_cases z : Bm.cnd m' a' b' rn = true
            · rw [if_pos z, List.filter_cons_of_pos z]
              rfl
            · rw [if_neg z, List.filter_cons_of_neg z]
              rfl
          have hl1 : ((((Bm.rws L m').take j).filter (Bm.cnd m' a' b')).map (Bm.val a')).length ≤ 1728 := by
            rw [List.length_map]
            refine Nat.le_trans (List.length_filter_le _ _) ?_
            rw [List.length_take]
            omega
          rw [hst]
          have cla : (ci rn).length = m' := by
            unfold ci
            rw [List.length_map]
            exact hmem.1
          have gd : ∀ i, (ci rn).getD i 0 = ((rn.getD i 0 : Nat) : Int) := fun i => by
            unfold ci
            rw [List.getD_eq_getElem?_getD, List.getD_eq_getElem?_getD, List.getElem?_map]
            cases rn[i]? <;> rfl
          have gb : ∀ i, 0 ≤ (ci rn).getD i 0 ∧ (ci rn).getD i 0 < 13 := fun i => by
            rw [gd, List.getD_eq_getElem?_getD]
            cases e : rn[i]? with
            | none => exact ⟨by decide, by decide⟩
            | some d =>
              have := hmem.2 d (List.mem_of_getElem? e)
              show (0 : Int) ≤ (d : Int) ∧ (d : Int) < 13
              omega
          have g0 := gb (Int.toNat 0)
          have cB1 : (2 : Int) ≤ (a' : Int) ∧ (a' : Int) ≤ 1000 := ⟨ca.1, by omega⟩
          have cB2 : (2 : Int) ≤ (b' : Int) ∧ (b' : Int) ≤ 1000 := ⟨cb.1, by omega⟩
          have rsq : SqL K H6 ar ((ci rn).map V.int) := sq_of har6
          have evv : valI (ci rn) (a' : Int) = ((Bm.val a' rn : Nat) : Int) := valI_nat a' rn
          have evw : valI (ci rn).reverse (b' : Int) = ((Bm.val b' rn.reverse : Nat) : Int) := by
            unfold ci
            rw [← List.map_reverse, valI_nat]
          refine s_when (b := Bm.cnd m' a' b' rn) (et_is (et_and (et_or (et_test (ev_op (ev_var rfl) ev_c (rv_eq rfl))) fun _ => (et_test (ev_op (ev_op (ev_ixV (ev_var rfl) rsq ev_c (by first | exact atI_ints (by decide) (by omega) | exact atI_neg1 (by omega))) (ev_ixV (ev_var rfl) rsq (ev_un ev_c ru_neg) (by first | exact atI_ints (by decide) (by omega) | exact atI_neg1 (by omega))) (rv_I (mulL (by omega) (by omega)))) ev_c rv_I0))) fun _ => (et_test (ev_op (ecR (ev_var rfl) rsq (ev_var rfl) cB1) (ecRN (elI (ys := (ci rn).reverse) (el_rev (ev_var rfl) rsq) (List.map_reverse).symm) (ev_var rfl) cB2) (rv_eq rfl)))) ?_) (fun hb H7 e7 => ?_) (fun hb H7 e7 => ?_)
          · unfold Bm.cnd
            rw [evv, evw, show Int.toNat 0 = 0 from rfl, gd, gd, cla, hmem.1]
            congr 1
            · congr 1
              · exact decide_eq_decide.mpr ⟨fun z => by have := V.int.inj z; omega, fun z => by rw [z]; rfl⟩
              · rw [← Int.natCast_mul]
                exact decide_eq_decide.mpr (by omega)
            · exact decide_eq_decide.mpr ⟨fun z => by have := V.int.inj z; omega, fun z => by rw [z]⟩
          · rw [if_pos hb, List.map_append, List.map_append]
            refine s_app (e7 _ _ l6) (ev_var rfl) (ev_is (ecR (ev_var rfl) (ex_l e7 rsq) (ev_var rfl) cB1) (congrArg V.int evv)) ?_ fun H8 e8 => ⟨⟨_, rfl⟩, Ex.mut (ex6.trans (e7.trans e8)) hpf, upd_same⟩
            rw [List.length_map, List.length_map]
            omega
          · rw [if_neg (by rw [hb]; decide), List.append_nil]
            exact ⟨⟨_, rfl⟩, ex6.trans e7, e7 _ _ l6⟩
        · obtain ⟨⟨y8, rfl⟩, ex6, l6⟩ := w
          have hlen := hrw.len
          rw [List.length_map] at hlen
          rw [hlen, List.take_length, ← hfn] at l6
          refine s_retS (ns := crI (m' : Int) (a' : Int) (b' : Int)) (ev_var rfl) (sq_of l6) ?_ fun p H7 hp e7 l7 => q p H7 (fresh_back (ex4.trans ex6) hp) ((ex4.trans ex6).trans e7) l7
          unfold crI
          exact List.pairwise_map.mpr ((Bm.due_sorted _ _ _).imp fun {x y} h => by omega)

def sp__law_cell_at (K : PySem.W.Frag) : Sp := spR K (fun _ k => 0 ≤ k) fun ns k => .int (cellI ns k)
theorem ok__law_cell_at (T : Tx K mg) : FnOk P w K mg base CX0 1 T.a__law_cell_at T.d__law_cell_at ["_law_script", "_law_k"] (sp__law_cell_at K) := by
  refine T.F__law_cell_at.ok sc__law_cell_at (fun vs H Q E h => ?_) (fun cdv A outer s H vs Q E hr h => ?_)
  · obtain ⟨p, ns, k, rfl, _⟩ := h
    rfl
  · obtain ⟨p, ns, k, rfl, hs, h0, q⟩ := h
    refine ⟨_, (pss_cons (ps_if (pt_cmpR op_lt (pv 1) (pe_callB (r := rLenS _) call_len_seq (by rfl) T.m_len PySem.boot_len (pa_cons (pv 0) pa_nil)) (nomark _)) (pss_one (ps_ret (pe_ix ix_list (pv 0) (pv 1) (fun _ _ => rfl)))) pss_nil)
      (pss_one (ps_ret pe_int))), ?_⟩
    refine q_when (et_test (ev_op (ev_var rfl) (ev_len (ev_var rfl) hs) rv_I0)) (fun hb H1 e1 => ?_) (fun hb H1 e1 => ?_)
    · have hb2 := of_decide_eq_true hb
      rw [List.length_map] at hb2
      exact s_ret (ev_ixV (ev_var rfl) (ex_l e1 hs) (ev_var rfl) (atI_ints h0 hb2)) fun H2 e2 => q H2 (e1.trans e2)
    · have hb2 := of_decide_eq_false hb
      rw [List.length_map] at hb2
      have e : cellI ns k = 0 := by
        unfold cellI
        rw [List.getD_eq_getElem?_getD, List.getElem?_eq_none (by omega)]
        rfl
      dsimp only at q
      rw [e] at q
      exact s_ret ev_c fun H2 e2 => q H2 (e1.trans e2)

def sp__law_draw : Sp := spI3 (fun _ k m => 0 ≤ k ∧ k ≤ 1000 ∧ 0 < m) fun c k m => .int (drawI c k m)
theorem ok__law_draw (T : Tx K mg) : FnOk P w K mg base CX0 1 T.a__law_draw T.d__law_draw ["_law_cell", "_law_k", "_law_most"] sp__law_draw := by
  refine T.F__law_draw.ok sc__law_draw (fun vs H Q E h => ?_) (fun cdv A outer s H vs Q E hr h => ?_)
  · obtain ⟨a, b, c, rfl, _⟩ := h
    rfl
  · obtain ⟨c, k, m, rfl, ⟨h0, h1, h2⟩, q⟩ := h
    refine ⟨_, (pss_cons (ps_set (i := 3) sc__law_draw.nd rfl (Or.inl rfl) (pe_tup (pa_cons pe_int (pa_cons pe_int (pa_cons pe_int (pa_cons pe_int (pa_cons pe_int (pa_cons pe_int (pa_cons pe_int (pa_cons pe_int (pa_cons pe_int (pa_cons pe_int (pa_cons pe_int (pa_cons pe_int (pa_cons pe_int (pa_cons pe_int (pa_cons pe_int (pa_cons pe_int pa_nil))))))))))))))))))
      (pss_one (ps_ret (pe_op op_mod (pe_op op_mod (pe_op op_add (pe_op op_mulX (pv 0) pe_int) (pe_op op_mulX (pv 1) pe_int)) (pe_ix ix_tup (pv 3) (pe_op op_mod (pv 1) pe_int) (fun _ _ => rfl))) (pv 2))))), ?_⟩
    refine q_asgU (xs := primes.map V.int) (eu_tup (ea_cons ev_c (ea_cons ev_c (ea_cons ev_c (ea_cons ev_c (ea_cons ev_c (ea_cons ev_c (ea_cons ev_c (ea_cons ev_c (ea_cons ev_c (ea_cons ev_c (ea_cons ev_c (ea_cons ev_c (ea_cons ev_c (ea_cons ev_c (ea_cons ev_c (ea_cons ev_c ea_nil)))))))))))))))) (by decide)) fun p H1 hp e1 l1 => ?_
    exact s_ret (ev_op (ev_op (ev_op (ev_op (ev_var rfl) ev_c (rv_I (by walk_at "Mult"))) (ev_op (ev_var rfl) ev_c (rv_I (by walk_at "Mult"))) rv_I0) (ev_ixT (ev_var rfl) (st_of l1) (ev_op (ev_var rfl) ev_c (rv_I (by first | exact primes_pos | omega))) (atI_ints (xs := primes) (by omega) (by show _ < (16 : Int); omega))) (rv_I (by first | exact primes_pos | omega))) (ev_var rfl) (rv_I (by first | exact primes_pos | omega))) fun H2 e2 => q H2 (e1.trans e2)

def sp__law_number : Sp := spI3 (fun c k l => CellOk c ∧ 0 ≤ k ∧ k ≤ 1000 ∧ 0 < l) fun c k l => .int (numI c k l)
theorem ok__law_number (T : Tx K mg) : FnOk P w K mg base CX0 2 T.a__law_number T.d__law_number ["_law_cell", "_law_k", "_law_limit"] sp__law_number := by
  refine T.F__law_number.ok sc__law_number (fun vs H Q E h => ?_) (fun cdv A outer s H vs Q E hr h => ?_)
  · obtain ⟨a, b, c, rfl, _⟩ := h
    rfl
  · obtain ⟨c, k, l, rfl, ⟨hc, h0, h1, h2⟩, q⟩ := h
    refine ⟨_, (pss_cons (ps_if (pt_cmpR op_ge (pv 0) (pe_op op_pow pe_int pe_int) (nomark _)) (pss_one (ps_ret (pe_op op_mod (pe_op op_fdiv (pe_op op_sub (pv 0) (pe_op op_pow pe_int pe_int)) (pe_ix ix_tup (pe_tup (pa_cons pe_int (pa_cons pe_int (pa_cons pe_int (pa_cons pe_int (pa_cons pe_int pa_nil)))))) (pe_op op_mod (pv 1) pe_int) (fun _ _ => rfl))) (pv 2)))) pss_nil)
      (pss_one (ps_ret (pe_op op_mod (pe_call (ok__law_draw T) (hr.mono (by decide)) (by rfl) T.g__law_draw T.F__law_draw.kp T.b__law_draw .nil pass0 (pa_cons (pe_op op_mulX (pe_op op_add (pv 0) (pe_op op_mulX pe_int (pv 1))) (pe_op op_add (pe_op op_add (pv 0) (pe_op op_mulX pe_int (pv 1))) pe_int)) (pa_cons (pe_op op_add (pe_op op_mod (pv 1) pe_int) pe_int) (pa_cons pe_int pa_nil)))) (pv 2))))), ?_⟩
    refine q_when (et_test (ev_op (ev_var rfl) (ev_op ev_c ev_c (rv_I (by walk_at "Pow"))) rv_I0)) (fun hb H1 e1 => ?_) (fun hb H1 e1 => ?_)
    · have hb2 : (10 : Int) ^ 18 ≤ c := of_decide_eq_true hb
      unfold numI at q
      dsimp only at q
      rw [if_pos hb2] at q
      exact s_ret (ev_op (ev_op (ev_op (ev_var rfl) (ev_op ev_c ev_c (rv_I (by walk_at "Pow"))) rv_I0) (ev_ixU (eu_tup (ea_cons ev_c (ea_cons ev_c (ea_cons ev_c (ea_cons ev_c (ea_cons ev_c ea_nil))))) (by simp)) (ev_op (ev_var rfl) ev_c (rv_I (by walk_at "Mod"))) (atI_ints (xs := [1, 7, 49, 343, 2401]) (by omega) (by show _ < (5 : Int); omega))) (rv_I fives_pos)) (ev_var rfl) (rv_I (by walk_at "Mod"))) fun H2 e2 => q H2 (e1.trans e2)
    · have hb2 : ¬ (10 : Int) ^ 18 ≤ c := of_decide_eq_false hb
      unfold numI at q
      dsimp only at q
      rw [if_neg hb2] at q
      exact s_ret (ev_op (ec3 (ev_op (ev_op (ev_var rfl) (ev_op ev_c (ev_var rfl) (rv_I (by first | exact mulL (by omega) (by omega) | exact cell_mul (cell_add hc (small_bits (by omega) (by omega))) (by rw [Int.add_assoc]; exact cell_add hc (small_bits (by omega) (by omega)))))) rv_I0) (ev_op (ev_op (ev_var rfl) (ev_op ev_c (ev_var rfl) (rv_I (by first | exact mulL (by omega) (by omega) | exact cell_mul (cell_add hc (small_bits (by omega) (by omega))) (by rw [Int.add_assoc]; exact cell_add hc (small_bits (by omega) (by omega)))))) rv_I0) ev_c rv_I0) (rv_I (by first | exact mulL (by omega) (by omega) | exact cell_mul (cell_add hc (small_bits (by omega) (by omega))) (by rw [Int.add_assoc]; exact cell_add hc (small_bits (by omega) (by omega)))))) (ev_op (ev_op (ev_var rfl) ev_c (rv_I (by walk_at "Mod"))) ev_c rv_I0) ev_c ⟨by omega, by omega, by omega⟩) (ev_var rfl) (rv_I (by walk_at "Mod"))) fun H2 e2 => q H2 (e1.trans e2)

def sp__law_figures : Sp := spL2 CNum figV
set_option maxHeartbeats 1000000 in
theorem ok__law_figures (T : Tx K mg) : FnOk P w K mg base CX0 1 T.a__law_figures T.d__law_figures ["_law_number_here", "_law_base"] sp__law_figures := by
  refine T.F__law_figures.ok sc__law_figures (fun vs H Q E h => ?_) (fun cdv A outer s H vs Q E hr h => ?_)
  · obtain ⟨a, b, rfl, _⟩ := h
    rfl
  · obtain ⟨n, b, rfl, ⟨h0, h1, h2, h3⟩, q⟩ := h
    obtain ⟨k, rfl⟩ := Int.eq_ofNat_of_zero_le h0
    obtain ⟨c, rfl⟩ := Int.eq_ofNat_of_zero_le (show 0 ≤ b by omega)
    have hc : 2 ≤ c := by omega
    have hlen := ds_len_big hc h1
    refine ⟨_, (pss_cons (ps_set (i := 2) sc__law_figures.nd rfl (Or.inl rfl) (pe_lst pa_nil))
      (pss_cons (ps_while PassesOwn.never (PW.pt (pw_or (pt_cmpR (op_eqD hr.units) (pv 2) (pe_lst pa_nil) (nomark _)) (pw_or1 (pt_cmpR op_gt (pv 0) pe_int (nomark _)))))
      (pss_cons (ps_set (i := 2) sc__law_figures.nd rfl (Or.inl rfl) (pe_op op_cat (pe_lst (pa_cons (pe_op op_mod (pv 0) (pv 1)) pa_nil)) (pv 2)))
      (pss_one (ps_set (i := 0) sc__law_figures.nd rfl (Or.inl rfl) (pe_op op_fdiv (pv 0) (pv 1))))))
      (pss_one (ps_ret (pv 2))))), ?_⟩
    refine q_asgL (el_lst ea_nil (by simp)) fun p H1 hp e1 l1 => ?_
    refine q_while (fun m σ' H' => ∃ (p : Addr) (j : Nat) (pre : List Nat), m = j + (if pre = [] then 1 else 0) ∧ σ' = [some (.int (j : Int)), some (.int (c : Int)), some (.ref p)] ∧ H p = none ∧ Ex H H' ∧ H' p = some (.lst ((pre.reverse.map fun d : Nat => (d : Int)).map V.int)) ∧
      ((pre ++ Bm.ds c j = Bm.ds c k ∧ (pre ≠ [] → 0 < j)) ∨ (j = 0 ∧ pre = Bm.ds c k))) (k + 1) ⟨p, k, [], rfl, rfl, hp, e1, l1, Or.inl ⟨rfl, fun z => absurd rfl z⟩⟩ fun m σ' H' hW => ?_
    obtain ⟨p, j, pre, hm, rfl, hp, ex, lp, hd⟩ := hW
    refine ⟨decide ((pre.reverse.map fun d : Nat => (d : Int)) = []) || decide (0 < (j : Int)), et_or (et_test (ev_eqVN (ev_var rfl) (sq_of lp) (elI (ys := []) (el_lst ea_nil (by simp)) rfl))) (fun _ => et_test (ev_op (ev_var rfl) ev_c rv_I0)), fun hb H2 e2 => ?_, fun hb H2 e2 => ?_⟩
    · have hgo : pre = [] ∨ 0 < j := by
        rcases (Bool.or_eq_true _ _).mp hb with z | z
        · left
          have := of_decide_eq_true z
          simpa using this
        · right
          have := of_decide_eq_true z
          omega
      have hd2 : pre ++ Bm.ds c j = Bm.ds c k := by
        rcases hd with hd | ⟨z1, z2⟩
        · exact hd.1
        · rcases hgo with g | g
          · exfalso
            rw [g] at z2
            exact Bm.ds_ne hc k z2.symm
          · omega
      have hpl : pre.length < 20000 := by
        have := congrArg List.length hd2
        rw [List.length_append] at this
        have := Bm.ds_pos hc j
        omega
      refine ⟨fun σ2 H3 => ∃ (p' : Addr), σ2 = [some (.int ((j / c : Nat) : Int)), some (.int (c : Int)), some (.ref p')] ∧ H p' = none ∧ Ex H H3 ∧ H3 p' = some (.lst (((pre ++ [j % c]).reverse.map fun d : Nat => (d : Int)).map V.int)), fun σ2 H3 hN => ?_, ?_⟩
      · obtain ⟨p', a1, a2, a3, a4⟩ := hN
        refine ⟨j / c + 0, ?_, p', j / c, pre ++ [j % c], ?_, a1, a2, a3, a4, ?_⟩
        · rw [hm]
          rcases hgo with g | g
          · rw [if_pos g]
            have : j / c ≤ j := Nat.div_le_self _ _
            omega
          · have : j / c < j := Nat.div_lt_self g (by omega)
            omega
        · rw [if_neg (by simp)]
        · by_cases hj : j < c
          · right
            refine ⟨Nat.div_eq_of_lt hj, ?_⟩
            rw [← hd2, Bm.ds_lo hj, Nat.mod_eq_of_lt hj]
          · left
            refine ⟨?_, fun _ => Nat.div_pos (by omega) (by omega)⟩
            rw [List.append_assoc, ← hd2, Bm.ds_hi hc hj]
            rfl
      · refine q_asgL (el_catN1 (el_lst (ea_cons (ev_op (ev_var rfl) (ev_var rfl) (rv_I (by omega))) ea_nil) (by simp)) (ev_var rfl) (e2 p _ lp) ?_) fun p' H3 hp' e3 l3 => ?_
        · simp only [List.length_map, List.length_reverse, List.length_cons, List.length_nil]
          omega
        · refine s_asg (ev_op (ev_var rfl) (ev_var rfl) (rv_I ⟨by omega, by omega⟩)) fun H4 e4 => ⟨p', ?_, fresh_back (ex.trans e2) hp', (ex.trans e2).trans (e3.trans e4), ?_⟩
          · rw [Int.natCast_ediv]
            rfl
          · rw [e4 _ _ l3, List.reverse_append, List.reverse_singleton]
            show _ = some (HO.lst (V.int ((j % c : Nat) : Int) :: _))
            rw [Int.natCast_emod]
            rfl
    · have hb2 := (Bool.or_eq_false_iff).mp hb
      have hj : j = 0 := by
        have := of_decide_eq_false hb2.2
        omega
      have hne : pre ≠ [] := fun z => by
        have := of_decide_eq_false hb2.1
        rw [z] at this
        exact this rfl
      have hfin : pre = Bm.ds c k := by
        rcases hd with hd | hd
        · have := hd.2 hne
          omega
        · exact hd.2
      refine s_ret (ev_var rfl) fun H3 e3 => q p H3 hp ((ex.trans e2).trans e3) ?_
      rw [e3 _ _ (e2 _ _ lp), hfin]
      unfold figV figI Bm.fig
      rw [Int.toNat_natCast, Int.toNat_natCast]

def sp__law_whole : Sp := spI1 (fun _ => True) fun _ => .bl true
theorem ok__law_whole (T : Tx K mg) : FnOk P w K mg base CX0 1 T.a__law_whole T.d__law_whole ["_law_found"] sp__law_whole := by
  refine T.F__law_whole.ok sc__law_whole (fun vs H Q E h => ?_) (fun cdv A outer s H vs Q E hr h => ?_)
  · obtain ⟨a, rfl, _⟩ := h
    rfl
  · obtain ⟨a, rfl, _, q⟩ := h
    refine ⟨_, (pss_one (ps_ret (pe_and (pe_callB call_isi (by rfl) T.m_isinstance (by decide +kernel) (pa_cons (pv 0) (pa_cons (pe_bltn (v := .ty "int") (by rfl) T.m_int (by decide +kernel) rfl) pa_nil))) (pe_one (pe_not (pe_callB call_isi (by rfl) T.m_isinstance (by decide +kernel) (pa_cons (pv 0) (pa_cons (pe_bltn (v := .ty "bool") (by rfl) T.m_bool (by decide +kernel) rfl) pa_nil)))))))), ?_⟩
    exact s_ret (ev_andV (ev_isI (b := true) (ev_var rfl) (by decide +kernel)) fun _ => ev_notV (ev_isI (b := false) (ev_var rfl) (by decide +kernel))) q

def sp__law_power : Sp := spI2 (fun b t => CB b ∧ 0 ≤ t ∧ t ≤ 100000) fun b t => .int (b ^ t.toNat)
theorem ok__law_power (T : Tx K mg) : FnOk P w K mg base CX0 1 T.a__law_power T.d__law_power ["_law_base", "_law_times"] sp__law_power := by
  refine T.F__law_power.ok sc__law_power (fun vs H Q E h => ?_) (fun cdv A outer s H vs Q E hr h => ?_)
  · obtain ⟨a, b, rfl, _⟩ := h
    rfl
  · obtain ⟨b, t, rfl, ⟨hb, h0, h1⟩, q⟩ := h
    refine ⟨_, (pss_cons (ps_set (i := 2) sc__law_power.nd rfl (Or.inl rfl) pe_int)
      (pss_cons (ps_for PassesOwn.never rfl (pi_range1 (by rfl) T.m_range (pa_cons (pv 1) pa_nil)) (pg_name (i := 3) sc__law_power.nd rfl (Or.inl rfl))
      (pss_one (ps_set (i := 2) sc__law_power.nd rfl (Or.inl rfl) (pe_op op_mulX (pv 2) (pv 0)))))
      (pss_one (ps_ret (pv 2))))), ?_⟩
    refine q_asg ev_c fun H1 e1 => ?_
    refine q_forR1 (n := t) (ea_cons (ev_var rfl) ea_nil) ⟨h0, h1⟩ (fun i σ' H' => (∃ y, σ' = [some (.int b), some (.int t), some (.int (b ^ i)), y]) ∧ Ex H H') (fun H2 e2 => ⟨⟨none, by rw [Int.pow_zero]; rfl⟩, e1.trans e2⟩) (fun i σ' H' hi w => ?_) (fun σ' H' w => ?_)
    · obtain ⟨⟨y, rfl⟩, ex⟩ := w
      refine s_asg (ev_op (ev_var rfl) (ev_var rfl) (rv_I (mulR (by omega) (by omega)))) fun H2 e2 => ⟨⟨some (.int (i : Int)), ?_⟩, ex.trans e2⟩
      rw [Int.pow_succ]
      rfl
    · obtain ⟨⟨y, rfl⟩, ex⟩ := w
      exact s_ret (ev_var rfl) fun H2 e2 => q H2 (ex.trans e2)

def sp_law (K : PySem.W.Frag) : Sp := fun vs H Q _ => ∃ (a : Addr) (ns : List Int), vs = [.ref a] ∧ SqL K H a (ns.map V.int) ∧ CellsOk ns ∧ ∀ H', Q (.bl true) H'
def dueP (m a b n : Nat) : Bool := decide ((Bm.fig a n).length = m) && decide ((Bm.fig a n).reverse = Bm.fig b n)
def dueI (m a b i : Nat) : List Int := ((List.range i).filter (dueP m a b)).map fun d : Nat => (d : Int)
theorem crI_nat (m a b : Nat) : crI (m : Int) (a : Int) (b : Int) = dueI m a b (Bm.mn a b ^ m) := by
  unfold crI dueI Bm.due
  rw [Int.toNat_natCast, Int.toNat_natCast, Int.toNat_natCast]
  rfl
theorem crI_swap (m a b : Int) : crI m b a = crI m a b := by
  unfold crI
  rw [Bm.due_swap]
theorem dueI_len (m a b i : Nat) : (dueI m a b i).length ≤ i := by
  unfold dueI
  rw [List.length_map]
  refine Nat.le_trans (List.length_filter_le _ _) ?_
  rw [List.length_range]
  exact Nat.le_refl i
theorem dueI_succ (m a b i : Nat) : dueI m a b (i + 1) = dueI m a b i ++ (if dueP m a b i = true then [(i : Int)] else []) := by
  unfold dueI
  rw [List.range_succ, List.filter_append, List.map_append]
  congr 1
  by_cases z : dueP m a b i = true
  · rw [if_pos z, List.filter_cons_of_pos z]
    rfl
  · rw [if_neg z, List.filter_cons_of_neg z]
    rfl
theorem figI_len_eq (n b : Nat) : (figI (n : Int) (b : Int)).length = (Bm.fig b n).length := by rw [figI_nat, List.length_map]
theorem figI_rev_eq (n a b : Nat) : ((figI (n : Int) (a : Int)).reverse = figI (n : Int) (b : Int)) ↔ ((Bm.fig a n).reverse = Bm.fig b n) := by
  rw [figI_nat, figI_nat, ← List.map_reverse]
  exact List.map_inj_right fun x y h => Int.ofNat.inj h
theorem ys_rev (n b : Int) : (figV n b).reverse = (figI n b).reverse.map V.int := (List.map_reverse).symm
def crRows : List (Int × Int × Int × List Int) := [(3, 10, 9, [445]), (3, 12, 11, [786]), (2, 9, 5, [11, 22]), (1, 2, 12, [0, 1])]
def crRowD (r : Int × Int × Int × List Int) : PyData := .tuple [.int r.1, .int r.2.1, .int r.2.2.1, .list (r.2.2.2.map PyData.int)]
theorem crRows_ok : ∀ r ∈ crRows, CCr r.1 r.2.1 r.2.2.1 ∧ CCr r.1 r.2.2.1 r.2.1 ∧ crI r.1 r.2.1 r.2.2.1 = r.2.2.2 ∧ crI r.1 r.2.2.1 r.2.1 = r.2.2.2 := by decide +kernel
set_option maxHeartbeats 4000000 in
theorem ok_law (T : Tx K mg) : FnOk P w K mg base CX0 3 T.a_law T.d_law ["_law_script"] (sp_law K) := by
  refine T.F_law.ok sc_law (fun vs H Q E h => ?_) (fun cdv A outer s H vs Q E hr h => ?_)
  · obtain ⟨a, ns, rfl, _⟩ := h
    rfl
  · obtain ⟨a, ns, rfl, hs, hc, q⟩ := h
    refine ⟨_, (pss_cons (ps_for PassesOwn.never rfl (pi_range3 (by rfl) T.m_range (pa_cons pe_int (pa_cons (pe_callB (r := rMax2) (call_max2 rfl) (by rfl) T.m_max (by decide +kernel) (pa_cons pe_int (pa_cons (pe_callB (r := rMin2) (call_min2 rfl) (by rfl) T.m_min (by decide +kernel) (pa_cons pe_int (pa_cons (pe_callB (r := rLenS _) call_len_seq (by rfl) T.m_len PySem.boot_len (pa_cons (pv 0) pa_nil)) pa_nil))) pa_nil))) (pa_cons pe_int pa_nil)))) (pg_name (i := 1) sc_law.nd rfl (Or.inl rfl))
      (pss_cons (ps_set (i := 2) sc_law.nd rfl (Or.inl rfl) (pe_call (ok__law_cell_at T) (hr.mono (by decide)) (by rfl) T.g__law_cell_at T.F__law_cell_at.kp T.b__law_cell_at .nil pass0 (pa_cons (pv 0) (pa_cons (pv 1) pa_nil))))
      (pss_cons (ps_set (i := 3) sc_law.nd rfl (Or.inl rfl) (pe_op op_add pe_int (pe_call (ok__law_number T) (hr.mono (by decide)) (by rfl) T.g__law_number T.F__law_number.kp T.b__law_number .nil pass0 (pa_cons (pv 2) (pa_cons (pe_op op_add (pv 1) pe_int) (pa_cons pe_int pa_nil))))))
      (pss_cons (ps_par (i := 4) (j := 5) (by rfl) sc_law.nd rfl rfl (by decide) rfl rfl (pa_cons (pe_op op_add pe_int (pe_call (ok__law_number T) (hr.mono (by decide)) (by rfl) T.g__law_number T.F__law_number.kp T.b__law_number .nil pass0 (pa_cons (pv 2) (pa_cons (pe_op op_add (pv 1) pe_int) (pa_cons pe_int pa_nil))))) (pa_cons (pe_op op_add pe_int (pe_call (ok__law_number T) (hr.mono (by decide)) (by rfl) T.g__law_number T.F__law_number.kp T.b__law_number .nil pass0 (pa_cons (pv 2) (pa_cons (pe_op op_add (pv 1) pe_int) (pa_cons pe_int pa_nil))))) pa_nil)) (by rfl))
      (pss_cons (ps_set (i := 6) sc_law.nd rfl (Or.inl rfl) (pe_lst pa_nil))
      (pss_cons (ps_for PassesOwn.never rfl (pi_range1 (by rfl) T.m_range (pa_cons (pe_call (ok__law_power T) (hr.mono (by decide)) (by rfl) T.g__law_power T.F__law_power.kp T.b__law_power .nil pass0 (pa_cons (pe_callB (r := rMin2) (call_min2 rfl) (by rfl) T.m_min (by decide +kernel) (pa_cons (pv 4) (pa_cons (pv 5) pa_nil))) (pa_cons (pv 3) pa_nil))) pa_nil)) (pg_name (i := 7) sc_law.nd rfl (Or.inl rfl))
      (pss_cons (ps_set (i := 8) sc_law.nd rfl (Or.inl rfl) (pe_call (ok__law_figures T) (hr.mono (by decide)) (by rfl) T.g__law_figures T.F__law_figures.kp T.b__law_figures .nil pass0 (pa_cons (pv 7) (pa_cons (pv 4) pa_nil))))
      (pss_one (ps_if (PW.pt (pw_and (pt_cmpR op_eq (pe_callB (r := rLenS _) call_len_seq (by rfl) T.m_len PySem.boot_len (pa_cons (pv 8) pa_nil)) (pv 3) (nomark _)) (pw_and1 (pt_cmpR (op_eqD hr.units) (pe_revL (pv 8)) (pe_call (ok__law_figures T) (hr.mono (by decide)) (by rfl) T.g__law_figures T.F__law_figures.kp T.b__law_figures .nil pass0 (pa_cons (pv 7) (pa_cons (pv 5) pa_nil))) (nomark _))))) (pss_one (ps_expr (pe_bm PySem.F.plainAttrs_list PySem.F.slot_list_append PySem.F.type_list_append mt_append (pv 6) (pa_cons (pv 7) pa_nil)))) pss_nil))))
      (pss_cons (ps_for PassesOwn.never rfl (pi_range1 (by rfl) T.m_range (pa_cons pe_int pa_nil)) (pg_name (i := 9) sc_law.nd rfl (Or.inl rfl))
      (pss_cons (ps_set (i := 10) sc_law.nd rfl (Or.inl rfl) (pe_call (ok_crossed T) (hr.mono (by decide)) (by rfl) T.g_crossed T.F_crossed.kp T.b_crossed .nil pass0 (pa_cons (pv 3) (pa_cons (pv 4) (pa_cons (pv 5) pa_nil)))))
      (pss_cons (ps_if (PW.pt (pw_or (pt_not (pt_val (pe_callB call_isi (by rfl) T.m_isinstance (by decide +kernel) (pa_cons (pv 10) (pa_cons (pe_bltn (v := .ty "list") (by rfl) T.m_list (by decide +kernel) rfl) pa_nil))))) (pw_or (pt_cmpR (op_neD hr.units) (pv 10) (pv 6) (nomark _)) (pw_or1 (pt_not (pt_val (pe_callB (cr_all rfl) (by rfl) T.m_all (by decide +kernel) (pa_cons (pe_lc (own := [("_law_number_here", 7)]) (g := gName 7) (tt := tYes) (by rfl) sc_law.nd (pi_list (pv 10)) (blkOk_by (own := [("_law_number_here", 7)]) (N := N_law) (sc := defScope s_law) (by decide +kernel)) (fun _ _ _ _ _ => pg_name (i := 7) sc_law.nd rfl (Or.inl rfl)) (fun _ _ _ _ _ => pts_nil) (fun _ _ _ _ _ => (pe_call (ok__law_whole T) (hr.mono (by decide)) (by rfl) T.g__law_whole T.F__law_whole.kp T.b__law_whole .nil pass0 (pa_cons (pv 7) pa_nil)))) pa_nil)))))))) (pss_one (ps_ret pe_bl)) pss_nil)
      (pss_one (ps_expr (pe_bm PySem.F.plainAttrs_list PySem.F.slot_list_append PySem.F.type_list_append mt_append (pv 10) (pa_cons pe_int pa_nil)))))))
      (pss_one (ps_if (pt_cmpR (op_neD hr.units) (pe_call (ok_crossed T) (hr.mono (by decide)) (by rfl) T.g_crossed T.F_crossed.kp T.b_crossed .nil pass0 (pa_cons (pv 3) (pa_cons (pv 5) (pa_cons (pv 4) pa_nil)))) (pv 6) (nomark _)) (pss_one (ps_ret pe_bl)) pss_nil)))))))))
      (pss_cons (ps_if (PW.pt (pw_or (pt_cmpR (op_neD hr.units) (pe_call (ok_crossed T) (hr.mono (by decide)) (by rfl) T.g_crossed T.F_crossed.kp T.b_crossed .nil pass0 (pa_cons pe_int (pa_cons pe_int (pa_cons pe_int pa_nil)))) (pe_lst (pa_cons pe_int pa_nil)) (nomark _)) (pw_or (pt_cmpR (op_neD hr.units) (pe_call (ok_crossed T) (hr.mono (by decide)) (by rfl) T.g_crossed T.F_crossed.kp T.b_crossed .nil pass0 (pa_cons pe_int (pa_cons pe_int (pa_cons pe_int pa_nil)))) (pe_lst (pa_cons pe_int (pa_cons pe_int (pa_cons pe_int pa_nil)))) (nomark _)) (pw_or1 (pt_cmpR (op_neD hr.units) (pe_slice sl_list (pe_call (ok_crossed T) (hr.mono (by decide)) (by rfl) T.g_crossed T.F_crossed.kp T.b_crossed .nil pass0 (pa_cons pe_int (pa_cons pe_int (pa_cons pe_int pa_nil)))) po_none (po_some pe_int)) (pe_lst (pa_cons pe_int (pa_cons pe_int pa_nil))) (nomark _)))))) (pss_one (ps_ret pe_bl)) pss_nil)
      (pss_cons (ps_set (i := 11) sc_law.nd rfl (Or.inl rfl) (pe_call (ok_crossed T) (hr.mono (by decide)) (by rfl) T.g_crossed T.F_crossed.kp T.b_crossed .nil pass0 (pa_cons pe_int (pa_cons pe_int (pa_cons pe_int pa_nil)))))
      (pss_cons (ps_set (i := 12) sc_law.nd rfl (Or.inl rfl) (pe_lst (pa_cons (pe_tup (pa_cons pe_int (pa_cons pe_int (pa_cons pe_int (pa_cons (pe_lst (pa_cons pe_int pa_nil)) pa_nil))))) (pa_cons (pe_tup (pa_cons pe_int (pa_cons pe_int (pa_cons pe_int (pa_cons (pe_lst (pa_cons pe_int pa_nil)) pa_nil))))) (pa_cons (pe_tup (pa_cons pe_int (pa_cons pe_int (pa_cons pe_int (pa_cons (pe_lst (pa_cons pe_int (pa_cons pe_int pa_nil))) pa_nil))))) (pa_cons (pe_tup (pa_cons pe_int (pa_cons pe_int (pa_cons pe_int (pa_cons (pe_lst (pa_cons pe_int (pa_cons pe_int pa_nil))) pa_nil))))) pa_nil))))))
      (pss_cons (ps_for PassesOwn.never rfl (pi_list (pv 12)) (pg_tup rfl (pgs_cons (pg_name (i := 3) sc_law.nd rfl (Or.inl rfl)) (pgs_cons (pg_name (i := 4) sc_law.nd rfl (Or.inl rfl)) (pgs_cons (pg_name (i := 5) sc_law.nd rfl (Or.inl rfl)) (pgs_cons (pg_name (i := 6) sc_law.nd rfl (Or.inl rfl)) pgs_nil)))))
      (pss_one (ps_if (PW.pt (pw_or (pt_cmpR (op_neD hr.units) (pe_call (ok_crossed T) (hr.mono (by decide)) (by rfl) T.g_crossed T.F_crossed.kp T.b_crossed .nil pass0 (pa_cons (pv 3) (pa_cons (pv 4) (pa_cons (pv 5) pa_nil)))) (pv 6) (nomark _)) (pw_or (pt_cmpR (op_neD hr.units) (pe_call (ok_crossed T) (hr.mono (by decide)) (by rfl) T.g_crossed T.F_crossed.kp T.b_crossed .nil pass0 (pa_cons (pv 3) (pa_cons (pv 5) (pa_cons (pv 4) pa_nil)))) (pv 6) (nomark _)) (pw_or1 (pt_cmpR (op_neD hr.units) (pv 11) (pe_lst (pa_cons pe_int pa_nil)) (nomark _)))))) (pss_one (ps_ret pe_bl)) pss_nil)))
      (pss_one (ps_ret (pe_and (pe_cmpR (op_eqD hr.units) (pe_call (ok_crossed T) (hr.mono (by decide)) (by rfl) T.g_crossed T.F_crossed.kp T.b_crossed .nil pass0 (pa_cons pe_int (pa_cons pe_int (pa_cons pe_int pa_nil)))) (pe_lst pa_nil) (nomark _)) (pe_and (pe_cmpR (op_eqD hr.units) (pe_call (ok_crossed T) (hr.mono (by decide)) (by rfl) T.g_crossed T.F_crossed.kp T.b_crossed .nil pass0 (pa_cons pe_int (pa_cons pe_int (pa_cons pe_int pa_nil)))) (pe_lst pa_nil) (nomark _)) (pe_one (pe_cmpR (op_eqD hr.units) (pe_call (ok_crossed T) (hr.mono (by decide)) (by rfl) T.g_crossed T.F_crossed.kp T.b_crossed .nil pass0 (pa_cons pe_int (pa_cons pe_int (pa_cons pe_int pa_nil)))) (pe_lst pa_nil) (nomark _)))))))))))), ?_⟩
    have hM : ∃ n, n ≤ 2 ∧ RgC 0 (if (if ((ns.map V.int).length : Int) < 6 then ((ns.map V.int).length : Int) else 6) > 1 then (if ((ns.map V.int).length : Int) < 6 then ((ns.map V.int).length : Int) else 6) else 1) 3 n := rg_three (by omega) (by omega)
    obtain ⟨m, hm, hrg⟩ := hM
    refine q_forR3 (ea_cons ev_c (ea_cons (ev_max2 ev_c (ev_min2 ev_c (ev_len (ev_var rfl) hs))) (ea_cons ev_c ea_nil))) hrg (fun i σ' H' => (∃ y1 y2 y3 y4 y5 y6 y7 y8 y9 y10 y11 y12, σ' = [some (.ref a), y1, y2, y3, y4, y5, y6, y7, y8, y9, y10, y11, y12]) ∧ Ex H H') (fun H1 e1 => ⟨⟨_, _, _, _, _, _, _, _, _, _, _, _, rfl⟩, e1⟩) (fun i σ' H' hi w => ?_) (fun σ' H' w => ?_)
    · obtain ⟨⟨y1, y2, y3, y4, y5, y6, y7, y8, y9, y10, y11, y12, rfl⟩, e0⟩ := w
      have hby : 0 ≤ 0 + (i : Int) * 3 ∧ 0 + (i : Int) * 3 ≤ 90 := by omega
      generalize 0 + (i : Int) * 3 = by_ at hby
      have hs0 : SqL K H' a (ns.map V.int) := ex_l e0 hs
      have cell := cellI_ok hc by_
      refine q_asg (ecR (ev_var rfl) hs0 (ev_var rfl) hby.1) fun H1 e1 => ?_
      have n1 := numI_bd (c := cellI ns by_) (k := by_ + 1) (l := 3) (by decide)
      have n2 := numI_bd (c := cellI ns by_) (k := by_ + 2) (l := 11) (by decide)
      have n3 := numI_bd (c := cellI ns by_) (k := by_ + 3) (l := 11) (by decide)
      refine q_asg (ev_op ev_c (ec3 (ev_var rfl) (ev_op (ev_var rfl) ev_c rv_I0) ev_c ⟨cell, by omega, by omega, by decide⟩) rv_I0) fun H2 e2 => ?_
      refine q_par (ea_cons (ev_op ev_c (ec3 (ev_var rfl) (ev_op (ev_var rfl) ev_c rv_I0) ev_c ⟨cell, by omega, by omega, by decide⟩) rv_I0) (ea_cons (ev_op ev_c (ec3 (ev_var rfl) (ev_op (ev_var rfl) ev_c rv_I0) ev_c ⟨cell, by omega, by omega, by decide⟩) rv_I0) ea_nil)) fun H3 e3 => ?_
      obtain ⟨m', hm'⟩ := Int.eq_ofNat_of_zero_le (show 0 ≤ 1 + numI (cellI ns by_) (by_ + 1) 3 by omega)
      obtain ⟨a', ha'⟩ := Int.eq_ofNat_of_zero_le (show 0 ≤ 2 + numI (cellI ns by_) (by_ + 2) 11 by omega)
      obtain ⟨b', hb'⟩ := Int.eq_ofNat_of_zero_le (show 0 ≤ 2 + numI (cellI ns by_) (by_ + 3) 11 by omega)
      rw [hm', ha', hb']
      have cm : 1 ≤ (m' : Int) ∧ (m' : Int) ≤ 3 := by omega
      have ca : CC (a' : Int) := by omega
      have cb : CC (b' : Int) := by omega
      have ccr : CCr (m' : Int) (a' : Int) (b' : Int) := ⟨cm, ca, cb⟩
      have ccr2 : CCr (m' : Int) (b' : Int) (a' : Int) := ⟨cm, cb, ca⟩
      have hL : (if (b' : Int) < (a' : Int) then (b' : Int) else (a' : Int)) = ((Bm.mn a' b' : Nat) : Int) := by
        unfold Bm.mn
        by_cases z : b' < a'
        · rw [if_pos z, if_pos (by omega)]
        · rw [if_neg z, if_neg (by omega)]
      have hL12 : 2 ≤ Bm.mn a' b' ∧ Bm.mn a' b' ≤ 12 := by
        unfold Bm.mn
        split <;> omega
      have ecr := crI_nat m' a' b'
      have ecr2 := crI_swap (m' : Int) (a' : Int) (b' : Int)
      generalize Bm.mn a' b' = L at *
      have hpw : L ^ m' ≤ 1728 := Nat.le_trans (Nat.pow_le_pow_left hL12.2 m') (Nat.le_trans (Nat.pow_le_pow_right (by decide) (show m' ≤ 3 by omega)) (by decide))
      refine q_asgL (el_lst ea_nil (by simp)) fun pd H4 hpd e4 l4 => ?_
      have ex4 : Ex H H3 := e0.trans (e1.trans (e2.trans e3))
      have hpd0 := fresh_back ex4 hpd
      have epw : (L : Int) ^ (m' : Int).toNat = ((L ^ m' : Nat) : Int) := by
        rw [Int.toNat_natCast, Int.natCast_pow]
      refine q_forR1 (n := ((L ^ m' : Nat) : Int)) (ea_cons (ev_is (ec2 (ev_is (ev_min2 (ev_var rfl) (ev_var rfl)) (congrArg V.int hL)) (ev_var rfl) ⟨⟨by omega, by omega⟩, by omega, by omega⟩) (congrArg V.int epw)) ea_nil) (by omega) (fun i σ' H' => (∃ y7 y8, σ' = [some (.ref a), some (.int by_), some (.int (cellI ns by_)), some (.int (m' : Int)), some (.int (a' : Int)), some (.int (b' : Int)), some (.ref pd), y7, y8, y9, y10, y11, y12]) ∧ Ex H H' ∧ H' pd = some (.lst ((dueI m' a' b' i).map V.int))) (fun H5 e5 => ⟨⟨_, _, rfl⟩, ex4.trans (e4.trans e5), e5 _ _ l4⟩) (fun i σ' H5 hi w => ?_) (fun σ' H5 w => ?_)
      · obtain ⟨⟨y7, y8, rfl⟩, ex5, l5⟩ := w
        have c1 : CNum (i : Int) (a' : Int) := ⟨by omega, big_40 (by omega), ca.1, by omega⟩
        have c2 : CNum (i : Int) (b' : Int) := ⟨by omega, big_40 (by omega), cb.1, by omega⟩
        refine q_asgL (el2 (ev_var rfl) (ev_var rfl) c1) fun p H6 hp e6 l6 => ?_
        have hlen := dueI_len m' a' b' i
        rw [dueI_succ]
        refine s_when (b := dueP m' a' b' i) (et_is (et_and (et_test (ev_op (ev_len (ev_var rfl) (sq_of l6)) (ev_var rfl) (rv_eq rfl))) fun _ => (et_test (ev_eqNN (elI (el_rev (ev_var rfl) (sq_of l6)) (ys_rev _ _)) (elI (el2 (ev_var rfl) (ev_var rfl) c2) rfl)))) ?_) (fun hb H7 e7 => ?_) (fun hb H7 e7 => ?_)
        · unfold dueP figV
          rw [List.length_map, figI_len_eq]
          congr 1
          · exact decide_eq_decide.mpr ⟨fun z => by have := V.int.inj z; omega, fun z => by rw [z]⟩
          · exact decide_eq_decide.mpr (figI_rev_eq i a' b')
        · rw [if_pos hb, List.map_append]
          refine s_app (e7 _ _ (e6 _ _ l5)) (ev_var rfl) (ev_var rfl) ?_ fun H8 e8 => ⟨⟨_, _, rfl⟩, Ex.mut (ex5.trans (e6.trans (e7.trans e8))) hpd0, upd_same⟩
          rw [List.length_map]
          omega
        · rw [if_neg (by rw [hb]; decide), List.append_nil]
          exact ⟨⟨_, _, rfl⟩, ex5.trans (e6.trans e7), e7 _ _ (e6 _ _ l5)⟩
      · obtain ⟨⟨y7, y8, rfl⟩, ex5, l5⟩ := w
        have hlen := dueI_len m' a' b' (L ^ m')
        rw [Int.toNat_natCast] at l5
        rw [ecr] at ecr2
        generalize dueI m' a' b' (L ^ m') = due at *
        refine q_forR1 (n := 2) (ea_cons ev_c ea_nil) (by decide) (fun i σ' H' => (∃ y9 y10, σ' = [some (.ref a), some (.int by_), some (.int (cellI ns by_)), some (.int (m' : Int)), some (.int (a' : Int)), some (.int (b' : Int)), some (.ref pd), y7, y8, y9, y10, y11, y12]) ∧ Ex H5 H') (fun H6 e6 => ⟨⟨_, _, rfl⟩, e6⟩) (fun i σ' H6 hi w => ?_) (fun σ' H6 w => ?_)
        · obtain ⟨⟨y9, y10, rfl⟩, e6⟩ := w
          refine q_asgL (xs := due.map V.int) (el_is (el3 (ev_var rfl) (ev_var rfl) (ev_var rfl) ccr) (by unfold crV; rw [ecr])) fun p H7 hp e7 l7 => ?_
          have l7d := e7 _ _ (e6 _ _ l5)
          refine q_no (et_or (et_not (et_B (ev_isL (b := true) (ev_var rfl) l7 (by decide +kernel)))) fun _ => (et_or (et_test (ev_neVV (ev_var rfl) (sq_of l7) (ev_var rfl) (sq_of l7d))) fun _ => (et_not (et_B (ev_allT (el_mapL (fun _ => .bl true) (ev_var rfl) (sq_of l7) (by omega) (fun _ => rfl) (fun n hn H1 e1 => ec1 (ev_var rfl) trivial))))))) ?_ fun H8 e8 => ?_
          · rw [decide_eq_true rfl]
            rfl
          refine s_app (e8 _ _ l7) (ev_var rfl) ev_c ?_ fun H9 e9 => ⟨⟨_, _, rfl⟩, Ex.mut (e6.trans (e7.trans (e8.trans e9))) (fresh_back e6 hp)⟩
          rw [List.length_map]
          omega
        · obtain ⟨⟨y9, y10, rfl⟩, e6⟩ := w
          refine s_no (et_test (ev_neNV (elI (el3 (ev_var rfl) (ev_var rfl) (ev_var rfl) ccr2) rfl) (ev_var rfl) (sq_of (e6 _ _ l5)))) ?_ fun H7 e7 => ⟨⟨_, _, _, _, _, _, _, _, _, _, _, _, rfl⟩, ex5.trans (e6.trans e7)⟩
          rw [ecr2, decide_eq_true rfl]
          rfl
    · obtain ⟨⟨y1, y2, y3, y4, y5, y6, y7, y8, y9, y10, y11, y12, rfl⟩, e0⟩ := w
      refine q_no (et_or (et_test (ev_neNN (elI (el3 ev_c ev_c ev_c (by decide)) rfl) (elI (ys := [13]) (el_lst (ea_cons ev_c ea_nil) (by simp)) rfl))) fun _ => et_or (et_test (ev_neNN (elI (el3 ev_c ev_c ev_c (by decide)) rfl) (elI (ys := [0, 1, 2]) (el_lst (ea_cons ev_c (ea_cons ev_c (ea_cons ev_c ea_nil))) (by simp)) rfl))) fun _ => et_test (ev_neNN (ys := [11, 22]) (elI (ys := [11, 22]) (el_slN (el3 ev_c ev_c ev_c (by decide)) eo_none (eo_some ev_c)) (by decide +kernel)) (elI (ys := [11, 22]) (el_lst (ea_cons ev_c (ea_cons ev_c ea_nil)) (by simp)) rfl))) (by decide +kernel) fun H1 e1 => ?_
      refine q_asgL (el3 ev_c ev_c ev_c (by decide)) fun pt H2 hpt e2 l2 => ?_
      refine q_asgD (d := .list (crRows.map crRowD)) (ed_lst (eda_cons (ed_tup (eda_cons (ed_int ev_c) (eda_cons (ed_int ev_c) (eda_cons (ed_int ev_c) (eda_cons (ed_ints (elI (ys := [445]) (el_lst (ea_cons ev_c ea_nil) (by simp)) rfl)) eda_nil)))) (by simp)) (eda_cons (ed_tup (eda_cons (ed_int ev_c) (eda_cons (ed_int ev_c) (eda_cons (ed_int ev_c) (eda_cons (ed_ints (elI (ys := [786]) (el_lst (ea_cons ev_c ea_nil) (by simp)) rfl)) eda_nil)))) (by simp)) (eda_cons (ed_tup (eda_cons (ed_int ev_c) (eda_cons (ed_int ev_c) (eda_cons (ed_int ev_c) (eda_cons (ed_ints (elI (ys := [11, 22]) (el_lst (ea_cons ev_c (ea_cons ev_c ea_nil)) (by simp)) rfl)) eda_nil)))) (by simp)) (eda_cons (ed_tup (eda_cons (ed_int ev_c) (eda_cons (ed_int ev_c) (eda_cons (ed_int ev_c) (eda_cons (ed_ints (elI (ys := [0, 1]) (el_lst (ea_cons ev_c (ea_cons ev_c ea_nil)) (by simp)) rfl)) eda_nil)))) (by simp)) eda_nil)))) (by decide)) fun v H3 e3 hv => ?_
      refine q_forD (ds := crRows.map crRowD) (ed_val (ev_var rfl) hv) (fun i σ' H' => (∃ y3 y4 y5 y6, σ' = [some (.ref a), y1, y2, y3, y4, y5, y6, y7, y8, y9, y10, some (.ref pt), some v]) ∧ Ex H3 H') (fun H4 e4 => ⟨⟨_, _, _, _, rfl⟩, e4⟩) (fun i σ' H' w => w.2) (fun i u d' H4 σ' H5 e4 e5 hd' hu w => ?_) (fun σ' H4 w => ?_)
      · obtain ⟨⟨y3, y4, y5, y6, rfl⟩, ex5⟩ := w
        rw [List.getElem?_map] at hd'
        obtain ⟨r, hr', rfl⟩ := Option.map_eq_some_iff.mp hd'
        obtain ⟨r1, r2, r3, r4⟩ := crRows_ok r (List.mem_of_getElem? hr')
        cases hu with
        | tup ht ha =>
          cases ha with
          | cons h1 ha =>
            cases h1
            cases ha with
            | cons h2 ha =>
              cases h2
              cases ha with
              | cons h3 ha =>
                cases h3
                cases ha with
                | cons h4 ha =>
                  cases ha
                  cases h4 with
                  | @lst pr xr _ hl hx =>
                    refine ⟨_, _, rfl, st_of (e5 _ _ ht), rfl, _, _, rfl, _, _, rfl, _, _, rfl, _, _, rfl, rfl, ?_⟩
                    refine s_no (et_or (et_test (ev_neD (ed_ints (elI (el3 (ev_var rfl) (ev_var rfl) (ev_var rfl) r1) rfl)) (ed_val (ev_var rfl) (.lst (e5 _ _ hl) (DhAll.mono e5 _ _ hx))) (shaped_ints _) (shaped_ints _))) fun _ => et_or (et_test (ev_neD (ed_ints (elI (el3 (ev_var rfl) (ev_var rfl) (ev_var rfl) r2) rfl)) (ed_val (ev_var rfl) (.lst (e5 _ _ hl) (DhAll.mono e5 _ _ hx))) (shaped_ints _) (shaped_ints _))) fun _ => (et_test (ev_neVN (ev_var rfl) (sq_of (e5 _ _ (e4 _ _ (e3 _ _ l2)))) (elI (ys := [13]) (el_lst (ea_cons ev_c ea_nil) (by simp)) rfl)))) ?_ fun H6 e6 => ⟨⟨⟨_, _, _, _, rfl⟩, ex5.trans e6⟩, e5.trans e6⟩
                    rw [eqv_ints, eqv_ints, r3, r4, decide_eq_true rfl]
                    decide +kernel
      · obtain ⟨⟨y3, y4, y5, y6, rfl⟩, _⟩ := w
        exact s_ret (v := .bl true) (ev_is (ev_andV (ev_eqNN (elI (el3 ev_c ev_c ev_c (by decide)) rfl) (elI (ys := []) (el_lst ea_nil (by simp)) rfl)) fun _ => (ev_andV (ev_eqNN (elI (el3 ev_c ev_c ev_c (by decide)) rfl) (elI (ys := []) (el_lst ea_nil (by simp)) rfl)) fun _ => (ev_eqNN (elI (el3 ev_c ev_c ev_c (by decide)) rfl) (elI (ys := []) (el_lst ea_nil (by simp)) rfl)))) (by decide +kernel)) fun H5 e5 => q H5

end
theorem all_mk {l : PySem.W.OpenLaw} {w : World} {K : PySem.W.Frag} {h : Heap} {mg : Str → Option Value} {fa f0 f1 f2 f3 f4 f5 f6 f7 f8 f9 : Addr} (X : K.In h) (G : h.Ns mainGlobals mg) (hfa : mg "law" = some (.ref fa))
    {od0 an0 od1 an1 od2 an2 od3 an3 od4 an4 od5 an5 od6 an6 od7 an7 od8 an8 od9 an9 : Option Addr} {sl0 sl1 sl2 sl3 sl4 sl5 sl6 sl7 sl8 sl9 : Array (Option Value)} {oc0 kV0 dc0 pm0 cd0 ct0 oc1 kV1 dc1 pm1 cd1 ct1 oc2 kV2 dc2 pm2 cd2 ct2 oc3 kV3 dc3 pm3 cd3 ct3 oc4 kV4 dc4 pm4 cd4 ct4 oc5 kV5 dc5 pm5 cd5 ct5 oc6 kV6 dc6 pm6 cd6 ct6 oc7 kV7 dc7 pm7 cd7 ct7 oc8 kV8 dc8 pm8 cd8 ct8 oc9 kV9 dc9 pm9 cd9 ct9 : Value} {t_MOST_TURNED t_CROSSED_BASE : Tok} 
    (a0 : PySem.W.nsIn K mainGlobals "is_whole" = some (some (.ref f0))) (l0 : K.lookup f0 = some ⟨oc0, od0, .func (PySem.W.fnOf "is_whole" "is_whole" (defArgs s_is_whole) (defBody s_is_whole) (defScope s_is_whole) .none kV0 dc0 pm0 an0 cd0 ct0), sl0⟩) (c0 : PySem.W.codeIn K cd0 "is_whole" = true) (k0 : PySem.W.keepIn K (.ref f0) = true)
    (a1 : PySem.W.nsIn K mainGlobals "number_from" = some (some (.ref f1))) (l1 : K.lookup f1 = some ⟨oc1, od1, .func (PySem.W.fnOf "number_from" "number_from" (defArgs s_number_from) (defBody s_number_from) (defScope s_number_from) .none kV1 dc1 pm1 an1 cd1 ct1), sl1⟩) (c1 : PySem.W.codeIn K cd1 "number_from" = true) (k1 : PySem.W.keepIn K (.ref f1) = true)
    (a2 : PySem.W.nsIn K mainGlobals "crossed" = some (some (.ref f2))) (l2 : K.lookup f2 = some ⟨oc2, od2, .func (PySem.W.fnOf "crossed" "crossed" (defArgs s_crossed) (defBody s_crossed) (defScope s_crossed) .none kV2 dc2 pm2 an2 cd2 ct2), sl2⟩) (c2 : PySem.W.codeIn K cd2 "crossed" = true) (k2 : PySem.W.keepIn K (.ref f2) = true)
    (a3 : PySem.W.nsIn K mainGlobals "_law_cell_at" = some (some (.ref f3))) (l3 : K.lookup f3 = some ⟨oc3, od3, .func (PySem.W.fnOf "_law_cell_at" "_law_cell_at" (defArgs s__law_cell_at) (defBody s__law_cell_at) (defScope s__law_cell_at) .none kV3 dc3 pm3 an3 cd3 ct3), sl3⟩) (c3 : PySem.W.codeIn K cd3 "_law_cell_at" = true) (k3 : PySem.W.keepIn K (.ref f3) = true)
    (a4 : PySem.W.nsIn K mainGlobals "_law_draw" = some (some (.ref f4))) (l4 : K.lookup f4 = some ⟨oc4, od4, .func (PySem.W.fnOf "_law_draw" "_law_draw" (defArgs s__law_draw) (defBody s__law_draw) (defScope s__law_draw) .none kV4 dc4 pm4 an4 cd4 ct4), sl4⟩) (c4 : PySem.W.codeIn K cd4 "_law_draw" = true) (k4 : PySem.W.keepIn K (.ref f4) = true)
    (a5 : PySem.W.nsIn K mainGlobals "_law_number" = some (some (.ref f5))) (l5 : K.lookup f5 = some ⟨oc5, od5, .func (PySem.W.fnOf "_law_number" "_law_number" (defArgs s__law_number) (defBody s__law_number) (defScope s__law_number) .none kV5 dc5 pm5 an5 cd5 ct5), sl5⟩) (c5 : PySem.W.codeIn K cd5 "_law_number" = true) (k5 : PySem.W.keepIn K (.ref f5) = true)
    (a6 : PySem.W.nsIn K mainGlobals "_law_figures" = some (some (.ref f6))) (l6 : K.lookup f6 = some ⟨oc6, od6, .func (PySem.W.fnOf "_law_figures" "_law_figures" (defArgs s__law_figures) (defBody s__law_figures) (defScope s__law_figures) .none kV6 dc6 pm6 an6 cd6 ct6), sl6⟩) (c6 : PySem.W.codeIn K cd6 "_law_figures" = true) (k6 : PySem.W.keepIn K (.ref f6) = true)
    (a7 : PySem.W.nsIn K mainGlobals "_law_whole" = some (some (.ref f7))) (l7 : K.lookup f7 = some ⟨oc7, od7, .func (PySem.W.fnOf "_law_whole" "_law_whole" (defArgs s__law_whole) (defBody s__law_whole) (defScope s__law_whole) .none kV7 dc7 pm7 an7 cd7 ct7), sl7⟩) (c7 : PySem.W.codeIn K cd7 "_law_whole" = true) (k7 : PySem.W.keepIn K (.ref f7) = true)
    (a8 : PySem.W.nsIn K mainGlobals "_law_power" = some (some (.ref f8))) (l8 : K.lookup f8 = some ⟨oc8, od8, .func (PySem.W.fnOf "_law_power" "_law_power" (defArgs s__law_power) (defBody s__law_power) (defScope s__law_power) .none kV8 dc8 pm8 an8 cd8 ct8), sl8⟩) (c8 : PySem.W.codeIn K cd8 "_law_power" = true) (k8 : PySem.W.keepIn K (.ref f8) = true)
    (a9 : PySem.W.nsIn K mainGlobals "law" = some (some (.ref f9))) (l9 : K.lookup f9 = some ⟨oc9, od9, .func (PySem.W.fnOf "law" "law" (defArgs s_law) (defBody s_law) (defScope s_law) .none kV9 dc9 pm9 an9 cd9 ct9), sl9⟩) (c9 : PySem.W.codeIn K cd9 "law" = true) (k9 : PySem.W.keepIn K (.ref f9) = true)
    (z_all : PySem.W.nsIn K mainGlobals "all" = some none)
    (z_bool : PySem.W.nsIn K mainGlobals "bool" = some none)
    (z_int : PySem.W.nsIn K mainGlobals "int" = some none)
    (z_isinstance : PySem.W.nsIn K mainGlobals "isinstance" = some none)
    (z_len : PySem.W.nsIn K mainGlobals "len" = some none)
    (z_list : PySem.W.nsIn K mainGlobals "list" = some none)
    (z_max : PySem.W.nsIn K mainGlobals "max" = some none)
    (z_min : PySem.W.nsIn K mainGlobals "min" = some none)
    (z_range : PySem.W.nsIn K mainGlobals "range" = some none)
    (z_sorted : PySem.W.nsIn K mainGlobals "sorted" = some none)
    (q_MOST_TURNED : PySem.W.nsIn K mainGlobals "MOST_TURNED" = some (some (.int 3 t_MOST_TURNED)))
    (q_CROSSED_BASE : PySem.W.nsIn K mainGlobals "CROSSED_BASE" = some (some (.int 12 t_CROSSED_BASE))) :
    ∃ fd : FuncData, (∀ (s : Shared) (v : Value), BindsTo s fd ⟨[v], []⟩ [("_law_script", v)]) ∧ ∀ base : Heap, K.In base → base.Ns mainGlobals mg → FnOk l.prog w K mg base CX0 3 fa fd ["_law_script"] (sp_law K) := by
  have e : fa = f9 := Value.ref.inj (Option.some.inj (hfa.symm.trans (PySem.W.mg_of X G a9)))
  rw [e]
  let T : Tx K mg := {
      a_is_whole := f0, d_is_whole := _, F_is_whole := fun_mk (st := s_is_whole) l0 c0 k0, b_is_whole := (fun_mk (st := s_is_whole) l0 c0 k0).binds (ps := ["thing"]) fun _ _ _ _ _ _ us hl => match us, hl with | [_], _ => rfl, g_is_whole := PySem.W.mg_of X G a0,
      a_number_from := f1, d_number_from := _, F_number_from := fun_mk (st := s_number_from) l1 c1 k1, b_number_from := (fun_mk (st := s_number_from) l1 c1 k1).binds (ps := ["row", "base"]) fun _ _ _ _ _ _ us hl => match us, hl with | [_, _], _ => rfl, g_number_from := PySem.W.mg_of X G a1,
      a_crossed := f2, d_crossed := _, F_crossed := fun_mk (st := s_crossed) l2 c2 k2, b_crossed := (fun_mk (st := s_crossed) l2 c2 k2).binds (ps := ["many", "one", "other"]) fun _ _ _ _ _ _ us hl => match us, hl with | [_, _, _], _ => rfl, g_crossed := PySem.W.mg_of X G a2,
      a__law_cell_at := f3, d__law_cell_at := _, F__law_cell_at := fun_mk (st := s__law_cell_at) l3 c3 k3, b__law_cell_at := (fun_mk (st := s__law_cell_at) l3 c3 k3).binds (ps := ["_law_script", "_law_k"]) fun _ _ _ _ _ _ us hl => match us, hl with | [_, _], _ => rfl, g__law_cell_at := PySem.W.mg_of X G a3,
      a__law_draw := f4, d__law_draw := _, F__law_draw := fun_mk (st := s__law_draw) l4 c4 k4, b__law_draw := (fun_mk (st := s__law_draw) l4 c4 k4).binds (ps := ["_law_cell", "_law_k", "_law_most"]) fun _ _ _ _ _ _ us hl => match us, hl with | [_, _, _], _ => rfl, g__law_draw := PySem.W.mg_of X G a4,
      a__law_number := f5, d__law_number := _, F__law_number := fun_mk (st := s__law_number) l5 c5 k5, b__law_number := (fun_mk (st := s__law_number) l5 c5 k5).binds (ps := ["_law_cell", "_law_k", "_law_limit"]) fun _ _ _ _ _ _ us hl => match us, hl with | [_, _, _], _ => rfl, g__law_number := PySem.W.mg_of X G a5,
      a__law_figures := f6, d__law_figures := _, F__law_figures := fun_mk (st := s__law_figures) l6 c6 k6, b__law_figures := (fun_mk (st := s__law_figures) l6 c6 k6).binds (ps := ["_law_number_here", "_law_base"]) fun _ _ _ _ _ _ us hl => match us, hl with | [_, _], _ => rfl, g__law_figures := PySem.W.mg_of X G a6,
      a__law_whole := f7, d__law_whole := _, F__law_whole := fun_mk (st := s__law_whole) l7 c7 k7, b__law_whole := (fun_mk (st := s__law_whole) l7 c7 k7).binds (ps := ["_law_found"]) fun _ _ _ _ _ _ us hl => match us, hl with | [_], _ => rfl, g__law_whole := PySem.W.mg_of X G a7,
      a__law_power := f8, d__law_power := _, F__law_power := fun_mk (st := s__law_power) l8 c8 k8, b__law_power := (fun_mk (st := s__law_power) l8 c8 k8).binds (ps := ["_law_base", "_law_times"]) fun _ _ _ _ _ _ us hl => match us, hl with | [_, _], _ => rfl, g__law_power := PySem.W.mg_of X G a8,
      a_law := f9, d_law := _, F_law := fun_mk (st := s_law) l9 c9 k9, b_law := (fun_mk (st := s_law) l9 c9 k9).binds (ps := ["_law_script"]) fun _ _ _ _ _ _ us hl => match us, hl with | [_], _ => rfl, g_law := PySem.W.mg_of X G a9,
      m_all := PySem.W.mg_none_of X G z_all,
      m_bool := PySem.W.mg_none_of X G z_bool,
      m_int := PySem.W.mg_none_of X G z_int,
      m_isinstance := PySem.W.mg_none_of X G z_isinstance,
      m_len := PySem.W.mg_none_of X G z_len,
      m_list := PySem.W.mg_none_of X G z_list,
      m_max := PySem.W.mg_none_of X G z_max,
      m_min := PySem.W.mg_none_of X G z_min,
      m_range := PySem.W.mg_none_of X G z_range,
      m_sorted := PySem.W.mg_none_of X G z_sorted,
      k_MOST_TURNED := t_MOST_TURNED, c_MOST_TURNED := PySem.W.mg_of X G q_MOST_TURNED,
      k_CROSSED_BASE := t_CROSSED_BASE, c_CROSSED_BASE := PySem.W.mg_of X G q_CROSSED_BASE }
  exact ⟨PySem.W.fnOf "law" "law" (defArgs s_law) (defBody s_law) (defScope s_law) .none kV9 dc9 pm9 an9 cd9 ct9, fun s v => .of_eq rfl, fun base _ _ => ok_law T⟩
end Bt
open PySem PySem.W PyProof.Rows
set_option maxHeartbeats 0 in
theorem PySem.Challenge.cw_bothread_k08_whole_crossed_holds : PySem.Challenge.rw_bothread_k08_whole_crossed.Holds := by
  w_on; o_law; k_head; (case hw => w_witness2)
  k_fill
  refine L2.walk_ofB (l := PySem.Challenge.rw_bothread_k08_whole_crossed) (n := 63) (k := 3) (x := "_law_script") (CX := fun _ => L2.CX0) (sp := fun w => Bt.sp_law _) rfl (by decide) rfl ⟨rfl, by decide, by decide⟩ (fun w h Y => PySem.W.kIn_of Y) ?F (fun _ _ a ns hl hb _ hS => ⟨a, ns, rfl, hS, fun n hn => Bt.cell_bits (hb n hn), fun _ => rfl⟩) (fun _ _ _ _ _ h => h)
  case F =>
    intro w mg fa h KX G hmg
    refine' Bt.all_mk KX G hmg ?a0 ?l0 ?c0 ?k0 ?a1 ?l1 ?c1 ?k1 ?a2 ?l2 ?c2 ?k2 ?a3 ?l3 ?c3 ?k3 ?a4 ?l4 ?c4 ?k4 ?a5 ?l5 ?c5 ?k5 ?a6 ?l6 ?c6 ?k6 ?a7 ?l7 ?c7 ?k7 ?a8 ?l8 ?c8 ?k8 ?a9 ?l9 ?c9 ?k9 ?z_all ?z_bool ?z_int ?z_isinstance ?z_len ?z_list ?z_max ?z_min ?z_range ?z_sorted ?q_MOST_TURNED ?q_CROSSED_BASE
    (case a0 => k_is)
    (case l0 => k_is)
    (case c0 => k_is)
    (case k0 => k_is)
    (case a1 => k_is)
    (case l1 => k_is)
    (case c1 => k_is)
    (case k1 => k_is)
    (case a2 => k_is)
    (case l2 => k_is)
    (case c2 => k_is)
    (case k2 => k_is)
    (case a3 => k_is)
    (case l3 => k_is)
    (case c3 => k_is)
    (case k3 => k_is)
    (case a4 => k_is)
    (case l4 => k_is)
    (case c4 => k_is)
    (case k4 => k_is)
    (case a5 => k_is)
    (case l5 => k_is)
    (case c5 => k_is)
    (case k5 => k_is)
    (case a6 => k_is)
    (case l6 => k_is)
    (case c6 => k_is)
    (case k6 => k_is)
    (case a7 => k_is)
    (case l7 => k_is)
    (case c7 => k_is)
    (case k7 => k_is)
    (case a8 => k_is)
    (case l8 => k_is)
    (case c8 => k_is)
    (case k8 => k_is)
    (case a9 => k_is)
    (case l9 => k_is)
    (case c9 => k_is)
    (case k9 => k_is)
    (case z_all => k_is)
    (case z_bool => k_is)
    (case z_int => k_is)
    (case z_isinstance => k_is)
    (case z_len => k_is)
    (case z_list => k_is)
    (case z_max => k_is)
    (case z_min => k_is)
    (case z_range => k_is)
    (case z_sorted => k_is)
    (case q_MOST_TURNED => k_is)
    (case q_CROSSED_BASE => k_is)
